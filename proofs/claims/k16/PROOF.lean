import PyProof.Rows.All
import Wide.All
import OpenK.AllK
import Wide.FinOn
import HandS.ForMost
import HandS.Deep
import HandS.Wide
import HandS.Flow
import HandS.Style
import HandS.TupAny
import HandS.TupMul
import HandS.IsInst
import HandS.NoneIn
import HandS.SortKw
import KE.DataMinMax
import HandS.Codes
import HandS.Iter
import KE.GoesMore
import PyProof.Draws
import PyProof.EnumMake
import HandS.Zip
import HandS.Walk
import HandS.Rev
import HandS.Defaults
import HandS.More
import HandS.Head3
import HandS.FStr
import HandS.Head0
import HandS.Head1
import HandS.Head2
import HandS.HeadEnd
import HandS.HeadHook1
import HandS.HeadHook2
import PySem.Challenge.RW_fitfirst_k16_written
set_option Elab.async false
set_option linter.all false
set_option maxRecDepth 100000
/-! EV: a small deterministic evaluator over pure values. -/
namespace FF
open PySem (Str PyData sizeLine)

inductive PV where
  | non | bl (b : Bool) | int (i : Int) | str (x : List Nat)
  | tup (xs : List PV) | lst (xs : List PV) | dct (ks vs : List PV) | obj (c : Nat) (ks : List Nat) (vs : List PV)
  | fn (g : Nat) | ref (n : Nat)
  deriving Inhabited

mutual
def beqV : PV → PV → Bool
  | .non, .non => true
  | .bl a, .bl b => a == b
  | .int a, .int b => a == b
  | .str a, .str b => a == b
  | .tup a, .tup b => beqVs a b
  | .lst a, .lst b => beqVs a b
  | .dct a b, .dct c d => beqVs a c && beqVs b d
  | .obj c a b, .obj d e f => c == d && (a == e && beqVs b f)
  | .fn a, .fn b => a == b
  | .ref a, .ref b => a == b
  | _, _ => false
def beqVs : List PV → List PV → Bool
  | [], [] => true
  | a :: as, b :: bs => beqV a b && beqVs as bs
  | _, _ => false
end
mutual
theorem beqV_eq : ∀ a b : PV, beqV a b = true ↔ a = b
  | .non, b => by cases b <;> simp [beqV]
  | .bl a, b => by cases b <;> simp [beqV]
  | .int a, b => by cases b <;> simp [beqV]
  | .str a, b => by cases b <;> simp [beqV]
  | .tup a, b => by cases b <;> simp [beqV, beqVs_eq a]
  | .lst a, b => by cases b <;> simp [beqV, beqVs_eq a]
  | .dct a a', b => by cases b <;> simp [beqV, beqVs_eq a, beqVs_eq a']
  | .obj c a a', b => by cases b <;> simp [beqV, beqVs_eq a']
  | .fn a, b => by cases b <;> simp [beqV]
  | .ref a, b => by cases b <;> simp [beqV]
theorem beqVs_eq : ∀ a b : List PV, beqVs a b = true ↔ a = b
  | [], b => by cases b <;> simp [beqVs]
  | x :: xs, b => by cases b <;> simp [beqVs, beqV_eq x, beqVs_eq xs]
end
instance : DecidableEq PV := fun a b => if h : beqV a b = true then .isTrue ((beqV_eq a b).mp h) else .isFalse fun e => h ((beqV_eq a b).mpr e)

abbrev Env := List (Option PV)
abbrev Store := List PV
inductive Res (α : Type) where
  | ok (a : α) (S : Store) | exc (x : PV) (S : Store) | bad
def Res.bind {α β : Type} : Res α → (α → Store → Res β) → Res β
  | .ok a S, f => f a S
  | .exc x S, _ => .exc x S
  | .bad, _ => .bad

mutual
/-- all refs lie below -/
def low (n : Nat) : PV → Bool
  | .ref m => decide (m < n)
  | .tup xs => lows n xs
  | .lst xs => lows n xs
  | .dct ks vs => lows n ks && lows n vs
  | .obj _ _ vs => lows n vs
  | _ => true
def lows (n : Nat) : List PV → Bool
  | [] => true
  | x :: xs => low n x && lows n xs
end

/-- what stands behind a reference -/
def view (S : Store) : PV → PV
  | .ref n => (S[n]?).getD (.ref n)
  | v => v

mutual
/-- plain data -/
def toD : PV → Option PyData
  | .non => some .none
  | .bl b => some (.bool b)
  | .int i => some (.int i)
  | .str x => some (.str ⟨x.toArray⟩)
  | .tup xs => (toDs xs).map .tuple
  | .lst xs => (toDs xs).map .list
  | _ => none
def toDs : List PV → Option (List PyData)
  | [] => some []
  | x :: xs => match toD x, toDs xs with
    | some d, some ds => some (d :: ds)
    | _, _ => none
end
def shp (v : PV) : Option PyData := match toD v with
  | some d => if PySem.SeqAt.shaped d then some d else none
  | none => none
/-- lists that are not equally long -/
def neLen : PV → PV → Option Bool
  | .lst xs, .lst ys => if xs.length = ys.length then none else some false
  | _, _ => none
/-- == -/
def eqV (a b : PV) : Option Bool := match shp a, shp b with
  | some d, some e => some (PyData.eqv d e)
  | _, _ => neLen a b

inductive BOp where | add | sub | mul | fdiv | mod | pow
inductive COp where | eq | ne | lt | le | gt | ge | isin | notin | is_ | isnot
/-- how a new object is kept: by value, by reference, as the callee left it -/
inductive Md where | val | ref | keep | chg
inductive BFn where
  | len | abs | max2 | min2 | all | any | sum | tuple | list | dict | str | int | lenset | sortedset | sorted
inductive BMt where
  | append | extend | pop | popat | insert | clear | reverse | index | count | get1 | get2 | setdefault | update | join | lower | upper
inductive SrcK where | val | range1 | range2 | enum | zip | items | values | reversed
inductive CT where | one (i : Nat) | many (is : List Nat)
inductive TyR where | bty (n : String) | cls (g : Nat)

inductive E where
  | nev
  | var (i : Nat)
  | con (v : PV)
  | glo (g : Nat)
  | tup (es : List E)
  | lst (m : Bool) (es : List E)
  | dct (m : Bool) (es : List E)
  | bin (o : BOp) (a b : E)
  | neg (a : E)
  | not (a : E)
  | and (es : List E)
  | or (es : List E)
  | cmp (o : COp) (a b : E)
  | chain (o p : COp) (a b c : E)
  | ife (c a b : E)
  | call (m : Md) (g : Nat) (es : List E)
  | blt (m : Bool) (b : BFn) (es : List E)
  | isi (a : E) (ts : List TyR)
  | meth (m : Md) (o : E) (x : Nat) (es : List E)
  | bm (b : BMt) (o : E) (es : List E)
  | fld (o : E) (x : Nat)
  | idx (o i : E)
  | slc (m : Bool) (lo hi : Bool) (o a b : E)
  | rev (m : Bool) (o : E)
  | comp (m : Bool) (t : CT) (k : SrcK) (es : List E) (cs : List E) (e : E)
  | lsrc (m : Bool) (k : SrcK) (es : List E)
  | maxd (a : E) (k : Int)
  | cat (a b : E)
  | fmt (a : E)
  | fstr (es : List E)

/-! ### values -/
def cap : Nat := 16777216
def okI (n : Nat) : Bool := decide (n ≤ cap)
def vadd : PV → PV → Option PV
  | .int a, .int b => some (.int (a + b))
  | .str a, .str b => if okI (a.length + b.length) then some (.str (a ++ b)) else none
  | .lst a, .lst b => if okI (a.length + b.length) then some (.lst (a ++ b)) else none
  | .tup a, .tup b => if okI (a.length + b.length) then some (.tup (a ++ b)) else none
  | _, _ => none
def reps {α : Type} (a : List α) (b : Int) : Option (List α) := if decide (0 ≤ b) && decide (b ≤ cap) && okI (a.length * b.toNat) then some (List.replicate b.toNat a).flatten else none
def vmul : PV → PV → Option PV
  | .int a, .int b => if decide (a.natAbs < 2 ^ 64) || decide (b.natAbs < 2 ^ 64) then some (.int (a * b)) else none
  | .lst a, .int b => (reps a b).map .lst
  | .str a, .int b => (reps a b).map .str
  | .tup a, .int b => if decide (a ≠ []) && decide (2 ≤ b) && decide (b ≤ 1000) && decide (a.length ≤ 1000) then some (.tup (List.replicate b.toNat a).flatten) else none
  | _, _ => none
def vbin : BOp → PV → PV → Option PV
  | .add, a, b => vadd a b
  | .mul, a, b => vmul a b
  | .sub, .int a, .int b => some (.int (a - b))
  | .fdiv, .int a, .int b => if decide (0 < b) && decide (b < 1073741824) then some (.int (a / b)) else none
  | .mod, .int a, .int b => if decide (0 < b) then some (.int (a % b)) else none
  | .pow, .int a, .int b => if decide (0 ≤ b) && decide (b ≤ 1000000) && decide (a.natAbs < 2 ^ 64) then some (.int (a ^ b.toNat)) else none
  | _, _, _ => none
/-- truth -/
def truth (S : Store) (v : PV) : Option Bool := match view S v with
  | .non => some false
  | .bl b => some b
  | .int i => some (i != 0)
  | .str x => if okI x.length then some (!x.isEmpty) else none
  | .tup xs => some (!xs.isEmpty)
  | .lst xs => some (!xs.isEmpty)
  | _ => none
/-- a text within another one -/
def within (x y : List Nat) : Bool := !(PySem.Builtin.Str.occurrences ⟨y.toArray⟩ ⟨x.toArray⟩ 0 (⟨y.toArray⟩ : Str).length 1).isEmpty
def anyEq (d : Option PyData) (c : Option PyData) : Option Bool := match d, c with
  | some d, some (.list ds) => some (ds.any fun z => PyData.eqv z d)
  | some d, some (.tuple ds) => some (ds.any fun z => PyData.eqv z d)
  | _, _ => none
def vin (S : Store) (a b : PV) : Option Bool := match view S b with
  | .str y => (match a with
    | .str x => some (within x y)
    | _ => none)
  | .lst ys => anyEq (shp (view S a)) (shp (.lst ys))
  | .tup ys => anyEq (shp (view S a)) (shp (.tup ys))
  | _ => none
/-- order of texts -/
def ltS (a b : List Nat) : Bool := decide (a < b)
def vord (f : Int → Int → Bool) : PV → PV → Option Bool
  | .int i, .int j => some (f i j)
  | _, _ => none
def visn (a : PV) : PV → Option Bool
  | .non => some (decide (a = .non))
  | .bl k => (match a with
    | .bl j => some (decide (j = k))
    | _ => none)
  | _ => none
def vlt : PV → PV → Option Bool
  | .int i, .int j => some (decide (i < j))
  | .str i, .str j => some (ltS i j)
  | _, _ => none
def vcmp (S : Store) (o : COp) (a b : PV) : Option Bool := match o with
  | .eq => eqV (view S a) (view S b)
  | .ne => (eqV (view S a) (view S b)).map (!·)
  | .lt => vlt a b
  | .le => vord (fun i j => decide (i ≤ j)) a b
  | .gt => vord (fun i j => decide (j < i)) a b
  | .ge => vord (fun i j => decide (j ≤ i)) a b
  | .isin => vin S a b
  | .notin => (vin S a b).map (!·)
  | .is_ => visn a b
  | .isnot => (visn a b).map (!·)
def assoc (k : PV) : List PV → List PV → Option PV
  | x :: xs, v :: vs => if x = k then some v else assoc k xs vs
  | _, _ => none
def putD (k v : PV) (ks vs : List PV) : List PV × List PV :=
  if ks.any fun x => decide (x = k) then (ks, List.zipWith (fun x w => if x = k then v else w) ks vs) else (ks ++ [k], vs ++ [v])
def fget (x : Nat) : List Nat → List PV → Option PV
  | y :: ys, v :: vs => if y = x then some v else fget x ys vs
  | _, _ => none
def fput (x : Nat) (v : PV) : List Nat → List PV → List Nat × List PV
  | y :: ys, w :: ws => if y = x then (y :: ys, v :: ws) else (y :: (fput x v ys ws).1, w :: (fput x v ys ws).2)
  | ys, ws => (ys ++ [x], ws ++ [v])
/-- scalars and tuples of them may be keys -/
def skey : PV → Bool
  | .int _ => true
  | .str _ => true
  | _ => false
def tkey : PV → Bool
  | .tup xs => xs.all skey
  | _ => false
/-- keys of one sort -/
def keysOk (ks : List PV) : Bool := ks.all skey || ks.all tkey
def cut {α : Type} (xs : List α) (lo hi : Option Int) : List α := (xs.drop (HT.sIx xs.length 0 lo)).take (HT.sIx xs.length xs.length hi - HT.sIx xs.length 0 lo)
def vidx (S : Store) (o i : PV) : Option PV := match view S o with
  | .str x => (match i with
    | .int k => if okI x.length then (L2.atI x k).map fun c => .str [c] else none
    | _ => none)
  | .tup xs => (match i with
    | .int k => L2.atI xs k
    | _ => none)
  | .lst xs => (match i with
    | .int k => L2.atI xs k
    | _ => none)
  | .dct ks vs => if ks.all skey && skey i then assoc i ks vs else none
  | _ => none
def optI (b : Bool) (v : PV) : Option (Option Int) := match b, v with
  | false, _ => some none
  | true, .int i => some (some i)
  | _, _ => none
def vslc (S : Store) (o : PV) (lo hi : Option Int) : Option PV := match view S o with
  | .str x => if okI x.length then some (.str (cut x lo hi)) else none
  | .tup xs => some (.tup (cut xs lo hi))
  | .lst xs => some (.lst (cut xs lo hi))
  | _ => none
def vrev (S : Store) (o : PV) : Option PV := match view S o with
  | .lst xs => some (.lst xs.reverse)
  | _ => none

/-! ### what is walked -/
abbrev Guard := List (Nat × PV)
def guardOf (S : Store) : PV → Guard
  | .ref n => (match S[n]? with
    | some o => [(n, o)]
    | none => [])
  | _ => []
def intact (g : Guard) (S : Store) : Bool := g.all fun p => decide (S[p.1]? = some p.2)
def seqOf (S : Store) (v : PV) : Option (List PV) := match view S v with
  | .tup xs => some xs
  | .lst xs => some xs
  | _ => none
def iters (S : Store) (v : PV) : Option (List PV) := match view S v with
  | .tup xs => some xs
  | .lst xs => some xs
  | .str x => if okI x.length then some (x.map fun c => .str [c]) else none
  | _ => none
def okB (i : Int) : Bool := decide (-(2 ^ 62) ≤ i) && decide (i < 2 ^ 62)
def zipT : List PV → List PV → List PV
  | a :: as, b :: bs => .tup [a, b] :: zipT as bs
  | _, _ => []
def enumT : Nat → List PV → List PV
  | _, [] => []
  | i, x :: xs => .tup [.int i, x] :: enumT (i + 1) xs
def ranged (lo : Int) (n : Nat) : List PV := (List.range n).map fun (i : Nat) => .int (lo + i)
def walk (S : Store) : SrcK → List PV → Option (List PV × Guard)
  | .val, [v] => (iters S v).map fun xs => (xs, guardOf S v)
  | .range1, [.int j] => if okB j then some (ranged 0 j.toNat, []) else none
  | .range2, [.int i, .int j] => if okB i && okB j then some (ranged i (j - i).toNat, []) else none
  | .enum, [v] => (match view S v with
    | .lst xs => some (enumT 0 xs, guardOf S v)
    | .tup xs => some (enumT 0 xs, guardOf S v)
    | _ => none)
  | .zip, [v, w] => (match view S v, view S w with
    | .lst xs, .lst ys => some (zipT xs ys, guardOf S v ++ guardOf S w)
    | .tup xs, .tup ys => some (zipT xs ys, guardOf S v ++ guardOf S w)
    | _, _ => none)
  | .items, [v] => (match view S v with
    | .dct ks vs => some (zipT ks vs, guardOf S v)
    | _ => none)
  | .values, [v] => (match view S v with
    | .dct _ vs => some (vs, guardOf S v)
    | _ => none)
  | .reversed, [v] => (seqOf S v).map fun xs => (xs.reverse, guardOf S v)
  | _, _ => none
def setAll : List Nat → List PV → Env → Option Env
  | [], [], ρ => some ρ
  | i :: is, x :: xs, ρ => setAll is xs (ρ.set i (some x))
  | _, _, _ => none
def bindT (S : Store) : CT → PV → Env → Option Env
  | .one i, x, ρ => some (ρ.set i (some x))
  | .many is, x, ρ => (match view S x with
    | .tup xs => setAll is xs ρ
    | .lst xs => setAll is xs ρ
    | _ => none)
def own : CT → List Nat
  | .one i => [i]
  | .many is => is
def wipeE (ρ : Env) : List Nat → Env
  | [] => ρ
  | v :: vs => (wipeE ρ vs).set v none
/-- a comprehension's turns -/
def compL (g : Guard) (t : CT) (c : Env → Store → Res PV) (e : Env → Store → Res PV) (ρ : Env) : List PV → List PV → Store → Res (List PV)
  | [], acc, S => if intact g S then .ok acc S else .bad
  | x :: xs, acc, S => if intact g S then (match bindT S t x ρ with
    | some ρ' => (c ρ' S).bind fun b S1 => (match b with
      | .bl true => (e ρ' S1).bind fun y S2 => if okI (acc.length + 1) then compL g t c e ρ xs (acc ++ [y]) S2 else .bad
      | .bl false => compL g t c e ρ xs acc S1
      | _ => .bad)
    | none => .bad) else .bad
def opt {α : Type} (S : Store) : Option α → Res α
  | some a => .ok a S
  | none => .bad
/-- a new object -/
def alloc (m : Bool) (v : PV) (S : Store) : Res PV := if m then .ok (.ref S.length) (S ++ [v]) else .ok v S

/-! ### what a callee left -/
def mapO {α β : Type} (f : α → Option β) : List α → Option (List β)
  | [] => some []
  | x :: xs => (match f x with
    | some y => (mapO f xs).map (y :: ·)
    | none => none)
/-- by value what stands from n on -/
def frz (n : Nat) (S : Store) : Nat → PV → Option PV
  | 0, v => if low n v then some v else none
  | k + 1, v => if low n v then some v else (match v with
    | .ref m => (match S[m]? with
      | some o => frz n S k o
      | none => none)
    | .tup xs => (mapO (frz n S k) xs).map .tup
    | .lst xs => (mapO (frz n S k) xs).map .lst
    | .dct ks vs => if lows n ks then (mapO (frz n S k) vs).map (.dct ks) else none
    | .obj c ks vs => (mapO (frz n S k) vs).map (.obj c ks)
    | v => some v)
/-- a node's turn -/
def frzN (n : Nat) (S2 : Store) (k : Nat) : PV → Option PV
  | .ref m => (match S2[m]? with
    | some o => frz n S2 k o
    | none => none)
  | .tup xs => (mapO (frz n S2 k) xs).map .tup
  | .lst xs => (mapO (frz n S2 k) xs).map .lst
  | .dct ks vs => if lows n ks then (mapO (frz n S2 k) vs).map (.dct ks) else none
  | .obj c ks vs => (mapO (frz n S2 k) vs).map (.obj c ks)
  | v => some v
/-- what stands in a cell, new things in it by value -/
def frzC (n : Nat) (S1 : Store) (o : PV) : Option PV := if low n o then some o else frzN n S1 8 o
/-- behind a call: S ahead of it, v and S1 what it left -/
def settle : Md → Store → PV → Store → Res PV
  | .keep, _, v, S1 => .ok v S1
  | .val, S, v, S1 => if S1.take S.length = S then opt S (frz S.length S1 8 v) else .bad
  | .ref, S, v, S1 => if S1.take S.length = S then (match v with
    | .ref n => if n < S.length then .bad else (match S1[n]? with
      | some o => if low S.length o then .ok (.ref S.length) (S ++ [o]) else .bad
      | none => .bad)
    | _ => .bad) else .bad
  | .chg, S, v, S1 => if decide (S.length ≤ S1.length) then (match mapO (frzC S.length S1) (S1.take S.length), frz S.length S1 8 v with
    | some S', some r => .ok r S'
    | _, _ => .bad) else .bad

/-! ### built-ins -/
def asInts : List PV → Option (List Int)
  | [] => some []
  | .int i :: xs => (asInts xs).map (i :: ·)
  | _ :: _ => none
def asStrs : List PV → Option (List (List Nat))
  | [] => some []
  | .str i :: xs => (asStrs xs).map (i :: ·)
  | _ :: _ => none
def bools : List PV → Option (List Bool)
  | [] => some []
  | .bl i :: xs => (bools xs).map (i :: ·)
  | _ :: _ => none
def vlen (S : Store) (v : PV) : Option Nat := match view S v with
  | .str x => if okI x.length then some x.length else none
  | .tup xs => some xs.length
  | .lst xs => some xs.length
  | _ => none
def chars (s : String) : List Nat := s.toList.map (·.toNat)
def bLen (S : Store) : List PV → Option (PV × Bool)
  | [v] => (vlen S v).map fun (n : Nat) => (.int (n : Int), false)
  | _ => none
def bAbs : List PV → Option (PV × Bool)
  | [.int i] => some (.int (if i < 0 then -i else i), false)
  | _ => none
def bMax2 : List PV → Option (PV × Bool)
  | [.int i, .int j] => some (.int (if j > i then j else i), false)
  | _ => none
def bMin2 : List PV → Option (PV × Bool)
  | [.int i, .int j] => some (.int (if j < i then j else i), false)
  | _ => none
def bAll (S : Store) : List PV → Option (PV × Bool)
  | [v] => (match view S v with
    | .lst xs => (bools xs).map fun bs => (.bl (bs.all id), false)
    | _ => none)
  | _ => none
def bAny (S : Store) : List PV → Option (PV × Bool)
  | [v] => (match view S v with
    | .lst xs => (bools xs).map fun bs => (.bl (bs.any id), false)
    | _ => none)
  | _ => none
def bSum (S : Store) : List PV → Option (PV × Bool)
  | [v] => (match view S v with
    | .lst xs => (asInts xs).map fun is => (.int is.sum, false)
    | _ => none)
  | _ => none
def bTuple (S : Store) : List PV → Option (PV × Bool)
  | [v] => (seqOf S v).map fun xs => (.tup xs, false)
  | _ => none
def bList (S : Store) : List PV → Option (PV × Bool)
  | [v] => (seqOf S v).map fun xs => (.lst xs, true)
  | _ => none
def bStr : List PV → Option (PV × Bool)
  | [.int i] => if decide (i.natAbs.log2 < 1920) then some (.str (chars (toString i)), false) else none
  | _ => none
def bInt : List PV → Option (PV × Bool)
  | [.int i] => some (.int i, false)
  | [.bl b] => some (.int (if b then 1 else 0), false)
  | _ => none
/-- max(.., default=) -/
def maxI (n : Int) (ns : List Int) : Int := ns.foldl (fun a y => if a < y then y else a) n
def maxO (k : Int) : List Int → Int
  | [] => k
  | n :: ns => maxI n ns
/-- pairs of keys and values -/
def pairsOf : List PV → Option (List PV × List PV)
  | [] => some ([], [])
  | .tup [k, v] :: r => (pairsOf r).map fun p => (k :: p.1, v :: p.2)
  | _ :: _ => none
def mergeD : List PV → List PV → List PV × List PV → List PV × List PV
  | k :: ks, v :: vs, a => mergeD ks vs (putD k v a.1 a.2)
  | _, _, a => a
def bDict (S : Store) : List PV → Option (PV × Bool)
  | [v] => (match view S v with
    | .lst xs => (match pairsOf xs with
      | some (ks, vs) => if ks.all skey && okI xs.length then some (.dct (mergeD ks vs ([], [])).1 (mergeD ks vs ([], [])).2, true) else none
      | none => none)
    | _ => none)
  | _ => none
/-- (the value, whether it is new) -/
def bfn (S : Store) (b : BFn) (ps : List PV) : Option (PV × Bool) := match b with
  | .len => bLen S ps
  | .abs => bAbs ps
  | .max2 => bMax2 ps
  | .min2 => bMin2 ps
  | .all => bAll S ps
  | .any => bAny S ps
  | .sum => bSum S ps
  | .tuple => bTuple S ps
  | .list => bList S ps
  | .str => bStr ps
  | .int => bInt ps
  | .dict => bDict S ps
  | _ => none
def setS (S : Store) (n : Nat) (v : PV) : Store := S.set n v
def refList (S : Store) : PV → Option (Nat × List PV)
  | .ref n => (match S[n]? with
    | some (.lst xs) => some (n, xs)
    | _ => none)
  | _ => none
def refDict (S : Store) : PV → Option (Nat × List PV × List PV)
  | .ref n => (match S[n]? with
    | some (.dct ks vs) => some (n, ks, vs)
    | _ => none)
  | _ => none
def mAppend (S : Store) (v : PV) : List PV → Res PV
  | [x] => (match refList S v with
    | some (n, xs) => if okI (xs.length + 1) then .ok .non (setS S n (.lst (xs ++ [x]))) else .bad
    | none => .bad)
  | _ => .bad
def mExtend (S : Store) (v : PV) : List PV → Res PV
  | [w] => (match refList S v with
    | some (n, xs) => (match view S w with
      | .lst ys => if okI (xs.length + ys.length) then .ok .non (setS S n (.lst (xs ++ ys))) else .bad
      | _ => .bad)
    | none => .bad)
  | _ => .bad
def mPop (S : Store) (v : PV) : List PV → Res PV
  | [] => (match refList S v with
    | some (n, xs) => (match xs.getLast? with
      | some x => .ok x (setS S n (.lst xs.dropLast))
      | none => .bad)
    | none => .bad)
  | _ => .bad
def mClear (S : Store) (v : PV) : List PV → Res PV
  | [] => (match refList S v with
    | some (n, _) => .ok .non (setS S n (.lst []))
    | none => .bad)
  | _ => .bad
def mReverse (S : Store) (v : PV) : List PV → Res PV
  | [] => (match refList S v with
    | some (n, xs) => .ok .non (setS S n (.lst xs.reverse))
    | none => .bad)
  | _ => .bad
def mJoin (S : Store) (v : PV) : List PV → Res PV
  | [w] => (match v, view S w with
    | .str sep, .lst xs => (match asStrs xs with
      | some ts => if okI ((ts.map (·.length)).sum + ts.length * sep.length) then .ok (.str (TL.joinL sep ts)) S else .bad
      | none => .bad)
    | _, _ => .bad)
  | _ => .bad
/-- an ASCII text in great or small letters -/
def mCase (f : Nat → Nat) (S : Store) (v : PV) : List PV → Res PV
  | [] => (match v with
    | .str x => if (x.all fun c => decide (c < 128)) && decide (x.length ≤ 5000000) then .ok (.str (x.map f)) S else .bad
    | _ => .bad)
  | _ => .bad
def bmt (S : Store) (b : BMt) (v : PV) (ps : List PV) : Res PV := match b with
  | .append => mAppend S v ps
  | .extend => mExtend S v ps
  | .pop => mPop S v ps
  | .clear => mClear S v ps
  | .reverse => mReverse S v ps
  | .join => mJoin S v ps
  | .upper => mCase PyProof.Rows.up1 S v ps
  | .lower => mCase PyProof.Rows.lo1 S v ps
  | _ => .bad

/-- whose method it is -/
def bmK (S : Store) (b : BMt) (v : PV) : Bool := match b with
  | .join => (match v with
    | .str _ => true
    | _ => false)
  | .lower => (match v with
    | .str _ => true
    | _ => false)
  | .upper => (match v with
    | .str _ => true
    | _ => false)
  | .append => isLst (view S v)
  | .extend => isLst (view S v)
  | .pop => isLst (view S v)
  | .popat => isLst (view S v)
  | .insert => isLst (view S v)
  | .clear => isLst (view S v)
  | .reverse => isLst (view S v)
  | .index => isLst (view S v)
  | .count => isLst (view S v)
  | _ => isDct (view S v)
where
  isLst : PV → Bool
    | .lst _ => true
    | _ => false
  isDct : PV → Bool
    | .dct _ _ => true
    | _ => false

/-! ### isinstance -/
/-- one class's answer; anc c d: c is d or stands under it -/
def isOne (anc : Nat → Nat → Bool) : PV → TyR → Bool
  | .bl _, .bty n => n == "bool" || n == "int"
  | .int _, .bty n => n == "int"
  | .str _, .bty n => n == "str"
  | .tup _, .bty n => n == "tuple"
  | .lst _, .bty n => n == "list"
  | .dct _ _, .bty n => n == "dict"
  | .obj c _ _, .cls g => anc c g
  | _, _ => false
/-- of which things it may be asked -/
def isKnown (ini : Nat → Option (Option Nat)) : PV → Bool
  | .fn _ => false
  | .ref _ => false
  | .obj c _ _ => (ini c).isSome
  | _ => true
def tOk (ini : Nat → Option (Option Nat)) : TyR → Bool
  | .bty n => n == "bool" || n == "int" || n == "str" || n == "tuple" || n == "list" || n == "dict"
  | .cls c => (ini c).isSome
/-- a display's pairs -/
def dctOf : List PV → List PV → List PV → List PV × List PV
  | k :: v :: r, ks0, vs0 => dctOf r (putD k v ks0 vs0).1 (putD k v ks0 vs0).2
  | _, ks0, vs0 => (ks0, vs0)
def evens : List PV → List PV
  | k :: _ :: r => k :: evens r
  | _ => []

/-! ### the program -/
inductive GK where | fn (f : Nat) | cls (c : Nat) | con (v : PV)
/-- what an expression asks of the program around: a def's run, the globals, classes (their __init__, if any; their methods; whether one stands under another) -/
structure Env2 where
  call : Nat → List PV → Store → Res PV
  init : Nat → List PV → Store → Res PV
  glob : Nat → Option GK
  ini : Nat → Option (Option Nat)
  meth : Nat → Nat → Option Nat
  anc : Nat → Nat → Bool
/-- C(..): a new instance, its __init__ -/
def make (Γ : Env2) (c : Nat) (vs : List PV) (S : Store) : Res PV := match Γ.ini c with
  | some (some f) => (Γ.init f (.ref S.length :: vs) (S ++ [.obj c [] []])).bind fun v S1 => (match v with
    | .non => .ok (.ref S.length) S1
    | _ => .bad)
  | some none => (match vs with
    | [] => .ok (.ref S.length) (S ++ [.obj c [] []])
    | _ => .bad)
  | none => .bad
def gval (g : Nat) : GK → PV
  | .con v => v
  | _ => .fn g

mutual
def denE (Γ : Env2) : E → Env → Store → Res PV
  | .nev, _, _ => .bad
  | .var i, ρ, S => (match ρ[i]? with
    | some (some v) => .ok v S
    | _ => .bad)
  | .con v, _, S => .ok v S
  | .glo g, _, S => opt S ((Γ.glob g).map (gval g))
  | .tup es, ρ, S => (denEs Γ es ρ S).bind fun vs S1 => if okI vs.length then .ok (.tup vs) S1 else .bad
  | .lst m es, ρ, S => (denEs Γ es ρ S).bind fun vs S1 => if okI vs.length then alloc m (.lst vs) S1 else .bad
  | .dct m es, ρ, S => (denEs Γ es ρ S).bind fun ps S1 => if keysOk (evens ps) && decide (ps.length ≤ 30) then alloc m (.dct (dctOf ps [] []).1 (dctOf ps [] []).2) S1 else .bad
  | .bin o a b, ρ, S => (denE Γ a ρ S).bind fun x S1 => (denE Γ b ρ S1).bind fun y S2 => opt S2 (vbin o (view S2 x) (view S2 y))
  | .neg a, ρ, S => (denE Γ a ρ S).bind fun x S1 => (match x with
    | .int i => .ok (.int (-i)) S1
    | _ => .bad)
  | .not a, ρ, S => (denE Γ a ρ S).bind fun x S1 => (match truth S1 x with
    | some b => .ok (.bl (!b)) S1
    | none => .bad)
  | .and es, ρ, S => denAnd Γ es ρ S
  | .or es, ρ, S => denOr Γ es ρ S
  | .cmp o a b, ρ, S => (denE Γ a ρ S).bind fun x S1 => (denE Γ b ρ S1).bind fun y S2 => opt S2 ((vcmp S2 o x y).map .bl)
  | .chain o p a b c, ρ, S => (denE Γ a ρ S).bind fun x S1 => (denE Γ b ρ S1).bind fun y S2 => (match vcmp S2 o x y with
    | some true => (denE Γ c ρ S2).bind fun z S3 => opt S3 ((vcmp S3 p y z).map .bl)
    | some false => .ok (.bl false) S2
    | none => .bad)
  | .ife c a b, ρ, S => (denE Γ c ρ S).bind fun x S1 => (match truth S1 x with
    | some true => denE Γ a ρ S1
    | some false => denE Γ b ρ S1
    | none => .bad)
  | .call m g es, ρ, S => (denEs Γ es ρ S).bind fun vs S1 => (match Γ.glob g with
    | some (.fn f) => (Γ.call f vs S1).bind fun v S2 => settle m S1 v S2
    | some (.cls c) => (make Γ c vs S1).bind fun v S2 => settle m S1 v S2
    | _ => .bad)
  | .blt m b es, ρ, S => (denEs Γ es ρ S).bind fun vs S1 => (match bfn S1 b vs with
    | some (v, true) => alloc m v S1
    | some (v, false) => .ok v S1
    | none => .bad)
  | .isi a ts, ρ, S => (denE Γ a ρ S).bind fun x S1 => if isKnown Γ.ini (view S1 x) && ts.all (tOk Γ.ini) then .ok (.bl (ts.any fun t => isOne Γ.anc (view S1 x) t)) S1 else .bad
  | .meth m o x es, ρ, S => (denE Γ o ρ S).bind fun v S1 => (match view S1 v with
    | .obj c ks _ => if ks.contains x then .bad else (match Γ.meth c x with
      | some g => (denEs Γ es ρ S1).bind fun vs S2 => (Γ.call g (v :: vs) S2).bind fun r S3 => settle m S2 r S3
      | none => .bad)
    | _ => .bad)
  | .bm b o es, ρ, S => (denE Γ o ρ S).bind fun v S1 => if bmK S1 b v then (denEs Γ es ρ S1).bind fun vs S2 => bmt S2 b v vs else .bad
  | .fld o x, ρ, S => (denE Γ o ρ S).bind fun v S1 => (match view S1 v with
    | .obj _ ks vs => opt S1 (fget x ks vs)
    | _ => .bad)
  | .idx o i, ρ, S => (denE Γ o ρ S).bind fun v S1 => (denE Γ i ρ S1).bind fun w S2 => opt S2 (vidx S2 v w)
  | .slc m lo hi o a b, ρ, S => (denE Γ o ρ S).bind fun v S1 => (if lo then denE Γ a ρ S1 else .ok .non S1).bind fun x S2 => (if hi then denE Γ b ρ S2 else .ok .non S2).bind fun y S3 => (match optI lo x, optI hi y with
    | some l, some h => (match vslc S3 v l h with
      | some (.lst xs) => alloc m (.lst xs) S3
      | some r => .ok r S3
      | none => .bad)
    | _, _ => .bad)
  | .rev m o, ρ, S => (denE Γ o ρ S).bind fun v S1 => (match vrev S1 v with
    | some r => alloc m r S1
    | none => .bad)
  | .comp m t k es cs e, ρ, S => (denEs Γ es ρ S).bind fun vs S1 => (match walk S1 k vs with
    | some (xs, g) => (compL g t (fun ρ' S' => denC Γ cs ρ' S') (fun ρ' S' => denE Γ e ρ' S') (wipeE ρ (own t)) xs [] S1).bind fun r S2 => alloc m (.lst r) S2
    | none => .bad)
  | .lsrc m k es, ρ, S => (denEs Γ es ρ S).bind fun vs S1 => (match walk S1 k vs with
    | some (xs, _) => alloc m (.lst xs) S1
    | none => .bad)
  | .maxd a k, ρ, S => (denE Γ a ρ S).bind fun v S1 => (match view S1 v with
    | .lst xs => (match asInts xs with
      | some is => .ok (.int (maxO k is)) S1
      | none => .bad)
    | _ => .bad)
  | .cat a b, ρ, S => (denE Γ a ρ S).bind fun x S1 => (denE Γ b ρ S1).bind fun y S2 => (match view S2 x, view S2 y with
    | .lst xs, .lst ys => if okI (xs.length + ys.length) then alloc true (.lst (xs ++ ys)) S2 else .bad
    | _, _ => .bad)
  | .fmt a, ρ, S => (denE Γ a ρ S).bind fun v S1 => (match v with
    | .str x => if okI x.length then .ok (.str x) S1 else .bad
    | .int i => if decide (i.natAbs.log2 < 1920) then .ok (.str (chars (toString i))) S1 else .bad
    | _ => .bad)
  | .fstr es, ρ, S => (denEs Γ es ρ S).bind fun vs S1 => (match asStrs vs with
    | some ts => if okI ts.flatten.length then .ok (.str ts.flatten) S1 else .bad
    | none => .bad)
def denEs (Γ : Env2) : List E → Env → Store → Res (List PV)
  | [], _, S => .ok [] S
  | e :: es, ρ, S => (denE Γ e ρ S).bind fun v S1 => (denEs Γ es ρ S1).bind fun vs S2 => .ok (v :: vs) S2
def denAnd (Γ : Env2) : List E → Env → Store → Res PV
  | [], _, _ => .bad
  | [e], ρ, S => denE Γ e ρ S
  | e :: f :: es, ρ, S => (denE Γ e ρ S).bind fun x S1 => (match truth S1 x with
    | some true => denAnd Γ (f :: es) ρ S1
    | some false => .ok x S1
    | none => .bad)
def denOr (Γ : Env2) : List E → Env → Store → Res PV
  | [], _, _ => .bad
  | [e], ρ, S => denE Γ e ρ S
  | e :: f :: es, ρ, S => (denE Γ e ρ S).bind fun x S1 => (match truth S1 x with
    | some true => .ok x S1
    | some false => denOr Γ (f :: es) ρ S1
    | none => .bad)
/-- a comprehension's tests -/
def denC (Γ : Env2) : List E → Env → Store → Res PV
  | [], _, S => .ok (.bl true) S
  | [e], ρ, S => (denE Γ e ρ S).bind fun x S1 => opt S1 ((truth S1 x).map .bl)
  | _, _, _ => .bad
end

/-! ### statements -/
inductive T where | name (i : Nat) | names (is : List Nat) | idx (o i : E) | fld (o : E) (x : Nat)
inductive Sm where
  | nev
  | asg (t : T) (e : E)
  | par (is : List Nat) (es : List E)
  | expr (e : E)
  | ret (e : E)
  | retn
  | ife (c : E) (a b : List Sm)
  | for_ (t : CT) (k : SrcK) (es : List E) (b : List Sm)
  | whl (c : E) (b : List Sm)
  | brk
  | cnt
  | pass
inductive SRes where
  | nxt (ρ : Env) (S : Store) | ret (v : PV) (S : Store) | brk (ρ : Env) (S : Store) | cnt (ρ : Env) (S : Store) | exc (x : PV) (ρ : Env) (S : Store) | bad
def SRes.of {α : Type} (ρ : Env) : Res α → (α → Store → SRes) → SRes
  | .ok a S, f => f a S
  | .exc x S, _ => .exc x ρ S
  | .bad, _ => .bad
def SRes.seq : SRes → (Env → Store → SRes) → SRes
  | .nxt ρ S, f => f ρ S
  | r, _ => r
def setItem (S : Store) (o i v : PV) : Option Store := match refList S o, i with
  | some (n, l), .int k => (L2.ixN l.length k).map fun j => setS S n (.lst (l.set j v))
  | _, _ => none
def setFld (S : Store) (o : PV) (x : Nat) (v : PV) : Option Store := match o with
  | .ref n => (match S[n]? with
    | some (.obj c ks vs) => if decide (ks.length < 900) then some (setS S n (.obj c (fput x v ks vs).1 (fput x v ks vs).2)) else none
    | _ => none)
  | _ => none
def optS (o : Option Store) (ρ : Env) : SRes := match o with
  | some S => .nxt ρ S
  | none => .bad
def optR (o : Option Env) (S : Store) : SRes := match o with
  | some ρ => .nxt ρ S
  | none => .bad
/-- v goes to a target -/
def doAsg (Γ : Env2) (ρ : Env) (v : PV) : T → Store → SRes
  | .name i, S => .nxt (ρ.set i (some v)) S
  | .names is, S => optR (bindT S (.many is) v ρ) S
  | .idx o i, S => SRes.of ρ (denE Γ o ρ S) fun a S1 => SRes.of ρ (denE Γ i ρ S1) fun b S2 => optS (setItem S2 a b v) ρ
  | .fld o x, S => SRes.of ρ (denE Γ o ρ S) fun a S1 => optS (setFld S1 a x v) ρ
def forL (g : Guard) (t : CT) (b : Env → Store → SRes) : List PV → Env → Store → SRes
  | [], ρ, S => if intact g S then .nxt ρ S else .bad
  | x :: xs, ρ, S => if intact g S then (match bindT S t x ρ with
    | some ρ1 => (match b ρ1 S with
      | .nxt ρ2 S2 => forL g t b xs ρ2 S2
      | .cnt ρ2 S2 => forL g t b xs ρ2 S2
      | .brk ρ2 S2 => .nxt ρ2 S2
      | r => r)
    | none => .bad) else .bad
def whlN (c : Env → Store → Res Bool) (b : Env → Store → SRes) : Nat → Env → Store → Option SRes
  | 0, _, _ => none
  | n + 1, ρ, S => (match c ρ S with
    | .ok false S1 => some (.nxt ρ S1)
    | .ok true S1 => (match b ρ S1 with
      | .nxt ρ2 S2 => whlN c b n ρ2 S2
      | .cnt ρ2 S2 => whlN c b n ρ2 S2
      | .brk ρ2 S2 => some (.nxt ρ2 S2)
      | r => some r)
    | .exc x S1 => some (.exc x ρ S1)
    | .bad => some .bad)
theorem whlN_more {c : Env → Store → Res Bool} {b : Env → Store → SRes} : ∀ {n : Nat} {ρ : Env} {S : Store} {r : SRes}, whlN c b n ρ S = some r → ∀ m, whlN c b (n + m) ρ S = some r := by
  intro n
  induction n with
  | zero =>
    intro ρ S r h
    cases h
  | succ n ih =>
    intro ρ S r h m
    rw [Nat.succ_add]
    unfold whlN at h ⊢
    split at h
    · exact h
    · split at h
      · exact ih h m
      · exact ih h m
      · exact h
      · exact h
    · exact h
    · exact h
open Classical in
/-- while, to its end (bad where there is none) -/
noncomputable def whlL (c : Env → Store → Res Bool) (b : Env → Store → SRes) (ρ : Env) (S : Store) : SRes :=
  if h : ∃ r, ∃ n, whlN c b n ρ S = some r then Classical.choose h else .bad
theorem whlL_of {c : Env → Store → Res Bool} {b : Env → Store → SRes} {n : Nat} {ρ : Env} {S : Store} {r : SRes} (h : whlN c b n ρ S = some r) : whlL c b ρ S = r := by
  have ex : ∃ r, ∃ n, whlN c b n ρ S = some r := ⟨r, n, h⟩
  unfold whlL
  rw [dif_pos ex]
  obtain ⟨m, hm⟩ := Classical.choose_spec ex
  have h1 := whlN_more h m
  have h2 := whlN_more hm n
  rw [Nat.add_comm] at h2
  rw [h1] at h2
  exact (Option.some.inj h2).symm
theorem of_whlL {c : Env → Store → Res Bool} {b : Env → Store → SRes} {ρ : Env} {S : Store} {r : SRes} (h : whlL c b ρ S = r) (hr : r ≠ .bad) : ∃ n, whlN c b n ρ S = some r := by
  unfold whlL at h
  split at h
  · rename_i ex
    obtain ⟨m, hm⟩ := Classical.choose_spec ex
    exact ⟨m, by rw [hm, h]⟩
  · exact absurd h.symm hr
def testOf (Γ : Env2) (c : E) (ρ : Env) (S : Store) : Res Bool := (denE Γ c ρ S).bind fun x S1 => opt S1 (truth S1 x)
abbrev Loop := (Env → Store → Res Bool) → (Env → Store → SRes) → Env → Store → SRes
mutual
def denS (L : Loop) (Γ : Env2) : Sm → Env → Store → SRes
  | .nev, _, _ => .bad
  | .asg t e, ρ, S => SRes.of ρ (denE Γ e ρ S) fun v S1 => doAsg Γ ρ v t S1
  | .par is es, ρ, S => SRes.of ρ (denEs Γ es ρ S) fun vs S1 => optR (setAll is vs ρ) S1
  | .expr e, ρ, S => SRes.of ρ (denE Γ e ρ S) fun _ S1 => .nxt ρ S1
  | .ret e, ρ, S => SRes.of ρ (denE Γ e ρ S) fun v S1 => .ret v S1
  | .retn, _, S => .ret .non S
  | .ife c a b, ρ, S => SRes.of ρ (testOf Γ c ρ S) fun k S1 => if k then denSs L Γ a ρ S1 else denSs L Γ b ρ S1
  | .for_ t k es b, ρ, S => SRes.of ρ (denEs Γ es ρ S) fun vs S1 => (match walk S1 k vs with
    | some (xs, g) => forL g t (fun ρ' S' => denSs L Γ b ρ' S') xs ρ S1
    | none => .bad)
  | .whl c b, ρ, S => L (testOf Γ c) (fun ρ' S' => denSs L Γ b ρ' S') ρ S
  | .brk, ρ, S => .brk ρ S
  | .cnt, ρ, S => .cnt ρ S
  | .pass, ρ, S => .nxt ρ S
def denSs (L : Loop) (Γ : Env2) : List Sm → Env → Store → SRes
  | [], ρ, S => .nxt ρ S
  | s :: ss, ρ, S => (denS L Γ s ρ S).seq fun ρ1 S1 => denSs L Γ ss ρ1 S1
end
structure Def where
  np : Nat
  ns : Nat
  dfl : List PV
  body : List Sm
/-- a class: its name among the globals, its __init__, its methods (those above it too), those that it stands under (itself too) -/
structure Klass where
  g : Nat
  ini : Option Nat
  meths : List (Nat × Nat)
  anc : List Nat
structure Prog where
  funs : List Def
  clss : List Klass
  globs : List GK
def look (x : Nat) : List (Nat × Nat) → Option Nat
  | [] => none
  | (a, b) :: r => if a = x then some b else look x r
/-- the arguments, the last defaults in the place of those that lack -/
def fill (D : Def) (vs : List PV) : Option (List PV) :=
  if vs.length ≤ D.np && decide (D.np ≤ vs.length + D.dfl.length) then some (vs ++ D.dfl.drop (vs.length + D.dfl.length - D.np)) else none
def outOf : SRes → Res PV
  | .nxt _ S => .ok .non S
  | .ret v S => .ok v S
  | .exc x _ S => .exc x S
  | _ => .bad
def Prog.env (P : Prog) (call init : Nat → List PV → Store → Res PV) : Env2 where
  call := call
  init := init
  glob := fun g => P.globs[g]?
  ini := fun c => (P.clss[c]?).map (·.ini)
  meth := fun c x => (P.clss[c]?).bind fun k => look x k.meths
  anc := fun c d => match P.clss[c]? with
    | some k => k.anc.contains d
    | none => false
def runDef (L : Loop) (P : Prog) (call init : Nat → List PV → Store → Res PV) (f : Nat) (vs : List PV) (S : Store) : Res PV := match P.funs[f]? with
  | some D => (match fill D vs with
    | some ws => outOf (denSs L (P.env call init) D.body (ws.map some ++ List.replicate (D.ns - D.np) none) S)
    | none => .bad)
  | none => .bad
/-- a def's run, so deep -/
def callL (L : Loop) (P : Prog) : Nat → Nat → List PV → Store → Res PV
  | 0 => fun _ _ _ => .bad
  | 1 => runDef L P (fun _ _ _ => .bad) fun _ _ _ => .bad
  | d + 2 => runDef L P (callL L P (d + 1)) (callL L P d)
noncomputable abbrev callD (P : Prog) : Nat → Nat → List PV → Store → Res PV := callL whlL P
/-- for looking: while, so many turns -/
def loopT : Loop := fun c b ρ S => (whlN c b 100000 ρ S).getD .bad
end FF
set_option Elab.async false
set_option linter.all false
set_option autoImplicit false
set_option maxRecDepth 100000
set_option maxHeartbeats 4000000
/-! SNA: the relation between the evaluator's state and HandS's. -/
namespace FF
open PySem L2

structure Sit where
  K : PySem.W.Frag
  ad : Nat → Addr
  cad : Nat → Addr
  an : Nat → Str
  fad : Nat → Addr
  kn : Nat → Prop
  inj : ∀ x y, an x = an y → x = y
def pk : Key → PV
  | .inl i => .int i
  | .inr x => .str x.cps.toList
mutual
inductive RV (Z : Sit) (F : Hp) (ι : Nat → Addr) (N : Nat) : PV → V → Prop where
  | non : RV Z F ι N .non .non
  | bl (b : Bool) : RV Z F ι N (.bl b) (.bl b)
  | int (i : Int) : RV Z F ι N (.int i) (.int i)
  | str (x : List Nat) : RV Z F ι N (.str x) (.str ⟨x.toArray⟩)
  | fn (g : Nat) : RV Z F ι N (.fn g) (.ref (Z.ad g))
  | ref (n : Nat) (h : n < N) : RV Z F ι N (.ref n) (.ref (ι n))
  | obj {v : PV} {a : Addr} {o : HO} (h : F a = some o) (r : RO Z F ι N v o) : RV Z F ι N v (.ref a)
  | ktup {xs : List PV} {vs : List V} {a : Addr} {o : Obj} {its : Array Value} {n : Nat} (h : Z.K.lookup a = some o) (hc : o.cls = .type "tuple") (hd : o.data = .seq its n) (hz : its.size ≤ sizeLine) (hv : Vals vs its.toList) (r : RVs Z F ι N xs vs) : RV Z F ι N (.tup xs) (.ref a)
inductive RVs (Z : Sit) (F : Hp) (ι : Nat → Addr) (N : Nat) : List PV → List V → Prop where
  | nil : RVs Z F ι N [] []
  | cons {v : PV} {x : V} {vs : List PV} {xs : List V} (h : RV Z F ι N v x) (t : RVs Z F ι N vs xs) : RVs Z F ι N (v :: vs) (x :: xs)
inductive RO (Z : Sit) (F : Hp) (ι : Nat → Addr) (N : Nat) : PV → HO → Prop where
  | tup {xs : List PV} {vs : List V} (r : RVs Z F ι N xs vs) : RO Z F ι N (.tup xs) (.tup vs)
  | lst {xs : List PV} {vs : List V} (r : RVs Z F ι N xs vs) : RO Z F ι N (.lst xs) (.lst vs)
  | frz {xs : List PV} {vs : List V} {ob : Obj} (r : RVs Z F ι N xs vs) : RO Z F ι N (.lst xs) (.frz ob (.lst vs))
  | dK {ks vs : List PV} {kvs : List (Key × V)} (e : ks = kvs.map fun p => pk p.1) (r : RVs Z F ι N vs (kvs.map (·.2))) : RO Z F ι N (.dct ks vs) (.dK kvs)
  | dT {ks vs : List PV} {kvs : List (List Key × V)} (e : ks = kvs.map fun p => .tup (p.1.map pk)) (ne : kvs ≠ []) (r : RVs Z F ι N vs (kvs.map (·.2))) : RO Z F ι N (.dct ks vs) (.dT kvs)
  | fK {ks vs : List PV} {kvs : List (Key × V)} {ob : Obj} (e : ks = kvs.map fun p => pk p.1) (r : RVs Z F ι N vs (kvs.map (·.2))) : RO Z F ι N (.dct ks vs) (.frz ob (.dK kvs))
  | fT {ks vs : List PV} {kvs : List (List Key × V)} {ob : Obj} (e : ks = kvs.map fun p => .tup (p.1.map pk)) (ne : kvs ≠ []) (r : RVs Z F ι N vs (kvs.map (·.2))) : RO Z F ι N (.dct ks vs) (.frz ob (.dT kvs))
  | ins {c : Nat} {ks : List Nat} {vs : List PV} {dx : Addr} {fs : List (Str × V)} (kn : Z.kn c) (e : fs.map (·.1) = ks.map Z.an) (r : RVs Z F ι N vs (fs.map (·.2))) : RO Z F ι N (.obj c ks vs) (.ins (Z.cad c) dx fs)
end
section
variable {Z : Sit} {F F' : Hp} {ι ι' : Nat → Addr} {N N' : Nat}
mutual
theorem RV.mono (hF : ∀ a o, F a = some o → F' a = some o) (hN : N ≤ N') (hi : ∀ n, n < N → ι' n = ι n) : ∀ {v : PV} {x : V}, RV Z F ι N v x → RV Z F' ι' N' v x
  | _, _, .non => .non
  | _, _, .bl b => .bl b
  | _, _, .int i => .int i
  | _, _, .str x => .str x
  | _, _, .fn g => .fn g
  | _, _, .ref n h => by
    rw [← hi n h]
    exact .ref n (Nat.lt_of_lt_of_le h hN)
  | _, _, .obj h r => .obj (hF _ _ h) (RO.mono hF hN hi r)
  | _, _, .ktup h hc hd hz hv r => .ktup h hc hd hz hv (RVs.mono hF hN hi r)
theorem RVs.mono (hF : ∀ a o, F a = some o → F' a = some o) (hN : N ≤ N') (hi : ∀ n, n < N → ι' n = ι n) : ∀ {v : List PV} {x : List V}, RVs Z F ι N v x → RVs Z F' ι' N' v x
  | _, _, .nil => .nil
  | _, _, .cons h t => .cons (RV.mono hF hN hi h) (RVs.mono hF hN hi t)
theorem RO.mono (hF : ∀ a o, F a = some o → F' a = some o) (hN : N ≤ N') (hi : ∀ n, n < N → ι' n = ι n) : ∀ {v : PV} {o : HO}, RO Z F ι N v o → RO Z F' ι' N' v o
  | _, _, .tup r => .tup (RVs.mono hF hN hi r)
  | _, _, .lst r => .lst (RVs.mono hF hN hi r)
  | _, _, .frz r => .frz (RVs.mono hF hN hi r)
  | _, _, .dK e r => .dK e (RVs.mono hF hN hi r)
  | _, _, .dT e ne r => .dT e ne (RVs.mono hF hN hi r)
  | _, _, .fK e r => .fK e (RVs.mono hF hN hi r)
  | _, _, .fT e ne r => .fT e ne (RVs.mono hF hN hi r)
  | _, _, .ins kn e r => .ins kn e (RVs.mono hF hN hi r)
end
/-- fewer references -/
theorem low_key (M : Nat) : ∀ k : Key, low M (pk k) = true
  | .inl _ => rfl
  | .inr _ => rfl
theorem lows_keys (M : Nat) : ∀ ks : List Key, lows M (ks.map pk) = true
  | [] => rfl
  | k :: ks => by simp [lows, low_key, lows_keys M ks]
mutual
theorem RV.low : ∀ {v : PV} {x : V}, RV Z F ι N v x → FF.low N v = true
  | _, _, .non => rfl
  | _, _, .bl b => rfl
  | _, _, .int i => rfl
  | _, _, .str x => rfl
  | _, _, .fn g => rfl
  | _, _, .ref n h => by simp [FF.low, h]
  | _, _, .obj h r => RO.low r
  | _, _, .ktup h hc hd hz hv r => by
    have := RVs.low r
    simpa [FF.low] using this
theorem RVs.low : ∀ {v : List PV} {x : List V}, RVs Z F ι N v x → lows N v = true
  | _, _, .nil => rfl
  | _, _, .cons h t => by simp [lows, RV.low h, RVs.low t]
theorem RO.low : ∀ {v : PV} {o : HO}, RO Z F ι N v o → FF.low N v = true
  | _, _, .tup r => by simpa [FF.low] using RVs.low r
  | _, _, .lst r => by simpa [FF.low] using RVs.low r
  | _, _, .frz r => by simpa [FF.low] using RVs.low r
  | _, _, .dK e r => by
    subst e
    have h1 := RVs.low r
    have h2 : ∀ l : List (Key × V), lows N (l.map fun p => pk p.1) = true := fun l => by
      induction l with
      | nil => rfl
      | cons p l ih => simp [lows, low_key, ih]
    simp only [FF.low, h1, h2, Bool.and_self]
  | _, _, .dT e ne r => by
    subst e
    have h1 := RVs.low r
    have h2 : ∀ l : List (List Key × V), lows N (l.map fun p => PV.tup (p.1.map pk)) = true := fun l => by
      induction l with
      | nil => rfl
      | cons p l ih => simp [lows, FF.low, lows_keys, ih]
    simp only [FF.low, h1, h2, Bool.and_self]
  | _, _, .fK e r => by
    subst e
    have h1 := RVs.low r
    have h2 : ∀ l : List (Key × V), lows N (l.map fun p => pk p.1) = true := fun l => by
      induction l with
      | nil => rfl
      | cons p l ih => simp [lows, low_key, ih]
    simp only [FF.low, h1, h2, Bool.and_self]
  | _, _, .fT e ne r => by
    subst e
    have h1 := RVs.low r
    have h2 : ∀ l : List (List Key × V), lows N (l.map fun p => PV.tup (p.1.map pk)) = true := fun l => by
      induction l with
      | nil => rfl
      | cons p l ih => simp [lows, FF.low, lows_keys, ih]
    simp only [FF.low, h1, h2, Bool.and_self]
  | _, _, .ins kn e r => by simpa [FF.low] using RVs.low r
end
mutual
theorem RV.cut {M : Nat} : ∀ {v : PV} {x : V}, RV Z F ι N v x → FF.low M v = true → RV Z F ι M v x
  | _, _, .non, _ => .non
  | _, _, .bl b, _ => .bl b
  | _, _, .int i, _ => .int i
  | _, _, .str x, _ => .str x
  | _, _, .fn g, _ => .fn g
  | _, _, .ref n h, l => .ref n (by simpa [FF.low] using l)
  | _, _, .obj h r, l => .obj h (RO.cut r l)
  | _, _, .ktup h hc hd hz hv r, l => .ktup h hc hd hz hv (RVs.cut r (by simpa [FF.low] using l))
theorem RVs.cut {M : Nat} : ∀ {v : List PV} {x : List V}, RVs Z F ι N v x → lows M v = true → RVs Z F ι M v x
  | _, _, .nil, _ => .nil
  | _, _, .cons h t, l => by
    simp only [lows, Bool.and_eq_true] at l
    exact .cons (RV.cut h l.1) (RVs.cut t l.2)
theorem RO.cut {M : Nat} : ∀ {v : PV} {o : HO}, RO Z F ι N v o → FF.low M v = true → RO Z F ι M v o
  | _, _, .tup r, l => .tup (RVs.cut r (by simpa [FF.low] using l))
  | _, _, .lst r, l => .lst (RVs.cut r (by simpa [FF.low] using l))
  | _, _, .frz r, l => .frz (RVs.cut r (by simpa [FF.low] using l))
  | _, _, .dK e r, l => .dK e (RVs.cut r (by
      simp only [FF.low, Bool.and_eq_true] at l
      exact l.2))
  | _, _, .dT e ne r, l => .dT e ne (RVs.cut r (by
      simp only [FF.low, Bool.and_eq_true] at l
      exact l.2))
  | _, _, .fK e r, l => .fK e (RVs.cut r (by
      simp only [FF.low, Bool.and_eq_true] at l
      exact l.2))
  | _, _, .fT e ne r, l => .fT e ne (RVs.cut r (by
      simp only [FF.low, Bool.and_eq_true] at l
      exact l.2))
  | _, _, .ins kn e r, l => .ins kn e (RVs.cut r (by simpa [FF.low] using l))
end
theorem RVs.length : ∀ {v : List PV} {x : List V}, RVs Z F ι N v x → v.length = x.length
  | _, _, .nil => rfl
  | _, _, .cons _ t => by simp [RVs.length t]
theorem RVs.get : ∀ {v : List PV} {x : List V} {i : Nat} {p : PV}, RVs Z F ι N v x → v[i]? = some p → ∃ y, x[i]? = some y ∧ RV Z F ι N p y
  | _, _, _, _, .nil, e => by simp at e
  | _, _, 0, p, .cons h _, e => by
    simp at e
    subst e
    exact ⟨_, rfl, h⟩
  | _, _, i + 1, p, .cons _ t, e => by
    obtain ⟨y, h1, h2⟩ := RVs.get (i := i) (p := p) t (by simpa using e)
    exact ⟨y, by simpa using h1, h2⟩
theorem RVs.append : ∀ {v w : List PV} {x y : List V}, RVs Z F ι N v x → RVs Z F ι N w y → RVs Z F ι N (v ++ w) (x ++ y)
  | _, _, _, _, .nil, s => s
  | _, _, _, _, .cons h t, s => .cons h (RVs.append t s)
theorem RVs.set {p : PV} {y : V} (r : RV Z F ι N p y) : ∀ {v : List PV} {x : List V} (i : Nat), RVs Z F ι N v x → RVs Z F ι N (v.set i p) (x.set i y)
  | _, _, _, .nil => .nil
  | _, _, 0, .cons _ t => .cons r t
  | _, _, i + 1, .cons h t => .cons h (RVs.set r i t)
theorem RVs.take : ∀ {v : List PV} {x : List V} (n : Nat), RVs Z F ι N v x → RVs Z F ι N (v.take n) (x.take n)
  | _, _, 0, _ => .nil
  | _, _, _ + 1, .nil => .nil
  | _, _, n + 1, .cons h t => .cons h (RVs.take n t)
theorem RVs.drop : ∀ {v : List PV} {x : List V} (n : Nat), RVs Z F ι N v x → RVs Z F ι N (v.drop n) (x.drop n)
  | _, _, 0, r => r
  | _, _, _ + 1, .nil => .nil
  | _, _, n + 1, .cons _ t => RVs.drop n t
theorem RVs.reverse : ∀ {v : List PV} {x : List V}, RVs Z F ι N v x → RVs Z F ι N v.reverse x.reverse
  | _, _, .nil => .nil
  | _, _, .cons h t => by
    rw [List.reverse_cons, List.reverse_cons]
    exact RVs.append (RVs.reverse t) (.cons h .nil)
theorem RVs.rep {v : List PV} {x : List V} (r : RVs Z F ι N v x) : ∀ k : Nat, RVs Z F ι N (List.replicate k v).flatten (List.replicate k x).flatten
  | 0 => .nil
  | k + 1 => by
    rw [List.replicate_succ, List.replicate_succ, List.flatten_cons, List.flatten_cons]
    exact RVs.append r (RVs.rep r k)
theorem RVs.dropLast {v : List PV} {x : List V} (r : RVs Z F ι N v x) : RVs Z F ι N v.dropLast x.dropLast := by
  rw [List.dropLast_eq_take, List.dropLast_eq_take, r.length]
  exact r.take _
end

/-- a world: what is frozen, where the store's objects stand -/
structure Wd where
  F : Hp
  ι : Nat → Addr
  X : Hp
/-- what may be changed -/
def Live : HO → Prop
  | .lst _ => True
  | .dK _ => True
  | .dT _ => True
  | .ins _ _ _ => True
  | _ => False
/-- the store stands for the heap -/
structure RH (Z : Sit) (W : Wd) (S : Store) (H : Hp) : Prop where
  fz : ∀ a o, W.F a = some o → H a = some o
  st : ∀ (n : Nat) (v : PV), S[n]? = some v → ∃ o, H (W.ι n) = some o ∧ RO Z W.F W.ι S.length v o ∧ Live o
  nf : ∀ n, n < S.length → W.F (W.ι n) = none
  inj : ∀ m n, m < S.length → n < S.length → W.ι m = W.ι n → m = n
  ex : ∀ a o, W.X a = some o → H a = some o ∧ W.F a = none ∧ ∀ n, n < S.length → W.ι n ≠ a
/-- the frame -/
structure RE (Z : Sit) (W : Wd) (N : Nat) (ρ : Env) (σ : St) : Prop where
  len : ρ.length = σ.length
  at_ : ∀ (i : Nat) (v : PV), ρ[i]? = some (some v) → ∃ x, σ[i]? = some (some x) ∧ RV Z W.F W.ι N v x
/-- later -/
structure Ext (W : Wd) (S : Store) (W' : Wd) (S' : Store) : Prop where
  fz : ∀ a o, W.F a = some o → W'.F a = some o
  le : S.length ≤ S'.length
  at_ : ∀ n, n < S.length → W'.ι n = W.ι n
  xx : W'.X = W.X
theorem Ext.refl (W : Wd) (S : Store) : Ext W S W S := ⟨fun _ _ h => h, Nat.le_refl _, fun _ _ => rfl, rfl⟩
theorem Ext.trans {W W1 W2 : Wd} {S S1 S2 : Store} (a : Ext W S W1 S1) (b : Ext W1 S1 W2 S2) : Ext W S W2 S2 :=
  ⟨fun c o h => b.fz c o (a.fz c o h), Nat.le_trans a.le b.le, fun n h => (b.at_ n (Nat.lt_of_lt_of_le h a.le)).trans (a.at_ n h), b.xx.trans a.xx⟩
section
variable {Z : Sit} {W W' : Wd} {S S' : Store} {H H' : Hp} {ρ : Env} {σ : St} {v : PV} {x : V} {vs : List PV} {xs : List V}
theorem Ext.rv (e : Ext W S W' S') (r : RV Z W.F W.ι S.length v x) : RV Z W'.F W'.ι S'.length v x := r.mono e.fz e.le e.at_
theorem Ext.rvs (e : Ext W S W' S') (r : RVs Z W.F W.ι S.length vs xs) : RVs Z W'.F W'.ι S'.length vs xs := r.mono e.fz e.le e.at_
theorem Ext.re (e : Ext W S W' S') (r : RE Z W S.length ρ σ) : RE Z W' S'.length ρ σ :=
  ⟨r.len, fun i v h => let ⟨x, h1, h2⟩ := r.at_ i v h; ⟨x, h1, e.rv h2⟩⟩
theorem RE.set {N : Nat} (r : RE Z W N ρ σ) (i : Nat) (h : RV Z W.F W.ι N v x) : RE Z W N (ρ.set i (some v)) (σ.set i (some x)) := by
  refine ⟨by rw [List.length_set, List.length_set]; exact r.len, fun j w e => ?_⟩
  by_cases hj : i = j
  · subst hj
    by_cases hl : i < ρ.length
    · rw [List.getElem?_set_self hl] at e
      have e' : v = w := by simpa using e
      subst e'
      exact ⟨x, List.getElem?_set_self (by rw [← r.len]; exact hl), h⟩
    · rw [List.getElem?_eq_none (by simpa using hl)] at e
      cases e
  · rw [List.getElem?_set_ne hj] at e ⊢
    exact r.at_ j w e
theorem RE.unset {N : Nat} (r : RE Z W N ρ σ) (i : Nat) : RE Z W N (ρ.set i none) (σ.set i none) := by
  refine ⟨by rw [List.length_set, List.length_set]; exact r.len, fun j w e => ?_⟩
  by_cases hj : i = j
  · subst hj
    by_cases hl : i < ρ.length
    · rw [List.getElem?_set_self hl] at e
      cases e
    · rw [List.getElem?_eq_none (by simpa using hl)] at e
      cases e
  · rw [List.getElem?_set_ne hj] at e ⊢
    exact r.at_ j w e
theorem RE.wipe {N : Nat} (r : RE Z W N ρ σ) : ∀ is : List Nat, RE Z W N (wipeE ρ is) (L2.wipe σ is)
  | [] => r
  | i :: is => (RE.wipe r is).unset i

/-- a value that stands at an object -/
theorem RO.shape {N : Nat} {F : Hp} {ι : Nat → Addr} {o : HO} (r : RO Z F ι N v o) : (∃ xs, v = .tup xs) ∨ (∃ xs, v = .lst xs) ∨ (∃ ks vs, v = .dct ks vs) ∨ ∃ c ks vs, v = .obj c ks vs := by
  cases r with
  | tup r => exact .inl ⟨_, rfl⟩
  | lst r => exact .inr (.inl ⟨_, rfl⟩)
  | frz r => exact .inr (.inl ⟨_, rfl⟩)
  | dK e r => exact .inr (.inr (.inl ⟨_, _, rfl⟩))
  | dT e ne r => exact .inr (.inr (.inl ⟨_, _, rfl⟩))
  | fK e r => exact .inr (.inr (.inl ⟨_, _, rfl⟩))
  | fT e ne r => exact .inr (.inr (.inl ⟨_, _, rfl⟩))
  | ins _ e r => exact .inr (.inr (.inr ⟨_, _, _, rfl⟩))
/-- what is seen: a scalar, or an object -/
inductive Seen (Z : Sit) (W : Wd) (N : Nat) (H : Hp) : PV → V → Prop where
  | non : Seen Z W N H .non .non
  | bl (b : Bool) : Seen Z W N H (.bl b) (.bl b)
  | int (i : Int) : Seen Z W N H (.int i) (.int i)
  | str (x : List Nat) : Seen Z W N H (.str x) (.str ⟨x.toArray⟩)
  | fn (g : Nat) : Seen Z W N H (.fn g) (.ref (Z.ad g))
  | obj {v : PV} {a : Addr} {o : HO} (h : H a = some o) (r : RO Z W.F W.ι N v o) : Seen Z W N H v (.ref a)
  | ktup {xs : List PV} {vs : List V} {a : Addr} {o : Obj} {its : Array Value} {n : Nat} (h : Z.K.lookup a = some o) (hc : o.cls = .type "tuple") (hd : o.data = .seq its n) (hz : its.size ≤ sizeLine) (hv : Vals vs its.toList) (r : RVs Z W.F W.ι N xs vs) : Seen Z W N H (.tup xs) (.ref a)
theorem RH.seen (R : RH Z W S H) (r : RV Z W.F W.ι S.length v x) : Seen Z W S.length H (view S v) x := by
  cases r with
  | non => exact .non
  | bl b => exact .bl b
  | int i => exact .int i
  | str x => exact .str x
  | fn g => exact .fn g
  | ref n h =>
    have e : S[n]? = some S[n] := List.getElem?_eq_getElem h
    obtain ⟨o, h1, h2, _⟩ := R.st n _ e
    have ev : view S (.ref n) = S[n] := by simp [view, e]
    rw [ev]
    exact .obj h1 h2
  | obj h r =>
    have ev : view S v = v := by
      rcases r.shape with ⟨_, rfl⟩ | ⟨_, rfl⟩ | ⟨_, _, rfl⟩ | ⟨_, _, _, rfl⟩ <;> rfl
    rw [ev]
    exact .obj (R.fz _ _ h) r
  | ktup h hc hd hz hv r => exact .ktup h hc hd hz hv r
section
variable {N : Nat}
theorem Seen.tup_ {ps : List PV} (s : Seen Z W N H (.tup ps) x) : ∃ a vs, x = .ref a ∧ SqT Z.K H a vs ∧ RVs Z W.F W.ι N ps vs := by
  cases s with
  | obj h r =>
    cases r with
    | tup r => exact ⟨_, _, rfl, .inl (.inl h), r⟩
  | ktup h hc hd hz hv r => exact ⟨_, _, rfl, .inr ⟨_, _, _, h, hc, hd, hz, hv⟩, r⟩
theorem Seen.lst_ {ps : List PV} (s : Seen Z W N H (.lst ps) x) : ∃ a vs, x = .ref a ∧ Rd H a (.lst vs) ∧ RVs Z W.F W.ι N ps vs := by
  cases s with
  | obj h r =>
    cases r with
    | lst r => exact ⟨_, _, rfl, .inl h, r⟩
    | frz r => exact ⟨_, _, rfl, .inr ⟨_, h⟩, r⟩
theorem Seen.int_ {i : Int} (s : Seen Z W N H (.int i) x) : x = .int i := by
  cases s with
  | int => rfl
  | obj h r => cases r
theorem Seen.bl_ {i : Bool} (s : Seen Z W N H (.bl i) x) : x = .bl i := by
  cases s with
  | bl => rfl
  | obj h r => cases r
theorem Seen.non_ (s : Seen Z W N H .non x) : x = .non := by
  cases s with
  | non => rfl
  | obj h r => cases r
theorem Seen.str_ {i : List Nat} (s : Seen Z W N H (.str i) x) : x = .str ⟨i.toArray⟩ := by
  cases s with
  | str => rfl
  | obj h r => cases r
end
theorem view_int {i : Int} (R : RH Z W S H) (r : RV Z W.F W.ι S.length v x) (h : view S v = .int i) : x = .int i := by
  have s := R.seen r
  rw [h] at s
  exact s.int_
/-- a tuple stands by itself -/
theorem view_tup {ps : List PV} (R : RH Z W S H) (r : RV Z W.F W.ι S.length v x) (h : view S v = .tup ps) : v = .tup ps := by
  cases v with
  | ref n =>
    have hn : n < S.length := by
      have := r.low
      simpa [FF.low] using this
    have e : S[n]? = some S[n] := List.getElem?_eq_getElem hn
    obtain ⟨o, _, h2, h3⟩ := R.st n _ e
    have ev : view S (.ref n) = S[n] := by simp [view, e]
    rw [ev] at h
    rw [h] at h2
    cases h2
    exact h3.elim
  | _ => exact h
mutual
theorem RV.dp {N : Nat} (hz : ∀ a o, W.F a = some o → H a = some o) : ∀ {v : PV} {x : V} {d : PyData}, RV Z W.F W.ι N v x → toD v = some d → Dp Z.K H x d
  | _, _, d, .non, e => by
    simp [toD] at e
    subst e
    exact .non
  | _, _, d, .bl b, e => by
    simp [toD] at e
    subst e
    exact .bl b
  | _, _, d, .int i, e => by
    simp [toD] at e
    subst e
    exact .int i
  | _, _, d, .str x, e => by
    simp [toD] at e
    subst e
    exact .str _
  | _, _, d, .fn g, e => by simp [toD] at e
  | _, _, d, .ref n h, e => by simp [toD] at e
  | _, _, d, .obj h r, e => RO.dp hz r (hz _ _ h) e
  | _, _, d, .ktup h hc hd hs hv r, e => by
    simp only [toD, Option.map_eq_some_iff] at e
    obtain ⟨ds, e1, rfl⟩ := e
    exact .tup (.inr ⟨_, _, _, h, hc, hd, hs, hv⟩) (RVs.dp hz r e1)
theorem RVs.dp {N : Nat} (hz : ∀ a o, W.F a = some o → H a = some o) : ∀ {v : List PV} {x : List V} {d : List PyData}, RVs Z W.F W.ι N v x → toDs v = some d → DpAll Z.K H x d
  | _, _, d, .nil, e => by
    simp [toDs] at e
    subst e
    exact .nil
  | _, _, d, @RVs.cons _ _ _ _ v x vs xs h t, e => by
    simp only [toDs] at e
    split at e
    · rename_i d1 ds h1 h2
      cases e
      exact .cons (RV.dp hz h h1) (RVs.dp hz t h2)
    · cases e
theorem RO.dp {N : Nat} (hz : ∀ a o, W.F a = some o → H a = some o) : ∀ {v : PV} {o : HO} {d : PyData} {a : Addr}, RO Z W.F W.ι N v o → H a = some o → toD v = some d → Dp Z.K H (.ref a) d
  | _, _, d, a, .tup r, h, e => by
    simp only [toD, Option.map_eq_some_iff] at e
    obtain ⟨ds, e1, rfl⟩ := e
    exact .tup (.inl (.inl h)) (RVs.dp hz r e1)
  | _, _, d, a, .lst r, h, e => by
    simp only [toD, Option.map_eq_some_iff] at e
    obtain ⟨ds, e1, rfl⟩ := e
    exact .lst (.inl (.inl h)) (RVs.dp hz r e1)
  | _, _, d, a, .frz r, h, e => by
    simp only [toD, Option.map_eq_some_iff] at e
    obtain ⟨ds, e1, rfl⟩ := e
    exact .lst (.inl (.inr ⟨_, h⟩)) (RVs.dp hz r e1)
  | _, _, d, a, .dK _ r, h, e => by simp [toD] at e
  | _, _, d, a, .dT _ _ r, h, e => by simp [toD] at e
  | _, _, d, a, .fK _ r, h, e => by simp [toD] at e
  | _, _, d, a, .fT _ _ r, h, e => by simp [toD] at e
  | _, _, d, a, .ins _ _ r, h, e => by simp [toD] at e
end
theorem Seen.dp {N : Nat} {d : PyData} (R : RH Z W S H) (s : Seen Z W N H v x) (e : toD v = some d) : Dp Z.K H x d := by
  cases s with
  | non => exact RV.dp (N := 0) R.fz .non e
  | bl b => exact RV.dp (N := 0) R.fz (.bl b) e
  | int i => exact RV.dp (N := 0) R.fz (.int i) e
  | str y => exact RV.dp (N := 0) R.fz (.str y) e
  | fn g => simp [toD] at e
  | obj h r => exact RO.dp R.fz r h e
  | ktup h hc hd hs hv r => exact RV.dp R.fz (.ktup h hc hd hs hv r) e

/-- a new object is frozen at once -/
def Wd.ice (W : Wd) (p : Addr) (o : HO) : Wd := { W with F := upd W.F p o }
theorem RH.ice {p : Addr} {o : HO} (R : RH Z W S H) (hp : H p = none) : RH Z (W.ice p o) S (upd H p o) ∧ Ext W S (W.ice p o) S := by
  have hF : W.F p = none := by
    cases e : W.F p with
    | none => rfl
    | some u =>
      have := R.fz p u e
      rw [hp] at this
      cases this
  have ex : Ext W S (W.ice p o) S := ⟨fun a u h => by
    show upd W.F p o a = some u
    rw [upd_ne (by rintro rfl; rw [hF] at h; cases h)]
    exact h, Nat.le_refl _, fun _ _ => rfl, rfl⟩
  have ne : ∀ n, n < S.length → W.ι n ≠ p := fun n hn z => by
    obtain ⟨u, h1, _⟩ := R.st n _ (List.getElem?_eq_getElem hn)
    rw [z, hp] at h1
    cases h1
  refine ⟨⟨fun a u h => ?_, fun n v e => ?_, fun n hn => ?_, R.inj, fun a u h => ?_⟩, ex⟩
  · have h : upd W.F p o a = some u := h
    by_cases hb : a = p
    · subst hb
      rw [upd_same] at h ⊢
      exact h
    · rw [upd_ne hb] at h ⊢
      exact R.fz a u h
  · obtain ⟨u, h1, h2, h3⟩ := R.st n v e
    have hn : n < S.length := (List.getElem?_eq_some_iff.mp e).1
    exact ⟨u, by show upd H p o (W.ι n) = _; rw [upd_ne (ne n hn)]; exact h1, h2.mono ex.fz (Nat.le_refl _) fun _ _ => rfl, h3⟩
  · show upd W.F p o (W.ι n) = none
    rw [upd_ne (ne n hn)]
    exact R.nf n hn
  · obtain ⟨h1, h2, h3⟩ := R.ex a u h
    have hb : a ≠ p := fun z => by
      rw [z, hp] at h1
      cases h1
    refine ⟨by rw [upd_ne hb]; exact h1, ?_, h3⟩
    show upd W.F p o a = none
    rw [upd_ne hb]
    exact h2
/-- a new object goes into the store -/
def Wd.more (W : Wd) (n : Nat) (p : Addr) : Wd := { W with ι := fun m => if m = n then p else W.ι m }
theorem RH.more {p : Addr} {o : HO} (R : RH Z W S H) (hp : H p = none) (hv : RO Z W.F W.ι S.length v o) (hl : Live o) : RH Z (W.more S.length p) (S ++ [v]) (upd H p o) ∧ Ext W S (W.more S.length p) (S ++ [v]) := by
  have ex : Ext W S (W.more S.length p) (S ++ [v]) := ⟨fun a u h => h, by simp, fun n hn => by
    show (if n = S.length then p else W.ι n) = W.ι n
    rw [if_neg (Nat.ne_of_lt hn)], rfl⟩
  have ne : ∀ n, n < S.length → W.ι n ≠ p := fun n hn z => by
    obtain ⟨u, h1, _⟩ := R.st n _ (List.getElem?_eq_getElem hn)
    rw [z, hp] at h1
    cases h1
  have at0 : ∀ n, n < S.length → (W.more S.length p).ι n = W.ι n := ex.at_
  have at1 : (W.more S.length p).ι S.length = p := by
    show (if S.length = S.length then p else _) = p
    rw [if_pos rfl]
  have hF : W.F p = none := by
    cases e : W.F p with
    | none => rfl
    | some u =>
      have := R.fz p u e
      rw [hp] at this
      cases this
  refine ⟨⟨fun a u h => ?_, fun n w e => ?_, fun n hn => ?_, fun m n hm hn e => ?_, fun a u h => ?_⟩, ex⟩
  · have h2 : W.F a = some u := h
    rw [upd_ne (fun z => by
      rw [z, hF] at h2
      cases h2)]
    exact R.fz a u h2
  · by_cases hn : n < S.length
    · rw [List.getElem?_append_left hn] at e
      obtain ⟨u, h1, h2, h3⟩ := R.st n w e
      rw [at0 n hn]
      exact ⟨u, by rw [upd_ne (ne n hn)]; exact h1, h2.mono ex.fz ex.le ex.at_, h3⟩
    · have hn' : n = S.length := by
        have := (List.getElem?_eq_some_iff.mp e).1
        rw [List.length_append, List.length_singleton] at this
        omega
      subst hn'
      rw [List.getElem?_append_right (Nat.le_refl _)] at e
      simp at e
      subst e
      rw [at1]
      exact ⟨o, upd_same, hv.mono ex.fz ex.le ex.at_, hl⟩
  · rw [List.length_append, List.length_singleton] at hn
    by_cases h : n < S.length
    · rw [at0 n h]
      exact R.nf n h
    · have : n = S.length := by omega
      subst this
      rw [at1]
      exact hF
  · rw [List.length_append, List.length_singleton] at hm hn
    by_cases h1 : m < S.length <;> by_cases h2 : n < S.length
    · rw [at0 m h1, at0 n h2] at e
      exact R.inj m n h1 h2 e
    · have : n = S.length := by omega
      subst this
      rw [at0 m h1, at1] at e
      exact absurd e (ne m h1)
    · have : m = S.length := by omega
      subst this
      rw [at0 n h2, at1] at e
      exact absurd e.symm (ne n h2)
    · omega
  · obtain ⟨h1, h2, h3⟩ := R.ex a u h
    have hb : a ≠ p := fun z => by
      rw [z, hp] at h1
      cases h1
    refine ⟨by rw [upd_ne hb]; exact h1, h2, fun n hn => ?_⟩
    rw [List.length_append, List.length_singleton] at hn
    by_cases hl : n < S.length
    · rw [at0 n hl]
      exact h3 n hl
    · have : n = S.length := by omega
      subst this
      rw [at1]
      exact hb.symm
/-- an object of the store is changed -/
theorem RH.put {n : Nat} {o : HO} (R : RH Z W S H) (hn : n < S.length) (hv : RO Z W.F W.ι S.length v o) (hl : Live o) : RH Z W (setS S n v) (upd H (W.ι n) o) ∧ Ext W S W (setS S n v) := by
  have sl : (setS S n v).length = S.length := by simp [setS]
  refine ⟨⟨fun a u h => ?_, fun m w e => ?_, fun m hm => ?_, fun a b ha hb => ?_, fun a u h => ?_⟩, ⟨fun _ _ h => h, by rw [sl]; exact Nat.le_refl _, fun _ _ => rfl, rfl⟩⟩
  · rw [upd_ne (by rintro rfl; rw [R.nf n hn] at h; cases h)]
    exact R.fz a u h
  · rw [sl]
    by_cases hm : n = m
    · subst hm
      have e' : (S.set n v)[n]? = some w := e
      rw [List.getElem?_set_self hn] at e'
      cases e'
      exact ⟨o, upd_same, hv, hl⟩
    · have e' : (S.set n v)[m]? = some w := e
      rw [List.getElem?_set_ne hm] at e'
      have hml : m < S.length := (List.getElem?_eq_some_iff.mp e').1
      obtain ⟨u, h1, h2, h3⟩ := R.st m w e'
      exact ⟨u, by rw [upd_ne (fun z => hm (R.inj n m hn hml z.symm))]; exact h1, h2, h3⟩
  · rw [sl] at hm
    exact R.nf m hm
  · rw [sl] at ha hb
    exact R.inj a b ha hb
  · obtain ⟨h1, h2, h3⟩ := R.ex a u h
    rw [sl]
    refine ⟨by rw [upd_ne (h3 n hn).symm]; exact h1, h2, h3⟩
/-- a list half made is set apart -/
def Wd.keep (W : Wd) (p : Addr) (o : HO) : Wd := { W with X := upd W.X p o }
theorem RH.keep {p : Addr} {o : HO} (R : RH Z W S H) (hp : H p = none) : RH Z (W.keep p o) S (upd H p o) := by
  obtain ⟨R', _⟩ := R.ice (o := o) hp
  have hF : W.F p = none := by
    cases e : W.F p with
    | none => rfl
    | some u =>
      have := R.fz p u e
      rw [hp] at this
      cases this
  have ne : ∀ n, n < S.length → W.ι n ≠ p := fun n hn z => by
    obtain ⟨u, h1, _⟩ := R.st n _ (List.getElem?_eq_getElem hn)
    rw [z, hp] at h1
    cases h1
  refine ⟨fun a u h => ?_, fun n v e => ?_, R.nf, R.inj, fun a u h => ?_⟩
  · have h2 : W.F a = some u := h
    rw [upd_ne (fun z => by
      rw [z, hF] at h2
      cases h2)]
    exact R.fz a u h2
  · obtain ⟨u, h1, h2, h3⟩ := R.st n v e
    have hn : n < S.length := (List.getElem?_eq_some_iff.mp e).1
    exact ⟨u, by show upd H p o (W.ι n) = _; rw [upd_ne (ne n hn)]; exact h1, h2, h3⟩
  · have h : upd W.X p o a = some u := h
    by_cases hb : a = p
    · subst hb
      rw [upd_same] at h ⊢
      exact ⟨h, hF, ne⟩
    · rw [upd_ne hb] at h ⊢
      exact R.ex a u h
/-- it grows -/
theorem RH.rekeep {p : Addr} {o o' : HO} {X0 : Hp} (R : RH Z W S H) (hX : W.X = upd X0 p o) : RH Z { W with X := upd X0 p o' } S (upd H p o') := by
  obtain ⟨h1, h2, h3⟩ := R.ex p o (by rw [hX]; exact upd_same)
  refine ⟨fun a u h => ?_, fun n v e => ?_, R.nf, R.inj, fun a u h => ?_⟩
  · have h4 : W.F a = some u := h
    rw [upd_ne (fun z => by
      rw [z, h2] at h4
      cases h4)]
    exact R.fz a u h4
  · obtain ⟨u, g1, g2, g3⟩ := R.st n v e
    have hn : n < S.length := (List.getElem?_eq_some_iff.mp e).1
    exact ⟨u, by show upd H p o' (W.ι n) = _; rw [upd_ne (h3 n hn)]; exact g1, g2, g3⟩
  · have h : upd X0 p o' a = some u := h
    by_cases hb : a = p
    · subst hb
      rw [upd_same] at h ⊢
      exact ⟨h, h2, h3⟩
    · rw [upd_ne hb] at h ⊢
      exact R.ex a u (by rw [hX, upd_ne hb]; exact h)
/-- it is let go: as a free place of the heap it may be taken -/
theorem RH.drop {p : Addr} {o : HO} {X0 : Hp} (R : RH Z W S H) (hX : W.X = upd X0 p o) (h0 : X0 p = none) : RH Z { W with X := X0 } S (fun a => if a = p then none else H a) := by
  obtain ⟨h1, h2, h3⟩ := R.ex p o (by rw [hX]; exact upd_same)
  refine ⟨fun a u h => ?_, fun n v e => ?_, R.nf, R.inj, fun a u h => ?_⟩
  · have h4 : W.F a = some u := h
    rw [if_neg (fun z => by
      rw [z, h2] at h4
      cases h4)]
    exact R.fz a u h4
  · obtain ⟨u, g1, g2, g3⟩ := R.st n v e
    have hn : n < S.length := (List.getElem?_eq_some_iff.mp e).1
    exact ⟨u, by show (if W.ι n = p then none else H (W.ι n)) = _; rw [if_neg (h3 n hn)]; exact g1, g2, g3⟩
  · have h : X0 a = some u := h
    have hb : a ≠ p := fun z => by
      rw [z, h0] at h
      cases h
    rw [if_neg hb]
    exact R.ex a u (by rw [hX, upd_ne hb]; exact h)
theorem upd_drop {p : Addr} {o : HO} (h : H p = some o) : upd (fun a => if a = p then none else H a) p o = H := by
  funext a
  by_cases hb : a = p
  · subst hb
    rw [upd_same, h]
  · rw [upd_ne hb, if_neg hb]
end
end FF
set_option Elab.async false
set_option linter.all false
set_option autoImplicit false
set_option maxRecDepth 100000
set_option maxHeartbeats 4000000
/-! SN0: some rules by values more, over HandS. -/
namespace FF
open PySem PySem.Spec PyProof.Rows L2
section
variable {X : Cx} {pins : List (Addr × Obj)} {σ : L2.St} {H : Hp} {s : Shared} {l : Addr} {xs : List V}
theorem lstR (I : Inv X pins σ H s) (h : Rd H l (.lst xs)) : xs.length ≤ sizeLine ∧ ∃ (its : List Value) (n : Nat), Vals xs its ∧ xs.length = its.length ∧ s.heap.get? l = some { cls := .type "list", data := .seq its.toArray n } := by
  obtain ⟨z, its, n, r, e⟩ := h.ok I.hok
  exact ⟨z, its, n, r, r.length, e⟩
/-- list + list, read alone -/
def rCatR : R2 := fun x y H Q => ∃ l b xs zs, x = .ref l ∧ y = .ref b ∧ Rd H l (.lst xs) ∧ Rd H b (.lst zs) ∧ xs.length + zs.length ≤ sizeLine ∧ ∀ p, H p = none → Q (.ref p) (upd H p (.lst (xs ++ zs)))
theorem op_catR : OpR X (binaryOp .Add) rCatR := by
  intro pins s σ H x y v u Q I rx ry h
  obtain ⟨l, b, xs, zs, rfl, rfl, hH, hB, hz, q⟩ := h
  cases rx
  cases ry
  obtain ⟨z, its, n, r, hl, e⟩ := lstR I hH
  obtain ⟨z2, its2, n2, r2, hl2, e2⟩ := lstR I hB
  refine PySem.P.add_list e e2 ?_ (by rw [List.size_toArray, List.size_toArray]; omega)
  have ea : its.toArray ++ its2.toArray = (its ++ its2).toArray := by simp
  rw [ea]
  exact ⟨.ref _, _, I.lnew (t' := s.toks) (r.append r2) (by rw [List.length_append]; omega), rfl, q _ I.fresh⟩
/-- xs.extend(a list that is read) -/
def rExtendR : V → List V → Hp → VK → Prop := fun x vs H Q => ∃ l b xs zs, x = .ref l ∧ vs = [.ref b] ∧ H l = some (.lst xs) ∧ Rd H b (.lst zs) ∧ xs.length + zs.length ≤ sizeLine ∧ Q .non (upd H l (.lst (xs ++ zs)))
theorem mt_extendR : MtR X "list.extend" rExtendR := by
  intro pins s σ H x vs v us Q I rx rv h
  obtain ⟨l, b, xs, zs, rfl, rfl, hH, hB, hz, q⟩ := h
  cases rx
  obtain ⟨u, rfl, ru⟩ := rv.one
  cases ru
  obtain ⟨z, its, n, r, hl, e⟩ := I.lstM hH
  obtain ⟨z2, its2, n2, r2, hl2, e2⟩ := lstR I hB
  have hsz : its.toArray.size + its2.toArray.size ≤ sizeLine := by rw [List.size_toArray, List.size_toArray]; omega
  have hlong : ¬ (!its.toArray.isEmpty && Builtin.List.listTooLong (its.toArray.size + its2.toArray.size)) = true := by
    rw [notLongL hsz, Bool.and_false]
    exact Bool.false_ne_true
  refine call_meets F.slot_list_extend ⟨_, e, rfl⟩ F.entry_list_extend (F.args_list_extend_2 _ _)
    (AutoSeq1.list_extend_list_list_0 l its.toArray n b its2.toArray n2 hlong (by rw [List.size_toArray]; omega) (by omega)) ⟨e, e2, ?_⟩
  refine ⟨.non, _, I.lset (its' := its ++ its2) hH e (by simp) (r.append r2) ?_, rfl, q⟩
  rw [List.length_append]
  omega
/-- a list that is read, so many times -/
def rRepR : R2 := fun x y H Q => ∃ l k xs, x = .ref l ∧ y = .int k ∧ Rd H l (.lst xs) ∧ 0 ≤ k ∧ k ≤ 16777216 ∧ xs.length * k.toNat ≤ 16777216 ∧ ∀ p, H p = none → Q (.ref p) (upd H p (.lst (List.replicate k.toNat xs).flatten))
theorem op_repR : OpR X (binaryOp .Mult) rRepR := by
  rintro pins s σ H x y v u Q I rx ry ⟨l, k, xs, rfl, rfl, hl, k0, k1, kz, q⟩
  cases rx
  obtain ⟨t, rfl⟩ := ry
  obtain ⟨_, us, n, rv, len, ob⟩ := lstR I hl
  have sz : us.toArray.size * k.toNat ≤ sizeLine := by
    rw [List.size_toArray, ← len, sizeLine_eq]
    exact kz
  have c1 : ¬ us.toArray.size * k.toNat > (2 ^ 63 - 1) / 8 := by
    rw [sizeLine_eq] at sz
    omega
  have c2 : ¬ (!Builtin.List.listFitsIndex k) = true := by
    rw [fitsIndex_both (by omega) (by omega)]
    decide
  have c3 : ¬ Builtin.List.listTooLong (us.toArray.size * k.toNat) = true := by
    rw [notLongL sz]
    decide
  have new : List.foldl (fun a b => a ++ b) #[] (List.replicate (if us.toArray.isEmpty = true then 0 else k.toNat) us.toArray) = (List.replicate k.toNat us).flatten.toArray := by
    have all : ∀ m : Nat, List.foldl (fun a b => a ++ b) #[] (List.replicate m us.toArray) = (List.replicate m us).flatten.toArray := fun m => by
      have z := foldl_rep us m []
      simpa using z
    rw [all]
    cases us <;> simp
  refine wpAny_binaryOp_repeat_ref (T := "list") (U := "int") (by decide) ⟨_, ob, rfl⟩ (fun s' => typeIs_int s' k t) noFill_list_mul F.fills_int_mul F.slot_int_rmul repeat_list F.slot_int_index.lookup
    (call_meets F.slot_int_rmul (typeIs_int s k t) F.entry_int_rmul (F.args_int_rmul_2 _ _) (int___rmul___int_list k t l us.toArray n)
      ⟨ob, rfl, ⟨_, ob, rfl⟩, call_meets F.slot_list_mul ⟨_, ob, rfl⟩ F.entry_list_mul (F.args_list_mul_2 _ _) (AutoListH.list___mul___list_int_3 l us.toArray n k t c2 c1 c3) ⟨ob, ?_⟩⟩)
  rw [new]
  refine ⟨.ref _, _, I.lnew (t' := s.toks) (rv.rep k.toNat) ?_, rfl, q _ I.fresh⟩
  rw [PyProof.Rows.lm_len_rep_flat, Nat.mul_comm, sizeLine_eq]
  exact kz
/-- a text, so many times -/
theorem rep_cps (a : List Nat) : ∀ k : Nat, ((List.replicate k a.toArray).foldl (· ++ ·) #[] : Array Nat) = (List.replicate k a).flatten.toArray := by
  have f : ∀ (k : Nat) (acc : Array Nat), (List.replicate k a.toArray).foldl (· ++ ·) acc = acc ++ (List.replicate k a).flatten.toArray := by
    intro k
    induction k with
    | zero => intro acc; simp
    | succ k ih => intro acc; simp [List.replicate_succ, ih]
  intro k
  rw [f]
  simp
theorem op_mulS : OpR X (binaryOp .Mult) (fun x y H Q => ∃ (a : List Nat) (k : Int), x = .str ⟨a.toArray⟩ ∧ y = .int k ∧ 0 ≤ k ∧ k ≤ 16777216 ∧ a.length * k.toNat ≤ 16777216 ∧ Q (.str ⟨(List.replicate k.toNat a).flatten.toArray⟩) H) := by
  rintro pins s σ H x y v u Q I rx ry ⟨a, k, rfl, rfl, k0, k1, kz, q⟩
  obtain ⟨t, rfl⟩ := rx
  obtain ⟨t', rfl⟩ := ry
  have len : (⟨a.toArray⟩ : Str).length = a.length := by show a.toArray.size = _; simp
  refine PySem.P.mul_str (by
    have h1 : ¬ k < -(2 ^ 63 : Int) := by omega
    have h2 : ¬ k ≥ 2 ^ 63 := by omega
    rw [decide_eq_false h1, decide_eq_false h2] <;> rfl) (fun h _ => ?_) (fun h _ => ?_) ?_
  · have hk : 0 < k := by omega
    rw [len]
    have : (a.length : Int) ≤ (2 ^ 63 - 1) / k := by
      refine Int.le_ediv_of_mul_le hk ?_
      have e : (a.length : Int) * k = ((a.length * k.toNat : Nat) : Int) := by
        rw [Int.natCast_mul, Int.toNat_of_nonneg k0]
      rw [e]
      omega
    omega
  · rw [len]
    show decide (_ > sizeLine) = false
    rw [sizeLine_eq]
    exact decide_eq_false (by omega)
  · split
    · have e : k = 0 := by omega
      subst e
      exact ⟨by show (0 : Nat) ≤ _; omega, .str ⟨(List.replicate (0 : Int).toNat a).flatten.toArray⟩, H, I.tok _, ⟨_, rfl⟩, q⟩
    · rename_i hk
      split
      · rename_i h1
        rw [Bool.or_eq_true] at h1
        have e : (List.replicate k.toNat a).flatten = a := by
          rcases h1 with h1 | h1
          · have : k = 1 := by simpa using h1
            subst this
            simp
          · have : a = [] := List.eq_nil_of_length_eq_zero (by rw [len] at h1; simpa using h1)
            subst this
            simp
        rw [e] at q
        exact ⟨.str ⟨a.toArray⟩, H, I, ⟨t, rfl⟩, q⟩
      · refine ⟨?_, .str ⟨(List.replicate k.toNat a).flatten.toArray⟩, H, I.tok _, ⟨_, by rw [rep_cps a k.toNat] <;> rfl⟩, q⟩
        show Array.size _ ≤ _
        rw [rep_cps, sizeLine_eq]
        simp
        rw [Nat.mul_comm]
        exact kz
/-! ### max(.., default=) of whole numbers -/
theorem maxD_ints : ∀ (ns : List Int) (n : Int), PySem.W.maxD (.int n) (ns.map PyData.int) = .int (maxI n ns)
  | [], n => rfl
  | y :: ns, n => by
    show List.foldl _ (if PySem.W.dataLt (PyData.int n) (PyData.int y) = true then PyData.int y else PyData.int n) (ns.map PyData.int) = _
    rw [PySem.W.dataLt_int]
    by_cases h : n < y
    · rw [if_pos (decide_eq_true h)]
      have := maxD_ints ns y
      unfold PySem.W.maxD at this
      rw [this]
      simp [maxI, h]
    · rw [if_neg (by simpa using h)]
      have := maxD_ints ns n
      unfold PySem.W.maxD at this
      rw [this]
      simp [maxI, h]
theorem depth_ints : ∀ ns : List Int, PyData.depthAll (ns.map PyData.int) = 0
  | [] => by simp [PyData.depthAll]
  | n :: ns => by simp [PyData.depthAll, PyData.depth, depth_ints ns]
theorem cr_maxK (hc : X.calm = true) (hu : X.A.units + 1 < cLine) : CallRK X (.builtin "max") ["default"] (fun xs zs H Q => ∃ (a : Addr) (ns : List Int) (k : Int), xs = [.ref a] ∧ zs = [.int k] ∧ Rd H a (.lst (ns.map V.int)) ∧ Q (.int (maxO k ns)) H) := by
  rintro pins s σ H xs zs us ws Q I rx rz ⟨a, ns, k, rfl, rfl, hl, q⟩
  obtain ⟨its, rv, pl, _⟩ := I.list (.inl hl)
  rw [Vals.ref1 rx]
  obtain ⟨u, rfl, t, rfl⟩ := rz.one
  refine PySem.W.max_list_default (xs := ns.map PyData.int) (as := []) (I.ok.hd hc) pl.isList (PyProof.Rows.IntsAre.reads _ (by simpa using rv.ints)) ?_ ?_ (fun h0 h' tk hk => ?_) fun y ys i v h' tk bs hxs hv hr hk => ?_
  · refine ⟨fun x hx y hy => ?_, fun x hx z => ?_⟩
    · obtain ⟨i, _, rfl⟩ := List.mem_map.mp hx
      obtain ⟨j, _, rfl⟩ := List.mem_map.mp hy
      rfl
    · obtain ⟨i, _, rfl⟩ := List.mem_map.mp hx
      cases z
  · rw [depth_ints]
    omega
  · have e : ns = [] := List.map_eq_nil_iff.mp h0
    subst e
    exact ⟨.int k, H, I.kept hk, ⟨t, rfl⟩, q⟩
  · cases ns with
    | nil => cases hxs
    | cons n ns =>
      have e1 : y = .int n := (List.cons.inj hxs).1.symm
      have e2 : ys = ns.map PyData.int := (List.cons.inj hxs).2.symm
      subst e1 e2
      rw [maxD_ints] at hr
      obtain ⟨t2, rfl, _⟩ := PyProof.Rows.reads_int_inv hr
      exact ⟨.int (maxI n ns), H, I.kept hk, ⟨t2, rfl⟩, q⟩
end
end FF
set_option Elab.async false
set_option linter.all false
set_option autoImplicit false
set_option maxRecDepth 100000
set_option maxHeartbeats 4000000
/-! SNB: values' rules for the evaluator. -/
namespace FF
open PySem PySem.Spec PyProof.Rows L2 TL
theorem cap_line : cap = sizeLine := by rw [sizeLine_eq]; rfl
theorem okI_le {n : Nat} (h : okI n = true) : n ≤ sizeLine := by rw [← cap_line]; exact of_decide_eq_true h
theorem str_app (a b : List Nat) : (⟨a.toArray⟩ : Str) ++ (⟨b.toArray⟩ : Str) = (⟨(a ++ b).toArray⟩ : Str) := ext_tl (by rw [tl_append] <;> rfl)
theorem str_len (a : List Nat) : (⟨a.toArray⟩ : Str).length = a.length := by rw [len_tl] <;> rfl

/-- an operation of two values: f does what g says -/
def Op2 (X : Cx) (Z : Sit) (f : Value → Value → Sem Value) (g : Store → PV → PV → Option PV) : Prop :=
  ∀ (pins : List (Addr × Obj)) (s : Shared) (σ : L2.St) (H : Hp) (x y : V) (v u : Value) (Q : VK) (W : Wd) (S : Store) (p q r : PV), Inv X pins σ H s → RelV x v → RelV y u → RH Z W S H → RV Z W.F W.ι S.length p x → RV Z W.F W.ι S.length q y →
    g S p q = some r → (∀ W' z H', Ext W S W' S → RH Z W' S H' → RV Z W'.F W'.ι S.length r z → Q z H') → wpAny (model X.prog X.w) X.A (f v u) (EP X pins σ Q) X.xe s
section
variable {X : Cx} {Z : Sit} (hK : X.K = Z.K)
/-- a new frozen object as what comes -/
theorem new_ice {W : Wd} {S : Store} {H : Hp} {Q : VK} {r : PV} {o : HO} (R : RH Z W S H) (ro : RO Z W.F W.ι S.length r o) (k : ∀ W' z H', Ext W S W' S → RH Z W' S H' → RV Z W'.F W'.ι S.length r z → Q z H') :
    ∀ p, H p = none → Q (.ref p) (upd H p o) := fun p hp => by
  obtain ⟨R', ex⟩ := R.ice (o := o) hp
  refine k _ _ _ ex R' (.obj (o := o) ?_ (ro.mono ex.fz (Nat.le_refl _) fun _ _ => rfl))
  show upd W.F p o p = some o
  exact upd_same
theorem same {W : Wd} {S : Store} {H : Hp} {Q : VK} {r : PV} {z : V} (R : RH Z W S H) (k : ∀ W' z H', Ext W S W' S → RH Z W' S H' → RV Z W'.F W'.ι S.length r z → Q z H') (rv : RV Z W.F W.ι S.length r z) : Q z H := k _ _ _ (Ext.refl _ _) R rv

include hK in
theorem op2_add : Op2 X Z (binaryOp .Add) fun S a b => vadd (view S a) (view S b) := by
  intro pins s σ H x y v u Q W S p q r I rx ry R rp rq e k
  dsimp only at e
  have sp := R.seen rp
  have sq := R.seen rq
  cases ep : view S p with
  | int a => cases eq : view S q with
    | int b =>
      rw [ep, eq] at e
      rw [ep] at sp
      rw [eq] at sq
      cases e
      exact op_add pins s σ H x y v u Q I rx ry ⟨_, _, sp.int_, sq.int_, same R k (.int _)⟩
    | _ => rw [ep, eq] at e; cases e
  | str a => cases eq : view S q with
    | str b =>
      rw [ep, eq] at e
      rw [ep] at sp
      rw [eq] at sq
      simp only [vadd] at e
      split at e
      · rename_i hz
        cases e
        refine op_add_str pins s σ H x y v u Q I rx ry ⟨_, _, sp.str_, sq.str_, ?_, ?_⟩
        · rw [str_len, str_len]
          exact okI_le hz
        · rw [str_app]
          exact same R k (.str _)
      · cases e
    | _ => rw [ep, eq] at e; cases e
  | lst a => cases eq : view S q with
    | lst b =>
      rw [ep, eq] at e
      rw [ep] at sp
      rw [eq] at sq
      simp only [vadd] at e
      split at e
      · rename_i hz
        cases e
        obtain ⟨l1, v1, rfl, h1, r1⟩ := sp.lst_
        obtain ⟨l2, v2, rfl, h2, r2⟩ := sq.lst_
        refine op_catR pins s σ H _ _ v u Q I rx ry ⟨l1, l2, v1, v2, rfl, rfl, h1, h2, ?_, new_ice R (.lst (r1.append r2)) k⟩
        rw [← r1.length, ← r2.length]
        exact okI_le hz
      · cases e
    | _ => rw [ep, eq] at e; cases e
  | tup a => cases eq : view S q with
    | tup b =>
      rw [ep, eq] at e
      rw [ep] at sp
      rw [eq] at sq
      have p1 := view_tup R rp ep
      have q1 := view_tup R rq eq
      subst p1 q1
      simp only [vadd] at e
      split at e
      · rename_i hz
        cases e
        obtain ⟨l1, v1, rfl, h1, r1⟩ := sp.tup_
        obtain ⟨l2, v2, rfl, h2, r2⟩ := sq.tup_
        refine op_catA pins s σ H _ _ v u Q I rx ry ⟨l1, l2, v1, v2, rfl, rfl, by rw [hK]; exact h1, by rw [hK]; exact h2, ?_, fun z => ?_, fun _ z => ?_, fun _ _ => new_ice R (.tup (r1.append r2)) k⟩
        · rw [← r1.length, ← r2.length]
          exact okI_le hz
        · subst z
          cases r1
          exact same R k rq
        · subst z
          cases r2
          rw [List.append_nil] at k
          exact same R k rp
      · cases e
    | _ => rw [ep, eq] at e; cases e
  | _ => rw [ep] at e; cases e
include hK in
theorem op2_mul : Op2 X Z (binaryOp .Mult) fun S a b => vmul (view S a) (view S b) := by
  intro pins s σ H x y v u Q W S p q r I rx ry R rp rq e k
  dsimp only at e
  have sp := R.seen rp
  have sq := R.seen rq
  cases eq : view S q with
  | int b =>
    rw [eq] at e sq
    cases ep : view S p with
    | int a =>
      rw [ep] at e sp
      simp only [vmul] at e
      split at e
      · rename_i hz
        cases e
        refine op_mul pins s σ H x y v u Q I rx ry ⟨_, _, sp.int_, sq.int_, ?_, same R k (.int _)⟩
        rw [Bool.or_eq_true, decide_eq_true_eq, decide_eq_true_eq] at hz
        unfold CMul
        omega
      · cases e
    | lst a =>
      rw [ep] at e sp
      simp only [vmul, reps] at e
      split at e
      · rename_i hz
        cases e
        rw [Bool.and_eq_true, Bool.and_eq_true, decide_eq_true_eq, decide_eq_true_eq] at hz
        obtain ⟨⟨h0, h1⟩, h2⟩ := hz
        obtain ⟨l1, v1, rfl, g1, r1⟩ := sp.lst_
        refine op_repR pins s σ H _ _ v u Q I rx ry ⟨l1, b, v1, rfl, sq.int_, g1, h0, h1, ?_, new_ice R (.lst (r1.rep _)) k⟩
        rw [← r1.length]
        exact of_decide_eq_true h2
      · cases e
    | str a =>
      rw [ep] at e sp
      simp only [vmul, reps] at e
      split at e
      · rename_i hz
        cases e
        rw [Bool.and_eq_true, Bool.and_eq_true, decide_eq_true_eq, decide_eq_true_eq] at hz
        obtain ⟨⟨h0, h1⟩, h2⟩ := hz
        exact op_mulS pins s σ H _ _ v u Q I rx ry ⟨a, b, sp.str_, sq.int_, h0, h1, of_decide_eq_true h2, same R k (.str _)⟩
      · cases e
    | tup a =>
      rw [ep] at e sp
      simp only [vmul] at e
      split at e
      · rename_i hz
        cases e
        simp only [Bool.and_eq_true, decide_eq_true_eq] at hz
        obtain ⟨⟨⟨h0, h1⟩, h2⟩, h3⟩ := hz
        obtain ⟨l1, v1, rfl, g1, r1⟩ := sp.tup_
        refine op_repT pins s σ H _ _ v u Q I rx ry ⟨l1, b, v1, rfl, sq.int_, by rw [hK]; exact g1, fun z => h0 ?_, h1, h2, by rw [← r1.length]; exact h3, new_ice R (.tup (r1.rep _)) k⟩
        subst z
        cases r1
        rfl
      · cases e
    | _ => rw [ep] at e; cases e
  | _ =>
    rw [eq] at e
    cases ep : view S p <;> (rw [ep] at e; cases e)
/-- two ints -/
theorem two_int {W : Wd} {S : Store} {H : Hp} {x y : V} {p q : PV} {a b : Int} (R : RH Z W S H) (rp : RV Z W.F W.ι S.length p x) (rq : RV Z W.F W.ι S.length q y) (ep : view S p = .int a) (eq : view S q = .int b) : x = .int a ∧ y = .int b := by
  have sp := R.seen rp
  have sq := R.seen rq
  rw [ep] at sp
  rw [eq] at sq
  exact ⟨sp.int_, sq.int_⟩
theorem op2_sub : Op2 X Z (binaryOp .Sub) fun S a b => vbin .sub (view S a) (view S b) := by
  intro pins s σ H x y v u Q W S p q r I rx ry R rp rq e k
  dsimp only at e
  cases ep : view S p with
  | int a => cases eq : view S q with
    | int b =>
      rw [ep, eq] at e
      cases e
      obtain ⟨h1, h2⟩ := two_int R rp rq ep eq
      exact op_sub pins s σ H x y v u Q I rx ry ⟨_, _, h1, h2, same R k (.int _)⟩
    | _ => rw [ep, eq] at e; cases e
  | _ => rw [ep] at e; cases e
theorem op2_fdiv : Op2 X Z (binaryOp .FloorDiv) fun S a b => vbin .fdiv (view S a) (view S b) := by
  intro pins s σ H x y v u Q W S p q r I rx ry R rp rq e k
  dsimp only at e
  cases ep : view S p with
  | int a => cases eq : view S q with
    | int b =>
      rw [ep, eq] at e
      simp only [vbin] at e
      split at e
      · rename_i hz
        cases e
        simp only [Bool.and_eq_true, decide_eq_true_eq] at hz
        obtain ⟨h1, h2⟩ := two_int R rp rq ep eq
        exact op_fdiv pins s σ H x y v u Q I rx ry ⟨_, _, h1, h2, hz, same R k (.int _)⟩
      · cases e
    | _ => rw [ep, eq] at e; cases e
  | _ => rw [ep] at e; cases e
theorem op2_mod : Op2 X Z (binaryOp .Mod) fun S a b => vbin .mod (view S a) (view S b) := by
  intro pins s σ H x y v u Q W S p q r I rx ry R rp rq e k
  dsimp only at e
  cases ep : view S p with
  | int a => cases eq : view S q with
    | int b =>
      rw [ep, eq] at e
      simp only [vbin] at e
      split at e
      · rename_i hz
        cases e
        simp only [decide_eq_true_eq] at hz
        obtain ⟨h1, h2⟩ := two_int R rp rq ep eq
        exact op_mod pins s σ H x y v u Q I rx ry ⟨_, _, h1, h2, hz, same R k (.int _)⟩
      · cases e
    | _ => rw [ep, eq] at e; cases e
  | _ => rw [ep] at e; cases e
theorem op2_pow : Op2 X Z (binaryOp .Pow) fun S a b => vbin .pow (view S a) (view S b) := by
  intro pins s σ H x y v u Q W S p q r I rx ry R rp rq e k
  dsimp only at e
  cases ep : view S p with
  | int a => cases eq : view S q with
    | int b =>
      rw [ep, eq] at e
      simp only [vbin] at e
      split at e
      · rename_i hz
        cases e
        simp only [Bool.and_eq_true, decide_eq_true_eq] at hz
        obtain ⟨h1, h2⟩ := two_int R rp rq ep eq
        exact op_pow pins s σ H x y v u Q I rx ry ⟨_, _, h1, h2, ⟨hz.1.1, hz.1.2, hz.2⟩, same R k (.int _)⟩
      · cases e
    | _ => rw [ep, eq] at e; cases e
  | _ => rw [ep] at e; cases e
def bop : BOp → Operator
  | .add => .Add
  | .sub => .Sub
  | .mul => .Mult
  | .fdiv => .FloorDiv
  | .mod => .Mod
  | .pow => .Pow
include hK in
theorem op2_bin : ∀ o : BOp, Op2 X Z (binaryOp (bop o)) fun S a b => vbin o (view S a) (view S b)
  | .add => op2_add hK
  | .sub => op2_sub
  | .mul => op2_mul hK
  | .fdiv => op2_fdiv
  | .mod => op2_mod
  | .pow => op2_pow
theorem shp_of {v : PV} {d : PyData} (h : shp v = some d) : toD v = some d ∧ SeqAt.shaped d = true := by
  unfold shp at h
  split at h
  · rename_i e he
    split at h
    · rename_i hs
      cases h
      exact ⟨he, hs⟩
    · cases h
  · cases h
include hK in
theorem two_dp {W : Wd} {S : Store} {H : Hp} {x y : V} {p q : PV} {d e : PyData} (R : RH Z W S H) (rp : RV Z W.F W.ι S.length p x) (rq : RV Z W.F W.ι S.length q y) (hd : shp (view S p) = some d) (he : shp (view S q) = some e) :
    Dp X.K H x d ∧ Dp X.K H y e ∧ SeqAt.shaped d = true ∧ SeqAt.shaped e = true := by
  obtain ⟨d1, d2⟩ := shp_of hd
  obtain ⟨e1, e2⟩ := shp_of he
  rw [hK]
  exact ⟨(R.seen rp).dp R d1, (R.seen rq).dp R e1, d2, e2⟩
theorem eqV_of {a b : PV} {k : Bool} (h : eqV a b = some k) : (∃ d e, shp a = some d ∧ shp b = some e ∧ k = PyData.eqv d e) ∨ ∃ xs ys, a = .lst xs ∧ b = .lst ys ∧ xs.length ≠ ys.length ∧ k = false := by
  unfold eqV at h
  split at h
  · rename_i d e h1 h2
    cases h
    exact .inl ⟨d, e, h1, h2, rfl⟩
  · refine .inr ?_
    cases a with
    | lst xs =>
      cases b with
      | lst ys =>
        simp only [neLen] at h
        split at h
        · cases h
        · rename_i hl
          cases h
          exact ⟨xs, ys, rfl, rfl, hl, rfl⟩
      | _ => cases h
    | _ => cases h
theorem rvs_len {F : Hp} {ι : Nat → Addr} {N : Nat} : ∀ {ps : List PV} {vs : List V}, RVs Z F ι N ps vs → ps.length = vs.length
  | _, _, .nil => rfl
  | _, _, .cons _ t => by simp [rvs_len t]
/-- two lists that are not equally long -/
theorem two_len {W : Wd} {S : Store} {H : Hp} {pins : List (Addr × Obj)} {σ : L2.St} {s : Shared} {x y : V} {p q : PV} {v u : Value} {xs ys : List PV} (I : Inv X pins σ H s) (rx : RelV x v) (ry : RelV y u) (R : RH Z W S H) (rp : RV Z W.F W.ι S.length p x) (rq : RV Z W.F W.ι S.length q y) (h1 : view S p = .lst xs) (h2 : view S q = .lst ys) (hl : xs.length ≠ ys.length) :
    ∃ (a b : Addr) (its its2 : Array Value), v = .ref a ∧ u = .ref b ∧ s.heap.IsList a its ∧ s.heap.IsList b its2 ∧ (its.size != its2.size) = true := by
  have s1 := R.seen rp
  have s2 := R.seen rq
  rw [h1] at s1
  rw [h2] at s2
  obtain ⟨a, vs, rfl, d1, r1⟩ := s1.lst_
  obtain ⟨b, us, rfl, d2, r2⟩ := s2.lst_
  obtain ⟨its, v1, p1, _⟩ := I.list (.inl d1)
  obtain ⟨its2, v2, p2, _⟩ := I.list (.inl d2)
  have e1 := v1.length
  have e2 := v2.length
  have e3 := rvs_len r1
  have e4 := rvs_len r2
  refine ⟨a, b, its.toArray, its2.toArray, rx, ry, p1.isList, p2.isList, ?_⟩
  simp only [List.size_toArray, bne_iff_ne, ne_eq]
  omega
def cop : COp → CmpOp
  | .eq => .Eq
  | .ne => .NotEq
  | .lt => .Lt
  | .le => .LtE
  | .gt => .Gt
  | .ge => .GtE
  | .isin => .In
  | .notin => .NotIn
  | .is_ => .Is
  | .isnot => .IsNot
include hK in
theorem op2_eq (hu : X.A.units + 64 < cLine) : Op2 X Z (compareOp .Eq) fun S a b => (eqV (view S a) (view S b)).map .bl := by
  intro pins s σ H x y v u Q W S p q r I rx ry R rp rq e k
  dsimp only at e
  obtain ⟨b, h, rfl⟩ := Option.map_eq_some_iff.mp e
  rcases eqV_of h with ⟨d, d', h1, h2, rfl⟩ | ⟨xs, ys, h1, h2, hl, rfl⟩
  rotate_left
  · obtain ⟨a, b, its, its2, rfl, rfl, l1, l2, hz⟩ := two_len I rx ry R rp rq h1 h2 hl
    exact PySem.SeqAt.eq_list_lengthsAt l1 l2 hz (by omega) ⟨.bl false, H, I, rfl, same R k (.bl _)⟩
  obtain ⟨a1, a2, a3, a4⟩ := two_dp hK R rp rq h1 h2
  exact op_eqD hu pins s σ H x y v u Q I rx ry ⟨d, d', a1, a2, a3, a4, same R k (.bl _)⟩
include hK in
theorem op2_ne (hu : X.A.units + 64 < cLine) : Op2 X Z (compareOp .NotEq) fun S a b => ((eqV (view S a) (view S b)).map (!·)).map .bl := by
  intro pins s σ H x y v u Q W S p q r I rx ry R rp rq e k
  dsimp only at e
  obtain ⟨b, h, rfl⟩ := Option.map_eq_some_iff.mp e
  obtain ⟨c, g, rfl⟩ := Option.map_eq_some_iff.mp h
  clear h
  have h := g
  clear g
  rcases eqV_of h with ⟨d, d', h1, h2, rfl⟩ | ⟨xs, ys, h1, h2, hl, rfl⟩
  rotate_left
  · obtain ⟨a, b, its, its2, rfl, rfl, l1, l2, hz⟩ := two_len I rx ry R rp rq h1 h2 hl
    exact PySem.SeqAt.RcNeAt.lists_lengths l1 l2 hz (by omega) _ _ _ _ ⟨.bl true, H, I, rfl, same R k (.bl _)⟩
  obtain ⟨a1, a2, a3, a4⟩ := two_dp hK R rp rq h1 h2
  exact op_neD hu pins s σ H x y v u Q I rx ry ⟨d, d', a1, a2, a3, a4, same R k (.bl _)⟩
theorem rv_int {W : Wd} {N : Nat} {i : Int} {x : V} (r : RV Z W.F W.ι N (.int i) x) : x = .int i := by
  cases r with
  | int => rfl
  | obj h r => cases r
theorem rv_bl {W : Wd} {N : Nat} {i : Bool} {x : V} (r : RV Z W.F W.ι N (.bl i) x) : x = .bl i := by
  cases r with
  | bl => rfl
  | obj h r => cases r
theorem rv_str {W : Wd} {N : Nat} {i : List Nat} {x : V} (r : RV Z W.F W.ι N (.str i) x) : x = .str ⟨i.toArray⟩ := by
  cases r with
  | str => rfl
  | obj h r => cases r
theorem rv_non {W : Wd} {N : Nat} {x : V} (r : RV Z W.F W.ι N .non x) : x = .non := by
  cases r with
  | non => rfl
  | obj h r => cases r
/-- None stands for nothing else -/
theorem rv_isnon {W : Wd} {N : Nat} {p : PV} {x : V} (r : RV Z W.F W.ι N p x) : decide (x = .non) = decide (p = .non) := by
  cases r with
  | obj h r => rcases r.shape with ⟨_, rfl⟩ | ⟨_, rfl⟩ | ⟨_, _, rfl⟩ | ⟨_, _, _, rfl⟩ <;> simp
  | _ => simp
theorem op2_ord {op : CmpOp} {f : Int → Int → Bool} (ho : OpR X (compareOp op) (rI0 fun i j => .bl (f i j))) : Op2 X Z (compareOp op) fun _ a b => (vord f a b).map .bl := by
  intro pins s σ H x y v u Q W S p q r I rx ry R rp rq e k
  dsimp only at e
  obtain ⟨b, h, rfl⟩ := Option.map_eq_some_iff.mp e
  cases p with
  | int i => cases q with
    | int j =>
      cases h
      exact ho pins s σ H x y v u Q I rx ry ⟨i, j, rv_int rp, rv_int rq, same R k (.bl _)⟩
    | _ => cases h
  | _ => cases q <;> cases h
theorem op2_lt : Op2 X Z (compareOp .Lt) fun _ a b => (vlt a b).map .bl := by
  intro pins s σ H x y v u Q W S p q r I rx ry R rp rq e k
  dsimp only at e
  obtain ⟨b, h, rfl⟩ := Option.map_eq_some_iff.mp e
  cases p with
  | int i => cases q with
    | int j =>
      cases h
      exact op_lt pins s σ H x y v u Q I rx ry ⟨i, j, rv_int rp, rv_int rq, same R k (.bl _)⟩
    | _ => cases h
  | str i => cases q with
    | str j =>
      cases h
      exact op_lt_str pins s σ H x y v u Q I rx ry ⟨_, _, rv_str rp, rv_str rq, same R k (.bl _)⟩
    | _ => cases h
  | _ => cases q <;> cases h
theorem op2_is : Op2 X Z (compareOp .Is) fun _ a b => (visn a b).map .bl := by
  intro pins s σ H x y v u Q W S p q r I rx ry R rp rq e k
  dsimp only at e
  obtain ⟨b, h, rfl⟩ := Option.map_eq_some_iff.mp e
  cases q with
  | non =>
    cases h
    refine op_isN pins s σ H x y v u Q I rx ry ⟨rv_non rq, ?_⟩
    rw [rv_isnon rp]
    exact same R k (.bl _)
  | bl j => cases p with
    | bl i =>
      cases h
      exact op_isBl pins s σ H x y v u Q I rx ry ⟨i, j, rv_bl rp, rv_bl rq, same R k (.bl _)⟩
    | _ => cases h
  | _ => cases h
theorem op2_isnot : Op2 X Z (compareOp .IsNot) fun _ a b => ((visn a b).map (!·)).map .bl := by
  intro pins s σ H x y v u Q W S p q r I rx ry R rp rq e k
  dsimp only at e
  obtain ⟨b, h, rfl⟩ := Option.map_eq_some_iff.mp e
  obtain ⟨c, g, rfl⟩ := Option.map_eq_some_iff.mp h
  clear h
  have h := g
  clear g
  cases q with
  | non =>
    cases h
    refine op_notN pins s σ H x y v u Q I rx ry ⟨rv_non rq, ?_⟩
    rw [rv_isnon rp]
    exact same R k (.bl _)
  | bl j => cases p with
    | bl i =>
      cases h
      exact op_notBl pins s σ H x y v u Q I rx ry ⟨i, j, rv_bl rp, rv_bl rq, same R k (.bl _)⟩
    | _ => cases h
  | _ => cases h
def rInT (K : PySem.W.Frag) : R2 := fun x y H Q => ∃ d ds, Dp K H x d ∧ Dp K H y (.tuple ds) ∧ SeqAt.shaped d = true ∧ SeqAt.shaped (.tuple ds) = true ∧ Q (.bl (ds.any fun z => PyData.eqv z d)) H
def rNotInT (K : PySem.W.Frag) : R2 := fun x y H Q => ∃ d ds, Dp K H x d ∧ Dp K H y (.tuple ds) ∧ SeqAt.shaped d = true ∧ SeqAt.shaped (.tuple ds) = true ∧ Q (.bl (!ds.any fun z => PyData.eqv z d)) H
theorem op_inT (hu : X.A.units + 65 < cLine) : OpR X (compareOp .In) (rInT X.K) := by
  rintro pins s σ H x y v u Q I rx ry ⟨d, ds, hd, he, sd, se, q⟩
  obtain ⟨_, g1⟩ := Dp.reads I d x v hd rx
  obtain ⟨_, g2⟩ := Dp.reads I (.tuple ds) y u he ry
  exact SeqAt.in_tuple_reads g2 g1 (SeqAt.canLay_of_shaped se) (SeqAt.canLay_of_shaped sd) (room_in_shaped sd hu) ⟨.bl _, H, I, rfl, q⟩
theorem op_notInT (hu : X.A.units + 65 < cLine) : OpR X (compareOp .NotIn) (rNotInT X.K) := by
  rintro pins s σ H x y v u Q I rx ry ⟨d, ds, hd, he, sd, se, q⟩
  obtain ⟨_, g1⟩ := Dp.reads I d x v hd rx
  obtain ⟨_, g2⟩ := Dp.reads I (.tuple ds) y u he ry
  exact SeqAt.notIn_tuple_reads g2 g1 (SeqAt.canLay_of_shaped se) (SeqAt.canLay_of_shaped sd) (room_in_shaped sd hu) ⟨.bl _, H, I, rfl, q⟩
theorem toDs_some {xs : List PV} {d : PyData} : (toD (.lst xs) = some d → ∃ ds, d = .list ds) ∧ (toD (.tup xs) = some d → ∃ ds, d = .tuple ds) := by
  constructor <;>
  · intro h
    simp only [toD, Option.map_eq_some_iff] at h
    obtain ⟨ds, _, rfl⟩ := h
    exact ⟨ds, rfl⟩
include hK in
theorem op2_in (hu : X.A.units + 65 < cLine) : Op2 X Z (compareOp .In) fun S a b => (vin S a b).map .bl := by
  intro pins s σ H x y v u Q W S p q r I rx ry R rp rq e k
  dsimp only at e
  obtain ⟨b, h, rfl⟩ := Option.map_eq_some_iff.mp e
  unfold vin at h
  cases eq : view S q with
  | str j =>
    rw [eq] at h
    cases p with
    | str i =>
      cases h
      have sq := R.seen rq
      rw [eq] at sq
      exact op_in_str pins s σ H x y v u Q I rx ry ⟨_, _, rv_str rp, sq.str_, same R k (.bl _)⟩
    | _ => cases h
  | lst ys =>
    rw [eq] at h
    dsimp only at h
    unfold anyEq at h
    split at h
    · rename_i d ds h1 h2
      cases h
      obtain ⟨a1, a2, a3, a4⟩ := two_dp hK R rp rq h1 (by rw [eq]; exact h2)
      exact op_inD hu pins s σ H x y v u Q I rx ry ⟨d, ds, a1, a2, a3, a4, same R k (.bl _)⟩
    · rename_i d ds h1 h2
      obtain ⟨_, z⟩ := toDs_some.1 (shp_of h2).1
      cases z
    · cases h
  | tup ys =>
    rw [eq] at h
    dsimp only at h
    unfold anyEq at h
    split at h
    · rename_i d ds h1 h2
      obtain ⟨_, z⟩ := toDs_some.2 (shp_of h2).1
      cases z
    · rename_i d ds h1 h2
      cases h
      obtain ⟨a1, a2, a3, a4⟩ := two_dp hK R rp rq h1 (by rw [eq]; exact h2)
      exact op_inT hu pins s σ H x y v u Q I rx ry ⟨d, ds, a1, a2, a3, a4, same R k (.bl _)⟩
    · cases h
  | _ => rw [eq] at h; cases h
include hK in
theorem op2_notin (hu : X.A.units + 65 < cLine) : Op2 X Z (compareOp .NotIn) fun S a b => ((vin S a b).map (!·)).map .bl := by
  intro pins s σ H x y v u Q W S p q r I rx ry R rp rq e k
  dsimp only at e
  obtain ⟨b, h, rfl⟩ := Option.map_eq_some_iff.mp e
  obtain ⟨c, g, rfl⟩ := Option.map_eq_some_iff.mp h
  clear h
  have h := g
  clear g
  unfold vin at h
  cases eq : view S q with
  | str j =>
    rw [eq] at h
    cases p with
    | str i =>
      cases h
      have sq := R.seen rq
      rw [eq] at sq
      exact op_notin_str pins s σ H x y v u Q I rx ry ⟨_, _, rv_str rp, sq.str_, same R k (.bl _)⟩
    | _ => cases h
  | lst ys =>
    rw [eq] at h
    dsimp only at h
    unfold anyEq at h
    split at h
    · rename_i d ds h1 h2
      cases h
      obtain ⟨a1, a2, a3, a4⟩ := two_dp hK R rp rq h1 (by rw [eq]; exact h2)
      exact op_notInD hu pins s σ H x y v u Q I rx ry ⟨d, ds, a1, a2, a3, a4, same R k (.bl _)⟩
    · rename_i d ds h1 h2
      obtain ⟨_, z⟩ := toDs_some.1 (shp_of h2).1
      cases z
    · cases h
  | tup ys =>
    rw [eq] at h
    dsimp only at h
    unfold anyEq at h
    split at h
    · rename_i d ds h1 h2
      obtain ⟨_, z⟩ := toDs_some.2 (shp_of h2).1
      cases z
    · rename_i d ds h1 h2
      cases h
      obtain ⟨a1, a2, a3, a4⟩ := two_dp hK R rp rq h1 (by rw [eq]; exact h2)
      exact op_notInT hu pins s σ H x y v u Q I rx ry ⟨d, ds, a1, a2, a3, a4, same R k (.bl _)⟩
    · cases h
  | _ => rw [eq] at h; cases h
include hK in
theorem op2_cmp (hu : X.A.units + 65 < cLine) : ∀ o : COp, Op2 X Z (compareOp (cop o)) fun S a b => (vcmp S o a b).map .bl
  | .eq => op2_eq hK (by omega)
  | .ne => op2_ne hK (by omega)
  | .lt => op2_lt
  | .le => op2_ord op_le
  | .gt => op2_ord op_gt
  | .ge => op2_ord op_ge
  | .isin => op2_in hK hu
  | .notin => op2_notin hK hu
  | .is_ => op2_is
  | .isnot => op2_isnot
end
end FF
set_option Elab.async false
set_option linter.all false
set_option autoImplicit false
set_option maxRecDepth 100000
set_option maxHeartbeats 4000000
/-! SNC: expressions. -/
namespace FF
open PySem PySem.Spec PyProof.Rows L2 TL
/-- what the evaluator says, as a reading -/
def teOf (Z : Sit) (m : Env → Store → Res PV) : TE := fun σ H Q => ∃ W ρ S v S', RH Z W S H ∧ RE Z W S.length ρ σ ∧ m ρ S = .ok v S' ∧ ∀ W' x H', Ext W S W' S' → RH Z W' S' H' → RV Z W'.F W'.ι S'.length v x → Q x H'
def taOf (Z : Sit) (m : Env → Store → Res (List PV)) : TA := fun σ H Q => ∃ W ρ S v S', RH Z W S H ∧ RE Z W S.length ρ σ ∧ m ρ S = .ok v S' ∧ ∀ W' x H', Ext W S W' S' → RH Z W' S' H' → RVs Z W'.F W'.ι S'.length v x → Q x H'
def ttOf (Z : Sit) (m : Env → Store → Res Bool) : TT := fun σ H Q => ∃ W ρ S v S', RH Z W S H ∧ RE Z W S.length ρ σ ∧ m ρ S = .ok v S' ∧ ∀ W' H', Ext W S W' S' → RH Z W' S' H' → Q v H'
theorem bind_ok {α β : Type} {m : Res α} {f : α → Store → Res β} {r : β} {S' : Store} (h : m.bind f = .ok r S') : ∃ a S1, m = .ok a S1 ∧ f a S1 = .ok r S' := by
  cases m with
  | ok a S => exact ⟨a, S, rfl, h⟩
  | exc x S => cases h
  | bad => cases h
theorem opt_ok {α : Type} {S S' : Store} {o : Option α} {r : α} (h : opt S o = .ok r S') : o = some r ∧ S' = S := by
  cases o with
  | none => cases h
  | some a => cases h; exact ⟨rfl, rfl⟩
theorem pe_mono {X : Cx} {e : Expr} {t t' : TE} (h : PE X e t) (m : ∀ σ H Q, t' σ H Q → t σ H Q) : PE X e t' := ⟨fun pins s σ H Q I q => h.run pins s σ H Q I (m σ H Q q)⟩
/-- how a new object is kept -/
theorem new_alloc {Z : Sit} {W : Wd} {S S' : Store} {H : Hp} {Q : VK} {m : Bool} {r v : PV} {o : HO} (R : RH Z W S H) (ro : RO Z W.F W.ι S.length r o) (lv : Live o) (e : alloc m r S = .ok v S')
    (k : ∀ W' z H', Ext W S W' S' → RH Z W' S' H' → RV Z W'.F W'.ι S'.length v z → Q z H') : ∀ p, H p = none → Q (.ref p) (upd H p o) := fun p hp => by
  unfold alloc at e
  cases m with
  | true =>
    cases e
    obtain ⟨R', ex⟩ := R.more hp ro lv
    refine k _ _ _ ex R' ?_
    have h : RV Z (W.more S.length p).F (W.more S.length p).ι (S ++ [r]).length (.ref S.length) (.ref ((W.more S.length p).ι S.length)) := .ref _ (by simp)
    have e2 : (W.more S.length p).ι S.length = p := by
      show (if S.length = S.length then p else _) = p
      rw [if_pos rfl]
    rw [e2] at h
    exact h
  | false =>
    cases e
    exact new_ice R ro k p hp
section
variable {X : Cx} {Z : Sit} (hK : X.K = Z.K) {a b c : Expr} {es : List Expr} {pos : Pos} {ma mb mc : Env → Store → Res PV} {ms : Env → Store → Res (List PV)}
/-- two in a row, and an operation -/
theorem run2 {f : Value → Value → Sem Value} {g : Store → PV → PV → Option PV} (ho : Op2 X Z f g) (ha : PE X a (teOf Z ma)) (hb : PE X b (teOf Z mb)) {pins : List (Addr × Obj)} {s : Shared} {σ : L2.St} {H : Hp} {Q : VK} {W : Wd} {ρ : Env} {S S' : Store} {r : PV}
    (I : Inv X pins σ H s) (R : RH Z W S H) (E : RE Z W S.length ρ σ) (hm : ((ma ρ S).bind fun x S1 => (mb ρ S1).bind fun y S2 => opt S2 (g S2 x y)) = .ok r S')
    (k : ∀ W' z H', Ext W S W' S' → RH Z W' S' H' → RV Z W'.F W'.ι S'.length r z → Q z H') :
    wpAny (model X.prog X.w) X.A (eval a X.env) (fun v s₁ => wpAny (model X.prog X.w) X.A (eval b X.env) (fun u s₂ => wpAny (model X.prog X.w) X.A (f v u) (EP X pins σ Q) X.xe s₂) X.xe s₁) X.xe s := by
  obtain ⟨p, S1, h1, hm⟩ := bind_ok hm
  obtain ⟨q, S2, h2, hm⟩ := bind_ok hm
  obtain ⟨h3, e3⟩ := opt_ok hm
  subst e3
  refine thn (ha.run pins s σ H (fun x H1 => ∃ W1, Ext W S W1 S1 ∧ RH Z W1 S1 H1 ∧ RV Z W1.F W1.ι S1.length p x) I ⟨W, ρ, S, p, S1, R, E, h1, fun W1 x H1 x1 R1 r1 => ⟨W1, x1, R1, r1⟩⟩) fun v s1 ⟨x, H1, I1, rx, W1, x1, R1, r1⟩ => ?_
  refine thn (hb.run pins s1 σ H1 (fun y H2 => ∃ W2, Ext W1 S1 W2 S' ∧ RH Z W2 S' H2 ∧ RV Z W2.F W2.ι S'.length q y) I1 ⟨W1, ρ, S1, q, S', R1, x1.re E, h2, fun W2 y H2 x2 R2 r2 => ⟨W2, x2, R2, r2⟩⟩) fun u s2 ⟨y, H2, I2, ry, W2, x2, R2, r2⟩ => ?_
  exact ho pins s2 σ H2 x y v u Q W2 S' p q r I2 rx ry R2 (x2.rv r1) r2 h3 fun W' z H' ex R' rz => k W' z H' ((x1.trans x2).trans ex) R' rz
include hK in
theorem e_bin (o : BOp) (ha : PE X a (teOf Z ma)) (hb : PE X b (teOf Z mb)) : PE X (.BinOp a (bop o) b pos) (teOf Z fun ρ S => (ma ρ S).bind fun x S1 => (mb ρ S1).bind fun y S2 => opt S2 (vbin o (view S2 x) (view S2 y))) := by
  refine ⟨fun pins s σ H Q I ⟨W, ρ, S, v, S', R, E, hm, k⟩ => ?_⟩
  exact wpAny_BinOp (run2 (op2_bin hK o) ha hb I R E hm k)
include hK in
theorem e_cmp (hu : X.A.units + 65 < cLine) (o : COp) (ha : PE X a (teOf Z ma)) (hb : PE X b (teOf Z mb)) (hm : behindInMarks (cop o) b = false) :
    PE X (.Compare a [cop o] [b] pos) (teOf Z fun ρ S => (ma ρ S).bind fun x S1 => (mb ρ S1).bind fun y S2 => opt S2 ((vcmp S2 o x y).map .bl)) := by
  refine ⟨fun pins s σ H Q I ⟨W, ρ, S, v, S', R, E, h, k⟩ => ?_⟩
  exact wpAny_Compare1 (run2 (op2_cmp hK hu o) ha hb I R E h k) hm
include hK in
theorem t_cmp (hu : X.A.units + 65 < cLine) (o : COp) (ha : PE X a (teOf Z ma)) (hb : PE X b (teOf Z mb)) (hm : behindInMarks (cop o) b = false) :
    PT X (.Compare a [cop o] [b] pos) (ttOf Z fun ρ S => ((ma ρ S).bind fun x S1 => (mb ρ S1).bind fun y S2 => opt S2 ((vcmp S2 o x y).map .bl)).bind fun v S3 => opt S3 (truth S3 v)) := by
  refine ⟨fun pins s σ H Q I ⟨W, ρ, S, v, S', R, E, h, k⟩ => ?_⟩
  obtain ⟨p, S1, h1, h2⟩ := bind_ok h
  obtain ⟨h3, e3⟩ := opt_ok h2
  subst e3
  have hb' : ∃ c, p = .bl c := by
    obtain ⟨_, _, _, g⟩ := bind_ok h1
    obtain ⟨_, _, _, g⟩ := bind_ok g
    obtain ⟨g, _⟩ := opt_ok g
    obtain ⟨c, _, rfl⟩ := Option.map_eq_some_iff.mp g
    exact ⟨c, rfl⟩
  obtain ⟨c, rfl⟩ := hb'
  have ec : c = v := Option.some.inj h3
  subst ec
  refine wpAny_isTrue_Compare1 (thn (run2 (Q := fun z H' => z = .bl c ∧ Q c H') (op2_cmp hK hu o) ha hb I R E h1 fun W' z H' ex R' rz => ⟨rv_bl rz, k W' H' ex R'⟩) fun v1 s1 h => thn h fun u1 s2 h => thn h fun w1 s3 ⟨z, H3, I3, r3, e3, q3⟩ => ?_) hm
  subst e3
  cases r3
  exact wpAny_truthy_bool ⟨H3, I3, q3⟩
/-- a name's value -/
theorem e_var {i : Nat} {x : Str} (hN : X.N[i]? = some x) (hv : Vis X.env.scope x) (hd : (x == ("__debug__" : Str)) = false) (hcd : (x == ("__classdict__" : Str)) = false) :
    PE X (.Name x pos) (teOf Z fun ρ S => match ρ[i]? with | some (some v) => .ok v S | _ => .bad) := by
  refine pe_mono (pe_var hN hv hd hcd) fun σ H Q ⟨W, ρ, S, v, S', R, E, h, k⟩ => ?_
  dsimp only at h
  split at h
  · rename_i w hw
    cases h
    obtain ⟨y, h1, h2⟩ := E.at_ i _ hw
    exact ⟨y, h1, k W y H (Ext.refl _ _) R h2⟩
  · cases h
theorem e_const {v : PV} {x : V} {e : Expr} (h : PE X e (tC x)) (r : ∀ W : Wd, ∀ N : Nat, RV Z W.F W.ι N v x) : PE X e (teOf Z fun _ S => .ok v S) := by
  refine pe_mono h fun σ H Q ⟨W, ρ, S, w, S', R, E, h, k⟩ => ?_
  cases h
  exact k W x H (Ext.refl _ _) R (r W _)
theorem e_int {i : Int} {j : Nat} : PE X (.Constant (.int i) j pos) (teOf Z fun _ S => .ok (.int i) S) := e_const pe_int fun _ _ => .int i
theorem e_bl {i : Bool} {j : Nat} : PE X (.Constant (.bool i) j pos) (teOf Z fun _ S => .ok (.bl i) S) := e_const pe_bl fun _ _ => .bl i
theorem e_non {j : Nat} : PE X (.Constant .none j pos) (teOf Z fun _ S => .ok .non S) := e_const pe_non fun _ _ => .non
theorem e_str {x : Str} {j : Nat} : PE X (.Constant (.str x) j pos) (teOf Z fun _ S => .ok (.str x.cps.toList) S) := e_const pe_str fun W N => by
  have h : RV Z W.F W.ι N (.str x.cps.toList) (.str ⟨x.cps.toList.toArray⟩) := .str _
  rw [show (⟨x.cps.toList.toArray⟩ : Str) = x from mk_tl x] at h
  exact h
/-- a module's constant, def or class, as a value -/
theorem e_glob {x : Str} {v : PV} {u : Value} {y : V} (hg : Gl X x) (hm : X.mg x = some u) (r : RelV y u) (rv : ∀ W : Wd, ∀ N : Nat, RV Z W.F W.ι N v y) (hd : (x == ("__debug__" : Str)) = false) : PE X (.Name x pos) (teOf Z fun _ S => .ok v S) :=
  e_const (pe_glob hg hm r hd) rv
/-! ### rows of expressions -/
theorem a_nil : PA X [] (taOf Z fun _ S => .ok [] S) := ⟨fun _ _ _ _ H Q I ⟨W, ρ, S, v, S', R, E, h, k⟩ => by
  cases h
  exact Calls.spliced_nil ⟨[], H, I, .nil, k W [] H (Ext.refl _ _) R .nil⟩⟩
theorem a_cons (ha : PE X a (teOf Z ma)) (hs : PA X es (taOf Z ms)) (hst : starEach (a :: es) X.env = (false, eval a X.env) :: starEach es X.env) :
    PA X (a :: es) (taOf Z fun ρ S => (ma ρ S).bind fun v S1 => (ms ρ S1).bind fun vs S2 => .ok (v :: vs) S2) := by
  refine ⟨fun pos pins s σ H Q I ⟨W, ρ, S, v, S', R, E, h, k⟩ => ?_⟩
  obtain ⟨p, S1, h1, h⟩ := bind_ok h
  obtain ⟨q, S2, h2, h⟩ := bind_ok h
  cases h
  refine (pa_cons ha hs hst).run pos pins s σ H Q I ⟨W, ρ, S, p, S1, R, E, h1, fun W1 x H1 x1 R1 r1 => ⟨W1, ρ, S1, q, S', R1, x1.re E, h2, fun W2 y H2 x2 R2 r2 => ?_⟩⟩
  exact k W2 _ H2 (x1.trans x2) R2 (.cons (x2.rv r1) r2)
theorem e_tup {x1 : Nat} (hs : PA X es (taOf Z ms)) : PE X (.Tuple es x1 pos) (teOf Z fun ρ S => (ms ρ S).bind fun vs S1 => if okI vs.length then .ok (.tup vs) S1 else .bad) := by
  refine pe_mono (pe_tup hs) fun σ H Q ⟨W, ρ, S, v, S', R, E, h, k⟩ => ?_
  obtain ⟨p, S1, h1, h⟩ := bind_ok h
  split at h
  · rename_i hz
    cases h
    refine ⟨W, ρ, S, p, S', R, E, h1, fun W1 x H1 x1 R1 r1 => ⟨by rw [← r1.length]; exact okI_le hz, ?_⟩⟩
    exact new_ice R1 (.tup r1) fun W' z H' ex R' rz => k W' z H' (x1.trans ex) R' rz
  · cases h
theorem e_lst (m : Bool) (hs : PA X es (taOf Z ms)) : PE X (.List es pos) (teOf Z fun ρ S => (ms ρ S).bind fun vs S1 => if okI vs.length then alloc m (.lst vs) S1 else .bad) := by
  refine pe_mono (pe_lst hs) fun σ H Q ⟨W, ρ, S, v, S', R, E, h, k⟩ => ?_
  obtain ⟨p, S1, h1, h⟩ := bind_ok h
  split at h
  · rename_i hz
    refine ⟨W, ρ, S, p, S1, R, E, h1, fun W1 x H1 x1 R1 r1 => ⟨by rw [← r1.length]; exact okI_le hz, ?_⟩⟩
    exact new_alloc R1 (.lst r1) trivial h fun W' z H' ex R' rz => k W' z H' (x1.trans ex) R' rz
  · cases h
/-! ### truth -/
include hK in
theorem truth_tru {W : Wd} {S : Store} {H : Hp} {v : PV} {x : V} {k : Bool} (R : RH Z W S H) (r : RV Z W.F W.ι S.length v x) (h : truth S v = some k) : TruV X.K x H k := by
  have s := R.seen r
  unfold truth at h
  cases e : view S v with
  | non =>
    rw [e] at h s
    cases h
    rw [s.non_]
    rfl
  | bl b =>
    rw [e] at h s
    cases h
    rw [s.bl_]
    rfl
  | int i =>
    rw [e] at h s
    cases h
    rw [s.int_]
    rfl
  | str l =>
    rw [e] at h s
    dsimp only at h
    split at h
    · rename_i hz
      cases h
      rw [s.str_]
      refine ⟨by rw [str_len]; exact okI_le hz, ?_⟩
      rw [str_len]
      cases l <;> simp
      omega
    · cases h
  | tup xs =>
    rw [e] at h s
    cases h
    obtain ⟨a, vs, rfl, h1, h2⟩ := s.tup_
    refine .inr (.inl ⟨vs, by rw [hK]; exact h1, ?_⟩)
    cases h2 <;> rfl
  | lst xs =>
    rw [e] at h s
    cases h
    obtain ⟨a, vs, rfl, h1, h2⟩ := s.lst_
    refine .inl ⟨vs, .inl h1, ?_⟩
    cases h2 <;> rfl
  | _ => rw [e] at h; cases h
/-- the test of an expression: its value's truth -/
def tst (m : Env → Store → Res PV) : Env → Store → Res Bool := fun ρ S => (m ρ S).bind fun v S1 => opt S1 (truth S1 v)
include hK in
theorem t_plain (ha : PE X a (teOf Z ma)) (he : ∀ whole, isTrue a X.env whole = (do let v ← whole; standAt a.pos; holding [v] (truthy v))) : PT X a (ttOf Z (tst ma)) := by
  refine ⟨fun pins s σ H Q I ⟨W, ρ, S, v, S', R, E, h, k⟩ => ?_⟩
  obtain ⟨p, S1, h1, h⟩ := bind_ok h
  obtain ⟨h2, e⟩ := opt_ok h
  subst e
  refine (pt_truth ha he).run pins s σ H Q I ⟨W, ρ, S, p, S', R, E, h1, fun W1 x H1 x1 R1 r1 => ⟨v, truth_tru hK R1 r1 h2, k W1 H1 x1 R1⟩⟩
theorem t_not (ha : PT X a (ttOf Z (tst ma))) : PT X (.UnaryOp .Not a pos) (ttOf Z (tst fun ρ S => (ma ρ S).bind fun x S1 => match truth S1 x with | some b => .ok (.bl (!b)) S1 | none => .bad)) := by
  refine ⟨fun pins s σ H Q I ⟨W, ρ, S, v, S', R, E, h, k⟩ => ?_⟩
  obtain ⟨p, S1, h1, h⟩ := bind_ok h
  obtain ⟨h2, e⟩ := opt_ok h
  subst e
  obtain ⟨q, S2, g1, g⟩ := bind_ok h1
  split at g
  · rename_i b hb
    cases g
    have ev : v = !b := (Option.some.inj h2).symm
    subst ev
    refine (pt_not ha).run pins s σ H Q I ⟨W, ρ, S, b, S', R, E, ?_, fun W1 H1 x1 R1 => k W1 H1 x1 R1⟩
    unfold tst
    rw [g1]
    show opt S' (truth S' q) = _
    rw [hb]
    rfl
  · cases g
include hK in
theorem e_not (ha : PE X a (teOf Z ma)) : PE X (.UnaryOp .Not a pos) (teOf Z fun ρ S => (ma ρ S).bind fun x S1 => match truth S1 x with | some b => .ok (.bl (!b)) S1 | none => .bad) := by
  refine pe_mono (pe_notT ha) fun σ H Q ⟨W, ρ, S, v, S', R, E, h, k⟩ => ?_
  obtain ⟨q, S2, g1, g⟩ := bind_ok h
  split at g
  · rename_i b hb
    cases g
    exact ⟨W, ρ, S, q, S', R, E, g1, fun W1 x H1 x1 R1 r1 => ⟨b, truth_tru hK R1 r1 hb, k W1 _ H1 x1 R1 (.bl _)⟩⟩
  · cases g
theorem e_neg (ha : PE X a (teOf Z ma)) : PE X (.UnaryOp .USub a pos) (teOf Z fun ρ S => (ma ρ S).bind fun x S1 => match x with | .int i => .ok (.int (-i)) S1 | _ => .bad) := by
  refine pe_mono (pe_un un_neg ha) fun σ H Q ⟨W, ρ, S, v, S', R, E, h, k⟩ => ?_
  obtain ⟨q, S2, g1, g⟩ := bind_ok h
  split at g
  · rename_i i
    cases g
    exact ⟨W, ρ, S, .int i, S', R, E, g1, fun W1 x H1 x1 R1 r1 => ⟨i, rv_int r1, k W1 _ H1 x1 R1 (.int _)⟩⟩
  · cases g
/-! ### and, or -/
def mAnd (ma mb : Env → Store → Res PV) : Env → Store → Res PV := fun ρ S => (ma ρ S).bind fun x S1 => match truth S1 x with
    | some true => mb ρ S1
    | some false => .ok x S1
    | none => .bad
def mOr (ma mb : Env → Store → Res PV) : Env → Store → Res PV := fun ρ S => (ma ρ S).bind fun x S1 => match truth S1 x with
    | some true => .ok x S1
    | some false => mb ρ S1
    | none => .bad
theorem e_one {op : BoolOp} (ha : PE X a (teOf Z ma)) : PE X (.BoolOp op [a] pos) (teOf Z ma) := pe_one ha
include hK in
theorem e_and (ha : PE X a (teOf Z ma)) (hb : PE X (.BoolOp .And (b :: es) pos) (teOf Z mb)) : PE X (.BoolOp .And (a :: b :: es) pos) (teOf Z (mAnd ma mb)) := by
  refine pe_mono (pe_andT ha hb) fun σ H Q ⟨W, ρ, S, v, S', R, E, h, k⟩ => ?_
  obtain ⟨q, S2, g1, g⟩ := bind_ok h
  refine ⟨W, ρ, S, q, S2, R, E, g1, fun W1 x H1 x1 R1 r1 => ?_⟩
  split at g
  · rename_i hb
    exact ⟨true, truth_tru hK R1 r1 hb, iteT <| ⟨W1, ρ, S2, v, S', R1, x1.re E, g, fun W2 y H2 x2 R2 r2 => k W2 y H2 (x1.trans x2) R2 r2⟩⟩
  · rename_i hb
    cases g
    exact ⟨false, truth_tru hK R1 r1 hb, iteF <| k W1 x H1 x1 R1 r1⟩
  · cases g
include hK in
theorem e_or (ha : PE X a (teOf Z ma)) (hb : PE X (.BoolOp .Or (b :: es) pos) (teOf Z mb)) : PE X (.BoolOp .Or (a :: b :: es) pos) (teOf Z (mOr ma mb)) := by
  refine pe_mono (pe_orT ha hb) fun σ H Q ⟨W, ρ, S, v, S', R, E, h, k⟩ => ?_
  obtain ⟨q, S2, g1, g⟩ := bind_ok h
  refine ⟨W, ρ, S, q, S2, R, E, g1, fun W1 x H1 x1 R1 r1 => ?_⟩
  split at g
  · rename_i hb
    cases g
    exact ⟨true, truth_tru hK R1 r1 hb, iteT <| k W1 x H1 x1 R1 r1⟩
  · rename_i hb
    exact ⟨false, truth_tru hK R1 r1 hb, iteF <| ⟨W1, ρ, S2, v, S', R1, x1.re E, g, fun W2 y H2 x2 R2 r2 => k W2 y H2 (x1.trans x2) R2 r2⟩⟩
  · cases g
theorem w_one_and (ha : PT X a (ttOf Z (tst ma))) : PW X (.BoolOp .And [a] pos) (ttOf Z (tst ma)) := pw_and1 ha
theorem w_one_or (ha : PT X a (ttOf Z (tst ma))) : PW X (.BoolOp .Or [a] pos) (ttOf Z (tst ma)) := pw_or1 ha
theorem w_and (ha : PT X a (ttOf Z (tst ma))) (hb : PW X (.BoolOp .And (b :: es) pos) (ttOf Z (tst mb))) : PW X (.BoolOp .And (a :: b :: es) pos) (ttOf Z (tst (mAnd ma mb))) := by
  refine ⟨fun wh pins s σ H Q I ⟨W, ρ, S, v, S', R, E, h, k⟩ => (pw_and ha hb).run wh pins s σ H Q I ?_⟩
  obtain ⟨p, S1, h1, h⟩ := bind_ok h
  obtain ⟨q, S2, g1, g⟩ := bind_ok h1
  split at g
  · rename_i hb
    refine ⟨W, ρ, S, true, S2, R, E, ?_, fun W1 H1 x1 R1 => ?_⟩
    · unfold tst
      rw [g1]
      show opt S2 (truth S2 q) = _
      rw [hb]
      rfl
    · refine iteT ?_
      refine ⟨W1, ρ, S2, v, S', R1, x1.re E, ?_, fun W2 H2 x2 R2 => k W2 H2 (x1.trans x2) R2⟩
      unfold tst
      rw [g]
      exact h
  · rename_i hb
    cases g
    obtain ⟨h2, e⟩ := opt_ok h
    subst e
    rw [hb] at h2
    cases h2
    refine ⟨W, ρ, S, false, S', R, E, ?_, fun W1 H1 x1 R1 => ?_⟩
    · unfold tst
      rw [g1]
      show opt S' (truth S' _) = _
      rw [hb]
      rfl
    · refine iteF ?_
      exact k W1 H1 x1 R1
  · cases g
theorem w_or (ha : PT X a (ttOf Z (tst ma))) (hb : PW X (.BoolOp .Or (b :: es) pos) (ttOf Z (tst mb))) : PW X (.BoolOp .Or (a :: b :: es) pos) (ttOf Z (tst (mOr ma mb))) := by
  refine ⟨fun wh pins s σ H Q I ⟨W, ρ, S, v, S', R, E, h, k⟩ => (pw_or ha hb).run wh pins s σ H Q I ?_⟩
  obtain ⟨p, S1, h1, h⟩ := bind_ok h
  obtain ⟨q, S2, g1, g⟩ := bind_ok h1
  split at g
  · rename_i hb
    cases g
    obtain ⟨h2, e⟩ := opt_ok h
    subst e
    rw [hb] at h2
    cases h2
    refine ⟨W, ρ, S, true, S', R, E, ?_, fun W1 H1 x1 R1 => ?_⟩
    · unfold tst
      rw [g1]
      show opt S' (truth S' _) = _
      rw [hb]
      rfl
    · refine iteT ?_
      exact k W1 H1 x1 R1
  · rename_i hb
    refine ⟨W, ρ, S, false, S2, R, E, ?_, fun W1 H1 x1 R1 => ?_⟩
    · unfold tst
      rw [g1]
      show opt S2 (truth S2 q) = _
      rw [hb]
      rfl
    · refine iteF ?_
      refine ⟨W1, ρ, S2, v, S', R1, x1.re E, ?_, fun W2 H2 x2 R2 => k W2 H2 (x1.trans x2) R2⟩
      unfold tst
      rw [g]
      exact h
  · cases g
/-! ### conditional expressions -/
def mIf (mc ma mb : Env → Store → Res PV) : Env → Store → Res PV := fun ρ S => (mc ρ S).bind fun x S1 => match truth S1 x with
    | some true => ma ρ S1
    | some false => mb ρ S1
    | none => .bad
theorem e_if (hc : PT X c (ttOf Z (tst mc))) (ha : PE X a (teOf Z ma)) (hb : PE X b (teOf Z mb)) : PE X (.IfExp c a b pos) (teOf Z (mIf mc ma mb)) := by
  refine pe_mono (pe_ifExp hc ha hb) fun σ H Q ⟨W, ρ, S, v, S', R, E, h, k⟩ => ?_
  obtain ⟨q, S2, g1, g⟩ := bind_ok h
  have tq : ∀ t, truth S2 q = some t → tst mc ρ S = .ok t S2 := fun t ht => by
    unfold tst
    rw [g1]
    show opt S2 (truth S2 q) = _
    rw [ht]
    rfl
  split at g
  · rename_i hb
    exact ⟨W, ρ, S, true, S2, R, E, tq _ hb, fun W1 H1 x1 R1 => iteT <| ⟨W1, ρ, S2, v, S', R1, x1.re E, g, fun W2 y H2 x2 R2 r2 => k W2 y H2 (x1.trans x2) R2 r2⟩⟩
  · rename_i hb
    exact ⟨W, ρ, S, false, S2, R, E, tq _ hb, fun W1 H1 x1 R1 => iteF <| ⟨W1, ρ, S2, v, S', R1, x1.re E, g, fun W2 y H2 x2 R2 r2 => k W2 y H2 (x1.trans x2) R2 r2⟩⟩
  · cases g
theorem t_if (hc : PT X c (ttOf Z (tst mc))) (ha : PT X a (ttOf Z (tst ma))) (hb : PT X b (ttOf Z (tst mb))) : PT X (.IfExp c a b pos) (ttOf Z (tst (mIf mc ma mb))) := by
  refine ⟨fun pins s σ H Q I ⟨W, ρ, S, v, S', R, E, h, k⟩ => ?_⟩
  obtain ⟨p, S1, h1, h⟩ := bind_ok h
  obtain ⟨q, S2, g1, g⟩ := bind_ok h1
  have tq : ∀ t, truth S2 q = some t → tst mc ρ S = .ok t S2 := fun t ht => by
    unfold tst
    rw [g1]
    show opt S2 (truth S2 q) = _
    rw [ht]
    rfl
  split at g
  · rename_i hb'
    refine isTrue_IfExp (thn (hc.run pins s σ H (fun t H1 => t = true ∧ ∃ W1, Ext W S W1 S2 ∧ RH Z W1 S2 H1) I ⟨W, ρ, S, true, S2, R, E, tq _ hb', fun W1 H1 x1 R1 => ⟨rfl, W1, x1, R1⟩⟩) fun t s1 ⟨H1, I1, ht, W1, x1, R1⟩ => ?_)
    subst ht
    refine ha.run pins s1 σ H1 Q I1 ⟨W1, ρ, S2, v, S', R1, x1.re E, ?_, fun W2 H2 x2 R2 => k W2 H2 (x1.trans x2) R2⟩
    unfold tst
    rw [g]
    exact h
  · rename_i hb'
    refine isTrue_IfExp (thn (hc.run pins s σ H (fun t H1 => t = false ∧ ∃ W1, Ext W S W1 S2 ∧ RH Z W1 S2 H1) I ⟨W, ρ, S, false, S2, R, E, tq _ hb', fun W1 H1 x1 R1 => ⟨rfl, W1, x1, R1⟩⟩) fun t s1 ⟨H1, I1, ht, W1, x1, R1⟩ => ?_)
    subst ht
    refine hb.run pins s1 σ H1 Q I1 ⟨W1, ρ, S2, v, S', R1, x1.re E, ?_, fun W2 H2 x2 R2 => k W2 H2 (x1.trans x2) R2⟩
    unfold tst
    rw [g]
    exact h
  · cases g
end
end FF
set_option Elab.async false
set_option linter.all false
set_option autoImplicit false
set_option maxRecDepth 100000
set_option maxHeartbeats 4000000
/-! SND: chains, subscripts, slices, isinstance, built-ins. -/
namespace FF
open PySem PySem.Spec PyProof.Rows L2 TL
section
variable {X : Cx} {Z : Sit} (hK : X.K = Z.K) {a b c : Expr} {es : List Expr} {pos : Pos} {ma mb mc : Env → Store → Res PV} {ms : Env → Store → Res (List PV)}
def mChain (o p : COp) (ma mb mc : Env → Store → Res PV) : Env → Store → Res PV := fun ρ S => (ma ρ S).bind fun x S1 => (mb ρ S1).bind fun y S2 => match vcmp S2 o x y with
    | some true => (mc ρ S2).bind fun z S3 => opt S3 ((vcmp S3 p y z).map .bl)
    | some false => .ok (.bl false) S2
    | none => .bad
include hK in
theorem e_chain (hu : X.A.units + 65 < cLine) (o p : COp) (ha : PE X a (teOf Z ma)) (hb : PE X b (teOf Z mb)) (hc : PE X c (teOf Z mc)) (hm : lastMarks [cop o, cop p] [b, c] = false) :
    PE X (.Compare a [cop o, cop p] [b, c] pos) (teOf Z (mChain o p ma mb mc)) := by
  refine ⟨fun pins s σ H Q I ⟨W, ρ, S, v, S', R, E, h, k⟩ => ?_⟩
  obtain ⟨p1, S1, h1, h⟩ := bind_ok h
  obtain ⟨q1, S2, h2, h⟩ := bind_ok h
  refine Compare_chain (thn (ha.run pins s σ H (fun x H1 => ∃ W1, Ext W S W1 S1 ∧ RH Z W1 S1 H1 ∧ RV Z W1.F W1.ι S1.length p1 x) I ⟨W, ρ, S, p1, S1, R, E, h1, fun W1 x H1 x1 R1 r1 => ⟨W1, x1, R1, r1⟩⟩) fun v1 s1 ⟨x, H1, I1, rx, W1, x1, R1, r1⟩ => ?_) hm
  refine chain_link (thn (hb.run pins s1 σ H1 (fun y H2 => ∃ W2, Ext W1 S1 W2 S2 ∧ RH Z W2 S2 H2 ∧ RV Z W2.F W2.ι S2.length q1 y) I1 ⟨W1, ρ, S1, q1, S2, R1, x1.re E, h2, fun W2 y H2 x2 R2 r2 => ⟨W2, x2, R2, r2⟩⟩) fun u s2 ⟨y, H2, I2, ry, W2, x2, R2, r2⟩ => ?_)
  split at h
  · rename_i hv
    refine thn (op2_cmp hK hu o pins s2 σ H2 x y v1 u (fun z H3 => z = .bl true ∧ ∃ W3, Ext W2 S2 W3 S2 ∧ RH Z W3 S2 H3) W2 S2 p1 q1 (.bl true) I2 rx ry R2 (x2.rv r1) r2 (by dsimp only; rw [hv] <;> rfl) fun W3 z H3 x3 R3 r3 => ⟨rv_bl r3, W3, x3, R3⟩) fun d s3 ⟨z, H3, I3, r3, e3, W3, x3, R3⟩ => ?_
    subst e3
    cases r3
    refine wpAny_truthy_bool (ite_tt (chain_last ?_))
    obtain ⟨t1, S3, h3, h⟩ := bind_ok h
    obtain ⟨h4, e4⟩ := opt_ok h
    subst e4
    refine thn (hc.run pins s3 σ H3 (fun z H4 => ∃ W4, Ext W3 S2 W4 S' ∧ RH Z W4 S' H4 ∧ RV Z W4.F W4.ι S'.length t1 z) I3 ⟨W3, ρ, S2, t1, S', R3, ((x1.trans x2).trans x3).re E, h3, fun W4 y4 H4 x4 R4 r4 => ⟨W4, x4, R4, r4⟩⟩) fun w4 s4 ⟨y4, H4, I4, ry4, W4, x4, R4, r4⟩ => ?_
    exact op2_cmp hK hu p pins s4 σ H4 y y4 u w4 Q W4 S' q1 t1 v I4 ry ry4 R4 ((x3.trans x4).rv r2) r4 h4 fun W' z H' ex R' rz => k W' z H' ((((x1.trans x2).trans x3).trans x4).trans ex) R' rz
  · rename_i hv
    cases h
    refine thn (op2_cmp hK hu o pins s2 σ H2 x y v1 u (fun z H3 => z = .bl false ∧ ∃ W3, Ext W2 S' W3 S' ∧ RH Z W3 S' H3) W2 S' p1 q1 (.bl false) I2 rx ry R2 (x2.rv r1) r2 (by dsimp only; rw [hv] <;> rfl) fun W3 z H3 x3 R3 r3 => ⟨rv_bl r3, W3, x3, R3⟩) fun d s3 ⟨z, H3, I3, r3, e3, W3, x3, R3⟩ => ?_
    subst e3
    cases r3
    exact wpAny_truthy_bool (ite_ff ⟨.bl false, H3, I3, rfl, k W3 _ H3 ((x1.trans x2).trans x3) R3 (.bl _)⟩)
  · cases h
theorem chain_bl {o p : COp} {ρ : Env} {S S' : Store} {v : PV} (h : mChain o p ma mb mc ρ S = .ok v S') : ∃ k, v = .bl k := by
  obtain ⟨p1, S1, h1, h⟩ := bind_ok h
  obtain ⟨q1, S2, h2, h⟩ := bind_ok h
  split at h
  · obtain ⟨t1, S3, h3, h⟩ := bind_ok h
    obtain ⟨h4, e4⟩ := opt_ok h
    obtain ⟨k, _, rfl⟩ := Option.map_eq_some_iff.mp h4
    exact ⟨k, rfl⟩
  · cases h
    exact ⟨_, rfl⟩
  · cases h
include hK in
theorem t_chain (hu : X.A.units + 65 < cLine) (o p : COp) (ha : PE X a (teOf Z ma)) (hb : PE X b (teOf Z mb)) (hc : PE X c (teOf Z mc)) (hm : lastMarks [cop o, cop p] [b, c] = false) :
    PT X (.Compare a [cop o, cop p] [b, c] pos) (ttOf Z (tst (mChain o p ma mb mc))) := by
  refine ⟨fun pins s σ H Q I ⟨W, ρ, S, v, S', R, E, h, k⟩ => ?_⟩
  obtain ⟨t, S0, g0, ht⟩ := bind_ok h
  obtain ⟨ht, e0⟩ := opt_ok ht
  subst e0
  obtain ⟨tb, rfl⟩ := chain_bl g0
  have et : tb = v := Option.some.inj ht
  subst et
  clear h
  obtain ⟨p1, S1, h1, h⟩ := bind_ok g0
  obtain ⟨q1, S2, h2, h⟩ := bind_ok h
  refine isTrue_chain (thn (ha.run pins s σ H (fun x H1 => ∃ W1, Ext W S W1 S1 ∧ RH Z W1 S1 H1 ∧ RV Z W1.F W1.ι S1.length p1 x) I ⟨W, ρ, S, p1, S1, R, E, h1, fun W1 x H1 x1 R1 r1 => ⟨W1, x1, R1, r1⟩⟩) fun v1 s1 ⟨x, H1, I1, rx, W1, x1, R1, r1⟩ => ?_) hm
  refine test_link (thn (hb.run pins s1 σ H1 (fun y H2 => ∃ W2, Ext W1 S1 W2 S2 ∧ RH Z W2 S2 H2 ∧ RV Z W2.F W2.ι S2.length q1 y) I1 ⟨W1, ρ, S1, q1, S2, R1, x1.re E, h2, fun W2 y H2 x2 R2 r2 => ⟨W2, x2, R2, r2⟩⟩) fun u s2 ⟨y, H2, I2, ry, W2, x2, R2, r2⟩ => ?_)
  split at h
  · rename_i hv
    refine thn (op2_cmp hK hu o pins s2 σ H2 x y v1 u (fun z H3 => z = .bl true ∧ ∃ W3, Ext W2 S2 W3 S2 ∧ RH Z W3 S2 H3) W2 S2 p1 q1 (.bl true) I2 rx ry R2 (x2.rv r1) r2 (by dsimp only; rw [hv] <;> rfl) fun W3 z H3 x3 R3 r3 => ⟨rv_bl r3, W3, x3, R3⟩) fun d s3 ⟨z, H3, I3, r3, e3, W3, x3, R3⟩ => ?_
    subst e3
    cases r3
    refine wpAny_truthy_bool (ite_tt (test_last ?_))
    obtain ⟨t1, S3, h3, h⟩ := bind_ok h
    obtain ⟨h4, e4⟩ := opt_ok h
    subst e4
    refine thn (hc.run pins s3 σ H3 (fun z H4 => ∃ W4, Ext W3 S2 W4 S' ∧ RH Z W4 S' H4 ∧ RV Z W4.F W4.ι S'.length t1 z) I3 ⟨W3, ρ, S2, t1, S', R3, ((x1.trans x2).trans x3).re E, h3, fun W4 y4 H4 x4 R4 r4 => ⟨W4, x4, R4, r4⟩⟩) fun w4 s4 ⟨y4, H4, I4, ry4, W4, x4, R4, r4⟩ => ?_
    refine thn (op2_cmp hK hu p pins s4 σ H4 y y4 u w4 (fun z H5 => z = .bl tb ∧ Q tb H5) W4 S' q1 t1 (.bl tb) I4 ry ry4 R4 ((x3.trans x4).rv r2) r4 h4 fun W' z H' ex R' rz => ⟨rv_bl rz, k W' H' ((((x1.trans x2).trans x3).trans x4).trans ex) R'⟩) fun d s5 ⟨z, H5, I5, r5, e5, q5⟩ => ?_
    subst e5
    cases r5
    exact wpAny_truthy_bool ⟨H5, I5, q5⟩
  · rename_i hv
    cases h
    refine thn (op2_cmp hK hu o pins s2 σ H2 x y v1 u (fun z H3 => z = .bl false ∧ ∃ W3, Ext W2 S' W3 S' ∧ RH Z W3 S' H3) W2 S' p1 q1 (.bl false) I2 rx ry R2 (x2.rv r1) r2 (by dsimp only; rw [hv] <;> rfl) fun W3 z H3 x3 R3 r3 => ⟨rv_bl r3, W3, x3, R3⟩) fun d s3 ⟨z, H3, I3, r3, e3, W3, x3, R3⟩ => ?_
    subst e3
    cases r3
    exact wpAny_truthy_bool (ite_ff ⟨H3, I3, k W3 H3 ((x1.trans x2).trans x3) R3⟩)
  · cases h
/-! ### subscripts -/
theorem atI_rvs {W : Wd} {N : Nat} {xs : List PV} {vs : List V} {i : Int} {p : PV} (r : RVs Z W.F W.ι N xs vs) (h : atI xs i = some p) : ∃ y, atI vs i = some y ∧ RV Z W.F W.ι N p y := by
  unfold atI at h ⊢
  rw [← r.length]
  cases e : ixN xs.length i with
  | none => rw [e] at h; cases h
  | some j =>
    rw [e] at h
    exact r.get (i := j) h
theorem key_of_skey : ∀ {i : PV}, skey i = true → ∃ k : Key, i = pk k
  | .int i, _ => ⟨.inl i, rfl⟩
  | .str x, _ => ⟨.inr ⟨x.toArray⟩, rfl⟩
  | .non, h => by cases h
  | .bl _, h => by cases h
  | .tup _, h => by cases h
  | .lst _, h => by cases h
  | .dct _ _, h => by cases h
  | .obj _ _ _, h => by cases h
  | .fn _, h => by cases h
  | .ref _, h => by cases h
theorem pk_skey : ∀ k : Key, skey (pk k) = true
  | .inl _ => rfl
  | .inr _ => rfl
theorem str_of_list {a b : Str} (h : a.cps.toList = b.cps.toList) : a = b := by
  cases a
  cases b
  simp at h
  rw [h]
theorem pk_inj {j k : Key} (h : pk j = pk k) : j = k := by
  cases j <;> cases k <;> simp only [pk, PV.int.injEq, PV.str.injEq, reduceCtorEq] at h
  · rw [h]
  · rw [str_of_list h]
theorem rv_key {F : Hp} {ι : Nat → Addr} {N : Nat} {x : V} : ∀ {k : Key}, RV Z F ι N (pk k) x → x = kV k
  | .inl i, r => by
    cases r with
    | int => rfl
    | obj h r => cases r
  | .inr s, r => by
    have e : (⟨s.cps.toList.toArray⟩ : Str) = s := mk_tl s
    have r0 : RV Z F ι N (.str s.cps.toList) x := r
    clear r
    generalize s.cps.toList = l at r0 e
    cases r0 with
    | str =>
      show V.str ⟨l.toArray⟩ = V.str s
      rw [e]
    | obj h2 q => cases q
theorem Seen.dctK {W : Wd} {N : Nat} {H : Hp} {ks vs : List PV} {x : V} (s : Seen Z W N H (.dct ks vs) x) (h : ks.all skey = true) : ∃ a kvs, x = .ref a ∧ Rd H a (.dK kvs) ∧ ks = kvs.map (fun p => pk p.1) ∧ RVs Z W.F W.ι N vs (kvs.map (·.2)) := by
  cases s with
  | obj hh r =>
    cases r with
    | dK e r => exact ⟨_, _, rfl, .inl hh, e, r⟩
    | fK e r => exact ⟨_, _, rfl, .inr ⟨_, hh⟩, e, r⟩
    | dT e ne r =>
      rename_i kvs
      cases kvs with
      | nil => exact absurd rfl ne
      | cons p l =>
        rw [e] at h
        simp [skey] at h
    | fT e ne r =>
      rename_i kvs _
      cases kvs with
      | nil => exact absurd rfl ne
      | cons p l =>
        rw [e] at h
        simp [skey] at h
theorem assoc_val {F : Hp} {ι : Nat → Addr} {N : Nat} {k : Key} : ∀ {kvs : List (Key × V)} {vs : List PV} {v : PV}, RVs Z F ι N vs (kvs.map (·.2)) → assoc (pk k) (kvs.map fun p => pk p.1) vs = some v → ∃ y, valV kvs k = some y ∧ RV Z F ι N v y
  | [], vs, v, r, h => by cases h
  | (j, y) :: kvs, [], v, r, h => by cases h
  | (j, y) :: kvs, w :: vs, v, .cons r1 r2, h => by
    rw [List.map_cons] at h
    unfold assoc at h
    split at h
    · rename_i e
      cases h
      exact ⟨y, valV_pos (pk_inj e), r1⟩
    · rename_i e
      obtain ⟨z, h1, h2⟩ := assoc_val r2 h
      exact ⟨z, by rw [valV_neg (fun q => e (congrArg pk q))]; exact h1, h2⟩
theorem any_keys {k : Key} : ∀ kvs : List (Key × V), ((kvs.map fun p => pk p.1).any fun x => decide (x = pk k)) = kvs.any fun kv => decide (kv.1 = k)
  | [] => rfl
  | (j, y) :: kvs => by
    simp only [List.map_cons, List.any_cons, any_keys kvs]
    congr 1
    exact decide_eq_decide.mpr ⟨pk_inj, congrArg pk⟩
theorem put_keys {F : Hp} {ι : Nat → Addr} {N : Nat} {k : Key} {v : PV} {y : V} (r : RV Z F ι N v y) : ∀ {kvs : List (Key × V)} {vs : List PV}, RVs Z F ι N vs (kvs.map (·.2)) →
    RVs Z F ι N (List.zipWith (fun x w => if x = pk k then v else w) (kvs.map fun p => pk p.1) vs) ((kvs.map fun kv => if kv.1 = k then (kv.1, y) else kv).map (·.2)) ∧ (kvs.map fun kv => if kv.1 = k then (kv.1, y) else kv).map (fun p => pk p.1) = kvs.map fun p => pk p.1
  | [], [], _ => ⟨.nil, rfl⟩
  | (j, z) :: kvs, w :: vs, .cons r1 r2 => by
    obtain ⟨i1, i2⟩ := put_keys (k := k) r r2
    simp only [List.map_cons, List.zipWith_cons_cons]
    by_cases e : j = k
    · subst e
      simp only [if_true]
      exact ⟨.cons r i1, by rw [i2]⟩
    · have e2 : ¬ pk j = pk k := fun q => e (pk_inj q)
      simp only [if_neg e, if_neg e2]
      exact ⟨.cons r1 i1, by rw [i2]⟩
theorem putD_ok {F : Hp} {ι : Nat → Addr} {N : Nat} {k : Key} {v : PV} {y : V} (r : RV Z F ι N v y) {kvs : List (Key × V)} {ks vs : List PV} (e : ks = kvs.map fun p => pk p.1) (h : RVs Z F ι N vs (kvs.map (·.2))) :
    (putD (pk k) v ks vs).1 = (putK kvs k y).map (fun p => pk p.1) ∧ RVs Z F ι N (putD (pk k) v ks vs).2 ((putK kvs k y).map (·.2)) := by
  subst e
  unfold putD putK
  rw [any_keys]
  obtain ⟨i1, i2⟩ := put_keys (k := k) r h
  split
  · exact ⟨i2.symm, i1⟩
  · refine ⟨by simp, ?_⟩
    rw [List.map_append]
    exact h.append (.cons r .nil)
theorem mergeD_ok {F : Hp} {ι : Nat → Addr} {N : Nat} : ∀ {more : List (Key × V)} {vs : List PV} {kvs : List (Key × V)} {a : List PV × List PV}, RVs Z F ι N vs (more.map (·.2)) → a.1 = kvs.map (fun p => pk p.1) → RVs Z F ι N a.2 (kvs.map (·.2)) →
    (mergeD (more.map fun p => pk p.1) vs a).1 = (mergeK kvs more).map (fun p => pk p.1) ∧ RVs Z F ι N (mergeD (more.map fun p => pk p.1) vs a).2 ((mergeK kvs more).map (·.2))
  | [], [], kvs, a, _, h1, h2 => ⟨h1, h2⟩
  | (k, y) :: more, v :: vs, kvs, a, .cons r1 r2, h1, h2 => by
    obtain ⟨i1, i2⟩ := putD_ok (k := k) r1 h1 h2
    exact mergeD_ok (kvs := putK kvs k y) (a := putD (pk k) v a.1 a.2) r2 i1 i2
include hK in
theorem e_idx (hu : X.A.units + 1 < cLine) (hs : PlainIx b) (ha : PE X a (teOf Z ma)) (hb : PE X b (teOf Z mb)) : PE X (.Subscript a b pos) (teOf Z fun ρ S => (ma ρ S).bind fun v S1 => (mb ρ S1).bind fun w S2 => opt S2 (vidx S2 v w)) := by
  refine ⟨fun pins s σ H Q I ⟨W, ρ, S, v, S', R, E, h, k⟩ => ?_⟩
  obtain ⟨p, S1, h1, h⟩ := bind_ok h
  obtain ⟨q, S2, h2, h⟩ := bind_ok h
  obtain ⟨h3, e3⟩ := opt_ok h
  subst e3
  by_cases hd : ∃ ks vs, view S' p = .dct ks vs
  · obtain ⟨ks, vs, ep⟩ := hd
    refine (pe_dget hu ha hb hs).run pins s σ H Q I ⟨W, ρ, S, p, S1, R, E, h1, fun W1 x H1 x1 R1 r1 => ⟨W1, ρ, S1, q, S', R1, x1.re E, h2, fun W2 y H2 x2 R2 r2 => ?_⟩⟩
    have s1 := R2.seen (x2.rv r1)
    unfold vidx at h3
    rw [ep] at h3 s1
    dsimp only at h3
    split at h3
    · rename_i hk
      rw [Bool.and_eq_true] at hk
      obtain ⟨a, kvs, rfl, g1, g2, g3⟩ := s1.dctK hk.1
      obtain ⟨k0, rfl⟩ := key_of_skey hk.2
      rw [g2] at h3
      obtain ⟨z, g4, g5⟩ := assoc_val g3 h3
      have ey := rv_key r2
      subst ey
      exact ⟨a, z, rfl, .inl ⟨kvs, k0, g1, rfl, g4.symm⟩, k W2 z H2 (x1.trans x2) R2 g5⟩
    · cases h3
  refine (pe_ix (r := rIx X.K) ix_seq ha hb hs).run pins s σ H Q I ⟨W, ρ, S, p, S1, R, E, h1, fun W1 x H1 x1 R1 r1 => ⟨W1, ρ, S1, q, S', R1, x1.re E, h2, fun W2 y H2 x2 R2 r2 => ?_⟩⟩
  have s1 := R2.seen (x2.rv r1)
  unfold vidx at h3
  have kk := fun {z : V} (rz : RV Z W2.F W2.ι S'.length v z) => k W2 z H2 (x1.trans x2) R2 rz
  cases ep : view S' p with
  | str l =>
    rw [ep] at h3 s1
    dsimp only at h3
    split at h3
    · rename_i i
      split at h3
      · rename_i hz
        obtain ⟨ch, h4, rfl⟩ := Option.map_eq_some_iff.mp h3
        refine .inr (.inr ⟨_, i, ch, s1.str_, rv_int r2, ?_, h4, kk (.str [ch])⟩)
        rw [str_len]
        exact okI_le hz
      · cases h3
    · cases h3
  | tup l =>
    rw [ep] at h3 s1
    dsimp only at h3
    split at h3
    · rename_i i
      obtain ⟨ad, vs, e1, g1, g2⟩ := s1.tup_
      obtain ⟨z, g3, g4⟩ := atI_rvs g2 h3
      exact .inr (.inl ⟨ad, vs, i, z, e1, rv_int r2, by rw [hK]; exact g1, g3, kk g4⟩)
    · cases h3
  | lst l =>
    rw [ep] at h3 s1
    dsimp only at h3
    split at h3
    · rename_i i
      obtain ⟨ad, vs, e1, g1, g2⟩ := s1.lst_
      obtain ⟨z, g3, g4⟩ := atI_rvs g2 h3
      exact .inl ⟨ad, vs, i, z, e1, rv_int r2, .inl g1, g3, kk g4⟩
    · cases h3
  | dct ks vs => exact absurd ⟨ks, vs, ep⟩ hd
  | _ => rw [ep] at h3; cases h3
theorem cut_rvs {W : Wd} {N : Nat} {xs : List PV} {vs : List V} {lo hi : Option Int} (r : RVs Z W.F W.ι N xs vs) : RVs Z W.F W.ι N (cut xs lo hi) (cutV vs lo hi) := by
  unfold cut cutV
  rw [← r.length]
  exact (r.drop _).take _
theorem cut_all {xs : List PV} {lo hi : Option Int} (h : HT.sIx xs.length 0 lo = 0 ∧ HT.sIx xs.length xs.length hi = xs.length) : cut xs lo hi = xs := by
  unfold cut
  rw [h.1, h.2]
  simp
/-- a slice by values -/
theorem slc_ok {W : Wd} {S S' : Store} {H : Hp} {Q : VK} {p r v : PV} {x : V} {lo hi : Option Int} {m : Bool} (hK : X.K = Z.K) (R : RH Z W S H) (r1 : RV Z W.F W.ι S.length p x) (h : vslc S p lo hi = some r)
    (hm : (match r with | .lst xs => alloc m (.lst xs) S | r => .ok r S) = .ok v S') (k : ∀ W' z H', Ext W S W' S' → RH Z W' S' H' → RV Z W'.F W'.ι S'.length v z → Q z H') :
    rSlL X.K x lo hi H Q ∨ rSlA X.K x lo hi H Q ∨ rSlS x lo hi H Q := by
  have s1 := R.seen r1
  unfold vslc at h
  cases ep : view S p with
  | str l =>
    rw [ep] at h s1
    dsimp only at h
    split at h
    · rename_i hz
      cases h
      cases hm
      refine .inr (.inr ⟨_, s1.str_, by rw [str_len]; exact okI_le hz, ?_⟩)
      have e : cutS ⟨l.toArray⟩ lo hi = (⟨(cut l lo hi).toArray⟩ : Str) := by
        unfold cutS cut
        rw [str_len]
      rw [e]
      exact k W _ H (Ext.refl _ _) R (.str _)
    · cases h
  | tup l =>
    rw [ep] at h s1
    cases h
    cases hm
    obtain ⟨ad, vs, e1, g1, g2⟩ := s1.tup_
    have epp := view_tup R r1 ep
    subst epp
    refine .inr (.inl ⟨ad, vs, e1, by rw [hK]; exact g1, fun z => ?_, fun _ => new_ice R (.tup (cut_rvs g2)) k⟩)
    rw [← g2.length] at z
    rw [cut_all z] at k
    subst e1
    exact k W _ H (Ext.refl _ _) R r1
  | lst l =>
    rw [ep] at h s1
    cases h
    obtain ⟨ad, vs, e1, g1, g2⟩ := s1.lst_
    exact .inl ⟨ad, vs, e1, .inl g1, new_alloc R (.lst (cut_rvs g2)) trivial hm k⟩
  | _ => rw [ep] at h; cases h
/-- one end of a slice -/
def mEnd (o : Option (Env → Store → Res PV)) : Env → Store → Res PV := fun ρ S => match o with
  | none => .ok .non S
  | some m => m ρ S
theorem o_none : PO X none (fun σ H Q => ∃ W ρ S v S', RH Z W S H ∧ RE Z W S.length ρ σ ∧ mEnd none ρ S = .ok v S' ∧ ∃ i, optI false v = some i ∧ ∀ W' H', Ext W S W' S' → RH Z W' S' H' → Q i H') :=
  ⟨fun pins s σ H Q I ⟨W, ρ, S, v, S', R, E, h, i, hi, k⟩ => by
    cases h
    cases hi
    exact po_none.run pins s σ H Q I (k W H (Ext.refl _ _) R)⟩
theorem o_some (ha : PE X a (teOf Z ma)) : PO X (some a) (fun σ H Q => ∃ W ρ S v S', RH Z W S H ∧ RE Z W S.length ρ σ ∧ mEnd (some ma) ρ S = .ok v S' ∧ ∃ i, optI true v = some i ∧ ∀ W' H', Ext W S W' S' → RH Z W' S' H' → Q i H') :=
  ⟨fun pins s σ H Q I ⟨W, ρ, S, v, S', R, E, h, i, hi, k⟩ => by
    cases v with
    | int j =>
      cases hi
      exact (po_some ha).run pins s σ H Q I ⟨W, ρ, S, .int j, S', R, E, h, fun W1 x H1 x1 R1 r1 => ⟨j, rv_int r1, k W1 H1 x1 R1⟩⟩
    | _ => cases hi⟩
include hK in
theorem e_slc {p2 : Pos} {lo hi : Option Expr} {ml mh : Option (Env → Store → Res PV)} {bl bh m : Bool} (ha : PE X a (teOf Z ma))
    (hl : PO X lo (fun σ H Q => ∃ W ρ S v S', RH Z W S H ∧ RE Z W S.length ρ σ ∧ mEnd ml ρ S = .ok v S' ∧ ∃ i, optI bl v = some i ∧ ∀ W' H', Ext W S W' S' → RH Z W' S' H' → Q i H'))
    (hh : PO X hi (fun σ H Q => ∃ W ρ S v S', RH Z W S H ∧ RE Z W S.length ρ σ ∧ mEnd mh ρ S = .ok v S' ∧ ∃ i, optI bh v = some i ∧ ∀ W' H', Ext W S W' S' → RH Z W' S' H' → Q i H')) :
    PE X (.Subscript a (.Slice lo hi none p2) pos) (teOf Z fun ρ S => (ma ρ S).bind fun v S1 => (mEnd ml ρ S1).bind fun x S2 => (mEnd mh ρ S2).bind fun y S3 => (match optI bl x, optI bh y with
    | some l, some h => (match vslc S3 v l h with
      | some (.lst xs) => alloc m (.lst xs) S3
      | some r => .ok r S3
      | none => .bad)
    | _, _ => .bad)) := by
  refine ⟨fun pins s σ H Q I ⟨W, ρ, S, v, S', R, E, h, k⟩ => ?_⟩
  obtain ⟨p, S1, h1, h⟩ := bind_ok h
  obtain ⟨x, S2, h2, h⟩ := bind_ok h
  obtain ⟨y, S3, h3, h⟩ := bind_ok h
  split at h
  · rename_i i j hi hj
    have hr : ∃ r, vslc S3 p i j = some r ∧ (match r with | .lst xs => alloc m (.lst xs) S3 | r => .ok r S3) = .ok v S' := by
      split at h
      · rename_i xs e
        exact ⟨_, e, h⟩
      · rename_i r ne e
        refine ⟨r, e, ?_⟩
        split
        · exact absurd rfl (ne _)
        · exact h
      · cases h
    obtain ⟨r, hr1, hr2⟩ := hr
    refine (pe_slice (r := fun x lo hi H Q => rSlL X.K x lo hi H Q ∨ rSlA X.K x lo hi H Q ∨ rSlS x lo hi H Q) (sl_list.or (sl_tupA.or sl_str)) ha hl hh).run pins s σ H Q I ?_
    refine ⟨W, ρ, S, p, S1, R, E, h1, fun W1 x1 H1 e1 R1 r1 => ⟨W1, ρ, S1, x, S2, R1, e1.re E, h2, i, hi, fun W2 H2 e2 R2 => ⟨W2, ρ, S2, y, S3, R2, (e1.trans e2).re E, h3, j, hj, fun W3 H3 e3 R3 => ?_⟩⟩⟩
    exact slc_ok hK R3 ((e2.trans e3).rv r1) hr1 hr2 fun W' z H' ex R' rz => k W' z H' (((e1.trans e2).trans e3).trans ex) R' rz
  · cases h
theorem e_rev {k : Nat} {p1 p2 p3 : Pos} {m : Bool} (ha : PE X a (teOf Z ma)) : PE X (.Subscript a (.Slice none none (some (.UnaryOp .USub (.Constant (.int 1) k p1) p2)) p3) pos) (teOf Z fun ρ S => (ma ρ S).bind fun v S1 => match vrev S1 v with
    | some r => alloc m r S1
    | none => .bad) := by
  refine pe_mono (pe_revL ha) fun σ H Q ⟨W, ρ, S, v, S', R, E, h, k⟩ => ?_
  obtain ⟨p, S1, h1, h⟩ := bind_ok h
  refine ⟨W, ρ, S, p, S1, R, E, h1, fun W1 x H1 x1 R1 r1 => ?_⟩
  have s1 := R1.seen r1
  split at h
  · rename_i r hr
    unfold vrev at hr
    cases ep : view S1 p with
    | lst l =>
      rw [ep] at hr s1
      cases hr
      obtain ⟨ad, vs, e1, g1, g2⟩ := s1.lst_
      exact ⟨ad, vs, e1, .inl g1, new_alloc R1 (.lst g2.reverse) trivial h fun W' z H' ex R' rz => k W' z H' (x1.trans ex) R' rz⟩
    | _ => rw [ep] at hr; cases hr
  · cases h
end
end FF
set_option Elab.async false
set_option linter.all false
set_option autoImplicit false
set_option maxRecDepth 100000
set_option maxHeartbeats 4000000
/-! SNE: isinstance, built-ins, methods of built-in types. -/
namespace FF
open PySem PySem.Spec PyProof.Rows L2 TL
section
variable {X : Cx} {Z : Sit} (hK : X.K = Z.K) {a b c : Expr} {es : List Expr} {pos p : Pos} {ma mb mc : Env → Store → Res PV} {ms : Env → Store → Res (List PV)}
/-- an object that nobody speaks of -/
theorem RH.junk {W : Wd} {S : Store} {H : Hp} {q : Addr} {o : HO} (R : RH Z W S H) (hq : H q = none) : RH Z W S (upd H q o) := by
  have ne : ∀ {c : Addr} {u : HO}, H c = some u → c ≠ q := fun h z => by
    rw [z, hq] at h
    cases h
  refine ⟨fun c u h => ?_, fun n v e => ?_, R.nf, R.inj, fun c u h => ?_⟩
  · rw [upd_ne (ne (R.fz c u h))]
    exact R.fz c u h
  · obtain ⟨u, h1, h2, h3⟩ := R.st n v e
    exact ⟨u, by rw [upd_ne (ne h1)]; exact h1, h2, h3⟩
  · obtain ⟨h1, h2, h3⟩ := R.ex c u h
    exact ⟨by rw [upd_ne (ne h1)]; exact h1, h2, h3⟩

/-! ### isinstance -/
/-- what of a class isinstance asks -/
structure ClsOk (K : PySem.W.Frag) (C : Addr) : Prop where
  cl : Cls K C
  ha : PySem.W.findIn K (.ref C) "__class__" = some (some (.builtin "object.__class__"))
  hn : PySem.W.specialIn K (.builtin "object.__class__") "__get__" = some (some (.builtin "getset_descriptor.__get__"))
  htk : PySem.W.takesIn K (.builtin "object.__class__") = some true
  hm : PySem.W.mroIn K C (.type "object") = some true
def tyv (Z : Sit) : PV → Value
  | .non => .type "NoneType"
  | .bl _ => .type "bool"
  | .int _ => .type "int"
  | .str _ => .type "str"
  | .tup _ => .type "tuple"
  | .lst _ => .type "list"
  | .dct _ _ => .type "dict"
  | .obj c _ _ => .ref (Z.cad c)
  | _ => .none
def clv (Z : Sit) : TyR → Value
  | .bty n => .type n
  | .cls c => .ref (Z.cad c)
def clV (Z : Sit) : TyR → V
  | .bty n => .ty n
  | .cls c => .ref (Z.cad c)
/-- what isinstance tells, of the classes that there are -/
structure KitOk (Z : Sit) (ini : Nat → Option (Option Nat)) (anc : Nat → Nat → Bool) : Prop where
  cls : ∀ c, (ini c).isSome = true → ClsOk Z.K (Z.cad c)
  kit : ∀ v t, isKnown ini v = true → tOk ini t = true → PySem.W.kitOne Z.K (tyv Z v) (clv Z t) = some (isOne anc v t)
theorem clsV_of (t : TyR) : ClsV (clV Z t) (clv Z t) := by
  cases t with
  | bty n => exact .ty n
  | cls c => exact .own _
include hK in
theorem kit_seen {ini : Nat → Option (Option Nat)} {anc : Nat → Nat → Bool} (KO : KitOk Z ini anc) {W : Wd} {H : Hp} {v : PV} {x : V} {u : Value} {pins : List (Addr × Obj)} {σ : L2.St} {s : Shared} {N : Nat}
    (I : Inv X pins σ H s) (sn : Seen Z W N H v x) (rx : RelV x u) (kn : isKnown ini v = true) : ∃ P : Heap → Prop, PySem.W.KitX X.K u (tyv Z v) P ∧ P s.heap ∧ u ≠ .builtin "__main__.__loader__#opaque" := by
  cases sn with
  | non => exact kit_of I rx (.base .non)
  | bl b => exact kit_of I rx (.base (.bl b))
  | int i => exact kit_of I rx (.base (.int i))
  | str i => exact kit_of I rx (.base (.str _))
  | fn g => cases kn
  | ktup h hc hd hz hv r =>
    refine kit_of I rx (.kTuple (o := _) ?_ hc)
    rw [hK]
    exact h
  | obj h r => cases r with
    | tup r => exact kit_of I rx (.base (.tup h))
    | lst r => exact kit_of I rx (.base (.lst h))
    | frz r => exact kit_of I rx (.base (.frz h))
    | dK e r => exact kit_of I rx (.base (.dK h))
    | dT e ne r => exact kit_of I rx (.base (.dT h))
    | fK e r => exact kit_of I rx (.fDict h)
    | @fT ks vs kvs ob e ne r =>
      cases rx
      obtain ⟨_, _, _, xs, _, o, es, ep, h1, h2, _⟩ := I.hok _ _ h
      exact ⟨_, PySem.W.kitx_dict, ⟨o, h1, h2.1⟩, fun z => nomatch z⟩
    | @ins c ks vs dx fs e r =>
      have k := KO.cls c kn
      refine kit_of I rx (.base (.ins h ?_ ?_ ?_ ?_ ?_))
      · rw [hK]; exact k.cl
      · rw [hK]; exact k.ha
      · rw [hK]; exact k.hn
      · rw [hK]; exact k.htk
      · rw [hK]; exact k.hm
theorem kit_any {ini : Nat → Option (Option Nat)} {anc : Nat → Nat → Bool} (KO : KitOk Z ini anc) {v : PV} (kn : isKnown ini v = true) : ∀ ts : List TyR, ts.all (tOk ini) = true →
    PySem.W.kitAny Z.K (tyv Z v) (ts.map (clv Z)) = some (ts.any fun t => isOne anc v t)
  | [], _ => kitAny_nil
  | t :: ts, h => by
    rw [List.all_cons, Bool.and_eq_true] at h
    refine kitAny_cons (KO.kit v t kn h.1) (fun e => ?_) fun e => ?_
    · rw [List.any_cons, e, Bool.false_or]
      exact kit_any KO kn ts h.2
    · rw [List.any_cons, e]
      rfl
/-- classes written one beside the other -/
theorem clsV_all : ∀ ts : List TyR, Paired ClsV (ts.map (clV Z)) (ts.map (clv Z))
  | [] => .nil
  | t :: ts => .cons (clsV_of t) (clsV_all ts)
def mIsi (ini : Nat → Option (Option Nat)) (anc : Nat → Nat → Bool) (ts : List TyR) (ma : Env → Store → Res PV) : Env → Store → Res PV := fun ρ S => (ma ρ S).bind fun x S1 => if isKnown ini (view S1 x) && ts.all (tOk ini) then .ok (.bl (ts.any fun t => isOne anc (view S1 x) t)) S1 else .bad
include hK in
theorem e_isi1 {ini : Nat → Option (Option Nat)} {anc : Nat → Nat → Bool} (KO : KitOk Z ini anc) (t : TyR) (ha : PE X a (teOf Z ma)) (hc : PE X c (tC (clV Z t))) (hg : Gl X "isinstance") (hm : X.mg "isinstance" = none)
    (h1 : starEach [a, c] X.env = (false, eval a X.env) :: starEach [c] X.env) (h2 : starEach [c] X.env = (false, eval c X.env) :: starEach [] X.env) :
    PE X (.Call (.Name "isinstance" p) [a, c] [] pos) (teOf Z (mIsi ini anc [t] ma)) := by
  refine ⟨fun pins s σ H Q I ⟨W, ρ, S, v, S', R, E, h, k⟩ => ?_⟩
  obtain ⟨q, S1, g1, g⟩ := bind_ok h
  split at g
  · rename_i hz
    cases g
    rw [Bool.and_eq_true] at hz
    have kt := KO.kit _ t hz.1 (by simpa using hz.2)
    have rule : CallR X (.builtin "isinstance") (fun xs H1 Q1 => ∃ x, xs = [x, clV Z t] ∧ ∃ W1, RH Z W1 S' H1 ∧ RV Z W1.F W1.ι S'.length q x ∧ Q1 (.bl (isOne anc (view S' q) t)) H1) := by
      rintro pins s σ H1 xs us Q1 I1 r ⟨x, rfl, W1, R1, r1, q1⟩
      obtain ⟨u1, u2, rfl, e1, e2⟩ := vals2 r
      have e3 := (clsV_of (Z := Z) t).eq e2
      subst e3
      obtain ⟨P, ZZ, pp, hx⟩ := kit_seen hK KO I1 (R1.seen r1) e1 hz.1
      rw [← hK] at kt
      exact PySem.W.kia_one ZZ I1.kIn pp kt hx fun tk => ⟨.bl _, H1, I1.tok tk, rfl, q1⟩
    refine (pe_callB rule hg hm (by decide +kernel) (pa_cons ha (pa_cons hc pa_nil h2) h1) (by decide) (by decide) h1 (by rw [h2] <;> rfl)).run pins s σ H Q I ?_
    refine ⟨W, ρ, S, q, S', R, E, g1, fun W1 x H1 x1 R1 r1 => ⟨x, rfl, W1, R1, r1, ?_⟩⟩
    have e : ([t].any fun t => isOne anc (view S' q) t) = isOne anc (view S' q) t := by simp
    rw [e] at k
    exact k W1 _ H1 x1 R1 (.bl _)
  · cases g
/-- a row of classes -/
theorem a_cls {cs : List Expr} : ∀ (ts : List TyR), Paired (fun c t => PE X c (tC (clV Z t)) ∧ ∀ es, starEach (c :: es) X.env = (false, eval c X.env) :: starEach es X.env) cs ts → PA X cs (fun _ H Q => Q (ts.map (clV Z)) H)
  | [], h => by
    cases h
    exact pa_nil
  | t :: ts, h => by
    cases h with
    | cons h1 h2 => exact pa_cons h1.1 (a_cls ts h2) (h1.2 _)
include hK in
theorem e_isiT {ini : Nat → Option (Option Nat)} {anc : Nat → Nat → Bool} (KO : KitOk Z ini anc) {cs : List Expr} {k1 : Nat} {p1 : Pos} (ts : List TyR) (ha : PE X a (teOf Z ma)) (hc : Paired (fun c t => PE X c (tC (clV Z t)) ∧ ∀ es, starEach (c :: es) X.env = (false, eval c X.env) :: starEach es X.env) cs ts)
    (hl : ts.length ≤ 100) (hg : Gl X "isinstance") (hm : X.mg "isinstance" = none) (h1 : ∀ es, starEach (a :: es) X.env = (false, eval a X.env) :: starEach es X.env) :
    PE X (.Call (.Name "isinstance" p) [a, .Tuple cs k1 p1] [] pos) (teOf Z (mIsi ini anc ts ma)) := by
  refine ⟨fun pins s σ H Q I ⟨W, ρ, S, v, S', R, E, h, k⟩ => ?_⟩
  obtain ⟨q, S1, g1, g⟩ := bind_ok h
  split at g
  · rename_i hz
    cases g
    rw [Bool.and_eq_true] at hz
    have kt := kit_any KO hz.1 ts hz.2
    have rule : CallR X (.builtin "isinstance") (fun xs H1 Q1 => ∃ x tp, xs = [x, .ref tp] ∧ H1 tp = some (.tup (ts.map (clV Z))) ∧ ∃ W1, RH Z W1 S' H1 ∧ RV Z W1.F W1.ι S'.length q x ∧ Q1 (.bl (ts.any fun t => isOne anc (view S' q) t)) H1) := by
      rintro pins s σ H1 xs us Q1 I1 r ⟨x, tp, rfl, ht, W1, R1, r1, q1⟩
      obtain ⟨u1, u2, rfl, e1, e2⟩ := vals2 r
      cases (show u2 = Value.ref tp from e2)
      obtain ⟨P, ZZ, pp, hx⟩ := kit_seen hK KO I1 (R1.seen r1) e1 hz.1
      obtain ⟨_, its, rv, o, o1, o2, n, o3⟩ := (show ObjOk X.prog X.w H1 s.heap tp (.tup (ts.map (clV Z))) from I1.hok tp _ ht)
      have e3 := ClsV.all (clsV_all ts) rv
      subst e3
      obtain ⟨oc, od, dt, sl⟩ := o
      simp only at o2 o3
      subst o2 o3
      rw [← hK] at kt
      exact PySem.W.kia_tup ZZ I1.kIn pp o1 kt hx fun tk => ⟨.bl _, H1, I1.tok tk, rfl, q1⟩
    refine (pe_callB rule hg hm (by decide +kernel) (pa_cons ha (pa_cons (pe_tup (a_cls ts hc)) pa_nil) (h1 _)) (by decide) (by decide) (h1 _) (by rfl)).run pins s σ H Q I ?_
    refine ⟨W, ρ, S, q, S', R, E, g1, fun W1 x H1 x1 R1 r1 => ⟨?_, fun tp htp => ⟨x, tp, rfl, upd_same, W1, R1.junk htp, r1, k W1 _ _ x1 (R1.junk htp) (.bl _)⟩⟩⟩
    rw [List.length_map, sizeLine_eq]
    omega
  · cases g

/-! ### built-ins by their values -/
/-- a call with values does what g says -/
def Fn (X : Cx) (Z : Sit) (f : Value) (g : Store → List PV → Option (PV × Bool)) : Prop :=
  ∀ (pins : List (Addr × Obj)) (s : Shared) (σ : L2.St) (H : Hp) (xs : List V) (us : List Value) (Q : VK) (W : Wd) (S S' : Store) (ps : List PV) (r : PV × Bool) (m : Bool) (v : PV), Inv X pins σ H s → Vals xs us → RH Z W S H → RVs Z W.F W.ι S.length ps xs →
    g S ps = some r → (if r.2 then alloc m r.1 S else .ok r.1 S) = .ok v S' → (∀ W' z H', Ext W S W' S' → RH Z W' S' H' → RV Z W'.F W'.ι S'.length v z → Q z H') → wpAny (model X.prog X.w) X.A (call f us) (EP X pins σ Q) X.xe s
theorem rvs1 {W : Wd} {N : Nat} {q : PV} {xs : List V} (r : RVs Z W.F W.ι N [q] xs) : ∃ x, xs = [x] ∧ RV Z W.F W.ι N q x := by
  cases r with
  | cons h t => cases t; exact ⟨_, rfl, h⟩
theorem rvs2 {W : Wd} {N : Nat} {q q' : PV} {xs : List V} (r : RVs Z W.F W.ι N [q, q'] xs) : ∃ x x', xs = [x, x'] ∧ RV Z W.F W.ι N q x ∧ RV Z W.F W.ι N q' x' := by
  cases r with
  | cons h t => cases t with
    | cons h' t => cases t; exact ⟨_, _, rfl, h, h'⟩
theorem rvs0 {W : Wd} {N : Nat} {xs : List V} (r : RVs Z W.F W.ι N [] xs) : xs = [] := by
  cases r
  rfl
include hK in
theorem fn_len : Fn X Z (.builtin "len") fun S ps => bfn S .len ps := by
  intro pins s σ H xs us Q W S S' ps r m v I ru R rp e hv k
  dsimp only [bfn] at e
  unfold bLen at e
  split at e <;> try cases e
  rename_i q
  obtain ⟨n, h, rfl⟩ := Option.map_eq_some_iff.mp e
  cases hv
  obtain ⟨x, rfl, r1⟩ := rvs1 rp
  refine call_len pins s σ H _ us Q I ru ⟨x, n, rfl, ?_, k W _ H (Ext.refl _ _) R (.int _)⟩
  have sn := R.seen r1
  unfold vlen at h
  cases ep : view S q with
  | str l =>
    rw [ep] at h sn
    dsimp only at h
    split at h
    · rename_i hz
      cases h
      rw [sn.str_]
      exact ⟨by rw [str_len]; exact okI_le hz, (str_len _).symm⟩
    · cases h
  | tup l =>
    rw [ep] at h sn
    cases h
    obtain ⟨ad, vs, rfl, g1, g2⟩ := sn.tup_
    exact .inr ⟨vs, by rw [hK]; exact g1, g2.length⟩
  | lst l =>
    rw [ep] at h sn
    cases h
    obtain ⟨ad, vs, rfl, g1, g2⟩ := sn.lst_
    exact .inl ⟨vs, .inl g1, g2.length⟩
  | _ => rw [ep] at h; cases h
theorem bools_rvs {W : Wd} {N : Nat} : ∀ {xs : List PV} {bs : List Bool} {vs : List V}, bools xs = some bs → RVs Z W.F W.ι N xs vs → vs = bs.map V.bl
  | [], _, _, h, r => by
    cases r
    cases h
    rfl
  | x :: xs, bs, _, h, r => by
    cases x with
    | bl b =>
      simp only [bools, Option.map_eq_some_iff] at h
      obtain ⟨cs, h1, rfl⟩ := h
      cases r with
      | cons r1 r2 => rw [rv_bl r1, bools_rvs h1 r2] <;> rfl
    | _ => cases h
theorem ints_rvs {W : Wd} {N : Nat} : ∀ {xs : List PV} {bs : List Int} {vs : List V}, asInts xs = some bs → RVs Z W.F W.ι N xs vs → vs = bs.map V.int
  | [], _, _, h, r => by
    cases r
    cases h
    rfl
  | x :: xs, bs, _, h, r => by
    cases x with
    | int b =>
      simp only [asInts, Option.map_eq_some_iff] at h
      obtain ⟨cs, h1, rfl⟩ := h
      cases r with
      | cons r1 r2 => rw [rv_int r1, ints_rvs h1 r2] <;> rfl
    | _ => cases h
theorem strs_rvs {W : Wd} {N : Nat} : ∀ {xs : List PV} {bs : List (List Nat)} {vs : List V}, asStrs xs = some bs → RVs Z W.F W.ι N xs vs → vs = (bs.map fun l => (⟨l.toArray⟩ : Str)).map V.str
  | [], _, _, h, r => by
    cases r
    cases h
    rfl
  | x :: xs, bs, _, h, r => by
    cases x with
    | str b =>
      simp only [asStrs, Option.map_eq_some_iff] at h
      obtain ⟨cs, h1, rfl⟩ := h
      cases r with
      | cons r1 r2 => rw [rv_str r1, strs_rvs h1 r2] <;> rfl
    | _ => cases h
theorem fn_all (hc : X.calm = true) : Fn X Z (.builtin "all") fun S ps => bfn S .all ps := by
  intro pins s σ H xs us Q W S S' ps r m v I ru R rp e hv k
  dsimp only [bfn] at e
  unfold bAll at e
  split at e <;> try cases e
  rename_i q
  split at e
  · rename_i l ep
    obtain ⟨bs, h, rfl⟩ := Option.map_eq_some_iff.mp e
    cases hv
    obtain ⟨x, rfl, r1⟩ := rvs1 rp
    have sn := R.seen r1
    rw [ep] at sn
    obtain ⟨ad, vs, rfl, g1, g2⟩ := sn.lst_
    exact cr_all hc pins s σ H _ us Q I ru ⟨ad, bs, rfl, .inl (by rw [← bools_rvs h g2]; exact g1), k W _ H (Ext.refl _ _) R (.bl _)⟩
  · cases e
theorem fn_any (hc : X.calm = true) : Fn X Z (.builtin "any") fun S ps => bfn S .any ps := by
  intro pins s σ H xs us Q W S S' ps r m v I ru R rp e hv k
  dsimp only [bfn] at e
  unfold bAny at e
  split at e <;> try cases e
  rename_i q
  split at e
  · rename_i l ep
    obtain ⟨bs, h, rfl⟩ := Option.map_eq_some_iff.mp e
    cases hv
    obtain ⟨x, rfl, r1⟩ := rvs1 rp
    have sn := R.seen r1
    rw [ep] at sn
    obtain ⟨ad, vs, rfl, g1, g2⟩ := sn.lst_
    exact cr_any hc pins s σ H _ us Q I ru ⟨ad, bs, rfl, .inl (by rw [← bools_rvs h g2]; exact g1), k W _ H (Ext.refl _ _) R (.bl _)⟩
  · cases e
theorem fn_sum (hc : X.calm = true) : Fn X Z (.builtin "sum") fun S ps => bfn S .sum ps := by
  intro pins s σ H xs us Q W S S' ps r m v I ru R rp e hv k
  dsimp only [bfn] at e
  unfold bSum at e
  split at e <;> try cases e
  rename_i q
  split at e
  · rename_i l ep
    obtain ⟨bs, h, rfl⟩ := Option.map_eq_some_iff.mp e
    cases hv
    obtain ⟨x, rfl, r1⟩ := rvs1 rp
    have sn := R.seen r1
    rw [ep] at sn
    obtain ⟨ad, vs, rfl, g1, g2⟩ := sn.lst_
    exact cr_sum hc pins s σ H _ us Q I ru ⟨ad, bs, rfl, .inl (by rw [← ints_rvs h g2]; exact g1), k W _ H (Ext.refl _ _) R (.int _)⟩
  · cases e
theorem fn_abs : Fn X Z (.builtin "abs") fun S ps => bfn S .abs ps := by
  intro pins s σ H xs us Q W S S' ps r m v I ru R rp e hv k
  dsimp only [bfn] at e
  unfold bAbs at e
  split at e <;> try cases e
  cases hv
  obtain ⟨x, rfl, r1⟩ := rvs1 rp
  rw [rv_int r1] at ru
  exact call_abs pins s σ H _ us Q I ru ⟨_, rfl, k W _ H (Ext.refl _ _) R (.int _)⟩
theorem fn_max2 (hc : X.calm = true) : Fn X Z (.builtin "max") fun S ps => bfn S .max2 ps := by
  intro pins s σ H xs us Q W S S' ps r m v I ru R rp e hv k
  dsimp only [bfn] at e
  unfold bMax2 at e
  split at e <;> try cases e
  cases hv
  obtain ⟨x, x', rfl, r1, r2⟩ := rvs2 rp
  rw [rv_int r1, rv_int r2] at ru
  exact call_max2 hc pins s σ H _ us Q I ru ⟨_, _, rfl, k W _ H (Ext.refl _ _) R (.int _)⟩
theorem fn_min2 (hc : X.calm = true) : Fn X Z (.builtin "min") fun S ps => bfn S .min2 ps := by
  intro pins s σ H xs us Q W S S' ps r m v I ru R rp e hv k
  dsimp only [bfn] at e
  unfold bMin2 at e
  split at e <;> try cases e
  cases hv
  obtain ⟨x, x', rfl, r1, r2⟩ := rvs2 rp
  rw [rv_int r1, rv_int r2] at ru
  exact call_min2 hc pins s σ H _ us Q I ru ⟨_, _, rfl, k W _ H (Ext.refl _ _) R (.int _)⟩
theorem fn_int : Fn X Z (.type "int") fun S ps => bfn S .int ps := by
  intro pins s σ H xs us Q W S S' ps r m v I ru R rp e hv k
  dsimp only [bfn] at e
  unfold bInt at e
  split at e <;> try cases e
  · cases hv
    obtain ⟨x, rfl, r1⟩ := rvs1 rp
    rw [rv_int r1] at ru
    exact call_int1 pins s σ H _ us Q I ru (.inl ⟨_, rfl, k W _ H (Ext.refl _ _) R (.int _)⟩)
  · cases hv
    obtain ⟨x, rfl, r1⟩ := rvs1 rp
    rw [rv_bl r1] at ru
    exact call_int1 pins s σ H _ us Q I ru (.inr ⟨_, rfl, k W _ H (Ext.refl _ _) R (.int _)⟩)
theorem chars_str (s : String) : (Str.ofString s) = (⟨(chars s).toArray⟩ : Str) := ext_tl (by rw [tl_ofString] <;> rfl)
theorem fn_str : Fn X Z (.type "str") fun S ps => bfn S .str ps := by
  intro pins s σ H xs us Q W S S' ps r m v I ru R rp e hv k
  dsimp only [bfn] at e
  unfold bStr at e
  split at e <;> try cases e
  rename_i i
  split at e
  · rename_i hz
    cases e
    cases hv
    obtain ⟨x, rfl, r1⟩ := rvs1 rp
    rw [rv_int r1] at ru
    refine call_str_int pins s σ H _ us Q I ru ⟨_, rfl, of_decide_eq_true hz, ?_⟩
    show Q (.str (Str.ofString (toString i))) H
    rw [chars_str]
    exact k W _ H (Ext.refl _ _) R (.str _)
  · cases e
/-- what a sequence is seen as -/
theorem seq_seen {W : Wd} {S : Store} {H : Hp} {q : PV} {x : V} {l : List PV} (R : RH Z W S H) (r : RV Z W.F W.ι S.length q x) (h : seqOf S q = some l) :
    ∃ ad vs, x = .ref ad ∧ RVs Z W.F W.ι S.length l vs ∧ ((q = .tup l ∧ SqT Z.K H ad vs) ∨ Rd H ad (.lst vs)) := by
  have sn := R.seen r
  unfold seqOf at h
  cases ep : view S q with
  | tup l' =>
    rw [ep] at h sn
    cases h
    obtain ⟨ad, vs, rfl, g1, g2⟩ := sn.tup_
    exact ⟨ad, vs, rfl, g2, .inl ⟨view_tup R r ep, g1⟩⟩
  | lst l' =>
    rw [ep] at h sn
    cases h
    obtain ⟨ad, vs, rfl, g1, g2⟩ := sn.lst_
    exact ⟨ad, vs, rfl, g2, .inr g1⟩
  | _ => rw [ep] at h; cases h
include hK in
theorem fn_list : Fn X Z (.type "list") fun S ps => bfn S .list ps := by
  intro pins s σ H xs us Q W S S' ps r m v I ru R rp e hv k
  dsimp only [bfn] at e
  unfold bList at e
  split at e <;> try cases e
  obtain ⟨l, h, rfl⟩ := Option.map_eq_some_iff.mp e
  obtain ⟨x, rfl, r1⟩ := rvs1 rp
  obtain ⟨ad, vs, rfl, g2, g⟩ := seq_seen R r1 h
  refine call_list_of pins s σ H _ us Q I ru ⟨ad, vs, rfl, ?_, new_alloc R (.lst g2) trivial hv k⟩
  rcases g with ⟨_, g⟩ | g
  · exact .inr (by rw [hK]; exact g)
  · exact .inl (.inl g)
include hK in
theorem fn_tuple : Fn X Z (.type "tuple") fun S ps => bfn S .tuple ps := by
  intro pins s σ H xs us Q W S S' ps r m v I ru R rp e hv k
  dsimp only [bfn] at e
  unfold bTuple at e
  split at e <;> try cases e
  obtain ⟨l, h, rfl⟩ := Option.map_eq_some_iff.mp e
  cases hv
  obtain ⟨x, rfl, r1⟩ := rvs1 rp
  obtain ⟨ad, vs, rfl, g2, g⟩ := seq_seen R r1 h
  refine call_tuple_of pins s σ H _ us Q I ru ⟨ad, vs, rfl, ?_⟩
  rcases g with ⟨e1, g⟩ | g
  · subst e1
    exact .inr ⟨by rw [hK]; exact g, k W _ H (Ext.refl _ _) R r1⟩
  · exact .inl ⟨.inl g, new_ice R (.tup g2) k⟩
/-- a list's pairs -/
theorem pairs_rvs {W : Wd} {S : Store} {H : Hp} (R : RH Z W S H) : ∀ {xs : List PV} {vs : List V} {ks ws : List PV}, pairsOf xs = some (ks, ws) → ks.all skey = true → RVs Z W.F W.ι S.length xs vs →
    ∃ (ps : List Addr) (kvs : List (Key × V)), vs = ps.map V.ref ∧ Paired (fun p kv => SqT Z.K H p [kV kv.1, kv.2]) ps kvs ∧ ks = kvs.map (fun p => pk p.1) ∧ RVs Z W.F W.ι S.length ws (kvs.map (·.2))
  | [], _, _, _, h, _, .nil => by
    cases h
    exact ⟨[], [], rfl, .nil, rfl, .nil⟩
  | x :: xs, _, ks, ws, h, hk, .cons r1 r2 => by
    unfold pairsOf at h
    split at h <;> try contradiction
    rename_i k v r' heq
    cases heq
    obtain ⟨⟨ks', ws'⟩, h1, h2⟩ := Option.map_eq_some_iff.mp h
    cases h2
    simp only [List.all_cons, Bool.and_eq_true] at hk
    obtain ⟨ps, kvs, e1, e2, e3, e4⟩ := pairs_rvs R h1 hk.2 r2
    have sn := R.seen r1
    have ev : view S (.tup [k, v]) = .tup [k, v] := rfl
    rw [ev] at sn
    obtain ⟨a, us, rfl, g1, g2⟩ := sn.tup_
    obtain ⟨k0, rfl⟩ := key_of_skey hk.1
    cases g2 with
    | cons q1 q2 => cases q2 with
      | cons q3 q4 =>
        cases q4
        have ek := rv_key q1
        subst ek
        refine ⟨a :: ps, (k0, _) :: kvs, by rw [e1]; rfl, .cons g1 e2, by rw [e3]; rfl, .cons q3 e4⟩
include hK in
theorem fn_dict (hc : X.calm = true) : Fn X Z (.type "dict") fun S ps => bfn S .dict ps := by
  intro pins s σ H xs us Q W S S' ps r m v I ru R rp e hv k
  dsimp only [bfn] at e
  unfold bDict at e
  split at e <;> try cases e
  obtain ⟨x, rfl, r1⟩ := rvs1 rp
  split at e <;> try cases e
  rename_i l ev
  split at e <;> try contradiction
  rename_i ks ws hp
  split at e <;> try contradiction
  rename_i hz
  cases e
  rw [Bool.and_eq_true] at hz
  have sn := R.seen r1
  rw [ev] at sn
  obtain ⟨ad, vs, rfl, g1, g2⟩ := sn.lst_
  obtain ⟨ps', kvs, rfl, e2, e3, e4⟩ := pairs_rvs R hp hz.1 g2
  refine call_dictP hc pins s σ H _ us Q I ru ⟨ad, ps', kvs, rfl, .inl g1, by rw [hK]; exact e2, ?_⟩
  subst e3
  obtain ⟨i1, i2⟩ := mergeD_ok (kvs := []) (a := ([], [])) e4 rfl .nil
  exact new_alloc R (.dK i1 i2) trivial hv k
/-- f(..), f a built-in function or type -/
def isBlt (f : Value) : Prop := (∃ id, f = .builtin id) ∨ ∃ T, f = .type T
theorem e_blt {x : Str} {f : Value} {g : Store → List PV → Option (PV × Bool)} (m : Bool) (hf : Fn X Z f g) (hi : isBlt f) (hg : Gl X x) (hm : X.mg x = none) (hv : bootBuiltins x = some f) (hs : PA X (a :: es) (taOf Z ms)) (hn : x ≠ "__name__") (hdb : (x == ("__debug__" : Str)) = false)
    (he : starEach (a :: es) X.env = (false, eval a X.env) :: starEach es X.env) (hpl : (backTo pos (starEach es X.env)).any (·.1) = false) :
    PE X (.Call (.Name x p) (a :: es) [] pos) (teOf Z fun ρ S => (ms ρ S).bind fun vs S1 => (match g S1 vs with
    | some (v, true) => alloc m v S1
    | some (v, false) => .ok v S1
    | none => .bad)) := by
  refine ⟨fun pins s σ H Q I ⟨W, ρ, S, v, S', R, E, h, k⟩ => ?_⟩
  obtain ⟨q, S1, g1, h⟩ := bind_ok h
  have hr : ∃ r, g S1 q = some r ∧ (if r.2 then alloc m r.1 S1 else .ok r.1 S1) = .ok v S' := by
    split at h
    · rename_i w hw
      exact ⟨_, hw, h⟩
    · rename_i w hw
      exact ⟨_, hw, h⟩
    · cases h
  obtain ⟨r, hr1, hr2⟩ := hr
  have rule : CallR X f (fun xs H1 Q1 => ∃ W1, RH Z W1 S1 H1 ∧ RVs Z W1.F W1.ι S1.length q xs ∧ ∀ W' z H', Ext W1 S1 W' S' → RH Z W' S' H' → RV Z W'.F W'.ι S'.length v z → Q1 z H') := by
    rintro pins s σ H1 xs us Q1 I1 ru ⟨W1, R1, r1, q1⟩
    exact hf pins s σ H1 xs us Q1 W1 S1 S' q r m v I1 ru R1 r1 hr1 hr2 q1
  have fin : tCB (fun xs H1 Q1 => ∃ W1, RH Z W1 S1 H1 ∧ RVs Z W1.F W1.ι S1.length q xs ∧ ∀ W' z H', Ext W1 S1 W' S' → RH Z W' S' H' → RV Z W'.F W'.ι S'.length v z → Q1 z H') (taOf Z ms) σ H Q :=
    ⟨W, ρ, S, q, S1, R, E, g1, fun W1 x H1 x1 R1 r1 => ⟨W1, R1, r1, fun W' z H' ex R' rz => k W' z H' (x1.trans ex) R' rz⟩⟩
  rcases hi with ⟨id, rfl⟩ | ⟨T, rfl⟩
  · exact (pe_callB rule hg hm hv hs hn hdb he hpl).run pins s σ H Q I fin
  · exact (pe_callTy rule hg hm hv hs hn hdb he hpl).run pins s σ H Q I fin

/-! ### methods of built-in types -/
def Mt (X : Cx) (Z : Sit) (id : String) (T : String) (g : Store → PV → List PV → Res PV) : Prop :=
  ∀ (pins : List (Addr × Obj)) (s : Shared) (σ : L2.St) (H : Hp) (x : V) (xs : List V) (u : Value) (us : List Value) (Q : VK) (W : Wd) (S S' : Store) (q : PV) (ps : List PV) (v : PV), Inv X pins σ H s → RelV x u → Vals xs us → RH Z W S H → RV Z W.F W.ι S.length q x → RVs Z W.F W.ι S.length ps xs →
    g S q ps = .ok v S' → (∀ W' z H', Ext W S W' S' → RH Z W' S' H' → RV Z W'.F W'.ι S'.length v z → Q z H') → wpAny (model X.prog X.w) X.A (call (.builtin id) (u :: us)) (EP X pins σ Q) X.xe s
/-- a list of the store -/
theorem refList_of {W : Wd} {S : Store} {H : Hp} {q : PV} {x : V} {n : Nat} {l : List PV} (R : RH Z W S H) (r : RV Z W.F W.ι S.length q x) (h : refList S q = some (n, l)) :
    n < S.length ∧ x = .ref (W.ι n) ∧ ∃ vs, H (W.ι n) = some (.lst vs) ∧ RVs Z W.F W.ι S.length l vs := by
  cases q with
  | ref m =>
    unfold refList at h
    dsimp only at h
    split at h
    · rename_i l' e
      cases h
      have hx : x = .ref (W.ι n) := by
        cases r with
        | ref _ _ => rfl
        | obj h' r' => cases r'
      obtain ⟨o, h1, h2, h3⟩ := R.st n _ e
      refine ⟨(List.getElem?_eq_some_iff.mp e).1, hx, ?_⟩
      cases h2 with
      | lst r2 => exact ⟨_, h1, r2⟩
      | frz r2 => exact h3.elim
    · cases h
  | _ => cases h
theorem put_list {W : Wd} {S : Store} {H : Hp} {Q : VK} {n : Nat} {l : List PV} {vs : List V} {v : PV} {z : V} (R : RH Z W S H) (hn : n < S.length) (r : RVs Z W.F W.ι S.length l vs) (rz : RV Z W.F W.ι S.length v z)
    (k : ∀ W' z H', Ext W S W' (setS S n (.lst l)) → RH Z W' (setS S n (.lst l)) H' → RV Z W'.F W'.ι (setS S n (.lst l)).length v z → Q z H') : Q z (upd H (W.ι n) (.lst vs)) := by
  obtain ⟨R', ex⟩ := R.put hn (.lst r) trivial
  exact k W z _ ex R' (ex.rv rz)
theorem okI_lt {n : Nat} (h : okI (n + 1) = true) : n < sizeLine := okI_le h
theorem mt_append' : Mt X Z "list.append" "list" fun S q ps => bmt S .append q ps := by
  intro pins s σ H x xs u us Q W S S' q ps v I ru rus R rq rp e k
  dsimp only [bmt] at e
  unfold mAppend at e
  split at e <;> try cases e
  obtain ⟨y, rfl, r1⟩ := rvs1 rp
  split at e
  · rename_i n l h
    split at e
    · rename_i hz
      cases e
      obtain ⟨hn, rfl, vs, h1, h2⟩ := refList_of R rq h
      refine mt_append pins s σ H _ _ u us Q I ru rus ⟨_, vs, y, rfl, rfl, h1, by rw [← h2.length]; exact okI_lt hz, ?_⟩
      exact put_list R hn (h2.append (.cons r1 .nil)) .non k
    · cases e
  · cases e
theorem mt_pop' : Mt X Z "list.pop" "list" fun S q ps => bmt S .pop q ps := by
  intro pins s σ H x xs u us Q W S S' q ps v I ru rus R rq rp e k
  dsimp only [bmt] at e
  unfold mPop at e
  split at e <;> try cases e
  have e0 := rvs0 rp
  subst e0
  split at e
  · rename_i n l h
    split at e
    · rename_i y hy
      cases e
      obtain ⟨hn, rfl, vs, h1, h2⟩ := refList_of R rq h
      have hy' : l[l.length - 1]? = some v := by rw [← List.getLast?_eq_getElem?]; exact hy
      obtain ⟨z, h3, h4⟩ := h2.get hy'
      refine mt_pop pins s σ H _ _ u us Q I ru rus ⟨_, vs, z, rfl, rfl, h1, by rw [← h2.length]; exact h3, ?_⟩
      exact put_list R hn h2.dropLast h4 k
    · cases e
  · cases e
theorem mt_clear' : Mt X Z "list.clear" "list" fun S q ps => bmt S .clear q ps := by
  intro pins s σ H x xs u us Q W S S' q ps v I ru rus R rq rp e k
  dsimp only [bmt] at e
  unfold mClear at e
  split at e <;> try cases e
  have e0 := rvs0 rp
  subst e0
  split at e
  · rename_i n l h
    cases e
    obtain ⟨hn, rfl, vs, h1, h2⟩ := refList_of R rq h
    exact mt_clear pins s σ H _ _ u us Q I ru rus ⟨_, vs, rfl, rfl, h1, put_list R hn .nil .non k⟩
  · cases e
theorem mt_reverse' : Mt X Z "list.reverse" "list" fun S q ps => bmt S .reverse q ps := by
  intro pins s σ H x xs u us Q W S S' q ps v I ru rus R rq rp e k
  dsimp only [bmt] at e
  unfold mReverse at e
  split at e <;> try cases e
  have e0 := rvs0 rp
  subst e0
  split at e
  · rename_i n l h
    cases e
    obtain ⟨hn, rfl, vs, h1, h2⟩ := refList_of R rq h
    exact mt_reverse pins s σ H _ _ u us Q I ru rus ⟨_, vs, rfl, rfl, h1, put_list R hn h2.reverse .non k⟩
  · cases e
theorem sum_len (ts : List (List Nat)) : ((ts.map fun l => (⟨l.toArray⟩ : Str)).map (·.length)).sum = (ts.map (·.length)).sum := by
  rw [List.map_map]
  congr 1
include hK in
theorem mt_join' : Mt X Z "str.join" "str" fun S q ps => bmt S .join q ps := by
  intro pins s σ H x xs u us Q W S S' q ps v I ru rus R rq rp e k
  dsimp only [bmt] at e
  unfold mJoin at e
  split at e <;> try cases e
  obtain ⟨y, rfl, r1⟩ := rvs1 rp
  split at e <;> try cases e
  rename_i sep l ep
  split at e <;> try cases e
  rename_i ts ht
  split at e <;> try cases e
  rename_i hz
  have sn := R.seen r1
  rw [ep] at sn
  obtain ⟨ad, vs, rfl, g1, g2⟩ := sn.lst_
  rw [rv_str rq] at ru
  refine mt_join pins s σ H _ _ u us Q I ru rus ⟨_, ad, ts.map fun l => (⟨l.toArray⟩ : Str), rfl, rfl, .inl (.inl (by rw [← strs_rvs ht g2]; exact g1)), ?_, ?_⟩
  · rw [sum_len, List.length_map, str_len]
    exact of_decide_eq_true hz
  · have ej : Txt.join (⟨sep.toArray⟩ : Str) (ts.map fun l => (⟨l.toArray⟩ : Str)) = (⟨(joinL sep ts).toArray⟩ : Str) := by
      rw [join_eq]
      refine ext_tl ?_
      rw [tl_join, List.map_map]
      have : (ts.map (tl ∘ fun l => (⟨l.toArray⟩ : Str))) = ts := by
        have : (tl ∘ fun l => (⟨l.toArray⟩ : Str)) = id := funext fun l => rfl
        rw [this, List.map_id]
      rw [this] <;> rfl
    rw [ej]
    exact k W _ H (Ext.refl _ _) R (.str _)
theorem mt_upper' : Mt X Z "str.upper" "str" fun S q ps => bmt S .upper q ps := by
  intro pins s σ H x xs u us Q W S S' q ps v I ru rus R rq rp e k
  dsimp only [bmt] at e
  unfold mCase at e
  split at e <;> try cases e
  have e0 := rvs0 rp
  subst e0
  split at e <;> try cases e
  rename_i x0
  split at e <;> cases e
  rename_i hc
  simp only [Bool.and_eq_true, decide_eq_true_eq] at hc
  have rx := rv_str rq
  subst rx
  refine mt_upper pins s σ H _ _ u us Q I ru rus ⟨_, rfl, rfl, ?_, ?_⟩
  · rw [str_len]
    omega
  · have e2 : Txt.upper (⟨x0.toArray⟩ : Str) = (⟨(x0.map PyProof.Rows.up1).toArray⟩ : Str) := SX.upper_S hc.1
    rw [e2]
    exact k W _ H (Ext.refl _ _) R (.str _)
theorem mt_lower' : Mt X Z "str.lower" "str" fun S q ps => bmt S .lower q ps := by
  intro pins s σ H x xs u us Q W S S' q ps v I ru rus R rq rp e k
  dsimp only [bmt] at e
  unfold mCase at e
  split at e <;> try cases e
  have e0 := rvs0 rp
  subst e0
  split at e <;> try cases e
  rename_i x0
  split at e <;> cases e
  rename_i hc
  simp only [Bool.and_eq_true, decide_eq_true_eq] at hc
  have rx := rv_str rq
  subst rx
  refine mt_lower pins s σ H _ _ u us Q I ru rus ⟨_, rfl, rfl, ?_, ?_⟩
  · rw [str_len]
    omega
  · have e2 : Txt.lower (⟨x0.toArray⟩ : Str) = (⟨(x0.map PyProof.Rows.lo1).toArray⟩ : Str) := SX.lower_S hc.1
    rw [e2]
    exact k W _ H (Ext.refl _ _) R (.str _)
theorem mt_extend' : Mt X Z "list.extend" "list" fun S q ps => bmt S .extend q ps := by
  intro pins s σ H x xs u us Q W S S' q ps v I ru rus R rq rp e k
  dsimp only [bmt] at e
  unfold mExtend at e
  split at e <;> try cases e
  rename_i w
  obtain ⟨y, rfl, r1⟩ := rvs1 rp
  split at e <;> try cases e
  rename_i n l h
  split at e <;> try cases e
  rename_i ys ep
  split at e <;> try cases e
  rename_i hz
  obtain ⟨hn, rfl, vs, h1, h2⟩ := refList_of R rq h
  have sn := R.seen r1
  rw [ep] at sn
  obtain ⟨ad, ws, rfl, g1, g2⟩ := sn.lst_
  refine mt_extendR pins s σ H _ _ u us Q I ru rus ⟨_, ad, vs, ws, rfl, rfl, h1, g1, ?_, ?_⟩
  · rw [← h2.length, ← g2.length]
    exact of_decide_eq_true hz
  · exact put_list R hn (h2.append g2) .non k
/-- max(.., default=k) -/
theorem e_maxd {k : Int} {j : Nat} {p1 p2 : Pos} (hc : X.calm = true) (hu : X.A.units + 1 < cLine) (hg : Gl X "max") (hm : X.mg "max" = none) (ha : PE X a (teOf Z ma)) (he : starEach [a] X.env = (false, eval a X.env) :: starEach [] X.env) :
    PE X (.Call (.Name "max" p) [a] [⟨some "default", .Constant (.int k) j p1, p2⟩] pos) (teOf Z fun ρ S => (ma ρ S).bind fun v S1 => match view S1 v with
      | .lst xs => (match asInts xs with
        | some is => .ok (.int (maxO k is)) S1
        | none => .bad)
      | _ => .bad) := by
  refine ⟨fun pins s σ H Q I ⟨W, ρ, S, v, S', R, E, h, kk⟩ => ?_⟩
  obtain ⟨q, S1, h1, h⟩ := bind_ok h
  split at h <;> try cases h
  rename_i xs ev
  split at h <;> try cases h
  rename_i is hi
  refine (pe_callBK (cr_maxK hc hu) hg hm boot_max (pa_cons ha pa_nil he) (pk_cons pe_int pk_nil) (by decide) (by decide) (by rw [he] <;> rfl) (by rw [he] <;> rfl) rfl rfl rfl).run pins s σ H Q I ?_
  refine ⟨W, ρ, S, q, S', R, E, h1, fun W1 x H1 x1 R1 r1 => ?_⟩
  have sn := R1.seen r1
  rw [ev] at sn
  obtain ⟨ad, vs, rfl, g1, g2⟩ := sn.lst_
  refine ⟨ad, is, k, rfl, rfl, by rw [← ints_rvs hi g2]; exact g1, kk W1 _ H1 x1 R1 (.int _)⟩
/-- a + b of lists, the new one by reference -/
theorem e_cat (ha : PE X a (teOf Z ma)) (hb : PE X b (teOf Z mb)) : PE X (.BinOp a .Add b pos) (teOf Z fun ρ S => (ma ρ S).bind fun x S1 => (mb ρ S1).bind fun y S2 => match view S2 x, view S2 y with
    | .lst xs, .lst ys => if okI (xs.length + ys.length) then FF.alloc true (.lst (xs ++ ys)) S2 else .bad
    | _, _ => .bad) := by
  refine pe_mono (pe_op op_catR ha hb) fun σ H Q ⟨W, ρ, S, v, S', R, E, h, k⟩ => ?_
  obtain ⟨p, S1, h1, h⟩ := bind_ok h
  obtain ⟨q, S2, h2, h⟩ := bind_ok h
  split at h <;> try cases h
  rename_i xs ys ex ey
  split at h <;> try contradiction
  rename_i hz
  refine ⟨W, ρ, S, p, S1, R, E, h1, fun W1 x H1 x1 R1 r1 => ⟨W1, ρ, S1, q, S2, R1, x1.re E, h2, fun W2 y H2 x2 R2 r2 => ?_⟩⟩
  have sx := R2.seen (x2.rv r1)
  have sy := R2.seen r2
  rw [ex] at sx
  rw [ey] at sy
  obtain ⟨a1, v1, rfl, g1, q1⟩ := sx.lst_
  obtain ⟨a2, v2, rfl, g2, q2⟩ := sy.lst_
  refine ⟨a1, a2, v1, v2, rfl, rfl, g1, g2, ?_, new_alloc R2 (.lst (q1.append q2)) trivial h fun W' z H' ex R' rz => k W' z H' ((x1.trans x2).trans ex) R' rz⟩
  rw [← q1.length, ← q2.length]
  exact okI_le hz
end
end FF
set_option Elab.async false
set_option linter.all false
set_option autoImplicit false
set_option maxRecDepth 100000
set_option maxHeartbeats 4000000
/-! SEN: enumerate of a tuple; an instance of a class without __init__. -/
namespace FF
open PySem PySem.Spec PyProof.Rows L2 TL
/-- enumerate(v) begins, v told by how it begins -/
theorem en_new {v : Value} {o : Obj} {G : Heap → Prop} (B : Begins v o G) :
    Meets (Builtin.«enumerate.__new__» ⟨[.type "enumerate", v], []⟩) fun _ R s => G s.heap ∧
      R (.ok (.ret (.ref (s.heap.push o).objs.size))) { s with heap := (s.heap.push o).push { cls := .type "enumerate", data := .fields #[.none, .bool false, .ref s.heap.objs.size, rawInt 0, .none, .none] } } :=
  .of_wp fun prog w A R s hh => by
    obtain ⟨m, gs, dr, tok, os⟩ := s
    obtain ⟨hG, hR⟩ := hh
    have sub := sub_enumerate
    have begins : ∀ {A2 : Around} {E2 Q2 : Value → Shared → Prop}, Q2 (.ref m.objs.size) ⟨m.push o, gs, dr, tok, os⟩ → wpAny (model prog w) A2 (pyIter v) Q2 E2 ⟨m, gs, dr, tok, os⟩ := fun z => B.iter prog w _ _ ⟨m, gs, dr, tok, os⟩ _ hG z
    wp_walk using begins
    refine wpAny_stack_any fun _ => wpAny_pure ?_
    split
    · rename_i cc _ _ _ _ _
      cases (cc == Value.type "enumerate") <;>
      · wp_walk using begins
        exact ⟨_, rfl, hR⟩
    · wp_walk using begins
      exact ⟨_, rfl, hR⟩
theorem en_call {prog : Program} {w : World} {A : Around} {E : Value → Shared → Prop} {s : Shared} {v : Value} {o : Obj} {G : Heap → Prop} {Q : Value → Shared → Prop} (B : Begins v o G) (hG : G s.heap)
    (k : ∀ m, IsEnum m (s.heap.objs.size + 1) s.heap.objs.size 0 .none → m.get? s.heap.objs.size = some o → (∀ b u, s.heap.get? b = some u → m.get? b = some u) → Q (.ref (s.heap.objs.size + 1)) { s with heap := m }) :
    wpAny (model prog w) A (call (.type "enumerate") [v]) Q E s := by
  refine callType_new F.called_enumerate (by decide) (F.typeCall_enumerate_1 _) (F.newCall_enumerate_1 _) (fun ob => F.args_object_init_2 ob _) F.entry_enumerate_new (en_new B) ⟨hG, ?_⟩
  have sz : (s.heap.push o).objs.size = s.heap.objs.size + 1 := Heap.size_push ..
  show _ ∧ _
  rw [sz]
  have en : IsEnum ((s.heap.push o).push { cls := .type "enumerate", data := .fields #[.none, .bool false, .ref s.heap.objs.size, rawInt 0, .none, .none] }) (s.heap.objs.size + 1) s.heap.objs.size 0 .none := by
    have q := Heap.get?_push_size (s.heap.push o) (o := { cls := .type "enumerate", data := .fields #[.none, .bool false, .ref s.heap.objs.size, rawInt 0, .none, .none] }) rfl
    rw [sz] at q
    exact q
  exact ⟨⟨_, en, rfl⟩, k _ en (Heap.get?_push_of_some _ (Heap.get?_push_size _ B.free)) fun b u z => Heap.get?_push_of_some _ (Heap.get?_push_of_some _ z)⟩
def IteT (K : PySem.W.Frag) (a : Addr) : It where
  go := fun i H => ∃ (xs : List V) (x : V), SqT K H a xs ∧ xs[i]? = some x
  yld := fun i H v H' => ∃ T x, v = .ref T ∧ H T = none ∧ H' = upd H T (.tup [.int (i : Nat), x]) ∧ ∀ xs, SqT K H a xs → xs[i]? = some x
  stop := fun i H => ∃ xs : List V, SqT K H a xs ∧ xs.length ≤ i
theorem turn_enumT {P : Program} {w : World} {K : PySem.W.Frag} {elts : List Expr} {kk : Nat} {tpos : Pos} (a e it : Addr) :
    Turn P w K (.Tuple elts kk tpos) (IteT K a) [e, it] e (fun i h => (∃ old, IsEnum h e it ((i : Nat) : Int) old) ∧ h.IsTupleIter it a i) where
  mem := by simp
  obj := fun i h st b hb => by
    obtain ⟨⟨old, he⟩, o, ho, hc, hd⟩ := st
    have e' : b = e ∨ b = it := by simpa using hb
    rcases e' with rfl | rfl
    · exact ⟨_, he, fun v q => nomatch q⟩
    · exact ⟨o, ho, fun v q => by
        rw [hd] at q
        cases q⟩
  keep := fun i h h' st k => by
    obtain ⟨⟨old, he⟩, hi⟩ := st
    exact ⟨⟨old, k e (by simp) _ he⟩, hi.at fun o q => k it (by simp) o q⟩
  item := by
    intro X hP hw hK hc i pins s σ H E I hf st hg
    subst hP hw hK
    obtain ⟨⟨old, he⟩, hit⟩ := st
    obtain ⟨xs, x, hq, hx⟩ := hg
    obtain ⟨its, rv, p, hz⟩ := I.tuple hq
    obtain ⟨u, hu, ru⟩ := rv.get hx
    have hT : s.heap.IsTuple a its.toArray := p
    obtain ⟨oa, ha, hca, _⟩ := id hT
    obtain ⟨oi, hi, hci, _⟩ := id hit
    have ne1 : e ≠ it := fun z => by
      subst z
      have he' := he
      unfold IsEnum at he'
      rw [hi] at he'
      cases he'
      exact absurd (Value.type.inj hci) (by decide)
    have ne2 : a ≠ it := fun z => by
      subst z
      rw [ha] at hi
      cases hi
      rw [hca] at hci
      exact absurd (Value.type.inj hci) (by decide)
    have ne3 : e ≠ a := fun z => by
      subst z
      have he' := he
      unfold IsEnum at he'
      rw [ha] at he'
      cases he'
      exact absurd (Value.type.inj hca) (by decide)
    have hel : e < s.heap.objs.size := Heap.lt_size he
    have hil : it < s.heap.objs.size := Heap.lt_size hi
    have hlt : i < its.toArray.size := by
      have := (List.getElem?_eq_some_iff.mp hu).1
      simpa using this
    have hh : X.A.in1.handled = none := I.ok.hd hc
    refine wpAny_pyNext_enum_itemD (Draws.tuple hh it a ne2 its.toArray) he ⟨hit, hT⟩ hlt ne1 (by simp [ne1, ne3]) fun y m tk hy ho hit' hTu hsz hk => ?_
    have ey : y = u := by
      rw [List.getElem?_toArray, hu] at hy
      exact (Option.some.inj hy).symm
    subst ey
    refine ⟨_, rfl, wpAny_letOwnedTupleGo_enum (s := { s with heap := m, toks := tk + 1 }) ho fun m2 he' sb => ?_⟩
    have hT2 : m2.get? s.heap.objs.size = some { cls := .type "tuple", data := .seq #[.int i tk, y] } := (sb.2 _ (Nat.ne_of_gt hel)).trans hTu
    have new : ObjOk X.prog X.w (upd H s.heap.objs.size (.tup [.int (i : Nat), x])) m2 s.heap.objs.size (.tup [.int (i : Nat), x]) :=
      ⟨by show 2 ≤ sizeLine; decide, [.int i tk, y], .cons ⟨_, rfl⟩ (.cons ru .nil), _, hT2, rfl, _, rfl⟩
    have I1 : Inv X pins σ (upd H s.heap.objs.size (.tup [.int (i : Nat), x])) { s with heap := m2, toks := tk + 1 } := I.turnedNew (ch := [e, it])
      (fun b ob hb q => (sb.2 b (fun z => hb (by simp [z]))).trans (hk b ob (fun z => hb (by simp [z])) (fun z => hb (by simp [z])) q)) hf (Nat.le_refl _) new
    refine ⟨.ref s.heap.objs.size, _, I1, rfl, ⟨_, x, rfl, I.hok.fresh (Nat.le_refl _), rfl, fun ys hy => by rw [I.tuple_inj hy hq]; exact hx⟩, ⟨⟨y, ?_⟩, hit'.1.at fun o q => (sb.2 it (Ne.symm ne1)).trans q⟩, fun b hb => ?_⟩
    · have e1 : ((i + 1 : Nat) : Int) = (i : Int) + 1 := by omega
      rw [e1]
      exact he'
    · have e' : b = e ∨ b = it := by simpa using hb
      have hb' : b < s.heap.objs.size := by rcases e' with rfl | rfl <;> assumption
      rw [upd_ne (Nat.ne_of_lt hb')]
      exact (hf b hb).1
  done := by
    intro X hP hw hK hc i pins s σ H E I hf st hg
    subst hP hw hK
    obtain ⟨⟨old, he⟩, hit⟩ := st
    obtain ⟨xs, hq, hx⟩ := hg
    obtain ⟨its, rv, p, hz⟩ := I.tuple hq
    obtain ⟨f0, f1, f2, f3, f4, f5⟩ := hf it (by simp)
    have hT : s.heap.IsTuple a its.toArray := p
    obtain ⟨oa, ha, hca, _⟩ := id hT
    obtain ⟨oi, hi, hci, _⟩ := id hit
    have ne2 : a ≠ it := fun z => by
      subst z
      rw [ha] at hi
      cases hi
      rw [hca] at hci
      exact absurd (Value.type.inj hci) (by decide)
    have hl := rv.length
    have hh : X.A.in1.handled = none := I.ok.hd hc
    have D : Draws X.prog X.w X.A.in1 it [it, a] i (fun _ _ => False) (fun j h => j = i ∧ h.IsTupleIter it a j ∧ h.IsTuple a its.toArray) := by
      refine ⟨fun j h st => ?_, fun j h h' st k => ?_, fun j s Q E hj st _ => ?_, fun s Q E st hE => ?_⟩
      · obtain ⟨_, ⟨o, ho, _⟩, _⟩ := st
        exact ⟨o, ho⟩
      · exact ⟨st.1, st.2.1.at fun o e => k it (by simp) o e, st.2.2.at fun o e => k a (by simp) o e⟩
      · exact absurd st.1 (Nat.ne_of_lt hj)
      · exact wpAny_nextOf_tuple_end hh st.2.1 st.2.2 (by simp; omega) hE
    exact wpAny_pyNext_enum_endD D he ⟨rfl, hit, hT⟩ fun h' eb => ⟨rfl, I.turned (t' := s.toks) (fun b o hb q => eb b o hb q) f0 f1 f3 f4 f5⟩
  self := fun A i s Q E st h => let ⟨⟨_, he⟩, _⟩ := st; wpAny_pyIter_enum he h
theorem pi_enumT {X : Cx} {e : Expr} {ta : TA} {p pos tpos : Pos} {elts : List Expr} {kk : Nat} (hg : Gl X "enumerate") (hm : X.mg "enumerate" = none) (ha : PA X [e] ta) (hs : starEach [e] X.env = [(false, eval e X.env)]) :
    PI X (.Tuple elts kk tpos) (.Call (.Name "enumerate" p) [e] [] pos) (fun σ H R => ta σ H fun vs H1 => ∃ a xs, vs = [.ref a] ∧ SqT X.K H1 a xs ∧ R (IteT X.K a) H1) := by
  refine ⟨fun pins s σ H R I h => ?_⟩
  refine Call_ (ld_blt I hg hm boot_enumerate (PyProof.Rows.callWith_type1 (thn (ha.run pos pins s σ H _ I h) fun us s1 ⟨vs, H1, I1, r1, a, xs, ex, hq, q⟩ => ?_) hs rfl))
  subst ex
  obtain ⟨u, rfl, ru⟩ := r1.one
  cases ru
  obtain ⟨its, rv, p', hz⟩ := I1.tuple hq
  refine en_call (begins_tuple a its.toArray) (show s1.heap.IsTuple a its.toArray from p') fun m he hit hk => wpAny_pyIter_enum he ?_
  have I2 : Inv X pins σ H1 { s1 with heap := m } := I1.kept (t' := s1.toks) hk
  refine ⟨s1.heap.objs.size + 1, [s1.heap.objs.size + 1, s1.heap.objs.size], _, _, H1, rfl, I2, turn_enumT a (s1.heap.objs.size + 1) s1.heap.objs.size, ⟨⟨.none, he⟩, ⟨_, hit, rfl, rfl⟩⟩, fun b hb => ?_, q⟩
  have e' : b = s1.heap.objs.size + 1 ∨ b = s1.heap.objs.size := by simpa using hb
  have hle : s1.heap.objs.size ≤ b := by rcases e' with rfl | rfl <;> omega
  exact I1.fpOk hle (I1.hok.fresh hle)
end FF
set_option Elab.async false
set_option linter.all false
set_option autoImplicit false
set_option maxRecDepth 100000
set_option maxHeartbeats 4000000
/-! SEO: an instance of a class without __init__. -/
namespace FF
open PySem PySem.Spec PyProof.Rows L2 TL
structure MkO (K : PySem.W.Frag) (C : Addr) : Prop where
  makes : PySem.W.makesIn K C = true
  init : PySem.W.findIn K (.ref C) "__init__" = some (some (.builtin "object.__init__"))
  kp : PySem.W.keepIn K (.ref C) = true
section
variable {X : Cx} {C : Addr} {x : Str} {p pos : Pos}
theorem run_makeO {pins : List (Addr × Obj)} {σ : L2.St} {H : Hp} {s : Shared} {Q : VK} (M : MkO X.K C) (I : Inv X pins σ H s)
    (h : ∀ x dx, H x = none → H dx = none → dx ≠ x → Q (.ref x) (upd (upd H dx (.own x)) x (.ins C dx []))) : wpAny (model X.prog X.w) X.A (call (.ref C) []) (EP X pins σ Q) X.xe s := by
  have hq := h (s.heap.objs.size + 1) s.heap.objs.size (I.hok.fresh (Nat.le_succ _)) (I.hok.fresh (Nat.le_refl _)) (Nat.ne_of_lt (Nat.lt_succ_self _))
  have I2 := Inv.made (C := C) I
  have Y := PySem.W.makes_of (M := model X.prog X.w) I.kIn M.makes
  have hx : ((s.heap.push PySem.W.emptyDict).push (PySem.W.instObj C s.heap.objs.size)).get? (s.heap.objs.size + 1) = some (PySem.W.instObj C s.heap.objs.size) := by
    have q := Heap.get?_push_size (s.heap.push PySem.W.emptyDict) (o := PySem.W.instObj C s.heap.objs.size) rfl
    rwa [Heap.size_push] at q
  have t1 : PySem.W.Looks (model X.prog X.w) ((s.heap.push PySem.W.emptyDict).push (PySem.W.instObj C s.heap.objs.size)) (typeOf (.ref (s.heap.objs.size + 1))) (.ref C) := (PySem.W.Looks.ld hx).andThen .now
  have t2 : PySem.W.Looks (model X.prog X.w) ((s.heap.push PySem.W.emptyDict).push (PySem.W.instObj C s.heap.objs.size)) (isInstance (.ref (s.heap.objs.size + 1)) (.type "object")) true :=
    t1.andThen (Y.top.keeps fun b o e => Heap.get?_push_of_some _ (Heap.get?_push_of_some _ e))
  refine wpAny_call (make_map0 I.kIn M.makes M.init (fun self => PySem.W.Looks.of_pure (PySem.W.oi_bind self)) ?_)
  refine codeAny_call_builtin PySem.W.oi_plain PySem.W.entry_oi (PySem.W.check_slot (M := model X.prog X.w) (i := "object.__init__") (owner := "object") (n := "__init__") (rest := []) (kw := []) PySem.W.oi_kind PySem.W.oi_split t2 (PySem.W.oi_args (.ref (s.heap.objs.size + 1))) ?_)
  rw [PySem.W.oi_run]
  exact wpAny_pure ⟨rfl, ⟨.ref (s.heap.objs.size + 1), _, I2, rfl, hq⟩⟩
theorem pe_makeO (M : MkO X.K C) (hg : Gl X x) (hm : X.mg x = some (.ref C)) (hdb : (x == ("__debug__" : Str)) = false) :
    PE X (.Call (.Name x p) [] [] pos) (fun _ H Q => ∀ x dx, H x = none → H dx = none → dx ≠ x → Q (.ref x) (upd (upd H dx (.own x)) x (.ins C dx []))) := by
  refine ⟨fun pins s σ H Q I h => ?_⟩
  refine wpAny_Call_Name_kw (ld_glob I hg hm ?_ hdb)
  exact PySem.W.callWith_K0 I.kIn M.kp (run_makeO M I h)
end
end FF
set_option Elab.async false
set_option linter.all false
set_option autoImplicit false
set_option maxRecDepth 100000
set_option maxHeartbeats 4000000
/-! SEP: names bound to the things of a list. -/
namespace FF
open PySem PySem.Spec PyProof.Rows L2 TL
section
variable {prog : Program} {w : World} {A : Around} {E : Value → Shared → Prop} {s : Shared}
theorem draw_lst {it l : Addr} {items : Array Value} (hne : l ≠ it) : ∀ (n i : Nat) (s : Shared) (Q : List Value → Shared → Prop), s.heap.IsListIter it l i → s.heap.IsList l items → i + n ≤ items.size →
    (∀ h', h'.IsListIter it l (i + n) → Heap.SameBut it s.heap h' → Q ((items.toList.drop i).take n) { s with heap := h' }) → wpAny (model prog w) A (draw (.ref it) n) Q E s
  | 0, i, s, Q, hit, _, _, k => by
    show wpAny _ _ (pure []) Q E s
    exact wpAny_pure (by simpa using k s.heap hit (Heap.SameBut.refl ..))
  | n + 1, i, s, Q, hit, hl, hle, k => by
    have hlt : i < items.size := by omega
    show wpAny _ _ (pyNext (.ref it) >>= _) Q E s
    refine wpAny_bind (wpAny_pyNext_list_item hit hl (x := items[i]) (by simp [hlt]) fun h₁ hit₁ hs₁ => ?_)
    refine wpAny_bind (wpAny_holding (draw_lst hne n (i + 1) _ _ hit₁ (hl.extBut hs₁.extBut hne) (by omega) fun h₂ hit₂ hs₂ => wpAny_pure ?_))
    have hd : items.toList.drop i = items[i] :: items.toList.drop (i + 1) := by simp [List.drop_eq_getElem_cons, hlt]
    have := k h₂ (by rw [show i + (n + 1) = i + 1 + n by omega]; exact hit₂) (hs₁.trans hs₂)
    rw [hd, List.take_succ_cons] at this
    exact this
theorem unpack_lst {l : Addr} {items : Array Value} {Q : List Value → Shared → Prop} (hh : A.handled = none) (hl : s.heap.IsList l items)
    (k : ∀ h', Heap.ExtBut s.heap.objs.size s.heap h' → Q items.toList { s with heap := h' }) : wpAny (model prog w) A (unpackItems (.ref l) items.size none) Q E s := by
  have hlt : l ≠ s.heap.objs.size := by
    obtain ⟨o, ho, _⟩ := hl
    exact Nat.ne_of_lt (Heap.lt_size ho)
  unfold unpackItems
  refine wpAny_bind ?_
  unfold notIterableAtAll
  refine wpAny_bind (wpAny_specialOf hl.typeIs F.slot_list_iter.lookup ?_)
  refine wpAny_pure ?_
  simp only [Bool.false_eq_true, if_false]
  refine wpAny_bind (wpAny_holding (wpAny_pyIter_list hl ?_))
  refine wpAny_bind (wpAny_holding (draw_lst hlt items.size 0 _ _ ⟨_, Heap.get?_push_size _ rfl, rfl, rfl⟩ (hl.push _) (by omega) fun h₁ hit₁ hs₁ => ?_))
  have hall : List.take items.size (List.drop 0 items.toList) = items.toList := by
    rw [List.drop_zero]
    exact List.take_of_length_le (by simp)
  rw [hall]
  rw [if_neg (by simp)]
  have hl₁ : h₁.IsList l items := (hl.push _).extBut hs₁.extBut hlt
  refine wpAny_bind (wpAny_holding (wpAny_pyNext_list_end hh hit₁ hl₁ (by simp) fun h₂ he₂ => ?_))
  simp only [Option.isSome_none, Bool.false_eq_true, if_false]
  exact wpAny_pure (k h₂ fun b o hb e => he₂ b o hb (hs₁.extBut b o hb (Heap.get?_push_of_some _ e)))
theorem assign_lst {env : PySem.Env} {elts : List Expr} {x1} {pos : Pos} {t : Addr} {items : Array Value} {Q : Unit → Shared → Prop} (hh : A.handled = none) (ht : s.heap.IsList t items)
    (hn : (assignEach elts env).length = items.size) (hstar : (assignEach elts env).findIdx? (·.1) = none)
    (h : ∀ h', Heap.ExtBut s.heap.objs.size s.heap h' → wpAny (model prog w) A (assignInOrder ((assignEach elts env).map (·.2)) items.toList) Q E { s with heap := h' }) :
    wpAny (model prog w) A (assign (.Tuple elts x1 pos) env (.ref t)) Q E s := by
  rw [arm_assign_Tuple]
  refine wpAny_bind (wpAny_standAt ?_)
  unfold unpack
  rw [hn, hstar]
  exact wpAny_bind (wpAny_holding (unpack_lst hh ht h))
end
/-- (a, b, ..) = a list of that length -/
def gLst (K : PySem.W.Frag) (n : Nat) (t : TGs) : TG := fun v σ H Q => ∃ a xs, v = .ref a ∧ SqL K H a xs ∧ xs.length = n ∧ t xs σ H Q
section
variable {X : Cx}
theorem pg_lst {es : List Expr} {k : Nat} {t : TGs} {n : Nat} {pos : Pos} (hc : X.calm = true) (h : PGs X es t)
    (hn : (assignEach es X.env).length = n) (hst : (assignEach es X.env).findIdx? (·.1) = none) : PG X (.Tuple es k pos) (gLst X.K n t) := by
  refine ⟨fun pins s σ H v u Q I r hw => ?_⟩
  obtain ⟨a, xs, e1, hq, hl, hw⟩ := hw
  subst e1
  cases r
  obtain ⟨its, rv, ht, hz⟩ := I.list hq
  refine assign_lst (I.ok.hd hc) ht.isList (by simp [hn, ← hl, rv.length]) hst fun h' hx => ?_
  have I1 : Inv X pins σ H { s with heap := h' } := I.kept (t' := s.toks) fun b o e => hx b o (Nat.ne_of_lt (Heap.lt_size e)) e
  exact h.run pins _ σ H xs _ Q I1 (by simpa using rv) hw
/-- .. a tuple's or a list's -/
def gSeq (K : PySem.W.Frag) (n : Nat) (t : TGs) : TG := fun v σ H Q => gTup K n t v σ H Q ∨ gLst K n t v σ H Q
theorem pg_seq {es : List Expr} {k : Nat} {t : TGs} {n : Nat} {pos : Pos} (hc : X.calm = true) (h : PGs X es t)
    (hn : (assignEach es X.env).length = n) (hst : (assignEach es X.env).findIdx? (·.1) = none) : PG X (.Tuple es k pos) (gSeq X.K n t) :=
  ⟨fun pins s σ H v u Q I r hw => hw.elim (fun hw => (pg_tup hc h hn hst).run pins s σ H v u Q I r hw) fun hw => (pg_lst hc h hn hst).run pins s σ H v u Q I r hw⟩
end
end FF
set_option Elab.async false
set_option linter.all false
set_option autoImplicit false
set_option maxRecDepth 100000
set_option maxHeartbeats 4000000
/-! SNF: what is walked; for, while, comprehensions. -/
namespace FF
open PySem PySem.Spec PyProof.Rows L2 TL
/-- later, whatever is set apart -/
abbrev Ext' (W : Wd) (S : Store) (W' : Wd) (S' : Store) : Prop := Ext W S { W' with X := W.X } S'
theorem Ext.any {W W' : Wd} {S S' : Store} (e : Ext W S W' S') : Ext' W S W' S' := ⟨e.fz, e.le, e.at_, rfl⟩
theorem Ext'.trans {W W1 W2 : Wd} {S S1 S2 : Store} (a : Ext' W S W1 S1) (b : Ext' W1 S1 W2 S2) : Ext' W S W2 S2 :=
  ⟨fun c o h => b.fz c o (a.fz c o h), Nat.le_trans a.le b.le, fun n h => (b.at_ n (Nat.lt_of_lt_of_le h a.le)).trans (a.at_ n h), rfl⟩
theorem Ext'.rv {Z : Sit} {W W' : Wd} {S S' : Store} {v : PV} {x : V} (e : Ext' W S W' S') (r : RV Z W.F W.ι S.length v x) : RV Z W'.F W'.ι S'.length v x := r.mono e.fz e.le e.at_
theorem Ext'.rvs {Z : Sit} {W W' : Wd} {S S' : Store} {v : List PV} {x : List V} (e : Ext' W S W' S') (r : RVs Z W.F W.ι S.length v x) : RVs Z W'.F W'.ι S'.length v x := r.mono e.fz e.le e.at_
theorem Ext'.re {Z : Sit} {W W' : Wd} {S S' : Store} {ρ : Env} {σ : L2.St} (e : Ext' W S W' S') (r : RE Z W S.length ρ σ) : RE Z W' S'.length ρ σ :=
  ⟨r.len, fun i v h => let ⟨x, h1, h2⟩ := r.at_ i v h; ⟨x, h1, e.rv h2⟩⟩
theorem intact_at {g : Guard} {S : Store} (h : intact g S = true) {n : Nat} {o : PV} (m : (n, o) ∈ g) : S[n]? = some o := by
  unfold intact at h
  rw [List.all_eq_true] at h
  simpa using h _ m
/-- a sequence, now and later -/
theorem seq_later {Z : Sit} {W : Wd} {S : Store} {H : Hp} {v : PV} {x : V} {l : List PV} (R : RH Z W S H) (r : RV Z W.F W.ι S.length v x) :
    (view S v = .tup l → ∃ a, x = .ref a ∧ ∀ W2 S2 H2, Ext' W S W2 S2 → RH Z W2 S2 H2 → ∃ vs, RVs Z W2.F W2.ι S2.length l vs ∧ SqT Z.K H2 a vs) ∧
    (view S v = .lst l → ∃ a, x = .ref a ∧ ∀ W2 S2 H2, Ext' W S W2 S2 → RH Z W2 S2 H2 → intact (guardOf S v) S2 = true → ∃ vs, RVs Z W2.F W2.ι S2.length l vs ∧ Rd H2 a (.lst vs)) := by
  constructor
  · intro e
    have e2 := view_tup R r e
    subst e2
    cases r with
    | obj h ro =>
      cases ro with
      | tup r2 => exact ⟨_, rfl, fun W2 S2 H2 ex R2 => ⟨_, ex.rvs r2, .inl (.inl (R2.fz _ _ (ex.fz _ _ h)))⟩⟩
    | ktup h hc hd hz hv r2 => exact ⟨_, rfl, fun W2 S2 H2 ex R2 => ⟨_, ex.rvs r2, .inr ⟨_, _, _, h, hc, hd, hz, hv⟩⟩⟩
  · intro e
    cases v with
    | ref n =>
      have hn : n < S.length := by
        have := r.low
        simpa [FF.low] using this
      have hx : x = .ref (W.ι n) := by
        cases r with
        | ref _ _ => rfl
        | obj h' r' => cases r'
      have es : S[n]? = some (.lst l) := by
        have e' : (S[n]?).getD (.ref n) = .lst l := e
        rw [List.getElem?_eq_getElem hn] at e' ⊢
        exact congrArg some e'
      refine ⟨_, hx, fun W2 S2 H2 ex R2 it => ?_⟩
      have e2 : S2[n]? = some (.lst l) := intact_at it (by
        have : guardOf S (.ref n) = [(n, .lst l)] := by simp [guardOf, es]
        rw [this]
        exact List.mem_singleton.mpr rfl)
      obtain ⟨o, h1, h2, h3⟩ := R2.st n _ e2
      have ei : W2.ι n = W.ι n := ex.at_ n hn
      rw [ei] at h1
      cases h2 with
      | lst r2 => exact ⟨_, r2, .inl h1⟩
      | frz r2 => exact h3.elim
    | lst l' =>
      cases e
      cases r with
      | obj h ro =>
        cases ro with
        | lst r2 => exact ⟨_, rfl, fun W2 S2 H2 ex R2 _ => ⟨_, ex.rvs r2, .inl (R2.fz _ _ (ex.fz _ _ h))⟩⟩
        | frz r2 => exact ⟨_, rfl, fun W2 S2 H2 ex R2 _ => ⟨_, ex.rvs r2, .inr ⟨_, R2.fz _ _ (ex.fz _ _ h)⟩⟩⟩
    | _ => cases e
/-- an iterator that walks such things while nothing of them is changed -/
structure WalkAt (Z : Sit) (J : It) (xs : List PV) (W2 : Wd) (S2 : Store) (H2 : Hp) : Prop where
  go : ∀ i, i < xs.length → J.go i H2
  stop : J.stop xs.length H2
  yld : ∀ (i : Nat) (p : PV) (x : V) (H' : Hp), xs[i]? = some p → J.yld i H2 x H' → ∃ W3, Ext W2 S2 W3 S2 ∧ RH Z W3 S2 H' ∧ RV Z W3.F W3.ι S2.length p x
def Walks (Z : Sit) (J : It) (W : Wd) (S : Store) (xs : List PV) (g : Guard) : Prop :=
  ∀ W2 S2 H2, Ext' W S W2 S2 → RH Z W2 S2 H2 → intact g S2 = true → WalkAt Z J xs W2 S2 H2
def tiOf (Z : Sit) (m : Env → Store → Res (List PV × Guard)) : TI := fun σ H R => ∃ W ρ S xs g S1, RH Z W S H ∧ RE Z W S.length ρ σ ∧ m ρ S = .ok (xs, g) S1 ∧ ∀ W1 J H1, Ext W S W1 S1 → RH Z W1 S1 H1 → Walks Z J W1 S1 xs g → R J H1
section
variable {Z : Sit} {K : PySem.W.Frag} (hKK : K = Z.K) {W W2 : Wd} {S S2 : Store} {H2 : Hp} {a b : Addr} {l l' : List PV} {vs vs' : List V}
theorem get_at {i : Nat} {xs : List V} (hi : i < xs.length) : xs[i]? = some xs[i] := List.getElem?_eq_getElem hi
theorem wa_list (R2 : RH Z W2 S2 H2) (r : RVs Z W2.F W2.ι S2.length l vs) (q : SqL K H2 a vs) : WalkAt Z (Itl K a) l W2 S2 H2 := by
  have w := walk_list (K := K) (a := a) (xs := vs)
  refine ⟨fun i hi => w.goes i H2 (by rw [← r.length]; exact hi) q, ?_, fun i p x H' hp y => ?_⟩
  · rw [r.length]
    exact w.stops H2 q
  · have hi : i < vs.length := by
      rw [← r.length]
      exact (List.getElem?_eq_some_iff.mp hp).1
    obtain ⟨e1, e2⟩ := w.yields i H2 x H' hi q y
    subst e1
    obtain ⟨x', h1, h2⟩ := r.get hp
    rw [h1] at e2
    cases e2
    exact ⟨W2, Ext.refl _ _, R2, h2⟩
theorem wa_tup (R2 : RH Z W2 S2 H2) (r : RVs Z W2.F W2.ι S2.length l vs) (q : SqT K H2 a vs) : WalkAt Z (Itt K a) l W2 S2 H2 := by
  have w := walk_tup (K := K) (a := a) (xs := vs)
  refine ⟨fun i hi => w.goes i H2 (by rw [← r.length]; exact hi) q, ?_, fun i p x H' hp y => ?_⟩
  · rw [r.length]
    exact w.stops H2 q
  · have hi : i < vs.length := by
      rw [← r.length]
      exact (List.getElem?_eq_some_iff.mp hp).1
    obtain ⟨e1, e2⟩ := w.yields i H2 x H' hi q y
    subst e1
    obtain ⟨x', h1, h2⟩ := r.get hp
    rw [h1] at e2
    cases e2
    exact ⟨W2, Ext.refl _ _, R2, h2⟩
theorem rev_get {α : Type} {xs : List α} {i : Nat} (hi : i < xs.length) : xs.reverse[i]? = xs[xs.length - 1 - i]? := by
  rw [List.getElem?_reverse hi]
theorem wa_revL (R2 : RH Z W2 S2 H2) (r : RVs Z W2.F W2.ι S2.length l vs) (q : SqL K H2 a vs) : WalkAt Z (Itv K a l.length) l.reverse W2 S2 H2 := by
  have el := r.length
  refine ⟨fun i hi => ?_, ?_, fun i p x H' hp y => ?_⟩
  · rw [List.length_reverse] at hi
    exact ⟨hi, vs, vs[l.length - 1 - i]'(by omega), q, by simp [show l.length - 1 - i < vs.length by omega]⟩
  · rw [List.length_reverse]
    exact Nat.le_refl _
  · have hi : i < l.length := by
      have := (List.getElem?_eq_some_iff.mp hp).1
      rwa [List.length_reverse] at this
    rw [rev_get hi] at hp
    obtain ⟨e1, e2⟩ := y
    subst e1
    obtain ⟨x', h1, h2⟩ := r.get hp
    have e3 := e2 vs q
    rw [h1] at e3
    cases e3
    exact ⟨W2, Ext.refl _ _, R2, h2⟩
theorem wa_revT (R2 : RH Z W2 S2 H2) (r : RVs Z W2.F W2.ι S2.length l vs) (q : SqT K H2 a vs) : WalkAt Z (RT.ItvT K a l.length) l.reverse W2 S2 H2 := by
  have el := r.length
  refine ⟨fun i hi => ?_, ?_, fun i p x H' hp y => ?_⟩
  · rw [List.length_reverse] at hi
    exact ⟨hi, vs, vs[l.length - 1 - i]'(by omega), q, by simp [show l.length - 1 - i < vs.length by omega]⟩
  · rw [List.length_reverse]
    exact Nat.le_refl _
  · have hi : i < l.length := by
      have := (List.getElem?_eq_some_iff.mp hp).1
      rwa [List.length_reverse] at this
    rw [rev_get hi] at hp
    obtain ⟨e1, e2⟩ := y
    subst e1
    obtain ⟨x', h1, h2⟩ := r.get hp
    have e3 := e2 vs q
    rw [h1] at e3
    cases e3
    exact ⟨W2, Ext.refl _ _, R2, h2⟩
theorem wa_str {x : List Nat} (R2 : RH Z W2 S2 H2) : WalkAt Z (Its (⟨x.toArray⟩ : Str)) (x.map fun c => .str [c]) W2 S2 H2 := by
  refine ⟨fun i hi => ?_, ?_, fun i p y H' hp q => ?_⟩
  · show i < x.toArray.size
    simpa using hi
  · show x.toArray.size ≤ _
    simp
  · obtain ⟨e1, c, e2, e3⟩ := q
    subst e1 e3
    have e2 : x[i]? = some c := by simpa using e2
    rw [List.getElem?_map, e2] at hp
    cases hp
    exact ⟨W2, Ext.refl _ _, R2, .str [c]⟩
theorem wa_range {lo : Int} {n : Nat} (R2 : RH Z W2 S2 H2) : WalkAt Z (Itr lo n) (ranged lo n) W2 S2 H2 := by
  have el : (ranged lo n).length = n := by simp [ranged]
  refine ⟨fun i hi => ?_, ?_, fun i p y H' hp q => ?_⟩
  · show i < n
    rw [← el]
    exact hi
  · show n ≤ _
    rw [el]
    exact Nat.le_refl _
  · obtain ⟨e1, e2⟩ := q
    subst e1 e2
    have hi : i < n := by
      rw [← el]
      exact (List.getElem?_eq_some_iff.mp hp).1
    have e3 : (ranged lo n)[i]? = some (.int (lo + i)) := by simp [ranged, hi]
    rw [e3] at hp
    cases hp
    exact ⟨W2, Ext.refl _ _, R2, .int _⟩
/-- a new pair -/
theorem pair_ice {T : Addr} {p q : PV} {x y : V} (R2 : RH Z W2 S2 H2) (hT : H2 T = none) (h1 : RV Z W2.F W2.ι S2.length p x) (h2 : RV Z W2.F W2.ι S2.length q y) :
    ∃ W3, Ext W2 S2 W3 S2 ∧ RH Z W3 S2 (upd H2 T (.tup [x, y])) ∧ RV Z W3.F W3.ι S2.length (.tup [p, q]) (.ref T) := by
  obtain ⟨R3, ex⟩ := R2.ice (o := .tup [x, y]) hT
  exact ⟨_, ex, R3, .obj upd_same (.tup (.cons (ex.rv h1) (.cons (ex.rv h2) .nil)))⟩
theorem enum_len : ∀ (k : Nat) (xs : List PV), (enumT k xs).length = xs.length
  | _, [] => rfl
  | k, x :: xs => by simp [enumT, enum_len (k + 1) xs]
theorem enum_get : ∀ (k : Nat) (xs : List PV) (i : Nat), (enumT k xs)[i]? = (xs[i]?).map fun x => .tup [.int ((k + i : Nat) : Int), x]
  | _, [], _ => by simp [enumT]
  | k, x :: xs, 0 => by simp [enumT]
  | k, x :: xs, i + 1 => by
    have e := enum_get (k + 1) xs i
    simp only [enumT, List.getElem?_cons_succ]
    rw [e]
    have : k + 1 + i = k + (i + 1) := by omega
    rw [this]
theorem wa_enum (R2 : RH Z W2 S2 H2) (r : RVs Z W2.F W2.ι S2.length l vs) (q : SqL K H2 a vs) : WalkAt Z (Ite K a) (enumT 0 l) W2 S2 H2 := by
  have w := walk_enum (K := K) (a := a) (xs := vs)
  refine ⟨fun i hi => w.goes i H2 (by rw [← r.length, ← enum_len 0 l]; exact hi) q, ?_, fun i p x H' hp y => ?_⟩
  · rw [enum_len, r.length]
    exact w.stops H2 q
  · have hi : i < vs.length := by
      rw [← r.length, ← enum_len 0 l]
      exact (List.getElem?_eq_some_iff.mp hp).1
    obtain ⟨T, i', x', e1, hT, e2, e3, e4⟩ := w.yields i H2 x H' hi q y
    subst e1 e2
    cases e3
    rw [enum_get] at hp
    obtain ⟨u, hu, rfl⟩ := Option.map_eq_some_iff.mp hp
    obtain ⟨x2, h1, h2⟩ := r.get hu
    dsimp only at e4
    rw [h1] at e4
    cases e4
    rw [Nat.zero_add]
    exact pair_ice R2 hT (.int _) h2
theorem zip_len : ∀ (xs ys : List PV), (zipT xs ys).length = min xs.length ys.length
  | [], ys => by simp [zipT]
  | x :: xs, [] => by simp [zipT]
  | x :: xs, y :: ys => by
    have := zip_len xs ys
    simp only [zipT, List.length_cons, this]
    omega
theorem zip_get : ∀ (xs ys : List PV) (i : Nat) (p : PV), (zipT xs ys)[i]? = some p → ∃ x y, xs[i]? = some x ∧ ys[i]? = some y ∧ p = .tup [x, y]
  | [], ys, i, p, h => by simp [zipT] at h
  | x :: xs, [], i, p, h => by simp [zipT] at h
  | x :: xs, y :: ys, 0, p, h => by
    simp [zipT] at h
    exact ⟨x, y, rfl, rfl, h.symm⟩
  | x :: xs, y :: ys, i + 1, p, h => by
    simp only [zipT, List.getElem?_cons_succ] at h
    obtain ⟨u, v, h1, h2, h3⟩ := zip_get xs ys i p h
    exact ⟨u, v, by simpa using h1, by simpa using h2, h3⟩
theorem wa_zip (R2 : RH Z W2 S2 H2) (r : RVs Z W2.F W2.ι S2.length l vs) (r' : RVs Z W2.F W2.ι S2.length l' vs') (q : SqL K H2 a vs) (q' : SqL K H2 b vs') : WalkAt Z (Itz K a b) (zipT l l') W2 S2 H2 := by
  have w := walk_zip (K := K) (a := a) (b := b) (xs := vs) (ys := vs') rfl
  have el : (zipT l l').length = min vs.length vs'.length := by rw [zip_len, r.length, r'.length]
  refine ⟨fun i hi => w.goes i H2 (by rw [← el]; exact hi) ⟨q, q'⟩, ?_, fun i p x H' hp y => ?_⟩
  · rw [el]
    exact w.stops H2 ⟨q, q'⟩
  · have hi : i < min vs.length vs'.length := by
      rw [← el]
      exact (List.getElem?_eq_some_iff.mp hp).1
    obtain ⟨T, x', y', e1, hT, e2, e3, e4⟩ := w.yields i H2 x H' hi ⟨q, q'⟩ y
    subst e1 e2
    obtain ⟨u, v, g1, g2, rfl⟩ := zip_get _ _ _ _ hp
    obtain ⟨x2, h1, h2⟩ := r.get g1
    obtain ⟨y2, h3, h4⟩ := r'.get g2
    dsimp only at e3 e4
    rw [h1] at e3
    rw [h3] at e4
    cases e3
    cases e4
    exact pair_ice R2 hT h2 h4
theorem wa_zipT (R2 : RH Z W2 S2 H2) (r : RVs Z W2.F W2.ι S2.length l vs) (r' : RVs Z W2.F W2.ι S2.length l' vs') (q : SqT K H2 a vs) (q' : SqT K H2 b vs') : WalkAt Z (RZ.ItzT K a b) (zipT l l') W2 S2 H2 := by
  have e1 := r.length
  have e2 := r'.length
  have el := zip_len l l'
  refine ⟨fun i hi => ?_, ⟨vs, vs', q, q', by omega⟩, fun i p x H' hp y => ?_⟩
  · exact ⟨vs, vs', vs[i]'(by omega), vs'[i]'(by omega), q, q', get_at _, get_at _⟩
  · obtain ⟨T, x', y', rfl, hT, rfl, e3, e4⟩ := y
    obtain ⟨u, v, g1, g2, rfl⟩ := zip_get _ _ _ _ hp
    obtain ⟨x2, h1, h2⟩ := r.get g1
    obtain ⟨y2, h3, h4⟩ := r'.get g2
    have e5 := e3 vs q
    have e6 := e4 vs' q'
    rw [h1] at e5
    rw [h3] at e6
    cases e5
    cases e6
    exact pair_ice R2 hT h2 h4
end
theorem rvs0' {Z : Sit} {F : Hp} {ι : Nat → Addr} {N : Nat} {x : List V} (r : RVs Z F ι N [] x) : x = [] := by
  cases r
  rfl
theorem intact_l {g h : Guard} {S : Store} (e : intact (g ++ h) S = true) : intact g S = true ∧ intact h S = true := by
  unfold intact at e ⊢
  rw [List.all_append, Bool.and_eq_true] at e
  exact e
section
variable {X : Cx} {Z : Sit} (hK : X.K = Z.K) {tg e e2 : Expr} {pos p tpos : Pos} {m : Env → Store → Res PV} {ms : Env → Store → Res (List PV)}
include hK in
theorem i_val (he : PE X e (teOf Z m)) : PI X tg e (tiOf Z fun ρ S => (m ρ S).bind fun v S1 => opt S1 (walk S1 .val [v])) := by
  refine ⟨fun pins s σ H R I ⟨W, ρ, S, xs, g, S1, RR, E, hm, k⟩ => ?_⟩
  obtain ⟨v, S2, h1, hm⟩ := bind_ok hm
  obtain ⟨h2, e3⟩ := opt_ok hm
  subst e3
  obtain ⟨l, h3, h4⟩ := Option.map_eq_some_iff.mp h2
  cases h4
  unfold iters at h3
  cases ev : view S1 v with
  | tup l' =>
    rw [ev] at h3
    cases h3
    refine (pi_tup he).run pins s σ H R I ⟨W, ρ, S, v, S1, RR, E, h1, fun W1 x H1 x1 R1 r1 => ?_⟩
    obtain ⟨a, rfl, q⟩ := (seq_later R1 r1).1 ev
    obtain ⟨vs, r2, q2⟩ := q W1 S1 H1 (Ext.refl _ _).any R1
    refine ⟨a, rfl, ⟨vs, by rw [hK]; exact q2⟩, k W1 _ H1 x1 R1 fun W2 S2 H2 ex R2 it => ?_⟩
    obtain ⟨vs', r3, q3⟩ := q W2 S2 H2 ex R2
    exact wa_tup R2 r3 (by rw [hK]; exact q3)
  | lst l' =>
    rw [ev] at h3
    cases h3
    refine (pi_list he).run pins s σ H R I ⟨W, ρ, S, v, S1, RR, E, h1, fun W1 x H1 x1 R1 r1 => ?_⟩
    obtain ⟨a, rfl, q⟩ := (seq_later R1 r1).2 ev
    have it0 : intact (guardOf S1 v) S1 = true := by
      cases v with
      | ref n =>
        unfold guardOf
        cases es : S1[n]? with
        | none => simp [intact, es]
        | some o => simp [intact, es]
      | _ => rfl
    obtain ⟨vs, r2, q2⟩ := q W1 S1 H1 (Ext.refl _ _).any R1 it0
    refine ⟨a, rfl, ⟨vs, .inl q2⟩, k W1 _ H1 x1 R1 fun W2 S2 H2 ex R2 it => ?_⟩
    obtain ⟨vs', r3, q3⟩ := q W2 S2 H2 ex R2 it
    exact wa_list R2 r3 (.inl q3)
  | str x =>
    rw [ev] at h3
    dsimp only at h3
    split at h3
    · cases h3
      refine (pi_str he).run pins s σ H R I ⟨W, ρ, S, v, S1, RR, E, h1, fun W1 y H1 x1 R1 r1 => ?_⟩
      have sn := R1.seen r1
      rw [ev] at sn
      exact ⟨_, sn.str_, k W1 _ H1 x1 R1 fun W2 S2 H2 ex R2 it => wa_str R2⟩
    · cases h3
  | _ => rw [ev] at h3; cases h3
theorem okB_le {i : Int} (h : okB i = true) : -(2 ^ 62) ≤ i ∧ i < 2 ^ 62 := by
  unfold okB at h
  simpa using h
theorem i_range1 (hg : Gl X "range") (hm : X.mg "range" = none) (ha : PA X [e] (taOf Z ms)) (hs : starEach [e] X.env = [(false, eval e X.env)]) : PI X tg (.Call (.Name "range" p) [e] [] pos) (tiOf Z fun ρ S => (ms ρ S).bind fun v S1 => opt S1 (walk S1 .range1 v)) := by
  refine ⟨fun pins s σ H R I ⟨W, ρ, S, xs, g, S1, RR, E, hmm, k⟩ => ?_⟩
  obtain ⟨v, S2, h1, hmm⟩ := bind_ok hmm
  obtain ⟨h2, e3⟩ := opt_ok hmm
  subst e3
  unfold walk at h2
  split at h2 <;> try contradiction
  rename_i j hj
  split at h2 <;> try contradiction
  rename_i hz
  cases h2
  refine (pi_range1 hg hm ha hs).run pins s σ H R I ⟨W, ρ, S, _, S1, RR, E, h1, fun W1 x H1 x1 R1 r1 => ?_⟩
  cases r1 with
  | cons r r' =>
    cases r'
    cases rv_int r
    exact ⟨j, rfl, (okB_le hz).1, (okB_le hz).2, k W1 _ H1 x1 R1 fun W2 S2 H2 ex R2 it => wa_range R2⟩
theorem i_range2 (hg : Gl X "range") (hm : X.mg "range" = none) (ha : PA X [e, e2] (taOf Z ms)) (hs : starEach [e, e2] X.env = [(false, eval e X.env), (false, eval e2 X.env)]) (hs2 : starEach [e2] X.env = [(false, eval e2 X.env)]) : PI X tg (.Call (.Name "range" p) [e, e2] [] pos) (tiOf Z fun ρ S => (ms ρ S).bind fun v S1 => opt S1 (walk S1 .range2 v)) := by
  refine ⟨fun pins s σ H R I ⟨W, ρ, S, xs, g, S1, RR, E, hmm, k⟩ => ?_⟩
  obtain ⟨v, S2, h1, hmm⟩ := bind_ok hmm
  obtain ⟨h2, e3⟩ := opt_ok hmm
  subst e3
  unfold walk at h2
  split at h2 <;> try contradiction
  rename_i i j hj
  split at h2 <;> try contradiction
  rename_i hz
  cases h2
  rw [Bool.and_eq_true] at hz
  refine (pi_range2 hg hm ha hs hs2).run pins s σ H R I ⟨W, ρ, S, _, S1, RR, E, h1, fun W1 x H1 x1 R1 r1 => ?_⟩
  cases r1 with
  | cons r r' =>
    cases r' with
    | cons r2 r' =>
      cases r'
      cases rv_int r
      cases rv_int r2
      exact ⟨i, j, rfl, ⟨(okB_le hz.1).1, (okB_le hz.1).2, (okB_le hz.2).1, (okB_le hz.2).2⟩, k W1 _ H1 x1 R1 fun W2 S2 H2 ex R2 it => wa_range R2⟩

theorem intact_self (S : Store) (v : PV) : intact (guardOf S v) S = true := by
  cases v with
  | ref n =>
    unfold guardOf
    cases es : S[n]? with
    | none => simp [intact, es]
    | some o => simp [intact, es]
  | _ => rfl
/-- a list: where it stands, now and later -/
theorem lst_later {W : Wd} {S : Store} {H : Hp} {v : PV} {x : V} {l : List PV} (R : RH Z W S H) (r : RV Z W.F W.ι S.length v x) (e : view S v = .lst l) :
    ∃ a vs, x = .ref a ∧ l.length = vs.length ∧ Rd H a (.lst vs) ∧ ∀ W2 S2 H2, Ext' W S W2 S2 → RH Z W2 S2 H2 → intact (guardOf S v) S2 = true → ∃ vs, RVs Z W2.F W2.ι S2.length l vs ∧ Rd H2 a (.lst vs) := by
  obtain ⟨a, rfl, q⟩ := (seq_later R r).2 e
  obtain ⟨vs, r2, q2⟩ := q W S H (Ext.refl _ _).any R (intact_self S v)
  exact ⟨a, vs, rfl, r2.length, q2, q⟩
theorem tup_later {W : Wd} {S : Store} {H : Hp} {v : PV} {x : V} {l : List PV} (R : RH Z W S H) (r : RV Z W.F W.ι S.length v x) (e : view S v = .tup l) :
    ∃ a vs, x = .ref a ∧ l.length = vs.length ∧ SqT Z.K H a vs ∧ ∀ W2 S2 H2, Ext' W S W2 S2 → RH Z W2 S2 H2 → ∃ vs, RVs Z W2.F W2.ι S2.length l vs ∧ SqT Z.K H2 a vs := by
  obtain ⟨a, rfl, q⟩ := (seq_later R r).1 e
  obtain ⟨vs, r2, q2⟩ := q W S H (Ext.refl _ _).any R
  exact ⟨a, vs, rfl, r2.length, q2, q⟩
theorem wa_enumT {K : PySem.W.Frag} {W2 : Wd} {S2 : Store} {H2 : Hp} {a : Addr} {l : List PV} {vs : List V} (R2 : RH Z W2 S2 H2) (r : RVs Z W2.F W2.ι S2.length l vs) (q : SqT K H2 a vs) : WalkAt Z (IteT K a) (enumT 0 l) W2 S2 H2 := by
  have el := r.length
  have nl := enum_len 0 l
  refine ⟨fun i hi => ⟨vs, vs[i]'(by omega), q, get_at (by omega)⟩, ⟨vs, q, by omega⟩, fun i p x H' hp y => ?_⟩
  obtain ⟨T, x', rfl, hT, rfl, e3⟩ := y
  rw [enum_get] at hp
  obtain ⟨u, hu, rfl⟩ := Option.map_eq_some_iff.mp hp
  obtain ⟨x2, h1, h2⟩ := r.get hu
  have e4 := e3 vs q
  rw [h1] at e4
  cases e4
  rw [Nat.zero_add]
  exact pair_ice R2 hT (.int _) h2
include hK in
theorem i_enum {elts : List Expr} {kk : Nat} (hg : Gl X "enumerate") (hm : X.mg "enumerate" = none) (ha : PA X [e] (taOf Z ms)) (hs : starEach [e] X.env = [(false, eval e X.env)]) : PI X (.Tuple elts kk tpos) (.Call (.Name "enumerate" p) [e] [] pos) (tiOf Z fun ρ S => (ms ρ S).bind fun v S1 => opt S1 (walk S1 .enum v)) := by
  refine ⟨fun pins s σ H R I ⟨W, ρ, S, xs, g, S1, RR, E, hmm, k⟩ => ?_⟩
  obtain ⟨v, S2, h1, hmm⟩ := bind_ok hmm
  obtain ⟨h2, e3⟩ := opt_ok hmm
  subst e3
  unfold walk at h2
  split at h2 <;> try contradiction
  rename_i v
  split at h2 <;> try contradiction
  · rename_i l ev
    cases h2
    refine (pi_enum hg hm ha hs).run pins s σ H R I ⟨W, ρ, S, _, S1, RR, E, h1, fun W1 x H1 x1 R1 r1 => ?_⟩
    obtain ⟨x, rfl, r2⟩ := rvs1 r1
    obtain ⟨a, vs, rfl, el, q2, q⟩ := lst_later R1 r2 ev
    refine ⟨a, vs, rfl, .inl q2, k W1 _ H1 x1 R1 fun W2 S2 H2 ex R2 it => ?_⟩
    obtain ⟨vs', r3, q3⟩ := q W2 S2 H2 ex R2 it
    exact wa_enum R2 r3 (.inl q3)
  · rename_i l ev
    cases h2
    refine (pi_enumT hg hm ha hs).run pins s σ H R I ⟨W, ρ, S, _, S1, RR, E, h1, fun W1 x H1 x1 R1 r1 => ?_⟩
    obtain ⟨x, rfl, r2⟩ := rvs1 r1
    obtain ⟨a, vs, rfl, el, q2, q⟩ := tup_later R1 r2 ev
    refine ⟨a, vs, rfl, by rw [hK]; exact q2, k W1 _ H1 x1 R1 fun W2 S2 H2 ex R2 it => ?_⟩
    obtain ⟨vs', r3, q3⟩ := q W2 S2 H2 ex R2
    exact wa_enumT R2 r3 (by rw [hK]; exact q3)
include hK in
theorem i_zip {elts : List Expr} {kk : Nat} (hg : Gl X "zip") (hm : X.mg "zip" = none) (ha : PA X [e, e2] (taOf Z ms)) (hs : starEach [e, e2] X.env = (false, eval e X.env) :: starEach [e2] X.env) (hpl : (backTo pos (starEach [e2] X.env)).any (·.1) = false) : PI X (.Tuple elts kk tpos) (.Call (.Name "zip" p) [e, e2] [] pos) (tiOf Z fun ρ S => (ms ρ S).bind fun v S1 => opt S1 (walk S1 .zip v)) := by
  refine ⟨fun pins s σ H R I ⟨W, ρ, S, xs, g, S1, RR, E, hmm, k⟩ => ?_⟩
  obtain ⟨v, S2, h1, hmm⟩ := bind_ok hmm
  obtain ⟨h2, e3⟩ := opt_ok hmm
  subst e3
  unfold walk at h2
  split at h2 <;> try contradiction
  rename_i v w
  split at h2 <;> try contradiction
  · rename_i l l' ev ew
    cases h2
    refine (RZ.pi_zipA hg hm ha hs hpl).run pins s σ H R I ⟨W, ρ, S, _, S1, RR, E, h1, fun W1 x H1 x1 R1 r1 => ?_⟩
    obtain ⟨x, y, rfl, r2, r2'⟩ := rvs2 r1
    obtain ⟨a, vs, rfl, el, q2, q⟩ := lst_later R1 r2 ev
    obtain ⟨b, vs', rfl, el', q2', q'⟩ := lst_later R1 r2' ew
    refine ⟨a, b, vs, vs', rfl, .inl ⟨.inl q2, .inl q2', k W1 _ H1 x1 R1 fun W2 S2 H2 ex R2 it => ?_⟩⟩
    obtain ⟨u, r3, q3⟩ := q W2 S2 H2 ex R2 (intact_l it).1
    obtain ⟨u', r3', q3'⟩ := q' W2 S2 H2 ex R2 (intact_l it).2
    exact wa_zip R2 r3 r3' (.inl q3) (.inl q3')
  · rename_i l l' ev ew
    cases h2
    refine (RZ.pi_zipA hg hm ha hs hpl).run pins s σ H R I ⟨W, ρ, S, _, S1, RR, E, h1, fun W1 x H1 x1 R1 r1 => ?_⟩
    obtain ⟨x, y, rfl, r2, r2'⟩ := rvs2 r1
    obtain ⟨a, vs, rfl, el, q2, q⟩ := tup_later R1 r2 ev
    obtain ⟨b, vs', rfl, el', q2', q'⟩ := tup_later R1 r2' ew
    refine ⟨a, b, vs, vs', rfl, .inr ⟨by rw [hK]; exact q2, by rw [hK]; exact q2', k W1 _ H1 x1 R1 fun W2 S2 H2 ex R2 it => ?_⟩⟩
    obtain ⟨u, r3, q3⟩ := q W2 S2 H2 ex R2
    obtain ⟨u', r3', q3'⟩ := q' W2 S2 H2 ex R2
    exact wa_zipT R2 r3 r3' (by rw [hK]; exact q3) (by rw [hK]; exact q3')
include hK in
theorem i_rev (hg : Gl X "reversed") (hm : X.mg "reversed" = none) (he : PE X e (teOf Z m)) (hs : starEach [e] X.env = (false, eval e X.env) :: starEach [] X.env) : PI X tg (.Call (.Name "reversed" p) [e] [] pos) (tiOf Z fun ρ S => (m ρ S).bind fun v S1 => opt S1 (walk S1 .reversed [v])) := by
  refine ⟨fun pins s σ H R I ⟨W, ρ, S, xs, g, S1, RR, E, hmm, k⟩ => ?_⟩
  obtain ⟨v, S2, h1, hmm⟩ := bind_ok hmm
  obtain ⟨h2, e3⟩ := opt_ok hmm
  subst e3
  obtain ⟨l, h3, h4⟩ := Option.map_eq_some_iff.mp h2
  cases h4
  unfold seqOf at h3
  refine (RT.pi_revA hg hm he hs).run pins s σ H R I ⟨W, ρ, S, v, S1, RR, E, h1, fun W1 x H1 x1 R1 r1 => ?_⟩
  cases ev : view S1 v with
  | tup l' =>
    rw [ev] at h3
    cases h3
    obtain ⟨a, vs, rfl, el, q2, q⟩ := tup_later R1 r1 ev
    refine ⟨a, vs, rfl, .inr ⟨by rw [hK]; exact q2, k W1 _ H1 x1 R1 fun W2 S2 H2 ex R2 it => ?_⟩⟩
    obtain ⟨vs', r3, q3⟩ := q W2 S2 H2 ex R2
    rw [← el]
    exact wa_revT R2 r3 (by rw [hK]; exact q3)
  | lst l' =>
    rw [ev] at h3
    cases h3
    obtain ⟨a, vs, rfl, el, q2, q⟩ := lst_later R1 r1 ev
    refine ⟨a, vs, rfl, .inl ⟨.inl q2, k W1 _ H1 x1 R1 fun W2 S2 H2 ex R2 it => ?_⟩⟩
    obtain ⟨vs', r3, q3⟩ := q W2 S2 H2 ex R2 it
    rw [← el]
    exact wa_revL R2 r3 (.inl q3)
  | _ => rw [ev] at h3; cases h3

/-! ### targets -/
def gNames : List Nat → TGs
  | [] => gNil
  | i :: is => gCons (gName i) (gNames is)
def gOf (K : PySem.W.Frag) : CT → TG
  | .one i => gName i
  | .many is => gSeq K is.length (gNames is)
theorem names_run {W : Wd} {N : Nat} : ∀ {is : List Nat} {xs : List PV} {vs : List V} {ρ ρ' : Env} {σ : L2.St} {H : Hp} {Q : L2.St → Hp → Prop}, setAll is xs ρ = some ρ' → RE Z W N ρ σ → RVs Z W.F W.ι N xs vs →
    (∀ σ', RE Z W N ρ' σ' → (∀ own : List Nat, (∀ i ∈ is, i ∈ own) → L2.wipe σ' own = L2.wipe σ own) → Q σ' H) → gNames is vs σ H Q
  | [], [], _, ρ, ρ', σ, H, Q, h, E, r, k => by
    cases h
    cases r
    exact ⟨rfl, k σ E fun _ _ => rfl⟩
  | i :: is, x :: xs, _, ρ, ρ', σ, H, Q, h, E, .cons r rs, k => by
    refine ⟨_, _, rfl, ?_⟩
    show gNames is _ _ H Q
    refine names_run h (E.set i r) rs fun σ' E' w => k σ' E' fun own ho => ?_
    rw [w own fun j hj => ho j (List.mem_cons_of_mem _ hj)]
    exact wipe_set (ho i List.mem_cons_self)
  | [], _ :: _, _, ρ, ρ', σ, H, Q, h, E, r, k => by cases h
  | _ :: _, [], _, ρ, ρ', σ, H, Q, h, E, r, k => by cases h
where
  wipe_set {σ : L2.St} {i : Nat} {x : Option V} : ∀ {own : List Nat}, i ∈ own → L2.wipe (σ.set i x) own = L2.wipe σ own
    | [], h => by cases h
    | j :: own, h => by
      unfold L2.wipe
      by_cases hi : i ∈ own
      · rw [wipe_set hi]
      · have : j = i := by
          rcases List.mem_cons.mp h with e | e
          · exact e.symm
          · exact absurd e hi
        subst this
        rw [wipe_out hi, List.set_set]
  wipe_out {σ : L2.St} {i : Nat} {x : Option V} : ∀ {own : List Nat}, i ∉ own → L2.wipe (σ.set i x) own = (L2.wipe σ own).set i x
    | [], _ => rfl
    | j :: own, h => by
      unfold L2.wipe
      simp only [List.mem_cons, not_or] at h
      rw [wipe_out h.2, List.set_comm _ _ h.1]
theorem wipe_twice {σ : L2.St} (own : List Nat) : L2.wipe (L2.wipe σ own) own = L2.wipe σ own := by
  have : ∀ (a b : List Nat), (∀ i ∈ a, i ∈ b) → L2.wipe (L2.wipe σ a) b = L2.wipe σ b := by
    intro a
    induction a with
    | nil => intros; rfl
    | cons j a ih =>
      intro b hb
      show L2.wipe ((L2.wipe σ a).set j none) b = L2.wipe σ b
      rw [names_run.wipe_set (hb j List.mem_cons_self)]
      exact ih b fun i hi => hb i (List.mem_cons_of_mem _ hi)
  exact this own own fun _ h => h
include hK in
theorem tgt_run {W : Wd} {S : Store} {t : CT} {x : PV} {v : V} {ρ ρ' : Env} {σ : L2.St} {H : Hp} {Q : L2.St → Hp → Prop} (R : RH Z W S H) (h : bindT S t x ρ = some ρ') (E : RE Z W S.length ρ σ) (r : RV Z W.F W.ι S.length x v)
    (k : ∀ σ', RE Z W S.length ρ' σ' → L2.wipe σ' (own t) = L2.wipe σ (own t) → Q σ' H) : gOf X.K t v σ H Q := by
  cases t with
  | one i =>
    cases h
    refine k _ (E.set i r) ?_
    exact names_run.wipe_set List.mem_cons_self
  | many is =>
    unfold bindT at h
    dsimp only at h
    split at h <;> try contradiction
    · rename_i xs ev
      have sn := R.seen r
      rw [ev] at sn
      obtain ⟨a, vs, rfl, q, r2⟩ := sn.tup_
      refine .inl ⟨a, vs, rfl, by rw [hK]; exact q, ?_, names_run h E r2 fun σ' E' w => k σ' E' (w _ fun _ hi => hi)⟩
      rw [← r2.length, len_all h]
    · rename_i xs ev
      have sn := R.seen r
      rw [ev] at sn
      obtain ⟨a, vs, rfl, q, r2⟩ := sn.lst_
      refine .inr ⟨a, vs, rfl, .inl q, ?_, names_run h E r2 fun σ' E' w => k σ' E' (w _ fun _ hi => hi)⟩
      rw [← r2.length, len_all h]
where
  len_all : ∀ {is : List Nat} {xs : List PV} {ρ ρ' : Env}, setAll is xs ρ = some ρ' → xs.length = is.length
    | [], [], _, _, _ => rfl
    | _ :: is, _ :: xs, _, _, h => by
      rw [List.length_cons, List.length_cons, len_all (is := is) h]
    | [], _ :: _, _, _, h => by cases h
    | _ :: _, [], _, _, h => by cases h
/-! ### statements -/
def PostS (Z : Sit) (W : Wd) (S : Store) (D : Ends) : SRes → Prop
  | .nxt ρ' S' => ∀ W' σ' H', Ext W S W' S' → RH Z W' S' H' → RE Z W' S'.length ρ' σ' → D.nx σ' H'
  | .brk ρ' S' => ∀ W' σ' H', Ext W S W' S' → RH Z W' S' H' → RE Z W' S'.length ρ' σ' → D.bk σ' H'
  | .cnt ρ' S' => ∀ W' σ' H', Ext W S W' S' → RH Z W' S' H' → RE Z W' S'.length ρ' σ' → D.ct σ' H'
  | .ret v S' => ∀ W' x H', Ext W S W' S' → RH Z W' S' H' → RV Z W'.F W'.ι S'.length v x → D.rt x H'
  | _ => False
def tsOf (Z : Sit) (m : Env → Store → SRes) : TS := fun D σ H => ∃ W ρ S, RH Z W S H ∧ RE Z W S.length ρ σ ∧ PostS Z W S D (m ρ S)
theorem PostS.trans {W W1 : Wd} {S S1 : Store} {D : Ends} {r : SRes} (x : Ext W S W1 S1) (p : PostS Z W S D r) : PostS Z W1 S1 D r := by
  cases r with
  | nxt ρ' S' => exact fun W' σ' H' e => p W' σ' H' (x.trans e)
  | brk ρ' S' => exact fun W' σ' H' e => p W' σ' H' (x.trans e)
  | cnt ρ' S' => exact fun W' σ' H' e => p W' σ' H' (x.trans e)
  | ret v S' => exact fun W' σ' H' e => p W' σ' H' (x.trans e)
  | exc x ρ S => exact p
  | bad => exact p
/-- what is wanted behind a turn -/
theorem post_turn {W : Wd} {S : Store} {D : Ends} {Nx : L2.St → Hp → Prop} {r r' : SRes} {f : Env → Store → SRes} (h : (match r with
      | .nxt ρ2 S2 => f ρ2 S2
      | .cnt ρ2 S2 => f ρ2 S2
      | .brk ρ2 S2 => .nxt ρ2 S2
      | r => r) = r') (p : PostS Z W S D r')
    (k : ∀ ρ2 S2, f ρ2 S2 = r' → ∀ W' σ' H', Ext W S W' S2 → RH Z W' S2 H' → RE Z W' S2.length ρ2 σ' → Nx σ' H') : PostS Z W S { D with nx := Nx, ct := Nx, bk := D.nx } r := by
  cases r with
  | nxt ρ2 S2 => exact k ρ2 S2 h
  | cnt ρ2 S2 => exact k ρ2 S2 h
  | brk ρ2 S2 =>
    subst h
    exact p
  | ret v S2 =>
    subst h
    exact p
  | exc x ρ S =>
    subst h
    exact p
  | bad =>
    subst h
    exact p
include hK in
theorem s_for {iter : Expr} {body : List Stmt} {t : CT} {mi : Env → Store → Res (List PV × Guard)} {mb : Env → Store → SRes} (hp : PassesOwn (model X.prog X.w) X.A X.env X.xe) (hc : X.calm = true) (hi : PI X tg iter (tiOf Z mi)) (hg : PG X tg (gOf X.K t)) (hb : PSs X body (tsOf Z mb))
    (hs : ∀ x, foldedSetIterable iter X.env x = pure x) : PS X (.For tg iter body [] pos) (tsOf Z fun ρ S => SRes.of ρ (mi ρ S) fun q S1 => forL q.2 t mb q.1 ρ S1) := by
  refine ⟨fun pins s σ H D I ⟨W, ρ, S, R, E, h⟩ => (ps_for hp hc hi hg hb hs).run pins s σ H D I ?_⟩
  dsimp only at h
  cases em : mi ρ S with
  | exc x S => rw [em] at h; exact h.elim
  | bad => rw [em] at h; exact h.elim
  | ok q S1 =>
    rw [em] at h
    obtain ⟨xs, g⟩ := q
    have h : PostS Z W S D (forL g t mb xs ρ S1) := h
    refine ⟨W, ρ, S, xs, g, S1, R, E, em, fun W1 J H1 x1 R1 w => ?_⟩
    have h := h.trans x1
    generalize hr : forL g t mb xs ρ S1 = r at h
    refine ⟨fun i m σ H => m = xs.length - i ∧ i ≤ xs.length ∧ ∃ Wi ρi Si, Ext W1 S1 Wi Si ∧ RH Z Wi Si H ∧ RE Z Wi Si.length ρi σ ∧ forL g t mb (xs.drop i) ρi Si = r, ⟨xs.length, rfl, Nat.zero_le _, W1, ρ, S1, Ext.refl _ _, R1, x1.re E, hr⟩, ?_⟩
    rintro i m σ2 H2 ⟨rfl, hi, Wi, ρi, Si, xi, Ri, Ei, ei⟩
    have hint : r ≠ .bad → intact g Si = true := fun hb => by
      cases ed : xs.drop i with
      | nil =>
        rw [ed] at ei
        unfold forL at ei
        split at ei
        · assumption
        · exact absurd ei.symm hb
      | cons y ys =>
        rw [ed] at ei
        unfold forL at ei
        split at ei
        · assumption
        · exact absurd ei.symm hb
    have hnb : r ≠ .bad := fun z => by
      rw [z] at h
      exact h
    have it := hint hnb
    have wa := w Wi Si H2 xi.any Ri it
    by_cases hlt : i < xs.length
    · have ed : xs.drop i = xs[i] :: xs.drop (i + 1) := List.drop_eq_getElem_cons hlt
      rw [ed] at ei
      unfold forL at ei
      rw [if_pos it] at ei
      split at ei
      · rename_i ρ2 hb2
        refine .inr ⟨wa.go i hlt, fun σ' H' => i + 1 ≤ xs.length ∧ ∃ Wi ρi Si, Ext W1 S1 Wi Si ∧ RH Z Wi Si H' ∧ RE Z Wi Si.length ρi σ' ∧ forL g t mb (xs.drop (i + 1)) ρi Si = r, fun σ' H' p => ⟨xs.length - (i + 1), by omega, rfl, p.1, p.2⟩, fun x H' y => ?_⟩
        obtain ⟨W3, x3, R3, r3⟩ := wa.yld i xs[i] x H' (List.getElem?_eq_getElem hlt) y
        refine tgt_run hK R3 hb2 (x3.re Ei) r3 fun σ3 E3 _ => ⟨W3, ρ2, Si, R3, E3, ?_⟩
        refine post_turn (Nx := fun σ' H' => i + 1 ≤ xs.length ∧ ∃ Wi ρi Si, Ext W1 S1 Wi Si ∧ RH Z Wi Si H' ∧ RE Z Wi Si.length ρi σ' ∧ forL g t mb (xs.drop (i + 1)) ρi Si = r) ei (h.trans (xi.trans x3)) fun ρ4 S4 e4 W4 σ4 H4 x4 R4 E4 => ⟨hlt, W4, ρ4, S4, (xi.trans x3).trans x4, R4, E4, e4⟩
      · exact absurd ei.symm hnb
    · have e : i = xs.length := by omega
      subst e
      have ed : xs.drop xs.length = [] := List.drop_length
      rw [ed] at ei
      unfold forL at ei
      rw [if_pos it] at ei
      subst ei
      exact .inl ⟨wa.stop, (h.trans xi) Wi σ2 H2 (Ext.refl _ _) Ri Ei⟩
theorem s_whl {c : Expr} {body : List Stmt} {mc : Env → Store → Res Bool} {mb : Env → Store → SRes} (hp : PassesOwn (model X.prog X.w) X.A X.env X.xe) (hc : PT X c (ttOf Z mc)) (hb : PSs X body (tsOf Z mb)) : PS X (.While c body [] pos) (tsOf Z fun ρ S => whlL mc mb ρ S) := by
  refine ⟨fun pins s σ H D I ⟨W, ρ, S, R, E, h⟩ => (ps_while hp hc hb).run pins s σ H D I ?_⟩
  dsimp only at h
  generalize hr : whlL mc mb ρ S = r at h
  have hnb : r ≠ .bad := fun z => by
    rw [z] at h
    exact h
  obtain ⟨n, hn⟩ := of_whlL hr hnb
  refine ⟨fun m σ H => ∃ Wi ρi Si, Ext W S Wi Si ∧ RH Z Wi Si H ∧ RE Z Wi Si.length ρi σ ∧ whlN mc mb m ρi Si = some r, ⟨n, W, ρ, S, Ext.refl _ _, R, E, hn⟩, ?_⟩
  rintro m σ2 H2 ⟨Wi, ρi, Si, xi, Ri, Ei, ei⟩
  cases m with
  | zero => cases ei
  | succ m =>
    unfold whlN at ei
    cases ec : mc ρi Si with
    | exc x S =>
      rw [ec] at ei
      cases ei
      exact h.elim
    | bad =>
      rw [ec] at ei
      cases ei
      exact h.elim
    | ok b S1 =>
      rw [ec] at ei
      refine ⟨Wi, ρi, Si, b, S1, Ri, Ei, ec, fun W1 H1 x1 R1 => ?_⟩
      cases b with
      | false =>
        cases ei
        exact iteF ((h.trans xi) W1 σ2 H1 x1 R1 (x1.re Ei))
      | true =>
        refine iteT ⟨fun σ' H' => ∃ Wi ρi Si, Ext W S Wi Si ∧ RH Z Wi Si H' ∧ RE Z Wi Si.length ρi σ' ∧ whlN mc mb m ρi Si = some r, fun σ' H' p => ⟨m, Nat.lt_succ_self _, p⟩, W1, ρi, S1, R1, x1.re Ei, ?_⟩
        have ht := h.trans (xi.trans x1)
        dsimp only at ei
        cases eb : mb ρi S1 with
        | nxt ρ2 S2 =>
          rw [eb] at ei
          exact fun W4 σ4 H4 x4 R4 E4 => ⟨W4, ρ2, S2, (xi.trans x1).trans x4, R4, E4, ei⟩
        | cnt ρ2 S2 =>
          rw [eb] at ei
          exact fun W4 σ4 H4 x4 R4 E4 => ⟨W4, ρ2, S2, (xi.trans x1).trans x4, R4, E4, ei⟩
        | brk ρ2 S2 =>
          rw [eb] at ei
          cases ei
          exact ht
        | ret v S2 =>
          rw [eb] at ei
          cases ei
          exact ht
        | exc x ρ2 S2 =>
          rw [eb] at ei
          cases ei
          exact ht
        | bad =>
          rw [eb] at ei
          cases ei
          exact ht

/-! ### comprehensions -/
/-- the tests of a clause -/
def tstC (m : Env → Store → Res PV) : Env → Store → Res Bool := fun ρ S => (m ρ S).bind fun b S1 => match b with
  | .bl k => .ok k S1
  | _ => .bad
theorem c_nil : PTs X [] (ttOf Z (tstC fun _ S => .ok (.bl true) S)) := by
  refine ⟨fun pins s σ H Q I ⟨W, ρ, S, v, S', R, E, h, k⟩ => pts_nil.run pins s σ H Q I ?_⟩
  cases h
  exact k W H (Ext.refl _ _) R
theorem c_one {c : Expr} (hc : PT X c (ttOf Z (tst m))) : PTs X [c] (ttOf Z (tstC fun ρ S => (m ρ S).bind fun x S1 => opt S1 ((truth S1 x).map .bl))) := by
  refine ⟨fun pins s σ H Q I ⟨W, ρ, S, v, S', R, E, h, k⟩ => (pts_one hc).run pins s σ H Q I ⟨W, ρ, S, v, S', R, E, ?_, k⟩⟩
  obtain ⟨b, S1, h1, h2⟩ := bind_ok h
  obtain ⟨x, S2, h3, h4⟩ := bind_ok h1
  obtain ⟨h5, h6⟩ := opt_ok h4
  subst h6
  obtain ⟨k2, h7, rfl⟩ := Option.map_eq_some_iff.mp h5
  cases h2
  unfold tst
  rw [h3]
  show opt S' (truth S' x) = _
  rw [h7]
  rfl
theorem wipe_len (ρ : Env) : ∀ vs : List Nat, (wipeE ρ vs).length = ρ.length
  | [] => rfl
  | v :: vs => by unfold wipeE; rw [List.length_set, wipe_len ρ vs]
/-- a comprehension's law, its source, target, tests and element served -/
theorem lc_law {mi : Env → Store → Res (List PV × Guard)} {t : CT} {mc me : Env → Store → Res PV} {al : Bool} {σ : L2.St} {H : Hp} {Q : VK} {W : Wd} {ρ : Env} {S S' : Store} {v : PV} (hK : X.K = Z.K)
    (R : RH Z W S H) (E : RE Z W S.length ρ σ) (h : ((mi ρ S).bind fun q S1 => (compL q.2 t mc me (wipeE ρ (own t)) q.1 [] S1).bind fun r S2 => alloc al (.lst r) S2) = .ok v S')
    (k : ∀ W' x H', Ext W S W' S' → RH Z W' S' H' → RV Z W'.F W'.ι S'.length v x → Q x H') : tLc (tiOf Z mi) (gOf X.K t) (ttOf Z (tstC mc)) (teOf Z me) (own t) σ H Q := by
  obtain ⟨⟨xs, g⟩, S1, h1, h⟩ := bind_ok h
  obtain ⟨r, S2, h2, h⟩ := bind_ok h
  refine ⟨W, ρ, S, xs, g, S1, R, E, h1, fun W1 J H1 x1 R1 w D hD => ?_⟩
  have E1 := (x1.re E).wipe (own t)
  have X0 : W1.X D = none := by
    cases e : W1.X D with
    | none => rfl
    | some u =>
      have := (R1.ex D u e).1
      rw [hD] at this
      cases this
  refine ⟨fun i m H => m = xs.length - i ∧ i ≤ xs.length ∧ ∃ Wi Si acc vs, RH Z Wi Si H ∧ Wi.X = upd W1.X D (.lst vs) ∧ Ext' W1 S1 Wi Si ∧ RVs Z Wi.F Wi.ι Si.length acc vs ∧ compL g t mc me (wipeE ρ (own t)) (xs.drop i) acc Si = .ok r S2,
    ⟨xs.length, rfl, Nat.zero_le _, W1.keep D (.lst []), S1, [], [], R1.keep hD, rfl, ⟨fun _ _ h => h, Nat.le_refl _, fun _ _ => rfl, rfl⟩, .nil, h2⟩, ?_⟩
  rintro i m H2 ⟨rfl, hi, Wi, Si, acc, vs, Ri, hX, xi, ra, ei⟩
  have it : intact g Si = true := by
    cases ed : xs.drop i with
    | nil =>
      rw [ed] at ei
      unfold compL at ei
      split at ei
      · assumption
      · cases ei
    | cons y ys =>
      rw [ed] at ei
      unfold compL at ei
      split at ei
      · assumption
      · cases ei
  have wa := w Wi Si H2 xi Ri it
  by_cases hlt : i < xs.length
  · have ed : xs.drop i = xs[i] :: xs.drop (i + 1) := List.drop_eq_getElem_cons hlt
    rw [ed] at ei
    unfold compL at ei
    rw [if_pos it] at ei
    split at ei
    · rename_i ρ2 hb2
      refine .inr ⟨wa.go i hlt, fun H' => i + 1 ≤ xs.length ∧ ∃ Wi Si acc vs, RH Z Wi Si H' ∧ Wi.X = upd W1.X D (.lst vs) ∧ Ext' W1 S1 Wi Si ∧ RVs Z Wi.F Wi.ι Si.length acc vs ∧ compL g t mc me (wipeE ρ (own t)) (xs.drop (i + 1)) acc Si = .ok r S2, fun H' p => ⟨xs.length - (i + 1), by omega, rfl, p.1, p.2⟩, fun x H' y => ?_⟩
      obtain ⟨W3, x3, R3, r3⟩ := wa.yld i xs[i] x H' (List.getElem?_eq_getElem hlt) y
      have Ei : RE Z Wi Si.length (wipeE ρ (own t)) (L2.wipe σ (own t)) := xi.re E1
      refine tgt_run hK R3 hb2 (x3.re Ei) r3 fun σ3 E3 hw => ⟨by rw [hw, wipe_twice], ?_⟩
      obtain ⟨b, S3, hc, ei⟩ := bind_ok ei
      cases b with
      | bl b =>
        refine ⟨W3, ρ2, Si, b, S3, R3, E3, ?_, fun W4 H4 x4 R4 => ?_⟩
        · unfold tstC
          rw [hc]
          rfl
        · have x14 : Ext' W1 S1 W4 S3 := Ext'.trans xi (x3.trans x4).any
          have hX4 : W4.X = upd W1.X D (.lst vs) := (x4.xx.trans x3.xx).trans hX
          cases b with
          | false =>
            refine iteF ⟨hlt, W4, S3, acc, vs, R4, hX4, x14, (x3.trans x4).rvs ra, ei⟩
          | true =>
            obtain ⟨z, S4, he, ei⟩ := bind_ok ei
            split at ei <;> try contradiction
            rename_i hz
            refine iteT ⟨W4, ρ2, S3, z, S4, R4, x4.re E3, he, fun W5 y5 H5 x5 R5 r5 => ?_⟩
            have hX5 : W5.X = upd W1.X D (.lst vs) := x5.xx.trans hX4
            have ra5 := ((x3.trans x4).trans x5).rvs ra
            refine ⟨vs, (R5.ex D _ (by rw [hX5]; exact upd_same)).1, ?_, hlt, { W5 with X := upd W1.X D (.lst (vs ++ [y5])) }, S4, acc ++ [z], vs ++ [y5], R5.rekeep hX5, rfl, Ext'.trans x14 x5.any, ra5.append (.cons r5 .nil), ei⟩
            rw [← ra.length]
            exact okI_lt hz
      | _ => cases ei
    · cases ei
  · have e : i = xs.length := by omega
    subst e
    have ed : xs.drop xs.length = [] := List.drop_length
    rw [ed] at ei
    unfold compL at ei
    rw [if_pos it] at ei
    cases ei
    refine .inl ⟨wa.stop, ?_⟩
    have R6 := Ri.drop hX X0
    have hH : H2 D = some (.lst vs) := (Ri.ex D _ (by rw [hX]; exact upd_same)).1
    have fin := new_alloc (Q := Q) (o := .lst vs) R6 (.lst ra) trivial h (fun W' z H' ex R' rz => k W' z H' ((x1.trans xi).trans ex) R' rz) D (by rw [if_pos rfl])
    rw [upd_drop hH] at fin
    exact fin
end
end FF
set_option Elab.async false
set_option linter.all false
set_option autoImplicit false
set_option maxRecDepth 100000
set_option maxHeartbeats 4000000
/-! SNG: what a callee left; calls, methods, new instances, fields. -/
namespace FF
open PySem PySem.Spec PyProof.Rows L2 TL
/-! ### settle -/
section
variable {Z : Sit} {W1 W2 : Wd} {S1 S2 S3 : Store} {H1 H2 : Hp} {v r : PV} {x : V}
theorem low_store (R1 : RH Z W1 S1 H1) {n : Nat} {o : PV} (h : S1[n]? = some o) : low S1.length o = true := by
  obtain ⟨u, _, h2, _⟩ := R1.st n o h
  exact h2.low
theorem take_at {n : Nat} (e : S2.take S1.length = S1) (hn : n < S1.length) : S2[n]? = S1[n]? := by
  have h : (S2.take S1.length)[n]? = S2[n]? := List.getElem?_take_of_lt hn
  rw [← h, e]
open Classical in
/-- all that is new is frozen -/
noncomputable def Wd.ices (W : Wd) (n N : Nat) (H : Hp) : Wd := { W with F := fun a => if ∃ m, n ≤ m ∧ m < N ∧ W.ι m = a then H a else W.F a }
theorem ices_at {n N m : Nat} (h1 : n ≤ m) (h2 : m < N) : (W2.ices n N H2).F (W2.ι m) = H2 (W2.ι m) := if_pos ⟨m, h1, h2, rfl⟩
theorem ices_keep {n : Nat} (R2 : RH Z W2 S2 H2) : ∀ a o, W2.F a = some o → (W2.ices n S2.length H2).F a = some o := fun a o h => by
  unfold Wd.ices
  dsimp only
  split
  · rename_i h'
    obtain ⟨m, h1, h2, h3⟩ := h'
    have := R2.nf m h2
    rw [h3, h] at this
    cases this
  · exact h
open Classical in
theorem ices_ok (R1 : RH Z W1 S1 H1) (ex : Ext W1 S1 W2 S2) (R2 : RH Z W2 S2 H2) (e : S2.take S1.length = S1) : RH Z (W2.ices S1.length S2.length H2) S1 H2 ∧ Ext W1 S1 (W2.ices S1.length S2.length H2) S1 := by
  have kf := ices_keep (n := S1.length) R2
  refine ⟨⟨fun a o h => ?_, fun n w hw => ?_, fun n hn => ?_, fun m n hm hn h => R2.inj m n (Nat.lt_of_lt_of_le hm ex.le) (Nat.lt_of_lt_of_le hn ex.le) h, fun a o h => ?_⟩, ⟨fun a o h => kf a o (ex.fz a o h), Nat.le_refl _, ex.at_, ex.xx⟩⟩
  · have h : (if ∃ m, S1.length ≤ m ∧ m < S2.length ∧ W2.ι m = a then H2 a else W2.F a) = some o := h
    split at h
    · exact h
    · exact R2.fz a o h
  · have hn : n < S1.length := (List.getElem?_eq_some_iff.mp hw).1
    obtain ⟨o, h1, h2, h3⟩ := R2.st n w (by rw [take_at e hn]; exact hw)
    refine ⟨o, h1, ?_, h3⟩
    exact (h2.cut (low_store R1 hw)).mono kf (Nat.le_refl _) fun _ _ => rfl
  · show (if ∃ m, S1.length ≤ m ∧ m < S2.length ∧ W2.ι m = W2.ι n then H2 (W2.ι n) else W2.F (W2.ι n)) = none
    rw [if_neg]
    · exact R2.nf n (Nat.lt_of_lt_of_le hn ex.le)
    · rintro ⟨m, h1, h2, h3⟩
      have := R2.inj m n h2 (Nat.lt_of_lt_of_le hn ex.le) h3
      omega
  · obtain ⟨h1, h2, h3⟩ := R2.ex a o h
    refine ⟨h1, ?_, fun n hn => h3 n (Nat.lt_of_lt_of_le hn ex.le)⟩
    show (if ∃ m, S1.length ≤ m ∧ m < S2.length ∧ W2.ι m = a then H2 a else W2.F a) = none
    rw [if_neg]
    · exact h2
    · rintro ⟨m, _, g2, g3⟩
      exact h3 m g2 g3
theorem mapO_nil {f : PV → Option PV} {r : List PV} (h : mapO f [] = some r) : r = [] := by
  cases h
  rfl
theorem mapO_cons {f : PV → Option PV} {x : PV} {xs r : List PV} (h : mapO f (x :: xs) = some r) : ∃ y ys, f x = some y ∧ mapO f xs = some ys ∧ r = y :: ys := by
  unfold mapO at h
  split at h
  · rename_i y hy
    obtain ⟨ys, h1, rfl⟩ := Option.map_eq_some_iff.mp h
    exact ⟨y, ys, hy, h1, rfl⟩
  · cases h
section
variable (R2 : RH Z W2 S2 H2) {n : Nat} (hn : n ≤ S2.length)
/-- what frz tells of a relation, k deep -/
def FrzOk (Z : Sit) (W2 : Wd) (S2 : Store) (H2 : Hp) (n k : Nat) : Prop :=
  (∀ v x r, RV Z W2.F W2.ι S2.length v x → frz n S2 k v = some r → RV Z (W2.ices n S2.length H2).F W2.ι n r x)
theorem frz_all {k : Nat} (ok : FrzOk Z W2 S2 H2 n k) : ∀ {vs : List PV} {xs : List V} {rs : List PV}, RVs Z W2.F W2.ι S2.length vs xs → mapO (frz n S2 k) vs = some rs → RVs Z (W2.ices n S2.length H2).F W2.ι n rs xs
  | _, _, _, .nil, h => by
    cases mapO_nil h
    exact .nil
  | _, _, _, .cons r1 r2, h => by
    obtain ⟨y, ys, h1, h2, rfl⟩ := mapO_cons h
    exact .cons (ok _ _ _ r1 h1) (frz_all ok r2 h2)
include R2 in
theorem frz_low {k : Nat} {v : PV} {x : V} (r : RV Z W2.F W2.ι S2.length v x) (h : low n v = true) : RV Z (W2.ices n S2.length H2).F W2.ι n v x :=
  (r.cut h).mono (ices_keep R2) (Nat.le_refl _) fun _ _ => rfl
theorem frz_succ {n : Nat} {S2 : Store} {k : Nat} {v : PV} : frz n S2 (k + 1) v = if low n v then some v else frzN n S2 k v := by
  cases v <;> rfl
/-- an object's own turn -/
theorem frz_ro {k : Nat} (ok : FrzOk Z W2 S2 H2 n k) {v r : PV} {o : HO} (ro : RO Z W2.F W2.ι S2.length v o) (h : frzN n S2 k v = some r) : RO Z (W2.ices n S2.length H2).F W2.ι n r o := by
  cases ro with
  | tup rr =>
    obtain ⟨ys, h1, rfl⟩ := Option.map_eq_some_iff.mp h
    exact .tup (frz_all ok rr h1)
  | lst rr =>
    obtain ⟨ys, h1, rfl⟩ := Option.map_eq_some_iff.mp h
    exact .lst (frz_all ok rr h1)
  | frz rr =>
    obtain ⟨ys, h1, rfl⟩ := Option.map_eq_some_iff.mp h
    exact .frz (frz_all ok rr h1)
  | dK e rr =>
    unfold frzN at h
    dsimp only at h
    split at h <;> try contradiction
    obtain ⟨ys, h1, rfl⟩ := Option.map_eq_some_iff.mp h
    exact .dK e (frz_all ok rr h1)
  | dT e ne rr =>
    unfold frzN at h
    dsimp only at h
    split at h <;> try contradiction
    obtain ⟨ys, h1, rfl⟩ := Option.map_eq_some_iff.mp h
    exact .dT e ne (frz_all ok rr h1)
  | fK e rr =>
    unfold frzN at h
    dsimp only at h
    split at h <;> try contradiction
    obtain ⟨ys, h1, rfl⟩ := Option.map_eq_some_iff.mp h
    exact .fK e (frz_all ok rr h1)
  | fT e ne rr =>
    unfold frzN at h
    dsimp only at h
    split at h <;> try contradiction
    obtain ⟨ys, h1, rfl⟩ := Option.map_eq_some_iff.mp h
    exact .fT e ne (frz_all ok rr h1)
  | ins kn e rr =>
    obtain ⟨ys, h1, rfl⟩ := Option.map_eq_some_iff.mp h
    exact .ins kn e (frz_all ok rr h1)
theorem frz_obj {k : Nat} (ok : FrzOk Z W2 S2 H2 n k) {v r : PV} {o : HO} {a : Addr} (ro : RO Z W2.F W2.ι S2.length v o) (ha : (W2.ices n S2.length H2).F a = some o)
    (h : frzN n S2 k v = some r) : RV Z (W2.ices n S2.length H2).F W2.ι n r (.ref a) := .obj ha (frz_ro ok ro h)
include R2 in
theorem frz_ok : ∀ k, FrzOk Z W2 S2 H2 n k
  | 0 => fun v x r rv h => by
    unfold frz at h
    split at h
    · rename_i hl
      cases h
      exact frz_low (k := 0) R2 rv hl
    · cases h
  | k + 1 => fun v x r rv h => by
    have ok := frz_ok k
    rw [frz_succ] at h
    split at h
    · rename_i hl
      cases h
      exact frz_low (k := 0) R2 rv hl
    · rename_i hl
      cases rv with
      | non => cases h; exact .non
      | bl b => cases h; exact .bl b
      | int i => cases h; exact .int i
      | str x => cases h; exact .str x
      | fn g => cases h; exact .fn g
      | ref m hm =>
        unfold frzN at h
        dsimp only at h
        have hm2 : n ≤ m := by
          simp [FF.low] at hl
          omega
        split at h <;> try contradiction
        rename_i o ho
        obtain ⟨ho', g1, g2, _⟩ := R2.st m o ho
        have ha : (W2.ices n S2.length H2).F (W2.ι m) = some ho' := by rw [ices_at hm2 hm]; exact g1
        -- the object behind it
        cases k with
        | zero =>
          unfold frz at h
          split at h
          · rename_i hl2
            cases h
            exact .obj ha ((g2.cut hl2).mono (ices_keep R2) (Nat.le_refl _) fun _ _ => rfl)
          · cases h
        | succ k =>
          rw [frz_succ] at h
          split at h
          · rename_i hl2
            cases h
            exact .obj ha ((g2.cut hl2).mono (ices_keep R2) (Nat.le_refl _) fun _ _ => rfl)
          · exact frz_obj (frz_ok k) g2 ha h
      | obj hF ro => exact frz_obj ok ro (ices_keep R2 _ _ hF) h
      | ktup hk hc hd hz hv rr =>
        obtain ⟨ys, h1, rfl⟩ := Option.map_eq_some_iff.mp h
        exact .ktup hk hc hd hz hv (frz_all ok rr h1)
end
theorem mapO_len {f : PV → Option PV} : ∀ {xs ys : List PV}, mapO f xs = some ys → ys.length = xs.length
  | [], ys, h => by rw [mapO_nil h]
  | x :: xs, ys, h => by
    obtain ⟨y, zs, h1, h2, rfl⟩ := mapO_cons h
    rw [List.length_cons, List.length_cons, mapO_len h2]
theorem mapO_get {f : PV → Option PV} : ∀ {xs ys : List PV} {i : Nat} {y : PV}, mapO f xs = some ys → ys[i]? = some y → ∃ x, xs[i]? = some x ∧ f x = some y
  | [], ys, i, y, h, e => by
    rw [mapO_nil h] at e
    simp at e
  | x :: xs, ys, i, y, h, e => by
    obtain ⟨z, zs, h1, h2, rfl⟩ := mapO_cons h
    cases i with
    | zero =>
      simp at e
      subst e
      exact ⟨x, rfl, h1⟩
    | succ i =>
      obtain ⟨w, g1, g2⟩ := mapO_get (i := i) h2 (by simpa using e)
      exact ⟨w, by simpa using g1, g2⟩
open Classical in
/-- the old cells changed, what is new in them by value -/
theorem mut_ok {S' : Store} (R1 : RH Z W1 S1 H1) (ex : Ext W1 S1 W2 S2) (R2 : RH Z W2 S2 H2) (e : mapO (frzC S1.length S2) (S2.take S1.length) = some S') : RH Z (W2.ices S1.length S2.length H2) S' H2 ∧ Ext W1 S1 (W2.ices S1.length S2.length H2) S' := by
  have kf := ices_keep (n := S1.length) R2
  have el : S'.length = S1.length := by
    rw [mapO_len e, List.length_take]
    exact Nat.min_eq_left ex.le
  refine ⟨⟨fun a o h => ?_, fun n w hw => ?_, fun n hn => ?_, fun m n hm hn h => R2.inj m n (Nat.lt_of_lt_of_le (el ▸ hm) ex.le) (Nat.lt_of_lt_of_le (el ▸ hn) ex.le) h, fun a o h => ?_⟩, ⟨fun a o h => kf a o (ex.fz a o h), Nat.le_of_eq el.symm, ex.at_, ex.xx⟩⟩
  · have h : (if ∃ m, S1.length ≤ m ∧ m < S2.length ∧ W2.ι m = a then H2 a else W2.F a) = some o := h
    split at h
    · exact h
    · exact R2.fz a o h
  · have hn : n < S1.length := el ▸ (List.getElem?_eq_some_iff.mp hw).1
    obtain ⟨w0, g1, g2⟩ := mapO_get e hw
    rw [List.getElem?_take_of_lt hn] at g1
    obtain ⟨o, h1, h2, h3⟩ := R2.st n w0 g1
    refine ⟨o, h1, ?_, h3⟩
    rw [el]
    unfold frzC at g2
    split at g2
    · rename_i hl
      cases g2
      exact (h2.cut hl).mono kf (Nat.le_refl _) fun _ _ => rfl
    · exact frz_ro (frz_ok R2 8) h2 g2
  · rw [el] at hn
    show (if ∃ m, S1.length ≤ m ∧ m < S2.length ∧ W2.ι m = W2.ι n then H2 (W2.ι n) else W2.F (W2.ι n)) = none
    rw [if_neg]
    · exact R2.nf n (Nat.lt_of_lt_of_le hn ex.le)
    · rintro ⟨m, h1, h2, h3⟩
      have := R2.inj m n h2 (Nat.lt_of_lt_of_le hn ex.le) h3
      omega
  · obtain ⟨h1, h2, h3⟩ := R2.ex a o h
    refine ⟨h1, ?_, fun n hn => h3 n (Nat.lt_of_lt_of_le (el ▸ hn) ex.le)⟩
    show (if ∃ m, S1.length ≤ m ∧ m < S2.length ∧ W2.ι m = a then H2 a else W2.F a) = none
    rw [if_neg]
    · exact h2
    · rintro ⟨m, _, g2, g3⟩
      exact h3 m g2 g3
theorem settle_ok {m : Md} (R1 : RH Z W1 S1 H1) (ex : Ext W1 S1 W2 S2) (R2 : RH Z W2 S2 H2) (rv : RV Z W2.F W2.ι S2.length v x) (h : settle m S1 v S2 = .ok r S3) :
    ∃ W3, Ext W1 S1 W3 S3 ∧ RH Z W3 S3 H2 ∧ RV Z W3.F W3.ι S3.length r x := by
  cases m with
  | keep =>
    cases h
    exact ⟨W2, ex, R2, rv⟩
  | val =>
    unfold settle at h
    dsimp only at h
    split at h <;> try contradiction
    rename_i e
    obtain ⟨h1, h2⟩ := opt_ok h
    subst h2
    obtain ⟨a, b⟩ := ices_ok R1 ex R2 e
    exact ⟨_, b, a, frz_ok R2 8 _ _ _ rv h1⟩
  | chg =>
    unfold settle at h
    dsimp only at h
    split at h <;> try contradiction
    rename_i hle
    split at h <;> try contradiction
    rename_i S' r' hS hr
    cases h
    obtain ⟨a, b⟩ := mut_ok R1 ex R2 hS
    have el : S3.length = S1.length := by
      have := mapO_len hS
      rw [this, List.length_take]
      exact Nat.min_eq_left (of_decide_eq_true hle)
    refine ⟨_, b, a, ?_⟩
    rw [el]
    exact frz_ok R2 8 _ _ _ rv hr
  | ref =>
    unfold settle at h
    dsimp only at h
    split at h <;> try contradiction
    rename_i e
    split at h <;> try contradiction
    rename_i n
    split at h <;> try contradiction
    rename_i hn
    split at h <;> try contradiction
    rename_i o ho
    split at h <;> try contradiction
    rename_i hl
    cases h
    have hx : x = .ref (W2.ι n) := by
      cases rv with
      | ref _ _ => rfl
      | obj h' r' => cases r'
    subst hx
    have hn2 : n < S2.length := (List.getElem?_eq_some_iff.mp ho).1
    obtain ⟨u, g1, g2, g3⟩ := R2.st n o ho
    let W3 : Wd := { W2 with ι := fun m => if m = S1.length then W2.ι n else W2.ι m }
    have at0 : ∀ m, m < S1.length → W3.ι m = W2.ι m := fun m hm => if_neg (Nat.ne_of_lt hm)
    have at1 : W3.ι S1.length = W2.ι n := if_pos rfl
    have len : (S1 ++ [o]).length = S1.length + 1 := by simp
    refine ⟨W3, ⟨ex.fz, by rw [len]; omega, fun m hm => (at0 m hm).trans (ex.at_ m hm), ex.xx⟩, ⟨R2.fz, fun m w hw => ?_, fun m hm => ?_, fun a b ha hb hab => ?_, fun a u h => ?_⟩, ?_⟩
    · rw [len]
      by_cases hm : m < S1.length
      · rw [List.getElem?_append_left hm] at hw
        obtain ⟨o', k1, k2, k3⟩ := R2.st m w (by rw [take_at e hm]; exact hw)
        rw [at0 m hm]
        exact ⟨o', k1, (k2.cut (low_store R1 hw)).mono (fun _ _ h => h) (Nat.le_succ _) at0, k3⟩
      · have hm' : m = S1.length := by
          have := (List.getElem?_eq_some_iff.mp hw).1
          rw [len] at this
          omega
        subst hm'
        rw [List.getElem?_append_right (Nat.le_refl _)] at hw
        simp at hw
        subst hw
        rw [at1]
        exact ⟨u, g1, (g2.cut hl).mono (fun _ _ h => h) (Nat.le_succ _) at0, g3⟩
    · rw [len] at hm
      by_cases h : m < S1.length
      · rw [at0 m h]
        exact R2.nf m (Nat.lt_of_lt_of_le h ex.le)
      · have : m = S1.length := by omega
        subst this
        rw [at1]
        exact R2.nf n hn2
    · rw [len] at ha hb
      have l := ex.le
      by_cases h1 : a < S1.length <;> by_cases h2 : b < S1.length
      · rw [at0 a h1, at0 b h2] at hab
        exact R2.inj a b (by omega) (by omega) hab
      · have : b = S1.length := by omega
        subst this
        rw [at0 a h1, at1] at hab
        have := R2.inj a n (by omega) hn2 hab
        omega
      · have : a = S1.length := by omega
        subst this
        rw [at0 b h2, at1] at hab
        have := R2.inj n b hn2 (by omega) hab
        omega
      · omega
    · obtain ⟨h1, h2, h3⟩ := R2.ex a u h
      refine ⟨h1, h2, fun m hm => ?_⟩
      rw [len] at hm
      by_cases h : m < S1.length
      · rw [at0 m h]
        exact h3 m (Nat.lt_of_lt_of_le h ex.le)
      · have : m = S1.length := by omega
        subst this
        rw [at1]
        exact h3 n hn2
    · have q : RV Z W3.F W3.ι (S1 ++ [o]).length (.ref S1.length) (.ref (W3.ι S1.length)) := .ref _ (by rw [len]; omega)
      rw [at1] at q
      exact q
end
/-! ### calls -/
/-- what a def promises -/
def spF (Z : Sit) (np : Nat) (m : List PV → Store → Res PV) : Sp := fun vs H Q _ => ∃ W S ps v S', RH Z W S H ∧ RVs Z W.F W.ι S.length ps vs ∧ ps.length = np ∧ m ps S = .ok v S' ∧ ∀ W' x H', Ext W S W' S' → RH Z W' S' H' → RV Z W'.F W'.ι S'.length v x → Q x H'
/-- a def at its place that may be called with n values at least -/
structure CallOk (X : Cx) (Z : Sit) (k : Nat) (f : Addr) (np : Nat) (dfl : List PV) (m : List PV → Store → Res PV) : Prop where
  ex : ∃ fd ps, FnOk X.prog X.w X.K X.mg X.base CX0 k f fd ps (spF Z np m) ∧
    ∀ n, n ≤ np → np ≤ n + dfl.length → ∃ ds dvs, Vals dvs ds ∧ (∀ F ι N, RVs Z F ι N (dfl.drop (n + dfl.length - np)) dvs) ∧ Binds X.K fd ps ds
/-- m fills up by itself -/
def Fills (np : Nat) (dfl : List PV) (m : List PV → Store → Res PV) : Prop :=
  ∀ vs S v S', m vs S = .ok v S' → vs.length ≤ np ∧ np ≤ vs.length + dfl.length ∧ m (vs ++ dfl.drop (vs.length + dfl.length - np)) S = .ok v S'
section
variable {X : Cx} {Z : Sit} {k : Nat} {f C : Addr} {np : Nat} {dfl : List PV} {m : List PV → Store → Res PV} {x : Str} {e o : Expr} {es : List Expr} {p pos apos : Pos} {ms : Env → Store → Res (List PV)} {mo : Env → Store → Res PV}
theorem notStar_starEach {e : Expr} {es : List Expr} {env : PySem.Env} (h : ∀ a b, e ≠ .Starred a b) : starEach (e :: es) env = (false, eval e env) :: starEach es env := by
  cases e with
  | Starred a b => exact absurd rfl (h a b)
  | _ => rfl
/-- a row of values and what runs on it, its length known beforehand -/
theorem e_call (c : CallOk X Z k f np dfl m) (fl : Fills np dfl m) (hr : Room k X.A) (hg : Gl X x) (hm : X.mg x = some (.ref f)) (hk : PySem.W.keepIn X.K (.ref f) = true) (hs : PA X (e :: es) (taOf Z ms)) (md : Md)
    (hdb : (x == ("__debug__" : Str)) = false) (he : starEach (e :: es) X.env = (false, eval e X.env) :: starEach es X.env) (hpl : (backTo pos (starEach es X.env)).any (·.1) = false) :
    PE X (.Call (.Name x p) (e :: es) [] pos) (teOf Z fun ρ S => (ms ρ S).bind fun vs S1 => (m vs S1).bind fun v S2 => settle md S1 v S2) := by
  refine ⟨fun pins s σ H Q I ⟨W, ρ, S, v, S', R, E, h, k⟩ => ?_⟩
  obtain ⟨vs, S1, h1, h⟩ := bind_ok h
  obtain ⟨w, S2, h2, h⟩ := bind_ok h
  obtain ⟨fd, ps, F, hb⟩ := c.ex
  obtain ⟨l1, l2, h3⟩ := fl _ _ _ _ h2
  obtain ⟨ds, dvs, hd, hr1, hb⟩ := hb _ l1 l2
  refine (pe_call F hr hg hm hk hb hd pass0 hs hdb he hpl (E := E0)).run pins s σ H Q I ⟨W, ρ, S, vs, S1, R, E, h1, fun W1 xs H1 x1 R1 r1 => ?_⟩
  refine ⟨W1, S1, _, w, S2, R1, r1.append (hr1 _ _ _), by rw [List.length_append, List.length_drop]; omega, h3, fun W2 y H2 x2 R2 r2 => ?_⟩
  obtain ⟨W3, x3, R3, r3⟩ := settle_ok R1 x2 R2 r2 h
  exact k W3 y H2 (x1.trans x3) R3 r3
theorem e_call0 (c : CallOk X Z k f np dfl m) (fl : Fills np dfl m) (hr : Room k X.A) (hg : Gl X x) (hm : X.mg x = some (.ref f)) (hk : PySem.W.keepIn X.K (.ref f) = true) (md : Md)
    (hdb : (x == ("__debug__" : Str)) = false) :
    PE X (.Call (.Name x p) [] [] pos) (teOf Z fun ρ S => (Res.ok [] S : Res (List PV)).bind fun vs S1 => (m vs S1).bind fun v S2 => settle md S1 v S2) := by
  refine ⟨fun pins s σ H Q I ⟨W, ρ, S, v, S', R, E, h, k⟩ => ?_⟩
  obtain ⟨vs, S1, h1, h⟩ := bind_ok h
  cases h1
  obtain ⟨w, S2, h2, h⟩ := bind_ok h
  obtain ⟨fd, ps, F, hb⟩ := c.ex
  obtain ⟨l1, l2, h3⟩ := fl _ _ _ _ h2
  obtain ⟨ds, dvs, hd, hr1, hb⟩ := hb _ l1 l2
  refine (pe_call0 F hr hg hm hk hb hd pass0 hdb (E := E0)).run pins s σ H Q I ?_
  refine ⟨W, S, _, w, S2, R, hr1 _ _ _, by rw [List.length_drop]; simp at l1 l2 ⊢; omega, h3, fun W2 y H2 x2 R2 r2 => ?_⟩
  obtain ⟨W3, x3, R3, r3⟩ := settle_ok R x2 R2 r2 h
  exact k W3 y H2 x3 R3 r3
/-- C(..) -/
theorem made {W1 : Wd} {S1 S2 S' : Store} {H1 : Hp} {Q : VK} {vs : List PV} {xs dvs : List V} {v : PV} {c : Nat} {md : Md} {ds : List Value} (hk : Z.kn c) (R1 : RH Z W1 S1 H1) (r1 : RVs Z W1.F W1.ι S1.length vs xs)
    (fl : Fills np dfl m) (l1 : (PV.ref S1.length :: vs).length ≤ np) (l2 : np ≤ (PV.ref S1.length :: vs).length + dfl.length) (hr1 : ∀ F ι N, RVs Z F ι N (dfl.drop ((PV.ref S1.length :: vs).length + dfl.length - np)) dvs)
    (h3 : m ((PV.ref S1.length :: vs) ++ dfl.drop ((PV.ref S1.length :: vs).length + dfl.length - np)) (S1 ++ [.obj c [] []]) = .ok .non S2) (h : settle md S1 (.ref S1.length) S2 = .ok v S')
    (k : ∀ W3 y H2, Ext W1 S1 W3 S' → RH Z W3 S' H2 → RV Z W3.F W3.ι S'.length v y → Q y H2) :
    ∀ x dx, H1 x = none → H1 dx = none → dx ≠ x → spF Z np m (.ref x :: (xs ++ dvs)) (upd (upd H1 dx (.own x)) x (.ins (Z.cad c) dx [])) (fun v H2 => v = .non ∧ Q (.ref x) H2) E0 := fun x dx hx hdx hne => by
  have R2 := R1.junk (o := .own x) hdx
  obtain ⟨R3, x3⟩ := R2.more (p := x) (v := .obj c [] []) (o := .ins (Z.cad c) dx []) (by rw [upd_ne (Ne.symm hne)]; exact hx) (.ins hk rfl .nil) trivial
  have len : (S1 ++ [PV.obj c [] []]).length = S1.length + 1 := by simp
  have at1 : (W1.more S1.length x).ι S1.length = x := by
    show (if S1.length = S1.length then x else _) = x
    rw [if_pos rfl]
  have rx : RV Z (W1.more S1.length x).F (W1.more S1.length x).ι (S1 ++ [PV.obj c [] []]).length (.ref S1.length) (.ref x) := by
    have q : RV Z (W1.more S1.length x).F (W1.more S1.length x).ι (S1 ++ [PV.obj c [] []]).length (.ref S1.length) (.ref ((W1.more S1.length x).ι S1.length)) := .ref _ (by rw [len]; omega)
    rw [at1] at q
    exact q
  refine ⟨_, S1 ++ [.obj c [] []], _, .non, S2, R3, (RVs.cons rx (x3.rvs r1)).append (hr1 _ _ _), by rw [List.length_append, List.length_drop]; omega, h3, fun W2 y H2 x2 R2 r2 => ⟨?_, ?_⟩⟩
  · cases r2 with
    | non => rfl
    | obj h' r' => cases r'
  · obtain ⟨W4, x4, R4, r4⟩ := settle_ok R1 (x3.trans x2) R2 (x2.rv rx) h
    exact k W4 _ H2 x4 R4 r4
theorem e_make {c : Nat} (hkn : Z.kn c) (cl : CallOk X Z k f np dfl m) (fl : Fills np dfl m) (M : Mk X.K (Z.cad c) f) (hr : Room (k + 1) X.A) (hg : Gl X x) (hm : X.mg x = some (.ref (Z.cad c))) (hs : PA X (e :: es) (taOf Z ms)) (md : Md)
    (hdb : (x == ("__debug__" : Str)) = false) (he : starEach (e :: es) X.env = (false, eval e X.env) :: starEach es X.env) (hpl : (backTo pos (starEach es X.env)).any (·.1) = false) :
    PE X (.Call (.Name x p) (e :: es) [] pos) (teOf Z fun ρ S => (ms ρ S).bind fun vs S1 => ((m (.ref S1.length :: vs) (S1 ++ [.obj c [] []])).bind fun v S2 => (match v with
      | .non => .ok (.ref S1.length) S2
      | _ => .bad)).bind fun v S2 => settle md S1 v S2) := by
  refine ⟨fun pins s σ H Q I ⟨W, ρ, S, v, S', R, E, h, k⟩ => ?_⟩
  obtain ⟨vs, S1, h1, h⟩ := bind_ok h
  obtain ⟨w, S2, h2, h⟩ := bind_ok h
  obtain ⟨u, S3, h2', h2''⟩ := bind_ok h2
  split at h2'' <;> try contradiction
  cases h2''
  obtain ⟨fd, ps, F, hb⟩ := cl.ex
  obtain ⟨l1, l2, h3⟩ := fl _ _ _ _ h2'
  obtain ⟨ds, dvs, hd, hr1, hb⟩ := hb _ l1 l2
  refine (pe_make M F hr hg hm hb hd pass0 hs hdb he hpl (E := E0)).run pins s σ H Q I ⟨W, ρ, S, vs, S1, R, E, h1, fun W1 xs H1 x1 R1 r1 => ?_⟩
  exact made hkn R1 r1 fl l1 l2 hr1 h3 h (ds := ds) fun W3 y H2 x3 R3 r3 => k W3 y H2 (x1.trans x3) R3 r3
theorem e_make0 {c : Nat} (hkn : Z.kn c) (cl : CallOk X Z k f np dfl m) (fl : Fills np dfl m) (M : Mk X.K (Z.cad c) f) (hr : Room (k + 1) X.A) (hg : Gl X x) (hm : X.mg x = some (.ref (Z.cad c))) (md : Md)
    (hdb : (x == ("__debug__" : Str)) = false) :
    PE X (.Call (.Name x p) [] [] pos) (teOf Z fun ρ S => (Res.ok [] S : Res (List PV)).bind fun vs S1 => ((m (.ref S1.length :: vs) (S1 ++ [.obj c [] []])).bind fun v S2 => (match v with
      | .non => .ok (.ref S1.length) S2
      | _ => .bad)).bind fun v S2 => settle md S1 v S2) := by
  refine ⟨fun pins s σ H Q I ⟨W, ρ, S, v, S', R, E, h, k⟩ => ?_⟩
  obtain ⟨vs, S1, h1, h⟩ := bind_ok h
  cases h1
  obtain ⟨w, S2, h2, h⟩ := bind_ok h
  obtain ⟨u, S3, h2', h2''⟩ := bind_ok h2
  split at h2'' <;> try contradiction
  cases h2''
  obtain ⟨fd, ps, F, hb⟩ := cl.ex
  obtain ⟨l1, l2, h3⟩ := fl _ _ _ _ h2'
  obtain ⟨ds, dvs, hd, hr1, hb⟩ := hb _ l1 l2
  refine (pe_make0 M F hr hg hm hb hd pass0 hdb (E := E0)).run pins s σ H Q I ?_
  exact made hkn R .nil fl l1 l2 hr1 h3 h (ds := ds) k
/-- C(), no __init__ -/
theorem e_makeO {c : Nat} (hkn : Z.kn c) (M : MkO X.K (Z.cad c)) (hg : Gl X x) (hm : X.mg x = some (.ref (Z.cad c))) (md : Md) (hdb : (x == ("__debug__" : Str)) = false) :
    PE X (.Call (.Name x p) [] [] pos) (teOf Z fun ρ S => (Res.ok [] S : Res (List PV)).bind fun vs S1 => ((Res.ok (.ref S1.length) (S1 ++ [.obj c [] []]) : Res PV)).bind fun v S2 => settle md S1 v S2) := by
  refine ⟨fun pins s σ H Q I ⟨W, ρ, S, v, S', R, E, h, k⟩ => ?_⟩
  replace h : settle md S (.ref S.length) (S ++ [.obj c [] []]) = .ok v S' := h
  refine (pe_makeO M hg hm hdb).run pins s σ H Q I fun y dx hy hdx hne => ?_
  have R2 := R.junk (o := .own y) hdx
  obtain ⟨R3, x3⟩ := R2.more (p := y) (v := .obj c [] []) (o := .ins (Z.cad c) dx []) (by rw [upd_ne (Ne.symm hne)]; exact hy) (.ins hkn rfl .nil) trivial
  have len : (S ++ [PV.obj c [] []]).length = S.length + 1 := by simp
  have at1 : (W.more S.length y).ι S.length = y := by
    show (if S.length = S.length then y else _) = y
    rw [if_pos rfl]
  have ry : RV Z (W.more S.length y).F (W.more S.length y).ι (S ++ [PV.obj c [] []]).length (.ref S.length) (.ref y) := by
    have q : RV Z (W.more S.length y).F (W.more S.length y).ι (S ++ [PV.obj c [] []]).length (.ref S.length) (.ref ((W.more S.length y).ι S.length)) := .ref _ (by rw [len]; omega)
    rw [at1] at q
    exact q
  obtain ⟨W4, x4, R4, r4⟩ := settle_ok R x3 R3 ry h
  exact k W4 _ _ x4 R4 r4
end
end FF
set_option Elab.async false
set_option linter.all false
set_option autoImplicit false
set_option maxRecDepth 100000
set_option maxHeartbeats 4000000
/-! SNH: methods, fields, stores, statements. -/
namespace FF
open PySem PySem.Spec PyProof.Rows L2 TL
theorem Seen.obj_ {Z : Sit} {W : Wd} {N : Nat} {H : Hp} {c : Nat} {ks : List Nat} {vs : List PV} {x : V} (s : Seen Z W N H (.obj c ks vs) x) :
    ∃ a dx fs, x = .ref a ∧ H a = some (.ins (Z.cad c) dx fs) ∧ Z.kn c ∧ fs.map (·.1) = ks.map Z.an ∧ RVs Z W.F W.ι N vs (fs.map (·.2)) := by
  cases s with
  | obj h r =>
    cases r with
    | ins kn e r => exact ⟨_, _, _, rfl, h, kn, e, r⟩
theorem fget_lookup {Z : Sit} {F : Hp} {ι : Nat → Addr} {N : Nat} {x : Nat} {v : PV} : ∀ {ks : List Nat} {vs : List PV} {fs : List (Str × V)}, fget x ks vs = some v → fs.map (·.1) = ks.map Z.an → RVs Z F ι N vs (fs.map (·.2)) → ∃ y, fs.lookup (Z.an x) = some y ∧ RV Z F ι N v y
  | [], vs, fs, h, _, _ => by cases h
  | k :: ks, [], fs, h, _, _ => by cases h
  | k :: ks, w :: vs, [], h, e, _ => by cases e
  | k :: ks, w :: vs, (n, y) :: fs, h, e, .cons r rs => by
    have e1 : n = Z.an k ∧ fs.map (·.1) = ks.map Z.an := by
      have := List.cons.inj e
      exact ⟨this.1, this.2⟩
    unfold fget at h
    rw [List.lookup_cons]
    split at h
    · rename_i hk
      cases h
      subst hk
      rw [e1.1]
      simp only [beq_self_eq_true]
      exact ⟨y, rfl, r⟩
    · rename_i hk
      have : (Z.an x == n) = false := beq_eq_false_iff_ne.mpr fun z => hk (Z.inj _ _ (z.trans e1.1)).symm
      rw [this]
      exact fget_lookup h e1.2 rs
theorem lookup_none {Z : Sit} {x : Nat} : ∀ {ks : List Nat} {fs : List (Str × V)}, ks.contains x = false → fs.map (·.1) = ks.map Z.an → fs.lookup (Z.an x) = none
  | [], [], _, _ => rfl
  | k :: ks, [], _, e => by cases e
  | [], _ :: _, _, e => by cases e
  | k :: ks, (n, y) :: fs, h, e => by
    have e1 := List.cons.inj e
    simp only [List.contains_cons, Bool.or_eq_false_iff] at h
    rw [List.lookup_cons]
    have : (Z.an x == n) = false := beq_eq_false_iff_ne.mpr fun z => by
      have e2 : n = Z.an k := e1.1
      have := Z.inj _ _ (z.trans e2)
      simp [this] at h
    rw [this]
    exact lookup_none h.2 e1.2
theorem fput_putF {Z : Sit} {F : Hp} {ι : Nat → Addr} {N : Nat} {x : Nat} {v : PV} {y : V} (rv : RV Z F ι N v y) : ∀ {ks : List Nat} {vs : List PV} {fs : List (Str × V)}, fs.map (·.1) = ks.map Z.an → RVs Z F ι N vs (fs.map (·.2)) →
    (putF (Z.an x) y fs).map (·.1) = (fput x v ks vs).1.map Z.an ∧ RVs Z F ι N (fput x v ks vs).2 ((putF (Z.an x) y fs).map (·.2))
  | [], [], [], _, _ => ⟨rfl, .cons rv .nil⟩
  | k :: ks, [], [], e, _ => by cases e
  | [], _, _ :: _, e, _ => by cases e
  | k :: ks, w :: vs, (n, z) :: fs, e, .cons r rs => by
    have e1 := List.cons.inj e
    have e2 : n = Z.an k := e1.1
    by_cases hk : k = x
    · subst hk
      have h1 : fput k v (k :: ks) (w :: vs) = (k :: ks, v :: vs) := if_pos rfl
      have h2 : putF (Z.an k) y ((n, z) :: fs) = (n, y) :: fs := if_pos e2
      rw [h1, h2]
      exact ⟨e, .cons rv rs⟩
    · have h1 : fput x v (k :: ks) (w :: vs) = (k :: (fput x v ks vs).1, w :: (fput x v ks vs).2) := if_neg hk
      have h2 : putF (Z.an x) y ((n, z) :: fs) = (n, z) :: putF (Z.an x) y fs := if_neg fun q => hk (Z.inj _ _ (e2.symm.trans q))
      obtain ⟨i1, i2⟩ := fput_putF (x := x) rv e1.2 rs
      rw [h1, h2]
      exact ⟨by rw [List.map_cons, List.map_cons, i1, e2], .cons r i2⟩
section
variable {X : Cx} {Z : Sit} (hK : X.K = Z.K) {e o i : Expr} {es : List Expr} {p pos apos pos' : Pos} {ms : Env → Store → Res (List PV)} {mo me mi : Env → Store → Res PV}
/-- e.f -/
theorem e_fld {x : Nat} (cl : ∀ c, Z.kn c → Cls X.K (Z.cad c)) (na : ∀ c, Z.kn c → NoAttr X.K (Z.cad c) (Z.an x)) (he : PE X e (teOf Z me)) (hb : attributeBase e (Z.an x) X.env (eval e X.env) = eval e X.env) :
    PE X (.Attribute e (Z.an x) pos) (teOf Z fun ρ S => (me ρ S).bind fun v S1 => match view S1 v with
      | .obj _ ks vs => opt S1 (fget x ks vs)
      | _ => .bad) := by
  refine ⟨fun pins s σ H Q I ⟨W, ρ, S, v, S', R, E, h, k⟩ => ?_⟩
  obtain ⟨w, S1, h1, h⟩ := bind_ok h
  split at h <;> try contradiction
  rename_i c ks vs ev
  obtain ⟨h2, h3⟩ := opt_ok h
  subst h3
  refine (pe_fld he hb).run pins s σ H Q I ⟨W, ρ, S, w, S', R, E, h1, fun W1 y H1 x1 R1 r1 => ?_⟩
  have sn := R1.seen r1
  rw [ev] at sn
  obtain ⟨a, dx, fs, rfl, g1, g2, g3, g4⟩ := sn.obj_
  obtain ⟨z, g5, g6⟩ := fget_lookup h2 g3 g4
  exact ⟨a, _, dx, fs, z, rfl, g1, cl c g2, na c g2, g5, k W1 z H1 x1 R1 g6⟩
/-! ### methods of one's own classes -/
theorem hform {es : List Expr} {env : PySem.Env} (h : ((backTo pos (starEach es env)).all fun x => !x.1) = true) (hl : es.length < 30) : methodCallForm (es.length + ([] : List Keyword).length) (backTo pos (starEach es env)) (backToKw pos (keywordEach [] env)) = true := by
  show ((backTo pos (starEach es env)).all (!·.1) && (backToKw pos (keywordEach [] env)).all (·.1.isSome) && decide (_ + _ < 30)) = true
  rw [h]
  have e : (backToKw pos (keywordEach [] env)) = [] := rfl
  rw [e]
  simp
  omega
theorem meth_ht {env : PySem.Env} {m : Str} (hb : attributeBase o m env (eval o env) = eval o env) (h : ((backTo pos (starEach es env)).all fun x => !x.1) = true) (hl : es.length < 30) (hline : (apos.endLine == pos.line) = true) :
    eval (.Call (.Attribute o m apos) es [] pos) env = (do
      let ov ← eval o env
      standAt apos.atName
      let (f, first) ← holding [ov] (getMethod ov m (do return (← importBound o env).getD true))
      callWith pos f first (backTo pos (starEach es env)) (backToKw pos (keywordEach [] env))) := by
  rw [arm_eval_Call, hb]
  have hf := hform (pos := pos) h hl
  have hpos : methodCallPos true o env apos pos = pure pos := by unfold methodCallPos; simp [hline]
  unfold methodCall
  rw [hf]
  rw [hpos]
  simp only [pure_bind]
  rfl
theorem e_meth {k x : Nat} {P : Nat → Nat → Option Nat} {np : Nat → Nat} {dfl : Nat → List PV} {mc : Nat → List PV → Store → Res PV} (cl : ∀ c, Z.kn c → Cls X.K (Z.cad c)) (hm : ∀ c f, Z.kn c → P c x = some f → Meth X.K (Z.cad c) (Z.an x) (Z.fad f) ∧ CallOk X Z k (Z.fad f) (np f) (dfl f) (mc f) ∧ Fills (np f) (dfl f) (mc f))
    (hr : Room k X.A) (ho : PE X o (teOf Z mo)) (hs : PA X (e :: es) (taOf Z ms)) (md : Md) (hb : attributeBase o (Z.an x) X.env (eval o X.env) = eval o X.env)
    (hst : starEach (e :: es) X.env = (false, eval e X.env) :: starEach es X.env) (hpl : (backTo pos (starEach es X.env)).any (·.1) = false) (hal : ((backTo pos (starEach (e :: es) X.env)).all fun x => !x.1) = true) (hl : (e :: es).length < 30) (hline : (apos.endLine == pos.line) = true) :
    PE X (.Call (.Attribute o (Z.an x) apos) (e :: es) [] pos) (teOf Z fun ρ S => (mo ρ S).bind fun v S1 => match view S1 v with
      | .obj c ks _ => if ks.contains x then .bad else (match P c x with
        | some g => (ms ρ S1).bind fun vs S2 => (mc g (v :: vs) S2).bind fun r S3 => settle md S2 r S3
        | none => .bad)
      | _ => .bad) := by
  refine ⟨fun pins s σ H Q I ⟨W, ρ, S, v, S', R, E, h, k⟩ => ?_⟩
  obtain ⟨w, S1, h1, h⟩ := bind_ok h
  split at h <;> try contradiction
  rename_i c ks vs ev
  split at h <;> try contradiction
  rename_i hks
  split at h <;> try contradiction
  rename_i g hg
  obtain ⟨us, S2, h2, h⟩ := bind_ok h
  obtain ⟨r, S3, h3, h⟩ := bind_ok h
  -- the class is told by a look at the value
  have go : ∀ (hkn : Z.kn c), wpAny (model X.prog X.w) X.A (eval (.Call (.Attribute o (Z.an x) apos) (e :: es) [] pos) X.env) (EP X pins σ Q) X.xe s := fun hkn => by
    obtain ⟨M, co, fl⟩ := hm c g hkn hg
    obtain ⟨fd, ps, F, hbd⟩ := co.ex
    obtain ⟨l1, l2, h4⟩ := fl _ _ _ _ h3
    obtain ⟨ds, dvs, hd, hr1, hbd⟩ := hbd _ l1 l2
    refine (pe_meth (E := E0) ho (cl c hkn) M F hr hbd hd pass0 hs hst hpl (meth_ht hb hal hl hline)).run pins s σ H Q I ⟨W, ρ, S, w, S1, R, E, h1, fun W1 y H1 x1 R1 r1 => ?_⟩
    have sn := R1.seen r1
    rw [ev] at sn
    obtain ⟨a, dx, fs, rfl, g1, g2, g3, g4⟩ := sn.obj_
    refine ⟨a, dx, fs, rfl, g1, lookup_none (by simpa using hks) g3, W1, ρ, S1, us, S2, R1, x1.re E, h2, fun W2 ys H2 x2 R2 r2 => ?_⟩
    refine ⟨W2, S2, _, r, S3, R2, (RVs.cons (x2.rv r1) r2).append (hr1 _ _ _), by rw [List.length_append, List.length_drop]; omega, h4, fun W3 z H3 x3 R3 r3 => ?_⟩
    obtain ⟨W4, x4, R4, r4⟩ := settle_ok R2 x3 R3 r3 h
    exact k W4 z H3 ((x1.trans x2).trans x4) R4 r4
  by_cases hkn : Z.kn c
  · exact go hkn
  · -- no such value
    rw [meth_ht hb hal hl hline]
    refine wpAny_bind (thn (ho.run pins s σ H (fun _ _ => False) I ⟨W, ρ, S, w, S1, R, E, h1, fun W1 y H1 x1 R1 r1 => ?_⟩) fun _ _ ⟨_, _, _, _, z⟩ => z.elim)
    have sn := R1.seen r1
    rw [ev] at sn
    obtain ⟨_, _, _, _, _, g2, _, _⟩ := sn.obj_
    exact hkn g2
theorem e_meth0 {k x : Nat} {P : Nat → Nat → Option Nat} {np : Nat → Nat} {dfl : Nat → List PV} {mc : Nat → List PV → Store → Res PV} (cl : ∀ c, Z.kn c → Cls X.K (Z.cad c)) (hm : ∀ c f, Z.kn c → P c x = some f → Meth X.K (Z.cad c) (Z.an x) (Z.fad f) ∧ CallOk X Z k (Z.fad f) (np f) (dfl f) (mc f) ∧ Fills (np f) (dfl f) (mc f))
    (hr : Room k X.A) (ho : PE X o (teOf Z mo)) (md : Md) (hb : attributeBase o (Z.an x) X.env (eval o X.env) = eval o X.env) (hline : (apos.endLine == pos.line) = true) :
    PE X (.Call (.Attribute o (Z.an x) apos) [] [] pos) (teOf Z fun ρ S => (mo ρ S).bind fun v S1 => match view S1 v with
      | .obj c ks _ => if ks.contains x then .bad else (match P c x with
        | some g => (Res.ok [] S1 : Res (List PV)).bind fun vs S2 => (mc g (v :: vs) S2).bind fun r S3 => settle md S2 r S3
        | none => .bad)
      | _ => .bad) := by
  refine ⟨fun pins s σ H Q I ⟨W, ρ, S, v, S', R, E, h, k⟩ => ?_⟩
  obtain ⟨w, S1, h1, h⟩ := bind_ok h
  split at h <;> try contradiction
  rename_i c ks vs ev
  split at h <;> try contradiction
  rename_i hks
  split at h <;> try contradiction
  rename_i g hg
  obtain ⟨us, S2, h2, h⟩ := bind_ok h
  cases h2
  obtain ⟨r, S3, h3, h⟩ := bind_ok h
  have hal : ((backTo pos (starEach [] X.env)).all fun x => !x.1) = true := rfl
  have go : ∀ (hkn : Z.kn c), wpAny (model X.prog X.w) X.A (eval (.Call (.Attribute o (Z.an x) apos) [] [] pos) X.env) (EP X pins σ Q) X.xe s := fun hkn => by
    obtain ⟨M, co, fl⟩ := hm c g hkn hg
    obtain ⟨fd, ps, F, hbd⟩ := co.ex
    obtain ⟨l1, l2, h4⟩ := fl _ _ _ _ h3
    obtain ⟨ds, dvs, hd, hr1, hbd⟩ := hbd _ l1 l2
    refine (pe_meth0 (E := E0) ho (cl c hkn) M F hr hbd hd pass0 (meth_ht hb hal (by decide) hline)).run pins s σ H Q I ⟨W, ρ, S, w, S1, R, E, h1, fun W1 y H1 x1 R1 r1 => ?_⟩
    have sn := R1.seen r1
    rw [ev] at sn
    obtain ⟨a, dx, fs, rfl, g1, g2, g3, g4⟩ := sn.obj_
    refine ⟨a, dx, fs, rfl, g1, lookup_none (by simpa using hks) g3, ?_⟩
    refine ⟨W1, S1, _, r, S3, R1, (RVs.cons r1 .nil).append (hr1 _ _ _), by rw [List.length_append, List.length_drop]; omega, h4, fun W3 z H3 x3 R3 r3 => ?_⟩
    obtain ⟨W4, x4, R4, r4⟩ := settle_ok R1 x3 R3 r3 h
    exact k W4 z H3 (x1.trans x4) R4 r4
  by_cases hkn : Z.kn c
  · exact go hkn
  · rw [meth_ht hb hal (by decide) hline]
    refine wpAny_bind (thn (ho.run pins s σ H (fun _ _ => False) I ⟨W, ρ, S, w, S1, R, E, h1, fun W1 y H1 x1 R1 r1 => ?_⟩) fun _ _ ⟨_, _, _, _, z⟩ => z.elim)
    have sn := R1.seen r1
    rw [ev] at sn
    obtain ⟨_, _, _, _, _, g2, _, _⟩ := sn.obj_
    exact hkn g2
/-! ### methods of built-in types -/
theorem ty_list {W : Wd} {S : Store} {H : Hp} {q : PV} {x : V} (R : RH Z W S H) (r : RV Z W.F W.ι S.length q x) (h : ∃ l, view S q = .lst l) : tyV X.K "list" x H := by
  obtain ⟨l, h⟩ := h
  have sn := R.seen r
  rw [h] at sn
  obtain ⟨a, vs, rfl, g1, _⟩ := sn.lst_
  exact .inl ⟨rfl, vs, .inl g1⟩
theorem ty_str {W : Wd} {S : Store} {H : Hp} {q : PV} {x : V} (R : RH Z W S H) (r : RV Z W.F W.ι S.length q x) (h : ∃ l, q = .str l) : tyV X.K "str" x H := by
  obtain ⟨l, rfl⟩ := h
  rw [rv_str r]
  rfl
theorem e_bm {id T : String} {name : Str} {g : Store → PV → List PV → Res PV} (C : Store → PV → Bool) (mt : Mt X Z id T g) (ty : ∀ {W : Wd} {S : Store} {H : Hp} {q : PV} {x : V}, RH Z W S H → RV Z W.F W.ι S.length q x → C S q = true → tyV X.K T x H)
    (pa : PlainAttrs T) (slot : Slot T name id) (hty : typeOf (.builtin id) = pure (.type "method_descriptor")) (ho : PE X o (teOf Z mo)) (hs : PA X (e :: es) (taOf Z ms)) (hb : attributeBase o name X.env (eval o X.env) = eval o X.env)
    (hst : starEach (e :: es) X.env = (false, eval e X.env) :: starEach es X.env) (hpl : (backTo pos (starEach es X.env)).any (·.1) = false) (hal : ((backTo pos (starEach (e :: es) X.env)).all fun x => !x.1) = true) (hl : (e :: es).length < 30) (hline : (apos.endLine == pos.line) = true) :
    PE X (.Call (.Attribute o name apos) (e :: es) [] pos) (teOf Z fun ρ S => (mo ρ S).bind fun v S1 => if C S1 v then (ms ρ S1).bind fun vs S2 => g S2 v vs else .bad) := by
  refine ⟨fun pins s σ H Q I ⟨W, ρ, S, v, S', R, E, h, k⟩ => ?_⟩
  obtain ⟨w, S1, h1, h⟩ := bind_ok h
  split at h <;> try contradiction
  rename_i hC
  obtain ⟨us, S2, h2, h⟩ := bind_ok h
  refine (pe_bm (r := fun x xs H2 Q2 => ∃ W2, RH Z W2 S2 H2 ∧ RV Z W2.F W2.ι S2.length w x ∧ RVs Z W2.F W2.ι S2.length us xs ∧ ∀ W' z H', Ext W2 S2 W' S' → RH Z W' S' H' → RV Z W'.F W'.ι S'.length v z → Q2 z H') pa slot hty ?_ ho hs hb ?_ hline hst hpl).run pins s σ H Q I
    ⟨W, ρ, S, w, S1, R, E, h1, fun W1 y H1 x1 R1 r1 => ⟨ty R1 r1 hC, W1, ρ, S1, us, S2, R1, x1.re E, h2, fun W2 ys H2 x2 R2 r2 => ⟨W2, R2, x2.rv r1, r2, fun W' z H' x3 R' rz => k W' z H' ((x1.trans x2).trans x3) R' rz⟩⟩⟩
  · rintro pins s σ H x xs u us2 Q2 I2 ru rus ⟨W2, R2, r1, r2, k2⟩
    exact mt pins s σ H x xs u us2 Q2 W2 S2 S' w us v I2 ru rus R2 r1 r2 h k2
  · have e2 : (backToKw pos (keywordEach [] X.env)) = [] := rfl
    rw [e2, hal]
    simp at hl ⊢
    omega
theorem e_bm0 {id T : String} {name : Str} {g : Store → PV → List PV → Res PV} (C : Store → PV → Bool) (mt : Mt X Z id T g) (ty : ∀ {W : Wd} {S : Store} {H : Hp} {q : PV} {x : V}, RH Z W S H → RV Z W.F W.ι S.length q x → C S q = true → tyV X.K T x H)
    (pa : PlainAttrs T) (slot : Slot T name id) (hty : typeOf (.builtin id) = pure (.type "method_descriptor")) (ho : PE X o (teOf Z mo)) (hb : attributeBase o name X.env (eval o X.env) = eval o X.env) (hline : (apos.endLine == pos.line) = true) :
    PE X (.Call (.Attribute o name apos) [] [] pos) (teOf Z fun ρ S => (mo ρ S).bind fun v S1 => if C S1 v then (Res.ok [] S1 : Res (List PV)).bind fun vs S2 => g S2 v vs else .bad) := by
  refine ⟨fun pins s σ H Q I ⟨W, ρ, S, v, S', R, E, h, k⟩ => ?_⟩
  obtain ⟨w, S1, h1, h⟩ := bind_ok h
  split at h <;> try contradiction
  rename_i hC
  obtain ⟨us, S2, h2, h⟩ := bind_ok h
  cases h2
  refine (pe_bm0 (r := fun x xs H2 Q2 => xs = [] ∧ ∃ W2, RH Z W2 S1 H2 ∧ RV Z W2.F W2.ι S1.length w x ∧ ∀ W' z H', Ext W2 S1 W' S' → RH Z W' S' H' → RV Z W'.F W'.ι S'.length v z → Q2 z H') pa slot hty ?_ ho hb hline).run pins s σ H Q I
    ⟨W, ρ, S, w, S1, R, E, h1, fun W1 y H1 x1 R1 r1 => ⟨ty R1 r1 hC, rfl, W1, R1, r1, fun W' z H' x3 R' rz => k W' z H' (x1.trans x3) R' rz⟩⟩
  · rintro pins s σ H x xs u us2 Q2 I2 ru rus ⟨rfl, W2, R2, r1, k2⟩
    exact mt pins s σ H x [] u us2 Q2 W2 S1 S' w [] v I2 ru rus R2 r1 .nil h k2
/-! ### statements -/
theorem of_nxt {W : Wd} {S : Store} {D : Ends} {α : Type} {ρ : Env} {r : Res α} {f : α → Store → SRes} (h : PostS Z W S D (SRes.of ρ r f)) : ∃ a S1, r = .ok a S1 ∧ PostS Z W S D (f a S1) := by
  cases r with
  | ok a S1 => exact ⟨a, S1, rfl, h⟩
  | exc x S => exact h.elim
  | bad => exact h.elim
theorem ss_nil : PSs X [] (tsOf Z fun ρ S => .nxt ρ S) := ⟨fun pins s σ H D I ⟨W, ρ, S, R, E, h⟩ => pss_nil.run pins s σ H D I (h W σ H (Ext.refl _ _) R E)⟩
theorem ss_cons {st : Stmt} {rest : List Stmt} {m1 m2 : Env → Store → SRes} (h1 : PS X st (tsOf Z m1)) (h2 : PSs X rest (tsOf Z m2)) : PSs X (st :: rest) (tsOf Z fun ρ S => (m1 ρ S).seq m2) := by
  refine ⟨fun pins s σ H D I ⟨W, ρ, S, R, E, h⟩ => (pss_cons h1 h2).run pins s σ H D I ⟨W, ρ, S, R, E, ?_⟩⟩
  dsimp only at h
  cases hm : m1 ρ S with
  | nxt ρ1 S1 =>
    rw [hm] at h
    exact fun W1 σ1 H1 x1 R1 E1 => ⟨W1, ρ1, S1, R1, E1, PostS.trans x1 h⟩
  | ret v S1 => rw [hm] at h; exact h
  | brk ρ1 S1 => rw [hm] at h; exact h
  | cnt ρ1 S1 => rw [hm] at h; exact h
  | exc x ρ1 S1 => rw [hm] at h; exact h
  | bad => rw [hm] at h; exact h
theorem s_pass : PS X (.Pass pos) (tsOf Z fun ρ S => .nxt ρ S) := ⟨fun pins s σ H D I ⟨W, ρ, S, R, E, h⟩ => ps_pass.run pins s σ H D I (h W σ H (Ext.refl _ _) R E)⟩
theorem s_brk : PS X (.Break pos) (tsOf Z fun ρ S => .brk ρ S) := ⟨fun pins s σ H D I ⟨W, ρ, S, R, E, h⟩ => ps_break.run pins s σ H D I (h W σ H (Ext.refl _ _) R E)⟩
theorem s_cnt : PS X (.Continue pos) (tsOf Z fun ρ S => .cnt ρ S) := ⟨fun pins s σ H D I ⟨W, ρ, S, R, E, h⟩ => ps_continue.run pins s σ H D I (h W σ H (Ext.refl _ _) R E)⟩
theorem s_retn : PS X (.Return none pos) (tsOf Z fun _ S => .ret .non S) := ⟨fun pins s σ H D I ⟨W, ρ, S, R, E, h⟩ => ps_retN.run pins s σ H D I (h W .non H (Ext.refl _ _) R .non)⟩
theorem s_ret (he : PE X e (teOf Z me)) : PS X (.Return (some e) pos) (tsOf Z fun ρ S => SRes.of ρ (me ρ S) fun v S1 => .ret v S1) :=
  ⟨fun pins s σ H D I ⟨W, ρ, S, R, E, h⟩ => (ps_ret he).run pins s σ H D I (by
    obtain ⟨v, S1, h1, h⟩ := of_nxt h
    exact ⟨W, ρ, S, v, S1, R, E, h1, h⟩)⟩
theorem s_expr (he : PE X e (teOf Z me)) (hs : swapsWith e none pos.line X.env = pure false) : PS X (.Expr e pos) (tsOf Z fun ρ S => SRes.of ρ (me ρ S) fun _ S1 => .nxt ρ S1) :=
  ⟨fun pins s σ H D I ⟨W, ρ, S, R, E, h⟩ => (ps_expr he hs).run pins s σ H D I (by
    obtain ⟨v, S1, h1, h⟩ := of_nxt h
    exact ⟨W, ρ, S, v, S1, R, E, h1, fun W1 x H1 x1 R1 r1 => h W1 σ H1 x1 R1 (x1.re E)⟩)⟩
theorem s_doc {x : Str} {j : Nat} : PS X (.Expr (.Constant (.str x) j pos) pos') (tsOf Z fun ρ S => .nxt ρ S) := ⟨fun pins s σ H D I ⟨W, ρ, S, R, E, h⟩ => ps_doc.run pins s σ H D I (h W σ H (Ext.refl _ _) R E)⟩
theorem s_if {c : Expr} {a b : List Stmt} {mc : Env → Store → Res Bool} {ma mb : Env → Store → SRes} (hc : PT X c (ttOf Z mc)) (ha : PSs X a (tsOf Z ma)) (hb : PSs X b (tsOf Z mb)) :
    PS X (.If c a b pos) (tsOf Z fun ρ S => SRes.of ρ (mc ρ S) fun k S1 => if k then ma ρ S1 else mb ρ S1) :=
  ⟨fun pins s σ H D I ⟨W, ρ, S, R, E, h⟩ => (ps_if hc ha hb).run pins s σ H D I (by
    obtain ⟨v, S1, h1, h⟩ := of_nxt h
    refine ⟨W, ρ, S, v, S1, R, E, h1, fun W1 H1 x1 R1 => ?_⟩
    cases v with
    | true => exact iteT ⟨W1, ρ, S1, R1, x1.re E, PostS.trans x1 h⟩
    | false => exact iteF ⟨W1, ρ, S1, R1, x1.re E, PostS.trans x1 h⟩)⟩
/-! ### targets -/
def tgOf (Z : Sit) (d : Env → PV → Store → SRes) : TG := fun x σ H Q => ∃ W ρ S v ρ' S', RH Z W S H ∧ RE Z W S.length ρ σ ∧ RV Z W.F W.ι S.length v x ∧ d ρ v S = .nxt ρ' S' ∧ ∀ W' σ' H', Ext W S W' S' → RH Z W' S' H' → RE Z W' S'.length ρ' σ' → Q σ' H'
theorem g_name {i : Nat} {x : Str} (hN : X.N.Nodup) (hi : X.N[i]? = some x) (hx : Loc X.env.scope x) (hf : X.fn x = true ∨ X.env.scope.names.lookup x = some .local) : PG X (.Name x pos) (tgOf Z fun ρ v S => .nxt (ρ.set i (some v)) S) :=
  ⟨fun pins s σ H v u Q I r ⟨W, ρ, S, w, ρ', S', R, E, rv, h, k⟩ => (pg_name hN hi hx hf).run pins s σ H v u Q I r (by
    cases h
    exact k W _ H (Ext.refl _ _) R (E.set i rv))⟩
theorem g_ct {t : CT} {tg : Expr} (hK : X.K = Z.K) (h : PG X tg (gOf X.K t)) : PG X tg (tgOf Z fun ρ v S => optR (bindT S t v ρ) S) :=
  ⟨fun pins s σ H v u Q I r ⟨W, ρ, S, w, ρ', S', R, E, rv, hd, k⟩ => h.run pins s σ H v u Q I r (by
    dsimp only at hd
    unfold optR at hd
    split at hd <;> try contradiction
    rename_i ρ2 hb
    cases hd
    exact tgt_run hK R hb E rv fun σ' E' _ => k W σ' H (Ext.refl _ _) R E')⟩
theorem g_idx (ho : PE X o (teOf Z mo)) (hi : PE X i (teOf Z mi))
    (ha : ∀ v, assign (.Subscript o i pos) X.env v = (do
      let ov ← holding [v] (eval o X.env)
      let iv ← holding [v, ov] (eval i X.env)
      standAt pos
      holding [v, ov, iv] (PySem.setItem ov iv v)
      release [v, ov, iv] [])) : PG X (.Subscript o i pos) (tgOf Z fun ρ v S => SRes.of ρ (mo ρ S) fun a S1 => SRes.of ρ (mi ρ S1) fun b S2 => optS (FF.setItem S2 a b v) ρ) :=
  ⟨fun pins s σ H v u Q I r ⟨W, ρ, S, w, ρ', S', R, E, rv, h, k⟩ => (pg_sub ho hi set_list ha).run pins s σ H v u Q I r (by
    dsimp only at h
    cases h1 : mo ρ S with
    | exc x S => rw [h1] at h; cases h
    | bad => rw [h1] at h; cases h
    | ok a S1 =>
      rw [h1] at h
      replace h : (SRes.of ρ (mi ρ S1) fun b S2 => optS (FF.setItem S2 a b w) ρ) = .nxt ρ' S' := h
      cases h2 : mi ρ S1 with
      | exc x S => rw [h2] at h; cases h
      | bad => rw [h2] at h; cases h
      | ok b S2 =>
        rw [h2] at h
        replace h : optS (FF.setItem S2 a b w) ρ = .nxt ρ' S' := h
        unfold optS at h
        split at h <;> try contradiction
        rename_i S3 hj
        cases h
        unfold FF.setItem at hj
        split at hj <;> try contradiction
        rename_i n l kk hl
        obtain ⟨j, hj2, rfl⟩ := Option.map_eq_some_iff.mp hj
        refine ⟨W, ρ, S, a, S1, R, E, h1, fun W1 xa H1 x1 R1 r1 => ⟨W1, ρ, S1, .int kk, S2, R1, x1.re E, h2, fun W2 xb H2 x2 R2 r2 => ?_⟩⟩
        obtain ⟨hn, rfl, vs, g1, g2⟩ := refList_of R2 (x2.rv r1) hl
        refine ⟨_, vs, kk, j, rfl, rv_int r2, g1, by rw [← g2.length]; exact hj2, ?_⟩
        have r3 := g2.set ((x1.trans x2).rv rv) j
        obtain ⟨R', ex⟩ := R2.put hn (.lst r3) trivial
        exact k W2 σ _ ((x1.trans x2).trans ex) R' (((x1.trans x2).trans ex).re E))⟩
theorem s_asg {tg : Expr} {d : Env → PV → Store → SRes} (he : PE X e (teOf Z me)) (hg : PG X tg (tgOf Z d)) (hs : swapsWithSole [tg] e pos.line X.env = pure false) (hw : swappedStores [tg] e X.env = pure none)
    (h1 : (assignEach [tg] X.env).map (·.2) = [assign tg X.env]) (hd : ∀ ρ v S, (∃ ρ' S', d ρ v S = .nxt ρ' S') ∨ (∃ x ρ' S', d ρ v S = .exc x ρ' S') ∨ d ρ v S = .bad) : PS X (.Assign [tg] e pos) (tsOf Z fun ρ S => SRes.of ρ (me ρ S) fun v S1 => d ρ v S1) :=
  ⟨fun pins s σ H D I ⟨W, ρ, S, R, E, h⟩ => (ps_asg he hg hs hw h1).run pins s σ H D I (by
    obtain ⟨v, S1, h2, h⟩ := of_nxt h
    refine ⟨W, ρ, S, v, S1, R, E, h2, fun W1 x H1 x1 R1 r1 => ?_⟩
    rcases hd ρ v S1 with ⟨ρ', S', z⟩ | ⟨x, ρ', S', z⟩ | z
    · rw [z] at h
      exact ⟨W1, ρ, S1, v, ρ', S', R1, x1.re E, r1, z, fun W2 σ2 H2 x2 R2 E2 => h W2 σ2 H2 (x1.trans x2) R2 E2⟩
    · rw [z] at h
      exact h.elim
    · rw [z] at h
      exact h.elim)⟩
/-- name = [..] on one line -/
theorem s_setLc {j : Nat} {y : Str} {py spos : Pos} {elt tg iter : Expr} {ifs : List Expr} {scope : Scope} {own' : List (Str × Nat)} {t : CT} {mit : Env → Store → Res (List PV × Guard)} {mc me : Env → Store → Res PV} {al : Bool} (hK : X.K = Z.K) (hc : X.calm = true) (hN : X.N.Nodup) (hy : X.N[j]? = some y) (hyl : X.env.scope.names.lookup y = some .local)
    (hsw : swapsWith (.ListComp elt [⟨tg, iter, ifs, 0⟩] scope pos) (some (.Name y py)) spos.line X.env = pure true) (hi : PI X tg iter (tiOf Z mit)) (ok : BlkOk X.N X.env.scope scope own') (ho : own'.map (·.2) = own t)
    (hg : ∀ (s : Shared) (H : Hp) (C : Addr) (cl : List (Str × Addr)) (fp : List Addr), PG (X.blk s H scope (compEnvC scope cl C X.env) fp) tg (gOf X.K t)) (ht : ∀ (s : Shared) (H : Hp) (C : Addr) (cl : List (Str × Addr)) (fp : List Addr), PTs (X.blk s H scope (compEnvC scope cl C X.env) fp) ifs (ttOf Z (tstC mc)))
    (he : ∀ (s : Shared) (H : Hp) (C : Addr) (cl : List (Str × Addr)) (fp : List Addr), PE (X.blk s H scope (compEnvC scope cl C X.env) fp) elt (teOf Z me)) (hs : ∀ x, foldedSetIterable iter X.env x = pure x) :
    PS X (.Assign [.Name y py] (.ListComp elt [⟨tg, iter, ifs, 0⟩] scope pos) spos) (tsOf Z fun ρ S => SRes.of ρ ((mit ρ S).bind fun q S1 => (compL q.2 t mc me (wipeE ρ (own t)) q.1 [] S1).bind fun r S2 => alloc al (.lst r) S2) fun v S1 => .nxt (ρ.set j (some v)) S1) :=
  ⟨fun pins s σ H D I ⟨W, ρ, S, R, E, h⟩ => (ps_setLc hc hN hy hyl hsw hi ok hg ht he hs).run pins s σ H D I (by
    obtain ⟨v, S1, h2, h⟩ := of_nxt h
    rw [ho]
    exact lc_law hK R E h2 fun W1 x H1 x1 R1 r1 => h W1 _ H1 x1 R1 ((x1.re E).set j r1))⟩
/-- a comprehension as a value -/
theorem e_comp {elt tg iter : Expr} {ifs : List Expr} {scope : Scope} {own' : List (Str × Nat)} {t : CT} {mit : Env → Store → Res (List PV × Guard)} {mc me : Env → Store → Res PV} {al : Bool} (hK : X.K = Z.K) (hc : X.calm = true) (hN : X.N.Nodup) (hi : PI X tg iter (tiOf Z mit)) (ok : BlkOk X.N X.env.scope scope own') (ho : own'.map (·.2) = own t)
    (hg : ∀ (s : Shared) (H : Hp) (C : Addr) (cl : List (Str × Addr)) (fp : List Addr), PG (X.blk s H scope (compEnvC scope cl C X.env) fp) tg (gOf X.K t)) (ht : ∀ (s : Shared) (H : Hp) (C : Addr) (cl : List (Str × Addr)) (fp : List Addr), PTs (X.blk s H scope (compEnvC scope cl C X.env) fp) ifs (ttOf Z (tstC mc)))
    (he : ∀ (s : Shared) (H : Hp) (C : Addr) (cl : List (Str × Addr)) (fp : List Addr), PE (X.blk s H scope (compEnvC scope cl C X.env) fp) elt (teOf Z me)) (hs : ∀ x, foldedSetIterable iter X.env x = pure x) :
    PE X (.ListComp elt [⟨tg, iter, ifs, 0⟩] scope pos) (teOf Z fun ρ S => (mit ρ S).bind fun q S1 => (compL q.2 t mc me (wipeE ρ (own t)) q.1 [] S1).bind fun r S2 => alloc al (.lst r) S2) :=
  ⟨fun pins s σ H Q I ⟨W, ρ, S, v, S', R, E, h, k⟩ => (pe_lc hc hN hi ok hg ht he hs).run pins s σ H Q I (by
    rw [ho]
    exact lc_law hK R E h k)⟩
/-- e.f = value -/
theorem s_fld {x : Nat} (cl : ∀ c, Z.kn c → Cls X.K (Z.cad c)) (na : ∀ c, Z.kn c → NoAttr X.K (Z.cad c) (Z.an x)) (he : PE X e (teOf Z me)) (ho : PE X o (teOf Z mo)) (hs : swapsWith e (some (.Attribute o (Z.an x) pos')) pos.line X.env = pure false) :
    PS X (.Assign [.Attribute o (Z.an x) pos'] e pos) (tsOf Z fun ρ S => SRes.of ρ (me ρ S) fun v S1 => SRes.of ρ (mo ρ S1) fun a S2 => optS (setFld S2 a x v) ρ) :=
  ⟨fun pins s σ H D I ⟨W, ρ, S, R, E, h⟩ => (ps_fld ho he hs).run pins s σ H D I (by
    obtain ⟨v, S1, h1, h⟩ := of_nxt h
    obtain ⟨a, S2, h2, h⟩ := of_nxt h
    refine ⟨W, ρ, S, v, S1, R, E, h1, fun W1 y H1 x1 R1 r1 => ⟨W1, ρ, S1, a, S2, R1, x1.re E, h2, fun W2 z H2 x2 R2 r2 => ?_⟩⟩
    unfold optS at h
    split at h <;> try exact h.elim
    rename_i S3 h3
    unfold setFld at h3
    split at h3 <;> try contradiction
    rename_i n
    split at h3 <;> try contradiction
    rename_i c ks vs hn
    split at h3 <;> try contradiction
    rename_i hlt
    cases h3
    have hz : z = .ref (W2.ι n) := by
      cases r2 with
      | ref _ _ => rfl
      | obj h' r' => cases r'
    obtain ⟨u, g1, g2, g4⟩ := R2.st n _ hn
    clear g4
    cases g2 with
    | ins kn e1 r3 =>
      rename_i dx fs
      obtain ⟨q1, q2⟩ := fput_putF (x := x) (x2.rv r1) e1 r3
      have hl : n < S2.length := (List.getElem?_eq_some_iff.mp hn).1
      obtain ⟨R', ex⟩ := R2.put hl (RO.ins (dx := dx) kn q1 q2) trivial
      have hfl : fs.length < 1000 := by
        have : fs.length = ks.length := by
          have := congrArg List.length e1
          simpa using this
        have := of_decide_eq_true hlt
        omega
      exact ⟨W2.ι n, _, dx, fs, hz, g1, cl c kn, na c kn, hfl, h W2 σ _ ((x1.trans x2).trans ex) R' (((x1.trans x2).trans ex).re E)⟩)⟩
end
end FF
set_option Elab.async false
set_option linter.all false
set_option autoImplicit false
set_option maxRecDepth 100000
set_option maxHeartbeats 4000000
/-! SNI: the check that one's own syntax stands for the row's text. -/
namespace FF
open PySem PySem.Spec PyProof.Rows L2 TL
/-- names: the globals', the attributes' (which of these are fields) -/
structure Nm where
  gn : Nat → Str
  an : Nat → Str
  fld : Nat → Bool
  cg : Nat → Option Nat
/-- where an expression stands -/
structure SC where
  sc : Scope
  fn : Str → Bool
def nmB (x : Str) : Bool := !(x == ("__debug__" : Str)) && !(x == ("__classdict__" : Str))
def visB (sc : Scope) (x : Str) : Bool := match sc.names.lookup x with
  | some .local => true
  | some .cell => true
  | some .free => true
  | _ => false
def locB (c : SC) (x : Str) : Bool := match c.sc.names.lookup x with
  | some .local => true
  | some .cell => c.fn x
  | _ => false
def gloB (sc : Scope) (x : Str) : Bool := match sc.names.lookup x with
  | some .globalImplicit => nmB x
  | _ => false
def isSup : Expr → Bool
  | .Call (.Name id _) [] [] _ => id == ("super" : Str)
  | _ => false
def conB : PV → Const → Bool
  | .int i, .int j => i == j
  | .str l, .str s => l == s.cps.toList
  | .bl b, .bool c => b == c
  | .non, .none => true
  | _, _ => false
def bnm : BFn → Option String
  | .len => some "len"
  | .abs => some "abs"
  | .max2 => some "max"
  | .min2 => some "min"
  | .all => some "all"
  | .any => some "any"
  | .sum => some "sum"
  | .tuple => some "tuple"
  | .list => some "list"
  | .str => some "str"
  | .int => some "int"
  | .dict => some "dict"
  | _ => none
def mnm : BMt → Option String
  | .append => some "append"
  | .extend => some "extend"
  | .pop => some "pop"
  | .clear => some "clear"
  | .reverse => some "reverse"
  | .join => some "join"
  | .upper => some "upper"
  | .lower => some "lower"
  | _ => none
/-- how many arguments -/
def mar : BMt → Nat
  | .append => 1
  | .extend => 1
  | .join => 1
  | _ => 0
def strEq (x : Str) (s : String) : Bool := x == (s : Str)
def tyB (M : Nm) (sc : Scope) : TyR → Expr → Bool
  | .bty n, .Name x _ => x == (n : Str) && gloB sc x && (n == "bool" || n == "int" || n == "str" || n == "tuple" || n == "list" || n == "dict")
  | .cls c, .Name x _ => (match M.cg c with
    | some g => x == M.gn g && gloB sc x
    | none => false)
  | _, _ => false
def tysB (M : Nm) (sc : Scope) : List TyR → List Expr → Bool
  | [], [] => true
  | t :: ts, e :: es => tyB M sc t e && tysB M sc ts es
  | _, _ => false
/-- a target of a loop or of a comprehension -/
def nmsB (N : List Str) (c : SC) : List Nat → List Expr → Bool
  | [], [] => true
  | i :: is, .Name x _ :: es => N[i]? == some x && locB c x && nmsB N c is es
  | _, _ => false
def ctB (N : List Str) (c : SC) : CT → Expr → Bool
  | .one i, .Name x _ => N[i]? == some x && locB c x
  | .many is, .Tuple es _ _ => nmsB N c is es
  | _, _ => false
def isTup : Expr → Bool
  | .Tuple _ _ _ => true
  | _ => false
def lineB (a b : Pos) : Bool := a.endLine == b.line
/-- the block of a comprehension within c -/
def blkS (c : SC) (scope : Scope) : SC := ⟨relS scope c.sc, fun x => scope.names.lookup x == some .cell⟩
def ownOf (N : List Str) (is : List Nat) : List (Str × Nat) := is.map fun i => (N.getD i Str.empty, i)
section
variable (M : Nm) (N : List Str)
mutual
def ckE (c : SC) : E → Expr → Bool
  | .nev, _ => false
  | .var i, e => (match e with
    | .Name x _ => N[i]? == some x && visB c.sc x && nmB x
    | _ => false)
  | .con v, e => (match e with
    | .Constant k _ _ => conB v k
    | _ => false)
  | .glo g, e => (match e with
    | .Name x _ => x == M.gn g && gloB c.sc x
    | _ => false)
  | .tup es, e => (match e with
    | .Tuple xs _ _ => ckEs c es xs
    | _ => false)
  | .lst _ es, e => (match e with
    | .List xs _ => ckEs c es xs
    | _ => false)
  | .dct _ es, e => (match es, e with
    | [], .Dict [] [] _ => true
    | _, _ => false)
  | .bin o a b, e => (match e with
    | .BinOp x op y _ => op == bop o && ckE c a x && ckE c b y
    | _ => false)
  | .neg a, e => (match e with
    | .UnaryOp .USub x _ => ckE c a x
    | _ => false)
  | .not a, e => (match e with
    | .UnaryOp .Not x _ => ckE c a x
    | _ => false)
  | .and es, e => (match e with
    | .BoolOp .And xs _ => !xs.isEmpty && ckEs c es xs
    | _ => false)
  | .or es, e => (match e with
    | .BoolOp .Or xs _ => !xs.isEmpty && ckEs c es xs
    | _ => false)
  | .cmp o a b, e => (match e with
    | .Compare x [op] [y] _ => op == cop o && ckE c a x && ckE c b y
    | _ => false)
  | .chain o p a b d, e => (match e with
    | .Compare x [op, op'] [y, z] _ => op == cop o && op' == cop p && ckE c a x && ckE c b y && ckE c d z
    | _ => false)
  | .ife t a b, e => (match e with
    | .IfExp x y z _ => ckE c t x && ckE c a y && ckE c b z
    | _ => false)
  | .call _ g es, e => (match e with
    | .Call (.Name x _) xs [] _ => x == M.gn g && gloB c.sc x && ckEs c es xs
    | _ => false)
  | .blt _ b es, e => (match e with
    | .Call (.Name x _) ys [] _ => (match bnm b with
      | some n => x == (n : Str)
      | none => false) && gloB c.sc x && !ys.isEmpty && ckEs c es ys
    | _ => false)
  | .isi a ts, e => (match e with
    | .Call (.Name x _) [y, t] [] _ => strEq x "isinstance" && gloB c.sc x && ckE c a y && (match t with
      | .Tuple zs _ _ => tysB M c.sc ts zs && decide (ts.length ≤ 100)
      | t => (match ts with
        | [u] => tyB M c.sc u t
        | _ => false))
    | _ => false)
  | .meth _ o x es, e => (match e with
    | .Call (.Attribute b n ap) xs [] pos => n == M.an x && lineB ap pos && !isSup b && decide (xs.length < 30) && ckE c o b && ckEs c es xs
    | _ => false)
  | .bm k o es, e => (match e with
    | .Call (.Attribute b n ap) xs [] pos => (match mnm k with
      | some m => n == (m : Str)
      | none => false) && decide (xs.length = mar k) && lineB ap pos && !isSup b && ckE c o b && ckEs c es xs
    | _ => false)
  | .fld o x, e => (match e with
    | .Attribute b n _ => n == M.an x && M.fld x && !isSup b && ckE c o b
    | _ => false)
  | .idx o i, e => (match e with
    | .Subscript b ix _ => ckE c o b && ckE c i ix
    | _ => false)
  | .slc _ lo hi o a b, e => (match e with
    | .Subscript x (.Slice l h none _) _ => ckE c o x && (match lo, l with
      | false, none => true
      | true, some y => ckE c a y
      | _, _ => false) && (match hi, h with
      | false, none => true
      | true, some y => ckE c b y
      | _, _ => false)
    | _ => false)
  | .rev _ o, e => (match e with
    | .Subscript x (.Slice none none (some (.UnaryOp .USub (.Constant (.int 1) _ _) _)) _) _ => ckE c o x
    | _ => false)
  | .comp _ t k es cs e', e => (match e with
    | .ListComp elt [⟨tg, iter, ifs, 0⟩] scope _ =>
      ckI c k es tg iter && blkC N c.sc scope (ownOf N (own t)) && ctB N (blkS c scope) t tg && decide (cs.length ≤ 1) && ckEs (blkS c scope) cs ifs && ckE (blkS c scope) e' elt
    | _ => false)
  | .lsrc _ _ _, _ => false
  | .maxd a k, e => (match e with
    | .Call (.Name x _) [y] [⟨some n, .Constant (.int j) _ _, _⟩] _ => strEq x "max" && strEq n "default" && gloB c.sc x && j == k && ckE c a y
    | _ => false)
  | .cat a b, e => (match e with
    | .BinOp x op y _ => op == .Add && ckE c a x && ckE c b y
    | _ => false)
  | .fmt a, e => (match e with
    | .FormattedValue x (-1) none _ => ckE c a x
    | _ => false)
  | .fstr es, e => (match e with
    | .JoinedStr xs _ => decide (2 ≤ xs.length) && ckEs c es xs
    | _ => false)
def ckEs (c : SC) : List E → List Expr → Bool
  | [], [] => true
  | e :: es, x :: xs => ckE c e x && ckEs c es xs
  | _, _ => false
/-- what is walked -/
def ckI (c : SC) : SrcK → List E → Expr → Expr → Bool
  | .val, [e], _, x => ckE c e x
  | .range1, [e], _, it => (match it with
    | .Call (.Name x _) [y] [] _ => strEq x "range" && gloB c.sc x && ckE c e y
    | _ => false)
  | .range2, [e, f], _, it => (match it with
    | .Call (.Name x _) [y, z] [] _ => strEq x "range" && gloB c.sc x && ckE c e y && ckE c f z
    | _ => false)
  | .enum, [e], tg, it => (match it with
    | .Call (.Name x _) [y] [] _ => strEq x "enumerate" && gloB c.sc x && isTup tg && ckE c e y
    | _ => false)
  | .zip, [e, f], tg, it => (match it with
    | .Call (.Name x _) [y, z] [] _ => strEq x "zip" && gloB c.sc x && isTup tg && ckE c e y && ckE c f z
    | _ => false)
  | .reversed, [e], _, it => (match it with
    | .Call (.Name x _) [y] [] _ => strEq x "reversed" && gloB c.sc x && ckE c e y
    | _ => false)
  | _, _, _, _ => false
end
end
end FF
set_option Elab.async false
set_option linter.all false
set_option autoImplicit false
set_option maxRecDepth 100000
set_option maxHeartbeats 4000000
/-! SNJ: what a text's check gives: expressions. -/
namespace FF
open PySem PySem.Spec PyProof.Rows L2 TL
/-- the built-in names that no global of the text takes -/
def bns : List String := ["len", "abs", "max", "min", "all", "any", "sum", "tuple", "list", "str", "int", "isinstance", "range", "enumerate", "zip", "reversed", "bool", "dict"]
/-- the text around: what the walk knows of it -/
structure PF (X : Cx) (Z : Sit) (M : Nm) (P : Prog) (Γ : Env2) (k : Nat) : Prop where
  hK : X.K = Z.K
  hc : X.calm = true
  xe : X.xe = fun _ _ => False
  room : Room k X.A
  an : ∀ x, M.an x = Z.an x
  gfn : ∀ g f, Γ.glob g = some (.fn f) → (∃ D, P.funs[f]? = some D) ∧ X.mg (M.gn g) = some (.ref (Z.fad f)) ∧ PySem.W.keepIn X.K (.ref (Z.fad f)) = true ∧ Z.ad g = Z.fad f
  call : ∀ f D, P.funs[f]? = some D → CallOk X Z k (Z.fad f) D.np D.dfl (Γ.call f) ∧ Fills D.np D.dfl (Γ.call f)
  init : ∀ f D, P.funs[f]? = some D → (∃ j, j + 1 ≤ k ∧ CallOk X Z j (Z.fad f) D.np D.dfl (Γ.init f) ∧ Fills D.np D.dfl (Γ.init f)) ∨ ∀ vs S, Γ.init f vs S = .bad
  gcl : ∀ g c, Γ.glob g = some (.cls c) → X.mg (M.gn g) = some (.ref (Z.cad c)) ∧ Z.ad g = Z.cad c
  mkr : ∀ c f, Γ.ini c = some (some f) → Z.kn c ∧ Mk X.K (Z.cad c) (Z.fad f) ∧ ∃ D, P.funs[f]? = some D
  mko : ∀ c, Γ.ini c = some none → Z.kn c ∧ MkO X.K (Z.cad c)
  cgl : ∀ c g, M.cg c = some g → Γ.glob g = some (.cls c)
  gco : ∀ g v, Γ.glob g = some (.con v) → ∃ u y, X.mg (M.gn g) = some u ∧ RelV y u ∧ ∀ F ι N, RV Z F ι N v y
  me : ∀ c x f, Z.kn c → Γ.meth c x = some f → Meth X.K (Z.cad c) (Z.an x) (Z.fad f) ∧ ∃ D, P.funs[f]? = some D
  cl : ∀ c, Z.kn c → Cls X.K (Z.cad c)
  na : ∀ c x, Z.kn c → M.fld x = true → NoAttr X.K (Z.cad c) (Z.an x)
  kit : KitOk Z Γ.ini Γ.anc
  bl : ∀ s ∈ bns, X.mg (s : Str) = none
/-- a context of the text -/
structure XOk (X : Cx) (Z : Sit) (M : Nm) (N : List Str) (P : Prog) (Γ : Env2) (k : Nat) (c : SC) : Prop where
  pf : PF X Z M P Γ k
  hN : X.N = N
  nd : N.Nodup
  hs : X.env.scope = c.sc
  hf : X.fn = c.fn
section
variable {X : Cx} {Z : Sit} {M : Nm} {N : List Str} {P : Prog} {Γ : Env2} {k : Nat} {c : SC}
/-- within a comprehension -/
theorem XOk.blk (o : XOk X Z M N P Γ k c) (s : Shared) (H : Hp) (scope : Scope) (C : Addr) (cl : List (Str × Addr)) (fp : List Addr) : XOk (X.blk s H scope (compEnvC scope cl C X.env) fp) Z M N P Γ k (blkS c scope) := by
  obtain ⟨⟨a1, a2, a3, a4, a5, a6, a7, a8, a9, a10, a11, a12, a13, a14, a15, a16, a17, a18⟩, b1, b2, b3, b4⟩ := o
  refine ⟨⟨a1, a2, rfl, a4, a5, a6, ?_, ?_, a9, a10, a11, a12, a13, a14, a15, a16, a17, a18⟩, b1, b2, ?_, rfl⟩
  · intro f D h
    obtain ⟨⟨q⟩, q2⟩ := a7 f D h
    exact ⟨⟨q⟩, q2⟩
  · intro f D h
    rcases a8 f D h with ⟨j, q1, ⟨q⟩, q2⟩ | q
    · exact .inl ⟨j, q1, ⟨q⟩, q2⟩
    · exact .inr q
  · show relS scope X.env.scope = relS scope c.sc
    rw [b3]
theorem XOk.glo (o : XOk X Z M N P Γ k c) {x : Str} (h : gloB c.sc x = true) : Gl X x ∧ (x == ("__debug__" : Str)) = false := by
  unfold gloB at h
  split at h <;> try contradiction
  rename_i hl
  unfold nmB at h
  simp only [Bool.and_eq_true, Bool.not_eq_true'] at h
  refine ⟨?_, h.1⟩
  show X.env.scope.names.lookup x = some .globalImplicit
  rw [o.hs]
  exact hl
theorem XOk.vis (o : XOk X Z M N P Γ k c) {x : Str} (h : visB c.sc x = true) : Vis X.env.scope x := by
  unfold visB at h
  unfold Vis
  rw [o.hs]
  split at h <;> simp_all
theorem XOk.loc (o : XOk X Z M N P Γ k c) {x : Str} (h : locB c x = true) : L2.Loc X.env.scope x ∧ (X.fn x = true ∨ X.env.scope.names.lookup x = some .local) := by
  unfold locB at h
  unfold L2.Loc
  rw [o.hs, o.hf]
  split at h <;> simp_all
def nStar (x : Expr) : Prop := ∀ a b, x ≠ .Starred a b
def AllP (X : Cx) (Z : Sit) (Γ : Env2) : List E → List Expr → Prop
  | [], [] => True
  | e :: es, x :: xs => (nStar x ∧ PE X x (teOf Z (denE Γ e)) ∧ PT X x (ttOf Z (tst (denE Γ e)))) ∧ AllP X Z Γ es xs
  | _, _ => False
theorem pe_of {X : Cx} {Z : Sit} {e : Expr} {m m' : Env → Store → Res PV} (h : PE X e (teOf Z m)) (q : ∀ ρ S, m' ρ S = m ρ S) : PE X e (teOf Z m') := by
  have : m' = m := funext fun ρ => funext fun S => q ρ S
  rw [this]
  exact h
theorem AllP.star {env : PySem.Env} : ∀ {es : List E} {xs : List Expr}, AllP X Z Γ es xs → ∀ pos, (backTo pos (starEach xs env)).any (·.1) = false ∧ ((backTo pos (starEach xs env)).all fun x => !x.1) = true
  | [], [], _, _ => ⟨rfl, rfl⟩
  | e :: es, x :: xs, h, pos => by
    obtain ⟨h1, h2⟩ := AllP.star (env := env) h.2 pos
    rw [notStar_starEach h.1.1]
    exact ⟨by show (false || _) = false; rw [Bool.false_or]; exact h1, by show (true && _) = true; rw [Bool.true_and]; exact h2⟩
  | [], _ :: _, h, _ => h.elim
  | _ :: _, [], h, _ => h.elim
theorem AllP.pa : ∀ {es : List E} {xs : List Expr}, AllP X Z Γ es xs → PA X xs (taOf Z (denEs Γ es))
  | [], [], _ => a_nil
  | e :: es, x :: xs, h => a_cons h.1.2.1 (AllP.pa h.2) (notStar_starEach h.1.1)
  | [], _ :: _, h => h.elim
  | _ :: _, [], h => h.elim
theorem AllP.and_ (hK : X.K = Z.K) {pos : Pos} : ∀ {es : List E} {xs : List Expr} {e : E} {x : Expr}, AllP X Z Γ (e :: es) (x :: xs) → PE X (.BoolOp .And (x :: xs) pos) (teOf Z (denAnd Γ (e :: es))) ∧ PW X (.BoolOp .And (x :: xs) pos) (ttOf Z (tst (denAnd Γ (e :: es))))
  | [], [], e, x, h => ⟨e_one h.1.2.1, w_one_and h.1.2.2⟩
  | f :: es, y :: xs, e, x, h => by
    obtain ⟨h1, h2⟩ := AllP.and_ hK (pos := pos) h.2
    exact ⟨e_and hK h.1.2.1 h1, w_and h.1.2.2 h2⟩
  | [], _ :: _, _, _, h => h.2.elim
  | _ :: _, [], _, _, h => h.2.elim
theorem AllP.or_ (hK : X.K = Z.K) {pos : Pos} : ∀ {es : List E} {xs : List Expr} {e : E} {x : Expr}, AllP X Z Γ (e :: es) (x :: xs) → PE X (.BoolOp .Or (x :: xs) pos) (teOf Z (denOr Γ (e :: es))) ∧ PW X (.BoolOp .Or (x :: xs) pos) (ttOf Z (tst (denOr Γ (e :: es))))
  | [], [], e, x, h => ⟨e_one h.1.2.1, w_one_or h.1.2.2⟩
  | f :: es, y :: xs, e, x, h => by
    obtain ⟨h1, h2⟩ := AllP.or_ hK (pos := pos) h.2
    exact ⟨e_or hK h.1.2.1 h1, w_or h.1.2.2 h2⟩
  | [], _ :: _, _, _, h => h.2.elim
  | _ :: _, [], _, _, h => h.2.elim
/-- a value's rule by its name -/
def bvl : BFn → Value
  | .len => .builtin "len"
  | .abs => .builtin "abs"
  | .max2 => .builtin "max"
  | .min2 => .builtin "min"
  | .all => .builtin "all"
  | .any => .builtin "any"
  | .sum => .builtin "sum"
  | .tuple => .type "tuple"
  | .list => .type "list"
  | .str => .type "str"
  | .int => .type "int"
  | .dict => .type "dict"
  | _ => .none
theorem fn_any' (hK : X.K = Z.K) (hc : X.calm = true) (b : BFn) {n : String} (h : bnm b = some n) : Fn X Z (bvl b) (fun S ps => bfn S b ps) ∧ isBlt (bvl b) ∧ bootBuiltins (n : Str) = some (bvl b) ∧ (n : Str) ≠ "__name__" ∧ n ∈ bns := by
  cases b <;> cases h
  · exact ⟨fn_len hK, .inl ⟨_, rfl⟩, boot_len, by decide +kernel, by decide +kernel⟩
  · exact ⟨fn_abs, .inl ⟨_, rfl⟩, boot_abs, by decide +kernel, by decide +kernel⟩
  · exact ⟨fn_max2 hc, .inl ⟨_, rfl⟩, boot_max, by decide +kernel, by decide +kernel⟩
  · exact ⟨fn_min2 hc, .inl ⟨_, rfl⟩, boot_min, by decide +kernel, by decide +kernel⟩
  · exact ⟨fn_all hc, .inl ⟨_, rfl⟩, by decide +kernel, by decide +kernel, by decide +kernel⟩
  · exact ⟨fn_any hc, .inl ⟨_, rfl⟩, by decide +kernel, by decide +kernel, by decide +kernel⟩
  · exact ⟨fn_sum hc, .inl ⟨_, rfl⟩, by decide +kernel, by decide +kernel, by decide +kernel⟩
  · exact ⟨fn_tuple hK, .inr ⟨_, rfl⟩, boot_tuple, by decide +kernel, by decide +kernel⟩
  · exact ⟨fn_list hK, .inr ⟨_, rfl⟩, boot_list, by decide +kernel, by decide +kernel⟩
  · exact ⟨fn_dict hK hc, .inr ⟨_, rfl⟩, boot_dict, by decide +kernel, by decide +kernel⟩
  · exact ⟨fn_str, .inr ⟨_, rfl⟩, boot_str, by decide +kernel, by decide +kernel⟩
  · exact ⟨fn_int, .inr ⟨_, rfl⟩, boot_int, by decide +kernel, by decide +kernel⟩
/-- a class of isinstance, written -/
theorem ty_ok (o : XOk X Z M N P Γ k c) {t : TyR} {e : Expr} (h : tyB M c.sc t e = true) : PE X e (tC (clV Z t)) ∧ nStar e := by
  cases t with
  | cls g =>
    cases e <;> try cases h
    rename_i x p
    replace h : (match M.cg g with
      | some g => x == M.gn g && gloB c.sc x
      | none => false) = true := h
    split at h <;> try contradiction
    rename_i gg hg
    obtain ⟨h1, h2⟩ := Bool.and_eq_true_iff.mp h
    have e1 : x = M.gn gg := eq_of_beq h1
    subst e1
    obtain ⟨g1, g2⟩ := o.glo h2
    exact ⟨pe_glob g1 (o.pf.gcl gg g (o.pf.cgl g gg hg)).1 rfl g2, fun a b z => nomatch z⟩
  | bty n =>
    cases e <;> try cases h
    rename_i x p
    have h : (x == (n : Str) && gloB c.sc x && (n == "bool" || n == "int" || n == "str" || n == "tuple" || n == "list" || n == "dict")) = true := h
    simp only [Bool.and_eq_true] at h
    obtain ⟨⟨h1, h2⟩, h3⟩ := h
    have e1 : x = (n : Str) := eq_of_beq h1
    subst e1
    obtain ⟨g1, g2⟩ := o.glo h2
    refine ⟨?_, fun a b z => nomatch z⟩
    simp only [Bool.or_eq_true, beq_iff_eq] at h3
    rcases h3 with ((((h3 | h3) | h3) | h3) | h3) | h3 <;> subst h3
    · exact pe_bltn g1 (o.pf.bl _ (by decide +kernel)) boot_bool rfl (by decide +kernel) g2
    · exact pe_bltn g1 (o.pf.bl _ (by decide +kernel)) boot_int rfl (by decide +kernel) g2
    · exact pe_bltn g1 (o.pf.bl _ (by decide +kernel)) boot_str rfl (by decide +kernel) g2
    · exact pe_bltn g1 (o.pf.bl _ (by decide +kernel)) boot_tuple rfl (by decide +kernel) g2
    · exact pe_bltn g1 (o.pf.bl _ (by decide +kernel)) boot_list rfl (by decide +kernel) g2
    · exact pe_bltn g1 (o.pf.bl _ (by decide +kernel)) boot_dict rfl (by decide +kernel) g2
theorem tys_ok (o : XOk X Z M N P Γ k c) : ∀ {ts : List TyR} {es : List Expr}, tysB M c.sc ts es = true → Paired (fun c t => PE X c (tC (clV Z t)) ∧ ∀ es, starEach (c :: es) X.env = (false, eval c X.env) :: starEach es X.env) es ts
  | [], [], _ => .nil
  | t :: ts, e :: es, h => by
    have h : (tyB M c.sc t e && tysB M c.sc ts es) = true := h
    rw [Bool.and_eq_true] at h
    obtain ⟨h1, h2⟩ := ty_ok o h.1
    exact .cons ⟨h1, fun es => notStar_starEach h2⟩ (tys_ok o h.2)
  | [], _ :: _, h => by cases h
  | _ :: _, [], h => by cases h
theorem sup_ok {b : Expr} {f : Str} {env : PySem.Env} (h : isSup b = false) : attributeBase b f env (eval b env) = eval b env := by
  cases b with
  | Call g args kws pos =>
    cases g <;> try rfl
    rename_i id p
    cases args <;> try rfl
    cases kws <;> try rfl
    have h1 : (id == ("super" : Str)) = false := h
    unfold attributeBase
    simp only [bne, h1, Bool.not_false, Bool.true_or, if_true]
  | _ => rfl
/-- methods of built-in types by their names -/
theorem plainIx_ok {c : SC} {i : E} {ix : Expr} (h : ckE M N c i ix = true) : PlainIx ix := by
  cases ix with
  | Slice a b d p =>
    exfalso
    cases i <;> first | cases h | (rename_i es; cases es <;> cases h)
  | _ => exact fun _ _ => rfl
theorem nStar_ok {c : SC} {i : E} {x : Expr} (h : ckE M N c i x = true) : nStar x := fun a b z => by
  subst z
  cases i <;> first | cases h | (rename_i es; cases es <;> cases h)
theorem nSet_ok {c : SC} {i : E} {x : Expr} (h : ckE M N c i x = true) : ∀ a b d, x ≠ .Set a b d := fun a b d z => by
  subst z
  cases i <;> first | cases h | (rename_i es; cases es <;> cases h)
theorem marks_ok {c : SC} {i : E} {x : Expr} {op : CmpOp} (h : ckE M N c i x = true) : behindInMarks op x = false := by
  cases x with
  | Set a b d => exact absurd rfl (nSet_ok h a b d)
  | _ => rfl
theorem fold_ok {c : SC} {i : E} {x : Expr} {env : PySem.Env} (h : ckE M N c i x = true) : ∀ v, foldedSetIterable x env v = pure v := by
  cases x with
  | Set a b d => exact absurd rfl (nSet_ok h a b d)
  | _ => exact fun _ => rfl
theorem bool2 {a b : Bool} (h : (a && b) = true) : a = true ∧ b = true := Bool.and_eq_true_iff.mp h
theorem nms_ok (o : XOk X Z M N P Γ k c) : ∀ {is : List Nat} {es : List Expr}, nmsB N c is es = true → PGs X es (gNames is) ∧ (assignEach es X.env).length = is.length ∧ (assignEach es X.env).findIdx? (·.1) = none ∧ es.length = is.length
  | [], [], _ => ⟨pgs_nil, rfl, rfl, rfl⟩
  | i :: is, e :: es, h => by
    cases e <;> try cases h
    rename_i x p
    have h : (N[i]? == some x && locB c x && nmsB N c is es) = true := h
    obtain ⟨h1, h2⟩ := bool2 h
    obtain ⟨h3, h4⟩ := bool2 h1
    obtain ⟨g1, g2, g3, g4⟩ := nms_ok o h2
    obtain ⟨l1, l2⟩ := o.loc h4
    refine ⟨pgs_cons (pg_name (by rw [o.hN]; exact o.nd) (by rw [o.hN]; exact eq_of_beq h3) l1 l2) g1 rfl, ?_, ?_, by rw [List.length_cons, List.length_cons, g4]⟩
    · show (_ :: assignEach es X.env).length = _
      rw [List.length_cons, List.length_cons, g2]
    · show List.findIdx? _ ((false, _) :: assignEach es X.env) = none
      rw [List.findIdx?_cons]
      simp only [Bool.false_eq_true, if_false, g3]
      rfl
  | [], _ :: _, h => by cases h
  | _ :: _, [], h => by cases h
theorem ct_ok (o : XOk X Z M N P Γ k c) {t : CT} {e : Expr} (h : ctB N c t e = true) : PG X e (gOf X.K t) := by
  cases t with
  | one i =>
    cases e <;> try cases h
    rename_i x p
    obtain ⟨h3, h4⟩ := bool2 (show (N[i]? == some x && locB c x) = true from h)
    obtain ⟨l1, l2⟩ := o.loc h4
    exact pg_name (by rw [o.hN]; exact o.nd) (by rw [o.hN]; exact eq_of_beq h3) l1 l2
  | many is =>
    cases e <;> try cases h
    rename_i es k p
    obtain ⟨g1, g2, g3, g4⟩ := nms_ok o (show nmsB N c is es = true from h)
    exact pg_seq o.pf.hc g1 g2 g3
theorem tuples_of {e : Expr} (h : isTup e = true) : ∃ a b p, e = .Tuple a b p := by
  cases e <;> try cases h
  exact ⟨_, _, _, rfl⟩
theorem own_ok {is : List Nat} : (ownOf N is).map (·.2) = is := by
  unfold ownOf
  rw [List.map_map]
  exact List.map_id is
theorem pi_of {X : Cx} {Z : Sit} {tg e : Expr} {m m' : Env → Store → Res (List PV × Guard)} (h : PI X tg e (tiOf Z m)) (q : ∀ ρ S, m' ρ S = m ρ S) : PI X tg e (tiOf Z m') := by
  have : m' = m := funext fun ρ => funext fun S => q ρ S
  rw [this]
  exact h
/-- the sources' law, the walked things served -/
def mSrc (Γ : Env2) (k : SrcK) (es : List E) : Env → Store → Res (List PV × Guard) := fun ρ S => (denEs Γ es ρ S).bind fun vs S1 => opt S1 (walk S1 k vs)
theorem src1 {Γ : Env2} {e : E} {ρ : Env} {S : Store} {β : Type} {f : List PV → Store → Res β} : (denEs Γ [e] ρ S).bind f = (denE Γ e ρ S).bind fun v S1 => f [v] S1 := by
  show ((denE Γ e ρ S).bind fun v S1 => (Res.ok [] S1).bind fun vs S2 => .ok (v :: vs) S2).bind f = _
  cases denE Γ e ρ S <;> rfl
section
variable (o : XOk X Z M N P Γ k c)
include o
theorem src_val {tg x : Expr} {e : E} (h : PE X x (teOf Z (denE Γ e))) : PI X tg x (tiOf Z (mSrc Γ .val [e])) := pi_of (i_val o.pf.hK h) fun ρ S => src1
theorem src_rev {tg x : Expr} {e : E} {s : Str} {p pos : Pos} (hs : nStar x) (h : PE X x (teOf Z (denE Γ e))) (he : strEq s "reversed" = true) (hg : gloB c.sc s = true) : PI X tg (.Call (.Name s p) [x] [] pos) (tiOf Z (mSrc Γ .reversed [e])) := by
  have e1 : s = ("reversed" : Str) := eq_of_beq he
  subst e1
  exact pi_of (i_rev o.pf.hK (o.glo hg).1 (o.pf.bl _ (by decide +kernel)) h (notStar_starEach hs)) fun ρ S => src1
theorem src_range1 {tg x : Expr} {e : E} {s : Str} {p pos : Pos} (hs : AllP X Z Γ [e] [x]) (he : strEq s "range" = true) (hg : gloB c.sc s = true) : PI X tg (.Call (.Name s p) [x] [] pos) (tiOf Z (mSrc Γ .range1 [e])) := by
  have e1 : s = ("range" : Str) := eq_of_beq he
  subst e1
  exact i_range1 (o.glo hg).1 (o.pf.bl _ (by decide +kernel)) hs.pa (notStar_starEach hs.1.1)
theorem src_range2 {tg x y : Expr} {e f : E} {s : Str} {p pos : Pos} (hs : AllP X Z Γ [e, f] [x, y]) (he : strEq s "range" = true) (hg : gloB c.sc s = true) : PI X tg (.Call (.Name s p) [x, y] [] pos) (tiOf Z (mSrc Γ .range2 [e, f])) := by
  have e1 : s = ("range" : Str) := eq_of_beq he
  subst e1
  have s2 : starEach [y] X.env = [(false, eval y X.env)] := notStar_starEach hs.2.1.1
  exact i_range2 (o.glo hg).1 (o.pf.bl _ (by decide +kernel)) hs.pa (by rw [notStar_starEach hs.1.1, s2]) s2
theorem src_enum {tg x : Expr} {e : E} {s : Str} {p pos : Pos} (ht : isTup tg = true) (hs : AllP X Z Γ [e] [x]) (he : strEq s "enumerate" = true) (hg : gloB c.sc s = true) : PI X tg (.Call (.Name s p) [x] [] pos) (tiOf Z (mSrc Γ .enum [e])) := by
  have e1 : s = ("enumerate" : Str) := eq_of_beq he
  subst e1
  obtain ⟨_, _, _, rfl⟩ := tuples_of ht
  exact i_enum o.pf.hK (o.glo hg).1 (o.pf.bl _ (by decide +kernel)) hs.pa (notStar_starEach hs.1.1)
theorem src_zip {tg x y : Expr} {e f : E} {s : Str} {p pos : Pos} (ht : isTup tg = true) (hs : AllP X Z Γ [e, f] [x, y]) (he : strEq s "zip" = true) (hg : gloB c.sc s = true) : PI X tg (.Call (.Name s p) [x, y] [] pos) (tiOf Z (mSrc Γ .zip [e, f])) := by
  have e1 : s = ("zip" : Str) := eq_of_beq he
  subst e1
  obtain ⟨_, _, _, rfl⟩ := tuples_of ht
  exact i_zip o.pf.hK (o.glo hg).1 (o.pf.bl _ (by decide +kernel)) hs.pa (notStar_starEach hs.1.1) (AllP.star (env := X.env) (es := [f]) (xs := [y]) hs.2 pos).1
end
theorem k_list {b : BMt} {W : Wd} {S : Store} {H : Hp} {q : PV} {x : V} (hb : b = .append ∨ b = .pop ∨ b = .clear ∨ b = .reverse ∨ b = .extend) (R : RH Z W S H) (r : RV Z W.F W.ι S.length q x) (h : bmK S b q = true) : tyV X.K "list" x H := by
  refine ty_list R r ?_
  have h : bmK.isLst (view S q) = true := by
    rcases hb with rfl | rfl | rfl | rfl | rfl <;> exact h
  cases ev : view S q with
  | lst l => exact ⟨l, rfl⟩
  | _ => rw [ev] at h; cases h
theorem k_case {b : BMt} {W : Wd} {S : Store} {H : Hp} {q : PV} {x : V} (hb : b = .upper ∨ b = .lower) (R : RH Z W S H) (r : RV Z W.F W.ι S.length q x) (h : bmK S b q = true) : tyV X.K "str" x H := by
  refine ty_str R r ?_
  rcases hb with rfl | rfl <;>
  · unfold bmK at h
    dsimp only at h
    split at h <;> try contradiction
    exact ⟨_, rfl⟩
theorem k_str {W : Wd} {S : Store} {H : Hp} {q : PV} {x : V} (R : RH Z W S H) (r : RV Z W.F W.ι S.length q x) (h : bmK S .join q = true) : tyV X.K "str" x H := by
  refine ty_str R r ?_
  unfold bmK at h
  dsimp only at h
  split at h <;> try contradiction
  exact ⟨_, rfl⟩
/-- a method of a built-in type -/
theorem bm_ok (hK : X.K = Z.K) {b : BMt} {m : String} {o : E} {es : List E} {ob : Expr} {xs : List Expr} {ap pos : Pos} (hm : mnm b = some m) (hl : xs.length = mar b) (hb : attributeBase ob (m : Str) X.env (eval ob X.env) = eval ob X.env) (hline : (ap.endLine == pos.line) = true)
    (ho : PE X ob (teOf Z (denE Γ o))) (ha : AllP X Z Γ es xs) : PE X (.Call (.Attribute ob (m : Str) ap) xs [] pos) (teOf Z (denE Γ (.bm b o es))) := by
  cases b <;> cases hm
  · match es, xs, hl, ha with
    | e :: es, x :: xs, hl, ha =>
      have hx : xs = [] := List.eq_nil_of_length_eq_zero (by simpa [mar] using hl)
      subst hx
      obtain ⟨s1, _⟩ := AllP.star (env := X.env) ha.2 pos
      exact e_bm (fun S v => bmK S .append v) mt_append' (k_list (.inl rfl)) PySem.F.plainAttrs_list PySem.F.slot_list_append PySem.F.type_list_append ho ha.pa hb (notStar_starEach ha.1.1) s1 (AllP.star (env := X.env) ha pos).2 (by simp) hline
    | [], x :: xs, _, ha => exact ha.elim
  · match es, xs, hl, ha with
    | e :: es, x :: xs, hl, ha =>
      have hx : xs = [] := List.eq_nil_of_length_eq_zero (by simpa [mar] using hl)
      subst hx
      obtain ⟨s1, _⟩ := AllP.star (env := X.env) ha.2 pos
      exact e_bm (fun S v => bmK S .extend v) mt_extend' (k_list (.inr (.inr (.inr (.inr rfl))))) PySem.F.plainAttrs_list PySem.F.slot_list_extend PySem.F.type_list_extend ho ha.pa hb (notStar_starEach ha.1.1) s1 (AllP.star (env := X.env) ha pos).2 (by simp) hline
    | [], x :: xs, _, ha => exact ha.elim
  · match es, xs, hl, ha with
    | [], [], hl, ha => exact e_bm0 (fun S v => bmK S .pop v) mt_pop' (k_list (.inr (.inl rfl))) PySem.F.plainAttrs_list PySem.F.slot_list_pop PySem.F.type_list_pop ho hb hline
    | _ :: _, [], _, ha => exact ha.elim
  · match es, xs, hl, ha with
    | [], [], hl, ha => exact e_bm0 (fun S v => bmK S .clear v) mt_clear' (k_list (.inr (.inr (.inl rfl)))) PySem.F.plainAttrs_list PySem.F.slot_list_clear PySem.F.type_list_clear ho hb hline
    | _ :: _, [], _, ha => exact ha.elim
  · match es, xs, hl, ha with
    | [], [], hl, ha => exact e_bm0 (fun S v => bmK S .reverse v) mt_reverse' (k_list (.inr (.inr (.inr (.inl rfl))))) PySem.F.plainAttrs_list PySem.F.slot_list_reverse PySem.F.type_list_reverse ho hb hline
    | _ :: _, [], _, ha => exact ha.elim
  · match es, xs, hl, ha with
    | e :: es, x :: xs, hl, ha =>
      have hx : xs = [] := List.eq_nil_of_length_eq_zero (by simpa [mar] using hl)
      subst hx
      obtain ⟨s1, _⟩ := AllP.star (env := X.env) ha.2 pos
      exact e_bm (fun S v => bmK S .join v) (mt_join' hK) k_str PySem.F.plainAttrs_str PySem.F.slot_str_join PySem.F.type_str_join ho ha.pa hb (notStar_starEach ha.1.1) s1 (AllP.star (env := X.env) ha pos).2 (by simp) hline
    | [], x :: xs, _, ha => exact ha.elim
  · match es, xs, hl, ha with
    | [], [], hl, ha => exact e_bm0 (fun S v => bmK S .lower v) mt_lower' (k_case (.inr rfl)) PySem.F.plainAttrs_str PySem.F.slot_str_lower PySem.F.type_str_lower ho hb hline
    | _ :: _, [], _, ha => exact ha.elim
  · match es, xs, hl, ha with
    | [], [], hl, ha => exact e_bm0 (fun S v => bmK S .upper v) mt_upper' (k_case (.inl rfl)) PySem.F.plainAttrs_str PySem.F.slot_str_upper PySem.F.type_str_upper ho hb hline
    | _ :: _, [], _, ha => exact ha.elim
/-- a rule of what never ends well -/
theorem e_bad {e : Expr} {m : Env → Store → Res PV} (h : ∀ ρ S v S', m ρ S ≠ .ok v S') : PE X e (teOf Z m) := ⟨fun pins s σ H Q I ⟨W, ρ, S, v, S', R, E, z, _⟩ => absurd z (h ρ S v S')⟩
theorem mk0_eq {cc : Nat} {md : Md} {ρ : Env} {S : Store} (hi : Γ.ini cc = some none) : ((denEs Γ [] ρ S).bind fun vs S1 => (make Γ cc vs S1).bind fun v S2 => settle md S1 v S2) =
    (Res.ok [] S : Res (List PV)).bind fun vs S1 => ((Res.ok (.ref S1.length) (S1 ++ [.obj cc [] []]) : Res PV)).bind fun v S2 => settle md S1 v S2 := by
  have e : make Γ cc [] S = .ok (.ref S.length) (S ++ [.obj cc [] []]) := by
    unfold make
    rw [hi]
  show (make Γ cc [] S).bind _ = _
  rw [e]
  rfl
/-- f(..), C(..) -/
theorem call_ok (o : XOk X Z M N P Γ k c) {g : Nat} {x : Str} {md : Md} {es : List E} {xs : List Expr} {p pos : Pos} (hx : (x == M.gn g) = true) (hg : gloB c.sc x = true) (ha : AllP X Z Γ es xs) : PE X (.Call (.Name x p) xs [] pos) (teOf Z (denE Γ (.call md g es))) := by
  have e1 : x = M.gn g := eq_of_beq hx
  subst e1
  obtain ⟨g1, g2⟩ := o.glo hg
  cases hq : Γ.glob g with
  | none =>
    refine e_bad fun ρ S v S' z => ?_
    obtain ⟨vs, S1, _, z⟩ := bind_ok (show ((denEs Γ es ρ S).bind _) = _ from z)
    rw [hq] at z
    cases z
  | some gk =>
    cases gk with
    | con v =>
      refine e_bad fun ρ S v S' z => ?_
      obtain ⟨vs, S1, _, z⟩ := bind_ok (show ((denEs Γ es ρ S).bind _) = _ from z)
      rw [hq] at z
      cases z
    | fn f =>
      obtain ⟨⟨D, hD⟩, hm, hk, _⟩ := o.pf.gfn g f hq
      obtain ⟨co, fl⟩ := o.pf.call f D hD
      have den : ∀ ρ S, denE Γ (.call md g es) ρ S = (denEs Γ es ρ S).bind fun vs S1 => (Γ.call f vs S1).bind fun v S2 => settle md S1 v S2 := fun ρ S => by
        show ((denEs Γ es ρ S).bind fun vs S1 => (match Γ.glob g with
          | some (.fn f) => (Γ.call f vs S1).bind fun v S2 => settle md S1 v S2
          | some (.cls c) => (make Γ c vs S1).bind fun v S2 => settle md S1 v S2
          | _ => .bad)) = _
        rw [hq]
      match es, xs, ha with
      | [], [], ha => exact pe_of (e_call0 co fl o.pf.room g1 hm hk md g2) den
      | e :: es, x :: xs, ha => exact pe_of (e_call co fl o.pf.room g1 hm hk ha.pa md g2 (notStar_starEach ha.1.1) (AllP.star (env := X.env) ha.2 pos).1) den
      | [], _ :: _, ha => exact ha.elim
      | _ :: _, [], ha => exact ha.elim
    | cls cc =>
      obtain ⟨hm, _⟩ := o.pf.gcl g cc hq
      have den : ∀ ρ S, denE Γ (.call md g es) ρ S = (denEs Γ es ρ S).bind fun vs S1 => (make Γ cc vs S1).bind fun v S2 => settle md S1 v S2 := fun ρ S => by
        show ((denEs Γ es ρ S).bind fun vs S1 => (match Γ.glob g with
          | some (.fn f) => (Γ.call f vs S1).bind fun v S2 => settle md S1 v S2
          | some (.cls c) => (make Γ c vs S1).bind fun v S2 => settle md S1 v S2
          | _ => .bad)) = _
        rw [hq]
      refine pe_of ?_ den
      have bad : (∀ vs S, make Γ cc vs S = .bad) → PE X (.Call (.Name (M.gn g) p) xs [] pos) (teOf Z fun ρ S => (denEs Γ es ρ S).bind fun vs S1 => (make Γ cc vs S1).bind fun v S2 => settle md S1 v S2) := fun hb =>
        e_bad fun ρ S v S' z => by
          obtain ⟨vs, S1, _, z⟩ := bind_ok z
          rw [hb] at z
          cases z
      cases hi : Γ.ini cc with
      | none => exact bad fun vs S => by unfold make; rw [hi]
      | some fo =>
        cases fo with
        | none =>
          obtain ⟨kn, mk⟩ := o.pf.mko cc hi
          match es, xs, ha with
          | [], [], ha => exact pe_of (e_makeO kn mk g1 hm md g2) fun ρ S => mk0_eq hi
          | e :: es, x :: xs, ha =>
            refine e_bad fun ρ S v S' z => ?_
            obtain ⟨vs, S1, z1, z⟩ := bind_ok z
            obtain ⟨w, S2, z2, z3⟩ := bind_ok (show (denE Γ e ρ S).bind (fun v S1 => (denEs Γ es ρ S1).bind fun vs S2 => .ok (v :: vs) S2) = .ok vs S1 from z1)
            obtain ⟨ws, S3, z4, z5⟩ := bind_ok z3
            cases z5
            obtain ⟨u, S4, z6, z7⟩ := bind_ok z
            unfold make at z6
            rw [hi] at z6
            cases z6
          | [], _ :: _, ha => exact ha.elim
          | _ :: _, [], ha => exact ha.elim
        | some f =>
          obtain ⟨kn, mk, D, hD⟩ := o.pf.mkr cc f hi
          rcases o.pf.init f D hD with ⟨j, hj, co, fl⟩ | hb
          · have mkE : ∀ vs S1, make Γ cc vs S1 = (Γ.init f (.ref S1.length :: vs) (S1 ++ [.obj cc [] []])).bind fun v S2 => (match v with
              | .non => .ok (.ref S1.length) S2
              | _ => .bad) := fun vs S1 => by
              unfold make
              rw [hi]
              all_goals rfl
            have hr := o.pf.room.mono hj
            match es, xs, ha with
            | [], [], ha => exact pe_of (e_make0 kn co fl mk hr g1 hm md g2) fun ρ S => by simp only [mkE] <;> rfl
            | e :: es, x :: xs, ha => exact pe_of (e_make kn co fl mk hr g1 hm ha.pa md g2 (notStar_starEach ha.1.1) (AllP.star (env := X.env) ha.2 pos).1) fun ρ S => by simp only [mkE] <;> rfl
            | [], _ :: _, ha => exact ha.elim
            | _ :: _, [], ha => exact ha.elim
          · exact bad fun vs S => by
              unfold make
              rw [hi]
              dsimp only
              rw [hb]
              rfl
/-- o.m(..), m a method of a class of the text -/
theorem meth_ok (o : XOk X Z M N P Γ k c) {n : Str} {x : Nat} {md : Md} {ob : E} {es : List E} {b : Expr} {xs : List Expr} {ap pos : Pos} (hn : (n == M.an x) = true) (hl : lineB ap pos = true) (hs : isSup b = false) (hlen : xs.length < 30)
    (ho : PE X b (teOf Z (denE Γ ob))) (ha : AllP X Z Γ es xs) : PE X (.Call (.Attribute b n ap) xs [] pos) (teOf Z (denE Γ (.meth md ob x es))) := by
  have e1 : n = Z.an x := (eq_of_beq hn).trans (o.pf.an x)
  subst e1
  have hm : ∀ cc f, Z.kn cc → Γ.meth cc x = some f → Meth X.K (Z.cad cc) (Z.an x) (Z.fad f) ∧ CallOk X Z k (Z.fad f) ((P.funs[f]?.map (·.np)).getD 0) ((P.funs[f]?.map (·.dfl)).getD []) (Γ.call f) ∧ Fills ((P.funs[f]?.map (·.np)).getD 0) ((P.funs[f]?.map (·.dfl)).getD []) (Γ.call f) := fun cc f hk he => by
    obtain ⟨h1, D, hD⟩ := o.pf.me cc x f hk he
    rw [hD]
    exact ⟨h1, o.pf.call f D hD⟩
  match es, xs, ha with
  | [], [], ha => exact e_meth0 (P := Γ.meth) (np := fun f => (P.funs[f]?.map (·.np)).getD 0) (dfl := fun f => (P.funs[f]?.map (·.dfl)).getD []) (mc := Γ.call) o.pf.cl hm o.pf.room ho md (sup_ok hs) hl
  | e :: es, y :: ys, ha => exact e_meth (P := Γ.meth) (np := fun f => (P.funs[f]?.map (·.np)).getD 0) (dfl := fun f => (P.funs[f]?.map (·.dfl)).getD []) (mc := Γ.call) o.pf.cl hm o.pf.room ho ha.pa md (sup_ok hs) (notStar_starEach ha.1.1) (AllP.star (env := X.env) ha.2 pos).1 (AllP.star (env := X.env) ha pos).2 hlen hl
  | [], _ :: _, ha => exact ha.elim
  | _ :: _, [], ha => exact ha.elim
/-! ### f-strings -/
theorem e_fmt {a : Expr} {pos : Pos} {ma : Env → Store → Res PV} (ha : PE X a (teOf Z ma)) : PE X (.FormattedValue a (-1) none pos) (teOf Z fun ρ S => (ma ρ S).bind fun v S1 => match v with
    | .str x => if okI x.length then .ok (.str x) S1 else .bad
    | .int i => if decide (i.natAbs.log2 < 1920) then .ok (.str (chars (toString i))) S1 else .bad
    | _ => .bad) := by
  refine pe_mono (pe_fmt ha) fun σ H Q ⟨W, ρ, S, v, S', R, E, h, k⟩ => ?_
  obtain ⟨w, S1, h1, h⟩ := bind_ok h
  refine ⟨W, ρ, S, w, S1, R, E, h1, fun W1 y H1 x1 R1 r1 => ?_⟩
  split at h <;> try contradiction
  · rename_i l
    split at h <;> try contradiction
    rename_i hz
    cases h
    exact .inl ⟨_, rv_str r1, by rw [str_len]; exact okI_le hz, k W1 _ H1 x1 R1 (.str _)⟩
  · rename_i i
    split at h <;> try contradiction
    rename_i hz
    cases h
    refine .inr ⟨i, rv_int r1, of_decide_eq_true hz, ?_⟩
    show Q (.str (Str.ofString (toString i))) H1
    rw [chars_str]
    exact k W1 _ H1 x1 R1 (.str _)
theorem AllP.pj : ∀ {es : List E} {xs : List Expr}, AllP X Z Γ es xs → PJ X xs (es.map fun e => teOf Z (denE Γ e))
  | [], [], _ => .nil
  | e :: es, x :: xs, h => .cons h.1.2.1 (AllP.pj h.2)
  | [], _ :: _, h => h.elim
  | _ :: _, [], h => h.elim
theorem js_ok {σ : L2.St} {ρ : Env} {Q : Str → Hp → Prop} {S1 : Store} : ∀ {es : List E} {acc : List Nat} {W : Wd} {S : Store} {H : Hp} {vs : List PV} {ts : List (List Nat)}, RH Z W S H → RE Z W S.length ρ σ → denEs Γ es ρ S = .ok vs S1 → asStrs vs = some ts → acc.length + ts.flatten.length ≤ sizeLine →
    (∀ W' H', Ext W S W' S1 → RH Z W' S1 H' → Q ⟨(acc ++ ts.flatten).toArray⟩ H') → tJs (es.map fun e => teOf Z (denE Γ e)) ⟨acc.toArray⟩ σ H Q
  | [], acc, W, S, H, vs, ts, R, E, h, hs, hz, k => by
    cases h
    cases hs
    have q := k W H (Ext.refl _ _) R
    simp only [List.flatten_nil, List.append_nil] at q
    exact q
  | e :: es, acc, W, S, H, vs, ts, R, E, h, hs, hz, k => by
    obtain ⟨v, S2, h1, h⟩ := bind_ok (show (denE Γ e ρ S).bind (fun v S1 => (denEs Γ es ρ S1).bind fun vs S2 => .ok (v :: vs) S2) = .ok vs S1 from h)
    obtain ⟨ws, S3, h2, h⟩ := bind_ok h
    cases h
    have hv : ∃ t ts', v = .str t ∧ asStrs ws = some ts' ∧ ts = t :: ts' := by
      clear h h1 h2 k hz
      cases v <;> try cases hs
      rename_i t
      obtain ⟨ts', g1, g2⟩ := Option.map_eq_some_iff.mp (show (asStrs ws).map (t :: ·) = some ts from hs)
      exact ⟨t, ts', rfl, g1, g2.symm⟩
    obtain ⟨t, ts', rfl, hs', rfl⟩ := hv
    rw [List.flatten_cons, List.length_append] at hz
    refine ⟨W, ρ, S, .str t, S2, R, E, h1, fun W1 y H1 x1 R1 r1 => ⟨_, rv_str r1, ?_, ?_⟩⟩
    · rw [str_app, str_len, List.length_append]
      omega
    · rw [str_app]
      refine js_ok (acc := acc ++ t) R1 (x1.re E) h2 hs' (by rw [List.length_append]; omega) fun W' H' x' R' => ?_
      have q := k W' H' (x1.trans x') R'
      rw [List.flatten_cons, ← List.append_assoc] at q
      exact q
theorem e_fstr {es : List E} {xs : List Expr} {pos : Pos} (hl : 2 ≤ xs.length) (h : AllP X Z Γ es xs) : PE X (.JoinedStr xs pos) (teOf Z (denE Γ (.fstr es))) := by
  match xs, hl, h with
  | x :: y :: xs, _, h =>
    refine pe_mono (pe_joined (AllP.pj h)) fun σ H Q ⟨W, ρ, S, v, S', R, E, hh, k⟩ => ?_
    obtain ⟨vs, S1, h1, hh⟩ := bind_ok (show (denEs Γ es ρ S).bind _ = .ok v S' from hh)
    split at hh <;> try contradiction
    rename_i ts hs
    split at hh <;> try contradiction
    rename_i hz
    cases hh
    have e0 : (Str.empty : Str) = ⟨([] : List Nat).toArray⟩ := rfl
    rw [e0]
    refine js_ok (acc := []) R E h1 hs (by simpa using okI_le hz) fun W' H' x' R' => ?_
    exact k W' _ H' x' R' (.str _)
end
end FF
set_option Elab.async false
set_option linter.all false
set_option autoImplicit false
set_option maxRecDepth 100000
set_option maxHeartbeats 4000000
/-! SNK: every expression that the check lets through. -/
namespace FF
open PySem PySem.Spec PyProof.Rows L2 TL
section
variable {Z : Sit} {M : Nm} {N : List Str} {P : Prog} {Γ : Env2} {k : Nat}
abbrev Both (X : Cx) (Z : Sit) (Γ : Env2) (E : E) (e : Expr) : Prop := PE X e (teOf Z (denE Γ E)) ∧ PT X e (ttOf Z (tst (denE Γ E)))
theorem plainT {X : Cx} {E : E} {e : Expr} (hK : X.K = Z.K) (h : PE X e (teOf Z (denE Γ E))) (he : ∀ whole, isTrue e X.env whole = (do let v ← whole; standAt e.pos; holding [v] (truthy v))) : Both X Z Γ E e := ⟨h, t_plain hK h he⟩
theorem pt_of {X : Cx} {e : Expr} {m m' : Env → Store → Res Bool} (h : PT X e (ttOf Z m)) (q : ∀ ρ S, m' ρ S = m ρ S) : PT X e (ttOf Z m') := by
  have : m' = m := funext fun ρ => funext fun S => q ρ S
  rw [this]
  exact h
theorem AllP.one {X : Cx} {e : E} {x : Expr} (hs : nStar x) (h : Both X Z Γ e x) : AllP X Z Γ [e] [x] := ⟨⟨hs, h.1, h.2⟩, trivial⟩
theorem AllP.two {X : Cx} {e f : E} {x y : Expr} (hs : nStar x) (h : Both X Z Γ e x) (hs2 : nStar y) (h2 : Both X Z Γ f y) : AllP X Z Γ [e, f] [x, y] := ⟨⟨hs, h.1, h.2⟩, ⟨hs2, h2.1, h2.2⟩, trivial⟩
mutual
theorem okE : ∀ (E : E) (e : Expr) (c : SC) (X : Cx), XOk X Z M N P Γ k c → ckE M N c E e = true → Both X Z Γ E e
  | .nev, e, c, X, o, h => by cases h
  | .var i, e, c, X, o, h => by
    cases e <;> try cases h
    rename_i x p
    obtain ⟨h1, h2⟩ := bool2 (show (N[i]? == some x && visB c.sc x && nmB x) = true from h)
    obtain ⟨h3, h4⟩ := bool2 h1
    unfold nmB at h2
    simp only [Bool.and_eq_true, Bool.not_eq_true'] at h2
    exact plainT o.pf.hK (e_var (by rw [o.hN]; exact eq_of_beq h3) (o.vis h4) h2.1 h2.2) fun _ => rfl
  | .con v, e, c, X, o, h => by
    cases e <;> try cases h
    rename_i q j p
    replace h : conB v q = true := h
    have hp : PE X (.Constant q j p) (teOf Z fun _ S => .ok v S) := by
      unfold conB at h
      split at h <;> try contradiction
      · rename_i i j'
        have e1 : i = j' := eq_of_beq h
        subst e1
        exact e_int
      · rename_i l s
        have e1 : l = s.cps.toList := eq_of_beq h
        subst e1
        exact e_str
      · rename_i b b'
        have e1 : b = b' := eq_of_beq h
        subst e1
        exact e_bl
      · exact e_non
    exact plainT o.pf.hK hp fun _ => rfl
  | .glo g, e, c, X, o, h => by
    cases e <;> try cases h
    rename_i x p
    obtain ⟨h1, h2⟩ := bool2 (show (x == M.gn g && gloB c.sc x) = true from h)
    have e1 : x = M.gn g := eq_of_beq h1
    subst e1
    obtain ⟨g1, g2⟩ := o.glo h2
    refine plainT o.pf.hK ?_ fun _ => rfl
    cases hq : Γ.glob g with
    | none =>
      refine e_bad fun ρ S v S' z => ?_
      replace z : opt S ((Γ.glob g).map (gval g)) = .ok v S' := z
      rw [hq] at z
      cases z
    | some gk =>
      have den : ∀ ρ S, denE Γ (.glo g) ρ S = .ok (gval g gk) S := fun ρ S => by
        show opt S ((Γ.glob g).map (gval g)) = _
        rw [hq]
        rfl
      cases gk with
      | fn f =>
        obtain ⟨_, hm, _, ha⟩ := o.pf.gfn g f hq
        refine pe_of (e_glob (y := .ref (Z.ad g)) g1 hm (by rw [ha] <;> rfl) (fun W N => .fn g) g2) den
      | cls cc =>
        obtain ⟨hm, ha⟩ := o.pf.gcl g cc hq
        refine pe_of (e_glob (y := .ref (Z.ad g)) g1 hm (by rw [ha] <;> rfl) (fun W N => .fn g) g2) den
      | con v =>
        obtain ⟨u, y, hm, hr, hv⟩ := o.pf.gco g v hq
        exact pe_of (e_glob g1 hm hr (fun W N => hv _ _ _) g2) den
  | .tup es, e, c, X, o, h => by
    cases e <;> try cases h
    rename_i xs a p
    exact plainT o.pf.hK (e_tup (okEs es xs c X o h).pa) fun _ => rfl
  | .lst m es, e, c, X, o, h => by
    cases e <;> try cases h
    rename_i xs p
    exact plainT o.pf.hK (e_lst m (okEs es xs c X o h).pa) fun _ => rfl
  | .dct m es, e, c, X, o, h => by
    cases es with
    | cons _ _ => cases e <;> cases h
    | nil =>
      cases e <;> try cases h
      rename_i ks vs p
      cases ks <;> try cases h
      cases vs <;> try cases h
      refine plainT o.pf.hK ?_ fun _ => rfl
      refine pe_mono pe_dnewK fun σ H Q ⟨W, ρ, S, v, S', R, E, hh, kk⟩ => ?_
      replace hh : alloc m (.dct [] []) S = .ok v S' := hh
      exact new_alloc R (.dK rfl .nil) trivial hh kk
  | .bin op a b, e, c, X, o, h => by
    cases e <;> try cases h
    rename_i x op' y p
    obtain ⟨h1, h2⟩ := bool2 (show (op' == bop op && ckE M N c a x && ckE M N c b y) = true from h)
    obtain ⟨h3, h4⟩ := bool2 h1
    have e1 : op' = bop op := eq_of_beq h3
    subst e1
    exact plainT o.pf.hK (e_bin o.pf.hK op (okE a x c X o h4).1 (okE b y c X o h2).1) fun _ => rfl
  | .neg a, e, c, X, o, h => by
    cases e <;> try cases h
    rename_i op x p
    cases op <;> try cases h
    exact plainT o.pf.hK (e_neg (okE a x c X o h).1) fun _ => rfl
  | .not a, e, c, X, o, h => by
    cases e <;> try cases h
    rename_i op x p
    cases op <;> try cases h
    have q := okE a x c X o h
    exact ⟨e_not o.pf.hK q.1, t_not q.2⟩
  | .and es, e, c, X, o, h => by
    cases e <;> try cases h
    rename_i op xs p
    cases op <;> try cases h
    obtain ⟨h1, h2⟩ := bool2 (show (!xs.isEmpty && ckEs M N c es xs) = true from h)
    have q := okEs es xs c X o h2
    match es, xs, q, h1 with
    | e :: es, x :: xs, q, _ =>
      obtain ⟨g1, g2⟩ := AllP.and_ o.pf.hK (pos := p) q
      exact ⟨g1, g2.pt⟩
    | [], _ :: _, q, _ => exact q.elim
    | _, [], _, h1 => cases h1
  | .or es, e, c, X, o, h => by
    cases e <;> try cases h
    rename_i op xs p
    cases op <;> try cases h
    obtain ⟨h1, h2⟩ := bool2 (show (!xs.isEmpty && ckEs M N c es xs) = true from h)
    have q := okEs es xs c X o h2
    match es, xs, q, h1 with
    | e :: es, x :: xs, q, _ =>
      obtain ⟨g1, g2⟩ := AllP.or_ o.pf.hK (pos := p) q
      exact ⟨g1, g2.pt⟩
    | [], _ :: _, q, _ => exact q.elim
    | _, [], _, h1 => cases h1
  | .cmp op a b, e, c, X, o, h => by
    cases e <;> try cases h
    rename_i x ops ys p
    match ops, ys, h with
    | [op'], [y], h =>
      obtain ⟨h1, h2⟩ := bool2 (show (op' == cop op && ckE M N c a x && ckE M N c b y) = true from h)
      obtain ⟨h3, h4⟩ := bool2 h1
      have e1 : op' = cop op := eq_of_beq h3
      subst e1
      have hu : X.A.units + 65 < cLine := by
        have := o.pf.room.un
        omega
      have qa := okE a x c X o h4
      have qb := okE b y c X o h2
      exact ⟨e_cmp o.pf.hK hu op qa.1 qb.1 (marks_ok h2), t_cmp o.pf.hK hu op qa.1 qb.1 (marks_ok h2)⟩
  | .chain op op2 a b d, e, c, X, o, h => by
    cases e <;> try cases h
    rename_i x ops ys p
    match ops, ys, h with
    | [op', op2'], [y, z], h =>
      obtain ⟨h1, h2⟩ := bool2 (show (op' == cop op && op2' == cop op2 && ckE M N c a x && ckE M N c b y && ckE M N c d z) = true from h)
      obtain ⟨h1, h3⟩ := bool2 h1
      obtain ⟨h1, h4⟩ := bool2 h1
      obtain ⟨h1, h5⟩ := bool2 h1
      have e1 : op' = cop op := eq_of_beq h1
      have e2 : op2' = cop op2 := eq_of_beq h5
      subst e1 e2
      have hu : X.A.units + 65 < cLine := by
        have := o.pf.room.un
        omega
      have qa := okE a x c X o h4
      have qb := okE b y c X o h3
      have qd := okE d z c X o h2
      have hm : lastMarks [cop op, cop op2] [y, z] = false := by
        show behindInMarks _ z = false
        exact marks_ok h2
      exact ⟨e_chain o.pf.hK hu op op2 qa.1 qb.1 qd.1 hm, t_chain o.pf.hK hu op op2 qa.1 qb.1 qd.1 hm⟩
  | .ife t a b, e, c, X, o, h => by
    cases e <;> try cases h
    rename_i x y z p
    obtain ⟨h1, h2⟩ := bool2 (show (ckE M N c t x && ckE M N c a y && ckE M N c b z) = true from h)
    obtain ⟨h3, h4⟩ := bool2 h1
    have qt := okE t x c X o h3
    have qa := okE a y c X o h4
    have qb := okE b z c X o h2
    exact ⟨e_if qt.2 qa.1 qb.1, t_if qt.2 qa.2 qb.2⟩
  | .call md g es, e, c, X, o, h => by
    cases e <;> try cases h
    rename_i fn xs kws p
    cases fn <;> try cases h
    cases kws <;> try cases h
    rename_i x p2
    obtain ⟨h1, h2⟩ := bool2 (show (x == M.gn g && gloB c.sc x && ckEs M N c es xs) = true from h)
    obtain ⟨h3, h4⟩ := bool2 h1
    exact plainT o.pf.hK (call_ok o h3 h4 (okEs es xs c X o h2)) fun _ => rfl
  | .blt m b es, e, c, X, o, h => by
    cases e <;> try cases h
    rename_i fn xs kws p
    cases fn <;> try cases h
    cases kws <;> try cases h
    rename_i x p2
    obtain ⟨h1, h2⟩ := bool2 (show ((match bnm b with
      | some n => x == (n : Str)
      | none => false) && gloB c.sc x && !xs.isEmpty && ckEs M N c es xs) = true from h)
    obtain ⟨h1, h3⟩ := bool2 h1
    obtain ⟨h1, h4⟩ := bool2 h1
    have q := okEs es xs c X o h2
    cases hb : bnm b with
    | none => rw [hb] at h1; cases h1
    | some n =>
      rw [hb] at h1
      have e1 : x = (n : Str) := eq_of_beq h1
      subst e1
      obtain ⟨f1, f2, f3, f4, f5⟩ := fn_any' o.pf.hK o.pf.hc b hb
      obtain ⟨g1, g2⟩ := o.glo h4
      match es, xs, q, h3 with
      | e :: es, x :: xs, q, _ => exact plainT o.pf.hK (e_blt m f1 f2 g1 (o.pf.bl n f5) f3 q.pa f4 g2 (notStar_starEach q.1.1) (AllP.star (env := X.env) q.2 p).1) fun _ => rfl
      | [], _ :: _, q, _ => exact q.elim
      | _, [], _, h1 => cases h1
  | .isi a ts, e, c, X, o, h => by
    cases e <;> try cases h
    rename_i fn xs kws p
    cases fn <;> try cases h
    rename_i x p2
    match xs, kws, h with
    | [y, t], [], h =>
      obtain ⟨h1, h2⟩ := bool2 (show (strEq x "isinstance" && gloB c.sc x && ckE M N c a y && (match (generalizing := false) t with
        | .Tuple zs _ _ => tysB M c.sc ts zs && decide (ts.length ≤ 100)
        | t => (match (generalizing := false) ts with
          | [u] => tyB M c.sc u t
          | _ => false))) = true from h)
      obtain ⟨h1, h3⟩ := bool2 h1
      obtain ⟨h1, h4⟩ := bool2 h1
      have e1 : x = ("isinstance" : Str) := eq_of_beq h1
      subst e1
      obtain ⟨g1, g2⟩ := o.glo h4
      have qa := okE a y c X o h3
      have hm := o.pf.bl "isinstance" (by decide +kernel)
      have sy : ∀ es, starEach (y :: es) X.env = (false, eval y X.env) :: starEach es X.env := fun es => notStar_starEach (nStar_ok h3)
      refine plainT o.pf.hK ?_ fun _ => rfl
      split at h2
      · rename_i zs k1 p1
        obtain ⟨h5, h6⟩ := bool2 h2
        exact e_isiT o.pf.hK o.pf.kit ts qa.1 (tys_ok o h5) (of_decide_eq_true h6) g1 hm sy
      · split at h2 <;> try contradiction
        obtain ⟨t1, t2⟩ := ty_ok o h2
        exact e_isi1 o.pf.hK o.pf.kit _ qa.1 t1 g1 hm (sy _) (notStar_starEach t2)
  | .meth md ob x es, e, c, X, o, h => by
    cases e <;> try cases h
    rename_i fn xs kws p
    cases fn <;> try cases h
    cases kws <;> try cases h
    rename_i b n ap
    obtain ⟨h1, h2⟩ := bool2 (show (n == M.an x && lineB ap p && !isSup b && decide (xs.length < 30) && ckE M N c ob b && ckEs M N c es xs) = true from h)
    obtain ⟨h1, h3⟩ := bool2 h1
    obtain ⟨h1, h4⟩ := bool2 h1
    obtain ⟨h1, h5⟩ := bool2 h1
    obtain ⟨h1, h6⟩ := bool2 h1
    exact plainT o.pf.hK (meth_ok o h1 h6 (by simpa using h5) (of_decide_eq_true h4) (okE ob b c X o h3).1 (okEs es xs c X o h2)) fun _ => rfl
  | .bm q ob es, e, c, X, o, h => by
    cases e <;> try cases h
    rename_i fn xs kws p
    cases fn <;> try cases h
    cases kws <;> try cases h
    rename_i b n ap
    obtain ⟨h1, h2⟩ := bool2 (show ((match mnm q with
      | some m => n == (m : Str)
      | none => false) && decide (xs.length = mar q) && lineB ap p && !isSup b && ckE M N c ob b && ckEs M N c es xs) = true from h)
    obtain ⟨h1, h3⟩ := bool2 h1
    obtain ⟨h1, h4⟩ := bool2 h1
    obtain ⟨h1, h5⟩ := bool2 h1
    obtain ⟨h1, h6⟩ := bool2 h1
    cases hb : mnm q with
    | none => rw [hb] at h1; cases h1
    | some m =>
      rw [hb] at h1
      have e1 : n = (m : Str) := eq_of_beq h1
      subst e1
      exact plainT o.pf.hK (bm_ok o.pf.hK hb (of_decide_eq_true h6) (sup_ok (by simpa using h4)) h5 (okE ob b c X o h3).1 (okEs es xs c X o h2)) fun _ => rfl
  | .fld ob x, e, c, X, o, h => by
    cases e <;> try cases h
    rename_i b n p
    obtain ⟨h1, h2⟩ := bool2 (show (n == M.an x && M.fld x && !isSup b && ckE M N c ob b) = true from h)
    obtain ⟨h1, h3⟩ := bool2 h1
    obtain ⟨h1, h4⟩ := bool2 h1
    have e1 : n = Z.an x := (eq_of_beq h1).trans (o.pf.an x)
    subst e1
    exact plainT o.pf.hK (e_fld o.pf.cl (fun cc hk => o.pf.na cc x hk h4) (okE ob b c X o h2).1 (sup_ok (by simpa using h3))) fun _ => rfl
  | .idx ob i, e, c, X, o, h => by
    cases e <;> try cases h
    rename_i b ix p
    obtain ⟨h1, h2⟩ := bool2 (show (ckE M N c ob b && ckE M N c i ix) = true from h)
    exact plainT o.pf.hK (e_idx o.pf.hK (by have := o.pf.room.un; omega) (plainIx_ok h2) (okE ob b c X o h1).1 (okE i ix c X o h2).1) fun _ => rfl
  | .slc m lo hi ob a b, e, c, X, o, h => by
    cases e <;> try cases h
    rename_i x sl p
    cases sl <;> try cases h
    rename_i l hh st p2
    cases st <;> try cases h
    obtain ⟨h1, h2⟩ := bool2 (show (ckE M N c ob x && (match (generalizing := false) lo, l with
      | false, none => true
      | true, some y => ckE M N c a y
      | _, _ => false) && (match (generalizing := false) hi, hh with
      | false, none => true
      | true, some y => ckE M N c b y
      | _, _ => false)) = true from h)
    obtain ⟨h1, h3⟩ := bool2 h1
    have q := (okE ob x c X o h1).1
    refine plainT o.pf.hK ?_ fun _ => rfl
    split at h3 <;> try contradiction
    · split at h2 <;> try contradiction
      · exact e_slc o.pf.hK (ml := none) (mh := none) q o_none o_none
      · exact e_slc o.pf.hK (ml := none) (mh := some _) q o_none (o_some (okE b _ c X o h2).1)
    · split at h2 <;> try contradiction
      · exact e_slc o.pf.hK (ml := some _) (mh := none) q (o_some (okE a _ c X o h3).1) o_none
      · exact e_slc o.pf.hK (ml := some _) (mh := some _) q (o_some (okE a _ c X o h3).1) (o_some (okE b _ c X o h2).1)
  | .rev m ob, e, c, X, o, h => by
    cases e <;> try cases h
    rename_i x sl p
    replace h : (match (generalizing := false) Expr.Subscript x sl p with
      | .Subscript x (.Slice none none (some (.UnaryOp .USub (.Constant (.int 1) _ _) _)) _) _ => ckE M N c ob x
      | _ => false) = true := h
    split at h <;> try contradiction
    rename_i x' sl' j p1 p2 p3 heq
    cases heq
    exact plainT o.pf.hK (e_rev (okE ob x c X o h).1) fun _ => rfl
  | .comp m t q es cs e', e, c, X, o, h => by
    cases e <;> try cases h
    rename_i elt gs scope p
    replace h : (match (generalizing := false) Expr.ListComp elt gs scope p with
      | .ListComp elt [⟨tg, iter, ifs, 0⟩] scope _ => ckI M N c q es tg iter && blkC N c.sc scope (ownOf N (own t)) && ctB N (blkS c scope) t tg && decide (cs.length ≤ 1) && ckEs M N (blkS c scope) cs ifs && ckE M N (blkS c scope) e' elt
      | _ => false) = true := h
    split at h <;> try contradiction
    rename_i elt' tg iter ifs scope' p' heq
    cases heq
    obtain ⟨h1, h2⟩ := bool2 h
    obtain ⟨h1, h3⟩ := bool2 h1
    obtain ⟨h1, h4⟩ := bool2 h1
    obtain ⟨h1, h5⟩ := bool2 h1
    obtain ⟨h1, h6⟩ := bool2 h1
    obtain ⟨qi, qf⟩ := okSrc q es tg iter c X o h1
    refine plainT o.pf.hK ?_ fun _ => rfl
    refine pe_of (e_comp (t := t) (al := m) (mit := mSrc Γ q es) (mc := fun ρ S => denC Γ cs ρ S) (me := fun ρ S => denE Γ e' ρ S) o.pf.hK o.pf.hc (by rw [o.hN]; exact o.nd) qi (own' := ownOf N (own t)) (blkOk_by (by rw [o.hN, o.hs]; exact h6)) own_ok ?_ ?_ ?_ qf) ?_
    · exact fun s H C cl fp => ct_ok (o.blk s H scope C cl fp) h5
    · intro s H C cl fp
      exact okC cs ifs _ _ (o.blk s H scope C cl fp) (of_decide_eq_true h4) h3
    · exact fun s H C cl fp => (okE e' elt _ _ (o.blk s H scope C cl fp) h2).1
    · intro ρ S
      show ((denEs Γ es ρ S).bind fun vs S1 => (match walk S1 q vs with
        | some (xs, g) => (compL g t (fun ρ' S' => denC Γ cs ρ' S') (fun ρ' S' => denE Γ e' ρ' S') (wipeE ρ (own t)) xs [] S1).bind fun r S2 => alloc m (.lst r) S2
        | none => .bad)) = ((denEs Γ es ρ S).bind fun vs S1 => opt S1 (walk S1 q vs)).bind _
      cases denEs Γ es ρ S with
      | ok vs S1 =>
        show (match walk S1 q vs with
          | some (xs, g) => _
          | none => _) = (opt S1 (walk S1 q vs)).bind _
        cases walk S1 q vs with
        | none => rfl
        | some r => rfl
      | exc x S => rfl
      | bad => rfl
  | .lsrc _ _ _, e, c, X, o, h => by cases h
  | .maxd a k, e, c, X, o, h => by
    cases e <;> try cases h
    rename_i fn xs kws p
    replace h : (match (generalizing := false) Expr.Call fn xs kws p with
      | .Call (.Name x _) [y] [⟨some n, .Constant (.int j) _ _, _⟩] _ => strEq x "max" && strEq n "default" && gloB c.sc x && j == k && ckE M N c a y
      | _ => false) = true := h
    split at h <;> try contradiction
    rename_i x p1 y n j j2 p2 p3 p4 heq
    cases heq
    obtain ⟨h1, h2⟩ := bool2 h
    obtain ⟨h1, h3⟩ := bool2 h1
    obtain ⟨h1, h4⟩ := bool2 h1
    obtain ⟨h1, h5⟩ := bool2 h1
    have e1 : x = ("max" : Str) := eq_of_beq h1
    have e2 : n = ("default" : Str) := eq_of_beq h5
    have e3 : j = k := eq_of_beq h3
    subst e1 e2 e3
    refine plainT o.pf.hK (e_maxd o.pf.hc ?_ (o.glo h4).1 (o.pf.bl _ (by decide +kernel)) (okE a y c X o h2).1 (notStar_starEach (nStar_ok h2))) fun _ => rfl
    have := o.pf.room.un
    omega
  | .cat a b, e, c, X, o, h => by
    cases e <;> try cases h
    rename_i x op' y p
    obtain ⟨h1, h2⟩ := bool2 (show (op' == .Add && ckE M N c a x && ckE M N c b y) = true from h)
    obtain ⟨h3, h4⟩ := bool2 h1
    have e1 : op' = .Add := eq_of_beq h3
    subst e1
    exact plainT o.pf.hK (e_cat (okE a x c X o h4).1 (okE b y c X o h2).1) fun _ => rfl
  | .fmt a, e, c, X, o, h => by
    cases e <;> try cases h
    rename_i x cv fs p
    replace h : (match (generalizing := false) Expr.FormattedValue x cv fs p with
      | .FormattedValue x (-1) none _ => ckE M N c a x
      | _ => false) = true := h
    split at h <;> try contradiction
    rename_i x' p' heq
    cases heq
    exact plainT o.pf.hK (e_fmt (okE a x c X o h).1) fun _ => rfl
  | .fstr es, e, c, X, o, h => by
    cases e <;> try cases h
    rename_i xs p
    obtain ⟨h1, h2⟩ := bool2 (show (decide (2 ≤ xs.length) && ckEs M N c es xs) = true from h)
    exact plainT o.pf.hK (e_fstr (of_decide_eq_true h1) (okEs es xs c X o h2)) fun _ => rfl
theorem okEs : ∀ (es : List E) (xs : List Expr) (c : SC) (X : Cx), XOk X Z M N P Γ k c → ckEs M N c es xs = true → AllP X Z Γ es xs
  | [], [], c, X, o, h => trivial
  | e :: es, x :: xs, c, X, o, h => by
    obtain ⟨h1, h2⟩ := bool2 (show (ckE M N c e x && ckEs M N c es xs) = true from h)
    have q := okE e x c X o h1
    exact ⟨⟨nStar_ok h1, q.1, q.2⟩, okEs es xs c X o h2⟩
  | [], _ :: _, c, X, o, h => by cases h
  | _ :: _, [], c, X, o, h => by cases h
theorem okC : ∀ (cs : List E) (xs : List Expr) (c : SC) (X : Cx), XOk X Z M N P Γ k c → cs.length ≤ 1 → ckEs M N c cs xs = true → PTs X xs (ttOf Z (tstC fun ρ S => denC Γ cs ρ S))
  | [], [], c, X, o, _, h => c_nil
  | [e], [x], c, X, o, _, h => by
    obtain ⟨h1, _⟩ := bool2 (show (ckE M N c e x && true) = true from h)
    exact c_one (okE e x c X o h1).2
  | [], _ :: _, c, X, o, _, h => by cases h
  | [_], [], c, X, o, _, h => by cases h
  | [_], _ :: _ :: _, c, X, o, _, h => by
    obtain ⟨_, h2⟩ := bool2 h
    cases h2
  | _ :: _ :: _, _, c, X, o, hl, h => by simp at hl
theorem okSrc : ∀ (q : SrcK) (es : List E) (tg x : Expr) (c : SC) (X : Cx), XOk X Z M N P Γ k c → ckI M N c q es tg x = true → PI X tg x (tiOf Z (mSrc Γ q es)) ∧ ∀ v, foldedSetIterable x X.env v = pure v
  | .val, [e], tg, x, c, X, o, h => ⟨src_val o (okE e x c X o h).1, fold_ok h⟩
  | .range1, [e], tg, x, c, X, o, h => by
    replace h : (match (generalizing := false) x with
      | .Call (.Name x _) [y] [] _ => strEq x "range" && gloB c.sc x && ckE M N c e y
      | _ => false) = true := h
    split at h <;> try contradiction
    obtain ⟨h1, h2⟩ := bool2 h
    obtain ⟨h3, h4⟩ := bool2 h1
    exact ⟨src_range1 o (.one (nStar_ok h2) (okE e _ c X o h2)) h3 h4, fun _ => rfl⟩
  | .range2, [e, f], tg, x, c, X, o, h => by
    replace h : (match (generalizing := false) x with
      | .Call (.Name x _) [y, z] [] _ => strEq x "range" && gloB c.sc x && ckE M N c e y && ckE M N c f z
      | _ => false) = true := h
    split at h <;> try contradiction
    obtain ⟨h1, h2⟩ := bool2 h
    obtain ⟨h1, h5⟩ := bool2 h1
    obtain ⟨h3, h4⟩ := bool2 h1
    exact ⟨src_range2 o (.two (nStar_ok h5) (okE e _ c X o h5) (nStar_ok h2) (okE f _ c X o h2)) h3 h4, fun _ => rfl⟩
  | .enum, [e], tg, x, c, X, o, h => by
    replace h : (match (generalizing := false) x with
      | .Call (.Name x _) [y] [] _ => strEq x "enumerate" && gloB c.sc x && isTup tg && ckE M N c e y
      | _ => false) = true := h
    split at h <;> try contradiction
    obtain ⟨h1, h2⟩ := bool2 h
    obtain ⟨h1, h5⟩ := bool2 h1
    obtain ⟨h3, h4⟩ := bool2 h1
    exact ⟨src_enum o h5 (.one (nStar_ok h2) (okE e _ c X o h2)) h3 h4, fun _ => rfl⟩
  | .zip, [e, f], tg, x, c, X, o, h => by
    replace h : (match (generalizing := false) x with
      | .Call (.Name x _) [y, z] [] _ => strEq x "zip" && gloB c.sc x && isTup tg && ckE M N c e y && ckE M N c f z
      | _ => false) = true := h
    split at h <;> try contradiction
    obtain ⟨h1, h2⟩ := bool2 h
    obtain ⟨h1, h6⟩ := bool2 h1
    obtain ⟨h1, h5⟩ := bool2 h1
    obtain ⟨h3, h4⟩ := bool2 h1
    exact ⟨src_zip o h5 (.two (nStar_ok h6) (okE e _ c X o h6) (nStar_ok h2) (okE f _ c X o h2)) h3 h4, fun _ => rfl⟩
  | .reversed, [e], tg, x, c, X, o, h => by
    replace h : (match (generalizing := false) x with
      | .Call (.Name x _) [y] [] _ => strEq x "reversed" && gloB c.sc x && ckE M N c e y
      | _ => false) = true := h
    split at h <;> try contradiction
    obtain ⟨h1, h2⟩ := bool2 h
    obtain ⟨h3, h4⟩ := bool2 h1
    exact ⟨src_rev o (nStar_ok h2) (okE e _ c X o h2).1 h3 h4, fun _ => rfl⟩
  | .items, [], _, _, _, _, _, h => by cases h
  | .items, [_], _, _, _, _, _, h => by cases h
  | .items, [_, _], _, _, _, _, _, h => by cases h
  | .items, _ :: _ :: _ :: _, _, _, _, _, _, h => by cases h
  | .values, [], _, _, _, _, _, h => by cases h
  | .values, [_], _, _, _, _, _, h => by cases h
  | .values, [_, _], _, _, _, _, _, h => by cases h
  | .values, _ :: _ :: _ :: _, _, _, _, _, _, h => by cases h
  | .val, [], _, _, _, _, _, h => by cases h
  | .range1, [], _, _, _, _, _, h => by cases h
  | .enum, [], _, _, _, _, _, h => by cases h
  | .reversed, [], _, _, _, _, _, h => by cases h
  | .range2, [], _, _, _, _, _, h => by cases h
  | .zip, [], _, _, _, _, _, h => by cases h
  | .range2, [_], _, _, _, _, _, h => by cases h
  | .zip, [_], _, _, _, _, _, h => by cases h
  | .val, _ :: _ :: _, _, _, _, _, _, h => by cases h
  | .range1, _ :: _ :: _, _, _, _, _, _, h => by cases h
  | .enum, _ :: _ :: _, _, _, _, _, _, h => by cases h
  | .reversed, _ :: _ :: _, _, _, _, _, _, h => by cases h
  | .range2, _ :: _ :: _ :: _, _, _, _, _, _, h => by cases h
  | .zip, _ :: _ :: _ :: _, _, _, _, _, _, h => by cases h
end
end
end FF
set_option Elab.async false
set_option linter.all false
set_option autoImplicit false
set_option maxRecDepth 100000
set_option maxHeartbeats 4000000
/-! SNL: the check of statements, and what it gives. -/
namespace FF
open PySem PySem.Spec PyProof.Rows L2 TL
def isComp : Expr → Bool
  | .ListComp _ _ _ _ => true
  | .SetComp _ _ _ _ => true
  | .DictComp _ _ _ _ _ => true
  | _ => false
/-- y = [..] on one line, the block's own name -/
def swB (c : SC) (y : Str) (py : Pos) : Expr → Bool
  | .ListComp _ _ scope pos => (match c.sc.kind with
    | .function => true
    | _ => false) && (match c.sc.names.lookup y with
    | some .local => true
    | _ => false) && py.line == pos.line && !(scope.names.any fun (n, k) => n == y && (k == .local || k == .cell))
  | _ => false
/-- the name's variable is a cell -/
def celB (c : SC) (y : Str) : Bool := match c.sc.names.lookup y with
  | some .cell => true
  | _ => false
section
variable (M : Nm) (N : List Str)
mutual
def ckS (c : SC) : Sm → Stmt → Bool
  | .nev, _ => false
  | .asg t e, s => (match s with
    | .Assign [tg] ex pos => (match t with
      | .name i => (match tg with
        | .Name y py => N[i]? == some y && locB c y && ckE M N c e ex && (!isComp ex || (celB c y || swB c y py ex))
        | _ => false)
      | .names is => (match tg with
        | .Tuple es _ _ => nmsB N c is es && !isTup ex && ckE M N c e ex
        | _ => false)
      | .idx o i => (match tg with
        | .Subscript b ix _ => ckE M N c o b && ckE M N c i ix && !isComp ex && ckE M N c e ex
        | _ => false)
      | .fld o x => (match tg with
        | .Attribute b n _ => n == M.an x && M.fld x && ckE M N c o b && !isComp ex && ckE M N c e ex
        | _ => false))
    | _ => false)
  | .par is es, s => (match is, es, s with
    | [i, j], [e, f], .Assign [.Tuple [.Name x px, .Name y py] _ pt] (.Tuple [a, b] _ _) _ =>
      N[i]? == some x && N[j]? == some y && !(i == j) && !(x == y) && (match c.sc.kind with
        | .function => true
        | _ => false) && (match c.sc.names.lookup x, c.sc.names.lookup y with
        | some .local, some .local => true
        | _, _ => false) && px.line == py.line && !([a, b].all (foldedForSure 8)) && !([a, b].all (constantsAlone 8)) && ckE M N c e a && ckE M N c f b
    | _, _, _ => false)
  | .expr e, s => (match s with
    | .Expr ex _ => !isComp ex && ckE M N c e ex
    | _ => false)
  | .ret e, s => (match s with
    | .Return (some ex) _ => ckE M N c e ex
    | _ => false)
  | .retn, s => (match s with
    | .Return none _ => true
    | _ => false)
  | .ife t a b, s => (match s with
    | .If x as bs _ => ckE M N c t x && ckSs c a as && ckSs c b bs
    | _ => false)
  | .for_ t k es b, s => (match s with
    | .For tg it bs [] _ => ckI M N c k es tg it && ctB N c t tg && ckSs c b bs
    | _ => false)
  | .whl t b, s => (match s with
    | .While x bs [] _ => ckE M N c t x && ckSs c b bs
    | _ => false)
  | .brk, s => (match s with
    | .Break _ => true
    | _ => false)
  | .cnt, s => (match s with
    | .Continue _ => true
    | _ => false)
  | .pass, s => (match s with
    | .Pass _ => true
    | _ => false)
def ckSs (c : SC) : List Sm → List Stmt → Bool
  | [], [] => true
  | [.nev], _ => true
  | s :: ss, t :: ts => ckS c s t && ckSs c ss ts
  | _, _ => false
end
end
theorem swaps_no {e : Expr} {t : Option Expr} {l : Nat} {env : PySem.Env} (h : isComp e = false) : swapsWith e t l env = pure false := by
  cases e <;> first | rfl | cases h
theorem sole_tup {e : Expr} {es : List Expr} {a} {p : Pos} {l : Nat} {env : PySem.Env} : swapsWithSole [.Tuple es a p] e l env = pure false := by
  cases e <;> rfl
theorem sole_no {e tg : Expr} {l : Nat} {env : PySem.Env} (h : isComp e = false) : swapsWithSole [tg] e l env = pure false := swaps_no h
section
variable {Z : Sit} {M : Nm} {N : List Str} {P : Prog} {Γ : Env2} {k : Nat}
theorem ps_of {X : Cx} {st : Stmt} {m m' : Env → Store → SRes} (h : PS X st (tsOf Z m)) (q : ∀ ρ S, m' ρ S = m ρ S) : PS X st (tsOf Z m') := by
  have : m' = m := funext fun ρ => funext fun S => q ρ S
  rw [this]
  exact h
theorem d_of {α : Type} {ρ : Env} {r : Res α} {f : α → Store → SRes} (h : ∀ a S, (∃ ρ' S', f a S = .nxt ρ' S') ∨ (∃ x ρ' S', f a S = .exc x ρ' S') ∨ f a S = .bad) : (∃ ρ' S', SRes.of ρ r f = .nxt ρ' S') ∨ (∃ x ρ' S', SRes.of ρ r f = .exc x ρ' S') ∨ SRes.of ρ r f = .bad := by
  cases r with
  | ok a S => exact h a S
  | exc x S => exact .inr (.inl ⟨_, _, _, rfl⟩)
  | bad => exact .inr (.inr rfl)
theorem d_optS {o : Option Store} {ρ : Env} : (∃ ρ' S', optS o ρ = .nxt ρ' S') ∨ (∃ x ρ' S', optS o ρ = .exc x ρ' S') ∨ optS o ρ = .bad := by
  cases o with
  | some S => exact .inl ⟨_, _, rfl⟩
  | none => exact .inr (.inr rfl)
theorem d_optR {o : Option Env} {S : Store} : (∃ ρ' S', optR o S = .nxt ρ' S') ∨ (∃ x ρ' S', optR o S = .exc x ρ' S') ∨ optR o S = .bad := by
  cases o with
  | some S => exact .inl ⟨_, _, rfl⟩
  | none => exact .inr (.inr rfl)
theorem never_ok {X : Cx} {c : SC} (o : XOk X Z M N P Γ k c) : PassesOwn (model X.prog X.w) X.A X.env X.xe := by
  rw [o.pf.xe]
  exact PassesOwn.never
theorem ss_nev {X : Cx} {sts : List Stmt} : PSs X sts (tsOf Z (denSs whlL Γ [.nev])) := ⟨fun pins s σ H D I ⟨W, ρ, S, R, E, h⟩ => absurd h (fun z => by
  have e : denSs whlL Γ [.nev] ρ S = .bad := rfl
  rw [e] at z
  exact z)⟩
/-- a, b = x, y -/
theorem swapped_ok {env : PySem.Env} {x y : Str} {px py pt pt2 : Pos} {kt k2} {a b : Expr} (hk : env.scope.kind = .function) (hx : env.scope.names.lookup x = some .local) (hy : env.scope.names.lookup y = some .local) (hxy : x ≠ y) (hl : (px.line == py.line) = true)
    (hf : ([a, b].all (foldedForSure 8)) = false) (hc : ([a, b].all (constantsAlone 8)) = false) (na : nStar a) (nb : nStar b) : swappedStores [.Tuple [.Name x px, .Name y py] kt pt] (.Tuple [a, b] k2 pt2) env = pure (some [x, y]) := by
  have kx : env.kindOf x = some .local := hx
  have ky : env.kindOf y = some .local := hy
  have hb : env.blockKind = .function := by
    unfold Env.blockKind
    rw [hk] <;> rfl
  have e : py.line = px.line := (eq_of_beq hl).symm
  have st : ∀ {e : Expr}, nStar e → (match e with | .Starred .. => true | _ => false) = false := fun {e} h => by
    cases e <;> first | rfl | exact absurd rfl (h _ _)
  unfold swappedStores
  simp only [List.any_cons, List.any_nil, st na, st nb, hb, List.length_cons, List.length_nil, List.filterMap_cons, List.filterMap_nil, kx, ky, Expr.pos, List.head?_cons, Option.map_some, Option.getD_some, e, hf, hc]
  have d : [x, y].eraseDups.length = 2 := by
    have : (y == x) = false := beq_eq_false_iff_ne.mpr (Ne.symm hxy)
    simp [List.eraseDups_cons, List.filter_cons, this]
  simp [d]
  rintro (h | h)
  · cases a <;> first | exact absurd rfl (na _ _) | cases h
  · cases b <;> first | exact absurd rfl (nb _ _) | cases h
theorem s_par2 {X : Cx} {i j : Nat} {x y : Str} {e f : E} {a b : Expr} {px py pt pos : Pos} {kt k2 pt2} (hij : i ≠ j) (hc : X.calm = true) (hN : X.N.Nodup) (hi : X.N[i]? = some x) (hj : X.N[j]? = some y) (hx : X.env.scope.names.lookup x = some .local) (hy : X.env.scope.names.lookup y = some .local)
    (ha : PA X [a, b] (taOf Z (denEs Γ [e, f]))) (hw : swappedStores [.Tuple [.Name x px, .Name y py] kt pt] (.Tuple [a, b] k2 pt2) X.env = pure (some [x, y])) :
    PS X (.Assign [.Tuple [.Name x px, .Name y py] kt pt] (.Tuple [a, b] k2 pt2) pos) (tsOf Z (denS whlL Γ (.par [i, j] [e, f]))) := by
  refine ⟨fun pins s σ H D I ⟨W, ρ, S, R, E, h⟩ => ?_⟩
  have hd : denS whlL Γ (.par [i, j] [e, f]) ρ S = SRes.of ρ (denEs Γ [e, f] ρ S) fun vs S1 => optR (setAll [i, j] vs ρ) S1 := rfl
  rw [hd] at h
  cases hv : denEs Γ [e, f] ρ S with
  | bad =>
    rw [hv] at h
    exact absurd h (fun z => z)
  | exc z S1 =>
    rw [hv] at h
    exact absurd h (fun z => z)
  | ok vs S1 =>
    rw [hv] at h
    have h2 : ∃ v w, vs = [v, w] := by
      obtain ⟨v, S2, h1, h3⟩ := bind_ok (show (denE Γ e ρ S).bind (fun v S1 => (denEs Γ [f] ρ S1).bind fun vs S2 => .ok (v :: vs) S2) = .ok vs S1 from hv)
      obtain ⟨us, S3, h4, h5⟩ := bind_ok h3
      obtain ⟨w, S4, h6, h7⟩ := bind_ok (show (denE Γ f ρ S2).bind (fun v S1 => (denEs Γ [] ρ S1).bind fun vs S2 => .ok (v :: vs) S2) = .ok us S3 from h4)
      cases h7
      cases h5
      exact ⟨v, w, rfl⟩
    obtain ⟨v, w, rfl⟩ := h2
    refine (ps_par hc hN hi hj hij hx hy ha hw).run pins s σ H D I ⟨W, ρ, S, [v, w], S1, R, E, hv, fun W1 xs H1 x1 R1 r1 => ?_⟩
    cases r1 with
    | cons r1 r2 => cases r2 with
      | cons r2 r3 =>
        cases r3
        refine ⟨_, _, rfl, ?_⟩
        exact h W1 _ H1 x1 R1 (((x1.re E).set i r1).set j r2)
/-- name = e -/
theorem asg_name {X : Cx} {c : SC} (o : XOk X Z M N P Γ k c) {i : Nat} {e : E} {y : Str} {py pos : Pos} {ex : Expr} (hi : (N[i]? == some y) = true) (hl : locB c y = true) (he : ckE M N c e ex = true) (hs : (!isComp ex || (celB c y || swB c y py ex)) = true) :
    PS X (.Assign [.Name y py] ex pos) (tsOf Z (denS whlL Γ (.asg (.name i) e))) := by
  obtain ⟨l1, l2⟩ := o.loc hl
  have e1 : X.N[i]? = some y := by
    rw [o.hN]
    exact eq_of_beq hi
  have nd : X.N.Nodup := by
    rw [o.hN]
    exact o.nd
  by_cases hc : isComp ex = false
  · exact s_asg (d := fun ρ v S => .nxt (ρ.set i (some v)) S) (okE e ex c X o he).1 (g_name nd e1 l1 l2) (sole_no hc) rfl rfl fun ρ v S => .inl ⟨_, _, rfl⟩
  · have hc : isComp ex = true := by simpa using hc
    rw [hc] at hs
    replace hs : (celB c y || swB c y py ex) = true := hs
    rw [Bool.or_eq_true] at hs
    rcases hs with hs | hs
    · refine s_asg (d := fun ρ v S => .nxt (ρ.set i (some v)) S) (okE e ex c X o he).1 (g_name nd e1 l1 l2) ?_ rfl rfl fun ρ v S => .inl ⟨_, _, rfl⟩
      have hk : X.env.kindOf y = some .cell := by
        show X.env.scope.names.lookup y = some .cell
        rw [o.hs]
        unfold celB at hs
        split at hs <;> first | assumption | contradiction
      show swapsWith ex (some (.Name y py)) pos.line X.env = pure false
      have hf : ∀ z : Bool, (z && (some NameKind.cell == some NameKind.local)) = false := fun z => by cases z <;> rfl
      cases ex <;> first | rfl | (unfold swapsWith; simp only [hk, hf, Bool.false_and] <;> rfl)
    clear hc
    cases ex <;> try cases hs
    rename_i elt gs scope p
    obtain ⟨h1, h2⟩ := bool2 hs
    obtain ⟨h1, h3⟩ := bool2 h1
    obtain ⟨h1, h4⟩ := bool2 h1
    have hkind : X.env.scope.kind = .function := by
      rw [o.hs]
      split at h1 <;> first | assumption | contradiction
    have hloc : X.env.scope.names.lookup y = some .local := by
      rw [o.hs]
      split at h4 <;> first | assumption | contradiction
    have sw := sw_true (elt := elt) (gs := gs) (scope := scope) (pos := p) (py := py) (y := y) (l := pos.line) (env := X.env) hkind hloc h3 (by simpa using h2)
    cases e <;> try cases he
    case comp m t q es cs e' =>
      replace he : (match (generalizing := false) Expr.ListComp elt gs scope p with
        | .ListComp elt [⟨tg, iter, ifs, 0⟩] scope _ => ckI M N c q es tg iter && blkC N c.sc scope (ownOf N (own t)) && ctB N (blkS c scope) t tg && decide (cs.length ≤ 1) && ckEs M N (blkS c scope) cs ifs && ckE M N (blkS c scope) e' elt
        | _ => false) = true := he
      split at he <;> try contradiction
      rename_i elt' tg iter ifs scope' p' heq
      cases heq
      obtain ⟨h1, h2⟩ := bool2 he
      obtain ⟨h1, h3⟩ := bool2 h1
      obtain ⟨h1, h4⟩ := bool2 h1
      obtain ⟨h1, h5⟩ := bool2 h1
      obtain ⟨h1, h6⟩ := bool2 h1
      obtain ⟨qi, qf⟩ := okSrc q es tg iter c X o h1
      refine ps_of (s_setLc (t := t) (al := m) (mit := mSrc Γ q es) (mc := fun ρ S => denC Γ cs ρ S) (me := fun ρ S => denE Γ e' ρ S) o.pf.hK o.pf.hc nd e1 hloc sw qi (own' := ownOf N (own t)) (blkOk_by (by rw [o.hN, o.hs]; exact h6)) own_ok ?_ ?_ ?_ qf) ?_
      · exact fun s H C cl fp => ct_ok (o.blk s H scope C cl fp) h5
      · intro s H C cl fp
        exact okC cs ifs _ _ (o.blk s H scope C cl fp) (of_decide_eq_true h4) h3
      · exact fun s H C cl fp => (okE e' elt _ _ (o.blk s H scope C cl fp) h2).1
      · intro ρ S
        show SRes.of ρ ((denEs Γ es ρ S).bind fun vs S1 => (match walk S1 q vs with
          | some (xs, g) => (compL g t (fun ρ' S' => denC Γ cs ρ' S') (fun ρ' S' => denE Γ e' ρ' S') (wipeE ρ (own t)) xs [] S1).bind fun r S2 => alloc m (.lst r) S2
          | none => .bad)) _ = SRes.of ρ (((denEs Γ es ρ S).bind fun vs S1 => opt S1 (walk S1 q vs)).bind _) _
        cases denEs Γ es ρ S with
        | ok vs S1 =>
          show SRes.of ρ (match walk S1 q vs with
            | some (xs, g) => _
            | none => _) _ = SRes.of ρ ((opt S1 (walk S1 q vs)).bind _) _
          cases walk S1 q vs with
          | none => rfl
          | some r => rfl
        | exc x S => rfl
        | bad => rfl
    case dct m es =>
      cases es <;> cases he
theorem asg_sub {c : SC} {i : E} {b ix : Expr} {p : Pos} {env : PySem.Env} (h : ckE M N c i ix = true) : ∀ v, assign (.Subscript b ix p) env v = (do
    let ov ← holding [v] (eval b env)
    let iv ← holding [v, ov] (eval ix env)
    standAt p
    holding [v, ov, iv] (PySem.setItem ov iv v)
    release [v, ov, iv] []) := by
  intro v
  cases ix with
  | Slice a b d p =>
    exfalso
    cases i <;> first | cases h | (rename_i es; cases es <;> cases h)
  | _ => rfl
mutual
theorem okS : ∀ (s : Sm) (st : Stmt) (c : SC) (X : Cx), XOk X Z M N P Γ k c → ckS M N c s st = true → PS X st (tsOf Z (denS whlL Γ s))
  | .nev, st, c, X, o, h => by cases h
  | .asg t e, st, c, X, o, h => by
    cases st <;> try cases h
    rename_i tgs ex pos
    match tgs, h with
    | [tg], h =>
      cases t with
      | name i =>
        cases tg <;> try cases h
        rename_i y py
        obtain ⟨h1, h2⟩ := bool2 (show (N[i]? == some y && locB c y && ckE M N c e ex && (!isComp ex || (celB c y || swB c y py ex))) = true from h)
        obtain ⟨h1, h3⟩ := bool2 h1
        obtain ⟨h1, h4⟩ := bool2 h1
        exact asg_name o h1 h4 h3 h2
      | names is =>
        cases tg <;> try cases h
        rename_i es a p
        obtain ⟨h1, h2⟩ := bool2 (show (nmsB N c is es && !isTup ex && ckE M N c e ex) = true from h)
        obtain ⟨h1, h4⟩ := bool2 h1
        refine s_asg (d := fun ρ v S => optR (bindT S (.many is) v ρ) S) (okE e ex c X o h2).1 (g_ct o.pf.hK (ct_ok (t := .many is) o h1)) sole_tup ?_ rfl fun ρ v S => d_optR
        cases ex <;> first | rfl | (simp [isTup] at h4)
      | idx ob i =>
        cases tg <;> try cases h
        rename_i b ix p
        obtain ⟨h1, h2⟩ := bool2 (show (ckE M N c ob b && ckE M N c i ix && !isComp ex && ckE M N c e ex) = true from h)
        obtain ⟨h1, h3⟩ := bool2 h1
        obtain ⟨h1, h4⟩ := bool2 h1
        exact s_asg (okE e ex c X o h2).1 (g_idx (okE ob b c X o h1).1 (okE i ix c X o h4).1 (asg_sub h4)) (sole_no (by simpa using h3)) rfl rfl fun ρ v S => d_of fun a S => d_of fun b S => d_optS
      | fld ob x =>
        cases tg <;> try cases h
        rename_i b n p
        obtain ⟨h1, h2⟩ := bool2 (show (n == M.an x && M.fld x && ckE M N c ob b && !isComp ex && ckE M N c e ex) = true from h)
        obtain ⟨h1, h3⟩ := bool2 h1
        obtain ⟨h1, h4⟩ := bool2 h1
        obtain ⟨h1, h5⟩ := bool2 h1
        have e1 : n = Z.an x := (eq_of_beq h1).trans (o.pf.an x)
        subst e1
        exact s_fld o.pf.cl (fun cc hk => o.pf.na cc x hk h5) (okE e ex c X o h2).1 (okE ob b c X o h4).1 (swaps_no (by simpa using h3))
  | .par is es, st, c, X, o, h => by
    replace h : (match (generalizing := false) is, es, st with
      | [i, j], [e, f], .Assign [.Tuple [.Name x px, .Name y py] _ pt] (.Tuple [a, b] _ _) _ =>
        N[i]? == some x && N[j]? == some y && !(i == j) && !(x == y) && (match c.sc.kind with
          | .function => true
          | _ => false) && (match c.sc.names.lookup x, c.sc.names.lookup y with
          | some .local, some .local => true
          | _, _ => false) && px.line == py.line && !([a, b].all (foldedForSure 8)) && !([a, b].all (constantsAlone 8)) && ckE M N c e a && ckE M N c f b
      | _, _, _ => false) = true := h
    split at h <;> try contradiction
    rename_i i j e f x px y py kt pt a b k2 pt2 pos
    obtain ⟨h, hb⟩ := bool2 h
    obtain ⟨h, ha⟩ := bool2 h
    obtain ⟨h, h9⟩ := bool2 h
    obtain ⟨h, h8⟩ := bool2 h
    obtain ⟨h, h7⟩ := bool2 h
    obtain ⟨h, h6⟩ := bool2 h
    obtain ⟨h, h5⟩ := bool2 h
    obtain ⟨h, h4⟩ := bool2 h
    obtain ⟨h, h3⟩ := bool2 h
    obtain ⟨h1, h2⟩ := bool2 h
    have qa := okE e a c X o ha
    have qb := okE f b c X o hb
    have hk : X.env.scope.kind = .function := by
      rw [o.hs]
      split at h5 <;> first | assumption | contradiction
    have hl : X.env.scope.names.lookup x = some .local ∧ X.env.scope.names.lookup y = some .local := by
      rw [o.hs]
      split at h6 <;> first | contradiction | (constructor <;> assumption)
    have hxy : x ≠ y := by simpa using h4
    have nsa : nStar a := nStar_ok ha
    have nsb : nStar b := nStar_ok hb
    refine s_par2 (fun hij => by subst hij; simp at h3) o.pf.hc (by rw [o.hN]; exact o.nd) (by rw [o.hN]; exact eq_of_beq h1) (by rw [o.hN]; exact eq_of_beq h2) hl.1 hl.2 (AllP.pa (.two nsa qa nsb qb)) ?_
    exact swapped_ok hk hl.1 hl.2 hxy h7 (by simpa only [Bool.not_eq_true'] using h8) (by simpa only [Bool.not_eq_true'] using h9) nsa nsb
  | .expr e, st, c, X, o, h => by
    cases st <;> try cases h
    rename_i ex pos
    obtain ⟨h1, h2⟩ := bool2 (show (!isComp ex && ckE M N c e ex) = true from h)
    exact s_expr (okE e ex c X o h2).1 (swaps_no (by simpa using h1))
  | .ret e, st, c, X, o, h => by
    cases st <;> try cases h
    rename_i v pos
    cases v <;> try cases h
    exact s_ret (okE e _ c X o h).1
  | .retn, st, c, X, o, h => by
    cases st <;> try cases h
    rename_i v pos
    cases v <;> try cases h
    exact s_retn
  | .ife t a b, st, c, X, o, h => by
    cases st <;> try cases h
    rename_i x as bs pos
    obtain ⟨h1, h2⟩ := bool2 (show (ckE M N c t x && ckSs M N c a as && ckSs M N c b bs) = true from h)
    obtain ⟨h1, h3⟩ := bool2 h1
    exact s_if (okE t x c X o h1).2 (okSs a as c X o h3) (okSs b bs c X o h2)
  | .for_ t q es b, st, c, X, o, h => by
    cases st <;> try cases h
    rename_i tg it bs os pos
    cases os <;> try cases h
    obtain ⟨h1, h2⟩ := bool2 (show (ckI M N c q es tg it && ctB N c t tg && ckSs M N c b bs) = true from h)
    obtain ⟨h1, h3⟩ := bool2 h1
    obtain ⟨qi, qf⟩ := okSrc q es tg it c X o h1
    refine ps_of (s_for (mb := fun ρ S => denSs whlL Γ b ρ S) o.pf.hK (never_ok o) o.pf.hc qi (ct_ok o h3) (okSs b bs c X o h2) qf) fun ρ S => ?_
    show SRes.of ρ (denEs Γ es ρ S) (fun vs S1 => (match walk S1 q vs with
      | some (xs, g) => forL g t (fun ρ' S' => denSs whlL Γ b ρ' S') xs ρ S1
      | none => .bad)) = SRes.of ρ ((denEs Γ es ρ S).bind fun vs S1 => opt S1 (walk S1 q vs)) _
    cases denEs Γ es ρ S with
    | ok vs S1 =>
      show (match walk S1 q vs with
        | some (xs, g) => _
        | none => _) = SRes.of ρ (opt S1 (walk S1 q vs)) _
      cases walk S1 q vs with
      | none => rfl
      | some r => rfl
    | exc x S => rfl
    | bad => rfl
  | .whl t b, st, c, X, o, h => by
    cases st <;> try cases h
    rename_i x bs os pos
    cases os <;> try cases h
    obtain ⟨h1, h2⟩ := bool2 (show (ckE M N c t x && ckSs M N c b bs) = true from h)
    exact s_whl (never_ok o) (okE t x c X o h1).2 (okSs b bs c X o h2)
  | .brk, st, c, X, o, h => by
    cases st <;> try cases h
    exact s_brk
  | .cnt, st, c, X, o, h => by
    cases st <;> try cases h
    exact s_cnt
  | .pass, st, c, X, o, h => by
    cases st <;> try cases h
    exact s_pass
theorem okSs : ∀ (ss : List Sm) (sts : List Stmt) (c : SC) (X : Cx), XOk X Z M N P Γ k c → ckSs M N c ss sts = true → PSs X sts (tsOf Z (denSs whlL Γ ss))
  | [], [], c, X, o, h => ss_nil
  | s :: ss, st :: sts, c, X, o, h => by
    by_cases hn : s = .nev ∧ ss = []
    · obtain ⟨rfl, rfl⟩ := hn
      exact ss_nev
    have h : (ckS M N c s st && ckSs M N c ss sts) = true := by
      cases s <;> first | exact h | (cases ss <;> first | exact h | exact absurd ⟨rfl, rfl⟩ hn)
    obtain ⟨h1, h2⟩ := bool2 h
    exact ss_cons (okS s st c X o h1) (okSs ss sts c X o h2)
  | [], _ :: _, c, X, o, h => by cases h
  | s :: ss, [], c, X, o, h => by
    by_cases hn : s = .nev ∧ ss = []
    · obtain ⟨rfl, rfl⟩ := hn
      exact ss_nev
    exfalso
    cases s <;> first | (cases ss <;> first | exact hn ⟨rfl, rfl⟩ | (cases h; done)) | (cases h; done)
end
end
end FF
set_option Elab.async false
set_option linter.all false
set_option autoImplicit false
set_option maxRecDepth 100000
set_option maxHeartbeats 4000000
/-! SNM: the text's defs, one on another. -/
namespace FF
open PySem PySem.Spec PyProof.Rows L2 TL
/-! ### how plain parameters are bound -/
/-- plain parameters of these names -/
def parB (p : Arguments) (ps : List Str) : Bool := p.posonlyargs.isEmpty && p.vararg.isNone && p.kwonlyargs.isEmpty && p.kwarg.isNone && (p.args.map (·.arg) == ps) && decide ps.Nodup
theorem zip_lookup : ∀ {ps : List Str} {us : List Value} {i : Nat} {x : Str} {u : Value}, ps.Nodup → ps[i]? = some x → us[i]? = some u → (ps.zip us).lookup x = some u
  | [], _, _, _, _, _, h, _ => by simp at h
  | p :: ps, [], _, _, _, _, _, h => by simp at h
  | p :: ps, v :: us, 0, x, u, nd, h1, h2 => by
    simp at h1 h2
    subst h1 h2
    simp [List.lookup]
  | p :: ps, v :: us, i + 1, x, u, nd, h1, h2 => by
    have nd' := List.nodup_cons.mp nd
    have h1' : ps[i]? = some x := by simpa using h1
    have h2' : us[i]? = some u := by simpa using h2
    have hm : x ∈ ps := List.mem_of_getElem? h1'
    have hne : (x == p) = false := beq_eq_false_iff_ne.mpr fun e => nd'.1 (e ▸ hm)
    show ((p, v) :: ps.zip us).lookup x = some u
    rw [List.lookup_cons, hne]
    exact zip_lookup nd'.2 h1' h2'
theorem zip_all : ∀ {ps qs : List Str} {us vs : List Value}, (∀ (i : Nat) (x : Str) (u : Value), qs[i]? = some x → vs[i]? = some u → (ps.zip us).lookup x = some u) → qs.length = vs.length → qs.filterMap (fun n => ((ps.zip us).lookup n).map (n, ·)) = qs.zip vs
  | ps, [], us, [], h, _ => rfl
  | ps, q :: qs, us, v :: vs, h, hl => by
    have h0 := h 0 q v rfl rfl
    have ih := zip_all (ps := ps) (qs := qs) (us := us) (vs := vs) (fun i x u h1 h2 => h (i + 1) x u (by simpa using h1) (by simpa using h2)) (by simpa using hl)
    rw [List.filterMap_cons, h0]
    show (q, v) :: _ = (q, v) :: qs.zip vs
    rw [ih]
  | ps, [], us, _ :: _, h, hl => by simp at hl
  | ps, _ :: _, us, [], h, hl => by simp at hl
theorem zip_some {ps : List Str} {us : List Value} (nd : ps.Nodup) (hl : us.length = ps.length) {x : Str} (h : x ∈ ps) : ((ps.zip us).lookup x).isNone = false := by
  obtain ⟨i, hi, e⟩ := List.mem_iff_getElem.mp h
  have h1 : ps[i]? = some x := by rw [List.getElem?_eq_getElem hi, e]
  have h2 : us[i]? = some (us[i]'(by omega)) := List.getElem?_eq_getElem _
  rw [zip_lookup nd h1 h2]
  rfl
theorem bind_plain {x qual : Str} {params : Arguments} {body : List Stmt} {scope : Scope} {kV doc pm cdv ct : Value} {an : Option Addr} {ps : List Str} (h : parB params ps = true) (us : List Value) (hl : us.length = ps.length) :
    bindArgs (PySem.W.fnOf x qual params body scope .none kV doc pm an cdv ct) ⟨us, []⟩ = pure (ps.zip us) := by
  obtain ⟨po, as, va, ko, kd, ka, df⟩ := params
  unfold parB at h
  simp only [Bool.and_eq_true, List.isEmpty_iff, Option.isNone_iff_eq_none, beq_iff_eq, decide_eq_true_eq] at h
  obtain ⟨⟨⟨⟨⟨h1, h2⟩, h3⟩, h4⟩, h5⟩, h6⟩ := h
  subst h1 h2 h3 h4
  have hfil : (ps.filter fun n => ((ps.zip us).lookup n).isNone) = [] := by
    rw [List.filter_eq_nil_iff]
    intro n hn
    rw [zip_some h6 hl hn]
    simp
  have hmap : ps.filterMap (fun n => ((ps.zip us).lookup n).map (n, ·)) = ps.zip us := zip_all (fun i x u a b => zip_lookup h6 a b) hl.symm
  have e0 : seqItems? Value.none = pure none := rfl
  unfold bindArgs
  simp only [PySem.W.fnOf, List.map_nil, List.nil_append, h5, e0, pure_bind, List.forIn_nil]
  simp [hl, hfil, hmap]

theorem zip_snoc {qs : List Str} {us : List Value} {x : Str} {d : Value} (hl : us.length = qs.length) : (qs ++ [x]).zip (us ++ [d]) = qs.zip us ++ [(x, d)] := by
  rw [List.zip_append hl.symm]
  rfl
theorem bind_one {x qual : Str} {params : Arguments} {body : List Stmt} {scope : Scope} {T : Addr} {kV doc pm cdv ct : Value} {an : Option Addr} {ps : List Str} (h : parB params ps = true) (hp : ps ≠ []) (n : Nat) (hn : n ≤ ps.length) (hn2 : ps.length ≤ n + 1) (us its : List Value) (hu : us.length = n) (hi : its.length = 1) :
    ∃ k, bindArgs (PySem.W.fnOf x qual params body scope (.ref T) kV doc pm an cdv ct) ⟨us, []⟩ = seqItems? (.ref T) >>= k ∧ k (some its.toArray) = pure (ps.zip (us ++ its.drop (n + 1 - ps.length))) := by
  obtain ⟨po, as, va, ko, kd, ka, df⟩ := params
  unfold parB at h
  simp only [Bool.and_eq_true, List.isEmpty_iff, Option.isNone_iff_eq_none, beq_iff_eq, decide_eq_true_eq] at h
  obtain ⟨⟨⟨⟨⟨h1, h2⟩, h3⟩, h4⟩, h5⟩, h6⟩ := h
  subst h1 h2 h3 h4
  obtain ⟨d, rfl⟩ : ∃ d, its = [d] := by
    match its, hi with
    | [d], _ => exact ⟨d, rfl⟩
  refine ⟨_, by
    unfold bindArgs
    simp only [PySem.W.fnOf, List.map_nil, List.nil_append, h5, pure_bind, List.forIn_nil]
    rfl, ?_⟩
  obtain ⟨qs, y, rfl⟩ : ∃ qs y, ps = qs ++ [y] := ⟨ps.dropLast, ps.getLast hp, (List.dropLast_concat_getLast hp).symm⟩
  have nd := List.nodup_append.mp h6
  have hy : y ∉ qs := fun hm => (nd.2.2 y hm y (List.mem_singleton.mpr rfl)) rfl
  simp only [List.length_append, List.length_cons, List.length_nil] at hn hn2
  have l1 : (qs ++ [y]).length = qs.length + 1 := by simp
  have dr : (qs ++ [y]).drop qs.length = [y] := by simp
  have tk : (qs ++ [y]).take qs.length = qs := by simp
  have ln : ((qs ++ [y]).length - ([d] : List Value).length) = qs.length := by simp
  by_cases hc : n = qs.length + 1
  · -- all are told
    have hl : us.length = (qs ++ [y]).length := by rw [hu, hc, l1]
    have hfil : (qs.filter fun n => (((qs ++ [y]).zip us).lookup n).isNone) = [] := by
      rw [List.filter_eq_nil_iff]
      intro z hz
      rw [zip_some h6 hl (List.mem_append_left _ hz)]
      simp
    have hmap : (qs ++ [y]).filterMap (fun n => (((qs ++ [y]).zip us).lookup n).map (n, ·)) = (qs ++ [y]).zip us := zip_all (fun i x u a b => zip_lookup h6 a b) hl.symm
    have hlast : (((qs ++ [y]).zip us).lookup y).isNone = false := zip_some h6 hl (by simp)
    have dj : ([d] : List Value).drop (n + 1 - (qs ++ [y]).length) = [] := by rw [l1, hc]; simp
    rw [dj, List.append_nil]
    simp [hl, hfil, hlast]
    rw [← List.filterMap_append, hmap]
  · have hn' : n = qs.length := by omega
    have hl : us.length = qs.length := by rw [hu, hn']
    have ez : (qs ++ [y]).zip us = qs.zip us := by
      have : us = us ++ [] := by simp
      rw [this, List.zip_append hl.symm]
      simp
    have hq : qs.Nodup := nd.1
    have hfil : (qs.filter fun n => ((qs.zip us).lookup n).isNone) = [] := by
      rw [List.filter_eq_nil_iff]
      intro z hz
      rw [zip_some hq hl hz]
      simp
    have hlast : (qs.zip us).lookup y = none := by
      rw [List.lookup_eq_none_iff]
      intro p hp'
      have := (List.of_mem_zip hp').1
      simp
      rintro rfl
      exact hy this
    have hmap : (qs ++ [y]).filterMap (fun n => ((qs.zip us ++ [(y, d)]).lookup n).map (n, ·)) = (qs ++ [y]).zip (us ++ [d]) := by
      have e : qs.zip us ++ [(y, d)] = (qs ++ [y]).zip (us ++ [d]) := (zip_snoc hl).symm
      rw [e]
      exact zip_all (fun i x u a b => zip_lookup h6 a b) (by simp [hl])
    have dj : ([d] : List Value).drop (n + 1 - (qs ++ [y]).length) = [d] := by rw [l1, hn']; simp
    rw [dj]
    have hz : ¬ us.length > qs.length + 1 := by omega
    simp [hz, ez, hfil, hlast]
    rw [← List.filterMap_append]
    exact congrArg pure hmap
/-! ### all defs -/
/-- a def of the text, as it stands behind the top, and its check -/
structure FT (K : PySem.W.Frag) (Z : Sit) (M : Nm) (ps : List Str) (fd : FuncData) (f : Nat) (D : Def) : Prop where
  ex : ∃ (x qual : Str) (params : Arguments) (body : List Stmt) (scope : Scope) (dvs : List V) (kws : List (Str × V)) (N : List Str), FunD K x qual params body scope dvs kws (Z.fad f) fd ∧ FnScope N ps scope ∧ ps.length = D.np ∧ N.length = D.ns ∧ ckSs M N ⟨scope, fun _ => true⟩ D.body body = true ∧
    (∀ n, n ≤ D.np → D.np ≤ n + D.dfl.length → ∃ ds dvs, Vals dvs ds ∧ (∀ F ι N, RVs Z F ι N (D.dfl.drop (n + D.dfl.length - D.np)) dvs) ∧ Binds K fd ps ds) ∧
    (D.dfl = [] → ∀ (s : Shared) (us : List Value), us.length = ps.length → BindsTo s fd ⟨us, []⟩ (ps.zip us))
/-- the text -/
structure TF (K : PySem.W.Frag) (mg : Str → Option Value) (Z : Sit) (M : Nm) (P : Prog) (PS : Nat → List Str) (FDs : Nat → FuncData) : Prop where
  hK : K = Z.K
  an : ∀ x, M.an x = Z.an x
  gfn : ∀ (g : Nat) f, P.globs[g]? = some (.fn f) → (∃ D, P.funs[f]? = some D) ∧ mg (M.gn g) = some (.ref (Z.fad f)) ∧ PySem.W.keepIn K (.ref (Z.fad f)) = true ∧ Z.ad g = Z.fad f
  gcl : ∀ (g : Nat) c, P.globs[g]? = some (.cls c) → mg (M.gn g) = some (.ref (Z.cad c)) ∧ Z.ad g = Z.cad c
  cgl : ∀ (c g : Nat), M.cg c = some g → P.globs[g]? = some (.cls c)
  mko : ∀ (c : Nat) kl, P.clss[c]? = some kl → kl.ini = none → Z.kn c ∧ MkO K (Z.cad c)
  gco : ∀ (g : Nat) v, P.globs[g]? = some (.con v) → ∃ u y, mg (M.gn g) = some u ∧ RelV y u ∧ ∀ F ι N, RV Z F ι N v y
  mkr : ∀ (c : Nat) kl f, P.clss[c]? = some kl → kl.ini = some f → Z.kn c ∧ Mk K (Z.cad c) (Z.fad f) ∧ ∃ D, P.funs[f]? = some D
  me : ∀ (c : Nat) kl x f, P.clss[c]? = some kl → Z.kn c → look x kl.meths = some f → Meth K (Z.cad c) (Z.an x) (Z.fad f) ∧ ∃ D, P.funs[f]? = some D
  cl : ∀ c, Z.kn c → Cls K (Z.cad c)
  na : ∀ c x, Z.kn c → M.fld x = true → NoAttr K (Z.cad c) (Z.an x)
  kit : ∀ call init, KitOk Z (P.env call init).ini (P.env call init).anc
  bl : ∀ s ∈ bns, mg (s : Str) = none
  ft : ∀ f D, P.funs[f]? = some D → FT K Z M (PS f) (FDs f) f D
section
variable {Pr : Program} {w : World} {K : PySem.W.Frag} {mg : Str → Option Value} {base : Heap} {Z : Sit} {M : Nm} {P : Prog} {PS : Nat → List Str} {FDs : Nat → FuncData}
/-- a def's promise at a depth -/
def Deep (Pr : Program) (w : World) (K : PySem.W.Frag) (mg : Str → Option Value) (base : Heap) (Z : Sit) (P : Prog) (PS : Nat → List Str) (FDs : Nat → FuncData) (d : Nat) (call : Nat → List PV → Store → Res PV) : Prop :=
  ∀ f D, P.funs[f]? = some D → (FnOk Pr w K mg base L2.CX0 d (Z.fad f) (FDs f) (PS f) (spF Z D.np (call f)) ∧
    (∀ n, n ≤ D.np → D.np ≤ n + D.dfl.length → ∃ ds dvs, Vals dvs ds ∧ (∀ F ι N, RVs Z F ι N (D.dfl.drop (n + D.dfl.length - D.np)) dvs) ∧ Binds K (FDs f) (PS f) ds) ∧
    (D.dfl = [] → ∀ (s : Shared) (us : List Value), us.length = (PS f).length → BindsTo s (FDs f) ⟨us, []⟩ ((PS f).zip us))) ∧ Fills D.np D.dfl (call f)
theorem fill_full {D : Def} {vs ws : List PV} (h : fill D vs = some ws) : vs.length ≤ D.np ∧ D.np ≤ vs.length + D.dfl.length ∧ ws = vs ++ D.dfl.drop (vs.length + D.dfl.length - D.np) ∧ fill D ws = some ws := by
  unfold fill at h
  split at h <;> try contradiction
  rename_i hc
  cases h
  rw [Bool.and_eq_true, decide_eq_true_eq, decide_eq_true_eq] at hc
  refine ⟨hc.1, hc.2, rfl, ?_⟩
  unfold fill
  have hl : (vs ++ D.dfl.drop (vs.length + D.dfl.length - D.np)).length = D.np := by
    rw [List.length_append, List.length_drop]
    omega
  rw [hl]
  have : D.np + D.dfl.length - D.np = D.dfl.length := by omega
  rw [this, List.drop_length, List.append_nil]
  simp
theorem deep_bad (T : TF K mg Z M P PS FDs) (d : Nat) : Deep Pr w K mg base Z P PS FDs d fun _ _ _ => .bad := fun f D hD => by
  obtain ⟨x, qual, params, body, scope, dvs, kws, N, F, S, h1, h2, h3, h4⟩ := (T.ft f D hD).ex
  refine ⟨⟨⟨fun vs H Q E h => ?_, fun A outer s H args us vs Q E _ _ _ _ h => ?_⟩, h4⟩, fun vs S v S' h => ?_⟩
  · obtain ⟨_, _, _, _, _, _, _, _, z, _⟩ := h
    cases z
  · obtain ⟨_, _, _, _, _, _, _, _, z, _⟩ := h
    cases z
  · cases h
theorem env_call {call init : Nat → List PV → Store → Res PV} : (P.env call init).call = call := rfl
theorem re_start {W : Wd} {N : List Str} {n ns : Nat} {ps : List PV} {vs : List V} (r : RVs Z W.F W.ι n ps vs) (hl : N.length = ns) {np : Nat} (hp : ps.length = np) : RE Z W n (ps.map some ++ List.replicate (ns - np) none) (L2.start N vs) := by
  have el := r.length
  unfold L2.start
  rw [hl, ← el, hp]
  refine ⟨by simp [el], fun i v h => ?_⟩
  by_cases hi : i < ps.length
  · rw [List.getElem?_append_left (by simpa using hi), List.getElem?_map] at h
    obtain ⟨p, h1, h2⟩ := Option.map_eq_some_iff.mp h
    cases h2
    obtain ⟨y, h3, h4⟩ := r.get h1
    refine ⟨y, ?_, h4⟩
    rw [List.getElem?_append_left (by rw [List.length_map, ← el]; exact hi), List.getElem?_map, h3]
    rfl
  · rw [List.getElem?_append_right (by simpa using hi)] at h
    have := List.mem_of_getElem? h
    rw [List.mem_replicate] at this
    cases this.2
/-- a def, those that it calls being served -/
theorem deep_run (T : TF K mg Z M P PS FDs) {k : Nat} {call init : Nat → List PV → Store → Res PV} (hc : Deep Pr w K mg base Z P PS FDs k call) (hi : (∃ j, j + 1 ≤ k ∧ Deep Pr w K mg base Z P PS FDs j init) ∨ ∀ f vs S, init f vs S = .bad) :
    Deep Pr w K mg base Z P PS FDs (k + 1) (runDef whlL P call init) := fun f D hD => by
  obtain ⟨x, qual, params, body, scope, dvs, kws, N, F, S, h1, h2, h3, h4⟩ := (T.ft f D hD).ex
  have run : ∀ vs S v S', runDef whlL P call init f vs S = .ok v S' → ∃ ws, fill D vs = some ws ∧ outOf (denSs whlL (P.env call init) D.body (ws.map some ++ List.replicate (D.ns - D.np) none) S) = .ok v S' := fun vs S v S' h => by
    unfold runDef at h
    rw [hD] at h
    dsimp only at h
    split at h <;> try contradiction
    rename_i ws hw
    exact ⟨ws, hw, h⟩
  refine ⟨⟨F.ok S (fun vs H Q E h => ?_) (fun cdv A outer s H vs Q E hr h => ?_), h4⟩, fun vs S v S' h => ?_⟩
  · obtain ⟨_, _, _, _, _, _, r, hl, _⟩ := h
    rw [← r.length, hl, h1]
  · obtain ⟨W, St, pv, v, S', R, r, hl, hm, kk⟩ := h
    obtain ⟨ws, hw, hm2⟩ := run _ _ _ _ hm
    clear hm
    have ew : ws = pv := by
      obtain ⟨_, _, e, _⟩ := fill_full hw
      rw [e, hl]
      have : D.np + D.dfl.length - D.np = D.dfl.length := by omega
      rw [this, List.drop_length, List.append_nil]
    subst ew
    refine ⟨tsOf Z (denSs whlL (P.env call init) D.body), PSs.nox (okSs (M := M) (N := N) (P := P) (k := k) D.body body ⟨scope, fun _ => true⟩ _ ⟨⟨T.hK, rfl, rfl, hr, T.an, T.gfn, ?_, ?_, T.gcl, ?_, ?_, T.cgl, T.gco, ?_, T.cl, T.na, T.kit call init, T.bl⟩, rfl, S.nd, rfl, rfl⟩ h3), W, _, St, R, re_start r h2 hl, ?_⟩
    · intro g E hE
      obtain ⟨⟨q1, q3, _⟩, q2⟩ := hc g E hE
      exact ⟨⟨FDs g, PS g, q1, q3⟩, q2⟩
    · intro g E hE
      rcases hi with ⟨j, hj, hi⟩ | hb
      · obtain ⟨⟨q1, q3, _⟩, q2⟩ := hi g E hE
        exact .inl ⟨j, hj, ⟨FDs g, PS g, q1, q3⟩, q2⟩
      · exact .inr (hb g)
    · intro c g hg
      have hg : (P.clss[c]?).map (·.ini) = some (some g) := hg
      obtain ⟨kl, h5, h6⟩ := Option.map_eq_some_iff.mp hg
      exact T.mkr c kl g h5 h6
    · intro c hg
      have hg : (P.clss[c]?).map (·.ini) = some none := hg
      obtain ⟨kl, h5, h6⟩ := Option.map_eq_some_iff.mp hg
      exact T.mko c kl h5 h6
    · intro c y g hk hg
      have hg : ((P.clss[c]?).bind fun k => look y k.meths) = some g := hg
      obtain ⟨kl, h5, h6⟩ := Option.bind_eq_some_iff.mp hg
      exact T.me c kl y g h5 hk h6
    · revert hm2
      generalize denSs whlL (P.env call init) D.body (ws.map some ++ List.replicate (D.ns - D.np) none) St = rr
      intro hm2
      cases rr with
      | nxt ρ' S2 =>
        cases hm2
        exact fun W' σ' H' x R' _ => kk W' .non H' x R' .non
      | ret u S2 =>
        cases hm2
        exact fun W' y H' x R' ry => kk W' y H' x R' ry
      | brk ρ' S2 => cases hm2
      | cnt ρ' S2 => cases hm2
      | exc x ρ' S2 => cases hm2
      | bad => cases hm2
  · obtain ⟨ws, hw, hm⟩ := run _ _ _ _ h
    obtain ⟨e1, e2, e3, e4⟩ := fill_full hw
    refine ⟨e1, e2, ?_⟩
    rw [← e3]
    unfold runDef
    rw [hD]
    dsimp only
    rw [e4]
    exact hm
theorem deep_all (T : TF K mg Z M P PS FDs) : ∀ d, Deep Pr w K mg base Z P PS FDs d (callD P d) ∧ Deep Pr w K mg base Z P PS FDs (d + 1) (callD P (d + 1))
  | 0 => ⟨deep_bad T 0, deep_run T (deep_bad T 0) (.inr fun _ _ _ => rfl)⟩
  | d + 1 => by
    obtain ⟨a, b⟩ := deep_all T d
    refine ⟨b, ?_⟩
    exact deep_run T b (.inl ⟨d, Nat.le_refl _, a⟩)
/-- the law's def: what the evaluator says of it -/
theorem deep_fn (T : TF K mg Z M P PS FDs) (d : Nat) : Deep Pr w K mg base Z P PS FDs d (callD P d) := (deep_all T d).1
end
end FF
set_option Elab.async false
set_option linter.all false
set_option autoImplicit false
set_option maxRecDepth 100000
set_option maxHeartbeats 400000
/-! SNN: what the head tells of the text. -/
namespace FF
open PySem PySem.Spec PyProof.Rows L2 TL
/-! ### the objects that are looked at: no list among them -/
def lsB (o : Obj) : Bool := match o.cls with
  | .type c => c == "list"
  | _ => false
def frX (g : Addr → Option Obj) (as : List Addr) : PySem.W.Frag := as.filterMap fun a => match g a with
  | some o => if lsB o then none else some (a, o)
  | none => none
theorem frX_at {g : Addr → Option Obj} {a : Addr} {o : Obj} : ∀ as : List Addr, (frX g as).lookup a = some o → g a = some o ∧ lsB o = false
  | [], e => nomatch (show (none : Option Obj) = some o from e)
  | b :: r, e => by
    unfold frX at e
    rw [List.filterMap_cons] at e
    cases hb : g b with
    | none =>
      rw [hb] at e
      exact frX_at r e
    | some u =>
      rw [hb] at e
      cases hl : lsB u with
      | true =>
        simp only [hl, if_true] at e
        exact frX_at r e
      | false =>
        simp only [hl, Bool.false_eq_true, if_false] at e
        rw [List.lookup_cons] at e
        cases hq : a == b with
        | true =>
          rw [hq] at e
          cases e
          have : a = b := eq_of_beq hq
          rw [this]
          exact ⟨hb, hl⟩
        | false =>
          rw [hq] at e
          exact frX_at r e
def obsX (xk : PySem.W.Frag → Bool) (fn : List He.DefD) (K : PySem.W.Frag) : He.AlD := (xk K && fn.all fun d => d.ok K, fn.map fun d => He.fnW K d.at_)
def SaysX (xk : PySem.W.Frag → Bool) (fn : List He.DefD) (K : PySem.W.Frag) : Prop := (∀ a o, K.lookup a = some o → lsB o = false) ∧ obsX xk fn K = He.valD fn
def obsXG (n : Nat) (xk : PySem.W.Frag → Bool) (fn : List He.DefD) (g : Addr → Option Obj) : He.AlD := obsX xk fn (frX g (He.asD g n))
def hookX (n : Nat) (xk : PySem.W.Frag → Bool) (fn : List He.DefD) : PySem.W.Hook where
  α := He.AlD
  obs := fun s => obsXG n xk fn s.heap.get?
  val := fun _ => He.valD fn
  says := fun _ h => ∃ K : PySem.W.Frag, K.In h ∧ SaysX xk fn K
  of := fun _ _ e => ⟨_, fun _ _ z => (frX_at _ z).1, fun _ _ z => (frX_at _ z).2, e⟩
  keeps := fun _ _ _ ⟨K, hK, c⟩ k => ⟨K, PySem.W.Frag.In.keeps hK k, c⟩
theorem obsXG_eq {n : Nat} {xk : PySem.W.Frag → Bool} {fn : List He.DefD} {g : Addr → Option Obj} {s : Shared} (h : ∀ a, g a = s.heap.get? a) : obsXG n xk fn g = (hookX n xk fn).obs s := by
  have e : g = s.heap.get? := funext h
  rw [e] <;> rfl
section
variable {xk : PySem.W.Frag → Bool} {fn : List He.DefD} {K : PySem.W.Frag}
theorem SaysX.x1 (c : SaysX xk fn K) : xk K = true := (He.ba (show (xk K && fn.all fun d => d.ok K) = true from congrArg (fun z : He.AlD => z.1) c.2)).1
theorem SaysX.def_ (c : SaysX xk fn K) (i : Nat) {d : He.DefD} (h : fn[i]? = some d) : ∃ fd, FunD K d.name d.qual d.params d.body d.scope (d.dvs K) (d.kws K) (He.fAd K d.at_) fd := by
  have c2 := (He.ba (show (xk K && fn.all fun d => d.ok K) = true from congrArg (fun z : He.AlD => z.1) c.2)).2
  have e : fn.map (fun d => He.fnW K d.at_) = fn.map He.DefD.val := congrArg (fun z : He.AlD => z.2) c.2
  have e2 : (fn.map fun d => He.fnW K d.at_)[i]? = (fn.map He.DefD.val)[i]? := by rw [e]
  rw [List.getElem?_map, List.getElem?_map, h] at e2
  exact He.DefD.funD (Option.some.inj e2) (List.all_eq_true.mp c2 d (List.mem_of_getElem? h))
end
/-! ### constants of the module -/
mutual
def conK (K : PySem.W.Frag) : PV → Value → Bool
  | .non, u => (match u with
    | .none => true
    | _ => false)
  | .bl b, u => (match u with
    | .bool c => b == c
    | _ => false)
  | .int i, u => (match u with
    | .int j _ => decide (i = j)
    | _ => false)
  | .str x, u => (match u with
    | .str y _ => decide (x = y.cps.toList)
    | _ => false)
  | .tup xs, u => (match u with
    | .ref T => (match K.lookup T with
      | some ⟨.type c, _, .seq its _, _⟩ => decide (c = "tuple") && (decide (its.size ≤ sizeLine) && conKs K xs its.toList)
      | _ => false)
    | _ => false)
  | _, _ => false
def conKs (K : PySem.W.Frag) : List PV → List Value → Bool
  | [], [] => true
  | x :: xs, u :: us => conK K x u && conKs K xs us
  | _, _ => false
end
mutual
theorem conK_ok {Z : Sit} : ∀ {v : PV} {u : Value}, conK Z.K v u = true → ∃ y, RelV y u ∧ ∀ F ι N, RV Z F ι N v y
  | .non, u, h => by
    cases u <;> try cases h
    exact ⟨.non, rfl, fun _ _ _ => .non⟩
  | .bl b, u, h => by
    cases u <;> try cases h
    rename_i c
    have e : b = c := eq_of_beq (show (b == c) = true from h)
    subst e
    exact ⟨.bl b, rfl, fun _ _ _ => .bl b⟩
  | .int i, u, h => by
    cases u <;> try cases h
    rename_i j t
    have e : i = j := of_decide_eq_true h
    subst e
    exact ⟨.int i, ⟨t, rfl⟩, fun _ _ _ => .int i⟩
  | .str x, u, h => by
    cases u <;> try cases h
    rename_i y t
    have e : x = y.cps.toList := of_decide_eq_true h
    subst e
    refine ⟨.str y, ⟨t, rfl⟩, fun F ι N => ?_⟩
    have q : RV Z F ι N (.str y.cps.toList) (.str ⟨y.cps.toList.toArray⟩) := .str _
    rw [show (⟨y.cps.toList.toArray⟩ : Str) = y from mk_tl y] at q
    exact q
  | .tup xs, u, h => by
    cases u <;> try cases h
    rename_i T
    replace h : (match Z.K.lookup T with
      | some ⟨.type c, _, .seq its _, _⟩ => decide (c = "tuple") && (decide (its.size ≤ sizeLine) && conKs Z.K xs its.toList)
      | _ => false) = true := h
    split at h <;> try contradiction
    rename_i c d its n sl hT
    obtain ⟨h1, h2⟩ := He.ba h
    obtain ⟨h3, h4⟩ := He.ba h2
    obtain ⟨vs, r, q⟩ := conKs_ok h4
    exact ⟨.ref T, rfl, fun F ι N => .ktup hT (congrArg Value.type (of_decide_eq_true h1)) rfl (of_decide_eq_true h3) r (q F ι N)⟩
  | .lst _, u, h => by cases u <;> cases h
  | .dct _ _, u, h => by cases u <;> cases h
  | .obj _ _ _, u, h => by cases u <;> cases h
  | .fn _, u, h => by cases u <;> cases h
  | .ref _, u, h => by cases u <;> cases h
theorem conKs_ok {Z : Sit} : ∀ {v : List PV} {u : List Value}, conKs Z.K v u = true → ∃ y, Vals y u ∧ ∀ F ι N, RVs Z F ι N v y
  | [], [], _ => ⟨[], .nil, fun _ _ _ => .nil⟩
  | x :: xs, u :: us, h => by
    obtain ⟨h1, h2⟩ := He.ba (show (conK Z.K x u && conKs Z.K xs us) = true from h)
    obtain ⟨y, r1, q1⟩ := conK_ok h1
    obtain ⟨ys, r2, q2⟩ := conKs_ok h2
    exact ⟨y :: ys, .cons r1 r2, fun F ι N => .cons (q1 F ι N) (q2 F ι N)⟩
  | [], _ :: _, h => by cases h
  | _ :: _, [], h => by cases h
end
/-! ### a law's data -/
/-- one def: where it stands, its name, its qualified name, its statement, its names (the parameters first) -/
structure MD where
  at_ : Str × Option Str
  name : Str
  qual : Str
  st : Stmt
  N : List Str
structure PD where
  P : Prog
  gn : List Str
  an : List Str
  fl : List Nat
  md : List MD
/-- attribute names, all different -/
def padN (i : Nat) : Str := ⟨Array.replicate (i + 100) 0⟩
def anOf (L : List Str) (i : Nat) : Str := L.getD i (padN i)
def anB (L : List Str) : Bool := decide L.Nodup && L.all fun x => decide (x.cps.size < 100)
theorem anOf_inj {L : List Str} (h : anB L = true) : ∀ x y, anOf L x = anOf L y → x = y := by
  obtain ⟨h1, h2⟩ := He.ba h
  have nd : L.Nodup := of_decide_eq_true h1
  have short : ∀ {i : Nat} (hi : i < L.length), (anOf L i).cps.size < 100 := fun {i} hi => by
    have e : anOf L i = L[i] := by simp [anOf, List.getD, hi]
    rw [e]
    exact of_decide_eq_true (List.all_eq_true.mp h2 _ (List.getElem_mem hi))
  have long : ∀ {i : Nat}, ¬ i < L.length → anOf L i = padN i := fun {i} hi => by
    simp [anOf, List.getD, List.getElem?_eq_none (Nat.le_of_not_lt hi)]
  have pl : ∀ i, (padN i).cps.size = i + 100 := fun i => by simp [padN]
  intro x y e
  by_cases hx : x < L.length <;> by_cases hy : y < L.length
  · have ex : anOf L x = L[x] := by simp [anOf, List.getD, hx]
    have ey : anOf L y = L[y] := by simp [anOf, List.getD, hy]
    rw [ex, ey] at e
    exact (List.getElem_inj nd).mp e
  · have a := short hx
    rw [e, long hy, pl] at a
    omega
  · have a := short hy
    rw [← e, long hx, pl] at a
    omega
  · rw [long hx, long hy] at e
    have := congrArg (fun z : Str => z.cps.size) e
    simp only [pl] at this
    omega
def PD.nm (D : PD) : Nm where
  gn := fun g => D.gn.getD g Str.empty
  an := anOf D.an
  fld := fun x => D.fl.contains x
  cg := fun c => (D.P.clss[c]?).bind fun k => match D.P.globs[k.g]? with
    | some (.cls c') => if c' = c then some k.g else none
    | _ => none
def PD.fad (D : PD) (K : PySem.W.Frag) (f : Nat) : Addr := match D.md[f]? with
  | some m => He.fAd K m.at_
  | none => 0
def PD.cad (D : PD) (K : PySem.W.Frag) (c : Nat) : Addr := match D.P.clss[c]? with
  | some k => He.ga K (D.gn.getD k.g Str.empty)
  | none => 0
def PD.ad (D : PD) (K : PySem.W.Frag) (g : Nat) : Addr := match D.P.globs[g]? with
  | some (.fn f) => D.fad K f
  | some (.cls c) => D.cad K c
  | _ => 0
def PD.sit (D : PD) (K : PySem.W.Frag) (h : anB D.an = true) : Sit where
  K := K
  ad := D.ad K
  cad := D.cad K
  an := anOf D.an
  fad := D.fad K
  kn := fun c => c < D.P.clss.length
  inj := anOf_inj h
def PD.ps (D : PD) (f : Nat) : List Str := match D.md[f]?, D.P.funs[f]? with
  | some m, some E => m.N.take E.np
  | _, _ => []
/-- defaults: scalars -/
def dvOf : PV → He.Dv
  | .bl b => .bl b
  | .int i => .int i
  | .str x => .str ⟨x.toArray⟩
  | _ => .non
def sclB : PV → Bool
  | .non => true
  | .bl _ => true
  | .int _ => true
  | .str _ => true
  | _ => false
theorem rv_dv {Z : Sit} {F : Hp} {ι : Nat → Addr} {N : Nat} {K : PySem.W.Frag} : ∀ {v : PV}, sclB v = true → RV Z F ι N v ((dvOf v).v K)
  | .non, _ => .non
  | .bl b, _ => .bl b
  | .int i, _ => .int i
  | .str x, _ => .str x
  | .tup _, h => by cases h
  | .lst _, h => by cases h
  | .dct _ _, h => by cases h
  | .obj _ _ _, h => by cases h
  | .fn _, h => by cases h
  | .ref _, h => by cases h
def PD.fn (D : PD) : List He.DefD := (D.md.zip D.P.funs).map fun p => ⟨p.1.at_, p.1.name, p.1.qual, defArgs p.1.st, defBody p.1.st, defScope p.1.st, p.2.dfl.map dvOf, []⟩
/-! ### the look at the objects -/
def nsB (K : PySem.W.Frag) (x : Str) (a : Addr) : Bool := He.eqO (PySem.W.nsIn K mainGlobals x) (some (some (.ref a)))
def PD.globB (D : PD) (K : PySem.W.Frag) : Bool := (List.range D.P.globs.length).all fun g => match D.P.globs[g]? with
  | some (.fn f) => nsB K (D.gn.getD g Str.empty) (D.fad K f) && PySem.W.keepIn K (.ref (D.fad K f)) && decide (f < D.P.funs.length)
  | some (.cls c) => nsB K (D.gn.getD g Str.empty) (D.cad K c)
  | some (.con v) => (match PySem.W.nsIn K mainGlobals (D.gn.getD g Str.empty) with
    | some (some u) => conK K v u
    | _ => false)
  | none => true
def methB (K : PySem.W.Frag) (C : Addr) (m : Str) (a : Addr) : Bool := He.eqO (PySem.W.findIn K (.ref C) m) (some (some (.ref a))) && (PySem.W.isFn K (.ref a) && PySem.W.keepIn K (.ref a))
def clsB (K : PySem.W.Frag) (C : Addr) : Bool := PySem.W.plainGet K C Str.empty && (PySem.W.hasDictIn K C && (PySem.W.plainOver K C && (He.eqO (PySem.W.findIn K (.ref C) "__setattr__") (some (some (.builtin "object.__setattr__"))) &&
  (He.eqO (PySem.W.findIn K (.ref C) "__class__") (some (some (.builtin "object.__class__"))) && (He.eqO (PySem.W.specialIn K (.builtin "object.__class__") "__get__") (some (some (.builtin "getset_descriptor.__get__"))) &&
  (decide (PySem.W.takesIn K (.builtin "object.__class__") = some true) && decide (PySem.W.mroIn K C (.type "object") = some true)))))))
def PD.clssB (D : PD) (K : PySem.W.Frag) : Bool := (List.range D.P.clss.length).all fun c => match D.P.clss[c]? with
  | some kl => clsB K (D.cad K c) && (D.fl.all fun x => He.eqO (PySem.W.findIn K (.ref (D.cad K c)) (anOf D.an x)) (some none)) && (match kl.ini with
    | some f => PySem.W.makesIn K (D.cad K c) && (He.eqO (PySem.W.findIn K (.ref (D.cad K c)) "__init__") (some (some (.ref (D.fad K f)))) && (PySem.W.isFn K (.ref (D.fad K f)) && PySem.W.keepIn K (.ref (D.cad K c)))) && decide (f < D.P.funs.length)
    | none => PySem.W.makesIn K (D.cad K c) && (He.eqO (PySem.W.findIn K (.ref (D.cad K c)) "__init__") (some (some (.builtin "object.__init__"))) && PySem.W.keepIn K (.ref (D.cad K c)))) && kl.meths.all fun p => methB K (D.cad K c) (anOf D.an p.1) (D.fad K p.2) && decide (p.2 < D.P.funs.length)
  | none => true
/-- one of each kind of values; all classes -/
def kinds (n : Nat) : List PV := [.non, .bl false, .int 0, .str [], .tup [], .lst [], .dct [] []] ++ (List.range n).map fun c => .obj c [] []
def tys (n : Nat) : List TyR := [.bty "bool", .bty "int", .bty "str", .bty "tuple", .bty "list", .bty "dict"] ++ (List.range n).map .cls
def PD.tyv (D : PD) (K : PySem.W.Frag) : PV → Value
  | .non => .type "NoneType"
  | .bl _ => .type "bool"
  | .int _ => .type "int"
  | .str _ => .type "str"
  | .tup _ => .type "tuple"
  | .lst _ => .type "list"
  | .dct _ _ => .type "dict"
  | .obj c _ _ => .ref (D.cad K c)
  | _ => .none
def PD.clv (D : PD) (K : PySem.W.Frag) : TyR → Value
  | .bty n => .type n
  | .cls c => .ref (D.cad K c)
def PD.kitB (D : PD) (K : PySem.W.Frag) : Bool := (kinds D.P.clss.length).all fun v => (tys D.P.clss.length).all fun t =>
  decide (PySem.W.kitOne K (D.tyv K v) (D.clv K t) = some (isOne (D.P.env (fun _ _ _ => .bad) fun _ _ _ => .bad).anc v t))
def PD.xk (D : PD) (K : PySem.W.Frag) : Bool := D.globB K && (D.clssB K && (D.kitB K && bns.all fun s => He.eqO (PySem.W.nsIn K mainGlobals (s : Str)) (some none)))
/-! ### the look at the text -/
def MD.chk (m : MD) (M : Nm) (D : Def) : Bool := match m.N.take D.np with
  | ps => scB m.N ps (defScope m.st) && parB (defArgs m.st) ps && decide (ps.length = D.np) && decide (m.N.length = D.ns) && (D.dfl.isEmpty || (decide (D.dfl.length = 1) && D.dfl.all sclB && decide (1 ≤ D.np))) && ckSs M m.N ⟨defScope m.st, fun _ => true⟩ D.body (defBody m.st)
where
  scB (N P : List Str) (sc : Scope) : Bool :=
    decide (sc.kind = .function) && !sc.isCoroutine && !sc.isGenerator && decide N.Nodup && decide (N.take P.length = P) && P.all (fun x => decide (sc.names.lookup x = some .local) || decide (sc.names.lookup x = some .cell)) && sc.names.all (fun y => !decide (y.2 = .free))
def PD.chk (D : PD) : Bool := anB D.an && decide (D.md.length = D.P.funs.length) && (D.md.zip D.P.funs).all fun p => p.1.chk D.nm p.2
theorem scB_ok {N P : List Str} {sc : Scope} (h : MD.chk.scB N P sc = true) : FnScope N P sc := by
  unfold MD.chk.scB at h
  simp only [Bool.and_eq_true, Bool.not_eq_true', decide_eq_true_eq, List.all_eq_true, Bool.or_eq_true, decide_eq_false_iff_not] at h
  obtain ⟨⟨⟨⟨⟨⟨h1, h2⟩, h3⟩, h4⟩, h5⟩, h6⟩, h7⟩ := h
  exact ⟨h1, h2, h3, h4, h5, h6, h7⟩

section
variable {D : PD} {K : PySem.W.Frag} {h : Heap} {mg : Str → Option Value}
theorem isOne_any {call init call' init' : Nat → List PV → Store → Res PV} {P : Prog} : (P.env call init).anc = (P.env call' init').anc := rfl
theorem kinds_of {n : Nat} {ini : Nat → Option (Option Nat)} (hi : ∀ c, (ini c).isSome = true → c < n) {anc : Nat → Nat → Bool} {K : PySem.W.Frag} (D : PD) : ∀ v, isKnown ini v = true → ∃ v' ∈ kinds n, D.tyv K v' = D.tyv K v ∧ ∀ t, isOne anc v' t = isOne anc v t
  | .non, _ => ⟨.non, by simp [kinds], rfl, fun t => by cases t <;> rfl⟩
  | .bl b, _ => ⟨.bl false, by simp [kinds], rfl, fun t => by cases t <;> rfl⟩
  | .int i, _ => ⟨.int 0, by simp [kinds], rfl, fun t => by cases t <;> rfl⟩
  | .str x, _ => ⟨.str [], by simp [kinds], rfl, fun t => by cases t <;> rfl⟩
  | .tup xs, _ => ⟨.tup [], by simp [kinds], rfl, fun t => by cases t <;> rfl⟩
  | .lst xs, _ => ⟨.lst [], by simp [kinds], rfl, fun t => by cases t <;> rfl⟩
  | .dct ks vs, _ => ⟨.dct [] [], by simp [kinds], rfl, fun t => by cases t <;> rfl⟩
  | .obj c ks vs, hk => ⟨.obj c [] [], by
      have := hi c hk
      simp [kinds, this], rfl, fun t => by cases t <;> rfl⟩
  | .fn g, hk => by cases hk
  | .ref n, hk => by cases hk
theorem tys_of {n : Nat} {ini : Nat → Option (Option Nat)} (hi : ∀ c, (ini c).isSome = true → c < n) : ∀ t, tOk ini t = true → t ∈ tys n
  | .bty s, hk => by
    have hk : (s == "bool" || s == "int" || s == "str" || s == "tuple" || s == "list" || s == "dict") = true := hk
    simp only [Bool.or_eq_true, beq_iff_eq] at hk
    rcases hk with ((((hk | hk) | hk) | hk) | hk) | hk <;> subst hk <;> simp [tys]
  | .cls c, hk => by
    have := hi c hk
    simp [tys, this]
theorem tf_of (hc : D.chk = true) (X : K.In h) (G : h.Ns mainGlobals mg) (c : SaysX D.xk D.fn K) : ∃ (Z : Sit) (FDs : Nat → FuncData), TF K mg Z D.nm D.P D.ps FDs ∧ Z.K = K ∧ Z.fad = D.fad K := by
  unfold PD.chk at hc
  obtain ⟨h1, h3⟩ := He.ba hc
  obtain ⟨h1, h2⟩ := He.ba h1
  have h2 : D.md.length = D.P.funs.length := of_decide_eq_true h2
  obtain ⟨x1, x2⟩ := He.ba c.x1
  obtain ⟨x2, x3⟩ := He.ba x2
  obtain ⟨x3, x4⟩ := He.ba x3
  have gl : ∀ (g : Nat) k, D.P.globs[g]? = some k → (match k with
    | .fn f => nsB K (D.gn.getD g Str.empty) (D.fad K f) && PySem.W.keepIn K (.ref (D.fad K f)) && decide (f < D.P.funs.length)
    | .cls c => nsB K (D.gn.getD g Str.empty) (D.cad K c)
    | .con v => (match PySem.W.nsIn K mainGlobals (D.gn.getD g Str.empty) with
      | some (some u) => conK K v u
      | _ => false)) = true := fun g k hk => by
    have := List.all_eq_true.mp x1 g (List.mem_range.mpr (List.getElem?_eq_some_iff.mp hk).1)
    rw [hk] at this
    cases k <;> exact this
  have cs : ∀ (c : Nat) kl, D.P.clss[c]? = some kl → (clsB K (D.cad K c) && (D.fl.all fun x => He.eqO (PySem.W.findIn K (.ref (D.cad K c)) (anOf D.an x)) (some none)) && (match kl.ini with
    | some f => PySem.W.makesIn K (D.cad K c) && (He.eqO (PySem.W.findIn K (.ref (D.cad K c)) "__init__") (some (some (.ref (D.fad K f)))) && (PySem.W.isFn K (.ref (D.fad K f)) && PySem.W.keepIn K (.ref (D.cad K c)))) && decide (f < D.P.funs.length)
    | none => PySem.W.makesIn K (D.cad K c) && (He.eqO (PySem.W.findIn K (.ref (D.cad K c)) "__init__") (some (some (.builtin "object.__init__"))) && PySem.W.keepIn K (.ref (D.cad K c)))) && kl.meths.all fun p => methB K (D.cad K c) (anOf D.an p.1) (D.fad K p.2) && decide (p.2 < D.P.funs.length)) = true := fun c kl hk => by
    have := List.all_eq_true.mp x2 c (List.mem_range.mpr (List.getElem?_eq_some_iff.mp hk).1)
    rw [hk] at this
    exact this
  have kn : ∀ c, c < D.P.clss.length → ∃ kl, D.P.clss[c]? = some kl := fun c hc => ⟨_, List.getElem?_eq_getElem hc⟩
  have cl5 : ∀ c, c < D.P.clss.length → clsB K (D.cad K c) = true ∧ (D.fl.all fun x => He.eqO (PySem.W.findIn K (.ref (D.cad K c)) (anOf D.an x)) (some none)) = true := fun c hc => by
    obtain ⟨kl, hk⟩ := kn c hc
    obtain ⟨a, _⟩ := He.ba (cs c kl hk)
    obtain ⟨a, _⟩ := He.ba a
    exact He.ba a
  have cls : ∀ c, c < D.P.clss.length → ClsOk K (D.cad K c) := fun c hc => by
    have a := (cl5 c hc).1
    unfold clsB at a
    obtain ⟨a1, a⟩ := He.ba a
    obtain ⟨a2, a⟩ := He.ba a
    obtain ⟨a3, a⟩ := He.ba a
    obtain ⟨a4, a⟩ := He.ba a
    obtain ⟨a5, a⟩ := He.ba a
    obtain ⟨a6, a⟩ := He.ba a
    obtain ⟨a7, a8⟩ := He.ba a
    exact ⟨⟨a1, a2, a3, He.eqO_ok a4⟩, He.eqO_ok a5, He.eqO_ok a6, of_decide_eq_true a7, of_decide_eq_true a8⟩
  have some_lt : ∀ {f : Nat}, f < D.P.funs.length → ∃ E, D.P.funs[f]? = some E := fun hf => ⟨_, List.getElem?_eq_getElem hf⟩
  have key0 : ∀ f E, D.P.funs[f]? = some E → ∃ fd, FT K (D.sit K h1) D.nm (D.ps f) fd f E := by
    intro f E hE
    have hf : f < D.md.length := by
      rw [h2]
      exact (List.getElem?_eq_some_iff.mp hE).1
    have hm : D.md[f]? = some D.md[f] := List.getElem?_eq_getElem hf
    have hz : (D.md[f], E) ∈ D.md.zip D.P.funs := by
      have : (D.md.zip D.P.funs)[f]? = some (D.md[f], E) := by
        rw [List.getElem?_zip_eq_some]
        exact ⟨hm, hE⟩
      exact List.mem_of_getElem? this
    have a := List.all_eq_true.mp h3 _ hz
    dsimp only at a
    generalize hmd : D.md[f] = m at a hm
    unfold MD.chk at a
    dsimp only at a
    obtain ⟨a, a6⟩ := He.ba a
    obtain ⟨a, a5⟩ := He.ba a
    obtain ⟨a, a4⟩ := He.ba a
    obtain ⟨a, a3⟩ := He.ba a
    obtain ⟨a1, a2⟩ := He.ba a
    have a3 : (m.N.take E.np).length = E.np := of_decide_eq_true a3
    obtain ⟨fd, F⟩ := c.def_ f (d := ⟨m.at_, m.name, m.qual, defArgs m.st, defBody m.st, defScope m.st, E.dfl.map dvOf, []⟩) (by
      unfold PD.fn
      have hzz : (D.md.zip D.P.funs)[f]? = some (m, E) := by
        rw [List.getElem?_zip_eq_some]
        exact ⟨hm, hE⟩
      rw [List.getElem?_map, hzz]
      rfl)
    have F : FunD K m.name m.qual (defArgs m.st) (defBody m.st) (defScope m.st) ((E.dfl.map dvOf).map (He.Dv.v K)) [] (D.fad K f) fd := by
      have e : D.fad K f = He.fAd K m.at_ := by
        unfold PD.fad
        rw [hm]
      rw [e]
      exact F
    have ep : D.ps f = m.N.take E.np := by
      unfold PD.ps
      rw [hm, hE]
    rw [ep]
    refine ⟨fd, m.name, m.qual, defArgs m.st, defBody m.st, defScope m.st, (E.dfl.map dvOf).map (He.Dv.v K), [], m.N, F, scB_ok a1, a3, of_decide_eq_true a4, a6, fun n hn1 hn2 => ?_, fun e5 s us hl => ?_⟩
    · rw [Bool.or_eq_true] at a5
      rcases a5 with a5 | a5
      · have e5 : E.dfl = [] := List.isEmpty_iff.mp a5
        rw [e5] at F
        refine ⟨[], [], .nil, fun _ _ _ => ?_, ?_⟩
        · rw [e5, List.drop_nil]
          exact .nil
        · exact F.bindsN fun kV doc pm an cdv ct us hl => bind_plain a2 us hl
      · obtain ⟨a5, a7⟩ := He.ba a5
        obtain ⟨a5, a8⟩ := He.ba a5
        have l5 : E.dfl.length = 1 := of_decide_eq_true a5
        have a7 : 1 ≤ E.np := of_decide_eq_true a7
        obtain ⟨v, e5⟩ : ∃ v, E.dfl = [v] := by
          match he : E.dfl, l5 with
          | [v], _ => exact ⟨v, rfl⟩
        rw [e5] at F a8 hn2 ⊢
        simp only [List.all_cons, List.all_nil, Bool.and_true] at a8
        simp only [List.length_cons, List.length_nil, Nat.zero_add] at hn2 ⊢
        have hps : m.N.take E.np ≠ [] := fun z => by
          rw [z] at a3
          simp at a3
          omega
        obtain ⟨ds, q1, q2⟩ := F.binds1 n (n + 1 - E.np) (by simp) (by
          rw [a3]
          simp
          omega) fun T kV doc pm an cdv ct us its hu hi => by
            have q := bind_one (x := m.name) (qual := m.qual) (params := defArgs m.st) (body := defBody m.st) (scope := defScope m.st) (T := T) (kV := kV) (doc := doc) (pm := pm) (cdv := cdv) (ct := ct) (an := an) a2 hps n (by rw [a3]; exact hn1) (by rw [a3]; exact hn2) us its hu (by simpa using hi)
            rw [a3] at q
            exact q
        refine ⟨ds, _, q1, fun _ _ _ => ?_, q2⟩
        by_cases hj : n + 1 - E.np = 0
        · rw [hj]
          exact .cons (rv_dv a8) .nil
        · have hj1 : n + 1 - E.np = 1 := by omega
          rw [hj1]
          exact .nil
    · rw [e5] at F
      exact F.bindsA (fun kV doc pm an cdv ct us hl => bind_plain a2 us hl) s us hl
  have key : ∀ f, ∃ fd, ∀ E, D.P.funs[f]? = some E → FT K (D.sit K h1) D.nm (D.ps f) fd f E := fun f => by
    cases hE : D.P.funs[f]? with
    | none => exact ⟨PySem.W.fnOf Str.empty Str.empty ⟨[], [], none, [], [], none, []⟩ [] ⟨.function, [], false, false, []⟩ .none .none .none .none none .none .none, fun E z => by cases z⟩
    | some E =>
      obtain ⟨fd, q⟩ := key0 f E hE
      exact ⟨fd, fun E' z => by cases z; exact q⟩
  refine ⟨D.sit K h1, fun f => Classical.choose (key f), ⟨rfl, fun _ => rfl, ?_, ?_, ?_, ?mko, ?_, ?_, ?_, fun c hk => (cls c hk).cl, ?_, ?_, ?_, ?_⟩, rfl, rfl⟩
  case mko =>
    intro c kl hk hf
    obtain ⟨a, _⟩ := He.ba (cs c kl hk)
    obtain ⟨_, a⟩ := He.ba a
    rw [hf] at a
    obtain ⟨a1, a⟩ := He.ba a
    obtain ⟨a2, a3⟩ := He.ba a
    exact ⟨(List.getElem?_eq_some_iff.mp hk).1, ⟨a1, He.eqO_ok a2, a3⟩⟩
  · intro g f hg
    have a := gl g _ hg
    obtain ⟨a, a3⟩ := He.ba a
    obtain ⟨a1, a2⟩ := He.ba a
    refine ⟨some_lt (of_decide_eq_true a3), PySem.W.mg_of X G (He.eqO_ok a1), a2, ?_⟩
    show D.ad K g = D.fad K f
    unfold PD.ad
    rw [hg]
  · intro g c hg
    have a := gl g _ hg
    refine ⟨PySem.W.mg_of X G (He.eqO_ok a), ?_⟩
    show D.ad K g = D.cad K c
    unfold PD.ad
    rw [hg]
  · intro c g hg
    have hg : ((D.P.clss[c]?).bind fun k => match D.P.globs[k.g]? with
      | some (.cls c') => if c' = c then some k.g else none
      | _ => none) = some g := hg
    obtain ⟨kl, h5, h6⟩ := Option.bind_eq_some_iff.mp hg
    split at h6 <;> try contradiction
    rename_i c' hc'
    split at h6 <;> try contradiction
    rename_i he
    cases h6
    rw [hc', he]
  · intro g v hg
    have a := gl g _ hg
    dsimp only at a
    split at a <;> try contradiction
    rename_i u hu
    obtain ⟨y, r, q⟩ := conK_ok (Z := D.sit K h1) a
    exact ⟨u, y, PySem.W.mg_of X G hu, r, q⟩
  · intro c kl f hk hf
    obtain ⟨a, _⟩ := He.ba (cs c kl hk)
    obtain ⟨_, a⟩ := He.ba a
    rw [hf] at a
    obtain ⟨a, a5⟩ := He.ba a
    obtain ⟨a1, a⟩ := He.ba a
    obtain ⟨a2, a⟩ := He.ba a
    obtain ⟨a3, a4⟩ := He.ba a
    exact ⟨(List.getElem?_eq_some_iff.mp hk).1, ⟨a1, He.eqO_ok a2, a3, a4⟩, some_lt (of_decide_eq_true a5)⟩
  · intro c kl x f hk _ hl
    obtain ⟨_, a⟩ := He.ba (cs c kl hk)
    have hm : (x, f) ∈ kl.meths := by
      revert hl
      generalize kl.meths = ms
      intro hl
      induction ms with
      | nil => cases hl
      | cons p ms ih =>
        obtain ⟨y, z⟩ := p
        unfold look at hl
        split at hl
        · rename_i hy
          cases hl
          rw [hy]
          exact List.mem_cons_self
        · exact List.mem_cons_of_mem _ (ih hl)
    have b := List.all_eq_true.mp a _ hm
    obtain ⟨b1, b2⟩ := He.ba b
    obtain ⟨b1, b3⟩ := He.ba b1
    obtain ⟨b3, b4⟩ := He.ba b3
    exact ⟨⟨He.eqO_ok b1, b3, b4⟩, some_lt (of_decide_eq_true b2)⟩
  · intro c x hk hx
    have a := (cl5 c hk).2
    exact He.eqO_ok (List.all_eq_true.mp a x (by simpa [PD.nm] using hx))
  · intro call init
    have ini_lt : ∀ c, ((D.P.env call init).ini c).isSome = true → c < D.P.clss.length := fun c hs => by
      have hs : ((D.P.clss[c]?).map (·.ini)).isSome = true := hs
      rw [Option.isSome_map] at hs
      obtain ⟨kl, hk⟩ := Option.isSome_iff_exists.mp hs
      exact (List.getElem?_eq_some_iff.mp hk).1
    refine ⟨fun c hs => cls c (ini_lt c hs), fun v t hv ht => ?_⟩
    obtain ⟨v', hm, e1, e2⟩ := kinds_of (anc := (D.P.env call init).anc) (K := K) ini_lt D v hv
    have q := of_decide_eq_true (List.all_eq_true.mp (List.all_eq_true.mp x3 v' hm) t (tys_of ini_lt t ht))
    rw [e1] at q
    have q2 : isOne (D.P.env (fun _ _ _ => .bad) fun _ _ _ => .bad).anc v' t = isOne (D.P.env call init).anc v t := e2 t
    rw [q2] at q
    have t1 : tyv (D.sit K h1) v = D.tyv K v := by cases v <;> rfl
    have t2 : clv (D.sit K h1) t = D.clv K t := by cases t <;> rfl
    rw [t1, t2]
    exact q
  · intro s hs
    exact PySem.W.mg_none_of X G (He.eqO_ok (List.all_eq_true.mp x4 s hs))
  · intro f E hE
    exact Classical.choose_spec (key f) E hE
theorem rvs_ints {Z : Sit} {F : Hp} {ι : Nat → Addr} {N : Nat} : ∀ ns : List Int, RVs Z F ι N (ns.map PV.int) (ns.map V.int)
  | [] => .nil
  | n :: ns => .cons (.int n) (rvs_ints ns)
/-- the law's def keeps its promise, if the evaluator says True -/
theorem law_fn {Pr : Program} {w : World} {fa : Addr} {d f n : Nat} {x law : Str} (hc : D.chk = true) (X : K.In h) (G : h.Ns mainGlobals mg) (c : SaysX D.xk D.fn K) (hmg : mg law = some (.ref fa))
    {E : Def} (hE : D.P.funs[f]? = some E) (hnp : E.np = 1) (hdf : E.dfl = []) (hx : D.ps f = [x]) {g : Nat} (hg : D.P.globs[g]? = some (.fn f)) (hgn : D.gn.getD g Str.empty = law)
    (hlaw : ∀ ns : List Int, ns.length ≤ n → ∃ S', callD D.P d f [.lst (ns.map PV.int)] [] = .ok (.bl true) S') :
    ∃ (fd : FuncData) (sp : Sp), (∀ (s : Shared) (u : Value), BindsTo s fd ⟨[u], []⟩ [(x, u)]) ∧
      (∀ (H : Hp) (a : Addr) (ns : List Int), ns.length ≤ n → Only H → SqL K H a (ns.map V.int) → sp [.ref a] H (fun v _ => v = .bl true) fun _ _ _ => False) ∧
      ∀ base : Heap, K.In base → base.Ns mainGlobals mg → FnOk Pr w K mg base L2.CX0 d fa fd [x] sp := by
  obtain ⟨Z, FDs, T, eK, ef⟩ := tf_of hc X G c
  have q := (T.gfn g f hg).2.1
  have e1 : D.nm.gn g = law := hgn
  rw [e1, hmg] at q
  have e2 : fa = Z.fad f := by
    cases q
    rfl
  subst e2
  obtain ⟨⟨F0, _, b0⟩, _⟩ := deep_fn (Pr := Pr) (w := w) (base := h) T d f E hE
  rw [hx] at b0
  refine ⟨FDs f, spF Z 1 (callD D.P d f), fun s u => b0 hdf s [u] rfl, fun H a ns hl hO hS => ?_, fun base KB GB => ?_⟩
  · obtain ⟨S', hr⟩ := hlaw ns hl
    have hH : ∃ o, H a = some o ∧ ((∃ vs, o = .lst vs ∧ vs = ns.map V.int) ∨ ∃ ob, o = .frz ob (.lst (ns.map V.int))) := by
      rcases hS with (hS | ⟨ob, hS⟩) | ⟨o, its, k, h1, h2, _⟩
      · exact ⟨_, hS, .inl ⟨_, rfl, rfl⟩⟩
      · exact ⟨_, hS, .inr ⟨ob, rfl⟩⟩
      · have := c.1 a o h1
        unfold lsB at this
        rw [h2] at this
        exact absurd this (by decide)
    obtain ⟨o, ho, hq⟩ := hH
    refine ⟨⟨fun b => if b = a then H b else none, fun _ => 0, fun _ => none⟩, [], [.lst (ns.map PV.int)], .bl true, S', ⟨fun b u hb => ?_, fun m v e => ?_, fun m hm => ?_, fun m m' hm => ?_, fun b u hb => ?_⟩, .cons ?_ .nil, rfl, hr, fun W' y H' _ R' ry => rv_bl ry⟩
    · have hb : (if b = a then H b else none) = some u := hb
      split at hb
      · exact hb
      · cases hb
    · simp at e
    · simp at hm
    · simp at hm
    · cases hb
    · have hF : (fun b => if b = a then H b else none) a = some o := by
        show (if a = a then H a else none) = some o
        rw [if_pos rfl]
        exact ho
      rcases hq with ⟨vs, rfl, rfl⟩ | ⟨ob, rfl⟩
      · exact .obj hF (.lst (rvs_ints ns))
      · exact .obj hF (.frz (rvs_ints ns))
  · obtain ⟨⟨F2, _, _⟩, _⟩ := deep_fn (Pr := Pr) (w := w) (base := base) T d f E hE
    rw [hx, hnp] at F2
    exact F2
end
end FF
set_option Elab.async false
set_option linter.all false
set_option autoImplicit false
set_option maxRecDepth 100000
/-! LW: the evaluator's laws that a plain proof uses. -/
namespace FF
open PySem L2
/-- one level down -/
def prevD (L : Loop) (P : Prog) : Nat → Nat → List PV → Store → Res PV
  | 0 => fun _ _ _ => .bad
  | d + 1 => callL L P d
theorem call_succ (L : Loop) (P : Prog) (d : Nat) : callL L P (d + 1) = runDef L P (callL L P d) (prevD L P d) := by
  cases d <;> rfl
@[simp] theorem bind_ok_ {α β : Type} (a : α) (S : Store) (f : α → Store → Res β) : (Res.ok a S).bind f = f a S := rfl
@[simp] theorem of_ok {α : Type} (ρ : Env) (a : α) (S : Store) (f : α → Store → SRes) : SRes.of ρ (.ok a S) f = f a S := rfl
@[simp] theorem seq_nxt (ρ : Env) (S : Store) (f : Env → Store → SRes) : (SRes.nxt ρ S).seq f = f ρ S := rfl
@[simp] theorem seq_ret (v : PV) (S : Store) (f : Env → Store → SRes) : (SRes.ret v S).seq f = .ret v S := rfl
@[simp] theorem opt_some {α : Type} (S : Store) (a : α) : opt S (some a) = .ok a S := rfl
@[simp] theorem out_ret (v : PV) (S : Store) : outOf (.ret v S) = .ok v S := rfl
@[simp] theorem out_nxt (ρ : Env) (S : Store) : outOf (.nxt ρ S) = .ok .non S := rfl
theorem within_one (c : Nat) (y : List Nat) : within [c] y = decide (c ∈ y) := SX.in_one y c
/-- a comprehension whose turns leave the store as it is -/
theorem compL_pure {g : Guard} {t : CT} {c e : Env → Store → Res PV} {ρ : Env} {S : Store} (f : PV → PV) (hg : intact g S = true) : ∀ (xs acc : List PV), acc.length + xs.length ≤ cap →
    (∀ x ∈ xs, ∃ ρ', bindT S t x ρ = some ρ' ∧ c ρ' S = .ok (.bl true) S ∧ e ρ' S = .ok (f x) S) → compL g t c e ρ xs acc S = .ok (acc ++ xs.map f) S
  | [], acc, _, _ => by
    unfold compL
    rw [if_pos hg]
    simp
  | x :: xs, acc, hl, h => by
    obtain ⟨ρ', h1, h2, h3⟩ := h x List.mem_cons_self
    unfold compL
    rw [if_pos hg, h1]
    dsimp only
    rw [h2]
    dsimp only [bind_ok_]
    rw [h3]
    dsimp only [bind_ok_]
    have ho : okI (acc.length + 1) = true := by
      unfold okI
      simp only [List.length_cons] at hl
      exact decide_eq_true (by omega)
    rw [if_pos ho, compL_pure f hg xs (acc ++ [f x]) (by simp only [List.length_append, List.length_cons, List.length_nil] at hl ⊢; omega) fun y hy => h y (List.mem_cons_of_mem _ hy)]
    simp
theorem okI_of {n : Nat} (h : n ≤ cap) : okI n = true := decide_eq_true h
end FF
namespace FF
open PySem L2
@[simp] theorem alloc_f (v : PV) (S : Store) : FF.alloc false v S = .ok v S := rfl
@[simp] theorem alloc_t (v : PV) (S : Store) : FF.alloc true v S = .ok (.ref S.length) (S ++ [v]) := rfl
theorem bools_map {α : Type} (p : α → Bool) : ∀ xs : List α, bools (xs.map fun x => .bl (p x)) = some (xs.map p)
  | [] => rfl
  | x :: xs => by
    show (bools (xs.map fun x => .bl (p x))).map _ = _
    rw [bools_map p xs]
    rfl
theorem cut_map {α β : Type} (f : α → β) (xs : List α) (lo hi : Option Int) : cut (xs.map f) lo hi = (cut xs lo hi).map f := by
  unfold cut
  rw [List.length_map, ← List.map_drop, ← List.map_take]
theorem cut_len {α : Type} (xs : List α) (lo hi : Option Int) : (cut xs lo hi).length ≤ xs.length := by
  unfold cut
  rw [List.length_take, List.length_drop]
  omega
theorem atI_in {α : Type} (xs : List α) (i : Int) (h0 : 0 ≤ i) (h1 : i < xs.length) : ∃ v, L2.atI xs i = some v ∧ v ∈ xs := by
  unfold L2.atI L2.ixN
  rw [if_pos h0, if_pos h1]
  have h : i.toNat < xs.length := by omega
  exact ⟨xs[i.toNat], by simp [h], List.getElem_mem h⟩
@[simp] theorem settle_bl (b : Bool) (S : Store) : FF.settle .val S (.bl b) S = .ok (.bl b) S := by simp [FF.settle, frz, low]
@[simp] theorem settle_int (b : Int) (S : Store) : FF.settle .val S (.int b) S = .ok (.int b) S := by simp [FF.settle, frz, low]
@[simp] theorem settle_str (b : List Nat) (S : Store) : FF.settle .val S (.str b) S = .ok (.str b) S := by simp [FF.settle, frz, low]
@[simp] theorem settle_non (S : Store) : FF.settle .val S .non S = .ok .non S := by simp [FF.settle, frz, low]
theorem settle_low {v : PV} {S : Store} (h : low S.length v = true) : FF.settle .val S v S = .ok v S := by
  simp [FF.settle]
  unfold frz
  simp [h]
theorem strOk_of {t : List Nat} (h : ∀ c ∈ t, c < 128) : PyData.strOk ⟨t.toArray⟩ = true := by
  simp [PyData.strOk]
  intro c hc
  have := h c hc
  omega
theorem shp_str {t : List Nat} (h : ∀ c ∈ t, c < 128) : shp (.str t) = some (.str ⟨t.toArray⟩) := by
  simp [shp, toD, PySem.SeqAt.shaped, PyData.canLay0, PyData.depth, strOk_of h]
@[simp] theorem eqV_int (i j : Int) : FF.eqV (.int i) (.int j) = some (i == j) := by
  simp [FF.eqV, shp, toD, PySem.SeqAt.shaped, PyData.canLay0, PyData.depth, PyData.eqv]
theorem eqV_str {x y : List Nat} (hx : ∀ c ∈ x, c < 128) (hy : ∀ c ∈ y, c < 128) : FF.eqV (.str x) (.str y) = some (decide (x = y)) := by
  unfold FF.eqV
  rw [shp_str hx, shp_str hy]
  show some (PyData.eqv (.str ⟨x.toArray⟩) (.str ⟨y.toArray⟩)) = _
  have e : PyData.eqv (.str ⟨x.toArray⟩) (.str ⟨y.toArray⟩) = ((⟨x.toArray⟩ : Str) == ⟨y.toArray⟩) := by simp [PyData.eqv]
  rw [e]
  by_cases h : x = y
  · subst h
    simp
  · have : (⟨x.toArray⟩ : Str) ≠ ⟨y.toArray⟩ := fun z => h (by
      have z2 := congrArg (fun s : Str => s.cps.toList) z
      simpa using z2)
    simp [h, this]
theorem atI_ints (l : List Int) (i : Int) (h0 : 0 ≤ i) (h1 : i < l.length) : ∃ c, L2.atI (l.map PV.int) i = some (.int c) ∧ c ∈ l := by
  obtain ⟨v, h2, h3⟩ := atI_in (l.map PV.int) i h0 (by simpa using h1)
  obtain ⟨c, h4, rfl⟩ := List.mem_map.mp h3
  exact ⟨c, h2, h4⟩
theorem atI_strs (l : List (List Nat)) (i : Int) (h0 : 0 ≤ i) (h1 : i < l.length) : ∃ c, L2.atI (l.map PV.str) i = some (.str c) ∧ c ∈ l := by
  obtain ⟨v, h2, h3⟩ := atI_in (l.map PV.str) i h0 (by simpa using h1)
  obtain ⟨c, h4, rfl⟩ := List.mem_map.mp h3
  exact ⟨c, h2, h4⟩
theorem vidx_ints (S : Store) (l : List Int) (i : Int) (h0 : 0 ≤ i) (h1 : i < l.length) : ∃ c, vidx S (.lst (l.map PV.int)) (.int i) = some (.int c) ∧ c ∈ l := atI_ints l i h0 h1
theorem vidx_strs (S : Store) (l : List (List Nat)) (i : Int) (h0 : 0 ≤ i) (h1 : i < l.length) : ∃ c, vidx S (.lst (l.map PV.str)) (.int i) = some (.str c) ∧ c ∈ l := atI_strs l i h0 h1
theorem vidx_char (S : Store) (l : List Nat) (i : Int) (hz : l.length ≤ cap) (h0 : 0 ≤ i) (h1 : i < l.length) : ∃ c, vidx S (.str l) (.int i) = some (.str [c]) ∧ c ∈ l := by
  obtain ⟨c, h2, h3⟩ := atI_in l i h0 h1
  refine ⟨c, ?_, h3⟩
  show (if okI l.length then (L2.atI l i).map fun c => PV.str [c] else none) = _
  rw [if_pos (okI_of hz), h2]
  rfl
theorem denSs_append (L : Loop) (Γ : Env2) : ∀ (a b : List Sm) (ρ : Env) (S : Store), denSs L Γ (a ++ b) ρ S = (denSs L Γ a ρ S).seq (denSs L Γ b)
  | [], b, ρ, S => rfl
  | s :: a, b, ρ, S => by
    show (denS L Γ s ρ S).seq (denSs L Γ (a ++ b)) = ((denS L Γ s ρ S).seq (denSs L Γ a)).seq (denSs L Γ b)
    cases denS L Γ s ρ S with
    | nxt ρ1 S1 => exact denSs_append L Γ a b ρ1 S1
    | _ => rfl
/-- a comprehension whose turns leave the store as it is, each giving a thing of the form f y -/
theorem compL_ex {β : Type} {g : Guard} {t : CT} {c e : Env → Store → Res PV} {ρ : Env} {S : Store} (f : β → PV) (p : β → Prop) (hg : intact g S = true) : ∀ (xs acc : List PV), acc.length + xs.length ≤ cap →
    (∀ x ∈ xs, ∃ ρ' y, bindT S t x ρ = some ρ' ∧ c ρ' S = .ok (.bl true) S ∧ e ρ' S = .ok (f y) S ∧ p y) → ∃ ys : List β, compL g t c e ρ xs acc S = .ok (acc ++ ys.map f) S ∧ ys.length = xs.length ∧ ∀ y ∈ ys, p y
  | [], acc, _, _ => ⟨[], by
    unfold compL
    rw [if_pos hg]
    simp, rfl, fun y h => by cases h⟩
  | x :: xs, acc, hl, h => by
    obtain ⟨ρ', y, h1, h2, h3, h4⟩ := h x List.mem_cons_self
    obtain ⟨ys, q1, q2, q3⟩ := compL_ex f p hg xs (acc ++ [f y]) (by simp only [List.length_append, List.length_cons, List.length_nil] at hl ⊢; omega) fun z hz => h z (List.mem_cons_of_mem _ hz)
    refine ⟨y :: ys, ?_, by simp [q2], fun z hz => by
      rcases List.mem_cons.mp hz with rfl | hz
      · exact h4
      · exact q3 z hz⟩
    unfold compL
    rw [if_pos hg, h1]
    dsimp only
    rw [h2]
    dsimp only [bind_ok_]
    rw [h3]
    dsimp only [bind_ok_]
    have ho : okI (acc.length + 1) = true := by
      unfold okI
      simp only [List.length_cons] at hl
      exact decide_eq_true (by omega)
    rw [if_pos ho, q1]
    simp
theorem ranged_in {lo : Int} {n : Nat} {x : PV} (h : x ∈ ranged lo n) : ∃ i : Nat, i < n ∧ x = .int (lo + i) := by
  unfold ranged at h
  obtain ⟨i, h1, rfl⟩ := List.mem_map.mp h
  exact ⟨i, List.mem_range.mp h1, rfl⟩
theorem ranged_len (lo : Int) (n : Nat) : (ranged lo n).length = n := by simp [ranged]
theorem asStrs_map : ∀ xs : List (List Nat), asStrs (xs.map PV.str) = some xs
  | [] => rfl
  | x :: xs => by
    show (asStrs (xs.map PV.str)).map _ = _
    rw [asStrs_map xs]
    rfl
theorem join_one : ∀ xs : List Nat, TL.joinL [] (xs.map fun c => [c]) = xs
  | [] => rfl
  | [x] => rfl
  | x :: y :: xs => by
    have := join_one (y :: xs)
    simp [TL.joinL] at this ⊢
    exact this
theorem cut_sub {α : Type} (xs : List α) (lo hi : Option Int) {c : α} (h : c ∈ cut xs lo hi) : c ∈ xs := List.mem_of_mem_drop (List.mem_of_mem_take h)
theorem vslc_str (S : Store) (x : List Nat) (lo hi : Option Int) (h : x.length ≤ cap) : vslc S (.str x) lo hi = some (.str (cut x lo hi)) := by
  show (if okI x.length then some (PV.str (cut x lo hi)) else none) = _
  rw [if_pos (okI_of h)]
/-- a comprehension without tests, its element's law known -/
theorem comp_ex {β : Type} {Γ : Env2} {t : CT} {k : SrcK} {es : List E} {e : E} {ρ : Env} {S : Store} {vs xs : List PV} {g : Guard} (f : β → PV) (p : β → Prop) (h1 : denEs Γ es ρ S = .ok vs S) (h2 : walk S k vs = some (xs, g)) (hg : intact g S = true) (hl : xs.length ≤ cap)
    (h : ∀ x ∈ xs, ∃ ρ' y, bindT S t x (wipeE ρ (own t)) = some ρ' ∧ denE Γ e ρ' S = .ok (f y) S ∧ p y) : ∃ ys : List β, denE Γ (.comp false t k es [] e) ρ S = .ok (.lst (ys.map f)) S ∧ ys.length = xs.length ∧ ∀ y ∈ ys, p y := by
  obtain ⟨ys, q1, q2, q3⟩ := compL_ex (g := g) (t := t) (c := fun ρ' S' => denC Γ [] ρ' S') (e := fun ρ' S' => denE Γ e ρ' S') (ρ := wipeE ρ (own t)) (S := S) f p hg xs [] (by simpa using hl) (fun x hx => by
    obtain ⟨ρ', y, a, b, c⟩ := h x hx
    exact ⟨ρ', y, a, rfl, b, c⟩)
  refine ⟨ys, ?_, q2, q3⟩
  show ((denEs Γ es ρ S).bind fun vs S1 => (match walk S1 k vs with
    | some (xs, g) => (compL g t (fun ρ' S' => denC Γ [] ρ' S') (fun ρ' S' => denE Γ e ρ' S') (wipeE ρ (own t)) xs [] S1).bind fun r S2 => FF.alloc false (.lst r) S2
    | none => .bad)) = _
  rw [h1]
  simp only [bind_ok_, h2, q1, alloc_f, List.nil_append]
/-- a comprehension without tests, its element a function -/
theorem comp_fn {Γ : Env2} {t : CT} {k : SrcK} {es : List E} {e : E} {ρ : Env} {S : Store} {vs xs : List PV} {g : Guard} (f : PV → PV) (h1 : denEs Γ es ρ S = .ok vs S) (h2 : walk S k vs = some (xs, g)) (hg : intact g S = true) (hl : xs.length ≤ cap)
    (h : ∀ x ∈ xs, ∃ ρ', bindT S t x (wipeE ρ (own t)) = some ρ' ∧ denE Γ e ρ' S = .ok (f x) S) : denE Γ (.comp false t k es [] e) ρ S = .ok (.lst (xs.map f)) S := by
  have q := compL_pure (g := g) (t := t) (c := fun ρ' S' => denC Γ [] ρ' S') (e := fun ρ' S' => denE Γ e ρ' S') (ρ := wipeE ρ (own t)) (S := S) f hg xs [] (by simpa using hl) (fun x hx => by
    obtain ⟨ρ', a, b⟩ := h x hx
    exact ⟨ρ', a, rfl, b⟩)
  show ((denEs Γ es ρ S).bind fun vs S1 => (match walk S1 k vs with
    | some (xs, g) => (compL g t (fun ρ' S' => denC Γ [] ρ' S') (fun ρ' S' => denE Γ e ρ' S') (wipeE ρ (own t)) xs [] S1).bind fun r S2 => FF.alloc false (.lst r) S2
    | none => .bad)) = _
  rw [h1]
  simp only [bind_ok_, h2, q, alloc_f, List.nil_append]
mutual
/-- plain data, no deeper than n, its texts of small signs -/
def fit : Nat → PV → Bool
  | _, .non => true
  | _, .bl _ => true
  | _, .int _ => true
  | _, .str x => x.all fun c => decide (c < 128)
  | n + 1, .tup xs => fits n xs
  | n + 1, .lst xs => fits n xs
  | _, _ => false
def fits : Nat → List PV → Bool
  | _, [] => true
  | n, x :: xs => fit n x && fits n xs
end
mutual
theorem fit_toD : ∀ (n : Nat) (v : PV), fit n v = true → ∃ d, toD v = some d ∧ d.canLay0 = true ∧ d.depth ≤ n
  | _, .non, _ => ⟨.none, rfl, by simp [PyData.canLay0], by simp [PyData.depth]⟩
  | _, .bl b, _ => ⟨.bool b, rfl, by simp [PyData.canLay0], by simp [PyData.depth]⟩
  | _, .int i, _ => ⟨.int i, rfl, by simp [PyData.canLay0], by simp [PyData.depth]⟩
  | n, .str x, h => by
    have h : (x.all fun c => decide (c < 128)) = true := by
      cases n <;> simpa [fit] using h
    refine ⟨.str ⟨x.toArray⟩, rfl, ?_, by simp [PyData.depth]⟩
    have := strOk_of (t := x) (by simpa using h)
    simp [PyData.canLay0, this]
  | 0, .tup xs, h => by simp [fit] at h
  | 0, .lst xs, h => by simp [fit] at h
  | n + 1, .tup xs, h => by
    obtain ⟨ds, h1, h2, h3⟩ := fits_toD n xs (by simpa [fit] using h)
    exact ⟨.tuple ds, by simp [toD, h1], by simp [PyData.canLay0, h2], by simp [PyData.depth]; omega⟩
  | n + 1, .lst xs, h => by
    obtain ⟨ds, h1, h2, h3⟩ := fits_toD n xs (by simpa [fit] using h)
    exact ⟨.list ds, by simp [toD, h1], by simp [PyData.canLay0, h2], by simp [PyData.depth]; omega⟩
  | 0, .dct _ _, h => by simp [fit] at h
  | n + 1, .dct _ _, h => by simp [fit] at h
  | 0, .obj _ _ _, h => by simp [fit] at h
  | n + 1, .obj _ _ _, h => by simp [fit] at h
  | 0, .fn _, h => by simp [fit] at h
  | n + 1, .fn _, h => by simp [fit] at h
  | 0, .ref _, h => by simp [fit] at h
  | n + 1, .ref _, h => by simp [fit] at h
theorem fits_toD : ∀ (n : Nat) (v : List PV), fits n v = true → ∃ d, toDs v = some d ∧ PyData.canLayAll0 d = true ∧ PyData.depthAll d ≤ n
  | _, [], _ => ⟨[], rfl, by simp [PyData.canLayAll0], by simp [PyData.depthAll]⟩
  | n, x :: xs, h => by
    have h : (fit n x && fits n xs) = true := by simpa [fits] using h
    rw [Bool.and_eq_true] at h
    obtain ⟨d, h1, h2, h3⟩ := fit_toD n x h.1
    obtain ⟨ds, g1, g2, g3⟩ := fits_toD n xs h.2
    exact ⟨d :: ds, by simp [toDs, h1, g1], by simp [PyData.canLayAll0, h2, g2], by simp [PyData.depthAll]; omega⟩
end
mutual
theorem eqv_self : ∀ d : PyData, d.canLay0 = true → PyData.eqv d d = true
  | .none, _ => by simp [PyData.eqv]
  | .bool b, _ => by simp [PyData.eqv]
  | .int i, _ => by simp [PyData.eqv]
  | .str x, _ => by simp [PyData.eqv]
  | .list xs, h => by
    have := eqvs_self xs (by simpa [PyData.canLay0] using h)
    simpa [PyData.eqv] using this
  | .tuple xs, h => by
    have := eqvs_self xs (by simpa [PyData.canLay0] using h)
    simpa [PyData.eqv] using this
  | .dict kvs, h => by simp [PyData.canLay0] at h
theorem eqvs_self : ∀ d : List PyData, PyData.canLayAll0 d = true → PyData.eqvAll d d = true
  | [], _ => by simp [PyData.eqvAll]
  | x :: xs, h => by
    have h : (x.canLay0 && PyData.canLayAll0 xs) = true := by simpa [PyData.canLayAll0] using h
    rw [Bool.and_eq_true] at h
    simp [PyData.eqvAll, eqv_self x h.1, eqvs_self xs h.2]
end
theorem eqV_same {v : PV} {n : Nat} (hn : n ≤ 64) (h : fit n v = true) : FF.eqV v v = some true := by
  obtain ⟨d, h1, h2, h3⟩ := fit_toD n v h
  have hs : shp v = some d := by
    simp [shp, h1, PySem.SeqAt.shaped, h2]
    omega
  unfold FF.eqV
  rw [hs]
  simp [eqv_self d h2]
theorem all_bl (p : PV → Bool) (xs : List PV) : bools (xs.map fun x => .bl (p x)) = some (xs.map p) := bools_map p xs
end FF
set_option Elab.async false
set_option linter.all false
set_option autoImplicit false
set_option maxRecDepth 100000
/-! LW2: more laws of the evaluator: loops by invariants, comprehensions with tests, lists of numbers. -/
namespace FF
open PySem L2
/-- a loop over things, by an invariant of what is yet to come -/
theorem forL_inv {α : Type} {t : CT} {b : Env → Store → SRes} (f : α → PV) (I : List α → Env → Store → Prop)
    (h : ∀ x xs ρ S, I (x :: xs) ρ S → ∃ ρ1 ρ2 S2, bindT S t (f x) ρ = some ρ1 ∧ b ρ1 S = .nxt ρ2 S2 ∧ I xs ρ2 S2) :
    ∀ (xs : List α) (ρ : Env) (S : Store), I xs ρ S → ∃ ρ' S', forL [] t b (xs.map f) ρ S = .nxt ρ' S' ∧ I [] ρ' S'
  | [], ρ, S, i => ⟨ρ, S, rfl, i⟩
  | x :: xs, ρ, S, i => by
    obtain ⟨ρ1, ρ2, S2, h1, h2, h3⟩ := h x xs ρ S i
    obtain ⟨ρ', S', q, j⟩ := forL_inv f I h xs ρ2 S2 h3
    refine ⟨ρ', S', ?_, j⟩
    rw [List.map_cons]
    have hi : intact [] S = true := rfl
    unfold forL
    rw [if_pos hi, h1]
    dsimp only
    rw [h2]
    exact q
/-- a comprehension with a test whose turns leave the store as it is -/
theorem compL_filter {α : Type} {g : Guard} {t : CT} {c e : Env → Store → Res PV} {ρ : Env} {S : Store} (i f : α → PV) (p : α → Bool) (hg : intact g S = true) : ∀ (xs : List α) (acc : List PV), acc.length + xs.length ≤ cap →
    (∀ x ∈ xs, ∃ ρ', bindT S t (i x) ρ = some ρ' ∧ c ρ' S = .ok (.bl (p x)) S ∧ e ρ' S = .ok (f x) S) → compL g t c e ρ (xs.map i) acc S = .ok (acc ++ (xs.filter p).map f) S
  | [], acc, _, _ => by
    rw [List.map_nil]
    unfold compL
    rw [if_pos hg]
    simp
  | x :: xs, acc, hl, h => by
    obtain ⟨ρ', h1, h2, h3⟩ := h x List.mem_cons_self
    rw [List.map_cons]
    unfold compL
    rw [if_pos hg, h1]
    dsimp only
    rw [h2]
    dsimp only [bind_ok_]
    simp only [List.length_cons] at hl
    by_cases hp : p x = true
    · rw [hp]
      dsimp only
      rw [h3]
      dsimp only [bind_ok_]
      have ho : okI (acc.length + 1) = true := okI_of (by omega)
      rw [if_pos ho, compL_filter i f p hg xs (acc ++ [f x]) (by simp only [List.length_append, List.length_cons, List.length_nil]; omega) fun y hy => h y (List.mem_cons_of_mem _ hy)]
      simp [hp]
    · rw [Bool.not_eq_true] at hp
      rw [hp]
      dsimp only
      rw [compL_filter i f p hg xs acc (by omega) fun y hy => h y (List.mem_cons_of_mem _ hy)]
      simp [hp]
theorem toDs_ints : ∀ l : List Int, toDs (l.map PV.int) = some (l.map PyData.int)
  | [] => rfl
  | x :: l => by
    rw [List.map_cons]
    simp only [toDs, toD, toDs_ints l]
    rfl
theorem fits_ints (n : Nat) : ∀ l : List Int, fits n (l.map PV.int) = true
  | [] => by simp [fits]
  | x :: l => by simp [fits, fit, fits_ints n l]
theorem shp_fit {v : PV} {n : Nat} (hn : n ≤ 64) (h : fit n v = true) : ∃ d, toD v = some d ∧ shp v = some d := by
  obtain ⟨d, h1, h2, h3⟩ := fit_toD n v h
  refine ⟨d, h1, ?_⟩
  simp [shp, h1, PySem.SeqAt.shaped, h2]
  omega
theorem shp_ints (l : List Int) : shp (.lst (l.map PV.int)) = some (.list (l.map PyData.int)) := by
  obtain ⟨d, h1, h2⟩ := shp_fit (v := .lst (l.map PV.int)) (n := 1) (by omega) (by simp [fit, fits_ints])
  rw [h2, ← h1]
  simp [toD, toDs_ints]
theorem shp_int (i : Int) : shp (.int i) = some (.int i) := by
  simp [shp, toD, PySem.SeqAt.shaped, PyData.canLay0, PyData.depth]
theorem anyEq_ints (x : Int) (l : List Int) : anyEq (shp (.int x)) (shp (.lst (l.map PV.int))) = some (decide (x ∈ l)) := by
  rw [shp_ints, shp_int]
  show some ((l.map PyData.int).any fun z => PyData.eqv z (.int x)) = _
  congr 1
  rw [Bool.eq_iff_iff]
  simp [PyData.eqv]
theorem eqV_ints (l : List Int) : FF.eqV (.lst (l.map PV.int)) (.lst (l.map PV.int)) = some true := eqV_same (n := 1) (by omega) (by simp [fit, fits_ints])
theorem lows_ints (n : Nat) : ∀ l : List Int, lows n (l.map PV.int) = true
  | [] => rfl
  | x :: l => by simp [lows, low, lows_ints n l]
/-- a list that a callee made, by value -/
theorem settle_lst {S S2 : Store} {n : Nat} {xs : List PV} (h1 : S.length ≤ n) (h2 : (S ++ S2)[n]? = some (.lst xs)) (h3 : lows S.length xs = true) : FF.settle .val S (.ref n) (S ++ S2) = .ok (.lst xs) S := by
  have e : (S ++ S2).take S.length = S := by simp
  unfold FF.settle
  dsimp only
  rw [if_pos e]
  unfold frz
  have l1 : low S.length (.ref n) = false := by simp [low]; omega
  rw [l1]
  simp only [h2]
  unfold frz
  have l2 : low S.length (.lst xs) = true := by simpa [low] using h3
  simp [l2]
/-- by reference -/
theorem settle_refl {S S2 : Store} {n : Nat} {xs : List PV} (h1 : S.length ≤ n) (h2 : (S ++ S2)[n]? = some (.lst xs)) (h3 : lows S.length xs = true) : FF.settle .ref S (.ref n) (S ++ S2) = .ok (.ref S.length) (S ++ [.lst xs]) := by
  have e : (S ++ S2).take S.length = S := by simp
  unfold FF.settle
  dsimp only
  rw [if_pos e]
  have l2 : low S.length (.lst xs) = true := by simpa [low] using h3
  have hn : ¬ n < S.length := by omega
  simp [h2, l2, hn]
theorem set_over (S S2 : Store) (n : Nat) (v : PV) (h : S.length ≤ n) : (S ++ S2).set n v = S ++ S2.set (n - S.length) v := by
  rw [List.set_append_right _ _ h]
end FF
namespace FF
open PySem L2
theorem den_for {L : Loop} {Γ : Env2} {t : CT} {k : SrcK} {es : List E} {b : List Sm} {ρ : Env} {S S1 : Store} {vs xs : List PV} {g : Guard} (h1 : denEs Γ es ρ S = .ok vs S1) (h2 : walk S1 k vs = some (xs, g)) :
    denS L Γ (.for_ t k es b) ρ S = forL g t (fun ρ' S' => denSs L Γ b ρ' S') xs ρ S1 := by
  show SRes.of ρ (denEs Γ es ρ S) _ = _
  rw [h1, of_ok, h2]
theorem den_ifT {L : Loop} {Γ : Env2} {c : E} {a b : List Sm} {ρ : Env} {S S1 : Store} (h : testOf Γ c ρ S = .ok true S1) : denS L Γ (.ife c a b) ρ S = denSs L Γ a ρ S1 := by
  show SRes.of ρ (testOf Γ c ρ S) _ = _
  rw [h]
  rfl
theorem den_ifF {L : Loop} {Γ : Env2} {c : E} {a b : List Sm} {ρ : Env} {S S1 : Store} (h : testOf Γ c ρ S = .ok false S1) : denS L Γ (.ife c a b) ρ S = denSs L Γ b ρ S1 := by
  show SRes.of ρ (testOf Γ c ρ S) _ = _
  rw [h]
  rfl
theorem den_asg {L : Loop} {Γ : Env2} {i : Nat} {e : E} {ρ : Env} {S S1 : Store} {v : PV} (h : denE Γ e ρ S = .ok v S1) : denS L Γ (.asg (.name i) e) ρ S = .nxt (ρ.set i (some v)) S1 := by
  show SRes.of ρ (denE Γ e ρ S) _ = _
  rw [h]
  rfl
theorem den_ret {L : Loop} {Γ : Env2} {e : E} {ρ : Env} {S S1 : Store} {v : PV} (h : denE Γ e ρ S = .ok v S1) : denS L Γ (.ret e) ρ S = .ret v S1 := by
  show SRes.of ρ (denE Γ e ρ S) _ = _
  rw [h]
  rfl
theorem den_expr {L : Loop} {Γ : Env2} {e : E} {ρ : Env} {S S1 : Store} {v : PV} (h : denE Γ e ρ S = .ok v S1) : denS L Γ (.expr e) ρ S = .nxt ρ S1 := by
  show SRes.of ρ (denE Γ e ρ S) _ = _
  rw [h]
  rfl
/-- one statement after another -/
theorem dens_nxt {L : Loop} {Γ : Env2} {s : Sm} {ss : List Sm} {ρ ρ1 : Env} {S S1 : Store} (h : denS L Γ s ρ S = .nxt ρ1 S1) : denSs L Γ (s :: ss) ρ S = denSs L Γ ss ρ1 S1 := by
  show (denS L Γ s ρ S).seq _ = _
  rw [h]
  rfl
theorem dens_ret {L : Loop} {Γ : Env2} {s : Sm} {ss : List Sm} {ρ : Env} {S S1 : Store} {v : PV} (h : denS L Γ s ρ S = .ret v S1) : denSs L Γ (s :: ss) ρ S = .ret v S1 := by
  show (denS L Γ s ρ S).seq _ = _
  rw [h]
  rfl
theorem dens_nil {L : Loop} {Γ : Env2} {ρ : Env} {S : Store} : denSs L Γ [] ρ S = .nxt ρ S := rfl
/-- a def's run, its text known -/
theorem call_def {L : Loop} {P : Prog} {d f : Nat} {vs ws : List PV} {S S1 : Store} {D : Def} {v : PV} (h1 : P.funs[f]? = some D) (h2 : fill D vs = some ws) (h3 : denSs L (P.env (callL L P d) (prevD L P d)) D.body (ws.map some ++ List.replicate (D.ns - D.np) none) S = .ret v S1) : callL L P (d + 1) f vs S = .ok v S1 := by
  rw [call_succ]
  unfold runDef
  rw [h1]
  dsimp only
  rw [h2]
  dsimp only
  rw [h3]
  rfl
theorem v_call {Γ : Env2} {m : Md} {g f : Nat} {es : List E} {ρ : Env} {S S1 S2 S3 : Store} {vs : List PV} {v w : PV} (h1 : denEs Γ es ρ S = .ok vs S1) (h2 : Γ.glob g = some (.fn f)) (h3 : Γ.call f vs S1 = .ok v S2) (h4 : FF.settle m S1 v S2 = .ok w S3) : denE Γ (.call m g es) ρ S = .ok w S3 := by
  show (denEs Γ es ρ S).bind _ = _
  rw [h1, bind_ok_]
  simp only [h2, h3, bind_ok_, h4]
theorem v_con {Γ : Env2} {v : PV} {ρ : Env} {S : Store} : denE Γ (.con v) ρ S = .ok v S := rfl
theorem v_var {Γ : Env2} {i : Nat} {ρ : Env} {S : Store} {v : PV} (h : ρ[i]? = some (some v)) : denE Γ (.var i) ρ S = .ok v S := by
  show (match ρ[i]? with
  | some (some v) => Res.ok v S
  | _ => Res.bad) = _
  rw [h]
theorem v_idx {Γ : Env2} {o i : E} {ρ : Env} {S S1 S2 : Store} {v w r : PV} (h1 : denE Γ o ρ S = .ok v S1) (h2 : denE Γ i ρ S1 = .ok w S2) (h3 : vidx S2 v w = some r) : denE Γ (.idx o i) ρ S = .ok r S2 := by
  show (denE Γ o ρ S).bind _ = _
  rw [h1, bind_ok_, h2, bind_ok_, h3]
  rfl
theorem v_bin {Γ : Env2} {o : BOp} {a b : E} {ρ : Env} {S S1 S2 : Store} {x y r : PV} (h1 : denE Γ a ρ S = .ok x S1) (h2 : denE Γ b ρ S1 = .ok y S2) (h3 : vbin o (view S2 x) (view S2 y) = some r) : denE Γ (.bin o a b) ρ S = .ok r S2 := by
  show (denE Γ a ρ S).bind _ = _
  rw [h1, bind_ok_, h2, bind_ok_, h3]
  rfl
theorem v_cmp {Γ : Env2} {o : COp} {a b : E} {ρ : Env} {S S1 S2 : Store} {x y : PV} {r : Bool} (h1 : denE Γ a ρ S = .ok x S1) (h2 : denE Γ b ρ S1 = .ok y S2) (h3 : vcmp S2 o x y = some r) : denE Γ (.cmp o a b) ρ S = .ok (.bl r) S2 := by
  show (denE Γ a ρ S).bind _ = _
  rw [h1, bind_ok_, h2, bind_ok_, h3]
  rfl
theorem vs_nil {Γ : Env2} {ρ : Env} {S : Store} : denEs Γ [] ρ S = .ok [] S := rfl
theorem vs_cons {Γ : Env2} {e : E} {es : List E} {ρ : Env} {S S1 S2 : Store} {v : PV} {vs : List PV} (h1 : denE Γ e ρ S = .ok v S1) (h2 : denEs Γ es ρ S1 = .ok vs S2) : denEs Γ (e :: es) ρ S = .ok (v :: vs) S2 := by
  show (denE Γ e ρ S).bind _ = _
  rw [h1, bind_ok_, h2, bind_ok_]
theorem v_test {Γ : Env2} {c : E} {ρ : Env} {S S1 : Store} {v : PV} {b : Bool} (h1 : denE Γ c ρ S = .ok v S1) (h2 : truth S1 v = some b) : testOf Γ c ρ S = .ok b S1 := by
  unfold testOf
  rw [h1, bind_ok_, h2]
  rfl
theorem v_tup {Γ : Env2} {es : List E} {ρ : Env} {S S1 : Store} {vs : List PV} (h1 : denEs Γ es ρ S = .ok vs S1) (h2 : vs.length ≤ cap) : denE Γ (.tup es) ρ S = .ok (.tup vs) S1 := by
  show (denEs Γ es ρ S).bind _ = _
  rw [h1, bind_ok_, if_pos (okI_of h2)]
theorem v_lstF {Γ : Env2} {es : List E} {ρ : Env} {S S1 : Store} {vs : List PV} (h1 : denEs Γ es ρ S = .ok vs S1) (h2 : vs.length ≤ cap) : denE Γ (.lst false es) ρ S = .ok (.lst vs) S1 := by
  show (denEs Γ es ρ S).bind _ = _
  rw [h1, bind_ok_, if_pos (okI_of h2)]
  rfl
theorem v_lstT {Γ : Env2} {es : List E} {ρ : Env} {S S1 : Store} {vs : List PV} (h1 : denEs Γ es ρ S = .ok vs S1) (h2 : vs.length ≤ cap) : denE Γ (.lst true es) ρ S = .ok (.ref S1.length) (S1 ++ [.lst vs]) := by
  show (denEs Γ es ρ S).bind _ = _
  rw [h1, bind_ok_, if_pos (okI_of h2)]
  rfl
theorem v_bltF {Γ : Env2} {m : Bool} {b : BFn} {es : List E} {ρ : Env} {S S1 : Store} {vs : List PV} {v : PV} (h1 : denEs Γ es ρ S = .ok vs S1) (h2 : bfn S1 b vs = some (v, false)) : denE Γ (.blt m b es) ρ S = .ok v S1 := by
  show (denEs Γ es ρ S).bind _ = _
  rw [h1, bind_ok_, h2]
theorem v_blt {Γ : Env2} {b : BFn} {es : List E} {ρ : Env} {S S1 : Store} {vs : List PV} {v : PV} {k : Bool} (h1 : denEs Γ es ρ S = .ok vs S1) (h2 : bfn S1 b vs = some (v, k)) : denE Γ (.blt false b es) ρ S = .ok v S1 := by
  show (denEs Γ es ρ S).bind _ = _
  rw [h1, bind_ok_, h2]
  cases k <;> rfl
theorem v_orT {Γ : Env2} {e f : E} {es : List E} {ρ : Env} {S S1 : Store} {x : PV} (h1 : denE Γ e ρ S = .ok x S1) (h2 : truth S1 x = some true) : denE Γ (.or (e :: f :: es)) ρ S = .ok x S1 := by
  show (denE Γ e ρ S).bind _ = _
  rw [h1, bind_ok_, h2]
theorem v_orF {Γ : Env2} {e f : E} {es : List E} {ρ : Env} {S S1 : Store} {x : PV} (h1 : denE Γ e ρ S = .ok x S1) (h2 : truth S1 x = some false) : denE Γ (.or (e :: f :: es)) ρ S = denE Γ (.or (f :: es)) ρ S1 := by
  show (denE Γ e ρ S).bind _ = _
  rw [h1, bind_ok_, h2]
  rfl
theorem v_or1 {Γ : Env2} {e : E} {ρ : Env} {S : Store} : denE Γ (.or [e]) ρ S = denE Γ e ρ S := rfl
theorem v_andT {Γ : Env2} {e f : E} {es : List E} {ρ : Env} {S S1 : Store} {x : PV} (h1 : denE Γ e ρ S = .ok x S1) (h2 : truth S1 x = some true) : denE Γ (.and (e :: f :: es)) ρ S = denE Γ (.and (f :: es)) ρ S1 := by
  show (denE Γ e ρ S).bind _ = _
  rw [h1, bind_ok_, h2]
  rfl
theorem v_andF {Γ : Env2} {e f : E} {es : List E} {ρ : Env} {S S1 : Store} {x : PV} (h1 : denE Γ e ρ S = .ok x S1) (h2 : truth S1 x = some false) : denE Γ (.and (e :: f :: es)) ρ S = .ok x S1 := by
  show (denE Γ e ρ S).bind _ = _
  rw [h1, bind_ok_, h2]
theorem v_and1 {Γ : Env2} {e : E} {ρ : Env} {S : Store} : denE Γ (.and [e]) ρ S = denE Γ e ρ S := rfl
theorem v_not {Γ : Env2} {e : E} {ρ : Env} {S S1 : Store} {x : PV} {b : Bool} (h1 : denE Γ e ρ S = .ok x S1) (h2 : truth S1 x = some b) : denE Γ (.not e) ρ S = .ok (.bl (!b)) S1 := by
  show (denE Γ e ρ S).bind _ = _
  rw [h1, bind_ok_, h2]
end FF
set_option Elab.async false
set_option linter.all false
set_option autoImplicit false
set_option maxRecDepth 100000
/-! LW3: what is wished for behind an evaluation. -/
namespace FF
open PySem L2
/-- one for one -/
inductive F2 {α β : Type} (R : α → β → Prop) : List α → List β → Prop where
  | nil : F2 R [] []
  | cons {a : α} {b : β} {as : List α} {bs : List β} (h : R a b) (t : F2 R as bs) : F2 R (a :: as) (b :: bs)
/-- it ends well, and then Q -/
def W {α : Type} (r : Res α) (Q : α → Store → Prop) : Prop := ∃ a S, r = .ok a S ∧ Q a S
theorem W.of {α : Type} {r : Res α} {a : α} {S : Store} {Q : α → Store → Prop} (h : r = .ok a S) (q : Q a S) : W r Q := ⟨a, S, h, q⟩
theorem W.mono {α : Type} {r : Res α} {Q R : α → Store → Prop} (h : W r Q) (k : ∀ a S, Q a S → R a S) : W r R := by
  obtain ⟨a, S, e, q⟩ := h
  exact ⟨a, S, e, k a S q⟩
theorem W_ok {α : Type} {a : α} {S : Store} {Q : α → Store → Prop} : W (.ok a S) Q ↔ Q a S := by
  refine ⟨fun ⟨b, T, e, q⟩ => ?_, fun q => ⟨a, S, rfl, q⟩⟩
  cases e
  exact q
theorem W_bind {α β : Type} {r : Res α} {f : α → Store → Res β} {Q : β → Store → Prop} : W (r.bind f) Q ↔ W r fun a S => W (f a S) Q := by
  constructor
  · rintro ⟨b, T, e, q⟩
    cases r with
    | ok a S => exact ⟨a, S, rfl, b, T, e, q⟩
    | exc x S => cases e
    | bad => cases e
  · rintro ⟨a, S, rfl, b, T, e, q⟩
    exact ⟨b, T, e, q⟩
/-- behind a statement -/
structure Po where
  n : Env → Store → Prop
  r : PV → Store → Prop
  b : Env → Store → Prop
  c : Env → Store → Prop
def WS (x : SRes) (P : Po) : Prop := match x with
  | .nxt ρ S => P.n ρ S
  | .ret v S => P.r v S
  | .brk ρ S => P.b ρ S
  | .cnt ρ S => P.c ρ S
  | _ => False
section
variable {L : Loop} {Γ : Env2} {ss a b : List Sm} {ρ : Env} {S S1 : Store} {P : Po} {e c : E} {v : PV} {i : Nat} {k : Bool}
theorem WS.mono {x : SRes} {P R : Po} (h : WS x P) (n : ∀ ρ S, P.n ρ S → R.n ρ S) (r : ∀ v S, P.r v S → R.r v S) (b : ∀ ρ S, P.b ρ S → R.b ρ S) (c : ∀ ρ S, P.c ρ S → R.c ρ S) : WS x R := by
  cases x with
  | nxt ρ S => exact n ρ S h
  | ret v S => exact r v S h
  | brk ρ S => exact b ρ S h
  | cnt ρ S => exact c ρ S h
  | exc x ρ S => exact h
  | bad => exact h
theorem WS_seq {x : SRes} {f : Env → Store → SRes} : WS (x.seq f) P ↔ WS x ⟨fun ρ S => WS (f ρ S) P, P.r, P.b, P.c⟩ := by
  cases x <;> exact Iff.rfl
theorem st_nil (h : P.n ρ S) : WS (denSs L Γ [] ρ S) P := h
theorem st_asg (h : denE Γ e ρ S = .ok v S1) (q : WS (denSs L Γ ss (ρ.set i (some v)) S1) P) : WS (denSs L Γ (.asg (.name i) e :: ss) ρ S) P := by
  rw [dens_nxt (den_asg h)]
  exact q
theorem st_names {is : List Nat} {vs : List PV} {ρ1 : Env} (h : denE Γ e ρ S = .ok (.tup vs) S1) (h2 : setAll is vs ρ = some ρ1) (q : WS (denSs L Γ ss ρ1 S1) P) : WS (denSs L Γ (.asg (.names is) e :: ss) ρ S) P := by
  have e1 : denS L Γ (.asg (.names is) e) ρ S = .nxt ρ1 S1 := by
    show SRes.of ρ (denE Γ e ρ S) _ = _
    rw [h]
    show optR (setAll is vs ρ) S1 = _
    rw [h2] <;> rfl
  rw [dens_nxt e1]
  exact q
theorem st_par {is : List Nat} {es : List E} {vs : List PV} {ρ1 : Env} (h : denEs Γ es ρ S = .ok vs S1) (h2 : setAll is vs ρ = some ρ1) (q : WS (denSs L Γ ss ρ1 S1) P) : WS (denSs L Γ (.par is es :: ss) ρ S) P := by
  have e1 : denS L Γ (.par is es) ρ S = .nxt ρ1 S1 := by
    show SRes.of ρ (denEs Γ es ρ S) _ = _
    rw [h]
    show optR (setAll is vs ρ) S1 = _
    rw [h2] <;> rfl
  rw [dens_nxt e1]
  exact q
theorem st_expr (h : denE Γ e ρ S = .ok v S1) (q : WS (denSs L Γ ss ρ S1) P) : WS (denSs L Γ (.expr e :: ss) ρ S) P := by
  rw [dens_nxt (den_expr h)]
  exact q
theorem st_ret (h : denE Γ e ρ S = .ok v S1) (q : P.r v S1) : WS (denSs L Γ (.ret e :: ss) ρ S) P := by
  rw [dens_ret (den_ret h)]
  exact q
theorem st_retn (q : P.r .non S) : WS (denSs L Γ (.retn :: ss) ρ S) P := q
theorem st_fld {o : E} {x n : Nat} {ob : Nat} {ks : List Nat} {vs : List PV} {S2 : Store} (h : denE Γ e ρ S = .ok v S1) (h2 : denE Γ o ρ S1 = .ok (.ref n) S2) (h3 : S2[n]? = some (.obj ob ks vs)) (h4 : ks.length < 900)
    (q : WS (denSs L Γ ss ρ (S2.set n (.obj ob (fput x v ks vs).1 (fput x v ks vs).2))) P) : WS (denSs L Γ (.asg (.fld o x) e :: ss) ρ S) P := by
  have e1 : denS L Γ (.asg (.fld o x) e) ρ S = .nxt ρ (S2.set n (.obj ob (fput x v ks vs).1 (fput x v ks vs).2)) := by
    show SRes.of ρ (denE Γ e ρ S) _ = _
    rw [h]
    show SRes.of ρ (denE Γ o ρ S1) _ = _
    rw [h2]
    show optS (setFld S2 (.ref n) x v) ρ = _
    unfold setFld
    simp only [h3, decide_eq_true h4, if_true]
    rfl
  rw [dens_nxt e1]
  exact q
theorem denSs_app : denSs L Γ (a ++ b) ρ S = (denSs L Γ a ρ S).seq (denSs L Γ b) := denSs_append L Γ a b ρ S
theorem st_if (h : testOf Γ c ρ S = .ok k S1) (q : WS (denSs L Γ ((if k then a else b) ++ ss) ρ S1) P) : WS (denSs L Γ (.ife c a b :: ss) ρ S) P := by
  rw [denSs_app, WS_seq] at q
  show WS ((denS L Γ (.ife c a b) ρ S).seq _) P
  rw [WS_seq]
  show WS (SRes.of ρ (testOf Γ c ρ S) _) _
  rw [h]
  cases k <;> exact q
theorem st_ifT (h : testOf Γ c ρ S = .ok true S1) (q : WS (denSs L Γ (a ++ ss) ρ S1) P) : WS (denSs L Γ (.ife c a b :: ss) ρ S) P := st_if h q
theorem st_ifF (h : testOf Γ c ρ S = .ok false S1) (q : WS (denSs L Γ (b ++ ss) ρ S1) P) : WS (denSs L Γ (.ife c a b :: ss) ρ S) P := st_if h q
/-- a loop over things, by what holds while some are yet to come -/
theorem st_for {α : Type} {t : CT} {q : SrcK} {es : List E} {vs : List PV} {xs : List α} (f : α → PV) (I : List α → Env → Store → Prop) (h1 : denEs Γ es ρ S = .ok vs S1) (h2 : walk S1 q vs = some (xs.map f, [])) (i0 : I xs ρ S1)
    (step : ∀ x r ρ S, I (x :: r) ρ S → ∃ ρ1, bindT S t (f x) ρ = some ρ1 ∧ WS (denSs L Γ b ρ1 S) ⟨I r, P.r, fun ρ S => WS (denSs L Γ ss ρ S) P, I r⟩)
    (fin : ∀ ρ S, I [] ρ S → WS (denSs L Γ ss ρ S) P) : WS (denSs L Γ (.for_ t q es b :: ss) ρ S) P := by
  have key : ∀ (xs : List α) (ρ : Env) (S : Store), I xs ρ S → WS (forL [] t (fun ρ' S' => denSs L Γ b ρ' S') (xs.map f) ρ S) ⟨fun ρ S => WS (denSs L Γ ss ρ S) P, P.r, P.b, P.c⟩ := by
    intro xs
    induction xs with
    | nil => exact fun ρ S i => fin ρ S i
    | cons x xs ih =>
      intro ρ S i
      obtain ⟨ρ1, g1, g2⟩ := step x xs ρ S i
      rw [List.map_cons]
      unfold forL
      rw [if_pos (show intact [] S = true from rfl), g1]
      dsimp only
      cases hb : denSs L Γ b ρ1 S with
      | nxt ρ2 S2 =>
        rw [hb] at g2
        exact ih ρ2 S2 g2
      | cnt ρ2 S2 =>
        rw [hb] at g2
        exact ih ρ2 S2 g2
      | brk ρ2 S2 =>
        rw [hb] at g2
        exact g2
      | ret v S2 =>
        rw [hb] at g2
        exact g2
      | exc x ρ2 S2 =>
        rw [hb] at g2
        exact g2.elim
      | bad =>
        rw [hb] at g2
        exact g2.elim
  show WS ((denS L Γ (.for_ t q es b) ρ S).seq _) P
  rw [WS_seq, den_for h1 h2]
  exact key xs ρ S1 i0
end
/-- a def's run -/
theorem callW {L : Loop} {P : Prog} {d f : Nat} {vs ws : List PV} {S : Store} {D : Def} {Q : PV → Store → Prop} (h1 : P.funs[f]? = some D) (h2 : fill D vs = some ws)
    (h : WS (denSs L (P.env (callL L P d) (prevD L P d)) D.body (ws.map some ++ List.replicate (D.ns - D.np) none) S) ⟨fun _ S => Q .non S, Q, fun _ _ => False, fun _ _ => False⟩) : W (callL L P (d + 1) f vs S) Q := by
  rw [call_succ]
  unfold runDef
  rw [h1]
  dsimp only
  rw [h2]
  dsimp only
  revert h
  cases denSs L (P.env (callL L P d) (prevD L P d)) D.body (ws.map some ++ List.replicate (D.ns - D.np) none) S with
  | nxt ρ S => exact fun h => ⟨_, _, rfl, h⟩
  | ret v S => exact fun h => ⟨_, _, rfl, h⟩
  | brk ρ S => exact fun h => h.elim
  | cnt ρ S => exact fun h => h.elim
  | exc x ρ S => exact fun h => h.elim
  | bad => exact fun h => h.elim
/-- what is told by an equation -/
theorem callE {r : Res PV} {v : PV} {S : Store} (h : W r fun a T => a = v ∧ T = S) : r = .ok v S := by
  obtain ⟨a, T, e, rfl, rfl⟩ := h
  exact e
/-- a comprehension whose turns leave the store -/
theorem compL_rel {α : Type} {g : Guard} {t : CT} {c e : Env → Store → Res PV} {ρ : Env} {S : Store} (i : α → PV) (p : α → Bool) (R : α → PV → Prop) (hg : intact g S = true) : ∀ (xs : List α) (acc : List PV), acc.length + xs.length ≤ cap →
    (∀ x ∈ xs, ∃ ρ', bindT S t (i x) ρ = some ρ' ∧ c ρ' S = .ok (.bl (p x)) S ∧ (p x = true → W (e ρ' S) fun v T => T = S ∧ R x v)) → ∃ ys, compL g t c e ρ (xs.map i) acc S = .ok (acc ++ ys) S ∧ F2 R (xs.filter p) ys
  | [], acc, _, _ => by
    refine ⟨[], ?_, .nil⟩
    rw [List.map_nil]
    unfold compL
    rw [if_pos hg]
    simp
  | x :: xs, acc, hl, h => by
    obtain ⟨ρ', h1, h2, h3⟩ := h x List.mem_cons_self
    rw [List.map_cons]
    unfold compL
    rw [if_pos hg, h1]
    dsimp only
    rw [h2]
    dsimp only [bind_ok_]
    simp only [List.length_cons] at hl
    by_cases hp : p x = true
    · obtain ⟨v, T, e1, rfl, r1⟩ := h3 hp
      rw [hp]
      dsimp only
      rw [e1]
      dsimp only [bind_ok_]
      have ho : okI (acc.length + 1) = true := okI_of (by omega)
      obtain ⟨ys, q1, q2⟩ := compL_rel i p R hg xs (acc ++ [v]) (by simp only [List.length_append, List.length_cons, List.length_nil]; omega) fun y hy => h y (List.mem_cons_of_mem _ hy)
      refine ⟨v :: ys, ?_, ?_⟩
      · rw [if_pos ho, q1]
        simp
      · rw [List.filter_cons_of_pos hp]
        exact .cons r1 q2
    · rw [Bool.not_eq_true] at hp
      rw [hp]
      dsimp only
      obtain ⟨ys, q1, q2⟩ := compL_rel i p R hg xs acc (by omega) fun y hy => h y (List.mem_cons_of_mem _ hy)
      refine ⟨ys, q1, ?_⟩
      rw [List.filter_cons_of_neg (by simp [hp])]
      exact q2
section
variable {Γ : Env2} {ρ : Env} {S : Store}
/-- a comprehension without tests -/
theorem v_comp {α : Type} {t : CT} {k : SrcK} {es : List E} {e : E} {vs : List PV} {g : Guard} {xs : List α} (i : α → PV) (R : α → PV → Prop) (h1 : denEs Γ es ρ S = .ok vs S) (h2 : walk S k vs = some (xs.map i, g)) (hg : intact g S = true) (hl : xs.length ≤ cap)
    (h : ∀ x ∈ xs, ∃ ρ', bindT S t (i x) (wipeE ρ (own t)) = some ρ' ∧ W (denE Γ e ρ' S) fun v T => T = S ∧ R x v) : ∃ ys, denE Γ (.comp false t k es [] e) ρ S = .ok (.lst ys) S ∧ F2 R xs ys := by
  obtain ⟨ys, q1, q2⟩ := compL_rel (g := g) (t := t) (c := fun ρ' S' => denC Γ [] ρ' S') (e := fun ρ' S' => denE Γ e ρ' S') (ρ := wipeE ρ (own t)) (S := S) i (fun _ => true) R hg xs [] (by simpa using hl) (fun x hx => by
    obtain ⟨ρ', a, b⟩ := h x hx
    exact ⟨ρ', a, rfl, fun _ => b⟩)
  refine ⟨ys, ?_, by rwa [List.filter_eq_self.mpr (fun _ _ => rfl)] at q2⟩
  show ((denEs Γ es ρ S).bind fun vs S1 => (match walk S1 k vs with
    | some (xs, g) => (compL g t (fun ρ' S' => denC Γ [] ρ' S') (fun ρ' S' => denE Γ e ρ' S') (wipeE ρ (own t)) xs [] S1).bind fun r S2 => FF.alloc false (.lst r) S2
    | none => .bad)) = _
  rw [h1]
  simp only [bind_ok_, h2, q1, alloc_f, List.nil_append]
/-- a comprehension with a test -/
theorem v_compIf {α : Type} {t : CT} {k : SrcK} {es : List E} {c e : E} {vs : List PV} {g : Guard} {xs : List α} (i : α → PV) (p : α → Bool) (R : α → PV → Prop) (h1 : denEs Γ es ρ S = .ok vs S) (h2 : walk S k vs = some (xs.map i, g)) (hg : intact g S = true) (hl : xs.length ≤ cap)
    (h : ∀ x ∈ xs, ∃ ρ', bindT S t (i x) (wipeE ρ (own t)) = some ρ' ∧ denC Γ [c] ρ' S = .ok (.bl (p x)) S ∧ (p x = true → W (denE Γ e ρ' S) fun v T => T = S ∧ R x v)) : ∃ ys, denE Γ (.comp false t k es [c] e) ρ S = .ok (.lst ys) S ∧ F2 R (xs.filter p) ys := by
  obtain ⟨ys, q1, q2⟩ := compL_rel (g := g) (t := t) (c := fun ρ' S' => denC Γ [c] ρ' S') (e := fun ρ' S' => denE Γ e ρ' S') (ρ := wipeE ρ (own t)) (S := S) i p R hg xs [] (by simpa using hl) h
  refine ⟨ys, ?_, q2⟩
  show ((denEs Γ es ρ S).bind fun vs S1 => (match walk S1 k vs with
    | some (xs, g) => (compL g t (fun ρ' S' => denC Γ [c] ρ' S') (fun ρ' S' => denE Γ e ρ' S') (wipeE ρ (own t)) xs [] S1).bind fun r S2 => FF.alloc false (.lst r) S2
    | none => .bad)) = _
  rw [h1]
  simp only [bind_ok_, h2, q1, alloc_f, List.nil_append]
end
theorem f2_map {α : Type} {f : α → PV} : ∀ {xs : List α} {ys : List PV}, F2 (fun x v => v = f x) xs ys → ys = xs.map f
  | [], _, .nil => rfl
  | x :: xs, _, .cons h t => by rw [h, f2_map t]; rfl
/-- each has a cause -/
theorem f2_ex {α β : Type} {f : β → PV} {p : α → β → Prop} : ∀ {xs : List α} {ys : List PV}, F2 (fun x v => ∃ y, v = f y ∧ p x y) xs ys → ∃ zs : List β, ys = zs.map f ∧ F2 p xs zs
  | [], _, .nil => ⟨[], rfl, .nil⟩
  | x :: xs, _, .cons ⟨y, e, h⟩ t => by
    obtain ⟨zs, e2, h2⟩ := f2_ex t
    exact ⟨y :: zs, by rw [e, e2]; rfl, .cons h h2⟩
theorem f2_len {α β : Type} {p : α → β → Prop} : ∀ {xs : List α} {ys : List β}, F2 p xs ys → xs.length = ys.length
  | [], _, .nil => rfl
  | x :: xs, _, .cons _ t => by simp [f2_len t]
theorem f2_mem {α β : Type} {p : α → β → Prop} : ∀ {xs : List α} {ys : List β}, F2 p xs ys → ∀ y ∈ ys, ∃ x ∈ xs, p x y
  | [], _, .nil, y, h => by cases h
  | x :: xs, _, .cons h0 t, y, h => by
    rcases List.mem_cons.mp h with rfl | h
    · exact ⟨x, List.mem_cons_self, h0⟩
    · obtain ⟨z, h1, h2⟩ := f2_mem t y h
      exact ⟨z, List.mem_cons_of_mem _ h1, h2⟩
theorem f2_imp {α β : Type} {p q : α → β → Prop} (k : ∀ x y, p x y → q x y) : ∀ {xs : List α} {ys : List β}, F2 p xs ys → F2 q xs ys
  | [], _, .nil => .nil
  | x :: xs, _, .cons h t => .cons (k _ _ h) (f2_imp k t)
end FF
set_option Elab.async false
set_option linter.all false
set_option autoImplicit false
set_option maxRecDepth 100000
/-! LW4: the evaluator's steps for simp. -/
namespace FF
open PySem L2
section
variable (L : Loop) (Γ : Env2) (ρ : Env) (S : Store)
@[simp] theorem d_var (i : Nat) : denE Γ (.var i) ρ S = (match ρ[i]? with
  | some (some v) => .ok v S
  | _ => .bad) := rfl
@[simp] theorem d_con (v : PV) : denE Γ (.con v) ρ S = .ok v S := rfl
@[simp] theorem d_glo (g : Nat) : denE Γ (.glo g) ρ S = opt S ((Γ.glob g).map (gval g)) := rfl
@[simp] theorem d_tup (es : List E) : denE Γ (.tup es) ρ S = (denEs Γ es ρ S).bind fun vs S1 => if okI vs.length then .ok (.tup vs) S1 else .bad := rfl
@[simp] theorem d_lst (m : Bool) (es : List E) : denE Γ (.lst m es) ρ S = (denEs Γ es ρ S).bind fun vs S1 => if okI vs.length then alloc m (.lst vs) S1 else .bad := rfl
@[simp] theorem d_bin (o : BOp) (a b : E) : denE Γ (.bin o a b) ρ S = (denE Γ a ρ S).bind fun x S1 => (denE Γ b ρ S1).bind fun y S2 => opt S2 (vbin o (view S2 x) (view S2 y)) := rfl
@[simp] theorem d_neg (a : E) : denE Γ (.neg a) ρ S = (denE Γ a ρ S).bind fun x S1 => (match x with
    | .int i => .ok (.int (-i)) S1
    | _ => .bad) := rfl
@[simp] theorem d_not (a : E) : denE Γ (.not a) ρ S = (denE Γ a ρ S).bind fun x S1 => (match truth S1 x with
    | some b => .ok (.bl (!b)) S1
    | none => .bad) := rfl
@[simp] theorem d_and (es : List E) : denE Γ (.and es) ρ S = denAnd Γ es ρ S := rfl
@[simp] theorem d_or (es : List E) : denE Γ (.or es) ρ S = denOr Γ es ρ S := rfl
@[simp] theorem d_and1 (e : E) : denAnd Γ [e] ρ S = denE Γ e ρ S := rfl
@[simp] theorem d_and2 (e f : E) (es : List E) : denAnd Γ (e :: f :: es) ρ S = (denE Γ e ρ S).bind fun x S1 => (match truth S1 x with
    | some true => denAnd Γ (f :: es) ρ S1
    | some false => .ok x S1
    | none => .bad) := rfl
@[simp] theorem d_or1 (e : E) : denOr Γ [e] ρ S = denE Γ e ρ S := rfl
@[simp] theorem d_or2 (e f : E) (es : List E) : denOr Γ (e :: f :: es) ρ S = (denE Γ e ρ S).bind fun x S1 => (match truth S1 x with
    | some true => .ok x S1
    | some false => denOr Γ (f :: es) ρ S1
    | none => .bad) := rfl
@[simp] theorem d_cmp (o : COp) (a b : E) : denE Γ (.cmp o a b) ρ S = (denE Γ a ρ S).bind fun x S1 => (denE Γ b ρ S1).bind fun y S2 => opt S2 ((vcmp S2 o x y).map .bl) := rfl
@[simp] theorem d_chain (o p : COp) (a b c : E) : denE Γ (.chain o p a b c) ρ S = (denE Γ a ρ S).bind fun x S1 => (denE Γ b ρ S1).bind fun y S2 => (match vcmp S2 o x y with
    | some true => (denE Γ c ρ S2).bind fun z S3 => opt S3 ((vcmp S3 p y z).map .bl)
    | some false => .ok (.bl false) S2
    | none => .bad) := rfl
@[simp] theorem d_ife (c a b : E) : denE Γ (.ife c a b) ρ S = (denE Γ c ρ S).bind fun x S1 => (match truth S1 x with
    | some true => denE Γ a ρ S1
    | some false => denE Γ b ρ S1
    | none => .bad) := rfl
@[simp] theorem d_call (m : Md) (g : Nat) (es : List E) : denE Γ (.call m g es) ρ S = (denEs Γ es ρ S).bind fun vs S1 => (match Γ.glob g with
    | some (.fn f) => (Γ.call f vs S1).bind fun v S2 => settle m S1 v S2
    | some (.cls c) => (make Γ c vs S1).bind fun v S2 => settle m S1 v S2
    | _ => .bad) := rfl
@[simp] theorem d_blt (m : Bool) (b : BFn) (es : List E) : denE Γ (.blt m b es) ρ S = (denEs Γ es ρ S).bind fun vs S1 => (match bfn S1 b vs with
    | some (v, true) => alloc m v S1
    | some (v, false) => .ok v S1
    | none => .bad) := rfl
@[simp] theorem d_isi (a : E) (ts : List TyR) : denE Γ (.isi a ts) ρ S = (denE Γ a ρ S).bind fun x S1 => if isKnown Γ.ini (view S1 x) && ts.all (tOk Γ.ini) then .ok (.bl (ts.any fun t => isOne Γ.anc (view S1 x) t)) S1 else .bad := rfl
@[simp] theorem d_meth (m : Md) (o : E) (x : Nat) (es : List E) : denE Γ (.meth m o x es) ρ S = (denE Γ o ρ S).bind fun v S1 => (match view S1 v with
    | .obj c ks _ => if ks.contains x then .bad else (match Γ.meth c x with
      | some g => (denEs Γ es ρ S1).bind fun vs S2 => (Γ.call g (v :: vs) S2).bind fun r S3 => settle m S2 r S3
      | none => .bad)
    | _ => .bad) := rfl
@[simp] theorem d_bm (b : BMt) (o : E) (es : List E) : denE Γ (.bm b o es) ρ S = (denE Γ o ρ S).bind fun v S1 => if bmK S1 b v then (denEs Γ es ρ S1).bind fun vs S2 => bmt S2 b v vs else .bad := rfl
@[simp] theorem d_fld (o : E) (x : Nat) : denE Γ (.fld o x) ρ S = (denE Γ o ρ S).bind fun v S1 => (match view S1 v with
    | .obj _ ks vs => opt S1 (fget x ks vs)
    | _ => .bad) := rfl
@[simp] theorem d_idx (o i : E) : denE Γ (.idx o i) ρ S = (denE Γ o ρ S).bind fun v S1 => (denE Γ i ρ S1).bind fun w S2 => opt S2 (vidx S2 v w) := rfl
@[simp] theorem d_slc (m lo hi : Bool) (o a b : E) : denE Γ (.slc m lo hi o a b) ρ S = (denE Γ o ρ S).bind fun v S1 => (if lo then denE Γ a ρ S1 else .ok .non S1).bind fun x S2 => (if hi then denE Γ b ρ S2 else .ok .non S2).bind fun y S3 => (match optI lo x, optI hi y with
    | some l, some h => (match vslc S3 v l h with
      | some (.lst xs) => alloc m (.lst xs) S3
      | some r => .ok r S3
      | none => .bad)
    | _, _ => .bad) := rfl
@[simp] theorem d_fmt (a : E) : denE Γ (.fmt a) ρ S = (denE Γ a ρ S).bind fun v S1 => (match v with
    | .str x => if okI x.length then .ok (.str x) S1 else .bad
    | .int i => if decide (i.natAbs.log2 < 1920) then .ok (.str (chars (toString i))) S1 else .bad
    | _ => .bad) := rfl
@[simp] theorem d_fstr (es : List E) : denE Γ (.fstr es) ρ S = (denEs Γ es ρ S).bind fun vs S1 => (match asStrs vs with
    | some ts => if okI ts.flatten.length then .ok (.str ts.flatten) S1 else .bad
    | none => .bad) := rfl
@[simp] theorem d_nil : denEs Γ [] ρ S = .ok [] S := rfl
@[simp] theorem d_cons (e : E) (es : List E) : denEs Γ (e :: es) ρ S = (denE Γ e ρ S).bind fun v S1 => (denEs Γ es ρ S1).bind fun vs S2 => .ok (v :: vs) S2 := rfl
@[simp] theorem d_test (c : E) : testOf Γ c ρ S = (denE Γ c ρ S).bind fun x S1 => opt S1 (truth S1 x) := rfl
@[simp] theorem d_c0 : denC Γ [] ρ S = .ok (.bl true) S := rfl
@[simp] theorem d_c1 (e : E) : denC Γ [e] ρ S = (denE Γ e ρ S).bind fun x S1 => opt S1 ((truth S1 x).map .bl) := rfl
@[simp] theorem d_n0 {α : Type} : opt S (none : Option α) = .bad := rfl
/-! values -/
@[simp] theorem vw_non : view S .non = .non := rfl
@[simp] theorem vw_bl (b : Bool) : view S (.bl b) = .bl b := rfl
@[simp] theorem vw_int (i : Int) : view S (.int i) = .int i := rfl
@[simp] theorem vw_str (x : List Nat) : view S (.str x) = .str x := rfl
@[simp] theorem vw_tup (x : List PV) : view S (.tup x) = .tup x := rfl
@[simp] theorem vw_lst (x : List PV) : view S (.lst x) = .lst x := rfl
@[simp] theorem vw_dct (x y : List PV) : view S (.dct x y) = .dct x y := rfl
@[simp] theorem vw_obj (c : Nat) (x : List Nat) (y : List PV) : view S (.obj c x y) = .obj c x y := rfl
@[simp] theorem vw_ref (n : Nat) : view S (.ref n) = (S[n]?).getD (.ref n) := rfl
@[simp] theorem tr_non : truth S .non = some false := rfl
@[simp] theorem tr_bl (b : Bool) : truth S (.bl b) = some b := rfl
@[simp] theorem tr_int (i : Int) : truth S (.int i) = some (i != 0) := rfl
@[simp] theorem tr_lst (x : List PV) : truth S (.lst x) = some (!x.isEmpty) := rfl
@[simp] theorem tr_tup (x : List PV) : truth S (.tup x) = some (!x.isEmpty) := rfl
@[simp] theorem vb_add (a b : PV) : vbin .add a b = vadd a b := rfl
@[simp] theorem vb_mul (a b : PV) : vbin .mul a b = vmul a b := rfl
@[simp] theorem vb_sub (a b : Int) : vbin .sub (.int a) (.int b) = some (.int (a - b)) := rfl
@[simp] theorem va_int (a b : Int) : vadd (.int a) (.int b) = some (.int (a + b)) := rfl
@[simp] theorem va_str (a b : List Nat) : vadd (.str a) (.str b) = if okI (a.length + b.length) then some (.str (a ++ b)) else none := rfl
@[simp] theorem va_lst (a b : List PV) : vadd (.lst a) (.lst b) = if okI (a.length + b.length) then some (.lst (a ++ b)) else none := rfl
@[simp] theorem va_tup (a b : List PV) : vadd (.tup a) (.tup b) = if okI (a.length + b.length) then some (.tup (a ++ b)) else none := rfl
@[simp] theorem vm_int (a b : Int) : vmul (.int a) (.int b) = if decide (a.natAbs < 2 ^ 64) || decide (b.natAbs < 2 ^ 64) then some (.int (a * b)) else none := rfl
@[simp] theorem vm_str (a : List Nat) (b : Int) : vmul (.str a) (.int b) = (reps a b).map .str := rfl
@[simp] theorem vm_lst (a : List PV) (b : Int) : vmul (.lst a) (.int b) = (reps a b).map .lst := rfl
@[simp] theorem vb_fdiv (a b : Int) : vbin .fdiv (.int a) (.int b) = if decide (0 < b) && decide (b < 1073741824) then some (.int (a / b)) else none := rfl
@[simp] theorem vb_mod (a b : Int) : vbin .mod (.int a) (.int b) = if decide (0 < b) then some (.int (a % b)) else none := rfl
@[simp] theorem vc_lt (a b : Int) : vcmp S .lt (.int a) (.int b) = some (decide (a < b)) := rfl
@[simp] theorem vc_le (a b : Int) : vcmp S .le (.int a) (.int b) = some (decide (a ≤ b)) := rfl
@[simp] theorem vc_gt (a b : Int) : vcmp S .gt (.int a) (.int b) = some (decide (b < a)) := rfl
@[simp] theorem vc_ge (a b : Int) : vcmp S .ge (.int a) (.int b) = some (decide (b ≤ a)) := rfl
@[simp] theorem vc_eq (a b : PV) : vcmp S .eq a b = eqV (view S a) (view S b) := rfl
@[simp] theorem vc_ne (a b : PV) : vcmp S .ne a b = (eqV (view S a) (view S b)).map (!·) := rfl
@[simp] theorem vc_in (a b : PV) : vcmp S .isin a b = vin S a b := rfl
@[simp] theorem vc_nin (a b : PV) : vcmp S .notin a b = (vin S a b).map (!·) := rfl
@[simp] theorem vc_isN (a : PV) : vcmp S .is_ a .non = some (decide (a = .non)) := rfl
@[simp] theorem vc_ntN (a : PV) : vcmp S .isnot a .non = some (!decide (a = .non)) := rfl
@[simp] theorem bf_len (v : PV) : bfn S .len [v] = (vlen S v).map fun (n : Nat) => (.int (n : Int), false) := rfl
@[simp] theorem bf_int (i : Int) : bfn S .int [.int i] = some (.int i, false) := rfl
@[simp] theorem bf_intb (b : Bool) : bfn S .int [.bl b] = some (.int (if b then 1 else 0), false) := rfl
@[simp] theorem bf_abs (i : Int) : bfn S .abs [.int i] = some (.int (if i < 0 then -i else i), false) := rfl
@[simp] theorem bf_max (i j : Int) : bfn S .max2 [.int i, .int j] = some (.int (if j > i then j else i), false) := rfl
@[simp] theorem bf_min (i j : Int) : bfn S .min2 [.int i, .int j] = some (.int (if j < i then j else i), false) := rfl
@[simp] theorem bf_str (i : Int) : bfn S .str [.int i] = if decide (i.natAbs.log2 < 1920) then some (.str (chars (toString i)), false) else none := rfl
@[simp] theorem bf_tupL (x : List PV) : bfn S .tuple [.lst x] = some (.tup x, false) := rfl
@[simp] theorem bf_tupT (x : List PV) : bfn S .tuple [.tup x] = some (.tup x, false) := rfl
@[simp] theorem bf_lstL (x : List PV) : bfn S .list [.lst x] = some (.lst x, true) := rfl
@[simp] theorem bf_lstT (x : List PV) : bfn S .list [.tup x] = some (.lst x, true) := rfl
@[simp] theorem vl_tup (x : List PV) : vlen S (.tup x) = some x.length := rfl
@[simp] theorem vl_lst (x : List PV) : vlen S (.lst x) = some x.length := rfl
@[simp] theorem vl_str (x : List Nat) : vlen S (.str x) = if okI x.length then some x.length else none := rfl
@[simp] theorem ob_none (v : PV) : optI false v = some none := rfl
@[simp] theorem ob_some (i : Int) : optI true (.int i) = some (some i) := rfl
@[simp] theorem sl_tup (x : List PV) (l h : Option Int) : vslc S (.tup x) l h = some (.tup (cut x l h)) := rfl
@[simp] theorem sl_lst (x : List PV) (l h : Option Int) : vslc S (.lst x) l h = some (.lst (cut x l h)) := rfl
@[simp] theorem sl_str (x : List Nat) (l h : Option Int) : vslc S (.str x) l h = if okI x.length then some (.str (cut x l h)) else none := rfl
@[simp] theorem ix_tup0 (a : PV) (r : List PV) : vidx S (.tup (a :: r)) (.int 0) = some a := by simp [vidx, L2.atI, L2.ixN]
@[simp] theorem ix_tup1 (a b : PV) (r : List PV) : vidx S (.tup (a :: b :: r)) (.int 1) = some b := by
  have h : (1 : Int) < (r.length : Int) + 1 + 1 := by omega
  simp [vidx, L2.atI, L2.ixN, h]
@[simp] theorem ix_tup2 (a b c : PV) (r : List PV) : vidx S (.tup (a :: b :: c :: r)) (.int 2) = some c := by
  have h : (2 : Int) < (r.length : Int) + 1 + 1 + 1 := by omega
  simp [vidx, L2.atI, L2.ixN, h]
@[simp] theorem ix_tup3 (a b c d : PV) (r : List PV) : vidx S (.tup (a :: b :: c :: d :: r)) (.int 3) = some d := by
  have h : (3 : Int) < (r.length : Int) + 1 + 1 + 1 + 1 := by omega
  simp [vidx, L2.atI, L2.ixN, h]
@[simp] theorem ix_lst0 (a : PV) (r : List PV) : vidx S (.lst (a :: r)) (.int 0) = some a := by simp [vidx, L2.atI, L2.ixN]
@[simp] theorem ix_lst1 (a b : PV) (r : List PV) : vidx S (.lst (a :: b :: r)) (.int 1) = some b := by
  have h : (1 : Int) < (r.length : Int) + 1 + 1 := by omega
  simp [vidx, L2.atI, L2.ixN, h]
theorem ix_lst {x : List PV} {i : Int} {n : Nat} {v : PV} (h : (i : Int) = n) (e : x[n]? = some v) : vidx S (.lst x) (.int i) = some v := by
  subst h
  have hl := (List.getElem?_eq_some_iff.mp e).1
  show L2.atI x n = _
  unfold L2.atI L2.ixN
  have h0 : (0 : Int) ≤ n := by omega
  have h1 : (n : Int) < x.length := by omega
  rw [if_pos h0, if_pos h1]
  simpa using e
theorem ix_tup {x : List PV} {i : Int} {n : Nat} {v : PV} (h : (i : Int) = n) (e : x[n]? = some v) : vidx S (.tup x) (.int i) = some v := ix_lst S h e
@[simp] theorem wk_val (x : List PV) : walk S .val [.lst x] = some (x, []) := rfl
@[simp] theorem wk_valT (x : List PV) : walk S .val [.tup x] = some (x, []) := rfl
@[simp] theorem wk_enum (x : List PV) : walk S .enum [.lst x] = some (enumT 0 x, []) := rfl
@[simp] theorem wk_enumT (x : List PV) : walk S .enum [.tup x] = some (enumT 0 x, []) := rfl
@[simp] theorem wk_zip (x y : List PV) : walk S .zip [.lst x, .lst y] = some (zipT x y, []) := rfl
@[simp] theorem kn_non (i : Nat → Option (Option Nat)) : isKnown i .non = true := rfl
@[simp] theorem kn_bl (i : Nat → Option (Option Nat)) (b : Bool) : isKnown i (.bl b) = true := rfl
@[simp] theorem kn_int (i : Nat → Option (Option Nat)) (b : Int) : isKnown i (.int b) = true := rfl
@[simp] theorem kn_str (i : Nat → Option (Option Nat)) (b : List Nat) : isKnown i (.str b) = true := rfl
@[simp] theorem kn_tup (i : Nat → Option (Option Nat)) (b : List PV) : isKnown i (.tup b) = true := rfl
@[simp] theorem kn_lst (i : Nat → Option (Option Nat)) (b : List PV) : isKnown i (.lst b) = true := rfl
@[simp] theorem kn_dct (i : Nat → Option (Option Nat)) (a b : List PV) : isKnown i (.dct a b) = true := rfl
@[simp] theorem kn_obj (i : Nat → Option (Option Nat)) (c : Nat) (a : List Nat) (b : List PV) : isKnown i (.obj c a b) = (i c).isSome := rfl
@[simp] theorem lw_lst (n : Nat) (x : List PV) : low n (.lst x) = lows n x := by simp [low]
@[simp] theorem lw_tup (n : Nat) (x : List PV) : low n (.tup x) = lows n x := by simp [low]
@[simp] theorem lw_obj (n c : Nat) (k : List Nat) (x : List PV) : low n (.obj c k x) = lows n x := by simp [low]
@[simp] theorem lw_nil (n : Nat) : lows n [] = true := by simp [lows]
@[simp] theorem lw_cons (n : Nat) (v : PV) (x : List PV) : lows n (v :: x) = (low n v && lows n x) := by simp [lows]
@[simp] theorem lw_non (n : Nat) : low n .non = true := by simp [low]
@[simp] theorem lw_bl (n : Nat) (b : Bool) : low n (.bl b) = true := by simp [low]
@[simp] theorem lw_int (n : Nat) (b : Int) : low n (.int b) = true := by simp [low]
@[simp] theorem lw_str (n : Nat) (b : List Nat) : low n (.str b) = true := by simp [low]
end
theorem lows_of {n : Nat} : ∀ {x : List PV}, (∀ v ∈ x, low n v = true) → lows n x = true
  | [], _ => by simp
  | v :: x, h => by simp [h v List.mem_cons_self, lows_of fun w hw => h w (List.mem_cons_of_mem _ hw)]
theorem lows_app {n : Nat} : ∀ {x y : List PV}, lows n (x ++ y) = (lows n x && lows n y)
  | [], _ => by simp
  | v :: x, y => by simp [lows_app (x := x), Bool.and_assoc]
@[simp] theorem ok_1 : okI 1 = true := by decide
@[simp] theorem ok_2 : okI 2 = true := by decide
@[simp] theorem ok_3 : okI 3 = true := by decide
@[simp] theorem ok_0 : okI 0 = true := by decide
@[simp] theorem own_one (i : Nat) : own (.one i) = [i] := rfl
@[simp] theorem own_many (is : List Nat) : own (.many is) = is := rfl
@[simp] theorem wp_nil (ρ : Env) : wipeE ρ [] = ρ := rfl
@[simp] theorem wp_cons (ρ : Env) (i : Nat) (is : List Nat) : wipeE ρ (i :: is) = (wipeE ρ is).set i none := rfl
@[simp] theorem bt_one (S : Store) (i : Nat) (x : PV) (ρ : Env) : bindT S (.one i) x ρ = some (ρ.set i (some x)) := rfl
@[simp] theorem bt_many (S : Store) (is : List Nat) (xs : List PV) (ρ : Env) : bindT S (.many is) (.tup xs) ρ = setAll is xs ρ := rfl
@[simp] theorem sa_nil (ρ : Env) : setAll [] [] ρ = some ρ := rfl
@[simp] theorem sa_cons (i : Nat) (is : List Nat) (x : PV) (xs : List PV) (ρ : Env) : setAll (i :: is) (x :: xs) ρ = setAll is xs (ρ.set i (some x)) := rfl
theorem okN {n : Nat} (h : n ≤ 1000000) : okI n = true := okI_of (by unfold cap; omega)
/-! a store's last cells -/
@[simp] theorem s_len (S : Store) (x : PV) : (S ++ [x]).length = S.length + 1 := by simp
@[simp] theorem s_at (S : Store) (x : PV) : (S ++ [x])[S.length]? = some x := by simp
@[simp] theorem s_set (S : Store) (x y : PV) : (S ++ [x]).set S.length y = S ++ [y] := by simp
@[simp] theorem s_setS (S : Store) (x y : PV) : setS (S ++ [x]) S.length y = S ++ [y] := by simp [setS]
@[simp] theorem s_rl (S : Store) (x : List PV) : refList (S ++ [.lst x]) (.ref S.length) = some (S.length, x) := by simp [refList]
@[simp] theorem s_app (S : Store) (x : List PV) (v : PV) : bmt (S ++ [.lst x]) .append (.ref S.length) [v] = if okI (x.length + 1) then .ok .non (S ++ [.lst (x ++ [v])]) else .bad := by
  have e : bmt (S ++ [.lst x]) .append (.ref S.length) [v] = mAppend (S ++ [.lst x]) (.ref S.length) [v] := rfl
  rw [e]
  unfold mAppend
  rw [s_rl]
  simp
@[simp] theorem s_bmk (S : Store) (x : List PV) : bmK (S ++ [.lst x]) .append (.ref S.length) = true := by
  show bmK.isLst (view _ _) = true
  simp [bmK.isLst]
@[simp] theorem s_seq (S : Store) (x : List PV) : seqOf (S ++ [.lst x]) (.ref S.length) = some x := by simp [seqOf]
@[simp] theorem s_tuple (S : Store) (x : List PV) : bfn (S ++ [.lst x]) .tuple [.ref S.length] = some (.tup x, false) := by
  have e : bfn (S ++ [.lst x]) .tuple [.ref S.length] = bTuple (S ++ [.lst x]) [.ref S.length] := rfl
  rw [e]
  simp [bTuple]
theorem settle_v {S : Store} {v : PV} (h : low S.length v = true) : settle .val S v S = .ok v S := settle_low h
/-- a callee's value, whatever is left of new cells -/
theorem settle_vx {S T : Store} {v : PV} (h : low S.length v = true) : settle .val S v (S ++ T) = .ok v S := by
  have e : (S ++ T).take S.length = S := by simp
  unfold settle
  simp only [e, if_true]
  unfold frz
  simp [h]
theorem settle_lx {S : Store} {x : List PV} (h : lows S.length x = true) : settle .val S (.ref S.length) (S ++ [.lst x]) = .ok (.lst x) S := settle_lst (n := S.length) (Nat.le_refl _) (by simp) h
theorem settle_rx {S : Store} {x : List PV} (h : lows S.length x = true) : settle .ref S (.ref S.length) (S ++ [.lst x]) = .ok (.ref S.length) (S ++ [.lst x]) := settle_refl (n := S.length) (Nat.le_refl _) (by simp) h
/-- a loop that appends one thing a turn to the last cell -/
theorem st_forA {L : Loop} {Γ : Env2} {ss b : List Sm} {ρ : Env} {S S0 : Store} {P : Po} {α : Type} {t : CT} {q : SrcK} {es : List E} {vs : List PV} {xs : List α} (f : α → PV) (J : Env → Prop) (R : α → PV → Prop) (h1 : denEs Γ es ρ S = .ok vs (S0 ++ [.lst []])) (h2 : walk (S0 ++ [.lst []]) q vs = some (xs.map f, [])) (e0 : J ρ)
    (step : ∀ x ∈ xs, ∀ acc ρ, acc.length < xs.length → J ρ → ∃ ρ1, bindT (S0 ++ [.lst acc]) t (f x) ρ = some ρ1 ∧ WS (denSs L Γ b ρ1 (S0 ++ [.lst acc])) ⟨fun ρ' S' => J ρ' ∧ ∃ y, S' = S0 ++ [.lst (acc ++ [y])] ∧ R x y, fun _ _ => False, fun _ _ => False, fun _ _ => False⟩)
    (fin : ∀ ρ ys, J ρ → F2 R xs ys → WS (denSs L Γ ss ρ (S0 ++ [.lst ys])) P) : WS (denSs L Γ (.for_ t q es b :: ss) ρ S) P := by
  have f2app : ∀ {as bs : List α} {us ws : List PV}, F2 R as us → F2 R bs ws → F2 R (as ++ bs) (us ++ ws) := by
    intro as bs us ws h k
    induction h with
    | nil => exact k
    | cons a _ ih => exact .cons a ih
  refine st_for f (fun r ρ S => J ρ ∧ ∃ done acc, done ++ r = xs ∧ S = S0 ++ [.lst acc] ∧ F2 R done acc) h1 h2 ⟨e0, [], [], rfl, rfl, .nil⟩ (fun x r ρ S ⟨j, done, acc, e1, e2, e3⟩ => ?_) fun ρ S ⟨j, done, acc, e1, e2, e3⟩ => ?_
  · subst e2
    have hx : x ∈ xs := by rw [← e1]; simp
    have hl : acc.length < xs.length := by
      rw [← e1, ← f2_len e3]
      simp
    obtain ⟨ρ1, g1, g2⟩ := step x hx acc ρ hl j
    have nx : ∀ ρ' S', (J ρ' ∧ ∃ y, S' = S0 ++ [.lst (acc ++ [y])] ∧ R x y) → J ρ' ∧ ∃ done acc, done ++ r = xs ∧ S' = S0 ++ [.lst acc] ∧ F2 R done acc := by
      rintro ρ' S' ⟨j', y, rfl, ry⟩
      exact ⟨j', done ++ [x], acc ++ [y], by rw [← e1]; simp, rfl, f2app e3 (.cons ry .nil)⟩
    exact ⟨ρ1, g1, WS.mono g2 nx (fun _ _ z => z.elim) (fun _ _ z => z.elim) fun _ _ z => z.elim⟩
  · subst e2
    rw [List.append_nil] at e1
    subst e1
    exact fin ρ acc j e3
theorem rangeM (n : Int) (S : Store) (h0 : 0 ≤ n) (h : n ≤ 1000000) : walk S .range1 [.int n] = some ((List.range n.toNat).map fun (i : Nat) => PV.int (i : Int), []) := by
  have : okB n = true := by simp [okB]; omega
  simp [walk, this, ranged]
end FF
set_option Elab.async false
set_option linter.all false
set_option autoImplicit false
set_option maxRecDepth 100000
set_option maxHeartbeats 400000
/-! LW5: what more than one law's walk uses. -/
namespace FF
open PySem L2
theorem ix_any (S : Store) {α : Type} (f : α → PV) (L : List α) (i : Int) (h0 : 0 ≤ i) (h1 : i < L.length) : ∃ x ∈ L, L[i.toNat]? = some x ∧ vidx S (.lst (L.map f)) (.int i) = some (f x) ∧ vidx S (.tup (L.map f)) (.int i) = some (f x) := by
  have hl : i.toNat < L.length := by omega
  have e : L[i.toNat]? = some L[i.toNat] := List.getElem?_eq_getElem hl
  have e2 : (L.map f)[i.toNat]? = some (f L[i.toNat]) := by rw [List.getElem?_map, e]; rfl
  have hi : i = (i.toNat : Int) := by omega
  exact ⟨_, List.getElem_mem hl, e, ix_lst S hi e2, ix_tup S hi e2⟩
theorem primes_ok (S : Store) (j : Nat) : ∃ c : Int, vidx S (.lst [.int 48271, .int 16807, .int 69621, .int 39373]) (.int ((j : Int) % 4)) = some (.int c) ∧ c.natAbs < 18446744073709551616 := by
  obtain ⟨c, h1, _, h2, _⟩ := ix_any S PV.int [48271, 16807, 69621, 39373] ((j : Int) % 4) (by omega) (by simp; omega)
  refine ⟨c, by simpa using h2, ?_⟩
  simp at h1
  omega
def eqB (a b : PV) : Bool := (eqV a b).getD false
theorem eqV_fit {a b : PV} {n m : Nat} (hn : n ≤ 64) (hm : m ≤ 64) (ha : fit n a = true) (hb : fit m b = true) : eqV a b = some (eqB a b) := by
  obtain ⟨d, _, h1⟩ := shp_fit hn ha
  obtain ⟨e, _, h2⟩ := shp_fit hm hb
  unfold eqB FF.eqV
  rw [h1, h2]
  rfl
theorem fit_str {n : Nat} {x : List Nat} (h : ∀ c ∈ x, c < 128) : fit n (.str x) = true := by
  cases n <;> simp [fit] <;> exact h
theorem fits_of {n : Nat} : ∀ {xs : List PV}, (∀ x ∈ xs, fit n x = true) → fits n xs = true
  | [], _ => by simp [fits]
  | x :: xs, h => by simp [fits, h x List.mem_cons_self, fits_of fun y hy => h y (List.mem_cons_of_mem _ hy)]
mutual
theorem low_mono {m n : Nat} (h : m ≤ n) : ∀ v : PV, low m v = true → low n v = true
  | .ref k, e => by
    simp only [low, decide_eq_true_eq] at e ⊢
    omega
  | .tup xs, e => by
    rw [lw_tup] at e ⊢
    exact lows_mono h xs e
  | .lst xs, e => by
    rw [lw_lst] at e ⊢
    exact lows_mono h xs e
  | .dct ks vs, e => by
    simp only [low, Bool.and_eq_true] at e ⊢
    exact ⟨lows_mono h ks e.1, lows_mono h vs e.2⟩
  | .obj c ks vs, e => by
    rw [lw_obj] at e ⊢
    exact lows_mono h vs e
  | .non, _ => by simp
  | .bl _, _ => by simp
  | .int _, _ => by simp
  | .str _, _ => by simp
  | .fn _, _ => by simp [low]
theorem lows_mono {m n : Nat} (h : m ≤ n) : ∀ v : List PV, lows m v = true → lows n v = true
  | [], _ => by simp
  | x :: xs, e => by
    rw [lw_cons, Bool.and_eq_true] at e ⊢
    exact ⟨low_mono h x e.1, lows_mono h xs e.2⟩
end
theorem lows_set {m n : Nat} {x : PV} : ∀ {S : List PV}, lows m S = true → low m x = true → lows m (S.set n x) = true := by
  intro S
  induction S generalizing n with
  | nil => exact fun h _ => h
  | cons a l ih =>
    intro h hx
    rw [lw_cons, Bool.and_eq_true] at h
    cases n with
    | zero => simp [hx, h.2]
    | succ n => simp [h.1, ih h.2 hx]
theorem mapO_low {m : Nat} {T : Store} : ∀ {L : List PV}, lows m L = true → mapO (frzC m T) L = some L
  | [], _ => rfl
  | x :: L, h => by
    rw [lw_cons, Bool.and_eq_true] at h
    have e : frzC m T x = some x := by
      unfold frzC
      rw [if_pos h.1]
    unfold mapO
    rw [e]
    simp only [mapO_low h.2]
    rfl
theorem settle_c {S S' T : Store} {v r : PV} (hl : S'.length = S.length) (h : lows S.length S' = true) (hf : frz S.length (S' ++ T) 8 v = some r) : FF.settle .chg S v (S' ++ T) = .ok r S' := by
  have e : (S' ++ T).take S.length = S' := by rw [← hl]; simp
  unfold FF.settle
  have hle : S.length ≤ (S' ++ T).length := by rw [List.length_append]; omega
  simp only [decide_eq_true hle, if_true, e, mapO_low h, hf]
theorem set_same {S : Store} {n : Nat} {x : PV} (h : S[n]? = some x) : S.set n x = S := by
  obtain ⟨h1, rfl⟩ := List.getElem?_eq_some_iff.mp h
  exact List.set_getElem_self h1
theorem frz_v {m k : Nat} {T : Store} {v : PV} (h : low m v = true) : frz m T k v = some v := by
  unfold frz
  cases k <;> simp [h]
theorem app_at {T : Store} {m : Nat} {x : List PV} (v : PV) (h : T[m]? = some (.lst x)) (hl : x.length ≤ 100000) : bmt T .append (.ref m) [v] = .ok .non (T.set m (.lst (x ++ [v]))) := by
  have e : bmt T .append (.ref m) [v] = mAppend T (.ref m) [v] := rfl
  rw [e]
  unfold mAppend refList
  simp only [h, okN (show x.length + 1 ≤ 1000000 by omega), if_true, setS]
theorem bmk_at {T : Store} {m : Nat} {x : List PV} (h : T[m]? = some (.lst x)) : bmK T .append (.ref m) = true := by
  show bmK.isLst (view T (.ref m)) = true
  simp [h, bmK.isLst]
theorem len_at {T : Store} {m : Nat} {x : List PV} (h : T[m]? = some (.lst x)) : bfn T .len [.ref m] = some (.int x.length, false) := by
  simp [vlen, h]
theorem vidx_at {T : Store} {m : Nat} {x : List PV} {i : PV} (h : T[m]? = some (.lst x)) : vidx T (.ref m) i = vidx T (.lst x) i := by
  unfold vidx
  simp [h]
theorem vlen_at {T : Store} {m : Nat} {x : List PV} (h : T[m]? = some (.lst x)) : vlen T (.ref m) = some x.length := by
  unfold vlen
  simp [h]
theorem reps_one {α : Type} (v : α) (k : Int) (h0 : 0 ≤ k) (h : k ≤ 100) : reps [v] k = some (List.replicate k.toNat v) := by
  unfold reps
  have hc : k ≤ (cap : Int) := by unfold cap; omega
  have ho : okI ([v].length * k.toNat) = true := okI_of (by unfold cap; simp; omega)
  rw [decide_eq_true h0, decide_eq_true hc, ho]
  simp
theorem v_callc {Γ : Env2} {ρ : Env} {S S1 : Store} {m : Md} {g f : Nat} {es : List E} {vs : List PV} {r : Res PV} (h1 : denEs Γ es ρ S = .ok vs S1) (h2 : Γ.glob g = some (.fn f)) (h3 : ((Γ.call f vs S1).bind fun v S2 => FF.settle m S1 v S2) = r) : denE Γ (.call m g es) ρ S = r := by
  rw [d_call, h1]
  simp only [bind_ok_, h2]
  exact h3
theorem comp_two {Γ : Env2} {ρ : Env} {S S1 S2 : Store} {i : Nat} {x y va vb : PV} {e : E} (h1 : denE Γ e (ρ.set i (some x)) S = .ok va S1) (h2 : denE Γ e (ρ.set i (some y)) S1 = .ok vb S2) : denE Γ (.comp true (.one i) .val [(.tup [(.con x), (.con y)])] [] e) ρ S = .ok (.ref S2.length) (S2 ++ [.lst [va, vb]]) := by
  show ((denEs Γ [(.tup [(.con x), (.con y)])] ρ S).bind fun vs S1 => (match walk S1 .val vs with
    | some (xs, g) => (compL g (.one i) (fun ρ' S' => denC Γ [] ρ' S') (fun ρ' S' => denE Γ e ρ' S') (wipeE ρ (own (.one i))) xs [] S1).bind fun r S2 => FF.alloc true (.lst r) S2
    | none => .bad)) = _
  have hg : ∀ S, intact [] S = true := fun _ => rfl
  simp [compL, hg, h1, h2]
theorem lows_tail {m : Nat} {S T : List PV} (h : lows m S = true) (h2 : lows m T = true) : lows m (S ++ T) = true := by
  rw [lows_app, h, h2]
  rfl
theorem v_app {Γ : Env2} {ρ : Env} {S S1 : Store} {i m : Nat} {e : E} {v : PV} {x0 x : List PV} (h0 : ρ[i]? = some (some (.ref m))) (h1 : S[m]? = some (.lst x0)) (h2 : denE Γ e ρ S = .ok v S1) (h3 : S1[m]? = some (.lst x)) (h4 : x.length ≤ 100000) : denE Γ (.bm .append (.var i) [e]) ρ S = .ok .non (S1.set m (.lst (x ++ [v]))) := by
  have h5 := bmk_at h1
  have h6 := app_at v h3 h4
  rw [d_bm, d_var, h0]
  simp only [bind_ok_, h5, if_true, d_cons, d_nil, h2, h6]
theorem eqL {x y : List Nat} (hx : (x.all fun c => decide (c < 128)) = true) (hy : (y.all fun c => decide (c < 128)) = true) : FF.eqV (.str x) (.str y) = some (decide (x = y)) :=
  eqV_str (fun c h => of_decide_eq_true (List.all_eq_true.mp hx c h)) fun c h => of_decide_eq_true (List.all_eq_true.mp hy c h)
theorem settle_nx {S : Store} {o : PV} (h : low S.length o = true) : FF.settle .val S (.ref S.length) (S ++ [o]) = .ok o S := by
  have e : (S ++ [o]).take S.length = S := by simp
  have l2 : low S.length (.ref S.length) = false := by simp [low]
  have f1 : frz S.length (S ++ [o]) 8 (.ref S.length) = some o := by
    rw [frz_succ, l2]
    simp only [frzN, s_at]
    exact frz_v h
  unfold FF.settle
  simp only [e, if_true, f1]
  rfl
theorem mk_ok {Γ : Env2} {ρ : Env} {S S0 : Store} {g c f : Nat} {es : List E} {vs : List PV} {o : PV} (h1 : denEs Γ es ρ S0 = .ok vs S) (h2 : Γ.glob g = some (.cls c)) (h3 : Γ.ini c = some (some f)) (h4 : Γ.init f (.ref S.length :: vs) (S ++ [.obj c [] []]) = .ok .non (S ++ [o])) (h5 : low S.length o = true) : denE Γ (.call .val g es) ρ S0 = .ok o S := by
  rw [d_call, h1]
  simp only [bind_ok_, h2]
  unfold FF.make
  simp only [h3, h4, bind_ok_]
  exact settle_nx h5
theorem mk0_ok {Γ : Env2} {ρ : Env} {S : Store} {g c : Nat} (h2 : Γ.glob g = some (.cls c)) (h3 : Γ.ini c = some none) : denE Γ (.call .val g []) ρ S = .ok (.obj c [] []) S := by
  rw [d_call, d_nil]
  simp only [bind_ok_, h2]
  unfold FF.make
  simp only [h3, bind_ok_]
  exact settle_nx (by simp)
/-- a field of the newest object -/
theorem st_self {L : Loop} {Γ : Env2} {ss : List Sm} {ρ : Env} {S : Store} {P : Po} {e : E} {v : PV} {i x c : Nat} {ks : List Nat} {vs : List PV} (h : denE Γ e ρ (S ++ [.obj c ks vs]) = .ok v (S ++ [.obj c ks vs])) (h2 : ρ[i]? = some (some (.ref S.length))) (h4 : ks.length < 900)
    (q : WS (denSs L Γ ss ρ (S ++ [.obj c (fput x v ks vs).1 (fput x v ks vs).2])) P) : WS (denSs L Γ (.asg (.fld (.var i) x) e :: ss) ρ (S ++ [.obj c ks vs])) P := by
  refine st_fld h (n := S.length) (S2 := S ++ [.obj c ks vs]) (by rw [d_var, h2]) (s_at S _) h4 ?_
  rw [s_set]
  exact q
/-- a number in signs -/
def digs (n : Int) : List Nat := chars (toString n)
def numT (n : Int) : List Nat := if n < 0 then 126 :: digs (-n) else digs n
theorem digs_ok {n : Int} (h0 : 0 ≤ n) (h : n ≤ 999999999) : (digs n).length ≤ 10 ∧ ∀ c ∈ digs n, c < 128 := by
  obtain ⟨m, rfl⟩ := Int.eq_ofNat_of_zero_le h0
  have e : toString ((m : Nat) : Int) = Nat.repr m := rfl
  unfold digs chars
  rw [e]
  constructor
  · have h1 : (Nat.repr m).length ≤ 10 := (Nat.length_repr_le_iff (n := m) (by decide : 0 < 10)).mpr (by omega)
    rw [List.length_map]
    exact h1
  · intro c hc
    obtain ⟨x, hx, rfl⟩ := List.mem_map.mp hc
    have h2 : x ∈ Nat.toDigits 10 m := by
      have : (Nat.repr m).toList = Nat.toDigits 10 m := by simp [Nat.repr]
      rw [this] at hx
      exact hx
    have h3 := Nat.isDigit_of_mem_toDigits (by decide) (by decide) h2
    unfold Char.isDigit at h3
    simp only [Bool.and_eq_true, decide_eq_true_eq] at h3
    have h4 : x.toNat ≤ 57 := h3.2
    omega
theorem log_ok {n : Int} (h : n.natAbs < 2 ^ 64) : decide (n.natAbs.log2 < 1920) = true := by
  rw [decide_eq_true_eq]
  by_cases h0 : n.natAbs = 0
  · rw [h0]
    decide
  · have h1 : n.natAbs.log2 < 64 := (Nat.log2_lt h0).mpr h
    omega
theorem numT_ok {n : Int} (h0 : -999999999 ≤ n) (h : n ≤ 999999999) : (numT n).length ≤ 11 ∧ ∀ c ∈ numT n, c < 128 := by
  unfold numT
  split
  · obtain ⟨h1, h2⟩ := digs_ok (n := -n) (by omega) (by omega)
    exact ⟨by simp only [List.length_cons]; omega, fun c hc => by
      rcases List.mem_cons.mp hc with rfl | hc
      · decide
      · exact h2 c hc⟩
  · obtain ⟨h1, h2⟩ := digs_ok (n := n) (by omega) (by omega)
    exact ⟨by omega, h2⟩
theorem joinL_len (y : List Nat) : ∀ xs : List (List Nat), (TL.joinL y xs).length ≤ (xs.map (·.length)).sum + xs.length * y.length
  | [] => by simp [TL.joinL]
  | [p] => by simp [TL.joinL]
  | p :: q :: r => by
    have := joinL_len y (q :: r)
    simp only [TL.joinL, List.length_append, List.map_cons, List.sum_cons, List.length_cons, Nat.add_mul, Nat.one_mul] at this ⊢
    omega
theorem joinL_lt {y : List Nat} (hy : ∀ c ∈ y, c < 128) : ∀ {xs : List (List Nat)}, (∀ x ∈ xs, ∀ c ∈ x, c < 128) → ∀ c ∈ TL.joinL y xs, c < 128
  | [], _, c, hc => by cases hc
  | [p], h, c, hc => h p List.mem_cons_self c hc
  | p :: q :: r, h, c, hc => by
    simp only [TL.joinL, List.mem_append] at hc
    rcases hc with hc | hc | hc
    · exact h p List.mem_cons_self c hc
    · exact hy c hc
    · exact joinL_lt hy (fun x hx => h x (List.mem_cons_of_mem _ hx)) c hc
theorem lt_app {a b : List Nat} (ha : ∀ c ∈ a, c < 128) (hb : ∀ c ∈ b, c < 128) : ∀ c ∈ a ++ b, c < 128 := fun c hc => by
  rcases List.mem_append.mp hc with h | h
  · exact ha c h
  · exact hb c h
def paren (t : List Nat) : List Nat := [40] ++ t ++ [41]
theorem paren_ok {t : List Nat} (h : ∀ c ∈ t, c < 128) : (paren t).length = t.length + 2 ∧ ∀ c ∈ paren t, c < 128 := by
  refine ⟨by simp [paren], fun c hc => ?_⟩
  simp only [paren, List.mem_append, List.mem_singleton] at hc
  rcases hc with (rfl | hc) | rfl
  · decide
  · exact h c hc
  · decide
theorem vin2 {S : Store} {a x y : List Nat} (ha : (a.all fun c => decide (c < 128)) = true) (hx : (x.all fun c => decide (c < 128)) = true) (hy : (y.all fun c => decide (c < 128)) = true) : vin S (.str a) (.tup [.str x, .str y]) = some (decide (x = a) || decide (y = a)) := by
  have all : ∀ {x : List Nat}, (x.all fun c => decide (c < 128)) = true → ∀ c ∈ x, c < 128 := fun h c hc => of_decide_eq_true (List.all_eq_true.mp h c hc)
  have e1 := eqL hx ha
  have e2 := eqL hy ha
  unfold FF.eqV at e1 e2
  rw [shp_str (all hx), shp_str (all ha)] at e1
  rw [shp_str (all hy), shp_str (all ha)] at e2
  simp only [Option.some.injEq] at e1 e2
  obtain ⟨d, h1, h2⟩ := shp_fit (v := .tup [.str x, .str y]) (n := 1) (by omega) (by simp only [fit, fits, hx, hy]; rfl)
  have tx : ∀ {x : List Nat}, (∀ c ∈ x, c < 128) → toD (.str x) = some (.str ⟨x.toArray⟩) := fun {x} h => by
    have := shp_str h
    unfold shp at this
    cases hd : toD (.str x) with
    | none => rw [hd] at this; cases this
    | some d =>
      rw [hd] at this
      simp only at this
      split at this
      · exact this
      · cases this
  have h3 : toD (.tup [.str x, .str y]) = some (.tuple [.str ⟨x.toArray⟩, .str ⟨y.toArray⟩]) := by
    have t1 := tx (all hx)
    have t2 := tx (all hy)
    unfold toD
    simp [toDs, t1, t2]
  rw [h1] at h3
  cases h3
  unfold vin
  simp only [vw_tup, vw_str]
  rw [shp_str (all ha), h2]
  unfold anyEq
  simp only [List.any_cons, List.any_nil, e1, e2, Bool.or_false]
theorem st_item {L : Loop} {Γ : Env2} {ss : List Sm} {ρ : Env} {S S1 : Store} {P : Po} {e : E} {v : PV} {i n j : Nat} {k : Int} {l : List PV} (h : denE Γ e ρ S = .ok v S1) (h2 : ρ[i]? = some (some (.ref n))) (h3 : S1[n]? = some (.lst l)) (hk : L2.ixN l.length k = some j)
    (q : WS (denSs L Γ ss ρ (S1.set n (.lst (l.set j v)))) P) : WS (denSs L Γ (.asg (.idx (.var i) (.con (.int k))) e :: ss) ρ S) P := by
  have e1 : denS L Γ (.asg (.idx (.var i) (.con (.int k))) e) ρ S = .nxt ρ (S1.set n (.lst (l.set j v))) := by
    show SRes.of ρ (denE Γ e ρ S) _ = _
    rw [h]
    show SRes.of ρ (denE Γ (.var i) ρ S1) (fun a S1 => SRes.of ρ (denE Γ (.con (.int k)) ρ S1) fun b S2 => optS (FF.setItem S2 a b v) ρ) = _
    rw [d_var, h2]
    show optS (FF.setItem S1 (.ref n) (.int k) v) ρ = _
    unfold FF.setItem refList
    simp only [h3, hk]
    rfl
  rw [dens_nxt e1]
  exact q
mutual
theorem fit_up : ∀ {n k : Nat} {v : PV}, n ≤ k → fit n v = true → fit k v = true
  | _, _, .non, _, _ => by simp [fit]
  | _, _, .bl _, _, _ => by simp [fit]
  | _, _, .int _, _, _ => by simp [fit]
  | _, _, .str x, _, h => by simpa [fit] using h
  | 0, _, .tup _, _, h => by simp [fit] at h
  | n + 1, 0, .tup _, hk, _ => by omega
  | n + 1, k + 1, .tup xs, hk, h => by
    simp only [fit] at h ⊢
    exact fits_up (by omega) h
  | 0, _, .lst _, _, h => by simp [fit] at h
  | n + 1, 0, .lst _, hk, _ => by omega
  | n + 1, k + 1, .lst xs, hk, h => by
    simp only [fit] at h ⊢
    exact fits_up (by omega) h
  | _, _, .dct _ _, _, h => by simp [fit] at h
  | _, _, .obj _ _ _, _, h => by simp [fit] at h
  | _, _, .ref _, _, h => by simp [fit] at h
  | _, _, .fn _, _, h => by simp [fit] at h
theorem fits_up : ∀ {n k : Nat} {vs : List PV}, n ≤ k → fits n vs = true → fits k vs = true
  | _, _, [], _, _ => by simp [fits]
  | _, _, v :: vs, hk, h => by
    simp only [fits, Bool.and_eq_true] at h ⊢
    exact ⟨fit_up hk h.1, fits_up hk h.2⟩
end
theorem eqV_nil {n : Nat} {xs : List PV} (hn : n ≤ 64) (h : fit n (.lst xs) = true) : FF.eqV (.lst xs) (.lst []) = some (decide (xs = [])) := by
  obtain ⟨d, h1, h2⟩ := shp_fit hn h
  have h3 := shp_ints []
  simp only [List.map_nil] at h3
  unfold FF.eqV
  rw [h2, h3]
  unfold toD at h1
  cases hd : toDs xs with
  | none => rw [hd] at h1; cases h1
  | some ds =>
    rw [hd] at h1
    simp only [Option.map_some, Option.some.injEq] at h1
    subst h1
    cases xs with
    | nil =>
      simp only [toDs, Option.some.injEq] at hd
      subst hd
      simp [PyData.eqv, PyData.eqvAll]
    | cons x r =>
      cases ds with
      | nil =>
        simp only [toDs] at hd
        split at hd
        · cases hd
        · cases hd
      | cons y r2 => simp [PyData.eqv, PyData.eqvAll]
theorem asStrs_mp : ∀ ts : List (List Nat), asStrs (ts.map PV.str) = some ts
  | [] => rfl
  | t :: ts => by simp [asStrs, asStrs_mp ts]
theorem bools_mp {α : Type} : ∀ (xs : List α), bools (xs.map fun _ => PV.bl true) = some (xs.map fun _ => true)
  | [] => rfl
  | x :: xs => by simp [bools, bools_mp xs]
theorem v_join {Γ : Env2} {ρ : Env} {S S1 : Store} {y : List Nat} {e : E} {ts : List (List Nat)} (h : denE Γ e ρ S = .ok (.lst (ts.map PV.str)) S1) (ho : okI ((ts.map (·.length)).sum + ts.length * y.length) = true) : denE Γ (.bm .join (.con (.str y)) [e]) ρ S = .ok (.str (TL.joinL y ts)) S1 := by
  have hk : bmK S .join (.str y) = true := rfl
  rw [d_bm, d_con]
  simp only [bind_ok_, hk, if_true, d_cons, d_nil, h]
  show mJoin S1 (.str y) [.lst (ts.map PV.str)] = _
  unfold mJoin
  simp only [vw_lst, asStrs_mp, ho, if_true]
theorem v_cat {Γ : Env2} {ρ : Env} {S S1 S2 : Store} {a b : E} {x y : List Nat} (h1 : denE Γ a ρ S = .ok (.str x) S1) (h2 : denE Γ b ρ S1 = .ok (.str y) S2) (hl : x.length + y.length ≤ 1000000) : denE Γ (.bin .add a b) ρ S = .ok (.str (x ++ y)) S2 := by
  rw [d_bin, h1, bind_ok_, h2, bind_ok_]
  simp only [vw_str, vb_add, va_str, okN hl, if_true]
  rfl
theorem v_meth {Γ : Env2} {ρ : Env} {S S1 S2 : Store} {m : Md} {o : E} {x g c : Nat} {es : List E} {v : PV} {ks : List Nat} {ws vs : List PV} {r : Res PV} (h1 : denE Γ o ρ S = .ok v S1) (hv : view S1 v = .obj c ks ws) (hk : ks.contains x = false) (hm : Γ.meth c x = some g) (h2 : denEs Γ es ρ S1 = .ok vs S2) (h3 : ((Γ.call g (v :: vs) S2).bind fun r S3 => FF.settle m S2 r S3) = r) : denE Γ (.meth m o x es) ρ S = r := by
  rw [d_meth, h1]
  simp only [bind_ok_, hv, hk, hm, h2, Bool.false_eq_true, if_false]
  exact h3
theorem zip_map {α : Type} (f g : α → PV) : ∀ xs : List α, zipT (xs.map f) (xs.map g) = xs.map fun x => PV.tup [f x, g x]
  | [] => rfl
  | x :: xs => by simp [zipT, zip_map f g xs]
theorem c_eq {Γ : Env2} {ρ : Env} {S : Store} {a b : E} {x y : PV} {k : Bool} (h1 : denE Γ a ρ S = .ok x S) (h2 : denE Γ b ρ S = .ok y S) (h : FF.eqV (view S x) (view S y) = some k) : denE Γ (.cmp .eq a b) ρ S = .ok (.bl k) S := by
  rw [d_cmp, h1, bind_ok_, h2, bind_ok_, vc_eq, h]
  rfl
theorem c_ne {Γ : Env2} {ρ : Env} {S : Store} {a b : E} {x y : PV} {k : Bool} (h1 : denE Γ a ρ S = .ok x S) (h2 : denE Γ b ρ S = .ok y S) (h : FF.eqV (view S x) (view S y) = some k) : denE Γ (.cmp .ne a b) ρ S = .ok (.bl (!k)) S := by
  rw [d_cmp, h1, bind_ok_, h2, bind_ok_, vc_ne, h]
  rfl
theorem t_of {Γ : Env2} {ρ : Env} {S : Store} {c : E} {k : Bool} (h : denE Γ c ρ S = .ok (.bl k) S) : testOf Γ c ρ S = .ok k S := by
  rw [d_test, h, bind_ok_]
  simp
theorem low_strs (n : Nat) : ∀ ts : List (List Nat), lows n (ts.map PV.str) = true := fun ts => lows_of fun v hv => by
  obtain ⟨t, _, rfl⟩ := List.mem_map.mp hv
  simp
theorem v_lcat {Γ : Env2} {ρ : Env} {S S1 S2 : Store} {a b : E} {x y : List PV} (h1 : denE Γ a ρ S = .ok (.lst x) S1) (h2 : denE Γ b ρ S1 = .ok (.lst y) S2) (hl : x.length + y.length ≤ 1000000) : denE Γ (.bin .add a b) ρ S = .ok (.lst (x ++ y)) S2 := by
  rw [d_bin, h1, bind_ok_, h2, bind_ok_]
  simp only [vw_lst, vb_add, va_lst, okN hl, if_true]
  rfl
theorem es_cons {Γ : Env2} {ρ : Env} {S S1 S2 : Store} {e : E} {es : List E} {v : PV} {vs : List PV} (h1 : denE Γ e ρ S = .ok v S1) (h2 : denEs Γ es ρ S1 = .ok vs S2) : denEs Γ (e :: es) ρ S = .ok (v :: vs) S2 := by
  rw [d_cons, h1, bind_ok_, h2, bind_ok_]
end FF
set_option Elab.async false
set_option linter.all false
set_option maxRecDepth 100000
set_option maxHeartbeats 0
/-! ### the text -/
namespace LK16
open PySem FF L2
def top (i : Nat) : Stmt := PySem.Challenge.pw_fitfirst_k16_written.main.body.getD i (.Pass ⟨0, 0, 0, 0⟩)
def clsSt (s : Stmt) (j : Nat) : Stmt := match s with
  | .ClassDef (body := b) .. => b.getD j (.Pass ⟨0, 0, 0, 0⟩)
  | _ => .Pass ⟨0, 0, 0, 0⟩
/-- _wall(k): 0 k -/
def f__wall : List Sm := [(.whl (.con (.bl true)) [.pass])]
/-- number_text(number): 0 number -/
def f_number_text : List Sm := [(.ife (.cmp .lt (.var 0) (.con (.int 0))) [(.ret (.bin .add (.con (.str [126])) (.blt false .str [(.neg (.var 0))])))] []),
    (.ret (.blt false .str [(.var 0)]))]
/-- listed(texts): 0 texts -/
def f_listed : List Sm := [(.ife (.cmp .eq (.var 0) (.lst false [])) [(.ret (.con (.str [])))] []),
    (.ret (.bin .add (.bin .add (.con (.str [40])) (.bm .join (.con (.str [44, 32])) [(.var 0)])) (.con (.str [41]))))]
/-- kind_text(kind): 0 kind, 1 one -/
def f_kind_text : List Sm := [(.ife (.cmp .eq (.idx (.var 0) (.con (.int 0))) (.con (.str [110, 117, 109, 98, 101, 114]))) [(.ret (.con (.str [110, 117, 109, 98, 101, 114])))] []),
    (.ife (.cmp .eq (.idx (.var 0) (.con (.int 0))) (.con (.str [102, 114, 101, 101]))) [(.ret (.idx (.con (.str [65, 66])) (.idx (.var 0) (.con (.int 1)))))] []),
    (.ret (.bin .add (.idx (.var 0) (.con (.int 1))) (.call .val 13 [(.comp false (.one 1) .val [(.idx (.var 0) (.con (.int 2)))] [] (.call .val 14 [(.var 1)]))])))]
/-- tagged_text(tagged): 0 tagged, 1 kind -/
def f_tagged_text : List Sm := [(.ret (.bin .add (.idx (.var 0) (.con (.int 0))) (.call .val 13 [(.comp false (.one 1) .val [(.idx (.var 0) (.con (.int 1)))] [] (.call .val 14 [(.var 1)]))])))]
/-- declaration_text(declaration): 0 declaration, 1 ahead, 2 fields, 3 word, 4 kind, 5 tagged -/
def f_declaration_text : List Sm := [(.asg (.name 1) (.bin .add (.bin .add (.bin .add (.bin .add (.idx (.var 0) (.con (.int 0))) (.con (.str [32]))) (.idx (.var 0) (.con (.int 1)))) (.idx (.glo 11) (.idx (.var 0) (.con (.int 2))))) (.con (.str [32, 61, 32])))),
    (.ife (.cmp .eq (.idx (.var 0) (.con (.int 0))) (.con (.str [99, 104, 111, 105, 99, 101]))) [(.ret (.bin .add (.var 1) (.bm .join (.con (.str [32, 124, 32])) [(.comp false (.one 5) .val [(.idx (.var 0) (.con (.int 3)))] [] (.call .val 15 [(.var 5)]))])))] []),
    (.asg (.name 2) (.comp false (.many [3, 4]) .val [(.idx (.var 0) (.con (.int 4)))] [] (.bin .add (.bin .add (.var 3) (.con (.str [32]))) (.call .val 14 [(.var 4)])))),
    (.ret (.bin .add (.bin .add (.var 1) (.idx (.var 0) (.con (.int 3)))) (.call .val 13 [(.var 2)])))]
/-- inner_text(expression): 0 expression, 1 text -/
def f_inner_text : List Sm := [(.asg (.name 1) (.call .val 20 [(.var 0)])),
    (.ife (.cmp .isin (.idx (.var 0) (.con (.int 0))) (.glo 12)) [(.ret (.fstr [(.con (.str [40])), (.fmt (.var 1)), (.con (.str [41]))]))] []),
    (.ret (.var 1))]
/-- rule_text(rule): 0 rule, 1 text, 2 shape, 3 guard, 4 body -/
def f_rule_text : List Sm := [(.asg (.names [2, 3, 4]) (.var 0)),
    (.asg (.name 1) (.meth .val (.var 2) 0 [])),
    (.ife (.cmp .isnot (.var 3) (.con .non)) [(.asg (.name 1) (.bin .add (.bin .add (.var 1) (.con (.str [32, 105, 102, 32]))) (.call .val 20 [(.var 3)])))] []),
    (.ret (.bin .add (.bin .add (.var 1) (.con (.str [32, 45, 62, 32]))) (.call .val 20 [(.var 4)])))]
/-- match_text(expression): 0 expression, 1 rules, 2 rule -/
def f_match_text : List Sm := [(.asg (.name 1) (.bm .join (.con (.str [59, 32])) [(.comp false (.one 2) .val [(.idx (.var 0) (.con (.int 2)))] [] (.call .val 18 [(.var 2)]))])),
    (.ret (.bin .add (.bin .add (.bin .add (.bin .add (.con (.str [109, 97, 116, 99, 104, 32])) (.call .val 20 [(.idx (.var 0) (.con (.int 1)))])) (.con (.str [32, 123]))) (.var 1)) (.con (.str [125]))))]
/-- expression_text(expression): 0 expression, 1 kind, 2 one -/
def f_expression_text : List Sm := [(.asg (.name 1) (.idx (.var 0) (.con (.int 0)))),
    (.ife (.cmp .eq (.var 1) (.con (.str [110, 117, 109, 98, 101, 114]))) [(.ret (.call .val 3 [(.idx (.var 0) (.con (.int 1)))]))] []),
    (.ife (.cmp .eq (.var 1) (.con (.str [119, 111, 114, 100]))) [(.ret (.idx (.var 0) (.con (.int 1))))] []),
    (.ife (.cmp .eq (.var 1) (.con (.str [99, 97, 108, 108]))) [(.ret (.bin .add (.bin .add (.bin .add (.idx (.var 0) (.con (.int 1))) (.con (.str [40]))) (.bm .join (.con (.str [44, 32])) [(.comp false (.one 2) .val [(.idx (.var 0) (.con (.int 2)))] [] (.call .val 20 [(.var 2)]))])) (.con (.str [41]))))] []),
    (.ife (.cmp .eq (.var 1) (.con (.str [109, 97, 107, 101]))) [(.ret (.bin .add (.idx (.var 0) (.con (.int 1))) (.call .val 13 [(.comp false (.one 2) .val [(.idx (.var 0) (.con (.int 2)))] [] (.call .val 20 [(.var 2)]))])))] []),
    (.ife (.cmp .eq (.var 1) (.con (.str [102, 105, 101, 108, 100]))) [(.ret (.bin .add (.bin .add (.call .val 17 [(.idx (.var 0) (.con (.int 1)))]) (.con (.str [46]))) (.idx (.var 0) (.con (.int 2)))))] []),
    (.ife (.cmp .eq (.var 1) (.con (.str [100, 101, 101, 100]))) [(.ret (.bin .add (.bin .add (.bin .add (.bin .add (.call .val 17 [(.idx (.var 0) (.con (.int 2)))]) (.con (.str [32]))) (.idx (.var 0) (.con (.int 1)))) (.con (.str [32]))) (.call .val 17 [(.idx (.var 0) (.con (.int 3)))])))] []),
    (.ife (.cmp .eq (.var 1) (.con (.str [108, 101, 116]))) [(.asg (.name 2) (.call .val 20 [(.idx (.var 0) (.con (.int 2)))])),
    (.ret (.bin .add (.bin .add (.bin .add (.bin .add (.bin .add (.con (.str [108, 101, 116, 32])) (.idx (.var 0) (.con (.int 1)))) (.con (.str [32, 61, 32]))) (.var 2)) (.con (.str [32, 105, 110, 32]))) (.call .val 20 [(.idx (.var 0) (.con (.int 3)))])))] []),
    (.ret (.call .val 19 [(.var 0)]))]
/-- function_text(function): 0 function, 1 word, 2 words, 3 body -/
def f_function_text : List Sm := [(.asg (.names [1, 2, 3]) (.var 0)),
    (.ret (.bin .add (.bin .add (.bin .add (.fstr [(.con (.str [100, 101, 102, 105, 110, 101, 32])), (.fmt (.var 1)), (.con (.str [40]))]) (.bm .join (.con (.str [44, 32])) [(.blt false .list [(.var 2)])])) (.con (.str [41, 32, 61, 32]))) (.call .val 20 [(.var 3)])))]
/-- written(program): 0 program, 1 lines, 2 declarations, 3 functions, 4 main, 5 one -/
def f_written : List Sm := [(.asg (.names [2, 3, 4]) (.var 0)),
    (.asg (.name 1) (.bin .add (.comp false (.one 5) .val [(.var 2)] [] (.call .val 16 [(.var 5)])) (.comp false (.one 5) .val [(.var 3)] [] (.call .val 21 [(.var 5)])))),
    (.ret (.bm .join (.con (.str [10])) [(.bin .add (.var 1) (.lst false [(.bin .add (.con (.str [109, 97, 105, 110, 32, 61, 32])) (.call .val 20 [(.var 4)]))]))]))]
/-- _law_cell(_law_script, _law_k): 0 _law_script, 1 _law_k -/
def f__law_cell : List Sm := [(.ife (.cmp .lt (.var 1) (.blt false .len [(.var 0)])) [(.ret (.idx (.var 0) (.var 1)))] []),
    (.ret (.con (.int 0)))]
/-- _law_draw(_law_script, _law_at, _law_many): 0 _law_script, 1 _law_at, 2 _law_many, 3 _law_k, 4 _law_number_here -/
def f__law_draw : List Sm := [(.asg (.idx (.var 1) (.con (.int 0))) (.bin .add (.idx (.var 1) (.con (.int 0))) (.con (.int 1)))),
    (.asg (.name 3) (.idx (.var 1) (.con (.int 0)))),
    (.asg (.name 4) (.bin .mod (.bin .mul (.bin .add (.bin .add (.bin .mod (.call .val 23 [(.var 0), (.bin .mod (.var 3) (.con (.int 59)))]) (.con (.int 1000000007))) (.bin .mul (.con (.int 31)) (.var 3))) (.con (.int 17))) (.con (.int 48271))) (.con (.int 2147483647)))),
    (.asg (.name 4) (.bin .mod (.bin .mul (.bin .add (.var 4) (.var 3)) (.bin .add (.bin .mul (.var 3) (.var 3)) (.con (.int 16807)))) (.con (.int 2147483629)))),
    (.ret (.bin .mod (.bin .fdiv (.bin .mod (.bin .mul (.var 4) (.con (.int 69621))) (.con (.int 2147483647))) (.con (.int 7))) (.var 2)))]
/-- _law_pool(_law_script, _law_at): 0 _law_script, 1 _law_at, 2 _law_letters, 3 _law_told_here, 4 _law_words, 5 _law_tags, 6 _law_k, 7 _law_way, 8 _law_first, 9 _law_size, 10 _law_place, 11 _law_tail, 12 _law_word, 13 _law_tag, 14 _law_many, 15 _law_j -/
def f__law_pool : List Sm := [(.asg (.name 2) (.con (.str [97, 98, 99, 100, 101, 102, 103, 104, 105, 106, 107, 108, 109, 110, 111, 112, 113, 114, 115, 116, 117, 118, 119, 120, 121, 122]))),
    (.asg (.names [7, 8, 9, 10]) (.comp false (.one 14) .val [(.tup [(.con (.int 2)), (.con (.int 26)), (.con (.int 7)), (.con (.int 8))])] [] (.call .chg 24 [(.var 0), (.var 1), (.var 14)]))),
    (.asg (.name 3) (.tup [(.con (.str [97, 115])), (.con (.str [99, 104, 111, 105, 99, 101])), (.con (.str [100, 101, 102, 105, 110, 101])), (.con (.str [105, 102])), (.con (.str [105, 110])), (.con (.str [108, 101, 116])), (.con (.str [109, 97, 105, 110])), (.con (.str [109, 97, 116, 99, 104])), (.con (.str [110, 117, 109, 98, 101, 114])), (.con (.str [114, 101, 99, 111, 114, 100])), (.con (.str [116, 114, 117, 116, 104]))])),
    (.asg (.name 4) (.lst true [])),
    (.asg (.name 5) (.lst true [])),
    (.for_ (.one 6) .range1 [(.con (.int 8))] [(.asg (.name 11) (.bm .join (.con (.str [])) [(.comp false (.one 15) .range1 [(.bin .mod (.bin .add (.var 9) (.bin .mul (.var 6) (.var 7))) (.con (.int 7)))] [] (.idx (.var 2) (.bin .mod (.bin .add (.bin .add (.var 8) (.bin .mul (.con (.int 5)) (.var 15))) (.bin .mul (.bin .mul (.con (.int 3)) (.var 6)) (.var 7))) (.con (.int 26)))))])),
    (.asg (.name 12) (.bin .add (.bin .add (.slc false false true (.var 11) .nev (.var 10)) (.idx (.var 2) (.bin .mod (.bin .add (.var 8) (.bin .mul (.con (.int 3)) (.var 6))) (.con (.int 26))))) (.slc false true false (.var 11) (.var 10) .nev))),
    (.ife (.cmp .eq (.var 10) (.con (.int 7))) [(.asg (.name 12) (.bin .add (.idx (.var 3) (.bin .mod (.bin .add (.var 8) (.var 6)) (.con (.int 11)))) (.idx (.var 2) (.var 9))))] []),
    (.ife (.cmp .isin (.var 12) (.var 3)) [(.asg (.name 12) (.bin .add (.var 12) (.con (.str [113]))))] []),
    (.expr (.bm .append (.var 4) [(.var 12)])),
    (.asg (.name 11) (.bin .add (.idx (.var 2) (.bin .mod (.bin .add (.var 8) (.bin .mul (.var 6) (.var 7))) (.con (.int 26)))) (.var 11))),
    (.asg (.name 13) (.bin .add (.bin .add (.slc false false true (.var 11) .nev (.var 10)) (.idx (.var 2) (.bin .mod (.bin .add (.var 8) (.bin .mul (.con (.int 3)) (.var 6))) (.con (.int 26))))) (.slc false true false (.var 11) (.var 10) .nev))),
    (.expr (.bm .append (.var 5) [(.ife (.cmp .ne (.var 10) (.con (.int 6))) (.slc false false true (.bin .add (.bm .upper (.slc false false true (.var 13) .nev (.con (.int 1))) []) (.slc false true false (.var 13) (.con (.int 1)) .nev)) .nev (.con (.int 8))) (.idx (.con (.str [65, 66, 67, 68, 69, 70])) (.bin .mod (.bin .add (.var 8) (.var 6)) (.con (.int 6)))))]))]),
    (.ret (.tup [(.var 4), (.slc false false true (.var 5) .nev (.con (.int 6)))]))]
/-- _law_number(_law_script, _law_at): 0 _law_script, 1 _law_at, 2 _law_wide, 3 _law_small -/
def f__law_number : List Sm := [(.asg (.name 2) (.call .chg 24 [(.var 0), (.var 1), (.bin .pow (.con (.int 10)) (.con (.int 9)))])),
    (.asg (.name 3) (.call .chg 24 [(.var 0), (.var 1), (.con (.int 12))])),
    (.ret (.idx (.lst false [(.var 3), (.bin .sub (.con (.int 0)) (.var 3)), (.var 2), (.bin .sub (.con (.int 0)) (.var 2)), (.con (.int 999999999)), (.neg (.con (.int 999999999))), (.var 3), (.con (.int 0))]) (.call .chg 24 [(.var 0), (.var 1), (.con (.int 8))])))]
/-- _law_kind(_law_script, _law_at, _law_pool_here, _law_deep, _law_many): 0 _law_script, 1 _law_at, 2 _law_pool_here, 3 _law_deep, 4 _law_many, 5 _law_way, 6 _law_some, 7 _law_kinds, 8 _law_k -/
def f__law_kind : List Sm := [(.asg (.name 5) (.call .chg 24 [(.var 0), (.var 1), (.con (.int 7))])),
    (.ife (.and [(.cmp .gt (.var 5) (.con (.int 3))), (.cmp .gt (.var 3) (.con (.int 1)))]) [(.asg (.name 7) (.comp false (.one 8) .range1 [(.call .chg 24 [(.var 0), (.var 1), (.con (.int 3))])] [] (.call .chg 27 [(.var 0), (.var 1), (.var 2), (.bin .sub (.var 3) (.con (.int 1))), (.var 4)]))),
    (.ret (.tup [(.con (.str [109, 97, 100, 101])), (.idx (.idx (.var 2) (.con (.int 0))) (.call .chg 24 [(.var 0), (.var 1), (.con (.int 8))])), (.blt false .tuple [(.var 7)])]))] []),
    (.asg (.name 6) (.bin .add (.lst false [(.tup [(.con (.str [110, 117, 109, 98, 101, 114]))]), (.tup [(.con (.str [109, 97, 100, 101])), (.con (.str [116, 114, 117, 116, 104])), (.tup [])])]) (.comp false (.one 8) .range1 [(.con (.int 2))] [] (.ife (.cmp .lt (.var 8) (.var 4)) (.tup [(.con (.str [102, 114, 101, 101])), (.var 8)]) (.tup [(.con (.str [110, 117, 109, 98, 101, 114]))]))))),
    (.ret (.idx (.bin .add (.var 6) (.lst false [(.tup [(.con (.str [109, 97, 100, 101])), (.idx (.idx (.var 2) (.con (.int 0))) (.var 5)), (.tup [])])])) (.blt false .min2 [(.var 5), (.con (.int 4))])))]
/-- _law_declaration(_law_script, _law_at, _law_pool_here): 0 _law_script, 1 _law_at, 2 _law_pool_here, 3 _law_word, 4 _law_many, 5 _law_tagged, 6 _law_k, 7 _law_fields, 8 _law_size, 9 _law_kinds, 10 _law_j -/
def f__law_declaration : List Sm := [(.asg (.name 3) (.idx (.idx (.var 2) (.con (.int 0))) (.call .chg 24 [(.var 0), (.var 1), (.con (.int 8))]))),
    (.asg (.name 4) (.call .chg 24 [(.var 0), (.var 1), (.con (.int 3))])),
    (.ife (.cmp .eq (.call .chg 24 [(.var 0), (.var 1), (.con (.int 2))]) (.con (.int 0))) [(.asg (.name 7) (.lst true [])),
    (.for_ (.one 6) .range1 [(.bin .add (.con (.int 1)) (.call .chg 24 [(.var 0), (.var 1), (.con (.int 4))]))] [(.expr (.bm .append (.var 7) [(.tup [(.idx (.idx (.var 2) (.con (.int 0))) (.call .chg 24 [(.var 0), (.var 1), (.con (.int 8))])), (.call .chg 27 [(.var 0), (.var 1), (.var 2), (.con (.int 3)), (.var 4)])])]))]),
    (.ret (.tup [(.con (.str [114, 101, 99, 111, 114, 100])), (.var 3), (.var 4), (.idx (.idx (.var 2) (.con (.int 1))) (.call .chg 24 [(.var 0), (.var 1), (.con (.int 6))])), (.blt false .tuple [(.var 7)])]))] []),
    (.asg (.name 5) (.lst true [])),
    (.for_ (.one 6) .range1 [(.bin .add (.con (.int 1)) (.bin .mul (.call .chg 24 [(.var 0), (.var 1), (.con (.int 3))]) (.call .chg 24 [(.var 0), (.var 1), (.con (.int 2))])))] [(.asg (.name 8) (.bin .mul (.call .chg 24 [(.var 0), (.var 1), (.con (.int 5))]) (.call .chg 24 [(.var 0), (.var 1), (.con (.int 2))]))),
    (.asg (.name 9) (.comp false (.one 10) .range1 [(.var 8)] [] (.call .chg 27 [(.var 0), (.var 1), (.var 2), (.con (.int 3)), (.var 4)]))),
    (.expr (.bm .append (.var 5) [(.tup [(.idx (.idx (.var 2) (.con (.int 1))) (.call .chg 24 [(.var 0), (.var 1), (.con (.int 6))])), (.blt false .tuple [(.var 9)])])]))]),
    (.ret (.tup [(.con (.str [99, 104, 111, 105, 99, 101])), (.var 3), (.var 4), (.blt false .tuple [(.var 5)])]))]
/-- _law_shape(_law_script, _law_at, _law_pool_here, _law_deep): 0 _law_script, 1 _law_at, 2 _law_pool_here, 3 _law_deep, 4 _law_way, 5 _law_one, 6 _law_ends, 7 _law_parts, 8 _law_other, 9 _law_low, 10 _law_high, 11 _law_k -/
def f__law_shape : List Sm := [(.asg (.name 4) (.call .chg 24 [(.var 0), (.var 1), (.con (.int 8))])),
    (.ife (.cmp .lt (.var 3) (.con (.int 2))) [(.asg (.name 4) (.bin .mod (.var 4) (.con (.int 4))))] []),
    (.ife (.cmp .eq (.var 4) (.con (.int 0))) [(.ret (.tup [(.con (.str [97, 110, 121]))]))] []),
    (.ife (.cmp .eq (.var 4) (.con (.int 1))) [(.ret (.tup [(.con (.str [119, 111, 114, 100])), (.idx (.idx (.var 2) (.con (.int 0))) (.call .chg 24 [(.var 0), (.var 1), (.con (.int 8))]))]))] []),
    (.ife (.cmp .eq (.var 4) (.con (.int 2))) [(.asg (.names [5, 8]) (.comp false (.one 11) .range1 [(.con (.int 2))] [] (.call .chg 26 [(.var 0), (.var 1)]))),
    (.asg (.name 6) (.lst false [(.tup [(.var 5), (.var 5)]), (.tup [(.var 5), (.var 8)]), (.tup [(.neg (.con (.int 999999999))), (.var 5)]), (.tup [(.var 5), (.con (.int 999999999))]), (.tup [(.neg (.con (.int 999999999))), (.con (.int 999999999))])])),
    (.asg (.names [9, 10]) (.idx (.var 6) (.call .chg 24 [(.var 0), (.var 1), (.con (.int 5))]))),
    (.ret (.tup [(.con (.str [115, 112, 97, 110])), (.var 9), (.var 10)]))] []),
    (.ife (.cmp .eq (.var 4) (.con (.int 3))) [(.ret (.tup [(.con (.str [109, 97, 100, 101])), (.idx (.idx (.var 2) (.con (.int 1))) (.call .chg 24 [(.var 0), (.var 1), (.con (.int 6))])), (.tup [])]))] []),
    (.ife (.cmp .lt (.var 4) (.con (.int 6))) [(.asg (.name 7) (.comp false (.one 11) .range1 [(.bin .add (.con (.int 1)) (.call .chg 24 [(.var 0), (.var 1), (.con (.int 3))]))] [] (.call .chg 29 [(.var 0), (.var 1), (.var 2), (.bin .sub (.var 3) (.con (.int 1)))]))),
    (.ret (.tup [(.con (.str [109, 97, 100, 101])), (.idx (.idx (.var 2) (.con (.int 1))) (.call .chg 24 [(.var 0), (.var 1), (.con (.int 6))])), (.blt false .tuple [(.var 7)])]))] []),
    (.asg (.name 5) (.call .chg 29 [(.var 0), (.var 1), (.var 2), (.bin .sub (.var 3) (.con (.int 1)))])),
    (.ife (.cmp .eq (.var 4) (.con (.int 6))) [(.ret (.tup [(.con (.str [97, 108, 115, 111])), (.var 5), (.idx (.idx (.var 2) (.con (.int 0))) (.call .chg 24 [(.var 0), (.var 1), (.con (.int 8))]))]))] []),
    (.ret (.tup [(.con (.str [101, 105, 116, 104, 101, 114])), (.var 5), (.call .chg 29 [(.var 0), (.var 1), (.var 2), (.bin .sub (.var 3) (.con (.int 1)))])]))]
/-- _law_rules(_law_script, _law_at, _law_pool_here, _law_deep): 0 _law_script, 1 _law_at, 2 _law_pool_here, 3 _law_deep, 4 _law_found, 5 _law_k, 6 _law_told_here, 7 _law_guard -/
def f__law_rules : List Sm := [(.asg (.name 4) (.lst true [])),
    (.for_ (.one 5) .range1 [(.bin .add (.con (.int 1)) (.call .chg 24 [(.var 0), (.var 1), (.con (.int 3))]))] [(.asg (.name 6) (.call .chg 29 [(.var 0), (.var 1), (.var 2), (.con (.int 3))])),
    (.asg (.name 7) (.con .non)),
    (.ife (.cmp .eq (.call .chg 24 [(.var 0), (.var 1), (.con (.int 3))]) (.con (.int 0))) [(.asg (.name 7) (.call .chg 31 [(.var 0), (.var 1), (.var 2), (.var 3)]))] []),
    (.expr (.bm .append (.var 4) [(.tup [(.var 6), (.var 7), (.call .chg 31 [(.var 0), (.var 1), (.var 2), (.var 3)])])]))]),
    (.ret (.blt false .tuple [(.var 4)]))]
/-- _law_expression(_law_script, _law_at, _law_pool_here, _law_deep): 0 _law_script, 1 _law_at, 2 _law_pool_here, 3 _law_deep, 4 _law_way, 5 _law_word, 6 _law_tag, 7 _law_one, 8 _law_parts, 9 _law_k -/
def f__law_expression : List Sm := [(.asg (.idx (.var 1) (.con (.int 1))) (.bin .sub (.idx (.var 1) (.con (.int 1))) (.con (.int 1)))),
    (.asg (.name 4) (.call .chg 24 [(.var 0), (.var 1), (.con (.int 11))])),
    (.asg (.name 5) (.idx (.idx (.var 2) (.con (.int 0))) (.call .chg 24 [(.var 0), (.var 1), (.con (.int 8))]))),
    (.asg (.name 6) (.idx (.idx (.var 2) (.con (.int 1))) (.call .chg 24 [(.var 0), (.var 1), (.con (.int 6))]))),
    (.ife (.or [(.cmp .lt (.var 3) (.con (.int 2))), (.cmp .lt (.idx (.var 1) (.con (.int 1))) (.con (.int 1)))]) [(.asg (.name 4) (.bin .mod (.var 4) (.con (.int 3))))] []),
    (.ife (.cmp .eq (.var 4) (.con (.int 0))) [(.ret (.tup [(.con (.str [110, 117, 109, 98, 101, 114])), (.call .chg 26 [(.var 0), (.var 1)])]))] []),
    (.ife (.cmp .eq (.var 4) (.con (.int 1))) [(.ret (.tup [(.con (.str [119, 111, 114, 100])), (.var 5)]))] []),
    (.ife (.cmp .eq (.var 4) (.con (.int 2))) [(.ret (.idx (.lst false [(.tup [(.con (.str [109, 97, 107, 101])), (.var 6), (.tup [])]), (.tup [(.con (.str [99, 97, 108, 108])), (.var 5), (.tup [])])]) (.call .chg 24 [(.var 0), (.var 1), (.con (.int 2))])))] []),
    (.ife (.cmp .lt (.var 4) (.con (.int 5))) [(.asg (.name 8) (.comp false (.one 9) .range1 [(.bin .add (.con (.int 1)) (.call .chg 24 [(.var 0), (.var 1), (.con (.int 4))]))] [] (.call .chg 31 [(.var 0), (.var 1), (.var 2), (.bin .sub (.var 3) (.con (.int 1)))]))),
    (.ret (.idx (.lst false [(.tup [(.con (.str [109, 97, 107, 101])), (.var 6), (.blt false .tuple [(.var 8)])]), (.tup [(.con (.str [99, 97, 108, 108])), (.var 5), (.blt false .tuple [(.var 8)])])]) (.bin .sub (.var 4) (.con (.int 3)))))] []),
    (.asg (.name 7) (.call .chg 31 [(.var 0), (.var 1), (.var 2), (.bin .sub (.var 3) (.con (.int 1)))])),
    (.ife (.cmp .eq (.var 4) (.con (.int 5))) [(.ret (.tup [(.con (.str [102, 105, 101, 108, 100])), (.var 7), (.var 5)]))] []),
    (.ife (.cmp .lt (.var 4) (.con (.int 8))) [(.ret (.tup [(.con (.str [100, 101, 101, 100])), (.idx (.con (.str [43, 45, 42, 60, 61])) (.call .chg 24 [(.var 0), (.var 1), (.con (.int 5))])), (.var 7), (.call .chg 31 [(.var 0), (.var 1), (.var 2), (.bin .sub (.var 3) (.con (.int 1)))])]))] []),
    (.ife (.cmp .eq (.var 4) (.con (.int 8))) [(.ret (.tup [(.con (.str [108, 101, 116])), (.var 5), (.var 7), (.call .chg 31 [(.var 0), (.var 1), (.var 2), (.bin .sub (.var 3) (.con (.int 1)))])]))] []),
    (.ret (.tup [(.con (.str [109, 97, 116, 99, 104])), (.var 7), (.call .chg 30 [(.var 0), (.var 1), (.var 2), (.bin .sub (.var 3) (.con (.int 1)))])]))]
/-- _law_program(_law_script, _law_at, _law_size): 0 _law_script, 1 _law_at, 2 _law_size, 3 _law_pool_here, 4 _law_declared, 5 _law_functions, 6 _law_k, 7 _law_words, 8 _law_j -/
def f__law_program : List Sm := [(.asg (.idx (.var 1) (.con (.int 1))) (.var 2)),
    (.asg (.name 3) (.call .chg 25 [(.var 0), (.var 1)])),
    (.asg (.name 4) (.comp false (.one 6) .range1 [(.call .chg 24 [(.var 0), (.var 1), (.con (.int 4))])] [] (.call .chg 28 [(.var 0), (.var 1), (.var 3)]))),
    (.asg (.name 5) (.lst true [])),
    (.for_ (.one 6) .range1 [(.call .chg 24 [(.var 0), (.var 1), (.con (.int 3))])] [(.asg (.name 7) (.comp false (.one 8) .range1 [(.call .chg 24 [(.var 0), (.var 1), (.con (.int 5))])] [] (.idx (.idx (.var 3) (.con (.int 0))) (.call .chg 24 [(.var 0), (.var 1), (.con (.int 8))])))),
    (.expr (.bm .append (.var 5) [(.tup [(.idx (.idx (.var 3) (.con (.int 0))) (.call .chg 24 [(.var 0), (.var 1), (.con (.int 8))])), (.blt false .tuple [(.var 7)]), (.call .chg 31 [(.var 0), (.var 1), (.var 3), (.con (.int 4))])])]))]),
    (.ret (.tup [(.var 4), (.var 5), (.call .chg 31 [(.var 0), (.var 1), (.var 3), (.con (.int 5))])]))]
/-- _law_built(_law_told_here): 0 _law_told_here, 1 _law_one -/
def f__law_built : List Sm := [(.ife (.cmp .eq (.idx (.var 0) (.con (.int 0))) (.con (.str [97, 110, 121]))) [(.ret (.call .val 5 []))] []),
    (.ife (.cmp .eq (.idx (.var 0) (.con (.int 0))) (.con (.str [119, 111, 114, 100]))) [(.ret (.call .val 6 [(.idx (.var 0) (.con (.int 1)))]))] []),
    (.ife (.cmp .eq (.idx (.var 0) (.con (.int 0))) (.con (.str [115, 112, 97, 110]))) [(.ret (.call .val 7 [(.idx (.var 0) (.con (.int 1))), (.idx (.var 0) (.con (.int 2)))]))] []),
    (.ife (.and [(.cmp .eq (.idx (.var 0) (.con (.int 0))) (.con (.str [109, 97, 100, 101]))), (.cmp .eq (.idx (.var 0) (.con (.int 2))) (.tup []))]) [(.ret (.call .val 8 [(.idx (.var 0) (.con (.int 1)))]))] []),
    (.ife (.cmp .eq (.idx (.var 0) (.con (.int 0))) (.con (.str [109, 97, 100, 101]))) [(.ret (.call .val 8 [(.idx (.var 0) (.con (.int 1))), (.comp false (.one 1) .val [(.idx (.var 0) (.con (.int 2)))] [] (.call .val 33 [(.var 1)]))]))] []),
    (.ife (.cmp .eq (.idx (.var 0) (.con (.int 0))) (.con (.str [97, 108, 115, 111]))) [(.ret (.call .val 10 [(.call .val 33 [(.idx (.var 0) (.con (.int 1)))]), (.idx (.var 0) (.con (.int 2)))]))] []),
    (.ret (.call .val 9 [(.call .val 33 [(.idx (.var 0) (.con (.int 1)))]), (.call .val 33 [(.idx (.var 0) (.con (.int 2)))])]))]
/-- _law_real(_law_one): 0 _law_one, 1 _law_rules_here, 2 _law_told_here, 3 _law_guard, 4 _law_body, 5 _law_asked, 6 _law_part -/
def f__law_real : List Sm := [(.ife (.cmp .eq (.idx (.var 0) (.con (.int 0))) (.con (.str [109, 97, 116, 99, 104]))) [(.asg (.name 1) (.lst true [])),
    (.for_ (.many [2, 3, 4]) .val [(.idx (.var 0) (.con (.int 2)))] [(.asg (.name 5) (.ife (.cmp .is_ (.var 3) (.con .non)) (.con .non) (.call .val 34 [(.var 3)]))),
    (.expr (.bm .append (.var 1) [(.tup [(.call .val 33 [(.var 2)]), (.var 5), (.call .val 34 [(.var 4)])])]))]),
    (.ret (.tup [(.con (.str [109, 97, 116, 99, 104])), (.call .val 34 [(.idx (.var 0) (.con (.int 1)))]), (.blt false .tuple [(.var 1)])]))] []),
    (.ife (.or [(.cmp .eq (.idx (.var 0) (.con (.int 0))) (.con (.str [99, 97, 108, 108]))), (.cmp .eq (.idx (.var 0) (.con (.int 0))) (.con (.str [109, 97, 107, 101])))]) [(.ret (.tup [(.idx (.var 0) (.con (.int 0))), (.idx (.var 0) (.con (.int 1))), (.blt false .tuple [(.comp false (.one 6) .val [(.idx (.var 0) (.con (.int 2)))] [] (.call .val 34 [(.var 6)]))])]))] []),
    (.ife (.cmp .eq (.idx (.var 0) (.con (.int 0))) (.con (.str [102, 105, 101, 108, 100]))) [(.ret (.tup [(.con (.str [102, 105, 101, 108, 100])), (.call .val 34 [(.idx (.var 0) (.con (.int 1)))]), (.idx (.var 0) (.con (.int 2)))]))] []),
    (.ife (.or [(.cmp .eq (.idx (.var 0) (.con (.int 0))) (.con (.str [100, 101, 101, 100]))), (.cmp .eq (.idx (.var 0) (.con (.int 0))) (.con (.str [108, 101, 116])))]) [(.ret (.tup [(.idx (.var 0) (.con (.int 0))), (.idx (.var 0) (.con (.int 1))), (.call .val 34 [(.idx (.var 0) (.con (.int 2)))]), (.call .val 34 [(.idx (.var 0) (.con (.int 3)))])]))] []),
    (.ret (.var 0))]
/-- _law_told(_law_shape_here): 0 _law_shape_here, 1 _law_part -/
def f__law_told : List Sm := [(.ife (.isi (.var 0) [.cls 2]) [(.ret (.tup [(.con (.str [119, 111, 114, 100])), (.fld (.var 0) 1)]))] []),
    (.ife (.isi (.var 0) [.cls 3]) [(.ret (.tup [(.con (.str [115, 112, 97, 110])), (.fld (.var 0) 2), (.fld (.var 0) 3)]))] []),
    (.ife (.and [(.isi (.var 0) [.cls 4]), (.isi (.fld (.var 0) 4) [.bty "list"])]) [(.ret (.tup [(.con (.str [109, 97, 100, 101])), (.fld (.var 0) 5), (.blt false .tuple [(.comp false (.one 1) .val [(.fld (.var 0) 4)] [] (.call .val 35 [(.var 1)]))])]))] []),
    (.ife (.isi (.var 0) [.cls 5]) [(.ret (.tup [(.con (.str [101, 105, 116, 104, 101, 114])), (.call .val 35 [(.fld (.var 0) 6)]), (.call .val 35 [(.fld (.var 0) 7)])]))] []),
    (.ife (.isi (.var 0) [.cls 6]) [(.ret (.tup [(.con (.str [97, 108, 115, 111])), (.call .val 35 [(.fld (.var 0) 8)]), (.fld (.var 0) 1)]))] []),
    (.ret (.ife (.isi (.var 0) [.cls 1]) (.tup [(.con (.str [97, 110, 121]))]) (.con .non)))]
/-- _law_plainly(_law_one): 0 _law_one, 1 _law_rules_here, 2 _law_shape_here, 3 _law_guard, 4 _law_body, 5 _law_asked, 6 _law_part -/
def f__law_plainly : List Sm := [(.ife (.or [(.not (.isi (.var 0) [.bty "tuple"])), (.cmp .lt (.blt false .len [(.var 0)]) (.con (.int 2)))]) [(.ret (.con .non))] []),
    (.ife (.and [(.cmp .eq (.idx (.var 0) (.con (.int 0))) (.con (.str [109, 97, 116, 99, 104]))), (.isi (.idx (.var 0) (.con (.int 2))) [.bty "tuple"])]) [(.asg (.name 1) (.lst true [])),
    (.for_ (.many [2, 3, 4]) .val [(.idx (.var 0) (.con (.int 2)))] [(.asg (.name 5) (.ife (.cmp .is_ (.var 3) (.con .non)) (.con .non) (.call .val 36 [(.var 3)]))),
    (.expr (.bm .append (.var 1) [(.tup [(.call .val 35 [(.var 2)]), (.var 5), (.call .val 36 [(.var 4)])])]))]),
    (.ret (.tup [(.con (.str [109, 97, 116, 99, 104])), (.call .val 36 [(.idx (.var 0) (.con (.int 1)))]), (.blt false .tuple [(.var 1)])]))] []),
    (.ife (.and [(.or [(.cmp .eq (.idx (.var 0) (.con (.int 0))) (.con (.str [99, 97, 108, 108]))), (.cmp .eq (.idx (.var 0) (.con (.int 0))) (.con (.str [109, 97, 107, 101])))]), (.isi (.idx (.var 0) (.con (.int 2))) [.bty "tuple"])]) [(.ret (.tup [(.idx (.var 0) (.con (.int 0))), (.idx (.var 0) (.con (.int 1))), (.blt false .tuple [(.comp false (.one 6) .val [(.idx (.var 0) (.con (.int 2)))] [] (.call .val 36 [(.var 6)]))])]))] []),
    (.ife (.cmp .eq (.idx (.var 0) (.con (.int 0))) (.con (.str [102, 105, 101, 108, 100]))) [(.ret (.tup [(.con (.str [102, 105, 101, 108, 100])), (.call .val 36 [(.idx (.var 0) (.con (.int 1)))]), (.idx (.var 0) (.con (.int 2)))]))] []),
    (.ife (.or [(.cmp .eq (.idx (.var 0) (.con (.int 0))) (.con (.str [100, 101, 101, 100]))), (.cmp .eq (.idx (.var 0) (.con (.int 0))) (.con (.str [108, 101, 116])))]) [(.ret (.tup [(.idx (.var 0) (.con (.int 0))), (.idx (.var 0) (.con (.int 1))), (.call .val 36 [(.idx (.var 0) (.con (.int 2)))]), (.call .val 36 [(.idx (.var 0) (.con (.int 3)))])]))] []),
    (.ife (.and [(.cmp .eq (.idx (.var 0) (.con (.int 0))) (.con (.str [110, 117, 109, 98, 101, 114]))), (.isi (.idx (.var 0) (.con (.int 1))) [.bty "bool"])]) [(.ret (.con .non))] []),
    (.ret (.var 0))]
/-- _law_whole_real(_law_program_here): 0 _law_program_here, 1 _law_functions, 2 _law_word, 3 _law_words, 4 _law_body -/
def f__law_whole_real : List Sm := [(.asg (.name 1) (.comp false (.many [2, 3, 4]) .val [(.idx (.var 0) (.con (.int 1)))] [] (.tup [(.var 2), (.var 3), (.call .val 34 [(.var 4)])]))),
    (.ret (.tup [(.blt false .list [(.idx (.var 0) (.con (.int 0)))]), (.var 1), (.call .val 34 [(.idx (.var 0) (.con (.int 2)))])]))]
/-- _law_whole_plainly(_law_program_here): 0 _law_program_here, 1 _law_functions, 2 _law_word, 3 _law_words, 4 _law_body -/
def f__law_whole_plainly : List Sm := [(.ife (.or [(.not (.isi (.var 0) [.bty "tuple"])), (.cmp .ne (.blt false .len [(.var 0)]) (.con (.int 3)))]) [(.ret (.con .non))] []),
    (.ife (.or [(.not (.isi (.idx (.var 0) (.con (.int 0))) [.bty "list"])), (.not (.isi (.idx (.var 0) (.con (.int 1))) [.bty "list"]))]) [(.ret (.con .non))] []),
    (.asg (.name 1) (.comp false (.many [2, 3, 4]) .val [(.idx (.var 0) (.con (.int 1)))] [] (.tup [(.var 2), (.var 3), (.call .val 36 [(.var 4)])]))),
    (.ret (.tup [(.blt false .list [(.idx (.var 0) (.con (.int 0)))]), (.var 1), (.call .val 36 [(.idx (.var 0) (.con (.int 2)))])]))]
/-- _law_listed(_law_texts): 0 _law_texts -/
def f__law_listed : List Sm := [(.ret (.ife (.cmp .eq (.var 0) (.lst false [])) (.con (.str [])) (.bin .add (.bin .add (.con (.str [40])) (.bm .join (.con (.str [44, 32])) [(.var 0)])) (.con (.str [41])))))]
/-- _law_number_text(_law_number_here): 0 _law_number_here -/
def f__law_number_text : List Sm := [(.ret (.ife (.cmp .ge (.var 0) (.con (.int 0))) (.blt false .str [(.var 0)]) (.bin .add (.con (.str [126])) (.blt false .str [(.bin .sub (.con (.int 0)) (.var 0))]))))]
/-- _law_kind_text(_law_kind_here): 0 _law_kind_here, 1 _law_one -/
def f__law_kind_text : List Sm := [(.ife (.cmp .eq (.idx (.var 0) (.con (.int 0))) (.con (.str [109, 97, 100, 101]))) [(.ret (.bin .add (.idx (.var 0) (.con (.int 1))) (.call .val 39 [(.comp false (.one 1) .val [(.idx (.var 0) (.con (.int 2)))] [] (.call .val 41 [(.var 1)]))])))] []),
    (.ret (.ife (.cmp .eq (.idx (.var 0) (.con (.int 0))) (.con (.str [110, 117, 109, 98, 101, 114]))) (.con (.str [110, 117, 109, 98, 101, 114])) (.idx (.con (.str [65, 66])) (.idx (.var 0) (.con (.int 1))))))]
/-- _law_span_text(_law_low, _law_high): 0 _law_low, 1 _law_high -/
def f__law_span_text : List Sm := [(.ife (.cmp .eq (.var 0) (.var 1)) [(.ret (.call .val 40 [(.var 0)]))] []),
    (.ife (.cmp .eq (.var 1) (.con (.int 999999999))) [(.ret (.bin .add (.call .val 40 [(.var 0)]) (.con (.str [46, 46]))))] []),
    (.ret (.bin .add (.bin .add (.ife (.cmp .gt (.var 0) (.neg (.con (.int 999999999)))) (.call .val 40 [(.var 0)]) (.con (.str []))) (.con (.str [46, 46]))) (.call .val 40 [(.var 1)])))]
/-- _law_shape_text(_law_told_here): 0 _law_told_here, 1 _law_one, 2 _law_other -/
def f__law_shape_text : List Sm := [(.ife (.cmp .eq (.idx (.var 0) (.con (.int 0))) (.con (.str [97, 110, 121]))) [(.ret (.con (.str [95])))] []),
    (.ife (.cmp .eq (.idx (.var 0) (.con (.int 0))) (.con (.str [119, 111, 114, 100]))) [(.ret (.idx (.var 0) (.con (.int 1))))] []),
    (.ife (.cmp .eq (.idx (.var 0) (.con (.int 0))) (.con (.str [115, 112, 97, 110]))) [(.ret (.call .val 42 [(.idx (.var 0) (.con (.int 1))), (.idx (.var 0) (.con (.int 2)))]))] []),
    (.ife (.cmp .eq (.idx (.var 0) (.con (.int 0))) (.con (.str [109, 97, 100, 101]))) [(.ret (.bin .add (.idx (.var 0) (.con (.int 1))) (.call .val 39 [(.comp false (.one 1) .val [(.idx (.var 0) (.con (.int 2)))] [] (.call .val 43 [(.var 1)]))])))] []),
    (.ife (.cmp .eq (.idx (.var 0) (.con (.int 0))) (.con (.str [97, 108, 115, 111]))) [(.ret (.bin .add (.bin .add (.call .val 43 [(.idx (.var 0) (.con (.int 1)))]) (.con (.str [32, 97, 115, 32]))) (.idx (.var 0) (.con (.int 2)))))] []),
    (.asg (.name 1) (.call .val 43 [(.idx (.var 0) (.con (.int 1)))])),
    (.asg (.name 2) (.call .val 43 [(.idx (.var 0) (.con (.int 2)))])),
    (.ife (.cmp .eq (.idx (.idx (.var 0) (.con (.int 1))) (.con (.int 0))) (.con (.str [97, 108, 115, 111]))) [(.asg (.name 1) (.bin .add (.bin .add (.con (.str [40])) (.var 1)) (.con (.str [41]))))] []),
    (.ife (.cmp .isin (.idx (.idx (.var 0) (.con (.int 2))) (.con (.int 0))) (.tup [(.con (.str [97, 108, 115, 111])), (.con (.str [101, 105, 116, 104, 101, 114]))])) [(.asg (.name 2) (.bin .add (.bin .add (.con (.str [40])) (.var 2)) (.con (.str [41]))))] []),
    (.ret (.bin .add (.bin .add (.var 1) (.con (.str [32, 124, 32]))) (.var 2)))]
/-- _law_inner(_law_one): 0 _law_one, 1 _law_text_here -/
def f__law_inner : List Sm := [(.asg (.name 1) (.call .val 45 [(.var 0)])),
    (.ret (.ife (.cmp .isin (.idx (.var 0) (.con (.int 0))) (.tup [(.con (.str [100, 101, 101, 100])), (.con (.str [108, 101, 116])), (.con (.str [109, 97, 116, 99, 104]))])) (.bin .add (.bin .add (.con (.str [40])) (.var 1)) (.con (.str [41]))) (.var 1)))]
/-- _law_text(_law_one): 0 _law_one, 1 _law_rules_here, 2 _law_told_here, 3 _law_guard, 4 _law_body, 5 _law_asked, 6 _law_part -/
def f__law_text : List Sm := [(.ife (.cmp .eq (.idx (.var 0) (.con (.int 0))) (.con (.str [110, 117, 109, 98, 101, 114]))) [(.ret (.call .val 40 [(.idx (.var 0) (.con (.int 1)))]))] []),
    (.ife (.cmp .eq (.idx (.var 0) (.con (.int 0))) (.con (.str [119, 111, 114, 100]))) [(.ret (.idx (.var 0) (.con (.int 1))))] []),
    (.ife (.cmp .eq (.idx (.var 0) (.con (.int 0))) (.con (.str [109, 97, 107, 101]))) [(.ret (.bin .add (.idx (.var 0) (.con (.int 1))) (.call .val 39 [(.comp false (.one 6) .val [(.idx (.var 0) (.con (.int 2)))] [] (.call .val 45 [(.var 6)]))])))] []),
    (.ife (.cmp .eq (.idx (.var 0) (.con (.int 0))) (.con (.str [99, 97, 108, 108]))) [(.ret (.bin .add (.bin .add (.bin .add (.idx (.var 0) (.con (.int 1))) (.con (.str [40]))) (.bm .join (.con (.str [44, 32])) [(.comp false (.one 6) .val [(.idx (.var 0) (.con (.int 2)))] [] (.call .val 45 [(.var 6)]))])) (.con (.str [41]))))] []),
    (.ife (.cmp .eq (.idx (.var 0) (.con (.int 0))) (.con (.str [102, 105, 101, 108, 100]))) [(.ret (.bin .add (.bin .add (.call .val 44 [(.idx (.var 0) (.con (.int 1)))]) (.con (.str [46]))) (.idx (.var 0) (.con (.int 2)))))] []),
    (.ife (.cmp .eq (.idx (.var 0) (.con (.int 0))) (.con (.str [100, 101, 101, 100]))) [(.ret (.bin .add (.bin .add (.bin .add (.bin .add (.call .val 44 [(.idx (.var 0) (.con (.int 2)))]) (.con (.str [32]))) (.idx (.var 0) (.con (.int 1)))) (.con (.str [32]))) (.call .val 44 [(.idx (.var 0) (.con (.int 3)))])))] []),
    (.ife (.cmp .eq (.idx (.var 0) (.con (.int 0))) (.con (.str [108, 101, 116]))) [(.ret (.bin .add (.bin .add (.bin .add (.bin .add (.bin .add (.con (.str [108, 101, 116, 32])) (.idx (.var 0) (.con (.int 1)))) (.con (.str [32, 61, 32]))) (.call .val 45 [(.idx (.var 0) (.con (.int 2)))])) (.con (.str [32, 105, 110, 32]))) (.call .val 45 [(.idx (.var 0) (.con (.int 3)))])))] []),
    (.asg (.name 1) (.lst true [])),
    (.for_ (.many [2, 3, 4]) .val [(.idx (.var 0) (.con (.int 2)))] [(.asg (.name 5) (.ife (.cmp .is_ (.var 3) (.con .non)) (.con (.str [])) (.bin .add (.con (.str [32, 105, 102, 32])) (.call .val 45 [(.var 3)])))),
    (.expr (.bm .append (.var 1) [(.bin .add (.bin .add (.bin .add (.call .val 43 [(.var 2)]) (.var 5)) (.con (.str [32, 45, 62, 32]))) (.call .val 45 [(.var 4)]))]))]),
    (.ret (.bin .add (.bin .add (.bin .add (.bin .add (.con (.str [109, 97, 116, 99, 104, 32])) (.call .val 45 [(.idx (.var 0) (.con (.int 1)))])) (.con (.str [32, 123]))) (.bm .join (.con (.str [59, 32])) [(.var 1)])) (.con (.str [125]))))]
/-- _law_declared_text(_law_one): 0 _law_one, 1 _law_ahead, 2 _law_tag, 3 _law_kinds, 4 _law_word, 5 _law_kind_here -/
def f__law_declared_text : List Sm := [(.asg (.name 1) (.bin .add (.bin .add (.bin .add (.bin .add (.idx (.var 0) (.con (.int 0))) (.con (.str [32]))) (.idx (.var 0) (.con (.int 1)))) (.idx (.lst false [(.con (.str [])), (.con (.str [40, 65, 41])), (.con (.str [40, 65, 44, 32, 66, 41]))]) (.idx (.var 0) (.con (.int 2))))) (.con (.str [32, 61, 32])))),
    (.ife (.cmp .eq (.idx (.var 0) (.con (.int 0))) (.con (.str [114, 101, 99, 111, 114, 100]))) [(.ret (.bin .add (.bin .add (.var 1) (.idx (.var 0) (.con (.int 3)))) (.call .val 39 [(.comp false (.many [4, 5]) .val [(.idx (.var 0) (.con (.int 4)))] [] (.bin .add (.bin .add (.var 4) (.con (.str [32]))) (.call .val 41 [(.var 5)])))])))] []),
    (.ret (.bin .add (.var 1) (.bm .join (.con (.str [32, 124, 32])) [(.comp false (.many [2, 3]) .val [(.idx (.var 0) (.con (.int 3)))] [] (.bin .add (.var 2) (.call .val 39 [(.comp false (.one 5) .val [(.var 3)] [] (.call .val 41 [(.var 5)]))])))])))]
/-- _law_whole_text(_law_program_here): 0 _law_program_here, 1 _law_lines, 2 _law_word, 3 _law_words, 4 _law_body, 5 _law_one -/
def f__law_whole_text : List Sm := [(.asg (.name 1) (.comp true (.one 5) .val [(.idx (.var 0) (.con (.int 0)))] [] (.call .val 46 [(.var 5)]))),
    (.for_ (.many [2, 3, 4]) .val [(.idx (.var 0) (.con (.int 1)))] [(.expr (.bm .append (.var 1) [(.bin .add (.bin .add (.bin .add (.bin .add (.bin .add (.con (.str [100, 101, 102, 105, 110, 101, 32])) (.var 2)) (.con (.str [40]))) (.bm .join (.con (.str [44, 32])) [(.blt false .list [(.var 3)])])) (.con (.str [41, 32, 61, 32]))) (.call .val 45 [(.var 4)]))]))]),
    (.ret (.bm .join (.con (.str [10])) [(.bin .add (.var 1) (.lst false [(.bin .add (.con (.str [109, 97, 105, 110, 32, 61, 32])) (.call .val 45 [(.idx (.var 0) (.con (.int 2)))]))]))]))]
/-- _law_long(_law_script, _law_at, _law_program_here): 0 _law_script, 1 _law_at, 2 _law_program_here, 3 _law_main, 4 _law_way, 5 _law_k -/
def f__law_long : List Sm := [(.asg (.name 3) (.idx (.var 2) (.con (.int 2)))),
    (.asg (.name 4) (.call .chg 24 [(.var 0), (.var 1), (.con (.int 16))])),
    (.for_ (.one 5) .range1 [(.bin .mul (.call .chg 24 [(.var 0), (.var 1), (.con (.int 20))]) (.blt false .int [(.cmp .lt (.var 4) (.con (.int 4)))]))] [(.ife (.cmp .eq (.var 4) (.con (.int 0))) [(.asg (.name 3) (.tup [(.con (.str [100, 101, 101, 100])), (.idx (.con (.str [43, 45, 42, 60, 61])) (.bin .mod (.var 5) (.con (.int 5)))), (.var 3), (.tup [(.con (.str [110, 117, 109, 98, 101, 114])), (.var 5)])]))] [(.ife (.cmp .eq (.var 4) (.con (.int 1))) [(.asg (.name 3) (.tup [(.con (.str [100, 101, 101, 100])), (.con (.str [42])), (.tup [(.con (.str [119, 111, 114, 100])), (.con (.str [122]))]), (.var 3)]))] [(.ife (.cmp .eq (.var 4) (.con (.int 2))) [(.asg (.name 3) (.tup [(.con (.str [108, 101, 116])), (.con (.str [122])), (.var 3), (.tup [(.con (.str [119, 111, 114, 100])), (.con (.str [122]))])]))] [(.asg (.name 3) (.tup [(.con (.str [99, 97, 108, 108])), (.con (.str [122])), (.tup [(.var 3)])]))])])])]),
    (.ret (.tup [(.idx (.var 2) (.con (.int 0))), (.idx (.var 2) (.con (.int 1))), (.var 3)]))]
/-- law(_law_script): 0 _law_script, 1 _law_at, 2 _law_program_here, 3 _law_handed, 4 _law_text_here -/
def f_law : List Sm := [(.asg (.name 1) (.lst true [(.con (.int 0)), (.con (.int 0))])),
    (.asg (.name 2) (.call .chg 48 [(.var 0), (.var 1), (.call .chg 32 [(.var 0), (.var 1), (.con (.int 30))])])),
    (.asg (.name 3) (.call .val 37 [(.var 2)])),
    (.asg (.name 4) (.call .val 22 [(.var 3)])),
    (.ife (.or [(.not (.isi (.var 4) [.bty "str"])), (.cmp .ne (.var 4) (.call .val 47 [(.var 2)]))]) [(.ret (.con (.bl false)))] []),
    (.ret (.and [(.cmp .eq (.call .val 38 [(.var 3)]) (.var 2)), (.cmp .eq (.call .val 22 [(.var 3)]) (.var 4))]))]
/-- Shape.fits(self, value): 0 self, 1 value -/
def f_Shape_fits : List Sm := [(.ret (.dct false []))]
/-- Shape.words(self): 0 self -/
def f_Shape_words : List Sm := [(.ret (.lst false []))]
/-- Shape.many(self): 0 self -/
def f_Shape_many : List Sm := [(.ret (.con (.int 1)))]
/-- Shape.is_clear(self): 0 self -/
def f_Shape_is_clear : List Sm := [(.expr (.call .val 0 [(.con (.int 0))]))]
/-- Shape.kinds_in(self, house, kind): 0 self, 1 house, 2 kind -/
def f_Shape_kinds_in : List Sm := [(.expr (.call .val 0 [(.con (.int 1))]))]
/-- Shape.need(self, house, kind): 0 self, 1 house, 2 kind -/
def f_Shape_need : List Sm := [(.expr (.call .val 0 [(.con (.int 2))]))]
/-- Shape.text(self): 0 self -/
def f_Shape_text : List Sm := [(.ret (.con (.str [95])))]
/-- Shape.side(self): 0 self -/
def f_Shape_side : List Sm := [(.ret (.meth .val (.var 0) 0 []))]
/-- Shape.last_side(self): 0 self -/
def f_Shape_last_side : List Sm := [(.ret (.meth .val (.var 0) 9 []))]
/-- Word.__init__(self, word): 0 self, 1 word -/
def f_Word___init__ : List Sm := [(.asg (.fld (.var 0) 1) (.var 1))]
/-- Word.fits(self, value): 0 self, 1 value -/
def f_Word_fits : List Sm := [.nev]
/-- Word.words(self): 0 self -/
def f_Word_words : List Sm := [(.ret (.lst false [(.fld (.var 0) 1)]))]
/-- Word.is_clear(self): 0 self -/
def f_Word_is_clear : List Sm := [(.expr (.call .val 0 [(.con (.int 3))]))]
/-- Word.kinds_in(self, house, kind): 0 self, 1 house, 2 kind -/
def f_Word_kinds_in : List Sm := [(.expr (.call .val 0 [(.con (.int 4))]))]
/-- Word.text(self): 0 self -/
def f_Word_text : List Sm := [(.ret (.fld (.var 0) 1))]
/-- Span.__init__(self, low, high): 0 self, 1 low, 2 high -/
def f_Span___init__ : List Sm := [(.asg (.fld (.var 0) 2) (.var 1)),
    (.asg (.fld (.var 0) 3) (.var 2))]
/-- Span.fits(self, value): 0 self, 1 value -/
def f_Span_fits : List Sm := [(.ife (.or [(.isi (.var 1) [.bty "tuple"]), (.not (.chain .le .le (.fld (.var 0) 2) (.var 1) (.fld (.var 0) 3)))]) [(.ret (.con .non))] []),
    (.ret (.dct false []))]
/-- Span.kinds_in(self, house, kind): 0 self, 1 house, 2 kind -/
def f_Span_kinds_in : List Sm := [(.expr (.call .val 0 [(.con (.int 5))]))]
/-- Span.text(self): 0 self, 1 low, 2 high -/
def f_Span_text : List Sm := [(.ife (.cmp .eq (.fld (.var 0) 2) (.fld (.var 0) 3)) [(.ret (.call .val 3 [(.fld (.var 0) 2)]))] []),
    (.asg (.name 1) (.call .val 3 [(.fld (.var 0) 2)])),
    (.asg (.name 2) (.call .val 3 [(.fld (.var 0) 3)])),
    (.ife (.cmp .eq (.fld (.var 0) 3) (.glo 1)) [(.ret (.fstr [(.fmt (.var 1)), (.con (.str [46, 46]))]))] []),
    (.ife (.cmp .eq (.fld (.var 0) 2) (.neg (.glo 1))) [(.ret (.fstr [(.con (.str [46, 46])), (.fmt (.var 2))]))] []),
    (.ret (.fstr [(.fmt (.var 1)), (.con (.str [46, 46])), (.fmt (.var 2))]))]
/-- Made.__init__(self, tag, parts): 0 self, 1 tag, 2 parts -/
def f_Made___init__ : List Sm := [(.asg (.fld (.var 0) 5) (.var 1)),
    (.asg (.fld (.var 0) 4) (.lst false [])),
    (.ife (.cmp .isnot (.var 2) (.con .non)) [(.asg (.fld (.var 0) 4) (.blt false .list [(.var 2)]))] [])]
/-- Made.fits(self, value): 0 self, 1 value, 2 found, 3 part, 4 one, 5 binds -/
def f_Made_fits : List Sm := [.nev]
/-- Made.words(self): 0 self, 1 found, 2 part -/
def f_Made_words : List Sm := [(.asg (.name 1) (.lst false [])),
    (.for_ (.one 2) .val [(.fld (.var 0) 4)] [(.asg (.name 1) (.bin .add (.var 1) (.meth .val (.var 2) 11 [])))]),
    (.ret (.var 1))]
/-- Made.many(self): 0 self, 1 found, 2 part -/
def f_Made_many : List Sm := [(.asg (.name 1) (.con (.int 1))),
    (.for_ (.one 2) .val [(.fld (.var 0) 4)] [(.asg (.name 1) (.blt false .min2 [(.bin .mul (.var 1) (.meth .val (.var 2) 12 [])), (.bin .add (.glo 2) (.con (.int 1)))]))]),
    (.ret (.var 1))]
/-- Made.is_clear(self): 0 self -/
def f_Made_is_clear : List Sm := [(.expr (.call .val 0 [(.con (.int 6))]))]
/-- Made.kinds_in(self, house, kind): 0 self, 1 house, 2 kind -/
def f_Made_kinds_in : List Sm := [(.expr (.call .val 0 [(.con (.int 7))]))]
/-- Made.text(self): 0 self, 1 parts, 2 part -/
def f_Made_text : List Sm := [(.ife (.cmp .eq (.fld (.var 0) 4) (.lst false [])) [(.ret (.fld (.var 0) 5))] []),
    (.asg (.name 1) (.bm .join (.con (.str [44, 32])) [(.comp false (.one 2) .val [(.fld (.var 0) 4)] [] (.meth .val (.var 2) 0 []))])),
    (.ret (.bin .add (.bin .add (.bin .add (.fld (.var 0) 5) (.con (.str [40]))) (.var 1)) (.con (.str [41]))))]
/-- Either.__init__(self, one, other): 0 self, 1 one, 2 other -/
def f_Either___init__ : List Sm := [(.asg (.fld (.var 0) 6) (.var 1)),
    (.asg (.fld (.var 0) 7) (.var 2))]
/-- Either.fits(self, value): 0 self, 1 value, 2 binds -/
def f_Either_fits : List Sm := [(.asg (.name 2) (.meth .val (.fld (.var 0) 6) 10 [(.var 1)])),
    (.ife (.cmp .is_ (.var 2) (.con .non)) [(.ret (.meth .val (.fld (.var 0) 7) 10 [(.var 1)]))] []),
    (.ret (.var 2))]
/-- Either.words(self): 0 self -/
def f_Either_words : List Sm := [(.ret (.meth .val (.fld (.var 0) 6) 11 []))]
/-- Either.many(self): 0 self -/
def f_Either_many : List Sm := [(.ret (.blt false .min2 [(.bin .add (.meth .val (.fld (.var 0) 6) 12 []) (.meth .val (.fld (.var 0) 7) 12 [])), (.bin .add (.glo 2) (.con (.int 1)))]))]
/-- Either.is_clear(self): 0 self -/
def f_Either_is_clear : List Sm := [(.expr (.call .val 0 [(.con (.int 8))]))]
/-- Either.kinds_in(self, house, kind): 0 self, 1 house, 2 kind -/
def f_Either_kinds_in : List Sm := [(.expr (.call .val 0 [(.con (.int 9))]))]
/-- Either.text(self): 0 self -/
def f_Either_text : List Sm := [(.ret (.bin .add (.bin .add (.meth .val (.fld (.var 0) 6) 9 []) (.con (.str [32, 124, 32]))) (.meth .val (.fld (.var 0) 7) 13 [])))]
/-- Either.last_side(self): 0 self -/
def f_Either_last_side : List Sm := [(.ret (.bin .add (.bin .add (.con (.str [40])) (.meth .val (.var 0) 0 [])) (.con (.str [41]))))]
/-- Also.__init__(self, part, word): 0 self, 1 part, 2 word -/
def f_Also___init__ : List Sm := [(.asg (.fld (.var 0) 8) (.var 1)),
    (.asg (.fld (.var 0) 1) (.var 2))]
/-- Also.fits(self, value): 0 self, 1 value, 2 binds -/
def f_Also_fits : List Sm := [(.asg (.name 2) (.meth .ref (.fld (.var 0) 8) 10 [(.var 1)])),
    (.ife (.cmp .isnot (.var 2) (.con .non)) [(.asg (.idx (.var 2) (.fld (.var 0) 1)) (.var 1))] []),
    (.ret (.var 2))]
/-- Also.words(self): 0 self -/
def f_Also_words : List Sm := [(.ret (.bin .add (.meth .val (.fld (.var 0) 8) 11 []) (.lst false [(.fld (.var 0) 1)])))]
/-- Also.many(self): 0 self -/
def f_Also_many : List Sm := [(.ret (.meth .val (.fld (.var 0) 8) 12 []))]
/-- Also.is_clear(self): 0 self -/
def f_Also_is_clear : List Sm := [(.expr (.call .val 0 [(.con (.int 10))]))]
/-- Also.kinds_in(self, house, kind): 0 self, 1 house, 2 kind -/
def f_Also_kinds_in : List Sm := [(.expr (.call .val 0 [(.con (.int 11))]))]
/-- Also.text(self): 0 self -/
def f_Also_text : List Sm := [(.ret (.bin .add (.bin .add (.meth .val (.fld (.var 0) 8) 0 []) (.con (.str [32, 97, 115, 32]))) (.fld (.var 0) 1)))]
/-- Also.side(self): 0 self -/
def f_Also_side : List Sm := [(.ret (.bin .add (.bin .add (.con (.str [40])) (.meth .val (.var 0) 0 [])) (.con (.str [41]))))]
def c_MOST : PV := (.int 999999999)
def c_MOST_WAYS : PV := (.int 64)
def c_PARAMS : PV := (.tup [(.str []), (.str [40, 65, 41]), (.str [40, 65, 44, 32, 66, 41])])
def c_INNER : PV := (.tup [(.str [100, 101, 101, 100]), (.str [108, 101, 116]), (.str [109, 97, 116, 99, 104])])
def P : Prog := ⟨[⟨1, 1, [], f__wall⟩,
  ⟨1, 1, [], f_number_text⟩,
  ⟨1, 1, [], f_listed⟩,
  ⟨1, 2, [], f_kind_text⟩,
  ⟨1, 2, [], f_tagged_text⟩,
  ⟨1, 6, [], f_declaration_text⟩,
  ⟨1, 2, [], f_inner_text⟩,
  ⟨1, 5, [], f_rule_text⟩,
  ⟨1, 3, [], f_match_text⟩,
  ⟨1, 3, [], f_expression_text⟩,
  ⟨1, 4, [], f_function_text⟩,
  ⟨1, 6, [], f_written⟩,
  ⟨2, 2, [], f__law_cell⟩,
  ⟨3, 5, [], f__law_draw⟩,
  ⟨2, 16, [], f__law_pool⟩,
  ⟨2, 4, [], f__law_number⟩,
  ⟨5, 9, [], f__law_kind⟩,
  ⟨3, 11, [], f__law_declaration⟩,
  ⟨4, 12, [], f__law_shape⟩,
  ⟨4, 8, [], f__law_rules⟩,
  ⟨4, 10, [], f__law_expression⟩,
  ⟨3, 9, [], f__law_program⟩,
  ⟨1, 2, [], f__law_built⟩,
  ⟨1, 7, [], f__law_real⟩,
  ⟨1, 2, [], f__law_told⟩,
  ⟨1, 7, [], f__law_plainly⟩,
  ⟨1, 5, [], f__law_whole_real⟩,
  ⟨1, 5, [], f__law_whole_plainly⟩,
  ⟨1, 1, [], f__law_listed⟩,
  ⟨1, 1, [], f__law_number_text⟩,
  ⟨1, 2, [], f__law_kind_text⟩,
  ⟨2, 2, [], f__law_span_text⟩,
  ⟨1, 3, [], f__law_shape_text⟩,
  ⟨1, 2, [], f__law_inner⟩,
  ⟨1, 7, [], f__law_text⟩,
  ⟨1, 6, [], f__law_declared_text⟩,
  ⟨1, 6, [], f__law_whole_text⟩,
  ⟨3, 6, [], f__law_long⟩,
  ⟨1, 5, [], f_law⟩,
  ⟨2, 2, [], f_Shape_fits⟩,
  ⟨1, 1, [], f_Shape_words⟩,
  ⟨1, 1, [], f_Shape_many⟩,
  ⟨1, 1, [], f_Shape_is_clear⟩,
  ⟨3, 3, [], f_Shape_kinds_in⟩,
  ⟨3, 3, [], f_Shape_need⟩,
  ⟨1, 1, [], f_Shape_text⟩,
  ⟨1, 1, [], f_Shape_side⟩,
  ⟨1, 1, [], f_Shape_last_side⟩,
  ⟨2, 2, [], f_Word___init__⟩,
  ⟨2, 2, [], f_Word_fits⟩,
  ⟨1, 1, [], f_Word_words⟩,
  ⟨1, 1, [], f_Word_is_clear⟩,
  ⟨3, 3, [], f_Word_kinds_in⟩,
  ⟨1, 1, [], f_Word_text⟩,
  ⟨3, 3, [], f_Span___init__⟩,
  ⟨2, 2, [], f_Span_fits⟩,
  ⟨3, 3, [], f_Span_kinds_in⟩,
  ⟨1, 3, [], f_Span_text⟩,
  ⟨3, 3, [.non], f_Made___init__⟩,
  ⟨2, 6, [], f_Made_fits⟩,
  ⟨1, 3, [], f_Made_words⟩,
  ⟨1, 3, [], f_Made_many⟩,
  ⟨1, 1, [], f_Made_is_clear⟩,
  ⟨3, 3, [], f_Made_kinds_in⟩,
  ⟨1, 3, [], f_Made_text⟩,
  ⟨3, 3, [], f_Either___init__⟩,
  ⟨2, 3, [], f_Either_fits⟩,
  ⟨1, 1, [], f_Either_words⟩,
  ⟨1, 1, [], f_Either_many⟩,
  ⟨1, 1, [], f_Either_is_clear⟩,
  ⟨3, 3, [], f_Either_kinds_in⟩,
  ⟨1, 1, [], f_Either_text⟩,
  ⟨1, 1, [], f_Either_last_side⟩,
  ⟨3, 3, [], f_Also___init__⟩,
  ⟨2, 3, [], f_Also_fits⟩,
  ⟨1, 1, [], f_Also_words⟩,
  ⟨1, 1, [], f_Also_many⟩,
  ⟨1, 1, [], f_Also_is_clear⟩,
  ⟨3, 3, [], f_Also_kinds_in⟩,
  ⟨1, 1, [], f_Also_text⟩,
  ⟨1, 1, [], f_Also_side⟩],
  [⟨4, none, [(10, 39), (11, 40), (12, 41), (14, 42), (15, 43), (16, 44), (0, 45), (9, 46), (13, 47)], [0]⟩,
  ⟨5, none, [(10, 39), (11, 40), (12, 41), (14, 42), (15, 43), (16, 44), (0, 45), (9, 46), (13, 47)], [1, 0]⟩,
  ⟨6, some 48, [(10, 49), (11, 50), (12, 41), (14, 51), (15, 52), (16, 44), (0, 53), (9, 46), (13, 47)], [2, 0]⟩,
  ⟨7, some 54, [(10, 55), (11, 40), (12, 41), (14, 42), (15, 56), (16, 44), (0, 57), (9, 46), (13, 47)], [3, 0]⟩,
  ⟨8, some 58, [(10, 59), (11, 60), (12, 61), (14, 62), (15, 63), (16, 44), (0, 64), (9, 46), (13, 47)], [4, 0]⟩,
  ⟨9, some 65, [(10, 66), (11, 67), (12, 68), (14, 69), (15, 70), (16, 44), (0, 71), (9, 46), (13, 72)], [5, 0]⟩,
  ⟨10, some 73, [(10, 74), (11, 75), (12, 76), (14, 77), (15, 78), (16, 44), (0, 79), (9, 80), (13, 47)], [6, 0]⟩],
  [.fn 0, .con c_MOST, .con c_MOST_WAYS, .fn 1, .cls 0, .cls 1, .cls 2, .cls 3, .cls 4, .cls 5, .cls 6, .con c_PARAMS, .con c_INNER, .fn 2, .fn 3, .fn 4, .fn 5, .fn 6, .fn 7, .fn 8, .fn 9, .fn 10, .fn 11, .fn 12, .fn 13, .fn 14, .fn 15, .fn 16, .fn 17, .fn 18, .fn 19, .fn 20, .fn 21, .fn 22, .fn 23, .fn 24, .fn 25, .fn 26, .fn 27, .fn 28, .fn 29, .fn 30, .fn 31, .fn 32, .fn 33, .fn 34, .fn 35, .fn 36, .fn 37, .fn 38]⟩
@[simp] theorem fun_0 : P.funs[0]? = some ⟨1, 1, [], f__wall⟩ := rfl
@[simp] theorem fun_1 : P.funs[1]? = some ⟨1, 1, [], f_number_text⟩ := rfl
@[simp] theorem fun_2 : P.funs[2]? = some ⟨1, 1, [], f_listed⟩ := rfl
@[simp] theorem fun_3 : P.funs[3]? = some ⟨1, 2, [], f_kind_text⟩ := rfl
@[simp] theorem fun_4 : P.funs[4]? = some ⟨1, 2, [], f_tagged_text⟩ := rfl
@[simp] theorem fun_5 : P.funs[5]? = some ⟨1, 6, [], f_declaration_text⟩ := rfl
@[simp] theorem fun_6 : P.funs[6]? = some ⟨1, 2, [], f_inner_text⟩ := rfl
@[simp] theorem fun_7 : P.funs[7]? = some ⟨1, 5, [], f_rule_text⟩ := rfl
@[simp] theorem fun_8 : P.funs[8]? = some ⟨1, 3, [], f_match_text⟩ := rfl
@[simp] theorem fun_9 : P.funs[9]? = some ⟨1, 3, [], f_expression_text⟩ := rfl
@[simp] theorem fun_10 : P.funs[10]? = some ⟨1, 4, [], f_function_text⟩ := rfl
@[simp] theorem fun_11 : P.funs[11]? = some ⟨1, 6, [], f_written⟩ := rfl
@[simp] theorem fun_12 : P.funs[12]? = some ⟨2, 2, [], f__law_cell⟩ := rfl
@[simp] theorem fun_13 : P.funs[13]? = some ⟨3, 5, [], f__law_draw⟩ := rfl
@[simp] theorem fun_14 : P.funs[14]? = some ⟨2, 16, [], f__law_pool⟩ := rfl
@[simp] theorem fun_15 : P.funs[15]? = some ⟨2, 4, [], f__law_number⟩ := rfl
@[simp] theorem fun_16 : P.funs[16]? = some ⟨5, 9, [], f__law_kind⟩ := rfl
@[simp] theorem fun_17 : P.funs[17]? = some ⟨3, 11, [], f__law_declaration⟩ := rfl
@[simp] theorem fun_18 : P.funs[18]? = some ⟨4, 12, [], f__law_shape⟩ := rfl
@[simp] theorem fun_19 : P.funs[19]? = some ⟨4, 8, [], f__law_rules⟩ := rfl
@[simp] theorem fun_20 : P.funs[20]? = some ⟨4, 10, [], f__law_expression⟩ := rfl
@[simp] theorem fun_21 : P.funs[21]? = some ⟨3, 9, [], f__law_program⟩ := rfl
@[simp] theorem fun_22 : P.funs[22]? = some ⟨1, 2, [], f__law_built⟩ := rfl
@[simp] theorem fun_23 : P.funs[23]? = some ⟨1, 7, [], f__law_real⟩ := rfl
@[simp] theorem fun_24 : P.funs[24]? = some ⟨1, 2, [], f__law_told⟩ := rfl
@[simp] theorem fun_25 : P.funs[25]? = some ⟨1, 7, [], f__law_plainly⟩ := rfl
@[simp] theorem fun_26 : P.funs[26]? = some ⟨1, 5, [], f__law_whole_real⟩ := rfl
@[simp] theorem fun_27 : P.funs[27]? = some ⟨1, 5, [], f__law_whole_plainly⟩ := rfl
@[simp] theorem fun_28 : P.funs[28]? = some ⟨1, 1, [], f__law_listed⟩ := rfl
@[simp] theorem fun_29 : P.funs[29]? = some ⟨1, 1, [], f__law_number_text⟩ := rfl
@[simp] theorem fun_30 : P.funs[30]? = some ⟨1, 2, [], f__law_kind_text⟩ := rfl
@[simp] theorem fun_31 : P.funs[31]? = some ⟨2, 2, [], f__law_span_text⟩ := rfl
@[simp] theorem fun_32 : P.funs[32]? = some ⟨1, 3, [], f__law_shape_text⟩ := rfl
@[simp] theorem fun_33 : P.funs[33]? = some ⟨1, 2, [], f__law_inner⟩ := rfl
@[simp] theorem fun_34 : P.funs[34]? = some ⟨1, 7, [], f__law_text⟩ := rfl
@[simp] theorem fun_35 : P.funs[35]? = some ⟨1, 6, [], f__law_declared_text⟩ := rfl
@[simp] theorem fun_36 : P.funs[36]? = some ⟨1, 6, [], f__law_whole_text⟩ := rfl
@[simp] theorem fun_37 : P.funs[37]? = some ⟨3, 6, [], f__law_long⟩ := rfl
@[simp] theorem fun_38 : P.funs[38]? = some ⟨1, 5, [], f_law⟩ := rfl
@[simp] theorem fun_39 : P.funs[39]? = some ⟨2, 2, [], f_Shape_fits⟩ := rfl
@[simp] theorem fun_40 : P.funs[40]? = some ⟨1, 1, [], f_Shape_words⟩ := rfl
@[simp] theorem fun_41 : P.funs[41]? = some ⟨1, 1, [], f_Shape_many⟩ := rfl
@[simp] theorem fun_42 : P.funs[42]? = some ⟨1, 1, [], f_Shape_is_clear⟩ := rfl
@[simp] theorem fun_43 : P.funs[43]? = some ⟨3, 3, [], f_Shape_kinds_in⟩ := rfl
@[simp] theorem fun_44 : P.funs[44]? = some ⟨3, 3, [], f_Shape_need⟩ := rfl
@[simp] theorem fun_45 : P.funs[45]? = some ⟨1, 1, [], f_Shape_text⟩ := rfl
@[simp] theorem fun_46 : P.funs[46]? = some ⟨1, 1, [], f_Shape_side⟩ := rfl
@[simp] theorem fun_47 : P.funs[47]? = some ⟨1, 1, [], f_Shape_last_side⟩ := rfl
@[simp] theorem fun_48 : P.funs[48]? = some ⟨2, 2, [], f_Word___init__⟩ := rfl
@[simp] theorem fun_49 : P.funs[49]? = some ⟨2, 2, [], f_Word_fits⟩ := rfl
@[simp] theorem fun_50 : P.funs[50]? = some ⟨1, 1, [], f_Word_words⟩ := rfl
@[simp] theorem fun_51 : P.funs[51]? = some ⟨1, 1, [], f_Word_is_clear⟩ := rfl
@[simp] theorem fun_52 : P.funs[52]? = some ⟨3, 3, [], f_Word_kinds_in⟩ := rfl
@[simp] theorem fun_53 : P.funs[53]? = some ⟨1, 1, [], f_Word_text⟩ := rfl
@[simp] theorem fun_54 : P.funs[54]? = some ⟨3, 3, [], f_Span___init__⟩ := rfl
@[simp] theorem fun_55 : P.funs[55]? = some ⟨2, 2, [], f_Span_fits⟩ := rfl
@[simp] theorem fun_56 : P.funs[56]? = some ⟨3, 3, [], f_Span_kinds_in⟩ := rfl
@[simp] theorem fun_57 : P.funs[57]? = some ⟨1, 3, [], f_Span_text⟩ := rfl
@[simp] theorem fun_58 : P.funs[58]? = some ⟨3, 3, [.non], f_Made___init__⟩ := rfl
@[simp] theorem fun_59 : P.funs[59]? = some ⟨2, 6, [], f_Made_fits⟩ := rfl
@[simp] theorem fun_60 : P.funs[60]? = some ⟨1, 3, [], f_Made_words⟩ := rfl
@[simp] theorem fun_61 : P.funs[61]? = some ⟨1, 3, [], f_Made_many⟩ := rfl
@[simp] theorem fun_62 : P.funs[62]? = some ⟨1, 1, [], f_Made_is_clear⟩ := rfl
@[simp] theorem fun_63 : P.funs[63]? = some ⟨3, 3, [], f_Made_kinds_in⟩ := rfl
@[simp] theorem fun_64 : P.funs[64]? = some ⟨1, 3, [], f_Made_text⟩ := rfl
@[simp] theorem fun_65 : P.funs[65]? = some ⟨3, 3, [], f_Either___init__⟩ := rfl
@[simp] theorem fun_66 : P.funs[66]? = some ⟨2, 3, [], f_Either_fits⟩ := rfl
@[simp] theorem fun_67 : P.funs[67]? = some ⟨1, 1, [], f_Either_words⟩ := rfl
@[simp] theorem fun_68 : P.funs[68]? = some ⟨1, 1, [], f_Either_many⟩ := rfl
@[simp] theorem fun_69 : P.funs[69]? = some ⟨1, 1, [], f_Either_is_clear⟩ := rfl
@[simp] theorem fun_70 : P.funs[70]? = some ⟨3, 3, [], f_Either_kinds_in⟩ := rfl
@[simp] theorem fun_71 : P.funs[71]? = some ⟨1, 1, [], f_Either_text⟩ := rfl
@[simp] theorem fun_72 : P.funs[72]? = some ⟨1, 1, [], f_Either_last_side⟩ := rfl
@[simp] theorem fun_73 : P.funs[73]? = some ⟨3, 3, [], f_Also___init__⟩ := rfl
@[simp] theorem fun_74 : P.funs[74]? = some ⟨2, 3, [], f_Also_fits⟩ := rfl
@[simp] theorem fun_75 : P.funs[75]? = some ⟨1, 1, [], f_Also_words⟩ := rfl
@[simp] theorem fun_76 : P.funs[76]? = some ⟨1, 1, [], f_Also_many⟩ := rfl
@[simp] theorem fun_77 : P.funs[77]? = some ⟨1, 1, [], f_Also_is_clear⟩ := rfl
@[simp] theorem fun_78 : P.funs[78]? = some ⟨3, 3, [], f_Also_kinds_in⟩ := rfl
@[simp] theorem fun_79 : P.funs[79]? = some ⟨1, 1, [], f_Also_text⟩ := rfl
@[simp] theorem fun_80 : P.funs[80]? = some ⟨1, 1, [], f_Also_side⟩ := rfl
@[simp] theorem glo_0 (c i : Nat → List PV → Store → Res PV) : (P.env c i).glob 0 = some (.fn 0) := rfl
@[simp] theorem glo_1 (c i : Nat → List PV → Store → Res PV) : (P.env c i).glob 1 = some (.con c_MOST) := rfl
@[simp] theorem glo_2 (c i : Nat → List PV → Store → Res PV) : (P.env c i).glob 2 = some (.con c_MOST_WAYS) := rfl
@[simp] theorem glo_3 (c i : Nat → List PV → Store → Res PV) : (P.env c i).glob 3 = some (.fn 1) := rfl
@[simp] theorem glo_4 (c i : Nat → List PV → Store → Res PV) : (P.env c i).glob 4 = some (.cls 0) := rfl
@[simp] theorem glo_5 (c i : Nat → List PV → Store → Res PV) : (P.env c i).glob 5 = some (.cls 1) := rfl
@[simp] theorem glo_6 (c i : Nat → List PV → Store → Res PV) : (P.env c i).glob 6 = some (.cls 2) := rfl
@[simp] theorem glo_7 (c i : Nat → List PV → Store → Res PV) : (P.env c i).glob 7 = some (.cls 3) := rfl
@[simp] theorem glo_8 (c i : Nat → List PV → Store → Res PV) : (P.env c i).glob 8 = some (.cls 4) := rfl
@[simp] theorem glo_9 (c i : Nat → List PV → Store → Res PV) : (P.env c i).glob 9 = some (.cls 5) := rfl
@[simp] theorem glo_10 (c i : Nat → List PV → Store → Res PV) : (P.env c i).glob 10 = some (.cls 6) := rfl
@[simp] theorem glo_11 (c i : Nat → List PV → Store → Res PV) : (P.env c i).glob 11 = some (.con c_PARAMS) := rfl
@[simp] theorem glo_12 (c i : Nat → List PV → Store → Res PV) : (P.env c i).glob 12 = some (.con c_INNER) := rfl
@[simp] theorem glo_13 (c i : Nat → List PV → Store → Res PV) : (P.env c i).glob 13 = some (.fn 2) := rfl
@[simp] theorem glo_14 (c i : Nat → List PV → Store → Res PV) : (P.env c i).glob 14 = some (.fn 3) := rfl
@[simp] theorem glo_15 (c i : Nat → List PV → Store → Res PV) : (P.env c i).glob 15 = some (.fn 4) := rfl
@[simp] theorem glo_16 (c i : Nat → List PV → Store → Res PV) : (P.env c i).glob 16 = some (.fn 5) := rfl
@[simp] theorem glo_17 (c i : Nat → List PV → Store → Res PV) : (P.env c i).glob 17 = some (.fn 6) := rfl
@[simp] theorem glo_18 (c i : Nat → List PV → Store → Res PV) : (P.env c i).glob 18 = some (.fn 7) := rfl
@[simp] theorem glo_19 (c i : Nat → List PV → Store → Res PV) : (P.env c i).glob 19 = some (.fn 8) := rfl
@[simp] theorem glo_20 (c i : Nat → List PV → Store → Res PV) : (P.env c i).glob 20 = some (.fn 9) := rfl
@[simp] theorem glo_21 (c i : Nat → List PV → Store → Res PV) : (P.env c i).glob 21 = some (.fn 10) := rfl
@[simp] theorem glo_22 (c i : Nat → List PV → Store → Res PV) : (P.env c i).glob 22 = some (.fn 11) := rfl
@[simp] theorem glo_23 (c i : Nat → List PV → Store → Res PV) : (P.env c i).glob 23 = some (.fn 12) := rfl
@[simp] theorem glo_24 (c i : Nat → List PV → Store → Res PV) : (P.env c i).glob 24 = some (.fn 13) := rfl
@[simp] theorem glo_25 (c i : Nat → List PV → Store → Res PV) : (P.env c i).glob 25 = some (.fn 14) := rfl
@[simp] theorem glo_26 (c i : Nat → List PV → Store → Res PV) : (P.env c i).glob 26 = some (.fn 15) := rfl
@[simp] theorem glo_27 (c i : Nat → List PV → Store → Res PV) : (P.env c i).glob 27 = some (.fn 16) := rfl
@[simp] theorem glo_28 (c i : Nat → List PV → Store → Res PV) : (P.env c i).glob 28 = some (.fn 17) := rfl
@[simp] theorem glo_29 (c i : Nat → List PV → Store → Res PV) : (P.env c i).glob 29 = some (.fn 18) := rfl
@[simp] theorem glo_30 (c i : Nat → List PV → Store → Res PV) : (P.env c i).glob 30 = some (.fn 19) := rfl
@[simp] theorem glo_31 (c i : Nat → List PV → Store → Res PV) : (P.env c i).glob 31 = some (.fn 20) := rfl
@[simp] theorem glo_32 (c i : Nat → List PV → Store → Res PV) : (P.env c i).glob 32 = some (.fn 21) := rfl
@[simp] theorem glo_33 (c i : Nat → List PV → Store → Res PV) : (P.env c i).glob 33 = some (.fn 22) := rfl
@[simp] theorem glo_34 (c i : Nat → List PV → Store → Res PV) : (P.env c i).glob 34 = some (.fn 23) := rfl
@[simp] theorem glo_35 (c i : Nat → List PV → Store → Res PV) : (P.env c i).glob 35 = some (.fn 24) := rfl
@[simp] theorem glo_36 (c i : Nat → List PV → Store → Res PV) : (P.env c i).glob 36 = some (.fn 25) := rfl
@[simp] theorem glo_37 (c i : Nat → List PV → Store → Res PV) : (P.env c i).glob 37 = some (.fn 26) := rfl
@[simp] theorem glo_38 (c i : Nat → List PV → Store → Res PV) : (P.env c i).glob 38 = some (.fn 27) := rfl
@[simp] theorem glo_39 (c i : Nat → List PV → Store → Res PV) : (P.env c i).glob 39 = some (.fn 28) := rfl
@[simp] theorem glo_40 (c i : Nat → List PV → Store → Res PV) : (P.env c i).glob 40 = some (.fn 29) := rfl
@[simp] theorem glo_41 (c i : Nat → List PV → Store → Res PV) : (P.env c i).glob 41 = some (.fn 30) := rfl
@[simp] theorem glo_42 (c i : Nat → List PV → Store → Res PV) : (P.env c i).glob 42 = some (.fn 31) := rfl
@[simp] theorem glo_43 (c i : Nat → List PV → Store → Res PV) : (P.env c i).glob 43 = some (.fn 32) := rfl
@[simp] theorem glo_44 (c i : Nat → List PV → Store → Res PV) : (P.env c i).glob 44 = some (.fn 33) := rfl
@[simp] theorem glo_45 (c i : Nat → List PV → Store → Res PV) : (P.env c i).glob 45 = some (.fn 34) := rfl
@[simp] theorem glo_46 (c i : Nat → List PV → Store → Res PV) : (P.env c i).glob 46 = some (.fn 35) := rfl
@[simp] theorem glo_47 (c i : Nat → List PV → Store → Res PV) : (P.env c i).glob 47 = some (.fn 36) := rfl
@[simp] theorem glo_48 (c i : Nat → List PV → Store → Res PV) : (P.env c i).glob 48 = some (.fn 37) := rfl
@[simp] theorem glo_49 (c i : Nat → List PV → Store → Res PV) : (P.env c i).glob 49 = some (.fn 38) := rfl
@[simp] theorem env_call (c i : Nat → List PV → Store → Res PV) : (P.env c i).call = c := rfl
@[simp] theorem env_init (c i : Nat → List PV → Store → Res PV) : (P.env c i).init = i := rfl
noncomputable abbrev K (d : Nat) := callL whlL P d
def gnL0 : List Str := ["_wall",
  "MOST",
  "MOST_WAYS",
  "number_text",
  "Shape",
  "Anything",
  "Word",
  "Span",
  "Made",
  "Either",
  "Also",
  "PARAMS",
  "INNER",
  "listed",
  "kind_text",
  "tagged_text",
  "declaration_text",
  "inner_text",
  "rule_text",
  "match_text",
  "expression_text",
  "function_text",
  "written",
  "_law_cell",
  "_law_draw",
  "_law_pool",
  "_law_number",
  "_law_kind",
  "_law_declaration",
  "_law_shape"]
def gnL1 : List Str := ["_law_rules",
  "_law_expression",
  "_law_program",
  "_law_built",
  "_law_real",
  "_law_told",
  "_law_plainly",
  "_law_whole_real",
  "_law_whole_plainly",
  "_law_listed",
  "_law_number_text",
  "_law_kind_text",
  "_law_span_text",
  "_law_shape_text",
  "_law_inner",
  "_law_text",
  "_law_declared_text",
  "_law_whole_text",
  "_law_long",
  "law"]
def anL0 : List Str := ["text",
  "word",
  "low",
  "high",
  "parts",
  "tag",
  "one",
  "other",
  "part",
  "side",
  "fits",
  "words",
  "many",
  "last_side",
  "is_clear",
  "kinds_in",
  "need"]
def mdL0 : List MD := [⟨("_wall", none), "_wall", "_wall", (top 0), ["k"]⟩,
  ⟨("number_text", none), "number_text", "number_text", (top 4), ["number"]⟩,
  ⟨("listed", none), "listed", "listed", (top 15), ["texts"]⟩,
  ⟨("kind_text", none), "kind_text", "kind_text", (top 16), ["kind", "one"]⟩,
  ⟨("tagged_text", none), "tagged_text", "tagged_text", (top 17), ["tagged", "kind"]⟩,
  ⟨("declaration_text", none), "declaration_text", "declaration_text", (top 18), ["declaration", "ahead", "fields", "word", "kind", "tagged"]⟩,
  ⟨("inner_text", none), "inner_text", "inner_text", (top 19), ["expression", "text"]⟩,
  ⟨("rule_text", none), "rule_text", "rule_text", (top 20), ["rule", "text", "shape", "guard", "body"]⟩,
  ⟨("match_text", none), "match_text", "match_text", (top 21), ["expression", "rules", "rule"]⟩,
  ⟨("expression_text", none), "expression_text", "expression_text", (top 22), ["expression", "kind", "one"]⟩,
  ⟨("function_text", none), "function_text", "function_text", (top 23), ["function", "word", "words", "body"]⟩,
  ⟨("written", none), "written", "written", (top 24), ["program", "lines", "declarations", "functions", "main", "one"]⟩,
  ⟨("_law_cell", none), "_law_cell", "_law_cell", (top 26), ["_law_script", "_law_k"]⟩,
  ⟨("_law_draw", none), "_law_draw", "_law_draw", (top 27), ["_law_script", "_law_at", "_law_many", "_law_k", "_law_number_here"]⟩,
  ⟨("_law_pool", none), "_law_pool", "_law_pool", (top 28), ["_law_script", "_law_at", "_law_letters", "_law_told_here", "_law_words", "_law_tags", "_law_k", "_law_way", "_law_first", "_law_size", "_law_place", "_law_tail", "_law_word", "_law_tag", "_law_many", "_law_j"]⟩,
  ⟨("_law_number", none), "_law_number", "_law_number", (top 29), ["_law_script", "_law_at", "_law_wide", "_law_small"]⟩,
  ⟨("_law_kind", none), "_law_kind", "_law_kind", (top 30), ["_law_script", "_law_at", "_law_pool_here", "_law_deep", "_law_many", "_law_way", "_law_some", "_law_kinds", "_law_k"]⟩,
  ⟨("_law_declaration", none), "_law_declaration", "_law_declaration", (top 31), ["_law_script", "_law_at", "_law_pool_here", "_law_word", "_law_many", "_law_tagged", "_law_k", "_law_fields", "_law_size", "_law_kinds", "_law_j"]⟩,
  ⟨("_law_shape", none), "_law_shape", "_law_shape", (top 32), ["_law_script", "_law_at", "_law_pool_here", "_law_deep", "_law_way", "_law_one", "_law_ends", "_law_parts", "_law_other", "_law_low", "_law_high", "_law_k"]⟩,
  ⟨("_law_rules", none), "_law_rules", "_law_rules", (top 33), ["_law_script", "_law_at", "_law_pool_here", "_law_deep", "_law_found", "_law_k", "_law_told_here", "_law_guard"]⟩,
  ⟨("_law_expression", none), "_law_expression", "_law_expression", (top 34), ["_law_script", "_law_at", "_law_pool_here", "_law_deep", "_law_way", "_law_word", "_law_tag", "_law_one", "_law_parts", "_law_k"]⟩,
  ⟨("_law_program", none), "_law_program", "_law_program", (top 35), ["_law_script", "_law_at", "_law_size", "_law_pool_here", "_law_declared", "_law_functions", "_law_k", "_law_words", "_law_j"]⟩,
  ⟨("_law_built", none), "_law_built", "_law_built", (top 36), ["_law_told_here", "_law_one"]⟩,
  ⟨("_law_real", none), "_law_real", "_law_real", (top 37), ["_law_one", "_law_rules_here", "_law_told_here", "_law_guard", "_law_body", "_law_asked", "_law_part"]⟩,
  ⟨("_law_told", none), "_law_told", "_law_told", (top 38), ["_law_shape_here", "_law_part"]⟩,
  ⟨("_law_plainly", none), "_law_plainly", "_law_plainly", (top 39), ["_law_one", "_law_rules_here", "_law_shape_here", "_law_guard", "_law_body", "_law_asked", "_law_part"]⟩,
  ⟨("_law_whole_real", none), "_law_whole_real", "_law_whole_real", (top 40), ["_law_program_here", "_law_functions", "_law_word", "_law_words", "_law_body"]⟩,
  ⟨("_law_whole_plainly", none), "_law_whole_plainly", "_law_whole_plainly", (top 41), ["_law_program_here", "_law_functions", "_law_word", "_law_words", "_law_body"]⟩,
  ⟨("_law_listed", none), "_law_listed", "_law_listed", (top 42), ["_law_texts"]⟩,
  ⟨("_law_number_text", none), "_law_number_text", "_law_number_text", (top 43), ["_law_number_here"]⟩]
def mdL1 : List MD := [⟨("_law_kind_text", none), "_law_kind_text", "_law_kind_text", (top 44), ["_law_kind_here", "_law_one"]⟩,
  ⟨("_law_span_text", none), "_law_span_text", "_law_span_text", (top 45), ["_law_low", "_law_high"]⟩,
  ⟨("_law_shape_text", none), "_law_shape_text", "_law_shape_text", (top 46), ["_law_told_here", "_law_one", "_law_other"]⟩,
  ⟨("_law_inner", none), "_law_inner", "_law_inner", (top 47), ["_law_one", "_law_text_here"]⟩,
  ⟨("_law_text", none), "_law_text", "_law_text", (top 48), ["_law_one", "_law_rules_here", "_law_told_here", "_law_guard", "_law_body", "_law_asked", "_law_part"]⟩,
  ⟨("_law_declared_text", none), "_law_declared_text", "_law_declared_text", (top 49), ["_law_one", "_law_ahead", "_law_tag", "_law_kinds", "_law_word", "_law_kind_here"]⟩,
  ⟨("_law_whole_text", none), "_law_whole_text", "_law_whole_text", (top 50), ["_law_program_here", "_law_lines", "_law_word", "_law_words", "_law_body", "_law_one"]⟩,
  ⟨("_law_long", none), "_law_long", "_law_long", (top 51), ["_law_script", "_law_at", "_law_program_here", "_law_main", "_law_way", "_law_k"]⟩,
  ⟨("law", none), "law", "law", (top 52), ["_law_script", "_law_at", "_law_program_here", "_law_handed", "_law_text_here"]⟩,
  ⟨("Shape", some "fits"), "fits", "Shape.fits", (clsSt (top 5) 0), ["self", "value"]⟩,
  ⟨("Shape", some "words"), "words", "Shape.words", (clsSt (top 5) 1), ["self"]⟩,
  ⟨("Shape", some "many"), "many", "Shape.many", (clsSt (top 5) 2), ["self"]⟩,
  ⟨("Shape", some "is_clear"), "is_clear", "Shape.is_clear", (clsSt (top 5) 3), ["self"]⟩,
  ⟨("Shape", some "kinds_in"), "kinds_in", "Shape.kinds_in", (clsSt (top 5) 4), ["self", "house", "kind"]⟩,
  ⟨("Shape", some "need"), "need", "Shape.need", (clsSt (top 5) 5), ["self", "house", "kind"]⟩,
  ⟨("Shape", some "text"), "text", "Shape.text", (clsSt (top 5) 6), ["self"]⟩,
  ⟨("Shape", some "side"), "side", "Shape.side", (clsSt (top 5) 7), ["self"]⟩,
  ⟨("Shape", some "last_side"), "last_side", "Shape.last_side", (clsSt (top 5) 8), ["self"]⟩,
  ⟨("Word", some "__init__"), "__init__", "Word.__init__", (clsSt (top 7) 0), ["self", "word"]⟩,
  ⟨("Word", some "fits"), "fits", "Word.fits", (clsSt (top 7) 1), ["self", "value"]⟩,
  ⟨("Word", some "words"), "words", "Word.words", (clsSt (top 7) 2), ["self"]⟩,
  ⟨("Word", some "is_clear"), "is_clear", "Word.is_clear", (clsSt (top 7) 3), ["self"]⟩,
  ⟨("Word", some "kinds_in"), "kinds_in", "Word.kinds_in", (clsSt (top 7) 4), ["self", "house", "kind"]⟩,
  ⟨("Word", some "text"), "text", "Word.text", (clsSt (top 7) 5), ["self"]⟩,
  ⟨("Span", some "__init__"), "__init__", "Span.__init__", (clsSt (top 8) 0), ["self", "low", "high"]⟩,
  ⟨("Span", some "fits"), "fits", "Span.fits", (clsSt (top 8) 1), ["self", "value"]⟩,
  ⟨("Span", some "kinds_in"), "kinds_in", "Span.kinds_in", (clsSt (top 8) 2), ["self", "house", "kind"]⟩,
  ⟨("Span", some "text"), "text", "Span.text", (clsSt (top 8) 3), ["self", "low", "high"]⟩,
  ⟨("Made", some "__init__"), "__init__", "Made.__init__", (clsSt (top 9) 0), ["self", "tag", "parts"]⟩,
  ⟨("Made", some "fits"), "fits", "Made.fits", (clsSt (top 9) 1), ["self", "value", "found", "part", "one", "binds"]⟩]
def mdL2 : List MD := [⟨("Made", some "words"), "words", "Made.words", (clsSt (top 9) 2), ["self", "found", "part"]⟩,
  ⟨("Made", some "many"), "many", "Made.many", (clsSt (top 9) 3), ["self", "found", "part"]⟩,
  ⟨("Made", some "is_clear"), "is_clear", "Made.is_clear", (clsSt (top 9) 4), ["self"]⟩,
  ⟨("Made", some "kinds_in"), "kinds_in", "Made.kinds_in", (clsSt (top 9) 5), ["self", "house", "kind"]⟩,
  ⟨("Made", some "text"), "text", "Made.text", (clsSt (top 9) 6), ["self", "parts", "part"]⟩,
  ⟨("Either", some "__init__"), "__init__", "Either.__init__", (clsSt (top 10) 0), ["self", "one", "other"]⟩,
  ⟨("Either", some "fits"), "fits", "Either.fits", (clsSt (top 10) 1), ["self", "value", "binds"]⟩,
  ⟨("Either", some "words"), "words", "Either.words", (clsSt (top 10) 2), ["self"]⟩,
  ⟨("Either", some "many"), "many", "Either.many", (clsSt (top 10) 3), ["self"]⟩,
  ⟨("Either", some "is_clear"), "is_clear", "Either.is_clear", (clsSt (top 10) 4), ["self"]⟩,
  ⟨("Either", some "kinds_in"), "kinds_in", "Either.kinds_in", (clsSt (top 10) 5), ["self", "house", "kind"]⟩,
  ⟨("Either", some "text"), "text", "Either.text", (clsSt (top 10) 6), ["self"]⟩,
  ⟨("Either", some "last_side"), "last_side", "Either.last_side", (clsSt (top 10) 7), ["self"]⟩,
  ⟨("Also", some "__init__"), "__init__", "Also.__init__", (clsSt (top 11) 0), ["self", "part", "word"]⟩,
  ⟨("Also", some "fits"), "fits", "Also.fits", (clsSt (top 11) 1), ["self", "value", "binds"]⟩,
  ⟨("Also", some "words"), "words", "Also.words", (clsSt (top 11) 2), ["self"]⟩,
  ⟨("Also", some "many"), "many", "Also.many", (clsSt (top 11) 3), ["self"]⟩,
  ⟨("Also", some "is_clear"), "is_clear", "Also.is_clear", (clsSt (top 11) 4), ["self"]⟩,
  ⟨("Also", some "kinds_in"), "kinds_in", "Also.kinds_in", (clsSt (top 11) 5), ["self", "house", "kind"]⟩,
  ⟨("Also", some "text"), "text", "Also.text", (clsSt (top 11) 6), ["self"]⟩,
  ⟨("Also", some "side"), "side", "Also.side", (clsSt (top 11) 7), ["self"]⟩]
def pd : PD := ⟨P, gnL0 ++ gnL1,
  anL0, [1, 2, 3, 4, 5, 6, 7, 8],
  mdL0 ++ mdL1 ++ mdL2⟩
/-- the names of the defs: 0 _wall, 1 number_text, 2 listed, 3 kind_text, 4 tagged_text, 5 declaration_text, 6 inner_text, 7 rule_text, 8 match_text, 9 expression_text, 10 function_text, 11 written, 12 _law_cell, 13 _law_draw, 14 _law_pool, 15 _law_number, 16 _law_kind, 17 _law_declaration, 18 _law_shape, 19 _law_rules, 20 _law_expression, 21 _law_program, 22 _law_built, 23 _law_real, 24 _law_told, 25 _law_plainly, 26 _law_whole_real, 27 _law_whole_plainly, 28 _law_listed, 29 _law_number_text, 30 _law_kind_text, 31 _law_span_text, 32 _law_shape_text, 33 _law_inner, 34 _law_text, 35 _law_declared_text, 36 _law_whole_text, 37 _law_long, 38 law, 39 Shape.fits, 40 Shape.words, 41 Shape.many, 42 Shape.is_clear, 43 Shape.kinds_in, 44 Shape.need, 45 Shape.text, 46 Shape.side, 47 Shape.last_side, 48 Word.__init__, 49 Word.fits, 50 Word.words, 51 Word.is_clear, 52 Word.kinds_in, 53 Word.text, 54 Span.__init__, 55 Span.fits, 56 Span.kinds_in, 57 Span.text, 58 Made.__init__, 59 Made.fits, 60 Made.words, 61 Made.many, 62 Made.is_clear, 63 Made.kinds_in, 64 Made.text, 65 Either.__init__, 66 Either.fits, 67 Either.words, 68 Either.many, 69 Either.is_clear, 70 Either.kinds_in, 71 Either.text, 72 Either.last_side, 73 Also.__init__, 74 Also.fits, 75 Also.words, 76 Also.many, 77 Also.is_clear, 78 Also.kinds_in, 79 Also.text, 80 Also.side -/
abbrev lawF : Nat := 38
end LK16
set_option Elab.async false
set_option linter.all false
set_option autoImplicit false
set_option maxRecDepth 100000
set_option maxHeartbeats 400000
namespace LK16
open PySem FF L2
/-! ### draws: a cell of two numbers -/
def at_ (k : Nat) (b : Int) : PV := .lst [.int k, .int b]
def X (S : Store) (n k : Nat) (b : Int) : Store := S.set n (at_ k b)
structure Bs (S : Store) (n : Nat) : Prop where
  lt : n < S.length
  low : lows S.length S = true
section
variable {S : Store} {n k k' : Nat} {b b' : Int}
theorem X_len : (X S n k b).length = S.length := by simp [X]
theorem X_at (h : Bs S n) : (X S n k b)[n]? = some (.lst [.int k, .int b]) := List.getElem?_set_self h.lt
theorem X_set : (X S n k b).set n (at_ k' b') = X S n k' b' := by simp [X]
theorem X_low (h : Bs S n) : lows S.length (X S n k b) = true := lows_set h.low (by simp [at_])
theorem X_push (h : Bs S n) (c : PV) : X S n k b ++ [c] = X (S ++ [c]) n k b := by
  unfold X
  rw [List.set_append_left _ _ h.lt]
theorem Bs.push (h : Bs S n) {c : PV} (hc : FF.low S.length c = true) : Bs (S ++ [c]) n := ⟨by have := h.lt; simp; omega, lows_tail (lows_mono (by simp) _ h.low) (by simp; exact low_mono (Nat.le_succ _) _ hc)⟩
theorem X_same (h : Bs S n) (e : S[n]? = some (at_ k b)) : X S n k b = S := set_same e
end
/-- it ends with a value so, the cell counted on -/
def Gn (c : Nat) (Q : PV → Prop) (S : Store) (n k : Nat) (b : Int) (r : Res PV) : Prop := ∃ v k' b', r = .ok v (X S n k' b') ∧ k ≤ k' ∧ k' ≤ k + c ∧ Q v
theorem Gn.mono {c c' : Nat} {Q Q' : PV → Prop} {S : Store} {n k : Nat} {b : Int} {r : Res PV} (h : Gn c Q S n k b r) (hc : c ≤ c') (hq : ∀ v, Q v → Q' v) : Gn c' Q' S n k b r := by
  obtain ⟨v, k', b', e, h1, h2, h3⟩ := h
  exact ⟨v, k', b', e, h1, by omega, hq v h3⟩
abbrev Bk : Nat := 2 ^ 40
theorem settle_x {S T : Store} {n k k' : Nat} {b b' : Int} {v r : PV} (h : Bs S n) (hf : frz S.length (X S n k' b' ++ T) 8 v = some r) : FF.settle .chg (X S n k b) v (X S n k' b' ++ T) = .ok r (X S n k' b') := by
  have hl : (X S n k' b').length = (X S n k b).length := by rw [X_len, X_len]
  refine settle_c hl ?_ ?_
  · rw [X_len]
    exact X_low h
  · rw [X_len]
    exact hf
theorem settle_x0 {S : Store} {n k k' : Nat} {b b' : Int} {v : PV} (h : Bs S n) (hv : FF.low S.length v = true) : FF.settle .chg (X S n k b) v (X S n k' b') = .ok v (X S n k' b') := by
  have h2 := settle_x (k := k) (b := b) (k' := k') (b' := b') (T := []) (r := v) h (frz_v hv)
  rw [List.append_nil] at h2
  exact h2
/-- what a def that draws gives to its caller -/
def GD (D f c : Nat) (args : Nat → List PV) (Q : PV → Prop) : Prop := ∀ (S : Store) (n k : Nat) (b : Int), Bs S n → k + c ≤ Bk → Gn c Q S n k b ((callL whlL P D f (args n) (X S n k b)).bind fun v S2 => FF.settle .chg (X S n k b) v S2)
noncomputable abbrev Ge (D : Nat) : Env2 := P.env (callL whlL P D) (prevD whlL P D)
/-- a call that draws -/
theorem gcall {D f c g : Nat} {args : Nat → List PV} {Q : PV → Prop} {S : Store} {n k : Nat} {b : Int} {ρ : FF.Env} {es : List E} {S0 : Store} (h : GD D f c args Q) (hb : Bs S n) (hk : k + c ≤ Bk) (h1 : denEs (Ge D) es ρ S0 = .ok (args n) (X S n k b)) (h2 : (Ge D).glob g = some (.fn f)) : Gn c Q S n k b (denE (Ge D) (.call .chg g es) ρ S0) := by
  obtain ⟨v, k', b', e, r⟩ := h S n k b hb hk
  exact ⟨v, k', b', v_callc (f := f) h1 h2 e, r⟩
theorem cell_ok (d : Nat) (ns : List Int) (j : Int) (S : Store) (hl : ns.length ≤ 63) (hj : 0 ≤ j) : ∃ c, K (d + 1) 12 [.lst (ns.map PV.int), .int j] S = .ok (.int c) S := by
  by_cases h : j < ns.length
  · obtain ⟨c, _, _, h2, _⟩ := ix_any S PV.int ns j hj h
    refine ⟨c, callE (callW fun_12 rfl ?_)⟩
    refine st_ifT (S1 := S) (by simp [h]) ?_
    exact st_ret (v := .int c) (S1 := S) (by simp [h2]) ⟨rfl, rfl⟩
  · refine ⟨0, callE (callW fun_12 rfl ?_)⟩
    refine st_ifF (S1 := S) (by simp [h]) ?_
    exact st_ret (v := .int 0) (S1 := S) (by simp) ⟨rfl, rfl⟩
def isI (lo hi : Int) (v : PV) : Prop := ∃ i : Int, v = .int i ∧ lo ≤ i ∧ i < hi
theorem draw_ok (d : Nat) (ns : List Int) (many : Int) (hl : ns.length ≤ 63) (hm : 0 < many) : GD (d + 2) 13 1 (fun n => [.lst (ns.map PV.int), .ref n, .int many]) (isI 0 many) := by
  intro S n k b hb hk
  have hk2 : k < 2 ^ 40 := by
    have : k + 1 ≤ 2 ^ 40 := hk
    omega
  obtain ⟨c, hc⟩ := cell_ok d ns (((k + 1 : Nat) : Int) % 59) (X S n (k + 1) b) hl (by omega)
  suffices h : W (K (d + 2) 13 [.lst (ns.map PV.int), .ref n, .int many] (X S n k b)) fun v T => T = X S n (k + 1) b ∧ isI 0 many v by
    obtain ⟨v, T, e, rfl, i, rfl, hi⟩ := h
    unfold K at e
    refine ⟨.int i, k + 1, b, ?_, by omega, by omega, i, rfl, hi⟩
    rw [e, bind_ok_]
    exact settle_x0 hb (by simp)
  refine callW fun_13 rfl ?_
  have at0 := X_at (k := k) (b := b) hb
  have at1 := X_at (k := k + 1) (b := b) hb
  have v0 := vidx_at (i := .int 0) at0
  have v1 := vidx_at (i := .int 0) at1
  simp at v0 v1
  refine st_item (n := n) (j := 0) (v := .int (k + 1)) (S1 := X S n k b) (by simp [v0]) rfl at0 (by simp [L2.ixN]) ?_
  have e1 : (X S n k b).set n (.lst ([PV.int k, .int b].set 0 (.int (k + 1)))) = X S n (k + 1) b := by
    simp [X, at_]
  rw [e1]
  refine st_asg (v := .int (k + 1)) (S1 := X S n (k + 1) b) (by simp [v1]) ?_
  let Γ := Ge (d + 1)
  have ec : ∀ ρ : FF.Env, ρ[0]? = some (some (.lst (ns.map PV.int))) → ρ[3]? = some (some (.int (k + 1))) → denE Γ (.call .val 23 [(.var 0), (.bin .mod (.var 3) (.con (.int 59)))]) ρ (X S n (k + 1) b) = .ok (.int c) (X S n (k + 1) b) := fun ρ h0 h3 =>
    v_callc (f := 12) (S1 := X S n (k + 1) b) (vs := [.lst (ns.map PV.int), .int (((k + 1 : Nat) : Int) % 59)]) (by simp [h0, h3]) rfl (by
      have q : Γ.call 12 [.lst (ns.map PV.int), .int (((k + 1 : Nat) : Int) % 59)] (X S n (k + 1) b) = .ok (.int c) (X S n (k + 1) b) := hc
      rw [q, bind_ok_]
      simp)
  let ρ3 : Option PV → FF.Env := fun o => [some (.lst (ns.map PV.int)), some (.ref n), some (.int many), some (.int (k + 1)), o]
  refine st_asg (v := .int ((c % 1000000007 + 31 * (k + 1) + 17) * 48271 % 2147483647)) (S1 := X S n (k + 1) b) (by
    have q := ec (ρ3 none) rfl rfl
    show denE Γ _ (ρ3 none) _ = _
    generalize E.call .val 23 [(.var 0), (.bin .mod (.var 3) (.con (.int 59)))] = ce at q ⊢
    simp [ρ3] at q ⊢
    simp [q]) ?_
  generalize (c % 1000000007 + 31 * ((k : Int) + 1) + 17) * 48271 = u
  have g1 : 0 ≤ u % 2147483647 ∧ u % 2147483647 < 2147483647 := by omega
  generalize u % 2147483647 = w at g1 ⊢
  refine st_asg (v := .int ((w + (k + 1)) * ((k + 1) * (k + 1) + 16807) % 2147483629)) (S1 := X S n (k + 1) b) (by
    have z1 : (w + ((k : Int) + 1)).natAbs < 18446744073709551616 := by omega
    have z2 : ((k : Int) + 1).natAbs < 18446744073709551616 := by omega
    simp [z1, z2]) ?_
  generalize (w + ((k : Int) + 1)) * ((k + 1) * (k + 1) + 16807) % 2147483629 = y
  refine st_ret (v := .int (y * 69621 % 2147483647 / 7 % many)) (S1 := X S n (k + 1) b) (by simp [hm]) ⟨rfl, _, rfl, Int.emod_nonneg _ (by omega), Int.emod_lt_of_pos _ hm⟩
/-- a comprehension whose elements draw -/
theorem compL_G {α : Type} {t : CT} {c e : FF.Env → Store → Res PV} {ρ : FF.Env} {S : Store} {n cc B : Nat} (i : α → PV) (R : α → PV → Prop) : ∀ (xs : List α) (acc : List PV) (k : Nat) (b : Int), acc.length + xs.length ≤ cap → k + xs.length * cc ≤ B →
    (∀ x ∈ xs, ∀ (k : Nat) (b : Int), k + cc ≤ B → ∃ ρ', bindT (X S n k b) t (i x) ρ = some ρ' ∧ c ρ' (X S n k b) = .ok (.bl true) (X S n k b) ∧ Gn cc (R x) S n k b (e ρ' (X S n k b))) →
    ∃ ys k' b', compL [] t c e ρ (xs.map i) acc (X S n k b) = .ok (acc ++ ys) (X S n k' b') ∧ k ≤ k' ∧ k' ≤ k + xs.length * cc ∧ F2 R xs ys
  | [], acc, k, b, _, _, _ => by
    refine ⟨[], k, b, ?_, by omega, by omega, .nil⟩
    rw [List.map_nil]
    unfold compL
    rw [if_pos (show intact [] (X S n k b) = true from rfl)]
    simp
  | x :: xs, acc, k, b, hl, hk, h => by
    simp only [List.length_cons, Nat.add_mul, Nat.one_mul] at hl hk
    obtain ⟨ρ', h1, h2, v, k1, b1, e1, e2, e3, e4⟩ := h x List.mem_cons_self k b (by omega)
    have ho : okI (acc.length + 1) = true := okI_of (by omega)
    obtain ⟨ys, k2, b2, q1, q2, q3, q4⟩ := compL_G i R xs (acc ++ [v]) k1 b1 (by simp only [List.length_append, List.length_cons, List.length_nil]; omega) (by omega) fun y hy => h y (List.mem_cons_of_mem _ hy)
    refine ⟨v :: ys, k2, b2, ?_, by omega, by simp only [List.length_cons, Nat.add_mul, Nat.one_mul]; omega, .cons e4 q4⟩
    rw [List.map_cons]
    unfold compL
    rw [if_pos (show intact [] (X S n k b) = true from rfl), h1]
    dsimp only
    rw [h2]
    dsimp only [bind_ok_]
    rw [e1]
    dsimp only [bind_ok_]
    rw [if_pos ho, q1]
    simp
theorem v_compG {α : Type} {Γ : Env2} {ρ : FF.Env} {S S0 : Store} {n cc B k : Nat} {b : Int} {t : CT} {sk : SrcK} {es : List E} {e : E} {vs : List PV} {xs : List α} (i : α → PV) (R : α → PV → Prop) (h1 : denEs Γ es ρ S0 = .ok vs (X S n k b)) (h2 : walk (X S n k b) sk vs = some (xs.map i, [])) (hl : xs.length ≤ cap) (hk : k + xs.length * cc ≤ B)
    (h : ∀ x ∈ xs, ∀ (k : Nat) (b : Int), k + cc ≤ B → ∃ ρ', bindT (X S n k b) t (i x) (wipeE ρ (own t)) = some ρ' ∧ Gn cc (R x) S n k b (denE Γ e ρ' (X S n k b))) :
    ∃ ys k' b', denE Γ (.comp false t sk es [] e) ρ S0 = .ok (.lst ys) (X S n k' b') ∧ k ≤ k' ∧ k' ≤ k + xs.length * cc ∧ F2 R xs ys := by
  obtain ⟨ys, k', b', q1, q2, q3, q4⟩ := compL_G (S := S) (n := n) (t := t) (c := fun ρ' S' => denC Γ [] ρ' S') (e := fun ρ' S' => denE Γ e ρ' S') (ρ := wipeE ρ (own t)) i R xs [] k b (by simpa using hl) hk fun x hx k b hk => by
    obtain ⟨ρ', a, g⟩ := h x hx k b hk
    exact ⟨ρ', a, rfl, g⟩
  refine ⟨ys, k', b', ?_, q2, q3, q4⟩
  show ((denEs Γ es ρ S0).bind fun vs S1 => (match walk S1 sk vs with
    | some (xs, g) => (compL g t (fun ρ' S' => denC Γ [] ρ' S') (fun ρ' S' => denE Γ e ρ' S') (wipeE ρ (own t)) xs [] S1).bind fun r S2 => FF.alloc false (.lst r) S2
    | none => .bad)) = _
  rw [h1]
  simp only [bind_ok_, h2, q1, alloc_f, List.nil_append]
end LK16
set_option Elab.async false
set_option linter.all false
set_option autoImplicit false
set_option maxRecDepth 100000
set_option maxHeartbeats 400000
namespace LK16
open PySem FF L2
/-- a short ASCII text -/
def sh (w : List Nat) : Prop := w.length ≤ 16 ∧ ∀ c ∈ w, c < 128
theorem sh_all {w : List Nat} (h : sh w) : (w.all fun c => decide (c < 128)) = true := List.all_eq_true.mpr fun c hc => decide_eq_true (h.2 c hc)
theorem vin_some {S : Store} {a : List Nat} {xs : List PV} {n : Nat} (ha : ∀ c ∈ a, c < 128) (hn : n ≤ 64) (hx : fit n (.tup xs) = true) : ∃ b, vin S (.str a) (.tup xs) = some b := by
  obtain ⟨d, h1, h2⟩ := shp_fit hn hx
  unfold toD at h1
  cases hd : toDs xs with
  | none => rw [hd] at h1; cases h1
  | some ds =>
    rw [hd] at h1
    cases h1
    unfold vin
    simp only [vw_tup, vw_str]
    rw [shp_str ha, h2]
    exact ⟨_, rfl⟩
theorem v_slcS {Γ : Env2} {ρ : FF.Env} {S S1 S2 : Store} {m : Bool} {o a : E} {x : List Nat} {i : Int} (h1 : denE Γ o ρ S = .ok (.str x) S1) (h2 : denE Γ a ρ S1 = .ok (.int i) S2) (hl : x.length ≤ 1000) : denE Γ (.slc m false true o .nev a) ρ S = .ok (.str (cut x none (some i))) S2 := by
  rw [d_slc, h1]
  simp [h2, okN (show x.length ≤ 1000000 by omega)]
theorem v_slcE {Γ : Env2} {ρ : FF.Env} {S S1 S2 : Store} {m : Bool} {o a : E} {x : List Nat} {i : Int} (h1 : denE Γ o ρ S = .ok (.str x) S1) (h2 : denE Γ a ρ S1 = .ok (.int i) S2) (hl : x.length ≤ 1000) : denE Γ (.slc m true false o a .nev) ρ S = .ok (.str (cut x (some i) none)) S2 := by
  rw [d_slc, h1]
  simp [h2, okN (show x.length ≤ 1000000 by omega)]
/-- a sign put in -/
theorem cut_halves (ys : List Nat) (at_ : Int) (h0 : 0 ≤ at_) : (cut ys none (some at_)).length + (cut ys (some at_) none).length ≤ ys.length := by
  have e1 : ∀ z, HT.sIx ys.length z (some at_) = min at_.toNat ys.length := fun z => by
    unfold HT.sIx
    dsimp only
    rw [if_neg (by omega)]
  unfold cut
  rw [e1, e1, HT.sIx_none, HT.sIx_none]
  simp only [List.length_take, List.length_drop]
  omega
theorem put_lt {ys : List Nat} {i : Int} {c : Nat} (h : ∀ c ∈ ys, c < 128) (hc : c < 128) : ∀ x ∈ cut ys none (some i) ++ [c] ++ cut ys (some i) none, x < 128 := fun x hx => by
  simp only [List.mem_append, List.mem_singleton] at hx
  rcases hx with (hx | rfl) | hx
  · exact h x (cut_sub _ _ _ hx)
  · exact hc
  · exact h x (cut_sub _ _ _ hx)
/-- signs out of some, joined -/
theorem join_signs {Γ : Env2} {ρ : FF.Env} {S : Store} {iv : Nat} {len ix : E} {n : Int} {lv : Nat} {lt : List Nat} (h0 : 0 ≤ n) (hn : n ≤ 100) (h1 : denE Γ len ρ S = .ok (.int n) S) (hlt : lt.length ≤ 1000 ∧ ∀ c ∈ lt, c < 128) (h2 : ∀ j : Nat, j < 100 → ∃ i : Int, denE Γ ix ((ρ.set iv none).set iv (some (.int j))) S = .ok (.int i) S ∧ 0 ≤ i ∧ i < lt.length) (hv : ((ρ.set iv none).set iv (some (.int 0)))[lv]? = some (some (.str lt))) (hne : lv ≠ iv) :
    ∃ t : List Nat, denE Γ (.bm .join (.con (.str [])) [(.comp false (.one iv) .range1 [len] [] (.idx (.var lv) ix))]) ρ S = .ok (.str t) S ∧ (t.length : Int) = n ∧ ∀ c ∈ t, c < 128 := by
  obtain ⟨vs, c1, c2⟩ := v_comp (Γ := Γ) (ρ := ρ) (S := S) (t := .one iv) (k := .range1) (es := [len]) (e := .idx (.var lv) ix) (vs := [.int n]) (g := []) (xs := List.range n.toNat) (fun (j : Nat) => PV.int (j : Int)) (fun _ v => ∃ c : Nat, v = PV.str [c] ∧ c < 128) (by rw [d_cons, h1]; rfl) (rangeM n S h0 (by omega)) rfl (by simp; unfold cap; omega) (fun j hj => by
    have hj2 := List.mem_range.mp hj
    obtain ⟨i, g1, g2, g3⟩ := h2 j (by omega)
    obtain ⟨c, g4, g5⟩ := vidx_char S lt i (by unfold cap; omega) g2 g3
    have hv2 : ((ρ.set iv none).set iv (some (.int j)))[lv]? = some (some (.str lt)) := by
      rw [List.getElem?_set_ne (Ne.symm hne)] at hv ⊢
      exact hv
    refine ⟨_, rfl, W.of (a := .str [c]) (S := S) ?_ ⟨rfl, c, rfl, hlt.2 c g5⟩⟩
    show denE Γ (.idx (.var lv) ix) ((ρ.set iv none).set iv (some (.int j))) S = _
    rw [d_idx, d_var, hv2]
    simp only [bind_ok_]
    rw [g1]
    simp [g4])
  obtain ⟨cs, rfl, y2⟩ := f2_ex c2
  have hcl : cs.length = n.toNat := by
    have := f2_len y2
    simp at this
    exact this.symm
  refine ⟨cs, ?_, by omega, fun c hc => by
    obtain ⟨_, _, h⟩ := f2_mem y2 c hc
    exact h⟩
  have e1 : (cs.map fun c => PV.str [c]) = (cs.map fun c => [c]).map PV.str := by
    rw [List.map_map]
    rfl
  rw [e1] at c1
  have e2 : ((cs.map fun c => [c]).map (·.length)).sum = cs.length := by
    rw [List.map_map]
    have : (cs.map ((·.length) ∘ fun c : Nat => [c])) = List.replicate cs.length 1 := List.eq_replicate_iff.mpr ⟨by simp, fun b hb => by
      obtain ⟨c, _, rfl⟩ := List.mem_map.mp hb
      rfl⟩
    rw [this]
    simp
  have h := v_join (y := []) c1 (okN (by rw [e2]; simp; omega))
  rw [join_one] at h
  exact h
theorem v_sign {Γ : Env2} {ρ : FF.Env} {S S1 S2 : Store} {o ix : E} {lt : List Nat} {i : Int} (h1 : denE Γ o ρ S = .ok (.str lt) S1) (h2 : denE Γ ix ρ S1 = .ok (.int i) S2) (hlt : lt.length ≤ 1000 ∧ ∀ c ∈ lt, c < 128) (g2 : 0 ≤ i) (g3 : i < lt.length) : ∃ c : Nat, denE Γ (.idx o ix) ρ S = .ok (.str [c]) S2 ∧ c < 128 := by
  obtain ⟨c, g4, g5⟩ := vidx_char S2 lt i (by unfold cap; omega) g2 g3
  exact ⟨c, by rw [d_idx, h1, bind_ok_, h2, bind_ok_, g4]; rfl, hlt.2 c g5⟩
def abc : List Nat := [97, 98, 99, 100, 101, 102, 103, 104, 105, 106, 107, 108, 109, 110, 111, 112, 113, 114, 115, 116, 117, 118, 119, 120, 121, 122]
theorem abc_ok : abc.length ≤ 1000 ∧ ∀ c ∈ abc, c < 128 := by decide
def toldL : List (List Nat) := [[97, 115], [99, 104, 111, 105, 99, 101], [100, 101, 102, 105, 110, 101], [105, 102], [105, 110], [108, 101, 116], [109, 97, 105, 110], [109, 97, 116, 99, 104], [110, 117, 109, 98, 101, 114], [114, 101, 99, 111, 114, 100], [116, 114, 117, 116, 104]]
/-- the pool: eight words, six tags -/
def poolV (ws ts : List (List Nat)) : PV := .tup [.lst (ws.map PV.str), .lst (ts.map PV.str)]
def gpool (ws ts : List (List Nat)) : Prop := ws.length = 8 ∧ ts.length = 6 ∧ (∀ w ∈ ws, sh w) ∧ ∀ t ∈ ts, sh t
end LK16
set_option Elab.async false
set_option linter.all false
set_option autoImplicit false
set_option maxRecDepth 100000
set_option maxHeartbeats 1000000
namespace LK16
open PySem FF L2
theorem st_namesL {L : Loop} {Γ : Env2} {ss : List Sm} {ρ ρ1 : FF.Env} {S S1 : Store} {Po_ : Po} {e : E} {is : List Nat} {vs : List PV} (h : denE Γ e ρ S = .ok (.lst vs) S1) (h2 : setAll is vs ρ = some ρ1) (q : WS (denSs L Γ ss ρ1 S1) Po_) : WS (denSs L Γ (.asg (.names is) e :: ss) ρ S) Po_ := by
  have e1 : denS L Γ (.asg (.names is) e) ρ S = .nxt ρ1 S1 := by
    show SRes.of ρ (denE Γ e ρ S) _ = _
    rw [h]
    show optR (setAll is vs ρ) S1 = _
    rw [h2] <;> rfl
  rw [dens_nxt e1]
  exact q
theorem v_upper {Γ : Env2} {ρ : FF.Env} {S S1 : Store} {o : E} {x : List Nat} (h1 : denE Γ o ρ S = .ok (.str x) S1) (hx : ∀ c ∈ x, c < 128) (hl : x.length ≤ 1000) : denE Γ (.bm .upper o []) ρ S = .ok (.str (x.map PyProof.Rows.up1)) S1 := by
  have hk : bmK S1 .upper (.str x) = true := rfl
  have ha : (x.all fun c => decide (c < 128)) = true := List.all_eq_true.mpr fun c hc => decide_eq_true (hx c hc)
  have e : bmt S1 .upper (.str x) [] = mCase PyProof.Rows.up1 S1 (.str x) [] := rfl
  rw [d_bm, h1]
  simp only [bind_ok_, hk, if_true, d_nil, e]
  unfold mCase
  simp only [ha, Bool.true_and]
  rw [if_pos (by rw [decide_eq_true_eq]; omega)]
theorem up_lt {x : List Nat} (hx : ∀ c ∈ x, c < 128) : ∀ c ∈ x.map PyProof.Rows.up1, c < 128 := fun c hc => by
  obtain ⟨d, hd, rfl⟩ := List.mem_map.mp hc
  have := hx d hd
  unfold PyProof.Rows.up1
  split <;> omega
theorem pool_ok (d : Nat) (ns : List Int) (hl : ns.length ≤ 63) : GD (d + 3) 14 4 (fun n => [.lst (ns.map PV.int), .ref n]) (fun v => ∃ ws ts, v = poolV ws ts ∧ gpool ws ts) := by
  intro S n k b hb hk
  suffices h : W (K (d + 3) 14 [.lst (ns.map PV.int), .ref n] (X S n k b)) fun v T => ∃ (k' : Nat) (b' : Int) (ws ts fl : List (List Nat)), T = X S n k' b' ++ [.lst (ws.map PV.str), .lst (fl.map PV.str)] ∧ v = .tup [.ref S.length, .lst (ts.map PV.str)] ∧ k ≤ k' ∧ k' ≤ k + 4 ∧ gpool ws ts by
    obtain ⟨v, T, e, k', b', ws, ts, fl, rfl, rfl, h1, h2, h3⟩ := h
    unfold K at e
    refine ⟨poolV ws ts, k', b', ?_, h1, h2, ws, ts, rfl, h3⟩
    rw [e, bind_ok_]
    refine settle_x hb ?_
    have at0 : (X S n k' b' ++ [PV.lst (ws.map PV.str), .lst (fl.map PV.str)])[S.length]? = some (.lst (ws.map PV.str)) := by
      rw [List.getElem?_append_right (by rw [X_len]; omega), X_len]
      simp
    have l1 : FF.low S.length (.lst (ws.map PV.str)) = true := by rw [lw_lst]; exact low_strs _ _
    have l2 : FF.low S.length (.ref S.length) = false := by simp [FF.low]
    have l4 : FF.low S.length (.lst (ts.map PV.str)) = true := by rw [lw_lst]; exact low_strs _ _
    have f1 : frz S.length (X S n k' b' ++ [PV.lst (ws.map PV.str), .lst (fl.map PV.str)]) 7 (.ref S.length) = some (.lst (ws.map PV.str)) := by
      rw [frz_succ, l2]
      simp only [frzN, at0]
      exact frz_v l1
    have l3 : FF.low S.length (.tup [.ref S.length, .lst (ts.map PV.str)]) = false := by simp [l2]
    rw [frz_succ, l3]
    simp only [frzN, mapO, frz_v l4, f1, poolV]
    simp
  refine callW fun_14 rfl ?_
  let Γ := Ge (d + 2)
  refine st_asg (v := .str abc) (S1 := X S n k b) (by simp [abc]) ?_
  let ρ1 : FF.Env := [some (.lst (ns.map PV.int)), some (.ref n), some (.str abc), none, none, none, none, none, none, none, none, none, none, none, none, none]
  show WS (denSs whlL Γ (f__law_pool.drop 1) ρ1 (X S n k b)) _
  obtain ⟨ys, k1, b1, c1, c2, c3, c4⟩ := v_compG (Γ := Γ) (ρ := ρ1) (S := S) (n := n) (S0 := X S n k b) (k := k) (b := b) (t := .one 14) (sk := .val) (es := [(.tup [(.con (.int 2)), (.con (.int 26)), (.con (.int 7)), (.con (.int 8))])]) (e := .call .chg 24 [(.var 0), (.var 1), (.var 14)]) (vs := [.tup ([2, 26, 7, 8].map PV.int)]) (xs := [2, 26, 7, 8]) (cc := 1) (B := Bk) PV.int (fun x v => isI 0 x v) (by
      have o : okI 4 = true := by decide
      simp [o]) (by simp) (by simp; unfold cap; omega) (by simp; exact hk) (fun x hx k b hk => by
    have hx2 : 0 < x := by
      simp at hx
      omega
    refine ⟨_, rfl, gcall (draw_ok d ns x hl hx2) hb hk ?_ rfl⟩
    simp [ρ1])
  obtain ⟨w, f, z, p, rfl, hw, hf, hz, hp⟩ : ∃ w f z p : Int, ys = [.int w, .int f, .int z, .int p] ∧ (0 ≤ w ∧ w < 2) ∧ (0 ≤ f ∧ f < 26) ∧ (0 ≤ z ∧ z < 7) ∧ (0 ≤ p ∧ p < 8) := by
    cases c4 with
    | cons a1 t1 =>
      cases t1 with
      | cons a2 t2 =>
        cases t2 with
        | cons a3 t3 =>
          cases t3 with
          | cons a4 t4 =>
            cases t4
            obtain ⟨w, rfl, hw⟩ := a1
            obtain ⟨f, rfl, hf⟩ := a2
            obtain ⟨z, rfl, hz⟩ := a3
            obtain ⟨p, rfl, hp⟩ := a4
            exact ⟨w, f, z, p, rfl, hw, hf, hz, hp⟩
  have c3' : k1 ≤ k + 4 := by simpa using c3
  refine st_namesL (S1 := X S n k1 b1) (ρ1 := [some (.lst (ns.map PV.int)), some (.ref n), some (.str abc), none, none, none, none, some (.int w), some (.int f), some (.int z), some (.int p), none, none, none, none, none]) c1 rfl ?_
  refine st_asg (v := .tup (toldL.map PV.str)) (S1 := X S n k1 b1) (by
    have o : okI 11 = true := by decide
    simp [toldL, o]) ?_
  refine st_asg (v := .ref S.length) (S1 := X S n k1 b1 ++ [.lst []]) (by simp [X_len]) ?_
  refine st_asg (v := .ref (S.length + 1)) (S1 := X S n k1 b1 ++ [.lst [], .lst []]) (by simp [X_len]) ?_
  let ρ2 : Option PV → Option PV → Option PV → Option PV → FF.Env := fun o6 o11 o12 o13 => [some (.lst (ns.map PV.int)), some (.ref n), some (.str abc), some (.tup (toldL.map PV.str)), some (.ref S.length), some (.ref (S.length + 1)), o6, some (.int w), some (.int f), some (.int z), some (.int p), o11, o12, o13, none, none]
  show WS (denSs whlL Γ _ (ρ2 none none none none) _) _
  let T : List (List Nat) → List (List Nat) → Store := fun ws ts => X S n k1 b1 ++ [.lst (ws.map PV.str), .lst (ts.map PV.str)]
  have at0 : ∀ ws ts, (T ws ts)[S.length]? = some (.lst (ws.map PV.str)) := fun ws ts => by
    show (X S n k1 b1 ++ _)[S.length]? = _
    rw [List.getElem?_append_right (by rw [X_len]; omega), X_len]
    simp
  have at1 : ∀ ws ts, (T ws ts)[S.length + 1]? = some (.lst (ts.map PV.str)) := fun ws ts => by
    show (X S n k1 b1 ++ _)[S.length + 1]? = _
    rw [List.getElem?_append_right (by rw [X_len]; omega), X_len]
    have : S.length + 1 - S.length = 1 := by omega
    rw [this]
    rfl
  have set0 : ∀ ws ts u, (T ws ts).set S.length (.lst (ws.map PV.str ++ [.str u])) = T (ws ++ [u]) ts := fun ws ts u => by
    show (X S n k1 b1 ++ _).set S.length _ = _
    rw [List.set_append_right _ _ (by rw [X_len]; omega), X_len]
    simp [T]
  have set1 : ∀ ws ts u, (T ws ts).set (S.length + 1) (.lst (ts.map PV.str ++ [.str u])) = T ws (ts ++ [u]) := fun ws ts u => by
    show (X S n k1 b1 ++ _).set (S.length + 1) _ = _
    rw [List.set_append_right _ _ (by rw [X_len]; omega), X_len]
    have : S.length + 1 - S.length = 1 := by omega
    rw [this]
    simp [T]
  refine st_for (fun (i : Nat) => PV.int (i : Int)) (fun r ρ T' => ∃ ws ts o6 o11 o12 o13, T' = T ws ts ∧ ρ = ρ2 o6 o11 o12 o13 ∧ ws.length + r.length = 8 ∧ ts.length + r.length = 8 ∧ (∀ w ∈ ws, sh w) ∧ (∀ t ∈ ts, sh t) ∧ ∀ x ∈ r, x < 8) (xs := List.range 8) (vs := [.int 8]) (S1 := X S n k1 b1 ++ [.lst [], .lst []]) rfl (by exact rangeM 8 _ (by omega) (by omega)) ⟨[], [], none, none, none, none, rfl, rfl, by simp, by simp, by simp, by simp, fun x hx => List.mem_range.mp hx⟩ (fun i r ρ T' ⟨ws, ts, o6, o11, o12, o13, hT, hρ, hws, hts, gws, gts, hr⟩ => ?_) fun ρ T' ⟨ws, ts, o6, o11, o12, o13, hT, hρ, hws, hts, gws, gts, hr⟩ => ?_
  · subst hT hρ
    have hi := hr i List.mem_cons_self
    refine ⟨ρ2 (some (.int i)) o11 o12 o13, rfl, ?_⟩
    have hi8 : (i : Int) < 8 := by omega
    have i64 : i < 18446744073709551616 := by omega
    have w64 : w.natAbs < 18446744073709551616 := by omega
    have i3 : (3 * (i : Int)).natAbs < 18446744073709551616 := by omega
    let S' := T ws ts
    have letE : ∀ ρ : FF.Env, ρ[2]? = some (some (.str abc)) → ∀ S' : Store, denE Γ (.var 2) ρ S' = .ok (.str abc) S' := fun ρ h S' => by rw [d_var, h]
    obtain ⟨t, e11, t1, t2⟩ := join_signs (Γ := Γ) (ρ := ρ2 (some (.int i)) o11 o12 o13) (S := S') (iv := 15) (len := (.bin .mod (.bin .add (.var 9) (.bin .mul (.var 6) (.var 7))) (.con (.int 7)))) (ix := (.bin .mod (.bin .add (.bin .add (.var 8) (.bin .mul (.con (.int 5)) (.var 15))) (.bin .mul (.bin .mul (.con (.int 3)) (.var 6)) (.var 7))) (.con (.int 26)))) (n := (z + i * w) % 7) (lv := 2) (lt := abc)
      (by omega) (by omega) (by simp [ρ2, i64]) abc_ok (fun j hj => ⟨(f + 5 * j + 3 * i * w) % 26, by simp [ρ2, w64], by omega, by simp [abc]; omega⟩) rfl (by decide)
    refine st_asg e11 ?_
    have tl6 : t.length ≤ 6 := by omega
    have putE : ∀ (t : List Nat) (o6 o12 o13 : Option PV) (hi : o6 = some (.int i)) (S' : Store), t.length ≤ 7 → (∀ c ∈ t, c < 128) → ∃ u : List Nat, denE Γ (.bin .add (.bin .add (.slc false false true (.var 11) .nev (.var 10)) (.idx (.var 2) (.bin .mod (.bin .add (.var 8) (.bin .mul (.con (.int 3)) (.var 6))) (.con (.int 26))))) (.slc false true false (.var 11) (.var 10) .nev)) (ρ2 o6 (some (.str t)) o12 o13) S' = .ok (.str u) S' ∧ u.length ≤ t.length + 1 ∧ ∀ c ∈ u, c < 128 := by
      intro t o6 o12 o13 hi S' ht ha
      subst hi
      obtain ⟨c, c1, c2⟩ := v_sign (Γ := Γ) (ρ := ρ2 (some (.int i)) (some (.str t)) o12 o13) (S := S') (S1 := S') (S2 := S') (o := .var 2) (ix := (.bin .mod (.bin .add (.var 8) (.bin .mul (.con (.int 3)) (.var 6))) (.con (.int 26)))) (lt := abc) (i := (f + 3 * i) % 26) rfl (by simp [ρ2]) abc_ok (by omega) (by simp [abc]; omega)
      have hh := cut_halves t p hp.1
      refine ⟨_, v_cat (v_cat (v_slcS (S1 := S') (S2 := S') (x := t) (i := p) rfl rfl (by omega)) c1 (by simp only [List.length_cons, List.length_nil]; omega)) (v_slcE (S1 := S') (S2 := S') (x := t) (i := p) rfl rfl (by omega)) (by simp only [List.length_append, List.length_cons, List.length_nil]; omega), ?_, put_lt ha c2⟩
      simp only [List.length_append, List.length_cons, List.length_nil]
      omega
    obtain ⟨u, u1, u2, u3⟩ := putE t (some (.int i)) o12 o13 rfl S' (by omega) t2
    refine st_asg u1 ?_
    have rest : ∀ (u : List Nat) (ss : List Sm), u.length ≤ 15 → (∀ c ∈ u, c < 128) → WS (denSs whlL Γ ([(.expr (.bm .append (.var 4) [(.var 12)])),
        (.asg (.name 11) (.bin .add (.idx (.var 2) (.bin .mod (.bin .add (.var 8) (.bin .mul (.var 6) (.var 7))) (.con (.int 26)))) (.var 11))),
        (.asg (.name 13) (.bin .add (.bin .add (.slc false false true (.var 11) .nev (.var 10)) (.idx (.var 2) (.bin .mod (.bin .add (.var 8) (.bin .mul (.con (.int 3)) (.var 6))) (.con (.int 26))))) (.slc false true false (.var 11) (.var 10) .nev))),
        (.expr (.bm .append (.var 5) [(.ife (.cmp .ne (.var 10) (.con (.int 6))) (.slc false false true (.bin .add (.bm .upper (.slc false false true (.var 13) .nev (.con (.int 1))) []) (.slc false true false (.var 13) (.con (.int 1)) .nev)) .nev (.con (.int 8))) (.idx (.con (.str [65, 66, 67, 68, 69, 70])) (.bin .mod (.bin .add (.var 8) (.var 6)) (.con (.int 6)))))]))])
        (ρ2 (some (.int i)) (some (.str t)) (some (.str u)) o13) S') ⟨fun ρ T' => ∃ ws ts o6 o11 o12 o13, T' = T ws ts ∧ ρ = ρ2 o6 o11 o12 o13 ∧ ws.length + r.length = 8 ∧ ts.length + r.length = 8 ∧ (∀ w ∈ ws, sh w) ∧ (∀ t ∈ ts, sh t) ∧ ∀ x ∈ r, x < 8, fun _ _ => False, fun _ _ => False, fun _ _ => False⟩ := by
      intro u ss hu1 hu2
      have a1 := v_app (Γ := Γ) (ρ := ρ2 (some (.int i)) (some (.str t)) (some (.str u)) o13) (S := T ws ts) (S1 := T ws ts) (i := 4) (m := S.length) (e := .var 12) (v := .str u) rfl (at0 ws ts) rfl (at0 ws ts) (by simp; omega)
      rw [set0] at a1
      refine st_expr a1 ?_
      obtain ⟨c, c1, c2⟩ := v_sign (Γ := Γ) (ρ := ρ2 (some (.int i)) (some (.str t)) (some (.str u)) o13) (S := T (ws ++ [u]) ts) (S1 := T (ws ++ [u]) ts) (S2 := T (ws ++ [u]) ts) (o := .var 2) (ix := (.bin .mod (.bin .add (.var 8) (.bin .mul (.var 6) (.var 7))) (.con (.int 26)))) (lt := abc) (i := (f + i * w) % 26) rfl (by simp [ρ2, i64]) abc_ok (by omega) (by simp [abc]; omega)
      refine st_asg (v_cat c1 (y := t) (S2 := T (ws ++ [u]) ts) rfl (by simp only [List.length_cons, List.length_nil]; omega)) ?_
      have hct : ∀ x ∈ [c] ++ t, x < 128 := lt_app (by simpa using c2) t2
      obtain ⟨g, g1, g2, g3⟩ := putE ([c] ++ t) (some (.int i)) (some (.str u)) o13 rfl (T (ws ++ [u]) ts) (by simp only [List.length_append, List.length_cons, List.length_nil]; omega) hct
      have g2' : g.length ≤ 8 := by simp only [List.length_append, List.length_cons, List.length_nil] at g2; omega
      refine st_asg g1 ?_
      let ρ5 := ρ2 (some (.int i)) (some (.str ([c] ++ t))) (some (.str u)) (some (.str g))
      have vE : ∃ x : List Nat, denE Γ (.ife (.cmp .ne (.var 10) (.con (.int 6))) (.slc false false true (.bin .add (.bm .upper (.slc false false true (.var 13) .nev (.con (.int 1))) []) (.slc false true false (.var 13) (.con (.int 1)) .nev)) .nev (.con (.int 8))) (.idx (.con (.str [65, 66, 67, 68, 69, 70])) (.bin .mod (.bin .add (.var 8) (.var 6)) (.con (.int 6))))) ρ5 (T (ws ++ [u]) ts) = .ok (.str x) (T (ws ++ [u]) ts) ∧ sh x := by
        have cE : denE Γ (.cmp .ne (.var 10) (.con (.int 6))) ρ5 (T (ws ++ [u]) ts) = .ok (.bl (!(p == 6))) (T (ws ++ [u]) ts) := by
          simp [ρ5, ρ2]
        rw [d_ife, cE, bind_ok_]
        by_cases c6 : p = 6
        · have b : (p == 6) = true := by simp [c6]
          rw [b]
          simp only [Bool.not_true, tr_bl]
          obtain ⟨x, x1, x2⟩ := v_sign (Γ := Γ) (ρ := ρ5) (S := T (ws ++ [u]) ts) (S1 := T (ws ++ [u]) ts) (S2 := T (ws ++ [u]) ts) (o := .con (.str [65, 66, 67, 68, 69, 70])) (ix := (.bin .mod (.bin .add (.var 8) (.var 6)) (.con (.int 6)))) (lt := [65, 66, 67, 68, 69, 70]) (i := (f + i) % 6) rfl (by simp [ρ5, ρ2]) (by decide) (by omega) (by simp; omega)
          exact ⟨[x], x1, by simp, by simpa using x2⟩
        · have b : (p == 6) = false := by simp [c6]
          rw [b]
          simp only [Bool.not_false, tr_bl]
          have s1 := v_slcS (Γ := Γ) (ρ := ρ5) (S := T (ws ++ [u]) ts) (S1 := T (ws ++ [u]) ts) (S2 := T (ws ++ [u]) ts) (m := false) (o := .var 13) (a := .con (.int 1)) (x := g) (i := 1) rfl rfl (by omega)
          have s2 := v_slcE (Γ := Γ) (ρ := ρ5) (S := T (ws ++ [u]) ts) (S1 := T (ws ++ [u]) ts) (S2 := T (ws ++ [u]) ts) (m := false) (o := .var 13) (a := .con (.int 1)) (x := g) (i := 1) rfl rfl (by omega)
          have l1 := cut_len g none (some (1 : Int))
          have l2 := cut_len g (some (1 : Int)) none
          have s3 := v_upper s1 (fun c hc => g3 c (cut_sub _ _ _ hc)) (by omega)
          have s4 := v_cat s3 s2 (by simp only [List.length_map]; omega)
          have s5 := v_slcS (m := false) (a := .con (.int 8)) (i := 8) s4 rfl (by simp only [List.length_append, List.length_map]; omega)
          refine ⟨_, s5, ?_, fun c hc => ?_⟩
          · have := cut_len ((cut g none (some 1)).map PyProof.Rows.up1 ++ cut g (some 1) none) none (some (8 : Int))
            simp only [List.length_append, List.length_map] at this
            omega
          · have h := cut_sub _ _ _ hc
            rcases List.mem_append.mp h with h | h
            · exact up_lt (fun c hc => g3 c (cut_sub _ _ _ hc)) c h
            · exact g3 c (cut_sub _ _ _ h)
      obtain ⟨x, x1, x2⟩ := vE
      have a2 := v_app (Γ := Γ) (ρ := ρ5) (S := T (ws ++ [u]) ts) (S1 := T (ws ++ [u]) ts) (i := 5) (m := S.length + 1) rfl (at1 _ _) x1 (at1 _ _) (by simp; omega)
      rw [set1] at a2
      refine st_expr a2 ?_
      simp only [List.length_cons] at hws hts
      refine st_nil ⟨ws ++ [u], ts ++ [x], some (.int i), some (.str ([c] ++ t)), some (.str u), some (.str g), rfl, rfl, by simp; omega, by simp; omega, fun y hy => ?_, fun y hy => ?_, fun y hy => hr y (List.mem_cons_of_mem _ hy)⟩
      · rcases List.mem_append.mp hy with h | h
        · exact gws y h
        · rw [List.mem_singleton.mp h]
          exact ⟨by omega, hu2⟩
      · rcases List.mem_append.mp hy with h | h
        · exact gts y h
        · rw [List.mem_singleton.mp h]
          exact x2
    have fin : ∀ u : List Nat, u.length ≤ 14 → (∀ c ∈ u, c < 128) → ∀ ρ, ρ = ρ2 (some (.int i)) (some (.str t)) (some (.str u)) o13 → ∃ q, testOf Γ (.cmp .isin (.var 12) (.var 3)) ρ (T ws ts) = .ok q (T ws ts) := fun u hu1 hu2 ρ hρ => by
      have tl : fit 1 (.tup (toldL.map PV.str)) = true := by decide
      obtain ⟨q, hq⟩ := vin_some (S := T ws ts) hu2 (n := 1) (by omega) tl
      have hq2 : testOf Γ (.cmp .isin (.var 12) (.var 3)) ρ (T ws ts) = .ok q (T ws ts) := t_of (by
        subst hρ
        rw [d_cmp]
        simp [ρ2, hq])
      exact ⟨q, hq2⟩
    have rest2 : ∀ u : List Nat, u.length ≤ 14 → (∀ c ∈ u, c < 128) → WS (denSs whlL Γ ((.ife (.cmp .isin (.var 12) (.var 3)) [(.asg (.name 12) (.bin .add (.var 12) (.con (.str [113]))))] []) :: [(.expr (.bm .append (.var 4) [(.var 12)])),
        (.asg (.name 11) (.bin .add (.idx (.var 2) (.bin .mod (.bin .add (.var 8) (.bin .mul (.var 6) (.var 7))) (.con (.int 26)))) (.var 11))),
        (.asg (.name 13) (.bin .add (.bin .add (.slc false false true (.var 11) .nev (.var 10)) (.idx (.var 2) (.bin .mod (.bin .add (.var 8) (.bin .mul (.con (.int 3)) (.var 6))) (.con (.int 26))))) (.slc false true false (.var 11) (.var 10) .nev))),
        (.expr (.bm .append (.var 5) [(.ife (.cmp .ne (.var 10) (.con (.int 6))) (.slc false false true (.bin .add (.bm .upper (.slc false false true (.var 13) .nev (.con (.int 1))) []) (.slc false true false (.var 13) (.con (.int 1)) .nev)) .nev (.con (.int 8))) (.idx (.con (.str [65, 66, 67, 68, 69, 70])) (.bin .mod (.bin .add (.var 8) (.var 6)) (.con (.int 6)))))]))])
        (ρ2 (some (.int i)) (some (.str t)) (some (.str u)) o13) S') ⟨fun ρ T' => ∃ ws ts o6 o11 o12 o13, T' = T ws ts ∧ ρ = ρ2 o6 o11 o12 o13 ∧ ws.length + r.length = 8 ∧ ts.length + r.length = 8 ∧ (∀ w ∈ ws, sh w) ∧ (∀ t ∈ ts, sh t) ∧ ∀ x ∈ r, x < 8, fun _ _ => False, fun _ _ => False, fun _ _ => False⟩ := by
      intro u hu1 hu2
      obtain ⟨q, hq⟩ := fin u hu1 hu2 _ rfl
      cases q with
      | true =>
        refine st_ifT hq ?_
        refine st_asg (v_cat (x := u) (y := [113]) (S1 := T ws ts) (S2 := T ws ts) rfl rfl (by simp only [List.length_cons, List.length_nil]; omega)) ?_
        exact rest (u ++ [113]) [] (by simp; omega) (lt_app hu2 (by decide))
      | false =>
        refine st_ifF hq ?_
        exact rest u [] (by omega) hu2
    have conv : ∀ {Po1 : Po} {x : SRes}, WS x ⟨Po1.n, fun _ _ => False, fun _ _ => False, fun _ _ => False⟩ → WS x Po1 := fun h => WS.mono h (fun _ _ z => z) (fun _ _ z => z.elim) (fun _ _ z => z.elim) fun _ _ z => z.elim
    refine conv ?_
    by_cases c7 : p = 7
    · have b : (p == 7) = true := by simp [c7]
      refine st_ifT (S1 := S') (by simp [ρ2, b]) ?_
      obtain ⟨y, y1, _, _, y2⟩ := ix_any (T ws ts) PV.str toldL ((f + i) % 11) (by omega) (by simp [toldL]; omega)
      have yl : y.length ≤ 7 ∧ ∀ c ∈ y, c < 128 := by
        have h : ∀ y ∈ toldL, y.length ≤ 7 ∧ ∀ c ∈ y, c < 128 := by decide
        exact h y y1
      obtain ⟨c, c1, c2⟩ := v_sign (Γ := Γ) (ρ := ρ2 (some (.int i)) (some (.str t)) (some (.str u)) o13) (S := T ws ts) (S1 := T ws ts) (S2 := T ws ts) (o := .var 2) (ix := .var 9) (lt := abc) (i := z) rfl rfl abc_ok (by omega) (by simp [abc]; omega)
      have e1 : denE Γ (.idx (.var 3) (.bin .mod (.bin .add (.var 8) (.var 6)) (.con (.int 11)))) (ρ2 (some (.int i)) (some (.str t)) (some (.str u)) o13) (T ws ts) = .ok (.str y) (T ws ts) := by
        simp [ρ2, y2]
      refine st_asg (v_cat e1 c1 (by simp only [List.length_cons, List.length_nil]; omega)) ?_
      exact rest2 (y ++ [c]) (by simp; omega) (lt_app yl.2 (by simpa using c2))
    · have b : (p == 7) = false := by simp [c7]
      refine st_ifF (S1 := S') (by simp [ρ2, b]) ?_
      exact rest2 u (by omega) u3
  · subst hT hρ
    have v1 : ∀ T' : Store, T' = T ws ts → vslc T' (.ref (S.length + 1)) none (some 6) = some (.lst ((ts.take 6).map PV.str)) := fun T' e => by
      subst e
      unfold vslc
      simp only [vw_ref, at1, Option.getD_some]
      rw [cut_map]
      congr 3
      simp at hts
      unfold cut
      have e1 : HT.sIx ts.length ts.length (some 6) = 6 := by
        unfold HT.sIx
        simp [hts]
      have e2 : HT.sIx ts.length 0 none = 0 := HT.sIx_none _ _
      rw [e1, e2]
      simp
    refine st_ret (v := .tup [.ref S.length, .lst ((ts.take 6).map PV.str)]) (S1 := T ws ts) (by simp [ρ2, v1]) ⟨k1, b1, ws, ts.take 6, ts, rfl, rfl, c2, c3', by simpa using hws, by simp at hts ⊢; omega, gws, fun t ht => gts t (List.mem_of_mem_take ht)⟩
end LK16
set_option Elab.async false
set_option linter.all false
set_option autoImplicit false
set_option maxRecDepth 100000
set_option maxHeartbeats 400000
namespace LK16
open PySem FF L2
/-! ### kinds -/
inductive Kd where
  | num
  | free (n : Int)
  | made (w : List Nat) (ks : List Kd)
abbrev sNum : List Nat := [110, 117, 109, 98, 101, 114]
abbrev sFree : List Nat := [102, 114, 101, 101]
abbrev sMade : List Nat := [109, 97, 100, 101]
abbrev sTruth : List Nat := [116, 114, 117, 116, 104]
mutual
def enc : Kd → PV
  | .num => .tup [.str sNum]
  | .free n => .tup [.str sFree, .int n]
  | .made w ks => .tup [.str sMade, .str w, .tup (encs ks)]
def encs : List Kd → List PV
  | [] => []
  | k :: ks => enc k :: encs ks
end
mutual
/-- a free one is the first or the second -/
def gk : Kd → Prop
  | .num => True
  | .free n => 0 ≤ n ∧ n < 2
  | .made w ks => sh w ∧ ks.length ≤ 2 ∧ gks ks
def gks : List Kd → Prop
  | [] => True
  | k :: ks => gk k ∧ gks ks
end
mutual
def dep : Kd → Nat
  | .num => 1
  | .free _ => 1
  | .made _ ks => 1 + deps ks
def deps : List Kd → Nat
  | [] => 0
  | k :: ks => max (dep k) (deps ks)
end
theorem encs_map : ∀ ks : List Kd, encs ks = ks.map enc
  | [] => rfl
  | k :: ks => by simp [encs, encs_map ks]
theorem gks_iff : ∀ {ks : List Kd}, gks ks ↔ ∀ k ∈ ks, gk k
  | [] => by simp [gks]
  | k :: ks => by simp [gks, gks_iff (ks := ks)]
theorem deps_le {m : Nat} : ∀ {ks : List Kd}, deps ks ≤ m ↔ ∀ k ∈ ks, dep k ≤ m
  | [] => by simp [deps]
  | k :: ks => by
    have e : deps (k :: ks) = max (dep k) (deps ks) := by simp [deps]
    rw [e]
    simp only [List.mem_cons, forall_eq_or_imp, ← deps_le (ks := ks)]
    omega
mutual
theorem low_enc : ∀ (n : Nat) (k : Kd), FF.low n (enc k) = true
  | n, .num => by simp [enc]
  | n, .free m => by simp [enc]
  | n, .made w ks => by simp [enc, lows_encs n ks]
theorem lows_encs : ∀ (n : Nat) (ks : List Kd), lows n (encs ks) = true
  | n, [] => by simp [encs]
  | n, k :: ks => by simp [encs, low_enc n k, lows_encs n ks]
end
/-- a draw, asked for -/
theorem dr (d : Nat) (ns : List Int) (hl : ns.length ≤ 63) {ρ : FF.Env} {S : Store} {n k : Nat} {b : Int} {e : E} {many : Int} (hb : Bs S n) (hk : k + 1 ≤ Bk) (hm : 0 < many) (h0 : ρ[0]? = some (some (.lst (ns.map PV.int)))) (h1 : ρ[1]? = some (some (.ref n))) (he : denE (Ge (d + 2)) e ρ (X S n k b) = .ok (.int many) (X S n k b)) :
    ∃ (i : Int) (k' : Nat) (b' : Int), denE (Ge (d + 2)) (.call .chg 24 [(.var 0), (.var 1), e]) ρ (X S n k b) = .ok (.int i) (X S n k' b') ∧ k ≤ k' ∧ k' ≤ k + 1 ∧ 0 ≤ i ∧ i < many := by
  obtain ⟨v, k', b', e1, h2, h3, i, rfl, h4⟩ := gcall (draw_ok d ns many hl hm) hb hk (es_cons (by rw [d_var, h0]) (es_cons (by rw [d_var, h1]) (es_cons he (d_nil _ _ _)))) (show (Ge (d + 2)).glob 24 = some (.fn 13) from rfl)
  exact ⟨i, k', b', e1, h2, h3, h4⟩
/-- what is told by a run, for its caller -/
theorem GD_of {D f c : Nat} {args : Nat → List PV} {Q : PV → Prop} (low_ : ∀ v, Q v → ∀ m, FF.low m v = true) (h : ∀ (S : Store) (n k : Nat) (b : Int), Bs S n → k + c ≤ Bk → W (callL whlL P D f (args n) (X S n k b)) fun v T => ∃ k' b', T = X S n k' b' ∧ k ≤ k' ∧ k' ≤ k + c ∧ Q v) : GD D f c args Q := by
  intro S n k b hb hk
  obtain ⟨v, T, e, k', b', rfl, h1, h2, h3⟩ := h S n k b hb hk
  exact ⟨v, k', b', by rw [e, bind_ok_]; exact settle_x0 hb (low_ v h3 _), h1, h2, h3⟩
theorem isI_low {lo hi : Int} : ∀ v, isI lo hi v → ∀ m, FF.low m v = true := fun v ⟨i, e, _⟩ m => by rw [e]; simp
theorem number_ok (d : Nat) (ns : List Int) (hl : ns.length ≤ 63) : GD (d + 3) 15 3 (fun n => [.lst (ns.map PV.int), .ref n]) (isI (-999999999) 1000000000) := by
  refine GD_of isI_low fun S n k b hb hk => ?_
  refine callW fun_15 rfl ?_
  obtain ⟨i, k1, b1, e1, a1, a2, a3, a4⟩ := dr d ns hl (ρ := [some (.lst (ns.map PV.int)), some (.ref n), none, none]) (k := k) (b := b) (e := .bin .pow (.con (.int 10)) (.con (.int 9))) (many := 1000000000) hb (by omega) (by omega) rfl rfl rfl
  refine st_asg e1 ?_
  obtain ⟨j, k2, b2, e2, a5, a6, a7, a8⟩ := dr d ns hl (ρ := [some (.lst (ns.map PV.int)), some (.ref n), some (.int i), none]) (k := k1) (b := b1) (e := .con (.int 12)) (many := 12) hb (by omega) (by omega) rfl rfl rfl
  refine st_asg e2 ?_
  let ρ3 : FF.Env := [some (.lst (ns.map PV.int)), some (.ref n), some (.int i), some (.int j)]
  show WS (denSs whlL (Ge (d + 2)) _ ρ3 _) _
  obtain ⟨q, k3, b3, e3, a9, a10, a11, a12⟩ := dr d ns hl (ρ := ρ3) (k := k2) (b := b2) (e := .con (.int 8)) (many := 8) hb (by omega) (by omega) rfl rfl rfl
  let L : List Int := [j, 0 - j, i, 0 - i, 999999999, -999999999, j, 0]
  obtain ⟨r, r1, _, r2, _⟩ := ix_any (X S n k3 b3) PV.int L q a11 (by simp [L]; omega)
  have lE : denE (Ge (d + 2)) (.lst false [(.var 3), (.bin .sub (.con (.int 0)) (.var 3)), (.var 2), (.bin .sub (.con (.int 0)) (.var 2)), (.con (.int 999999999)), (.neg (.con (.int 999999999))), (.var 3), (.con (.int 0))]) ρ3 (X S n k2 b2) = .ok (.lst (L.map PV.int)) (X S n k2 b2) := by
    have o : okI 8 = true := by decide
    simp [ρ3, L, o]
  refine st_ret (v := .int r) (S1 := X S n k3 b3) (by
    rw [d_idx, lE, bind_ok_, e3, bind_ok_, r2]
    rfl) ⟨k3, b3, rfl, by omega, by omega, r, rfl, ?_⟩
  simp only [L, List.mem_cons, List.not_mem_nil, or_false] at r1
  omega
/-- a word or a tag of the pool -/
theorem pickW {Γ : Env2} {ρ : FF.Env} {S0 S1 : Store} {e : E} {i : Int} {ws ts : List (List Nat)} (hp : gpool ws ts) (h2 : ρ[2]? = some (some (poolV ws ts))) (he : denE Γ e ρ S0 = .ok (.int i) S1) (h0 : 0 ≤ i) (h8 : i < 8) : ∃ w, denE Γ (.idx (.idx (.var 2) (.con (.int 0))) e) ρ S0 = .ok (.str w) S1 ∧ sh w := by
  obtain ⟨w, w1, _, w2, _⟩ := ix_any S1 PV.str ws i h0 (by have := hp.1; omega)
  refine ⟨w, ?_, hp.2.2.1 w w1⟩
  rw [d_idx, d_idx, d_var, h2]
  simp [poolV, he, w2]
theorem pickT {Γ : Env2} {ρ : FF.Env} {S0 S1 : Store} {e : E} {i : Int} {ws ts : List (List Nat)} (hp : gpool ws ts) (h2 : ρ[2]? = some (some (poolV ws ts))) (he : denE Γ e ρ S0 = .ok (.int i) S1) (h0 : 0 ≤ i) (h8 : i < 6) : ∃ w, denE Γ (.idx (.idx (.var 2) (.con (.int 1))) e) ρ S0 = .ok (.str w) S1 ∧ sh w := by
  obtain ⟨w, w1, _, w2, _⟩ := ix_any S1 PV.str ts i h0 (by have := hp.2.1; omega)
  refine ⟨w, ?_, hp.2.2.2 w w1⟩
  rw [d_idx, d_idx, d_var, h2]
  simp [poolV, he, w2]
/-! ### kinds are drawn -/
def cK : Nat → Nat
  | 0 => 3
  | f + 1 => 3 + 2 * cK f
def isK (f : Nat) (v : PV) : Prop := ∃ kd, v = enc kd ∧ gk kd ∧ dep kd ≤ f + 1
theorem isK_low {f : Nat} : ∀ v, isK f v → ∀ m, FF.low m v = true := fun v ⟨k, e, _⟩ m => by rw [e]; exact low_enc m k
theorem kind_step (ns : List Int) (hl : ns.length ≤ 63) (ws ts : List (List Nat)) (hp : gpool ws ts) (many : Int) (d c f : Nat) (deep : Int) (IH : 1 < deep → ∃ g, f = g + 1 ∧ GD (d + 2) 16 c (fun n => [.lst (ns.map PV.int), .ref n, poolV ws ts, .int (deep - 1), .int many]) (isK g)) :
    GD (d + 3) 16 (3 + 2 * c) (fun n => [.lst (ns.map PV.int), .ref n, poolV ws ts, .int deep, .int many]) (isK f) := by
  refine GD_of isK_low fun S n k b hb hk => ?_
  refine callW fun_16 rfl ?_
  let Γ := Ge (d + 2)
  let sc : Option PV := some (.lst (ns.map PV.int))
  obtain ⟨way, k1, b1, e1, a1, a2, a3, a4⟩ := dr d ns hl (ρ := [sc, some (.ref n), some (poolV ws ts), some (.int deep), some (.int many), none, none, none, none]) (k := k) (b := b) (e := .con (.int 7)) (many := 7) hb (by omega) (by omega) rfl rfl rfl
  refine st_asg e1 ?_
  let ρ5 : FF.Env := [sc, some (.ref n), some (poolV ws ts), some (.int deep), some (.int many), some (.int way), none, none, none]
  show WS (denSs whlL Γ _ ρ5 _) _
  by_cases cn : 3 < way ∧ 1 < deep
  · obtain ⟨g, rfl, hg⟩ := IH cn.2
    refine st_ifT (S1 := X S n k1 b1) (by simp [ρ5, cn.1, cn.2]) ?_
    obtain ⟨m, k2, b2, e2, a5, a6, a7, a8⟩ := dr d ns hl (ρ := ρ5) (k := k1) (b := b1) (e := .con (.int 3)) (many := 3) hb (by omega) (by omega) rfl rfl rfl
    obtain ⟨ys, k3, b3, q1, q2, q3, q4⟩ := v_compG (Γ := Γ) (ρ := ρ5) (S := S) (n := n) (S0 := X S n k1 b1) (k := k2) (b := b2) (t := .one 8) (sk := .range1) (es := [(.call .chg 24 [(.var 0), (.var 1), (.con (.int 3))])]) (e := .call .chg 27 [(.var 0), (.var 1), (.var 2), (.bin .sub (.var 3) (.con (.int 1))), (.var 4)]) (vs := [.int m]) (xs := List.range m.toNat) (cc := c) (B := k2 + m.toNat * c) (fun (i : Nat) => PV.int (i : Int)) (fun _ v => isK g v) (es_cons e2 (d_nil _ _ _)) (rangeM m _ a7 (by omega)) (by simp; unfold cap; omega) (by simp) (fun x hx k' b' hk' => by
      have hm : m.toNat * c ≤ 2 * c := Nat.mul_le_mul_right _ (by omega)
      refine ⟨_, rfl, gcall hg hb (by omega) ?_ rfl⟩
      simp [ρ5, sc])
    have hm : m.toNat * c ≤ 2 * c := Nat.mul_le_mul_right _ (by omega)
    simp only [List.length_range] at q3
    obtain ⟨kds, rfl, p2⟩ := f2_ex q4
    have kl : kds.length ≤ 2 := by
      have := f2_len p2
      simp at this
      omega
    have kg : ∀ kd ∈ kds, gk kd ∧ dep kd ≤ g + 1 := fun kd h => by
      obtain ⟨_, _, h2⟩ := f2_mem p2 kd h
      exact h2
    refine st_asg q1 ?_
    let ρ7 : FF.Env := [sc, some (.ref n), some (poolV ws ts), some (.int deep), some (.int many), some (.int way), none, some (.lst (kds.map enc)), none]
    show WS (denSs whlL Γ _ ρ7 _) _
    obtain ⟨i, k4, b4, e4, a9, a10, a11, a12⟩ := dr d ns hl (ρ := ρ7) (k := k3) (b := b3) (e := .con (.int 8)) (many := 8) hb (by omega) (by omega) rfl rfl rfl
    obtain ⟨w, w1, w2⟩ := pickW (Γ := Γ) hp (ρ := ρ7) rfl e4 a11 a12
    refine st_ret (v := enc (.made w kds)) (S1 := X S n k4 b4) (by
      rw [d_tup, es_cons (d_con _ _ _ _) (es_cons w1 (es_cons (v := .tup (kds.map enc)) (S1 := X S n k4 b4) (by simp [ρ7]) (d_nil _ _ _)))]
      simp [enc, encs_map]) ⟨k4, b4, rfl, by omega, by omega, .made w kds, rfl, ⟨w2, kl, gks_iff.mpr fun kd h => (kg kd h).1⟩, ?_⟩
    simp only [dep]
    have : deps kds ≤ g + 1 := deps_le.mpr fun kd h => (kg kd h).2
    omega
  · refine st_ifF (S1 := X S n k1 b1) (by
      by_cases c1 : 3 < way
      · have c2 : ¬ 1 < deep := fun h => cn ⟨c1, h⟩
        simp [ρ5, c1, c2]
      · simp [ρ5, c1]) ?_
    let fr : Nat → Kd := fun j => if (j : Int) < many then .free j else .num
    obtain ⟨ys, q1, q2⟩ := v_comp (Γ := Γ) (ρ := ρ5) (S := X S n k1 b1) (t := .one 8) (k := .range1) (es := [(.con (.int 2))]) (e := (.ife (.cmp .lt (.var 8) (.var 4)) (.tup [(.con (.str [102, 114, 101, 101])), (.var 8)]) (.tup [(.con (.str [110, 117, 109, 98, 101, 114]))]))) (vs := [.int 2]) (g := []) (xs := List.range 2) (fun (i : Nat) => PV.int (i : Int)) (fun j v => v = enc (fr j)) rfl (by exact rangeM 2 _ (by omega) (by omega)) rfl (by simp; unfold cap; omega) (fun j hj => by
      refine ⟨_, rfl, W.of (a := enc (fr j)) (S := X S n k1 b1) ?_ ⟨rfl, rfl⟩⟩
      by_cases c1 : (j : Int) < many
      · simp [ρ5, c1, fr, enc]
      · simp [ρ5, c1, fr, enc])
    have q3 := f2_map q2
    subst q3
    have gfr : ∀ j : Nat, j < 2 → gk (fr j) ∧ dep (fr j) = 1 := fun j hj => by
      simp only [fr]
      split
      · exact ⟨⟨by omega, by omega⟩, rfl⟩
      · exact ⟨trivial, rfl⟩
    let L6 : List Kd := [.num, .made sTruth [], fr 0, fr 1]
    refine st_asg (v := .lst (L6.map enc)) (S1 := X S n k1 b1) (v_lcat (S1 := X S n k1 b1) (x := [enc .num, enc (.made sTruth [])]) (by simp [enc, encs]) q1 (by simp)) ?_
    let ρ6 : FF.Env := [sc, some (.ref n), some (poolV ws ts), some (.int deep), some (.int many), some (.int way), some (.lst (L6.map enc)), none, none]
    show WS (denSs whlL Γ _ ρ6 _) _
    obtain ⟨w, w1, w2⟩ := pickW (Γ := Γ) hp (ρ := ρ6) (S0 := X S n k1 b1) (S1 := X S n k1 b1) (e := .var 5) (i := way) rfl rfl a3 (by omega)
    have l1 : denE Γ (.lst false [(.tup [(.con (.str [109, 97, 100, 101])), (.idx (.idx (.var 2) (.con (.int 0))) (.var 5)), (.tup [])])]) ρ6 (X S n k1 b1) = .ok (.lst [enc (.made w [])]) (X S n k1 b1) := by
      have t1 : denE Γ (.tup [(.con (.str [109, 97, 100, 101])), (.idx (.idx (.var 2) (.con (.int 0))) (.var 5)), (.tup [])]) ρ6 (X S n k1 b1) = .ok (enc (.made w [])) (X S n k1 b1) := by
        rw [d_tup, es_cons (d_con _ _ _ _) (es_cons w1 (es_cons (v := .tup []) (S1 := X S n k1 b1) (by simp) (d_nil _ _ _)))]
        simp [enc, encs]
      rw [d_lst, es_cons t1 (d_nil _ _ _)]
      simp
    have l2 := v_lcat (Γ := Γ) (ρ := ρ6) (S := X S n k1 b1) (a := .var 6) (x := L6.map enc) rfl l1 (by simp [L6])
    let L7 : List Kd := L6 ++ [.made w []]
    have l3 : L6.map enc ++ [enc (.made w [])] = L7.map enc := by simp [L7]
    rw [l3] at l2
    obtain ⟨r, r1, _, r2, _⟩ := ix_any (X S n k1 b1) enc L7 (if 4 < way then 4 else way) (by split <;> omega) (by simp [L7, L6]; split <;> omega)
    refine st_ret (v := enc r) (S1 := X S n k1 b1) (by
      rw [d_idx, l2, bind_ok_]
      have m1 : denE Γ (.blt false .min2 [(.var 5), (.con (.int 4))]) ρ6 (X S n k1 b1) = .ok (.int (if 4 < way then 4 else way)) (X S n k1 b1) := by
        simp [ρ6]
      rw [m1, bind_ok_, r2]
      rfl) ⟨k1, b1, rfl, by omega, by omega, r, rfl, ?_⟩
    have all : ∀ r ∈ L7, gk r ∧ dep r = 1 := by
      intro r hr
      simp only [L7, L6, List.mem_append, List.mem_cons, List.not_mem_nil, or_false] at hr
      rcases hr with (rfl | rfl | rfl | rfl) | rfl
      · exact ⟨trivial, rfl⟩
      · exact ⟨⟨⟨by decide, by decide⟩, by simp, trivial⟩, rfl⟩
      · exact gfr 0 (by omega)
      · exact gfr 1 (by omega)
      · exact ⟨⟨w2, by simp, trivial⟩, rfl⟩
    exact ⟨(all r r1).1, by have := (all r r1).2; omega⟩
theorem kind_ok (ns : List Int) (hl : ns.length ≤ 63) (ws ts : List (List Nat)) (hp : gpool ws ts) (many : Int) : ∀ (f d : Nat) (deep : Int), deep ≤ f + 1 → GD (d + f + 3) 16 (cK f) (fun n => [.lst (ns.map PV.int), .ref n, poolV ws ts, .int deep, .int many]) (isK f)
  | 0, d, deep, hd => kind_step ns hl ws ts hp many d 0 0 deep fun h => by omega
  | f + 1, d, deep, hd => by
    have h := kind_step ns hl ws ts hp many (d + f + 1) (cK f) (f + 1) deep fun _ => ⟨f, rfl, by
      have := kind_ok ns hl ws ts hp many f d (deep - 1) (by omega)
      have e : d + f + 1 + 2 = d + f + 3 := by omega
      rw [e]
      exact this⟩
    have e : d + f + 1 + 3 = d + (f + 1) + 3 := by omega
    rw [e] at h
    exact h
end LK16
set_option Elab.async false
set_option linter.all false
set_option autoImplicit false
set_option maxRecDepth 100000
set_option maxHeartbeats 1000000
namespace LK16
open PySem FF L2
theorem GD_of2 {D f c : Nat} {args : Nat → List PV} {Q : PV → Prop} (low_ : ∀ v, Q v → ∀ m, FF.low m v = true) (h : ∀ (S : Store) (n k : Nat) (b : Int), Bs S n → k + c ≤ Bk → W (callL whlL P D f (args n) (X S n k b)) fun v T => ∃ k' b' R, T = X S n k' b' ++ R ∧ k ≤ k' ∧ k' ≤ k + c ∧ Q v) : GD D f c args Q := by
  intro S n k b hb hk
  obtain ⟨v, T, e, k', b', R, rfl, h1, h2, h3⟩ := h S n k b hb hk
  exact ⟨v, k', b', by rw [e, bind_ok_]; exact settle_x hb (frz_v (low_ v h3 _)), h1, h2, h3⟩
theorem tup_at {T : Store} {m : Nat} {x : List PV} (h : T[m]? = some (.lst x)) : bfn T .tuple [.ref m] = some (.tup x, false) := by
  have e : bfn T .tuple [.ref m] = bTuple T [.ref m] := rfl
  rw [e]
  unfold bTuple seqOf
  simp [h]
theorem v_tupR {Γ : Env2} {ρ : FF.Env} {T : Store} {i m : Nat} {x : List PV} (h0 : ρ[i]? = some (some (.ref m))) (h : T[m]? = some (.lst x)) : denE Γ (.blt false .tuple [(.var i)]) ρ T = .ok (.tup x) T := by
  rw [d_blt, es_cons (by rw [d_var, h0]) (d_nil _ _ _), bind_ok_, tup_at h]
section
variable {S : Store} {n k : Nat} {b : Int} {acc : List PV}
theorem X_last (h : Bs S n) : (X (S ++ [.lst acc]) n k b)[S.length]? = some (.lst acc) := by
  rw [← X_push h, List.getElem?_append_right (by rw [X_len]; omega), X_len]
  simp
theorem X_app (h : Bs S n) {x : List PV} : (X (S ++ [.lst acc]) n k b).set S.length (.lst x) = X (S ++ [.lst x]) n k b := by
  rw [← X_push h, ← X_push h, List.set_append_right _ _ (by rw [X_len]; omega), X_len]
  simp
/-- a list beside, one thing more -/
theorem v_appX {Γ : Env2} {ρ : FF.Env} {i k' : Nat} {b' : Int} {e : E} {v : PV} (h : Bs S n) (h0 : ρ[i]? = some (some (.ref S.length))) (h2 : denE Γ e ρ (X (S ++ [.lst acc]) n k b) = .ok v (X (S ++ [.lst acc]) n k' b')) (h4 : acc.length ≤ 100000) : denE Γ (.bm .append (.var i) [e]) ρ (X (S ++ [.lst acc]) n k b) = .ok .non (X (S ++ [.lst (acc ++ [v])]) n k' b') := by
  have h5 := v_app h0 (X_last h) h2 (X_last h) h4
  rw [X_app h] at h5
  exact h5
end
/-! ### declarations -/
abbrev sRecord : List Nat := [114, 101, 99, 111, 114, 100]
abbrev sChoice : List Nat := [99, 104, 111, 105, 99, 101]
inductive Dc where
  | record (w : List Nat) (many : Int) (t : List Nat) (fs : List (List Nat × Kd))
  | choice (w : List Nat) (many : Int) (ts : List (List Nat × List Kd))
def encF (p : List Nat × Kd) : PV := .tup [.str p.1, enc p.2]
def encG (t : List Nat × List Kd) : PV := .tup [.str t.1, .tup (t.2.map enc)]
def encD : Dc → PV
  | .record w many t fs => .tup [.str sRecord, .str w, .int many, .str t, .tup (fs.map encF)]
  | .choice w many ts => .tup [.str sChoice, .str w, .int many, .tup (ts.map encG)]
def gkd (k : Kd) : Prop := gk k ∧ dep k ≤ 3
def gD : Dc → Prop
  | .record w many t fs => sh w ∧ (0 ≤ many ∧ many < 3) ∧ sh t ∧ (1 ≤ fs.length ∧ fs.length ≤ 4) ∧ ∀ p ∈ fs, sh p.1 ∧ gkd p.2
  | .choice w many ts => sh w ∧ (0 ≤ many ∧ many < 3) ∧ (1 ≤ ts.length ∧ ts.length ≤ 3) ∧ ∀ t ∈ ts, sh t.1 ∧ t.2.length ≤ 4 ∧ ∀ k ∈ t.2, gkd k
theorem low_encF (m : Nat) (p : List Nat × Kd) : FF.low m (encF p) = true := by simp [encF, low_enc]
theorem lows_encM (m : Nat) (ks : List Kd) : lows m (ks.map enc) = true := by rw [← encs_map]; exact lows_encs m ks
theorem low_encG (m : Nat) (t : List Nat × List Kd) : FF.low m (encG t) = true := by simp [encG, lows_encM]
theorem low_encD (m : Nat) (d : Dc) : FF.low m (encD d) = true := by
  cases d with
  | record w many t fs =>
    have : lows m (fs.map encF) = true := lows_of fun v hv => by
      obtain ⟨p, _, rfl⟩ := List.mem_map.mp hv
      exact low_encF m p
    simp [encD, this]
  | choice w many ts =>
    have : lows m (ts.map encG) = true := lows_of fun v hv => by
      obtain ⟨p, _, rfl⟩ := List.mem_map.mp hv
      exact low_encG m p
    simp [encD, this]
def isD (v : PV) : Prop := ∃ d, v = encD d ∧ gD d
theorem decl_ok (d : Nat) (ns : List Int) (hl : ns.length ≤ 63) (ws ts : List (List Nat)) (hp : gpool ws ts) : GD (d + 6) 17 300 (fun n => [.lst (ns.map PV.int), .ref n, poolV ws ts]) isD := by
  refine GD_of2 (fun v ⟨x, e, _⟩ m => by rw [e]; exact low_encD m x) fun S n k b hb hk => ?_
  refine callW fun_17 rfl ?_
  let Γ := Ge (d + 5)
  let sc : Option PV := some (.lst (ns.map PV.int))
  have kd : ∀ many : Int, GD (d + 5) 16 21 (fun n => [.lst (ns.map PV.int), .ref n, poolV ws ts, .int 3, .int many]) (isK 2) := fun many => kind_ok ns hl ws ts hp many 2 d 3 (by omega)
  have dr' := @dr (d + 3) ns hl
  obtain ⟨i, k1, b1, e1, a1, a2, a3, a4⟩ := dr' (ρ := [sc, some (.ref n), some (poolV ws ts), none, none, none, none, none, none, none, none]) (k := k) (b := b) (e := .con (.int 8)) (many := 8) hb (by omega) (by omega) rfl rfl rfl
  obtain ⟨w, w1, w2⟩ := pickW (Γ := Γ) hp (ρ := [sc, some (.ref n), some (poolV ws ts), none, none, none, none, none, none, none, none]) rfl e1 a3 a4
  refine st_asg w1 ?_
  obtain ⟨many, k2, b2, e2, a5, a6, a7, a8⟩ := dr' (ρ := [sc, some (.ref n), some (poolV ws ts), some (.str w), none, none, none, none, none, none, none]) (k := k1) (b := b1) (e := .con (.int 3)) (many := 3) hb (by omega) (by omega) rfl rfl rfl
  refine st_asg e2 ?_
  let ρ4 : FF.Env := [sc, some (.ref n), some (poolV ws ts), some (.str w), some (.int many), none, none, none, none, none, none]
  show WS (denSs whlL Γ _ ρ4 _) _
  obtain ⟨z, k3, b3, e3, a9, a10, a11, a12⟩ := dr' (ρ := ρ4) (k := k2) (b := b2) (e := .con (.int 2)) (many := 2) hb (by omega) (by omega) rfl rfl rfl
  have tE : testOf Γ (.cmp .eq (.call .chg 24 [(.var 0), (.var 1), (.con (.int 2))]) (.con (.int 0))) ρ4 (X S n k2 b2) = .ok (z == 0) (X S n k3 b3) := by
    rw [d_test, d_cmp, e3]
    simp
  have hpush : ∀ acc : List PV, (∀ m, lows m acc = true) → Bs (S ++ [.lst acc]) n := fun acc h => hb.push (by rw [lw_lst]; exact h _)
  cases hz : z == 0 with
  | true =>
    rw [hz] at tE
    refine st_ifT tE ?_
    refine st_asg (v := .ref S.length) (S1 := X (S ++ [.lst []]) n k3 b3) (by
      rw [← X_push hb]
      simp [X_len]) ?_
    let ρ7 : Option PV → FF.Env := fun o6 => [sc, some (.ref n), some (poolV ws ts), some (.str w), some (.int many), none, o6, some (.ref S.length), none, none, none]
    show WS (denSs whlL Γ _ (ρ7 none) _) _
    obtain ⟨m, k4, b4, e4, a13, a14, a15, a16⟩ := dr' (ρ := ρ7 none) (k := k3) (b := b3) (e := .con (.int 4)) (many := 4) (hpush [] (by simp)) (by omega) (by omega) rfl rfl rfl
    have e4' : denEs Γ [(.bin .add (.con (.int 1)) (.call .chg 24 [(.var 0), (.var 1), (.con (.int 4))]))] (ρ7 none) (X (S ++ [.lst []]) n k3 b3) = .ok [.int (1 + m)] (X (S ++ [.lst []]) n k4 b4) := by
      refine es_cons ?_ (d_nil _ _ _)
      rw [d_bin, d_con, bind_ok_, e4]
      simp
    refine st_for (fun (i : Nat) => PV.int (i : Int)) (fun r ρ T => ∃ (fs : List (List Nat × Kd)) (o6 : Option PV) (k' : Nat) (b' : Int), T = X (S ++ [.lst (fs.map encF)]) n k' b' ∧ ρ = ρ7 o6 ∧ fs.length + r.length = (1 + m).toNat ∧ k' + 22 * r.length ≤ k4 + 22 * (1 + m).toNat ∧ k3 ≤ k' ∧ ∀ p ∈ fs, sh p.1 ∧ gkd p.2) (xs := List.range (1 + m).toNat) (vs := [.int (1 + m)]) (S1 := X (S ++ [.lst []]) n k4 b4) e4' (by exact rangeM (1 + m) _ (by omega) (by omega)) ⟨[], none, k4, b4, rfl, rfl, by simp, by simp, a13, by simp⟩ (fun x r ρ T ⟨fs, o6, k', b', hT, hρ, hlen, hkk, hk3, hfs⟩ => ?_) fun ρ T ⟨fs, o6, k', b', hT, hρ, hlen, hkk, hk3, hfs⟩ => ?_
    · subst hT hρ
      refine ⟨ρ7 (some (.int x)), rfl, ?_⟩
      simp only [List.length_cons] at hlen hkk
      have hb' := hpush (fs.map encF) (fun m => lows_of fun v hv => by
        obtain ⟨p, _, rfl⟩ := List.mem_map.mp hv
        exact low_encF m p)
      obtain ⟨i, k5, b5, e5, c1, c2, c3, c4⟩ := dr' (ρ := ρ7 (some (.int x))) (k := k') (b := b') (e := .con (.int 8)) (many := 8) hb' (by omega) (by omega) rfl rfl rfl
      obtain ⟨u, u1, u2⟩ := pickW (Γ := Γ) hp (ρ := ρ7 (some (.int x))) rfl e5 c3 c4
      obtain ⟨v, k6, b6, e6, c5, c6, kd1, rfl, c7⟩ := gcall (kd many) hb' (k := k5) (b := b5) (ρ := ρ7 (some (.int x))) (es := [(.var 0), (.var 1), (.var 2), (.con (.int 3)), (.var 4)]) (S0 := X (S ++ [.lst (fs.map encF)]) n k5 b5) (by omega) (es_cons rfl (es_cons rfl (es_cons rfl (es_cons rfl (es_cons rfl (d_nil _ _ _)))))) (show (Ge (d + 5)).glob 27 = some (.fn 16) from rfl)
      have tupE : denE Γ (.tup [(.idx (.idx (.var 2) (.con (.int 0))) (.call .chg 24 [(.var 0), (.var 1), (.con (.int 8))])), (.call .chg 27 [(.var 0), (.var 1), (.var 2), (.con (.int 3)), (.var 4)])]) (ρ7 (some (.int x))) (X (S ++ [.lst (fs.map encF)]) n k' b') = .ok (encF (u, kd1)) (X (S ++ [.lst (fs.map encF)]) n k6 b6) := by
        rw [d_tup, es_cons u1 (es_cons e6 (d_nil _ _ _))]
        simp [encF]
      refine st_expr (v_appX hb rfl tupE (by simp; omega)) ?_
      refine st_nil ⟨fs ++ [(u, kd1)], some (.int x), k6, b6, by simp, rfl, by simp; omega, by omega, by omega, fun p hp' => ?_⟩
      rcases List.mem_append.mp hp' with h | h
      · exact hfs p h
      · rw [List.mem_singleton.mp h]
        exact ⟨u2, c7⟩
    · subst hT hρ
      have hb' := hpush (fs.map encF) (fun m => lows_of fun v hv => by
        obtain ⟨p, _, rfl⟩ := List.mem_map.mp hv
        exact low_encF m p)
      simp at hlen hkk
      obtain ⟨i, k5, b5, e5, c1, c2, c3, c4⟩ := dr' (ρ := ρ7 o6) (k := k') (b := b') (e := .con (.int 6)) (many := 6) hb' (by omega) (by omega) rfl rfl rfl
      obtain ⟨u, u1, u2⟩ := pickT (Γ := Γ) hp (ρ := ρ7 o6) rfl e5 c3 c4
      have tE := v_tupR (Γ := Γ) (ρ := ρ7 o6) (i := 7) rfl (X_last (k := k5) (b := b5) (acc := fs.map encF) hb)
      refine st_ret (v := encD (.record w many u fs)) (S1 := X (S ++ [.lst (fs.map encF)]) n k5 b5) (by
        rw [d_tup, es_cons (d_con _ _ _ _) (es_cons (v := .str w) rfl (es_cons (v := .int many) rfl (es_cons u1 (es_cons tE (d_nil _ _ _)))))]
        have o : okI 5 = true := by decide
        simp [encD, o]) ⟨k5, b5, [.lst (fs.map encF)], (X_push hb _).symm, by omega, by omega, .record w many u fs, rfl, w2, ⟨a7, a8⟩, u2, ⟨by omega, by omega⟩, hfs⟩
  | false =>
    rw [hz] at tE
    refine st_ifF tE ?_
    refine st_asg (v := .ref S.length) (S1 := X (S ++ [.lst []]) n k3 b3) (by
      rw [← X_push hb]
      simp [X_len]) ?_
    let ρ7 : Option PV → Option PV → Option PV → FF.Env := fun o6 o8 o9 => [sc, some (.ref n), some (poolV ws ts), some (.str w), some (.int many), some (.ref S.length), o6, none, o8, o9, none]
    show WS (denSs whlL Γ _ (ρ7 none none none) _) _
    have mulE : ∀ (ρ : FF.Env) (S : Store) (k : Nat) (b : Int) (m1 : Int), Bs S n → k + 2 ≤ Bk → 0 < m1 → m1 < 100 → ρ[0]? = some sc → ρ[1]? = some (some (.ref n)) → ∃ (i : Int) (k' : Nat) (b' : Int), denE Γ (.bin .mul (.call .chg 24 [(.var 0), (.var 1), (.con (.int m1))]) (.call .chg 24 [(.var 0), (.var 1), (.con (.int 2))])) ρ (X S n k b) = .ok (.int i) (X S n k' b') ∧ k ≤ k' ∧ k' ≤ k + 2 ∧ 0 ≤ i ∧ i < m1 := by
      intro ρ S k b m1 hb hk h0 h100 r0 r1
      obtain ⟨i, k5, b5, e5, c1, c2, c3, c4⟩ := dr' (ρ := ρ) (k := k) (b := b) (e := .con (.int m1)) (many := m1) hb (by omega) h0 r0 r1 rfl
      obtain ⟨j, k6, b6, e6, c5, c6, c7, c8⟩ := dr' (ρ := ρ) (k := k5) (b := b5) (e := .con (.int 2)) (many := 2) hb (by omega) (by omega) r0 r1 rfl
      have hj : j = 0 ∨ j = 1 := by omega
      have i64 : i.natAbs < 18446744073709551616 := by omega
      refine ⟨i * j, k6, b6, ?_, by omega, by omega, ?_, ?_⟩
      · rw [d_bin, e5, bind_ok_, e6]
        simp [i64]
      · rcases hj with rfl | rfl <;> omega
      · rcases hj with rfl | rfl <;> omega
    obtain ⟨m, k4, b4, e4, a13, a14, a15, a16⟩ := mulE (ρ7 none none none) (S ++ [.lst []]) k3 b3 3 (hpush [] (by simp)) (by omega) (by omega) (by omega) rfl rfl
    have e4' : denEs Γ [(.bin .add (.con (.int 1)) (.bin .mul (.call .chg 24 [(.var 0), (.var 1), (.con (.int 3))]) (.call .chg 24 [(.var 0), (.var 1), (.con (.int 2))])))] (ρ7 none none none) (X (S ++ [.lst []]) n k3 b3) = .ok [.int (1 + m)] (X (S ++ [.lst []]) n k4 b4) := by
      refine es_cons ?_ (d_nil _ _ _)
      rw [d_bin, d_con, bind_ok_, e4]
      simp
    refine st_for (fun (i : Nat) => PV.int (i : Int)) (fun r ρ T => ∃ (fs : List (List Nat × List Kd)) (o6 o8 o9 : Option PV) (k' : Nat) (b' : Int), T = X (S ++ [.lst (fs.map encG)]) n k' b' ∧ ρ = ρ7 o6 o8 o9 ∧ fs.length + r.length = (1 + m).toNat ∧ k' + 87 * r.length ≤ k4 + 87 * (1 + m).toNat ∧ k3 ≤ k' ∧ ∀ t ∈ fs, sh t.1 ∧ t.2.length ≤ 4 ∧ ∀ k ∈ t.2, gkd k) (xs := List.range (1 + m).toNat) (vs := [.int (1 + m)]) (S1 := X (S ++ [.lst []]) n k4 b4) e4' (by exact rangeM (1 + m) _ (by omega) (by omega)) ⟨[], none, none, none, k4, b4, rfl, rfl, by simp, by simp, a13, by simp⟩ (fun x r ρ T ⟨fs, o6, o8, o9, k', b', hT, hρ, hlen, hkk, hk3, hfs⟩ => ?_) fun ρ T ⟨fs, o6, o8, o9, k', b', hT, hρ, hlen, hkk, hk3, hfs⟩ => ?_
    · subst hT hρ
      refine ⟨ρ7 (some (.int x)) o8 o9, rfl, ?_⟩
      simp only [List.length_cons] at hlen hkk
      have hb' := hpush (fs.map encG) (fun m => lows_of fun v hv => by
        obtain ⟨p, _, rfl⟩ := List.mem_map.mp hv
        exact low_encG m p)
      obtain ⟨z2, k5, b5, e5, c1, c2, c3, c4⟩ := mulE (ρ7 (some (.int x)) o8 o9) (S ++ [.lst (fs.map encG)]) k' b' 5 hb' (by omega) (by omega) (by omega) rfl rfl
      refine st_asg e5 ?_
      let ρ8 := ρ7 (some (.int x)) (some (.int z2)) o9
      obtain ⟨ys, k6, b6, q1, q2, q3, q4⟩ := v_compG (Γ := Γ) (ρ := ρ8) (S := S ++ [.lst (fs.map encG)]) (n := n) (S0 := X (S ++ [.lst (fs.map encG)]) n k5 b5) (k := k5) (b := b5) (t := .one 10) (sk := .range1) (es := [(.var 8)]) (e := .call .chg 27 [(.var 0), (.var 1), (.var 2), (.con (.int 3)), (.var 4)]) (vs := [.int z2]) (xs := List.range z2.toNat) (cc := 21) (B := k5 + z2.toNat * 21) (fun (i : Nat) => PV.int (i : Int)) (fun _ v => isK 2 v) rfl (rangeM z2 _ c3 (by omega)) (by simp; unfold cap; omega) (by simp) (fun x hx k' b' hk' =>
        ⟨_, rfl, gcall (kd many) hb' (by omega) (es_cons rfl (es_cons rfl (es_cons rfl (es_cons rfl (es_cons rfl (d_nil _ _ _)))))) rfl⟩)
      simp only [List.length_range] at q3
      obtain ⟨kds, rfl, p2⟩ := f2_ex q4
      have kl : kds.length ≤ 4 := by
        have := f2_len p2
        simp at this
        omega
      refine st_asg q1 ?_
      let ρ9 := ρ7 (some (.int x)) (some (.int z2)) (some (.lst (kds.map enc)))
      obtain ⟨i, k7, b7, e7, c9, c10, c11, c12⟩ := dr' (ρ := ρ9) (k := k6) (b := b6) (e := .con (.int 6)) (many := 6) hb' (by omega) (by omega) rfl rfl rfl
      obtain ⟨u, u1, u2⟩ := pickT (Γ := Γ) hp (ρ := ρ9) rfl e7 c11 c12
      have tupE : denE Γ (.tup [(.idx (.idx (.var 2) (.con (.int 1))) (.call .chg 24 [(.var 0), (.var 1), (.con (.int 6))])), (.blt false .tuple [(.var 9)])]) ρ9 (X (S ++ [.lst (fs.map encG)]) n k6 b6) = .ok (encG (u, kds)) (X (S ++ [.lst (fs.map encG)]) n k7 b7) := by
        rw [d_tup, es_cons u1 (es_cons (v := .tup (kds.map enc)) (S1 := X (S ++ [.lst (fs.map encG)]) n k7 b7) (by simp [ρ9, ρ7]) (d_nil _ _ _))]
        simp [encG]
      refine st_expr (v_appX hb rfl tupE (by simp; omega)) ?_
      refine st_nil ⟨fs ++ [(u, kds)], some (.int x), some (.int z2), some (.lst (kds.map enc)), k7, b7, by simp, rfl, by simp; omega, by omega, by omega, fun p hp' => ?_⟩
      rcases List.mem_append.mp hp' with h | h
      · exact hfs p h
      · rw [List.mem_singleton.mp h]
        exact ⟨u2, kl, fun kd h => by
          obtain ⟨_, _, h2⟩ := f2_mem p2 kd h
          exact h2⟩
    · subst hT hρ
      simp at hlen hkk
      have tE := v_tupR (Γ := Γ) (ρ := ρ7 o6 o8 o9) (i := 5) rfl (X_last (k := k') (b := b') (acc := fs.map encG) hb)
      refine st_ret (v := encD (.choice w many fs)) (S1 := X (S ++ [.lst (fs.map encG)]) n k' b') (by
        rw [d_tup, es_cons (d_con _ _ _ _) (es_cons (v := .str w) rfl (es_cons (v := .int many) rfl (es_cons tE (d_nil _ _ _))))]
        have o : okI 4 = true := by decide
        simp [encD, o]) ⟨k', b', [.lst (fs.map encG)], (X_push hb _).symm, by omega, by omega, .choice w many fs, rfl, w2, ⟨a7, a8⟩, ⟨by omega, by omega⟩, hfs⟩
end LK16
set_option Elab.async false
set_option linter.all false
set_option autoImplicit false
set_option maxRecDepth 100000
set_option maxHeartbeats 1000000
namespace LK16
open PySem FF L2
/-! ### shapes -/
inductive Sh where
  | any
  | word (w : List Nat)
  | span (lo hi : Int)
  | made (t : List Nat) (ps : List Sh)
  | either (a b : Sh)
  | also (p : Sh) (w : List Nat)
abbrev sAny : List Nat := [97, 110, 121]
abbrev sWord : List Nat := [119, 111, 114, 100]
abbrev sSpan : List Nat := [115, 112, 97, 110]
abbrev sEither : List Nat := [101, 105, 116, 104, 101, 114]
abbrev sAlso : List Nat := [97, 108, 115, 111]
mutual
def encS : Sh → PV
  | .any => .tup [.str sAny]
  | .word w => .tup [.str sWord, .str w]
  | .span lo hi => .tup [.str sSpan, .int lo, .int hi]
  | .made t ps => .tup [.str sMade, .str t, .tup (encSs ps)]
  | .either a b => .tup [.str sEither, encS a, encS b]
  | .also p w => .tup [.str sAlso, encS p, .str w]
def encSs : List Sh → List PV
  | [] => []
  | s :: ss => encS s :: encSs ss
end
def gn (i : Int) : Prop := -999999999 ≤ i ∧ i ≤ 999999999
mutual
def gS : Sh → Prop
  | .any => True
  | .word w => sh w
  | .span lo hi => gn lo ∧ gn hi
  | .made t ps => sh t ∧ ps.length ≤ 4 ∧ gSs ps
  | .either a b => gS a ∧ gS b
  | .also p w => gS p ∧ sh w
def gSs : List Sh → Prop
  | [] => True
  | s :: ss => gS s ∧ gSs ss
end
mutual
/-- how many shapes there are in it -/
def nod : Sh → Nat
  | .any => 1
  | .word _ => 1
  | .span _ _ => 1
  | .made _ ps => 1 + nods ps
  | .either a b => 1 + nod a + nod b
  | .also p _ => 1 + nod p
def nods : List Sh → Nat
  | [] => 0
  | s :: ss => nod s + nods ss
end
mutual
/-- how deep it is -/
def dpS : Sh → Nat
  | .any => 1
  | .word _ => 1
  | .span _ _ => 1
  | .made _ ps => 1 + dpSs ps
  | .either a b => 1 + max (dpS a) (dpS b)
  | .also p _ => 1 + dpS p
def dpSs : List Sh → Nat
  | [] => 0
  | s :: ss => max (dpS s) (dpSs ss)
end
theorem encSs_map : ∀ ss : List Sh, encSs ss = ss.map encS
  | [] => rfl
  | s :: ss => by simp [encSs, encSs_map ss]
theorem gSs_iff : ∀ {ss : List Sh}, gSs ss ↔ ∀ s ∈ ss, gS s
  | [] => by simp [gSs]
  | s :: ss => by simp [gSs, gSs_iff (ss := ss)]
theorem dpSs_le {m : Nat} : ∀ {ss : List Sh}, dpSs ss ≤ m ↔ ∀ s ∈ ss, dpS s ≤ m
  | [] => by simp [dpSs]
  | s :: ss => by
    have e : dpSs (s :: ss) = max (dpS s) (dpSs ss) := by simp [dpSs]
    rw [e]
    simp only [List.mem_cons, forall_eq_or_imp, ← dpSs_le (ss := ss)]
    omega
theorem nods_le {m : Nat} : ∀ {ss : List Sh}, (∀ s ∈ ss, nod s ≤ m) → nods ss ≤ ss.length * m
  | [], _ => by simp [nods]
  | s :: ss, h => by
    have h1 := h s List.mem_cons_self
    have h2 := nods_le fun x hx => h x (List.mem_cons_of_mem _ hx)
    simp only [nods, List.length_cons, Nat.add_mul, Nat.one_mul]
    omega
mutual
theorem low_encS : ∀ (n : Nat) (s : Sh), FF.low n (encS s) = true
  | n, .any => by simp [encS]
  | n, .word w => by simp [encS]
  | n, .span lo hi => by simp [encS]
  | n, .made t ps => by simp [encS, lows_encSs n ps]
  | n, .either a b => by simp [encS, low_encS n a, low_encS n b]
  | n, .also p w => by simp [encS, low_encS n p]
theorem lows_encSs : ∀ (n : Nat) (ss : List Sh), lows n (encSs ss) = true
  | n, [] => by simp [encSs]
  | n, s :: ss => by simp [encSs, low_encS n s, lows_encSs n ss]
end
theorem set_encS (S : Store) (s : Sh) : FF.settle .val S (encS s) S = .ok (encS s) S := settle_v (low_encS _ s)
def cS : Nat → Nat
  | 0 => 10
  | f + 1 => 10 + 3 * cS f
def nS : Nat → Nat
  | 0 => 1
  | f + 1 => 1 + 3 * nS f
theorem nS_pos : ∀ f, 1 ≤ nS f
  | 0 => Nat.le_refl _
  | f + 1 => by simp only [nS]; omega
def isS (f : Nat) (v : PV) : Prop := ∃ s, v = encS s ∧ gS s ∧ dpS s ≤ f + 1 ∧ nod s ≤ nS f
theorem isS_low {f : Nat} : ∀ v, isS f v → ∀ m, FF.low m v = true := fun v ⟨k, e, _⟩ m => by rw [e]; exact low_encS m k
theorem shape_step (ns : List Int) (hl : ns.length ≤ 63) (ws ts : List (List Nat)) (hp : gpool ws ts) (d c f : Nat) (deep : Int) (IH : 1 < deep → ∃ g, f = g + 1 ∧ GD (d + 3) 18 c (fun n => [.lst (ns.map PV.int), .ref n, poolV ws ts, .int (deep - 1)]) (isS g)) :
    GD (d + 4) 18 (10 + 3 * c) (fun n => [.lst (ns.map PV.int), .ref n, poolV ws ts, .int deep]) (isS f) := by
  refine GD_of isS_low fun S n k b hb hk => ?_
  refine callW fun_18 rfl ?_
  let Γ := Ge (d + 3)
  let sc : Option PV := some (.lst (ns.map PV.int))
  have dr' := @dr (d + 1) ns hl
  obtain ⟨way, k1, b1, e1, a1, a2, a3, a4⟩ := dr' (ρ := [sc, some (.ref n), some (poolV ws ts), some (.int deep), none, none, none, none, none, none, none, none]) (k := k) (b := b) (e := .con (.int 8)) (many := 8) hb (by omega) (by omega) rfl rfl rfl
  refine st_asg e1 ?_
  let ρ4 : Int → FF.Env := fun way => [sc, some (.ref n), some (poolV ws ts), some (.int deep), some (.int way), none, none, none, none, none, none, none]
  have pos := nS_pos f
  have leaf : ∀ {v : PV} {T : Store} (s : Sh) (k' : Nat) (b' : Int), v = encS s → T = X S n k' b' → k ≤ k' → k' ≤ k + (10 + 3 * c) → gS s → dpS s = 1 → nod s = 1 → ∃ k' b', T = X S n k' b' ∧ k ≤ k' ∧ k' ≤ k + (10 + 3 * c) ∧ isS f v := fun s k' b' h1 h2 h3 h4 h5 h6 h7 => ⟨k', b', h2, h3, h4, s, h1, h5, by omega, by omega⟩
  have main : ∀ way : Int, 0 ≤ way → way < 8 → (4 ≤ way → 1 < deep) → WS (denSs whlL Γ (f__law_shape.drop 2) (ρ4 way) (X S n k1 b1)) ⟨fun _ T => ∃ k' b', T = X S n k' b' ∧ k ≤ k' ∧ k' ≤ k + (10 + 3 * c) ∧ isS f .non, fun v T => ∃ k' b', T = X S n k' b' ∧ k ≤ k' ∧ k' ≤ k + (10 + 3 * c) ∧ isS f v, fun _ _ => False, fun _ _ => False⟩ := by
    intro way w0 w8 wd
    by_cases c0 : way = 0
    · have e : (way == 0) = true := by simp [c0]
      refine st_ifT (S1 := X S n k1 b1) (by simp [ρ4, e]) ?_
      exact st_ret (v := encS .any) (S1 := X S n k1 b1) (by simp [encS]) (leaf .any k1 b1 rfl rfl (by omega) (by omega) trivial rfl rfl)
    have e : (way == 0) = false := by simp [c0]
    refine st_ifF (S1 := X S n k1 b1) (by simp [ρ4, e]) ?_
    by_cases c1 : way = 1
    · have e : (way == 1) = true := by simp [c1]
      refine st_ifT (S1 := X S n k1 b1) (by simp [ρ4, e]) ?_
      obtain ⟨i, k2, b2, e2, a5, a6, a7, a8⟩ := dr' (ρ := ρ4 way) (k := k1) (b := b1) (e := .con (.int 8)) (many := 8) hb (by omega) (by omega) rfl rfl rfl
      obtain ⟨w, w1, w2⟩ := pickW (Γ := Γ) hp (ρ := ρ4 way) rfl e2 a7 a8
      exact st_ret (v := encS (.word w)) (S1 := X S n k2 b2) (by
        rw [d_tup, es_cons (d_con _ _ _ _) (es_cons w1 (d_nil _ _ _))]
        simp [encS]) (leaf (.word w) k2 b2 rfl rfl (by omega) (by omega) w2 rfl rfl)
    have e : (way == 1) = false := by simp [c1]
    refine st_ifF (S1 := X S n k1 b1) (by simp [ρ4, e]) ?_
    by_cases c2 : way = 2
    · have e : (way == 2) = true := by simp [c2]
      refine st_ifT (S1 := X S n k1 b1) (by simp [ρ4, e]) ?_
      obtain ⟨ys, k2, b2, q1, q2, q3, q4⟩ := v_compG (Γ := Γ) (ρ := ρ4 way) (S := S) (n := n) (S0 := X S n k1 b1) (k := k1) (b := b1) (t := .one 11) (sk := .range1) (es := [(.con (.int 2))]) (e := .call .chg 26 [(.var 0), (.var 1)]) (vs := [.int 2]) (xs := List.range 2) (cc := 3) (B := k1 + 6) (fun (i : Nat) => PV.int (i : Int)) (fun _ v => isI (-999999999) 1000000000 v) rfl (by exact rangeM 2 _ (by omega) (by omega)) (by simp; unfold cap; omega) (by simp) (fun x hx k' b' hk' => ⟨_, rfl, gcall (number_ok d ns hl) hb (by omega) (es_cons rfl (es_cons rfl (d_nil _ _ _))) rfl⟩)
      obtain ⟨one, other, rfl, ho, ho2⟩ : ∃ one other : Int, ys = [.int one, .int other] ∧ gn one ∧ gn other := by
        cases q4 with
        | cons a1 t1 =>
          cases t1 with
          | cons a2 t2 =>
            cases t2
            obtain ⟨i, rfl, hi⟩ := a1
            obtain ⟨j, rfl, hj⟩ := a2
            exact ⟨i, j, rfl, ⟨hi.1, by omega⟩, ⟨hj.1, by omega⟩⟩
      simp at q3
      refine st_namesL q1 rfl ?_
      let ρ6 : Option PV → FF.Env := fun o6 => [sc, some (.ref n), some (poolV ws ts), some (.int deep), some (.int way), some (.int one), o6, none, some (.int other), none, none, none]
      show WS (denSs whlL Γ _ (ρ6 none) _) _
      let L : List (Int × Int) := [(one, one), (one, other), (-999999999, one), (one, 999999999), (-999999999, 999999999)]
      refine st_asg (v := .lst (L.map fun p => PV.tup [.int p.1, .int p.2])) (S1 := X S n k2 b2) (by
        have o : okI 5 = true := by decide
        simp [ρ6, L, o]) ?_
      obtain ⟨q, k3, b3, e3, a9, a10, a11, a12⟩ := dr' (ρ := ρ6 (some (.lst (L.map fun p => PV.tup [.int p.1, .int p.2])))) (k := k2) (b := b2) (e := .con (.int 5)) (many := 5) hb (by omega) (by omega) rfl rfl rfl
      obtain ⟨r, r1, _, r2, _⟩ := ix_any (X S n k3 b3) (fun p : Int × Int => PV.tup [.int p.1, .int p.2]) L q a11 (by simp [L]; omega)
      have e4 : denE Γ (.idx (.var 6) (.call .chg 24 [(.var 0), (.var 1), (.con (.int 5))])) (ρ6 (some (.lst (L.map fun p => PV.tup [.int p.1, .int p.2])))) (X S n k2 b2) = .ok (.tup [.int r.1, .int r.2]) (X S n k3 b3) := by
        have e0 : denE Γ (.var 6) (ρ6 (some (.lst (L.map fun p => PV.tup [.int p.1, .int p.2])))) (X S n k2 b2) = .ok (.lst (L.map fun p => PV.tup [.int p.1, .int p.2])) (X S n k2 b2) := rfl
        rw [d_idx, e0, bind_ok_, e3, bind_ok_, r2]
        rfl
      refine st_names e4 rfl ?_
      have gr : gn r.1 ∧ gn r.2 := by
        have h : ∀ r ∈ L, gn r.1 ∧ gn r.2 := by
          intro r hr
          unfold gn at *
          simp only [L, List.mem_cons, List.not_mem_nil, or_false] at hr
          rcases hr with rfl | rfl | rfl | rfl | rfl <;> exact ⟨⟨by omega, by omega⟩, by omega, by omega⟩
        exact h r r1
      exact st_ret (v := encS (.span r.1 r.2)) (S1 := X S n k3 b3) (by simp [ρ6, encS]) (leaf (.span r.1 r.2) k3 b3 rfl rfl (by omega) (by omega) gr rfl rfl)
    have e : (way == 2) = false := by simp [c2]
    refine st_ifF (S1 := X S n k1 b1) (by simp [ρ4, e]) ?_
    by_cases c3 : way = 3
    · have e : (way == 3) = true := by simp [c3]
      refine st_ifT (S1 := X S n k1 b1) (by simp [ρ4, e]) ?_
      obtain ⟨i, k2, b2, e2, a5, a6, a7, a8⟩ := dr' (ρ := ρ4 way) (k := k1) (b := b1) (e := .con (.int 6)) (many := 6) hb (by omega) (by omega) rfl rfl rfl
      obtain ⟨w, w1, w2⟩ := pickT (Γ := Γ) hp (ρ := ρ4 way) rfl e2 a7 a8
      exact st_ret (v := encS (.made w [])) (S1 := X S n k2 b2) (by
        rw [d_tup, es_cons (d_con _ _ _ _) (es_cons w1 (es_cons (v := .tup []) (S1 := X S n k2 b2) (by simp) (d_nil _ _ _)))]
        simp [encS, encSs]) (leaf (.made w []) k2 b2 rfl rfl (by omega) (by omega) ⟨w2, by simp, trivial⟩ rfl rfl)
    have e : (way == 3) = false := by simp [c3]
    refine st_ifF (S1 := X S n k1 b1) (by simp [ρ4, e]) ?_
    obtain ⟨g, rfl, hg⟩ := IH (wd (by omega))
    simp only [nS] at pos
    by_cases c5 : way < 6
    · refine st_ifT (S1 := X S n k1 b1) (by simp [ρ4, c5]) ?_
      obtain ⟨m, k2, b2, e2, a5, a6, a7, a8⟩ := dr' (ρ := ρ4 way) (k := k1) (b := b1) (e := .con (.int 3)) (many := 3) hb (by omega) (by omega) rfl rfl rfl
      have e2' : denEs Γ [(.bin .add (.con (.int 1)) (.call .chg 24 [(.var 0), (.var 1), (.con (.int 3))]))] (ρ4 way) (X S n k1 b1) = .ok [.int (1 + m)] (X S n k2 b2) := by
        refine es_cons ?_ (d_nil _ _ _)
        rw [d_bin, d_con, bind_ok_, e2]
        simp
      have hm : (1 + m).toNat * c ≤ 3 * c := Nat.mul_le_mul_right _ (by omega)
      obtain ⟨ys, k3, b3, q1, q2, q3, q4⟩ := v_compG (Γ := Γ) (ρ := ρ4 way) (S := S) (n := n) (S0 := X S n k1 b1) (k := k2) (b := b2) (t := .one 11) (sk := .range1) (es := [(.bin .add (.con (.int 1)) (.call .chg 24 [(.var 0), (.var 1), (.con (.int 3))]))]) (e := .call .chg 29 [(.var 0), (.var 1), (.var 2), (.bin .sub (.var 3) (.con (.int 1)))]) (vs := [.int (1 + m)]) (xs := List.range (1 + m).toNat) (cc := c) (B := k2 + (1 + m).toNat * c) (fun (i : Nat) => PV.int (i : Int)) (fun _ v => isS g v) e2' (rangeM (1 + m) _ (by omega) (by omega)) (by simp; unfold cap; omega) (by simp) (fun x hx k' b' hk' =>
        ⟨_, rfl, gcall hg hb (by omega) (es_cons rfl (es_cons rfl (es_cons rfl (es_cons rfl (d_nil _ _ _))))) rfl⟩)
      simp only [List.length_range] at q3
      obtain ⟨ss, rfl, p2⟩ := f2_ex q4
      have sl : ss.length ≤ 3 := by
        have := f2_len p2
        simp at this
        omega
      have sg : ∀ s ∈ ss, gS s ∧ dpS s ≤ g + 1 ∧ nod s ≤ nS g := fun s h => by
        obtain ⟨_, _, h2⟩ := f2_mem p2 s h
        exact h2
      refine st_asg q1 ?_
      let ρ7 : FF.Env := [sc, some (.ref n), some (poolV ws ts), some (.int deep), some (.int way), none, none, some (.lst (ss.map encS)), none, none, none, none]
      show WS (denSs whlL Γ _ ρ7 _) _
      obtain ⟨i, k4, b4, e4, a9, a10, a11, a12⟩ := dr' (ρ := ρ7) (k := k3) (b := b3) (e := .con (.int 6)) (many := 6) hb (by omega) (by omega) rfl rfl rfl
      obtain ⟨w, w1, w2⟩ := pickT (Γ := Γ) hp (ρ := ρ7) rfl e4 a11 a12
      refine st_ret (v := encS (.made w ss)) (S1 := X S n k4 b4) (by
        rw [d_tup, es_cons (d_con _ _ _ _) (es_cons w1 (es_cons (v := .tup (ss.map encS)) (S1 := X S n k4 b4) (by simp [ρ7]) (d_nil _ _ _)))]
        simp [encS, encSs_map]) ⟨k4, b4, rfl, by omega, by omega, .made w ss, rfl, ⟨w2, by omega, gSs_iff.mpr fun s h => (sg s h).1⟩, ?_, ?_⟩
      · have : dpSs ss ≤ g + 1 := dpSs_le.mpr fun s h => (sg s h).2.1
        simp only [dpS]
        omega
      · have h1 := nods_le fun s h => (sg s h).2.2
        have h2 : ss.length * nS g ≤ 3 * nS g := Nat.mul_le_mul_right _ sl
        simp only [nod, nS]
        omega
    refine st_ifF (S1 := X S n k1 b1) (by simp [ρ4, c5]) ?_
    obtain ⟨v, k2, b2, e2, a5, a6, s, rfl, s1, s2, s3⟩ := gcall hg hb (k := k1) (b := b1) (ρ := ρ4 way) (es := [(.var 0), (.var 1), (.var 2), (.bin .sub (.var 3) (.con (.int 1)))]) (S0 := X S n k1 b1) (by omega) (es_cons rfl (es_cons rfl (es_cons rfl (es_cons rfl (d_nil _ _ _))))) (show (Ge (d + 3)).glob 29 = some (.fn 18) from rfl)
    refine st_asg e2 ?_
    let ρ5 : FF.Env := [sc, some (.ref n), some (poolV ws ts), some (.int deep), some (.int way), some (encS s), none, none, none, none, none, none]
    show WS (denSs whlL Γ _ ρ5 _) _
    by_cases c6 : way = 6
    · have e : (way == 6) = true := by simp [c6]
      refine st_ifT (S1 := X S n k2 b2) (by simp [ρ5, e]) ?_
      obtain ⟨i, k4, b4, e4, a9, a10, a11, a12⟩ := dr' (ρ := ρ5) (k := k2) (b := b2) (e := .con (.int 8)) (many := 8) hb (by omega) (by omega) rfl rfl rfl
      obtain ⟨w, w1, w2⟩ := pickW (Γ := Γ) hp (ρ := ρ5) rfl e4 a11 a12
      refine st_ret (v := encS (.also s w)) (S1 := X S n k4 b4) (by
        rw [d_tup, es_cons (d_con _ _ _ _) (es_cons (v := encS s) rfl (es_cons w1 (d_nil _ _ _)))]
        simp [encS]) ⟨k4, b4, rfl, by omega, by omega, .also s w, rfl, ⟨s1, w2⟩, by simp only [dpS]; omega, by simp only [nod, nS]; omega⟩
    have e : (way == 6) = false := by simp [c6]
    refine st_ifF (S1 := X S n k2 b2) (by simp [ρ5, e]) ?_
    obtain ⟨v, k3, b3, e3, a9, a10, t, rfl, t1, t2, t3⟩ := gcall hg hb (k := k2) (b := b2) (ρ := ρ5) (es := [(.var 0), (.var 1), (.var 2), (.bin .sub (.var 3) (.con (.int 1)))]) (S0 := X S n k2 b2) (by omega) (es_cons rfl (es_cons rfl (es_cons rfl (es_cons rfl (d_nil _ _ _))))) (show (Ge (d + 3)).glob 29 = some (.fn 18) from rfl)
    exact st_ret (v := encS (.either s t)) (S1 := X S n k3 b3) (by
      rw [d_tup, es_cons (d_con _ _ _ _) (es_cons (v := encS s) rfl (es_cons e3 (d_nil _ _ _)))]
      simp [encS]) ⟨k3, b3, rfl, by omega, by omega, .either s t, rfl, ⟨s1, t1⟩, by simp only [dpS]; omega, by simp only [nod, nS]; omega⟩
  by_cases cd : deep < 2
  · refine st_ifT (S1 := X S n k1 b1) (by simp [cd]) ?_
    refine st_asg (v := .int (way % 4)) (S1 := X S n k1 b1) (by simp) ?_
    exact main (way % 4) (by omega) (by omega) fun h => by omega
  · refine st_ifF (S1 := X S n k1 b1) (by simp [cd]) ?_
    exact main way a3 a4 fun _ => by omega
theorem shape_ok (ns : List Int) (hl : ns.length ≤ 63) (ws ts : List (List Nat)) (hp : gpool ws ts) : ∀ (f d : Nat) (deep : Int), deep ≤ f + 1 → GD (d + f + 4) 18 (cS f) (fun n => [.lst (ns.map PV.int), .ref n, poolV ws ts, .int deep]) (isS f)
  | 0, d, deep, hd => shape_step ns hl ws ts hp d 0 0 deep fun h => by omega
  | f + 1, d, deep, hd => by
    have h := shape_step ns hl ws ts hp (d + f + 1) (cS f) (f + 1) deep fun _ => ⟨f, rfl, by
      have := shape_ok ns hl ws ts hp f d (deep - 1) (by omega)
      have e : d + f + 1 + 3 = d + f + 4 := by omega
      rw [e]
      exact this⟩
    have e : d + f + 1 + 4 = d + (f + 1) + 4 := by omega
    rw [e] at h
    exact h
end LK16
set_option Elab.async false
set_option linter.all false
set_option autoImplicit false
set_option maxRecDepth 100000
set_option maxHeartbeats 1000000
namespace LK16
open PySem FF L2
/-! ### expressions -/
mutual
inductive Ex where
  | num (i : Int)
  | word (w : List Nat)
  | make (t : List Nat) (ps : List Ex)
  | call (w : List Nat) (ps : List Ex)
  | field (e : Ex) (w : List Nat)
  | deed (c : Nat) (a b : Ex)
  | let_ (w : List Nat) (a b : Ex)
  | mat (e : Ex) (rs : List Rl)
inductive Rl where
  | plain (s : Sh) (b : Ex)
  | guard (s : Sh) (g b : Ex)
end
abbrev sMake : List Nat := [109, 97, 107, 101]
abbrev sCall : List Nat := [99, 97, 108, 108]
abbrev sField : List Nat := [102, 105, 101, 108, 100]
abbrev sDeed : List Nat := [100, 101, 101, 100]
abbrev sLet : List Nat := [108, 101, 116]
abbrev sMatch : List Nat := [109, 97, 116, 99, 104]
mutual
def encE : Ex → PV
  | .num i => .tup [.str sNum, .int i]
  | .word w => .tup [.str sWord, .str w]
  | .make t ps => .tup [.str sMake, .str t, .tup (encEs ps)]
  | .call w ps => .tup [.str sCall, .str w, .tup (encEs ps)]
  | .field e w => .tup [.str sField, encE e, .str w]
  | .deed c a b => .tup [.str sDeed, .str [c], encE a, encE b]
  | .let_ w a b => .tup [.str sLet, .str w, encE a, encE b]
  | .mat e rs => .tup [.str sMatch, encE e, .tup (encRs rs)]
def encEs : List Ex → List PV
  | [] => []
  | e :: es => encE e :: encEs es
def encR : Rl → PV
  | .plain s b => .tup [encS s, .non, encE b]
  | .guard s g b => .tup [encS s, encE g, encE b]
def encRs : List Rl → List PV
  | [] => []
  | r :: rs => encR r :: encRs rs
end
def gSh (s : Sh) : Prop := gS s ∧ dpS s ≤ 3 ∧ nod s ≤ 13
mutual
def gE : Ex → Prop
  | .num i => gn i
  | .word w => sh w
  | .make t ps => sh t ∧ ps.length ≤ 4 ∧ gEs ps
  | .call w ps => sh w ∧ ps.length ≤ 4 ∧ gEs ps
  | .field e w => gE e ∧ sh w
  | .deed c a b => c < 128 ∧ gE a ∧ gE b
  | .let_ w a b => sh w ∧ gE a ∧ gE b
  | .mat e rs => gE e ∧ (1 ≤ rs.length ∧ rs.length ≤ 3) ∧ gRs rs
def gEs : List Ex → Prop
  | [] => True
  | e :: es => gE e ∧ gEs es
def gR : Rl → Prop
  | .plain s b => gSh s ∧ gE b
  | .guard s g b => gSh s ∧ gE g ∧ gE b
def gRs : List Rl → Prop
  | [] => True
  | r :: rs => gR r ∧ gRs rs
end
mutual
/-- how deep it is -/
def dpE : Ex → Nat
  | .num _ => 1
  | .word _ => 1
  | .make _ ps => 1 + dpEs ps
  | .call _ ps => 1 + dpEs ps
  | .field e _ => 1 + dpE e
  | .deed _ a b => 1 + max (dpE a) (dpE b)
  | .let_ _ a b => 1 + max (dpE a) (dpE b)
  | .mat e rs => 1 + max (dpE e) (dpRs rs)
def dpEs : List Ex → Nat
  | [] => 0
  | e :: es => max (dpE e) (dpEs es)
def dpR : Rl → Nat
  | .plain _ b => dpE b
  | .guard _ g b => max (dpE g) (dpE b)
def dpRs : List Rl → Nat
  | [] => 0
  | r :: rs => max (dpR r) (dpRs rs)
end
mutual
/-- how deep its tuples are -/
def tdE : Ex → Nat
  | .num _ => 1
  | .word _ => 1
  | .make _ ps => 2 + tdEs ps
  | .call _ ps => 2 + tdEs ps
  | .field e _ => 1 + tdE e
  | .deed _ a b => 1 + max (tdE a) (tdE b)
  | .let_ _ a b => 1 + max (tdE a) (tdE b)
  | .mat e rs => 1 + max (tdE e) (2 + tdRs rs)
def tdEs : List Ex → Nat
  | [] => 0
  | e :: es => max (tdE e) (tdEs es)
def tdR : Rl → Nat
  | .plain _ b => max 6 (tdE b)
  | .guard _ g b => max 6 (max (tdE g) (tdE b))
def tdRs : List Rl → Nat
  | [] => 0
  | r :: rs => max (tdR r) (tdRs rs)
end
mutual
/-- how great it is -/
def nodE : Ex → Nat
  | .num _ => 1
  | .word _ => 1
  | .make _ ps => 1 + nodEs ps
  | .call _ ps => 1 + nodEs ps
  | .field e _ => 1 + nodE e
  | .deed _ a b => 1 + nodE a + nodE b
  | .let_ _ a b => 1 + nodE a + nodE b
  | .mat e rs => 1 + nodE e + nodRs rs
def nodEs : List Ex → Nat
  | [] => 0
  | e :: es => nodE e + nodEs es
def nodR : Rl → Nat
  | .plain _ b => 20 + nodE b
  | .guard _ g b => 20 + nodE g + nodE b
def nodRs : List Rl → Nat
  | [] => 0
  | r :: rs => nodR r + nodRs rs
end
theorem encEs_map : ∀ es : List Ex, encEs es = es.map encE
  | [] => by simp [encEs]
  | e :: es => by simp [encEs, encEs_map es]
theorem encRs_map : ∀ rs : List Rl, encRs rs = rs.map encR
  | [] => by simp [encRs]
  | r :: rs => by simp [encRs, encRs_map rs]
theorem gEs_iff : ∀ {es : List Ex}, gEs es ↔ ∀ e ∈ es, gE e
  | [] => by simp [gEs]
  | e :: es => by simp [gEs, gEs_iff (es := es)]
theorem gRs_iff : ∀ {rs : List Rl}, gRs rs ↔ ∀ r ∈ rs, gR r
  | [] => by simp [gRs]
  | r :: rs => by simp [gRs, gRs_iff (rs := rs)]
theorem dpEs_le {m : Nat} : ∀ {es : List Ex}, dpEs es ≤ m ↔ ∀ e ∈ es, dpE e ≤ m
  | [] => by simp [dpEs]
  | e :: es => by
    have h : dpEs (e :: es) = max (dpE e) (dpEs es) := by simp [dpEs]
    rw [h]
    simp only [List.mem_cons, forall_eq_or_imp, ← dpEs_le (es := es)]
    omega
theorem dpRs_le {m : Nat} : ∀ {rs : List Rl}, dpRs rs ≤ m ↔ ∀ r ∈ rs, dpR r ≤ m
  | [] => by simp [dpRs]
  | r :: rs => by
    have h : dpRs (r :: rs) = max (dpR r) (dpRs rs) := by simp [dpRs]
    rw [h]
    simp only [List.mem_cons, forall_eq_or_imp, ← dpRs_le (rs := rs)]
    omega
theorem tdEs_le {m : Nat} : ∀ {es : List Ex}, tdEs es ≤ m ↔ ∀ e ∈ es, tdE e ≤ m
  | [] => by simp [tdEs]
  | e :: es => by
    have h : tdEs (e :: es) = max (tdE e) (tdEs es) := by simp [tdEs]
    rw [h]
    simp only [List.mem_cons, forall_eq_or_imp, ← tdEs_le (es := es)]
    omega
theorem tdRs_le {m : Nat} : ∀ {rs : List Rl}, tdRs rs ≤ m ↔ ∀ r ∈ rs, tdR r ≤ m
  | [] => by simp [tdRs]
  | r :: rs => by
    have h : tdRs (r :: rs) = max (tdR r) (tdRs rs) := by simp [tdRs]
    rw [h]
    simp only [List.mem_cons, forall_eq_or_imp, ← tdRs_le (rs := rs)]
    omega
theorem nodEs_le {m : Nat} : ∀ {es : List Ex}, (∀ e ∈ es, nodE e ≤ m) → nodEs es ≤ es.length * m
  | [], _ => by simp [nodEs]
  | e :: es, h => by
    have h1 := h e List.mem_cons_self
    have h2 := nodEs_le fun x hx => h x (List.mem_cons_of_mem _ hx)
    simp only [nodEs, List.length_cons, Nat.add_mul, Nat.one_mul]
    omega
theorem nodRs_le {m : Nat} : ∀ {rs : List Rl}, (∀ r ∈ rs, nodR r ≤ m) → nodRs rs ≤ rs.length * m
  | [], _ => by simp [nodRs]
  | r :: rs, h => by
    have h1 := h r List.mem_cons_self
    have h2 := nodRs_le fun x hx => h x (List.mem_cons_of_mem _ hx)
    simp only [nodRs, List.length_cons, Nat.add_mul, Nat.one_mul]
    omega
mutual
theorem low_encE : ∀ (n : Nat) (e : Ex), FF.low n (encE e) = true
  | n, .num i => by simp [encE]
  | n, .word w => by simp [encE]
  | n, .make t ps => by simp [encE, lows_encEs n ps]
  | n, .call t ps => by simp [encE, lows_encEs n ps]
  | n, .field e w => by simp [encE, low_encE n e]
  | n, .deed c a b => by simp [encE, low_encE n a, low_encE n b]
  | n, .let_ c a b => by simp [encE, low_encE n a, low_encE n b]
  | n, .mat e rs => by simp [encE, low_encE n e, lows_encRs n rs]
theorem lows_encEs : ∀ (n : Nat) (es : List Ex), lows n (encEs es) = true
  | n, [] => by simp [encEs]
  | n, e :: es => by simp [encEs, low_encE n e, lows_encEs n es]
theorem low_encR : ∀ (n : Nat) (r : Rl), FF.low n (encR r) = true
  | n, .plain s b => by simp [encR, low_encS, low_encE n b]
  | n, .guard s g b => by simp [encR, low_encS, low_encE n g, low_encE n b]
theorem lows_encRs : ∀ (n : Nat) (rs : List Rl), lows n (encRs rs) = true
  | n, [] => by simp [encRs]
  | n, r :: rs => by simp [encRs, low_encR n r, lows_encRs n rs]
end
def cE : Nat → Nat
  | 0 => 500
  | f + 1 => 500 + 8 * cE f
def nE : Nat → Nat
  | 0 => 1
  | f + 1 => 61 + 7 * nE f
theorem nE_pos : ∀ f, 1 ≤ nE f
  | 0 => Nat.le_refl _
  | f + 1 => by simp only [nE]; omega
def isE (f : Nat) (v : PV) : Prop := ∃ e, v = encE e ∧ gE e ∧ dpE e ≤ f + 1 ∧ tdE e ≤ 3 * f + 6 ∧ nodE e ≤ nE f
def isR (f : Nat) (v : PV) : Prop := ∃ r, v = encR r ∧ gR r ∧ dpR r ≤ f + 1 ∧ tdR r ≤ 3 * f + 6 ∧ nodR r ≤ 20 + 2 * nE f
def isRs (f : Nat) (v : PV) : Prop := ∃ rs : List Rl, v = .tup (encRs rs) ∧ (1 ≤ rs.length ∧ rs.length ≤ 3) ∧ ∀ r ∈ rs, gR r ∧ dpR r ≤ f + 1 ∧ tdR r ≤ 3 * f + 6 ∧ nodR r ≤ 20 + 2 * nE f
theorem isE_low {f : Nat} : ∀ v, isE f v → ∀ m, FF.low m v = true := fun v ⟨k, e, _⟩ m => by rw [e]; exact low_encE m k
theorem rules_ok (ns : List Int) (hl : ns.length ≤ 63) (ws ts : List (List Nat)) (hp : gpool ws ts) (d f : Nat) (deep : Int) (IH : GD (d + 6) 20 (cE f) (fun n => [.lst (ns.map PV.int), .ref n, poolV ws ts, .int deep]) (isE f)) :
    GD (d + 7) 19 (394 + 6 * cE f) (fun n => [.lst (ns.map PV.int), .ref n, poolV ws ts, .int deep]) (isRs f) := by
  refine GD_of2 (fun v ⟨rs, e, _⟩ m => by rw [e, lw_tup]; exact lows_encRs m rs) fun S n k b hb hk => ?_
  refine callW fun_19 rfl ?_
  let Γ := Ge (d + 6)
  let sc : Option PV := some (.lst (ns.map PV.int))
  have dr' := @dr (d + 4) ns hl
  have sp : GD (d + 6) 18 130 (fun n => [.lst (ns.map PV.int), .ref n, poolV ws ts, .int 3]) (isS 2) := shape_ok ns hl ws ts hp 2 d 3 (by omega)
  have hpush : ∀ rs : List Rl, Bs (S ++ [.lst (rs.map encR)]) n := fun rs => hb.push (by rw [lw_lst, ← encRs_map]; exact lows_encRs _ rs)
  refine st_asg (v := .ref S.length) (S1 := X (S ++ [.lst []]) n k b) (by
    rw [← X_push hb]
    simp [X_len]) ?_
  let ρ5 : Option PV → Option PV → Option PV → FF.Env := fun o5 o6 o7 => [sc, some (.ref n), some (poolV ws ts), some (.int deep), some (.ref S.length), o5, o6, o7]
  show WS (denSs whlL Γ _ (ρ5 none none none) _) _
  obtain ⟨m, k4, b4, e4, a13, a14, a15, a16⟩ := dr' (ρ := ρ5 none none none) (k := k) (b := b) (e := .con (.int 3)) (many := 3) (hpush []) (by omega) (by omega) rfl rfl rfl
  have e4' : denEs Γ [(.bin .add (.con (.int 1)) (.call .chg 24 [(.var 0), (.var 1), (.con (.int 3))]))] (ρ5 none none none) (X (S ++ [.lst []]) n k b) = .ok [.int (1 + m)] (X (S ++ [.lst []]) n k4 b4) := by
    refine es_cons ?_ (d_nil _ _ _)
    rw [d_bin, d_con, bind_ok_]
    have e4'' : denE Γ (.call .chg 24 [(.var 0), (.var 1), (.con (.int 3))]) (ρ5 none none none) (X (S ++ [.lst []]) n k b) = .ok (.int m) (X (S ++ [.lst []]) n k4 b4) := e4
    rw [e4'']
    simp
  have cost : ∀ r : Nat, r ≤ 3 → (131 + 2 * cE f) * r ≤ 393 + 6 * cE f := fun r hr => by
    have : (131 + 2 * cE f) * r ≤ (131 + 2 * cE f) * 3 := Nat.mul_le_mul_left _ hr
    omega
  refine st_for (fun (i : Nat) => PV.int (i : Int)) (fun r ρ T => ∃ (rs : List Rl) (o5 o6 o7 : Option PV) (k' : Nat) (b' : Int), T = X (S ++ [.lst (rs.map encR)]) n k' b' ∧ ρ = ρ5 o5 o6 o7 ∧ rs.length + r.length = (1 + m).toNat ∧ k' + (131 + 2 * cE f) * r.length ≤ k4 + (131 + 2 * cE f) * (1 + m).toNat ∧ k ≤ k' ∧ ∀ r ∈ rs, gR r ∧ dpR r ≤ f + 1 ∧ tdR r ≤ 3 * f + 6 ∧ nodR r ≤ 20 + 2 * nE f) (xs := List.range (1 + m).toNat) (vs := [.int (1 + m)]) (S1 := X (S ++ [.lst []]) n k4 b4) e4' (by exact rangeM (1 + m) _ (by omega) (by omega)) ⟨[], none, none, none, k4, b4, rfl, rfl, by simp, by simp, a13, by simp⟩ (fun x r ρ T ⟨rs, o5, o6, o7, k', b', hT, hρ, hlen, hkk, hk3, hfs⟩ => ?_) fun ρ T ⟨rs, o5, o6, o7, k', b', hT, hρ, hlen, hkk, hk3, hfs⟩ => ?_
  · subst hT hρ
    refine ⟨ρ5 (some (.int x)) o6 o7, rfl, ?_⟩
    have c1 := cost (1 + m).toNat (by omega)
    simp only [List.length_cons, Nat.mul_add, Nat.mul_one] at hlen hkk
    have hb' := hpush rs
    obtain ⟨v, k5, b5, e5, c3, c4, s, rfl, s1, s2, s3⟩ := gcall sp hb' (k := k') (b := b') (ρ := ρ5 (some (.int x)) o6 o7) (es := [(.var 0), (.var 1), (.var 2), (.con (.int 3))]) (S0 := X (S ++ [.lst (rs.map encR)]) n k' b') (by omega) (es_cons rfl (es_cons rfl (es_cons rfl (es_cons rfl (d_nil _ _ _))))) (show (Ge (d + 6)).glob 29 = some (.fn 18) from rfl)
    have gs : gSh s := ⟨s1, s2, s3⟩
    refine st_asg e5 ?_
    refine st_asg (v := .non) (S1 := X (S ++ [.lst (rs.map encR)]) n k5 b5) (by simp) ?_
    let ρ6 : PV → FF.Env := fun g => [sc, some (.ref n), some (poolV ws ts), some (.int deep), some (.ref S.length), some (.int x), some (encS s), some g]
    show WS (denSs whlL Γ _ (ρ6 .non) _) _
    obtain ⟨z, k6, b6, e6, c5, c6, c7, c8⟩ := dr' (ρ := ρ6 .non) (k := k5) (b := b5) (e := .con (.int 3)) (many := 3) hb' (by omega) (by omega) rfl rfl rfl
    have tE : testOf Γ (.cmp .eq (.call .chg 24 [(.var 0), (.var 1), (.con (.int 3))]) (.con (.int 0))) (ρ6 .non) (X (S ++ [.lst (rs.map encR)]) n k5 b5) = .ok (z == 0) (X (S ++ [.lst (rs.map encR)]) n k6 b6) := by
      rw [d_test, d_cmp, e6]
      simp
    have ex : ∀ (g : PV) (k : Nat) (b : Int), k + cE f ≤ Bk → Gn (cE f) (isE f) (S ++ [.lst (rs.map encR)]) n k b (denE Γ (.call .chg 31 [(.var 0), (.var 1), (.var 2), (.var 3)]) (ρ6 g) (X (S ++ [.lst (rs.map encR)]) n k b)) := fun g k b hk => gcall IH hb' hk (es_cons rfl (es_cons rfl (es_cons rfl (es_cons rfl (d_nil _ _ _))))) rfl
    have fin : ∀ (g : PV) (k7 : Nat) (b7 : Int), (g = .non ∨ isE f g) → k' ≤ k7 → k7 ≤ k' + 131 + cE f → WS (denSs whlL Γ [(.expr (.bm .append (.var 4) [(.tup [(.var 6), (.var 7), (.call .chg 31 [(.var 0), (.var 1), (.var 2), (.var 3)])])]))] (ρ6 g) (X (S ++ [.lst (rs.map encR)]) n k7 b7)) ⟨fun ρ T => ∃ (rs : List Rl) (o5 o6 o7 : Option PV) (k' : Nat) (b' : Int), T = X (S ++ [.lst (rs.map encR)]) n k' b' ∧ ρ = ρ5 o5 o6 o7 ∧ rs.length + r.length = (1 + m).toNat ∧ k' + (131 + 2 * cE f) * r.length ≤ k4 + (131 + 2 * cE f) * (1 + m).toNat ∧ k ≤ k' ∧ ∀ r ∈ rs, gR r ∧ dpR r ≤ f + 1 ∧ tdR r ≤ 3 * f + 6 ∧ nodR r ≤ 20 + 2 * nE f, fun _ _ => False, fun _ _ => False, fun _ _ => False⟩ := by
      intro g k7 b7 hg h1 h2
      obtain ⟨v, k8, b8, e8, c9, c10, e, rfl, x1, x2, x3, x4⟩ := ex g k7 b7 (by omega)
      have tup : denE Γ (.tup [(.var 6), (.var 7), (.call .chg 31 [(.var 0), (.var 1), (.var 2), (.var 3)])]) (ρ6 g) (X (S ++ [.lst (rs.map encR)]) n k7 b7) = .ok (.tup [encS s, g, encE e]) (X (S ++ [.lst (rs.map encR)]) n k8 b8) := by
        rw [d_tup, es_cons (v := encS s) rfl (es_cons (v := g) rfl (es_cons e8 (d_nil _ _ _)))]
        simp
      have hr : isR f (.tup [encS s, g, encE e]) := by
        rcases hg with rfl | ⟨y, rfl, y1, y2, y3, y4⟩
        · exact ⟨.plain s e, by simp [encR], ⟨gs, x1⟩, by simp only [dpR]; omega, by simp only [tdR]; omega, by simp only [nodR]; omega⟩
        · exact ⟨.guard s y e, by simp [encR], ⟨gs, y1, x1⟩, by simp only [dpR]; omega, by simp only [tdR]; omega, by simp only [nodR]; omega⟩
      obtain ⟨ru, r0, r1⟩ := hr
      rw [r0] at tup
      refine st_expr (v_appX hb rfl tup (by simp; omega)) ?_
      refine st_nil ⟨rs ++ [ru], some (.int x), some (encS s), some g, k8, b8, by simp, rfl, by simp; omega, by omega, by omega, fun p hp' => ?_⟩
      rcases List.mem_append.mp hp' with h | h
      · exact hfs p h
      · rw [List.mem_singleton.mp h]
        exact r1
    have conv : ∀ {Po1 : Po} {x : SRes}, WS x ⟨Po1.n, fun _ _ => False, fun _ _ => False, fun _ _ => False⟩ → WS x Po1 := fun h => WS.mono h (fun _ _ z => z) (fun _ _ z => z.elim) (fun _ _ z => z.elim) fun _ _ z => z.elim
    refine conv ?_
    cases hz : z == 0 with
    | true =>
      rw [hz] at tE
      refine st_ifT tE ?_
      obtain ⟨v, k7, b7, e7, c9, c10, y⟩ := ex .non k6 b6 (by omega)
      refine st_asg e7 ?_
      exact fin v k7 b7 (.inr y) (by omega) (by omega)
    | false =>
      rw [hz] at tE
      refine st_ifF tE ?_
      exact fin .non k6 b6 (.inl rfl) (by omega) (by omega)
  · subst hT hρ
    have c1 := cost (1 + m).toNat (by omega)
    simp at hlen hkk
    have tE := v_tupR (Γ := Γ) (ρ := ρ5 o5 o6 o7) (i := 4) rfl (X_last (k := k') (b := b') (acc := rs.map encR) hb)
    refine st_ret tE ⟨k', b', [.lst (rs.map encR)], (X_push hb _).symm, by omega, by omega, rs, by rw [encRs_map], ⟨by omega, by omega⟩, hfs⟩
end LK16
set_option Elab.async false
set_option linter.all false
set_option autoImplicit false
set_option maxRecDepth 100000
set_option maxHeartbeats 1000000
namespace LK16
open PySem FF L2
theorem expr_step (ns : List Int) (hl : ns.length ≤ 63) (ws ts : List (List Nat)) (hp : gpool ws ts) (d c f : Nat) (deep : Int) (IH : 1 < deep → ∃ g, f = g + 1 ∧ GD (d + 7) 20 c (fun n => [.lst (ns.map PV.int), .ref n, poolV ws ts, .int (deep - 1)]) (isE g) ∧ GD (d + 7) 19 (394 + 6 * c) (fun n => [.lst (ns.map PV.int), .ref n, poolV ws ts, .int (deep - 1)]) (isRs g)) :
    GD (d + 8) 20 (500 + 8 * c) (fun n => [.lst (ns.map PV.int), .ref n, poolV ws ts, .int deep]) (isE f) := by
  refine GD_of isE_low fun S n k b hb hk => ?_
  refine callW fun_20 rfl ?_
  let Γ := Ge (d + 7)
  let sc : Option PV := some (.lst (ns.map PV.int))
  have dr' := @dr (d + 5) ns hl
  have at0 := X_at (k := k) (b := b) hb
  have v0 := vidx_at (i := .int 1) at0
  simp at v0
  refine st_item (n := n) (j := 1) (v := .int (b - 1)) (S1 := X S n k b) (by simp [v0]) rfl at0 (by simp [L2.ixN]) ?_
  have e1 : (X S n k b).set n (.lst ([PV.int k, .int b].set 1 (.int (b - 1)))) = X S n k (b - 1) := by
    simp [X, at_]
  rw [e1]
  obtain ⟨way, k1, b1, e1, a1, a2, a3, a4⟩ := dr' (ρ := [sc, some (.ref n), some (poolV ws ts), some (.int deep), none, none, none, none, none, none]) (k := k) (b := b - 1) (e := .con (.int 11)) (many := 11) hb (by omega) (by omega) rfl rfl rfl
  refine st_asg e1 ?_
  obtain ⟨i, k2, b2, e2, a5, a6, a7, a8⟩ := dr' (ρ := [sc, some (.ref n), some (poolV ws ts), some (.int deep), some (.int way), none, none, none, none, none]) (k := k1) (b := b1) (e := .con (.int 8)) (many := 8) hb (by omega) (by omega) rfl rfl rfl
  obtain ⟨w, w1, w2⟩ := pickW (Γ := Γ) hp (ρ := [sc, some (.ref n), some (poolV ws ts), some (.int deep), some (.int way), none, none, none, none, none]) rfl e2 a7 a8
  refine st_asg w1 ?_
  obtain ⟨j, k3, b3, e3, a9, a10, a11, a12⟩ := dr' (ρ := [sc, some (.ref n), some (poolV ws ts), some (.int deep), some (.int way), some (.str w), none, none, none, none]) (k := k2) (b := b2) (e := .con (.int 6)) (many := 6) hb (by omega) (by omega) rfl rfl rfl
  obtain ⟨t, t1, t2⟩ := pickT (Γ := Γ) hp (ρ := [sc, some (.ref n), some (poolV ws ts), some (.int deep), some (.int way), some (.str w), none, none, none, none]) rfl e3 a11 a12
  refine st_asg t1 ?_
  let ρ4 : Int → Option PV → Option PV → FF.Env := fun way o7 o8 => [sc, some (.ref n), some (poolV ws ts), some (.int deep), some (.int way), some (.str w), some (.str t), o7, o8, none]
  show WS (denSs whlL Γ _ (ρ4 way none none) _) _
  have pos := nE_pos f
  have leaf : ∀ {v : PV} {T : Store} (s : Ex) (k' : Nat) (b' : Int), v = encE s → T = X S n k' b' → k ≤ k' → k' ≤ k + (500 + 8 * c) → gE s → dpE s = 1 → tdE s ≤ 2 → nodE s = 1 → ∃ k' b', T = X S n k' b' ∧ k ≤ k' ∧ k' ≤ k + (500 + 8 * c) ∧ isE f v := fun s k' b' h1 h2 h3 h4 h5 h6 h7 h8 => ⟨k', b', h2, h3, h4, s, h1, h5, by omega, by omega, by omega⟩
  have main : ∀ way : Int, 0 ≤ way → way < 11 → (3 ≤ way → 1 < deep) → WS (denSs whlL Γ (f__law_expression.drop 5) (ρ4 way none none) (X S n k3 b3)) ⟨fun _ T => ∃ k' b', T = X S n k' b' ∧ k ≤ k' ∧ k' ≤ k + (500 + 8 * c) ∧ isE f .non, fun v T => ∃ k' b', T = X S n k' b' ∧ k ≤ k' ∧ k' ≤ k + (500 + 8 * c) ∧ isE f v, fun _ _ => False, fun _ _ => False⟩ := by
    intro way y0 y11 yd
    by_cases c0 : way = 0
    · have e : (way == 0) = true := by simp [c0]
      refine st_ifT (S1 := X S n k3 b3) (by simp [ρ4, e]) ?_
      obtain ⟨v, k4, b4, e4, g1, g2, q, rfl, g3, g4⟩ := gcall (number_ok (d + 4) ns hl) hb (k := k3) (b := b3) (ρ := ρ4 way none none) (es := [(.var 0), (.var 1)]) (S0 := X S n k3 b3) (by omega) (es_cons rfl (es_cons rfl (d_nil _ _ _))) (show (Ge (d + 7)).glob 26 = some (.fn 15) from rfl)
      exact st_ret (v := encE (.num q)) (S1 := X S n k4 b4) (by
        rw [d_tup, es_cons (d_con _ _ _ _) (es_cons e4 (d_nil _ _ _))]
        simp [encE]) (leaf (.num q) k4 b4 rfl rfl (by omega) (by omega) ⟨g3, by omega⟩ rfl (by simp [tdE]) rfl)
    have e : (way == 0) = false := by simp [c0]
    refine st_ifF (S1 := X S n k3 b3) (by simp [ρ4, e]) ?_
    by_cases c1 : way = 1
    · have e : (way == 1) = true := by simp [c1]
      refine st_ifT (S1 := X S n k3 b3) (by simp [ρ4, e]) ?_
      exact st_ret (v := encE (.word w)) (S1 := X S n k3 b3) (by simp [ρ4, encE]) (leaf (.word w) k3 b3 rfl rfl (by omega) (by omega) w2 rfl (by simp [tdE]) rfl)
    have e : (way == 1) = false := by simp [c1]
    refine st_ifF (S1 := X S n k3 b3) (by simp [ρ4, e]) ?_
    by_cases c2 : way = 2
    · have e : (way == 2) = true := by simp [c2]
      refine st_ifT (S1 := X S n k3 b3) (by simp [ρ4, e]) ?_
      obtain ⟨q, k4, b4, e4, g1, g2, g3, g4⟩ := dr' (ρ := ρ4 way none none) (k := k3) (b := b3) (e := .con (.int 2)) (many := 2) hb (by omega) (by omega) rfl rfl rfl
      let L : List Ex := [.make t [], .call w []]
      obtain ⟨r, r1, _, r2, _⟩ := ix_any (X S n k4 b4) encE L q g3 (by simp [L]; omega)
      have lE : denE Γ (.lst false [(.tup [(.con (.str [109, 97, 107, 101])), (.var 6), (.tup [])]), (.tup [(.con (.str [99, 97, 108, 108])), (.var 5), (.tup [])])]) (ρ4 way none none) (X S n k3 b3) = .ok (.lst (L.map encE)) (X S n k3 b3) := by
        simp [ρ4, L, encE, encEs]
      have gr : gE r ∧ dpE r = 1 ∧ tdE r ≤ 2 ∧ nodE r = 1 := by
        simp only [L, List.mem_cons, List.not_mem_nil, or_false] at r1
        rcases r1 with rfl | rfl
        · exact ⟨⟨t2, by simp, trivial⟩, rfl, by simp [tdE, tdEs], rfl⟩
        · exact ⟨⟨w2, by simp, trivial⟩, rfl, by simp [tdE, tdEs], rfl⟩
      exact st_ret (v := encE r) (S1 := X S n k4 b4) (by
        rw [d_idx, lE, bind_ok_, e4, bind_ok_, r2]
        rfl) (leaf r k4 b4 rfl rfl (by omega) (by omega) gr.1 gr.2.1 gr.2.2.1 gr.2.2.2)
    have e : (way == 2) = false := by simp [c2]
    refine st_ifF (S1 := X S n k3 b3) (by simp [ρ4, e]) ?_
    obtain ⟨g, rfl, hg, hr⟩ := IH (yd (by omega))
    simp only [nE] at pos
    have ex : ∀ (o7 o8 : Option PV) (k' : Nat) (b' : Int), k' + c ≤ Bk → Gn c (isE g) S n k' b' (denE Γ (.call .chg 31 [(.var 0), (.var 1), (.var 2), (.bin .sub (.var 3) (.con (.int 1)))]) (ρ4 way o7 o8) (X S n k' b')) := fun o7 o8 k' b' hk' => gcall hg hb hk' (es_cons rfl (es_cons rfl (es_cons rfl (es_cons rfl (d_nil _ _ _))))) rfl
    by_cases c5 : way < 5
    · refine st_ifT (S1 := X S n k3 b3) (by simp [ρ4, c5]) ?_
      obtain ⟨m, k4, b4, e4, g1, g2, g3, g4⟩ := dr' (ρ := ρ4 way none none) (k := k3) (b := b3) (e := .con (.int 4)) (many := 4) hb (by omega) (by omega) rfl rfl rfl
      have e4' : denEs Γ [(.bin .add (.con (.int 1)) (.call .chg 24 [(.var 0), (.var 1), (.con (.int 4))]))] (ρ4 way none none) (X S n k3 b3) = .ok [.int (1 + m)] (X S n k4 b4) := by
        refine es_cons ?_ (d_nil _ _ _)
        rw [d_bin, d_con, bind_ok_, e4]
        simp
      have hm : (1 + m).toNat * c ≤ 4 * c := Nat.mul_le_mul_right _ (by omega)
      obtain ⟨ys, k5, b5, q1, q2, q3, q4⟩ := v_compG (Γ := Γ) (ρ := ρ4 way none none) (S := S) (n := n) (S0 := X S n k3 b3) (k := k4) (b := b4) (t := .one 9) (sk := .range1) (es := [(.bin .add (.con (.int 1)) (.call .chg 24 [(.var 0), (.var 1), (.con (.int 4))]))]) (e := .call .chg 31 [(.var 0), (.var 1), (.var 2), (.bin .sub (.var 3) (.con (.int 1)))]) (vs := [.int (1 + m)]) (xs := List.range (1 + m).toNat) (cc := c) (B := k4 + (1 + m).toNat * c) (fun (i : Nat) => PV.int (i : Int)) (fun _ v => isE g v) e4' (rangeM (1 + m) _ (by omega) (by omega)) (by simp; unfold cap; omega) (by simp) (fun x hx k' b' hk' =>
        ⟨_, rfl, gcall hg hb (by omega) (es_cons rfl (es_cons rfl (es_cons rfl (es_cons rfl (d_nil _ _ _))))) rfl⟩)
      simp only [List.length_range] at q3
      obtain ⟨es, rfl, p2⟩ := f2_ex q4
      have sl : es.length ≤ 4 := by
        have := f2_len p2
        simp at this
        omega
      have sg : ∀ e ∈ es, gE e ∧ dpE e ≤ g + 1 ∧ tdE e ≤ 3 * g + 6 ∧ nodE e ≤ nE g := fun s h => by
        obtain ⟨_, _, h2⟩ := f2_mem p2 s h
        exact h2
      refine st_asg q1 ?_
      let L : List Ex := [.make t es, .call w es]
      obtain ⟨r, r1, _, r2, _⟩ := ix_any (X S n k5 b5) encE L (way - 3) (by omega) (by simp [L]; omega)
      have lE : denE Γ (.lst false [(.tup [(.con (.str [109, 97, 107, 101])), (.var 6), (.blt false .tuple [(.var 8)])]), (.tup [(.con (.str [99, 97, 108, 108])), (.var 5), (.blt false .tuple [(.var 8)])])]) (ρ4 way none (some (.lst (es.map encE)))) (X S n k5 b5) = .ok (.lst (L.map encE)) (X S n k5 b5) := by
        simp [ρ4, L, encE, encEs_map]
      have n1 := nodEs_le fun e h => (sg e h).2.2.2
      have n2 : es.length * nE g ≤ 4 * nE g := Nat.mul_le_mul_right _ sl
      have n3 : dpEs es ≤ g + 1 := dpEs_le.mpr fun e h => (sg e h).2.1
      have n4 : tdEs es ≤ 3 * g + 6 := tdEs_le.mpr fun e h => (sg e h).2.2.1
      have n5 : gEs es := gEs_iff.mpr fun e h => (sg e h).1
      have gr : gE r ∧ dpE r ≤ g + 1 + 1 ∧ tdE r ≤ 3 * (g + 1) + 6 ∧ nodE r ≤ nE (g + 1) := by
        simp only [L, List.mem_cons, List.not_mem_nil, or_false] at r1
        rcases r1 with rfl | rfl
        · exact ⟨⟨t2, sl, n5⟩, by simp only [dpE]; omega, by simp only [tdE]; omega, by simp only [nodE, nE]; omega⟩
        · exact ⟨⟨w2, sl, n5⟩, by simp only [dpE]; omega, by simp only [tdE]; omega, by simp only [nodE, nE]; omega⟩
      refine st_ret (v := encE r) (S1 := X S n k5 b5) (by
        show denE Γ _ (ρ4 way none (some (.lst (es.map encE)))) _ = _
        have e6 : denE Γ (.bin .sub (.var 4) (.con (.int 3))) (ρ4 way none (some (.lst (es.map encE)))) (X S n k5 b5) = .ok (.int (way - 3)) (X S n k5 b5) := rfl
        rw [d_idx, lE, bind_ok_, e6, bind_ok_, r2]
        rfl) ⟨k5, b5, rfl, by omega, by omega, r, rfl, gr⟩
    refine st_ifF (S1 := X S n k3 b3) (by simp [ρ4, c5]) ?_
    obtain ⟨v, k4, b4, e4, g1, g2, a, rfl, x1, x2, x3, x4⟩ := ex none none k3 b3 (by omega)
    refine st_asg e4 ?_
    let ρ7 := ρ4 way (some (encE a)) none
    show WS (denSs whlL Γ _ ρ7 _) _
    by_cases c6 : way = 5
    · have e : (way == 5) = true := by simp [c6]
      refine st_ifT (S1 := X S n k4 b4) (by simp [ρ7, ρ4, e]) ?_
      exact st_ret (v := encE (.field a w)) (S1 := X S n k4 b4) (by simp [ρ7, ρ4, encE]) ⟨k4, b4, rfl, by omega, by omega, .field a w, rfl, ⟨x1, w2⟩, by simp only [dpE]; omega, by simp only [tdE]; omega, by simp only [nodE, nE]; omega⟩
    have e : (way == 5) = false := by simp [c6]
    refine st_ifF (S1 := X S n k4 b4) (by simp [ρ7, ρ4, e]) ?_
    by_cases c8 : way < 8
    · refine st_ifT (S1 := X S n k4 b4) (by simp [ρ7, ρ4, c8]) ?_
      obtain ⟨q, k5, b5, e5, g3, g4, g5, g6⟩ := dr' (ρ := ρ7) (k := k4) (b := b4) (e := .con (.int 5)) (many := 5) hb (by omega) (by omega) rfl rfl rfl
      obtain ⟨cc, c9, c10⟩ := v_sign (Γ := Γ) (ρ := ρ7) (o := .con (.str [43, 45, 42, 60, 61])) (lt := [43, 45, 42, 60, 61]) (d_con _ _ _ _) e5 (by decide) g5 (by simp; omega)
      obtain ⟨v, k6, b6, e6, g7, g8, a', rfl, z1, z2, z3, z4⟩ := ex (some (encE a)) none k5 b5 (by omega)
      exact st_ret (v := encE (.deed cc a a')) (S1 := X S n k6 b6) (by
        rw [d_tup, es_cons (d_con _ _ _ _) (es_cons c9 (es_cons (v := encE a) rfl (es_cons e6 (d_nil _ _ _))))]
        have o : okI 4 = true := by decide
        simp [encE, o]) ⟨k6, b6, rfl, by omega, by omega, .deed cc a a', rfl, ⟨c10, x1, z1⟩, by simp only [dpE]; omega, by simp only [tdE]; omega, by simp only [nodE, nE]; omega⟩
    refine st_ifF (S1 := X S n k4 b4) (by simp [ρ7, ρ4, c8]) ?_
    by_cases c9 : way = 8
    · have e : (way == 8) = true := by simp [c9]
      refine st_ifT (S1 := X S n k4 b4) (by simp [ρ7, ρ4, e]) ?_
      obtain ⟨v, k6, b6, e6, g7, g8, a', rfl, z1, z2, z3, z4⟩ := ex (some (encE a)) none k4 b4 (by omega)
      exact st_ret (v := encE (.let_ w a a')) (S1 := X S n k6 b6) (by
        rw [d_tup, es_cons (d_con _ _ _ _) (es_cons (v := .str w) rfl (es_cons (v := encE a) rfl (es_cons e6 (d_nil _ _ _))))]
        have o : okI 4 = true := by decide
        simp [encE, o]) ⟨k6, b6, rfl, by omega, by omega, .let_ w a a', rfl, ⟨w2, x1, z1⟩, by simp only [dpE]; omega, by simp only [tdE]; omega, by simp only [nodE, nE]; omega⟩
    have e : (way == 8) = false := by simp [c9]
    refine st_ifF (S1 := X S n k4 b4) (by simp [ρ7, ρ4, e]) ?_
    obtain ⟨v, k5, b5, e5, g3, g4, rs, rfl, l1, l2⟩ := gcall hr hb (k := k4) (b := b4) (ρ := ρ7) (es := [(.var 0), (.var 1), (.var 2), (.bin .sub (.var 3) (.con (.int 1)))]) (S0 := X S n k4 b4) (by omega) (es_cons rfl (es_cons rfl (es_cons rfl (es_cons rfl (d_nil _ _ _))))) (show (Ge (d + 7)).glob 30 = some (.fn 19) from rfl)
    have n1 := nodRs_le fun r h => (l2 r h).2.2.2
    have n2 : rs.length * (20 + 2 * nE g) ≤ 3 * (20 + 2 * nE g) := Nat.mul_le_mul_right _ l1.2
    have n3 : dpRs rs ≤ g + 1 := dpRs_le.mpr fun e h => (l2 e h).2.1
    have n4 : tdRs rs ≤ 3 * g + 6 := tdRs_le.mpr fun e h => (l2 e h).2.2.1
    exact st_ret (v := encE (.mat a rs)) (S1 := X S n k5 b5) (by
      rw [d_tup, es_cons (d_con _ _ _ _) (es_cons (v := encE a) rfl (es_cons e5 (d_nil _ _ _)))]
      simp [encE]) ⟨k5, b5, rfl, by omega, by omega, .mat a rs, rfl, ⟨x1, l1, gRs_iff.mpr fun r h => (l2 r h).1⟩, by simp only [dpE]; omega, by simp only [tdE]; omega, by simp only [nodE, nE]; omega⟩
  have at3 := X_at (k := k3) (b := b3) hb
  have v3 := vidx_at (i := .int 1) at3
  simp at v3
  by_cases cd : deep < 2
  · refine st_ifT (S1 := X S n k3 b3) (by simp [ρ4, cd]) ?_
    refine st_asg (v := .int (way % 3)) (S1 := X S n k3 b3) (by simp [ρ4]) ?_
    exact main (way % 3) (by omega) (by omega) fun h => by omega
  by_cases ce : b3 < 1
  · refine st_ifT (S1 := X S n k3 b3) (by simp [ρ4, cd, v3, ce]) ?_
    refine st_asg (v := .int (way % 3)) (S1 := X S n k3 b3) (by simp [ρ4]) ?_
    exact main (way % 3) (by omega) (by omega) fun h => by omega
  · refine st_ifF (S1 := X S n k3 b3) (by simp [ρ4, cd, v3, ce]) ?_
    exact main way a3 a4 fun _ => by omega
theorem expr_ok (ns : List Int) (hl : ns.length ≤ 63) (ws ts : List (List Nat)) (hp : gpool ws ts) : ∀ (f d : Nat) (deep : Int), deep ≤ f + 1 → GD (d + 2 * f + 8) 20 (cE f) (fun n => [.lst (ns.map PV.int), .ref n, poolV ws ts, .int deep]) (isE f)
  | 0, d, deep, hd => expr_step ns hl ws ts hp d 0 0 deep fun h => by omega
  | f + 1, d, deep, hd => by
    have h := expr_step ns hl ws ts hp (d + 2 * f + 2) (cE f) (f + 1) deep fun _ => by
      have h1 := expr_ok ns hl ws ts hp f (d + 1) (deep - 1) (by omega)
      have h2 := expr_ok ns hl ws ts hp f d (deep - 1) (by omega)
      have e1 : d + 1 + 2 * f + 8 = d + 2 * f + 2 + 7 := by omega
      rw [e1] at h1
      have h3 := rules_ok ns hl ws ts hp (d + 2 * f + 2) f (deep - 1) h2
      exact ⟨f, rfl, h1, h3⟩
    have e : d + 2 * f + 2 + 8 = d + 2 * (f + 1) + 8 := by omega
    rw [e] at h
    exact h
end LK16
set_option Elab.async false
set_option linter.all false
set_option autoImplicit false
set_option maxRecDepth 100000
set_option maxHeartbeats 400000
namespace LK16
open PySem FF L2
/-! ### programs -/
structure Fn where
  w : List Nat
  us : List (List Nat)
  e : Ex
structure Pg where
  ds : List Dc
  fs : List Fn
  m : Ex
def encFn (f : Fn) : PV := .tup [.str f.w, .tup (f.us.map PV.str), encE f.e]
def encP (p : Pg) : PV := .tup [.lst (p.ds.map encD), .lst (p.fs.map encFn), encE p.m]
structure gFn (f : Fn) : Prop where
  w : sh f.w
  ul : f.us.length ≤ 4
  us : ∀ u ∈ f.us, sh u
  e : gE f.e
  d : dpE f.e ≤ 4
  t : tdE f.e ≤ 15
  n : nodE f.e ≤ 3820
structure gP (p : Pg) : Prop where
  dl : p.ds.length ≤ 3
  ds : ∀ d ∈ p.ds, gD d
  fl : p.fs.length ≤ 2
  fs : ∀ f ∈ p.fs, gFn f
  m : gE p.m
  d : dpE p.m ≤ 24
  t : tdE p.m ≤ 56
  n : nodE p.m ≤ 27000
theorem low_encFn (m : Nat) (f : Fn) : FF.low m (encFn f) = true := by simp [encFn, low_encE, low_strs]
theorem lows_fns (m : Nat) (fs : List Fn) : lows m (fs.map encFn) = true := lows_of fun v hv => by
  obtain ⟨f, _, rfl⟩ := List.mem_map.mp hv
  exact low_encFn m f
theorem lows_ds (m : Nat) (fs : List Dc) : lows m (fs.map encD) = true := lows_of fun v hv => by
  obtain ⟨f, _, rfl⟩ := List.mem_map.mp hv
  exact low_encD m f
theorem low_encP (m : Nat) (p : Pg) : FF.low m (encP p) = true := by simp [encP, lows_ds, lows_fns, low_encE]
def isP0 (v : PV) : Prop := ∃ p : Pg, v = encP p ∧ gP p ∧ dpE p.m ≤ 5 ∧ tdE p.m ≤ 18 ∧ nodE p.m ≤ 26801
def isP (v : PV) : Prop := ∃ p : Pg, v = encP p ∧ gP p
theorem pickV {Γ : Env2} {ρ : FF.Env} {S0 S1 : Store} {e : E} {i : Int} {ws ts : List (List Nat)} (hp : gpool ws ts) (h2 : ρ[3]? = some (some (poolV ws ts))) (he : denE Γ e ρ S0 = .ok (.int i) S1) (h0 : 0 ≤ i) (h8 : i < 8) : ∃ w, denE Γ (.idx (.idx (.var 3) (.con (.int 0))) e) ρ S0 = .ok (.str w) S1 ∧ sh w := by
  obtain ⟨w, w1, _, w2, _⟩ := ix_any S1 PV.str ws i h0 (by have := hp.1; omega)
  refine ⟨w, ?_, hp.2.2.1 w w1⟩
  rw [d_idx, d_idx, d_var, h2]
  simp [poolV, he, w2]
theorem words_turn (d : Nat) (ns : List Int) (hl : ns.length ≤ 63) (ws ts : List (List Nat)) (hp : gpool ws ts) {S : Store} {n k : Nat} {b : Int} {ρ : FF.Env} (hb : Bs S n) (hk : k + 5 ≤ Bk) (h0 : ρ[0]? = some (some (.lst (ns.map PV.int)))) (h1 : ρ[1]? = some (some (.ref n))) (h3 : ρ[3]? = some (some (poolV ws ts))) :
    ∃ (us : List (List Nat)) (k' : Nat) (b' : Int), denE (Ge (d + 2)) (.comp false (.one 8) .range1 [(.call .chg 24 [(.var 0), (.var 1), (.con (.int 5))])] [] (.idx (.idx (.var 3) (.con (.int 0))) (.call .chg 24 [(.var 0), (.var 1), (.con (.int 8))]))) ρ (X S n k b) = .ok (.lst (us.map PV.str)) (X S n k' b') ∧ k ≤ k' ∧ k' ≤ k + 5 ∧ us.length ≤ 4 ∧ ∀ u ∈ us, sh u := by
  obtain ⟨m5, k5, b5, e5, g1, g2, g3, g4⟩ := dr d ns hl (ρ := ρ) (k := k) (b := b) (e := .con (.int 5)) (many := 5) hb (by omega) (by omega) h0 h1 (d_con _ _ _ _)
  have el : ∀ y ∈ List.range m5.toNat, ∀ (k' : Nat) (b' : Int), k' + 1 ≤ k5 + m5.toNat * 1 → ∃ ρ', bindT (X S n k' b') (.one 8) (PV.int (y : Int)) (wipeE ρ (own (.one 8))) = some ρ' ∧ Gn 1 (fun v => ∃ w, v = PV.str w ∧ sh w) S n k' b' (denE (Ge (d + 2)) (.idx (.idx (.var 3) (.con (.int 0))) (.call .chg 24 [(.var 0), (.var 1), (.con (.int 8))])) ρ' (X S n k' b')) := by
    intro y hy k' b' hk'
    refine ⟨(ρ.set 8 none).set 8 (some (.int y)), rfl, ?_⟩
    have r0 : ((ρ.set 8 none).set 8 (some (.int (y : Int))))[0]? = some (some (.lst (ns.map PV.int))) := by
      rw [List.getElem?_set_ne (by decide), List.getElem?_set_ne (by decide), h0]
    have r1 : ((ρ.set 8 none).set 8 (some (.int (y : Int))))[1]? = some (some (.ref n)) := by
      rw [List.getElem?_set_ne (by decide), List.getElem?_set_ne (by decide), h1]
    have r3 : ((ρ.set 8 none).set 8 (some (.int (y : Int))))[3]? = some (some (poolV ws ts)) := by
      rw [List.getElem?_set_ne (by decide), List.getElem?_set_ne (by decide), h3]
    generalize (ρ.set 8 none).set 8 (some (.int (y : Int))) = ρ8 at r0 r1 r3 ⊢
    obtain ⟨i, k7, b7, e7, h1, h2, h3, h4⟩ := dr d ns hl (ρ := ρ8) (S := S) (k := k') (b := b') (e := .con (.int 8)) (many := 8) hb (by omega) (by omega) r0 r1 (d_con _ _ _ _)
    obtain ⟨w, w1, w2⟩ := pickV hp r3 e7 h3 h4
    exact ⟨.str w, k7, b7, w1, h1, h2, w, rfl, w2⟩
  obtain ⟨us, k6, b6, r1, r2, r3, r4⟩ := v_compG (Γ := Ge (d + 2)) (ρ := ρ) (S := S) (n := n) (S0 := X S n k b) (k := k5) (b := b5) (t := .one 8) (sk := .range1) (vs := [.int m5]) (xs := List.range m5.toNat) (cc := 1) (B := k5 + m5.toNat * 1) (fun (i : Nat) => PV.int (i : Int)) (fun _ v => ∃ w, v = PV.str w ∧ sh w) (es_cons e5 (d_nil _ _ _)) (rangeM m5 _ g3 (by omega)) (by simp; unfold cap; omega) (by simp) el
  simp only [List.length_range] at r3
  obtain ⟨us, rfl, p3⟩ := f2_ex r4
  have ul : us.length ≤ 4 := by
    have := f2_len p3
    simp at this
    omega
  have hm5 : m5.toNat * 1 ≤ 4 * 1 := Nat.mul_le_mul_right _ (by omega)
  exact ⟨us, k6, b6, r1, by omega, by omega, ul, fun x h => by
    obtain ⟨_, _, h2⟩ := f2_mem p3 x h
    exact h2⟩
theorem fn_turn (d c : Nat) (ns : List Int) (hl : ns.length ≤ 63) (ws ts : List (List Nat)) (hp : gpool ws ts) (x3 : GD (d + 2) 20 c (fun n => [.lst (ns.map PV.int), .ref n, poolV ws ts, .int 4]) (isE 3)) {S : Store} {n k : Nat} {b : Int} {ρ : FF.Env} {us : List (List Nat)} (hb : Bs S n) (hk : k + 1 + c ≤ Bk) (h0 : ρ[0]? = some (some (.lst (ns.map PV.int)))) (h1 : ρ[1]? = some (some (.ref n))) (h3 : ρ[3]? = some (some (poolV ws ts))) (h7 : ρ[7]? = some (some (.lst (us.map PV.str)))) (ul : us.length ≤ 4) (ug : ∀ u ∈ us, sh u) :
    ∃ (f : Fn) (k' : Nat) (b' : Int), denE (Ge (d + 2)) (.tup [(.idx (.idx (.var 3) (.con (.int 0))) (.call .chg 24 [(.var 0), (.var 1), (.con (.int 8))])), (.blt false .tuple [(.var 7)]), (.call .chg 31 [(.var 0), (.var 1), (.var 3), (.con (.int 4))])]) ρ (X S n k b) = .ok (encFn f) (X S n k' b') ∧ k ≤ k' ∧ k' ≤ k + 1 + c ∧ gFn f := by
  obtain ⟨i, k7, b7, e7, g1, g2, g3, g4⟩ := dr d ns hl (ρ := ρ) (k := k) (b := b) (e := .con (.int 8)) (many := 8) hb (by omega) (by omega) h0 h1 (d_con _ _ _ _)
  obtain ⟨w, w1, w2⟩ := pickV hp h3 e7 g3 g4
  have ea : denEs (Ge (d + 2)) [(.var 0), (.var 1), (.var 3), (.con (.int 4))] ρ (X S n k7 b7) = .ok [.lst (ns.map PV.int), .ref n, poolV ws ts, .int 4] (X S n k7 b7) :=
    es_cons (by rw [d_var, h0]) (es_cons (by rw [d_var, h1]) (es_cons (by rw [d_var, h3]) (es_cons (d_con _ _ _ _) (d_nil _ _ _))))
  obtain ⟨v, k8, b8, e8, h5, h6, e, rfl, y1, y2, y3, y4⟩ := gcall x3 hb (k := k7) (b := b7) (by omega) ea (show (Ge (d + 2)).glob 31 = some (.fn 20) from rfl)
  have tupE : denE (Ge (d + 2)) (.blt false .tuple [(.var 7)]) ρ (X S n k7 b7) = .ok (.tup (us.map PV.str)) (X S n k7 b7) := by
    rw [d_blt, es_cons (by rw [d_var, h7]) (d_nil _ _ _)]
    simp
  have n3 : nE 3 = 3820 := by decide
  refine ⟨⟨w, us, e⟩, k8, b8, ?_, by omega, by omega, ⟨w2, ul, ug, y1, y2, y3, by rw [n3] at y4; exact y4⟩⟩
  rw [d_tup, es_cons w1 (es_cons tupE (es_cons e8 (d_nil _ _ _)))]
  simp [encFn]
def cP : Nat := 4 + 1 + 3 * 300 + 1 + 2 * (7 + cE 3) + cE 4
theorem program_ok (d : Nat) (ns : List Int) (hl : ns.length ≤ 63) (size : Int) : GD (d + 17) 21 cP (fun n => [.lst (ns.map PV.int), .ref n, .int size]) isP0 := by
  intro S n k b hb hk
  suffices h : W (K (d + 17) 21 [.lst (ns.map PV.int), .ref n, .int size] (X S n k b)) fun v T => ∃ (k' : Nat) (b' : Int) (p : Pg), T = X S n k' b' ++ [.lst (p.fs.map encFn)] ∧ v = .tup [.lst (p.ds.map encD), .ref S.length, encE p.m] ∧ k ≤ k' ∧ k' ≤ k + cP ∧ gP p ∧ dpE p.m ≤ 5 ∧ tdE p.m ≤ 18 ∧ nodE p.m ≤ 26801 by
    obtain ⟨v, T, e, k', b', p, rfl, rfl, h1, h2, h3⟩ := h
    unfold K at e
    refine ⟨encP p, k', b', ?_, h1, h2, p, rfl, h3⟩
    rw [e, bind_ok_]
    refine settle_x hb ?_
    have at0 : (X S n k' b' ++ [PV.lst (p.fs.map encFn)])[S.length]? = some (.lst (p.fs.map encFn)) := by
      rw [List.getElem?_append_right (by rw [X_len]; omega), X_len]
      simp
    have l1 : FF.low S.length (.lst (p.fs.map encFn)) = true := by rw [lw_lst]; exact lows_fns _ _
    have l2 : FF.low S.length (.ref S.length) = false := by simp [FF.low]
    have l4 : FF.low S.length (.lst (p.ds.map encD)) = true := by rw [lw_lst]; exact lows_ds _ _
    have f1 : frz S.length (X S n k' b' ++ [PV.lst (p.fs.map encFn)]) 7 (.ref S.length) = some (.lst (p.fs.map encFn)) := by
      rw [frz_succ, l2]
      simp only [frzN, at0]
      exact frz_v l1
    have l3 : FF.low S.length (.tup [.lst (p.ds.map encD), .ref S.length, encE p.m]) = false := by simp [l2]
    rw [frz_succ, l3]
    simp only [frzN, mapO, frz_v l4, f1, frz_v (low_encE _ _), encP]
    simp
  have hcP : cP = 920 + 2 * cE 3 + cE 4 := by unfold cP; omega
  refine callW fun_21 rfl ?_
  let Γ := Ge (d + 16)
  let sc : Option PV := some (.lst (ns.map PV.int))
  have dr' := @dr (d + 14) ns hl
  refine st_item (n := n) (j := 1) (v := .int size) (S1 := X S n k b) (by simp) rfl (X_at hb) (by simp [L2.ixN]) ?_
  have e0 : (X S n k b).set n (.lst ([PV.int k, .int b].set 1 (.int size))) = X S n k size := by
    simp [X, at_]
  rw [e0]
  obtain ⟨v, k1, b1, e1, a1, a2, ws, ts, rfl, hp⟩ := gcall (pool_ok (d + 13) ns hl) hb (k := k) (b := size) (ρ := [sc, some (.ref n), some (.int size), none, none, none, none, none, none]) (es := [(.var 0), (.var 1)]) (S0 := X S n k size) (by omega) (es_cons rfl (es_cons rfl (d_nil _ _ _))) (show (Ge (d + 16)).glob 25 = some (.fn 14) from rfl)
  refine st_asg e1 ?_
  let ρ3 : FF.Env := [sc, some (.ref n), some (.int size), some (poolV ws ts), none, none, none, none, none]
  show WS (denSs whlL Γ _ ρ3 _) _
  obtain ⟨m, k2, b2, e2, a3, a4, a5, a6⟩ := dr' (ρ := ρ3) (k := k1) (b := b1) (e := .con (.int 4)) (many := 4) hb (by omega) (by omega) rfl rfl rfl
  have dk : GD (d + 16) 17 300 (fun n => [.lst (ns.map PV.int), .ref n, poolV ws ts]) isD := decl_ok (d + 10) ns hl ws ts hp
  have hm : m.toNat * 300 ≤ 3 * 300 := Nat.mul_le_mul_right _ (by omega)
  obtain ⟨ys, k3, b3, q1, q2, q3, q4⟩ := v_compG (Γ := Γ) (ρ := ρ3) (S := S) (n := n) (S0 := X S n k1 b1) (k := k2) (b := b2) (t := .one 6) (sk := .range1) (es := [(.call .chg 24 [(.var 0), (.var 1), (.con (.int 4))])]) (e := .call .chg 28 [(.var 0), (.var 1), (.var 3)]) (vs := [.int m]) (xs := List.range m.toNat) (cc := 300) (B := k2 + m.toNat * 300) (fun (i : Nat) => PV.int (i : Int)) (fun _ v => isD v) (es_cons e2 (d_nil _ _ _)) (rangeM m _ a5 (by omega)) (by simp; unfold cap; omega) (by simp) (fun x hx k' b' hk' =>
    ⟨_, rfl, gcall dk hb (by omega) (es_cons rfl (es_cons rfl (es_cons rfl (d_nil _ _ _)))) rfl⟩)
  simp only [List.length_range] at q3
  obtain ⟨ds, rfl, p2⟩ := f2_ex q4
  have dl : ds.length ≤ 3 := by
    have := f2_len p2
    simp at this
    omega
  have dg : ∀ x ∈ ds, gD x := fun x h => by
    obtain ⟨_, _, h2⟩ := f2_mem p2 x h
    exact h2
  refine st_asg q1 ?_
  refine st_asg (v := .ref S.length) (S1 := X (S ++ [.lst []]) n k3 b3) (by
    rw [← X_push hb]
    simp [X_len]) ?_
  let ρ5 : Option PV → Option PV → FF.Env := fun o6 o7 => [sc, some (.ref n), some (.int size), some (poolV ws ts), some (.lst (ds.map encD)), some (.ref S.length), o6, o7, none]
  show WS (denSs whlL Γ _ (ρ5 none none) _) _
  have hpush : ∀ fs : List Fn, Bs (S ++ [.lst (fs.map encFn)]) n := fun fs => hb.push (by rw [lw_lst]; exact lows_fns _ fs)
  obtain ⟨z, k4, b4, e4, a7, a8, a9, a10⟩ := dr' (ρ := ρ5 none none) (k := k3) (b := b3) (e := .con (.int 3)) (many := 3) (hpush []) (by omega) (by omega) rfl rfl rfl
  have cost : ∀ r : Nat, r ≤ 2 → (7 + cE 3) * r ≤ 14 + 2 * cE 3 := fun r hr => by
    have : (7 + cE 3) * r ≤ (7 + cE 3) * 2 := Nat.mul_le_mul_left _ hr
    omega
  have x3 : GD (d + 16) 20 (cE 3) (fun n => [.lst (ns.map PV.int), .ref n, poolV ws ts, .int 4]) (isE 3) := expr_ok ns hl ws ts hp 3 (d + 2) 4 (by omega)
  have x4 : GD (d + 16) 20 (cE 4) (fun n => [.lst (ns.map PV.int), .ref n, poolV ws ts, .int 5]) (isE 4) := expr_ok ns hl ws ts hp 4 d 5 (by omega)
  have e4' : denEs Γ [(.call .chg 24 [(.var 0), (.var 1), (.con (.int 3))])] (ρ5 none none) (X (S ++ [.lst []]) n k3 b3) = .ok [.int z] (X (S ++ [.lst []]) n k4 b4) := es_cons e4 (d_nil _ _ _)
  refine st_for (fun (i : Nat) => PV.int (i : Int)) (fun r ρ T => ∃ (fs : List Fn) (o6 o7 : Option PV) (k' : Nat) (b' : Int), T = X (S ++ [.lst (fs.map encFn)]) n k' b' ∧ ρ = ρ5 o6 o7 ∧ fs.length + r.length = z.toNat ∧ k' + (7 + cE 3) * r.length ≤ k4 + (7 + cE 3) * z.toNat ∧ k ≤ k' ∧ ∀ f ∈ fs, gFn f) (xs := List.range z.toNat) (vs := [.int z]) (S1 := X (S ++ [.lst []]) n k4 b4) e4' (by exact rangeM z _ a9 (by omega)) ⟨[], none, none, k4, b4, rfl, rfl, by simp, by simp, by omega, by simp⟩ (fun x r ρ T ⟨fs, o6, o7, k', b', hT, hρ, hlen, hkk, hk3, hfs⟩ => ?_) fun ρ T ⟨fs, o6, o7, k', b', hT, hρ, hlen, hkk, hk3, hfs⟩ => ?_
  · subst hT hρ
    refine ⟨ρ5 (some (.int x)) o7, rfl, ?_⟩
    have c1 := cost z.toNat (by omega)
    simp only [List.length_cons, Nat.mul_add, Nat.mul_one] at hlen hkk
    have hb' := hpush fs
    obtain ⟨us, k6, b6, r1, r2, r3, ul, ug⟩ := words_turn (d + 14) ns hl ws ts hp (ρ := ρ5 (some (.int x)) o7) (k := k') (b := b') hb' (by omega) rfl rfl rfl
    refine st_asg r1 ?_
    obtain ⟨f, k8, b8, e8, h5, h6, gf⟩ := fn_turn (d + 14) (cE 3) ns hl ws ts hp x3 (ρ := ρ5 (some (.int x)) (some (.lst (us.map PV.str)))) (k := k6) (b := b6) hb' (by omega) rfl rfl rfl rfl ul ug
    refine st_expr (v_appX hb rfl e8 (by simp; omega)) ?_
    refine st_nil ⟨fs ++ [f], some (.int x), some (.lst (us.map PV.str)), k8, b8, by simp, rfl, by simp; omega, by omega, by omega, fun g hg => ?_⟩
    rcases List.mem_append.mp hg with h | h
    · exact hfs g h
    · rw [List.mem_singleton.mp h]
      exact gf
  · subst hT hρ
    have c1 := cost z.toNat (by omega)
    simp at hlen hkk
    have hb' := hpush fs
    obtain ⟨v, k8, b8, e8, h5, h6, e, rfl, y1, y2, y3, y4⟩ := gcall x4 hb' (k := k') (b := b') (ρ := ρ5 o6 o7) (es := [(.var 0), (.var 1), (.var 3), (.con (.int 5))]) (S0 := X (S ++ [.lst (fs.map encFn)]) n k' b') (by omega) (es_cons rfl (es_cons rfl (es_cons rfl (es_cons rfl (d_nil _ _ _))))) (show (Ge (d + 16)).glob 31 = some (.fn 20) from rfl)
    have n4 : nE 4 = 26801 := by decide
    rw [n4] at y4
    refine st_ret (v := .tup [.lst (ds.map encD), .ref S.length, encE e]) (S1 := X (S ++ [.lst (fs.map encFn)]) n k8 b8) (by
      rw [d_tup, es_cons (v := .lst (ds.map encD)) rfl (es_cons (v := .ref S.length) rfl (es_cons e8 (d_nil _ _ _)))]
      simp) ⟨k8, b8, ⟨ds, fs, e⟩, (X_push hb _).symm, rfl, by omega, by omega, ⟨dl, dg, by show fs.length ≤ 2; omega, hfs, y1, by show dpE e ≤ 24; omega, by show tdE e ≤ 56; omega, by show nodE e ≤ 27000; omega⟩, y2, y3, y4⟩
end LK16
set_option Elab.async false
set_option linter.all false
set_option autoImplicit false
set_option maxRecDepth 100000
set_option maxHeartbeats 1000000
namespace LK16
open PySem FF L2
theorem sh_z : sh [122] := ⟨by decide, by decide⟩
theorem long_ok (d : Nat) (ns : List Int) (hl : ns.length ≤ 63) (p : Pg) (gp : gP p) (p5 : dpE p.m ≤ 5) (p18 : tdE p.m ≤ 18) (pn : nodE p.m ≤ 26801) : GD (d + 3) 37 2 (fun n => [.lst (ns.map PV.int), .ref n, encP p]) isP := by
  refine GD_of (fun v ⟨x, e, _⟩ m => by rw [e]; exact low_encP m x) fun S n k b hb hk => ?_
  refine callW fun_37 rfl ?_
  let Γ := Ge (d + 2)
  let sc : Option PV := some (.lst (ns.map PV.int))
  refine st_asg (v := encE p.m) (S1 := X S n k b) (by simp [encP]) ?_
  obtain ⟨way, k1, b1, e1, a1, a2, a3, a4⟩ := dr d ns hl (ρ := [sc, some (.ref n), some (encP p), some (encE p.m), none, none]) (k := k) (b := b) (e := .con (.int 16)) (many := 16) hb (by omega) (by omega) rfl rfl rfl
  refine st_asg e1 ?_
  let ρ4 : Ex → Option PV → FF.Env := fun e o5 => [sc, some (.ref n), some (encP p), some (encE e), some (.int way), o5]
  show WS (denSs whlL Γ _ (ρ4 p.m none) _) _
  obtain ⟨q, k2, b2, e2, a5, a6, a7, a8⟩ := dr d ns hl (ρ := ρ4 p.m none) (k := k1) (b := b1) (e := .con (.int 20)) (many := 20) hb (by omega) (by omega) rfl rfl rfl
  let N : Int := q * (if way < 4 then 1 else 0)
  have hN : 0 ≤ N ∧ N < 20 := by
    show 0 ≤ q * (if way < 4 then 1 else 0) ∧ q * (if way < 4 then 1 else 0) < 20
    split <;> omega
  have eN : denEs Γ [(.bin .mul (.call .chg 24 [(.var 0), (.var 1), (.con (.int 20))]) (.blt false .int [(.cmp .lt (.var 4) (.con (.int 4)))]))] (ρ4 p.m none) (X S n k1 b1) = .ok [.int N] (X S n k2 b2) := by
    refine es_cons ?_ (d_nil _ _ _)
    have q64 : q.natAbs < 18446744073709551616 := by omega
    have b1 : denE Γ (.blt false .int [(.cmp .lt (.var 4) (.con (.int 4)))]) (ρ4 p.m none) (X S n k2 b2) = .ok (.int (if way < 4 then 1 else 0)) (X S n k2 b2) := by
      by_cases c : way < 4 <;> simp [ρ4, c]
    rw [d_bin, e2, bind_ok_, b1, bind_ok_]
    simp only [vw_int, vb_mul, vm_int]
    rw [if_pos (by simp [q64])]
    rfl
  refine st_for (fun (i : Nat) => PV.int (i : Int)) (fun r ρ T => T = X S n k2 b2 ∧ ∃ (e : Ex) (o5 : Option PV), ρ = ρ4 e o5 ∧ r.length ≤ 19 ∧ gE e ∧ dpE e + r.length ≤ 24 ∧ tdE e + 2 * r.length ≤ 56 ∧ nodE e + 4 * r.length ≤ 27000 ∧ ∀ x ∈ r, x < 20) (xs := List.range N.toNat) (vs := [.int N]) (S1 := X S n k2 b2) eN (by exact rangeM N _ hN.1 (by omega)) ⟨rfl, p.m, none, rfl, by simp; omega, gp.m, by simp; omega, by simp; omega, by simp; omega, fun x hx => by have := List.mem_range.mp hx; omega⟩ (fun x r ρ T ⟨hT, e, o5, hρ, hr, ge, he1, he2, he3, hx⟩ => ?_) fun ρ T ⟨hT, e, o5, hρ, hr, ge, he1, he2, he3, hx⟩ => ?_
  · subst hT hρ
    refine ⟨ρ4 e (some (.int x)), rfl, ?_⟩
    have x20 := hx x List.mem_cons_self
    simp only [List.length_cons] at hr he1 he2 he3
    have nxt : ∀ e' : Ex, gE e' → dpE e' ≤ 1 + max (dpE e) 1 → tdE e' ≤ 2 + max (tdE e) 1 → nodE e' ≤ 2 + nodE e → WS (denSs whlL Γ [] (ρ4 e' (some (.int x))) (X S n k2 b2)) ⟨fun ρ T => T = X S n k2 b2 ∧ ∃ (e : Ex) (o5 : Option PV), ρ = ρ4 e o5 ∧ r.length ≤ 19 ∧ gE e ∧ dpE e + r.length ≤ 24 ∧ tdE e + 2 * r.length ≤ 56 ∧ nodE e + 4 * r.length ≤ 27000 ∧ ∀ x ∈ r, x < 20, fun _ _ => False, fun _ _ => False, fun _ _ => False⟩ := fun e' g1 g2 g3 g4 =>
      st_nil ⟨rfl, e', _, rfl, by omega, g1, by omega, by omega, by omega, fun y hy => hx y (List.mem_cons_of_mem _ hy)⟩
    have conv : ∀ {Po1 : Po} {x : SRes}, WS x ⟨Po1.n, fun _ _ => False, fun _ _ => False, fun _ _ => False⟩ → WS x Po1 := fun h => WS.mono h (fun _ _ z => z) (fun _ _ z => z.elim) (fun _ _ z => z.elim) fun _ _ z => z.elim
    refine conv ?_
    have gz : gE (.word [122]) := sh_z
    have v3 : ∀ T, denE Γ (.var 3) (ρ4 e (some (.int x))) T = .ok (encE e) T := fun T => rfl
    by_cases c0 : way = 0
    · have b : (way == 0) = true := by simp [c0]
      refine st_ifT (S1 := X S n k2 b2) (by simp [ρ4, b]) ?_
      obtain ⟨c, c1, c2⟩ := v_sign (Γ := Γ) (ρ := ρ4 e (some (.int x))) (S := X S n k2 b2) (S1 := X S n k2 b2) (S2 := X S n k2 b2) (o := .con (.str [43, 45, 42, 60, 61])) (ix := .bin .mod (.var 5) (.con (.int 5))) (lt := [43, 45, 42, 60, 61]) (i := (x : Int) % 5) (d_con _ _ _ _) (by simp [ρ4]) (by decide) (by omega) (by simp; omega)
      refine st_asg (v := encE (.deed c e (.num x))) (S1 := X S n k2 b2) (by
        have o : okI 4 = true := by decide
        have n1 : denE Γ (.tup [(.con (.str [110, 117, 109, 98, 101, 114])), (.var 5)]) (ρ4 e (some (.int x))) (X S n k2 b2) = .ok (encE (.num x)) (X S n k2 b2) := by simp [ρ4, encE]
        rw [d_tup, es_cons (d_con _ _ _ _) (es_cons c1 (es_cons (v3 _) (es_cons n1 (d_nil _ _ _))))]
        simp [encE, o]) ?_
      exact nxt (.deed c e (.num x)) ⟨c2, ge, by omega, by omega⟩ (by simp only [dpE]; omega) (by simp only [tdE]; omega) (by simp only [nodE]; omega)
    have b : (way == 0) = false := by simp [c0]
    refine st_ifF (S1 := X S n k2 b2) (by simp [ρ4, b]) ?_
    have wz : ∀ T, denE Γ (.tup [(.con (.str [119, 111, 114, 100])), (.con (.str [122]))]) (ρ4 e (some (.int x))) T = .ok (encE (.word [122])) T := fun T => by simp [encE]
    by_cases c1 : way = 1
    · have b : (way == 1) = true := by simp [c1]
      refine st_ifT (S1 := X S n k2 b2) (by simp [ρ4, b]) ?_
      refine st_asg (v := encE (.deed 42 (.word [122]) e)) (S1 := X S n k2 b2) (by
        have o : okI 4 = true := by decide
        rw [d_tup, es_cons (d_con _ _ _ _) (es_cons (d_con _ _ _ _) (es_cons (wz _) (es_cons (v3 _) (d_nil _ _ _))))]
        simp [encE, o]) ?_
      exact nxt (.deed 42 (.word [122]) e) ⟨by omega, gz, ge⟩ (by simp only [dpE]; omega) (by simp only [tdE]; omega) (by simp only [nodE]; omega)
    have b : (way == 1) = false := by simp [c1]
    refine st_ifF (S1 := X S n k2 b2) (by simp [ρ4, b]) ?_
    by_cases c2 : way = 2
    · have b : (way == 2) = true := by simp [c2]
      refine st_ifT (S1 := X S n k2 b2) (by simp [ρ4, b]) ?_
      refine st_asg (v := encE (.let_ [122] e (.word [122]))) (S1 := X S n k2 b2) (by
        have o : okI 4 = true := by decide
        rw [d_tup, es_cons (d_con _ _ _ _) (es_cons (d_con _ _ _ _) (es_cons (v3 _) (es_cons (wz _) (d_nil _ _ _))))]
        simp [encE, o]) ?_
      exact nxt (.let_ [122] e (.word [122])) ⟨sh_z, ge, gz⟩ (by simp only [dpE]; omega) (by simp only [tdE]; omega) (by simp only [nodE]; omega)
    have b : (way == 2) = false := by simp [c2]
    refine st_ifF (S1 := X S n k2 b2) (by simp [ρ4, b]) ?_
    refine st_asg (v := encE (.call [122] [e])) (S1 := X S n k2 b2) (by
      simp [ρ4, encE, encEs]) ?_
    exact nxt (.call [122] [e]) ⟨sh_z, by simp, ge, trivial⟩ (by simp only [dpE, dpEs]; omega) (by simp only [tdE, tdEs]; omega) (by simp only [nodE, nodEs]; omega)
  · subst hT hρ
    refine st_ret (v := encP ⟨p.ds, p.fs, e⟩) (S1 := X S n k2 b2) (by simp [ρ4, encP]) ⟨k2, b2, rfl, by omega, by omega, ⟨p.ds, p.fs, e⟩, rfl, ?_⟩
    simp only [List.length_nil] at he1 he2 he3
    exact ⟨gp.dl, gp.ds, gp.fl, gp.fs, ge, by show dpE e ≤ 24; omega, by show tdE e ≤ 56; omega, by show nodE e ≤ 27000; omega⟩
end LK16
set_option Elab.async false
set_option linter.all false
set_option autoImplicit false
set_option maxRecDepth 100000
set_option maxHeartbeats 1000000
namespace LK16
open PySem FF L2
/-! ### texts -/
def spanT (lo hi : Int) : List Nat := if lo = hi then numT lo else if hi = 999999999 then numT lo ++ [46, 46] else (if lo = -999999999 then [] else numT lo) ++ [46, 46] ++ numT hi
theorem spanT_ok {lo hi : Int} (h : gn lo ∧ gn hi) : (spanT lo hi).length ≤ 24 ∧ ∀ c ∈ spanT lo hi, c < 128 := by
  obtain ⟨a1, a2⟩ := numT_ok h.1.1 h.1.2
  obtain ⟨b1, b2⟩ := numT_ok h.2.1 h.2.2
  have d46 : ∀ c ∈ ([46, 46] : List Nat), c < 128 := by decide
  unfold spanT
  split
  · exact ⟨by omega, a2⟩
  split
  · exact ⟨by simp only [List.length_append, List.length_cons, List.length_nil]; omega, lt_app a2 d46⟩
  split
  · exact ⟨by simp only [List.length_append, List.length_cons, List.length_nil]; omega, lt_app (lt_app (by simp) d46) b2⟩
  · exact ⟨by simp only [List.length_append, List.length_cons, List.length_nil]; omega, lt_app (lt_app a2 d46) b2⟩
/-- .. in brackets, or nothing -/
def listedT (ts : List (List Nat)) : List Nat := if ts = [] then [] else [40] ++ TL.joinL [44, 32] ts ++ [41]
theorem listedT_ok {ts : List (List Nat)} (h : ∀ t ∈ ts, ∀ c ∈ t, c < 128) : (listedT ts).length ≤ (ts.map (·.length)).sum + 2 * ts.length + 2 ∧ ∀ c ∈ listedT ts, c < 128 := by
  unfold listedT
  split
  · simp
  · have j1 := joinL_len [44, 32] ts
    have j2 := joinL_lt (y := [44, 32]) (by decide) h
    simp only [List.length_cons, List.length_nil] at j1
    exact ⟨by simp only [List.length_append, List.length_cons, List.length_nil]; omega, lt_app (lt_app (by decide) j2) (by decide)⟩
/-- the first word of a shape -/
def nam : Sh → List Nat
  | .any => sAny
  | .word _ => sWord
  | .span _ _ => sSpan
  | .made _ _ => sMade
  | .either _ _ => sEither
  | .also _ _ => sAlso
theorem nam_ix (S : Store) (s : Sh) : vidx S (encS s) (.int 0) = some (.str (nam s)) := by cases s <;> simp [encS, nam]
theorem nam_lt (s : Sh) : ((nam s).all fun c => decide (c < 128)) = true := by cases s <;> rfl
def lside (s : Sh) (t : List Nat) : List Nat := if nam s = sAlso then paren t else t
def rside (s : Sh) (t : List Nat) : List Nat := if nam s = sAlso ∨ nam s = sEither then paren t else t
mutual
/-- a shape in signs -/
def tx : Sh → List Nat
  | .any => [95]
  | .word w => w
  | .span lo hi => spanT lo hi
  | .made t ps => t ++ listedT (txs ps)
  | .either a b => lside a (tx a) ++ [32, 124, 32] ++ rside b (tx b)
  | .also p w => tx p ++ [32, 97, 115, 32] ++ w
def txs : List Sh → List (List Nat)
  | [] => []
  | s :: ss => tx s :: txs ss
end
theorem txs_map : ∀ ss : List Sh, txs ss = ss.map tx
  | [] => rfl
  | s :: ss => by simp [txs, txs_map ss]
theorem lside_ok {s : Sh} {t : List Nat} (h : ∀ c ∈ t, c < 128) : (lside s t).length ≤ t.length + 2 ∧ ∀ c ∈ lside s t, c < 128 := by
  unfold lside
  split
  · exact ⟨Nat.le_of_eq (paren_ok h).1, (paren_ok h).2⟩
  · exact ⟨by omega, h⟩
theorem rside_ok {s : Sh} {t : List Nat} (h : ∀ c ∈ t, c < 128) : (rside s t).length ≤ t.length + 2 ∧ ∀ c ∈ rside s t, c < 128 := by
  unfold rside
  split
  · exact ⟨Nat.le_of_eq (paren_ok h).1, (paren_ok h).2⟩
  · exact ⟨by omega, h⟩
theorem gs3 : ∀ c ∈ ([32, 124, 32] : List Nat), c < 128 := by decide
theorem gs4 : ∀ c ∈ ([32, 97, 115, 32] : List Nat), c < 128 := by decide
mutual
theorem tx_ok : ∀ s : Sh, gS s → (tx s).length ≤ 40 * nod s ∧ ∀ c ∈ tx s, c < 128
  | .any, _ => by
    refine ⟨by simp [tx, nod], ?_⟩
    simp only [tx]
    decide
  | .word w, h => by
    have := h.1
    simp only [tx, nod]
    exact ⟨by omega, h.2⟩
  | .span lo hi, h => by
    obtain ⟨h1, h2⟩ := spanT_ok h
    simp only [tx, nod]
    exact ⟨by omega, h2⟩
  | .made t ps, h => by
    obtain ⟨h1, h2, h3⟩ := h
    obtain ⟨k1, k2⟩ := txs_ok ps h3
    obtain ⟨l1, l2⟩ := listedT_ok k2
    have ht := h1.1
    have e : (txs ps).length = ps.length := by rw [txs_map, List.length_map]
    simp only [tx, nod]
    exact ⟨by rw [List.length_append]; omega, lt_app h1.2 l2⟩
  | .either a b, h => by
    obtain ⟨a1, a2⟩ := tx_ok a h.1
    obtain ⟨b1, b2⟩ := tx_ok b h.2
    obtain ⟨c1, c2⟩ := lside_ok (s := a) a2
    obtain ⟨d1, d2⟩ := rside_ok (s := b) b2
    simp only [tx, nod]
    exact ⟨by simp only [List.length_append, List.length_cons, List.length_nil]; omega, lt_app (lt_app c2 gs3) d2⟩
  | .also p w, h => by
    obtain ⟨a1, a2⟩ := tx_ok p h.1
    have hw := h.2.1
    simp only [tx, nod]
    exact ⟨by simp only [List.length_append, List.length_cons, List.length_nil]; omega, lt_app (lt_app a2 gs4) h.2.2⟩
theorem txs_ok : ∀ ss : List Sh, gSs ss → ((txs ss).map (·.length)).sum ≤ 40 * nods ss ∧ ∀ x ∈ txs ss, ∀ c ∈ x, c < 128
  | [], _ => by simp [txs, nods]
  | s :: ss, h => by
    obtain ⟨a1, a2⟩ := tx_ok s h.1
    obtain ⟨b1, b2⟩ := txs_ok ss h.2
    simp only [txs, nods, List.map_cons, List.sum_cons]
    refine ⟨by omega, fun x hx => ?_⟩
    rcases List.mem_cons.mp hx with rfl | hx
    · exact a2
    · exact b2 x hx
end
mutual
/-- a kind in signs -/
def kT : Kd → List Nat
  | .num => sNum
  | .free n => [if n = 0 then 65 else 66]
  | .made w ks => w ++ listedT (kTs ks)
def kTs : List Kd → List (List Nat)
  | [] => []
  | k :: ks => kT k :: kTs ks
end
/-- what stands in brackets within others -/
def isInn : Ex → Bool
  | .deed _ _ _ => true
  | .let_ _ _ _ => true
  | .mat _ _ => true
  | _ => false
def inn (e : Ex) (t : List Nat) : List Nat := if isInn e = true then paren t else t
theorem inn_ok {e : Ex} {t : List Nat} (h : ∀ c ∈ t, c < 128) : (inn e t).length ≤ t.length + 2 ∧ ∀ c ∈ inn e t, c < 128 := by
  unfold inn
  split
  · exact ⟨Nat.le_of_eq (paren_ok h).1, (paren_ok h).2⟩
  · exact ⟨by omega, h⟩
mutual
/-- an expression in signs -/
def eT : Ex → List Nat
  | .num i => numT i
  | .word w => w
  | .make t ps => t ++ listedT (eTs ps)
  | .call w ps => w ++ [40] ++ TL.joinL [44, 32] (eTs ps) ++ [41]
  | .field e w => inn e (eT e) ++ [46] ++ w
  | .deed c a b => inn a (eT a) ++ [32] ++ [c] ++ [32] ++ inn b (eT b)
  | .let_ w a b => [108, 101, 116, 32] ++ w ++ [32, 61, 32] ++ eT a ++ [32, 105, 110, 32] ++ eT b
  | .mat e rs => [109, 97, 116, 99, 104, 32] ++ eT e ++ [32, 123] ++ TL.joinL [59, 32] (rTs rs) ++ [125]
def eTs : List Ex → List (List Nat)
  | [] => []
  | e :: es => eT e :: eTs es
def rT : Rl → List Nat
  | .plain s b => tx s ++ [32, 45, 62, 32] ++ eT b
  | .guard s g b => tx s ++ [32, 105, 102, 32] ++ eT g ++ [32, 45, 62, 32] ++ eT b
def rTs : List Rl → List (List Nat)
  | [] => []
  | r :: rs => rT r :: rTs rs
end
theorem eTs_map : ∀ es : List Ex, eTs es = es.map eT
  | [] => by simp [eTs]
  | e :: es => by simp [eTs, eTs_map es]
theorem rTs_map : ∀ rs : List Rl, rTs rs = rs.map rT
  | [] => by simp [rTs]
  | r :: rs => by simp [rTs, rTs_map rs]
mutual
theorem eT_ok : ∀ e : Ex, gE e → (eT e).length ≤ 40 * nodE e ∧ ∀ c ∈ eT e, c < 128
  | .num i, h => by
    obtain ⟨a1, a2⟩ := numT_ok h.1 h.2
    simp only [eT, nodE]
    exact ⟨by omega, a2⟩
  | .word w, h => by
    have := h.1
    simp only [eT, nodE]
    exact ⟨by omega, h.2⟩
  | .make t ps, h => by
    obtain ⟨h1, h2, h3⟩ := h
    obtain ⟨k1, k2⟩ := eTs_ok ps h3
    obtain ⟨l1, l2⟩ := listedT_ok k2
    have ht := h1.1
    have e : (eTs ps).length = ps.length := by rw [eTs_map, List.length_map]
    simp only [eT, nodE]
    exact ⟨by rw [List.length_append]; omega, lt_app h1.2 l2⟩
  | .call t ps, h => by
    obtain ⟨h1, h2, h3⟩ := h
    obtain ⟨k1, k2⟩ := eTs_ok ps h3
    have j1 := joinL_len [44, 32] (eTs ps)
    have j2 := joinL_lt (y := [44, 32]) (by decide) k2
    have ht := h1.1
    have e : (eTs ps).length = ps.length := by rw [eTs_map, List.length_map]
    simp only [List.length_cons, List.length_nil] at j1
    simp only [eT, nodE]
    exact ⟨by simp only [List.length_append, List.length_cons, List.length_nil]; omega, lt_app (lt_app (lt_app h1.2 (by decide)) j2) (by decide)⟩
  | .field e w, h => by
    obtain ⟨a1, a2⟩ := eT_ok e h.1
    obtain ⟨b1, b2⟩ := inn_ok (e := e) a2
    have hw := h.2.1
    simp only [eT, nodE]
    exact ⟨by simp only [List.length_append, List.length_cons, List.length_nil]; omega, lt_app (lt_app b2 (by decide)) h.2.2⟩
  | .deed c a b, h => by
    obtain ⟨a1, a2⟩ := eT_ok a h.2.1
    obtain ⟨b1, b2⟩ := inn_ok (e := a) a2
    obtain ⟨c1, c2⟩ := eT_ok b h.2.2
    obtain ⟨d1, d2⟩ := inn_ok (e := b) c2
    have hc : ∀ x ∈ [c], x < 128 := by simpa using h.1
    simp only [eT, nodE]
    exact ⟨by simp only [List.length_append, List.length_cons, List.length_nil]; omega, lt_app (lt_app (lt_app (lt_app b2 (by decide)) hc) (by decide)) d2⟩
  | .let_ w a b, h => by
    obtain ⟨a1, a2⟩ := eT_ok a h.2.1
    obtain ⟨c1, c2⟩ := eT_ok b h.2.2
    have hw := h.1.1
    simp only [eT, nodE]
    exact ⟨by simp only [List.length_append, List.length_cons, List.length_nil]; omega, lt_app (lt_app (lt_app (lt_app (lt_app (by decide) h.1.2) (by decide)) a2) (by decide)) c2⟩
  | .mat e rs, h => by
    obtain ⟨a1, a2⟩ := eT_ok e h.1
    obtain ⟨k1, k2⟩ := rTs_ok rs h.2.2
    have j1 := joinL_len [59, 32] (rTs rs)
    have j2 := joinL_lt (y := [59, 32]) (by decide) k2
    have hl := h.2.1.2
    have e : (rTs rs).length = rs.length := by rw [rTs_map, List.length_map]
    simp only [List.length_cons, List.length_nil] at j1
    simp only [eT, nodE]
    exact ⟨by simp only [List.length_append, List.length_cons, List.length_nil]; omega, lt_app (lt_app (lt_app (lt_app (by decide) a2) (by decide)) j2) (by decide)⟩
theorem eTs_ok : ∀ es : List Ex, gEs es → ((eTs es).map (·.length)).sum ≤ 40 * nodEs es ∧ ∀ x ∈ eTs es, ∀ c ∈ x, c < 128
  | [], _ => by simp [eTs, nodEs]
  | s :: ss, h => by
    obtain ⟨a1, a2⟩ := eT_ok s h.1
    obtain ⟨b1, b2⟩ := eTs_ok ss h.2
    simp only [eTs, nodEs, List.map_cons, List.sum_cons]
    refine ⟨by omega, fun x hx => ?_⟩
    rcases List.mem_cons.mp hx with rfl | hx
    · exact a2
    · exact b2 x hx
theorem rT_ok : ∀ r : Rl, gR r → (rT r).length ≤ 40 * nodR r ∧ ∀ c ∈ rT r, c < 128
  | .plain s b, h => by
    obtain ⟨a1, a2⟩ := tx_ok s h.1.1
    have hn := h.1.2.2
    obtain ⟨b1, b2⟩ := eT_ok b h.2
    simp only [rT, nodR]
    exact ⟨by simp only [List.length_append, List.length_cons, List.length_nil]; omega, lt_app (lt_app a2 (by decide)) b2⟩
  | .guard s g b, h => by
    obtain ⟨a1, a2⟩ := tx_ok s h.1.1
    have hn := h.1.2.2
    obtain ⟨b1, b2⟩ := eT_ok b h.2.2
    obtain ⟨c1, c2⟩ := eT_ok g h.2.1
    simp only [rT, nodR]
    exact ⟨by simp only [List.length_append, List.length_cons, List.length_nil]; omega, lt_app (lt_app (lt_app (lt_app a2 (by decide)) c2) (by decide)) b2⟩
theorem rTs_ok : ∀ rs : List Rl, gRs rs → ((rTs rs).map (·.length)).sum ≤ 40 * nodRs rs ∧ ∀ x ∈ rTs rs, ∀ c ∈ x, c < 128
  | [], _ => by simp [rTs, nodRs]
  | s :: ss, h => by
    obtain ⟨a1, a2⟩ := rT_ok s h.1
    obtain ⟨b1, b2⟩ := rTs_ok ss h.2
    simp only [rTs, nodRs, List.map_cons, List.sum_cons]
    refine ⟨by omega, fun x hx => ?_⟩
    rcases List.mem_cons.mp hx with rfl | hx
    · exact a2
    · exact b2 x hx
end
end LK16
set_option Elab.async false
set_option linter.all false
set_option autoImplicit false
set_option maxRecDepth 100000
set_option maxHeartbeats 1000000
namespace LK16
open PySem FF L2
theorem okB {n : Nat} (h : n ≤ 16000000) : okI n = true := okI_of (by unfold cap; omega)
theorem v_ct {Γ : Env2} {ρ : FF.Env} {S S1 S2 : Store} {a b : E} {x y : List Nat} (h1 : denE Γ a ρ S = .ok (.str x) S1) (h2 : denE Γ b ρ S1 = .ok (.str y) S2) (hl : x.length + y.length ≤ 16000000) : denE Γ (.bin .add a b) ρ S = .ok (.str (x ++ y)) S2 := by
  rw [d_bin, h1, bind_ok_, h2, bind_ok_]
  simp only [vw_str, vb_add, va_str, okB hl, if_true]
  rfl
theorem fits_strs {ts : List (List Nat)} (h : ∀ t ∈ ts, ∀ c ∈ t, c < 128) : fit 1 (.lst (ts.map PV.str)) = true := by
  have : fits 0 (ts.map PV.str) = true := fits_of fun v hv => by
    obtain ⟨t, ht, rfl⟩ := List.mem_map.mp hv
    exact fit_str (h t ht)
  simpa [fit] using this
theorem llisted_ok (d : Nat) (ts : List (List Nat)) (S : Store) (h : ∀ t ∈ ts, ∀ c ∈ t, c < 128) (hl : (ts.map (·.length)).sum + 2 * ts.length ≤ 15000000) : K (d + 1) 28 [.lst (ts.map PV.str)] S = .ok (.str (listedT ts)) S := by
  have hnil := eqV_nil (by omega) (fits_strs h)
  refine callE (callW fun_28 rfl ?_)
  let Γ := Ge d
  let ρ : FF.Env := [some (.lst (ts.map PV.str))]
  have e0 : denE Γ (.cmp .eq (.var 0) (.lst false [])) ρ S = .ok (.bl (decide (ts = []))) S := by
    have := c_eq (Γ := Γ) (ρ := ρ) (S := S) (a := .var 0) (b := .lst false []) (x := .lst (ts.map PV.str)) (y := .lst []) rfl (by simp) hnil
    simpa using this
  have j := v_join (Γ := Γ) (ρ := ρ) (S := S) (S1 := S) (y := [44, 32]) (e := .var 0) (ts := ts) rfl (okB (by simp only [List.length_cons, List.length_nil]; omega))
  have jl := joinL_len [44, 32] ts
  simp only [List.length_cons, List.length_nil] at jl
  have e2 := v_ct (v_ct (d_con Γ ρ S (.str [40])) j (by simp only [List.length_cons, List.length_nil]; omega)) (d_con Γ ρ S (.str [41])) (by simp only [List.length_append, List.length_cons, List.length_nil]; omega)
  have e3 : denE Γ (.ife (.cmp .eq (.var 0) (.lst false [])) (.con (.str [])) (.bin .add (.bin .add (.con (.str [40])) (.bm .join (.con (.str [44, 32])) [(.var 0)])) (.con (.str [41])))) ρ S = .ok (.str (listedT ts)) S := by
    rw [d_ife, e0, bind_ok_]
    unfold listedT
    by_cases c : ts = []
    · simp only [c, decide_true, tr_bl, if_true]
      rfl
    · simp only [c, decide_false, tr_bl, if_false]
      exact e2
  exact st_ret e3 ⟨rfl, rfl⟩
theorem lnum_ok (d : Nat) (n : Int) (S : Store) (h : gn n) : K (d + 1) 29 [.int n] S = .ok (.str (numT n)) S := by
  refine callE (callW fun_29 rfl ?_)
  refine st_ret (v := .str (numT n)) (S1 := S) ?_ ⟨rfl, rfl⟩
  by_cases hn : n < 0
  · obtain ⟨l1, l2⟩ := digs_ok (n := -n) (by omega) (by have := h.1; omega)
    have lg := log_ok (n := -n) (by have := h.1; omega)
    rw [decide_eq_true_eq] at lg
    have lg2 : n.natAbs.log2 < 1920 := by
      have : (-n).natAbs = n.natAbs := Int.natAbs_neg n
      rw [this] at lg
      exact lg
    have c : ¬ 0 ≤ n := by omega
    unfold digs at l1
    have ok : okI (1 + (chars (toString (-n))).length) = true := okN (by omega)
    simp at l1 ok
    simp [hn, c, lg2, ok, numT, digs]
  · have c : 0 ≤ n := by omega
    obtain ⟨l1, l2⟩ := digs_ok c h.2
    have lg := log_ok (n := n) (by have := h.2; omega)
    rw [decide_eq_true_eq] at lg
    simp [hn, c, lg, numT, digs]
theorem lspan_ok (d : Nat) (lo hi : Int) (S : Store) (g : gn lo ∧ gn hi) : K (d + 2) 31 [.int lo, .int hi] S = .ok (.str (spanT lo hi)) S := by
  let Γ := Ge (d + 1)
  let ρ : FF.Env := [some (.int lo), some (.int hi)]
  have num : ∀ (n : Int) (e : E), gn n → denE Γ e ρ S = .ok (.int n) S → denE Γ (.call .val 40 [e]) ρ S = .ok (.str (numT n)) S := by
    intro n e a h
    refine v_callc (f := 29) (S1 := S) (es_cons h (d_nil _ _ _)) rfl ?_
    have q : Γ.call 29 [.int n] S = .ok (.str (numT n)) S := lnum_ok d n S a
    rw [q, bind_ok_]
    simp
  have nlo := num lo (.var 0) g.1 rfl
  have nhi := num hi (.var 1) g.2 rfl
  obtain ⟨a1, a2⟩ := numT_ok g.1.1 g.1.2
  obtain ⟨b1, b2⟩ := numT_ok g.2.1 g.2.2
  refine callE (callW fun_31 rfl ?_)
  show WS (denSs whlL Γ _ ρ S) _
  by_cases c1 : lo = hi
  · have b : (lo == hi) = true := by simp [c1]
    refine st_ifT (S1 := S) (by simp [ρ, b]) ?_
    exact st_ret nlo ⟨by unfold spanT; rw [if_pos c1], rfl⟩
  have b : (lo == hi) = false := by simp [c1]
  refine st_ifF (S1 := S) (by simp [ρ, b]) ?_
  by_cases c2 : hi = 999999999
  · have b : (hi == 999999999) = true := by simp [c2]
    refine st_ifT (S1 := S) (by simp [ρ, b]) ?_
    exact st_ret (v_ct nlo (d_con _ _ _ _) (by simp only [List.length_cons, List.length_nil]; omega)) ⟨by unfold spanT; rw [if_neg c1, if_pos c2], rfl⟩
  have b : (hi == 999999999) = false := by simp [c2]
  refine st_ifF (S1 := S) (by simp [ρ, b]) ?_
  have e1 : denE Γ (.ife (.cmp .gt (.var 0) (.neg (.con (.int 999999999)))) (.call .val 40 [(.var 0)]) (.con (.str []))) ρ S = .ok (.str (if lo = -999999999 then [] else numT lo)) S := by
    have e0 : denE Γ (.cmp .gt (.var 0) (.neg (.con (.int 999999999)))) ρ S = .ok (.bl (decide (-999999999 < lo))) S := rfl
    rw [d_ife, e0, bind_ok_]
    by_cases c3 : lo = -999999999
    · have : ¬ -999999999 < lo := by omega
      simp only [this, decide_false, tr_bl, c3, if_true]
      rfl
    · have : -999999999 < lo := by have := g.1.1; omega
      simp only [this, decide_true, tr_bl, if_neg c3]
      exact nlo
  have l3 : (if lo = -999999999 then [] else numT lo).length ≤ 11 := by
    split
    · simp
    · exact a1
  exact st_ret (v_ct (v_ct e1 (d_con _ _ _ _) (by simp only [List.length_cons, List.length_nil]; omega)) nhi (by simp only [List.length_append, List.length_cons, List.length_nil]; omega)) ⟨by unfold spanT; rw [if_neg c1, if_neg c2], rfl⟩
end LK16
set_option Elab.async false
set_option linter.all false
set_option autoImplicit false
set_option maxRecDepth 100000
set_option maxHeartbeats 1000000
namespace LK16
open PySem FF L2
/-- the first word told -/
theorem t_nam {Γ : Env2} {ρ : FF.Env} {S : Store} {x y : List Nat} {e : E} (h : denE Γ e ρ S = .ok (.str x) S) (hx : (x.all fun c => decide (c < 128)) = true) (hy : (y.all fun c => decide (c < 128)) = true) : testOf Γ (.cmp .eq e (.con (.str y))) ρ S = .ok (decide (x = y)) S :=
  t_of (c_eq h (d_con _ _ _ _) (eqL hx hy))
theorem nods_of : ∀ {ss : List Sh} {s : Sh}, s ∈ ss → nod s ≤ nods ss
  | x :: ss, s, h => by
    simp only [nods]
    rcases List.mem_cons.mp h with rfl | h
    · omega
    · have := nods_of h
      omega
theorem lshape_ok : ∀ (m : Nat) (D : Nat) (s : Sh) (S : Store), dpS s ≤ m → gS s → nod s ≤ 20000 → K (D + 2 + m) 32 [encS s] S = .ok (.str (tx s)) S := by
  intro m
  induction m with
  | zero => exact fun D s S h => by cases s <;> simp only [dpS] at h <;> omega
  | succ m ih =>
    intro D s S hd hg hn
    let Γ := Ge (D + 2 + m)
    have IH : ∀ (s : Sh) (e : E) (ρ : FF.Env), dpS s ≤ m → gS s → nod s ≤ 20000 → denE Γ e ρ S = .ok (encS s) S → denE Γ (.call .val 43 [e]) ρ S = .ok (.str (tx s)) S := by
      intro s e ρ h1 h2 h3 h4
      refine v_callc (f := 32) (S1 := S) (es_cons h4 (d_nil _ _ _)) rfl ?_
      have q : Γ.call 32 [encS s] S = .ok (.str (tx s)) S := ih D s S h1 h2 h3
      rw [q, bind_ok_]
      simp
    clear ih
    obtain ⟨t1, t2⟩ := tx_ok s hg
    refine callE (callW fun_32 rfl ?_)
    let ρ : FF.Env := [some (encS s), none, none]
    show WS (denSs whlL Γ _ ρ S) _
    have n0 : denE Γ (.idx (.var 0) (.con (.int 0))) ρ S = .ok (.str (nam s)) S := by
      have := nam_ix S s
      simp [ρ, this]
    have tst : ∀ y : List Nat, (y.all fun c => decide (c < 128)) = true → testOf Γ (.cmp .eq (.idx (.var 0) (.con (.int 0))) (.con (.str y))) ρ S = .ok (decide (nam s = y)) S := fun y hy => t_nam n0 (nam_lt s) hy
    cases s with
    | any =>
      refine st_ifT (S1 := S) (tst _ (by decide)) ?_
      exact st_ret (d_con _ _ _ _) ⟨rfl, rfl⟩
    | word w =>
      refine st_ifF (S1 := S) (tst _ (by decide)) ?_
      refine st_ifT (S1 := S) (tst _ (by decide)) ?_
      exact st_ret (v := .str w) (S1 := S) (by simp [ρ, encS]) ⟨rfl, rfl⟩
    | span lo hi =>
      refine st_ifF (S1 := S) (tst _ (by decide)) ?_
      refine st_ifF (S1 := S) (tst _ (by decide)) ?_
      refine st_ifT (S1 := S) (tst _ (by decide)) ?_
      have e : D + 2 + m = (D + m) + 2 := by omega
      have q : Γ.call 31 [.int lo, .int hi] S = .ok (.str (spanT lo hi)) S := by
        show callL whlL P (D + 2 + m) _ _ _ = _
        rw [e]
        exact lspan_ok (D + m) lo hi S hg
      exact st_ret (v := .str (spanT lo hi)) (S1 := S) (v_callc (Γ := Γ) (f := 31) (S1 := S) (vs := [.int lo, .int hi]) (by simp [ρ, encS]) rfl (by
        rw [q, bind_ok_]
        simp)) ⟨rfl, rfl⟩
    | made t ps =>
      simp only [dpS] at hd
      simp only [nod] at hn
      have hps : ∀ p ∈ ps, dpS p ≤ m := dpSs_le.mp (by omega)
      have gps := gSs_iff.mp hg.2.2
      refine st_ifF (S1 := S) (tst _ (by decide)) ?_
      refine st_ifF (S1 := S) (tst _ (by decide)) ?_
      refine st_ifF (S1 := S) (tst _ (by decide)) ?_
      refine st_ifT (S1 := S) (tst _ (by decide)) ?_
      obtain ⟨vs, c3, c4⟩ := v_comp (Γ := Γ) (ρ := ρ) (S := S) (t := .one 1) (k := .val) (es := [(.idx (.var 0) (.con (.int 2)))]) (e := .call .val 43 [(.var 1)]) (vs := [.tup (ps.map encS)]) (g := []) (xs := ps) encS (fun s v => v = PV.str (tx s)) (by simp [ρ, encS, encSs_map]) (by simp) rfl (by have := hg.2.1; unfold cap; omega) (fun x hx => by
        have hnx := nods_of hx
        exact ⟨[some (encS (.made t ps)), some (encS x), none], rfl, W.of (IH x (.var 1) _ (hps x hx) (gps x hx) (by omega) rfl) ⟨rfl, rfl⟩⟩)
      have c5 := f2_map c4
      have c6 : vs = (txs ps).map PV.str := by rw [c5, txs_map, List.map_map]; rfl
      rw [c6] at c3
      obtain ⟨k1, k2⟩ := txs_ok ps hg.2.2
      have kl : (txs ps).length = ps.length := by rw [txs_map, List.length_map]
      have kz := hg.2.1
      have kt := hg.1.1
      obtain ⟨l1, l2⟩ := listedT_ok k2
      have e : D + 2 + m = (D + 1 + m) + 1 := by omega
      have q : Γ.call 28 [.lst ((txs ps).map PV.str)] S = .ok (.str (listedT (txs ps))) S := by
        show callL whlL P (D + 2 + m) _ _ _ = _
        rw [e]
        exact llisted_ok (D + 1 + m) (txs ps) S k2 (by omega)
      have c7 : denE Γ (.call .val 39 [(.comp false (.one 1) .val [(.idx (.var 0) (.con (.int 2)))] [] (.call .val 43 [(.var 1)]))]) ρ S = .ok (.str (listedT (txs ps))) S := v_callc (f := 28) (S1 := S) (es_cons c3 (d_nil _ _ _)) rfl (by
        rw [q, bind_ok_]
        simp)
      exact st_ret (v_ct (x := t) (S1 := S) (by simp [ρ, encS]) c7 (by omega)) ⟨rfl, rfl⟩
    | also p w =>
      simp only [dpS] at hd
      simp only [nod] at hn
      refine st_ifF (S1 := S) (tst _ (by decide)) ?_
      refine st_ifF (S1 := S) (tst _ (by decide)) ?_
      refine st_ifF (S1 := S) (tst _ (by decide)) ?_
      refine st_ifF (S1 := S) (tst _ (by decide)) ?_
      refine st_ifT (S1 := S) (tst _ (by decide)) ?_
      obtain ⟨p1, _⟩ := tx_ok p hg.1
      have hw := hg.2.1
      have q := IH p (.idx (.var 0) (.con (.int 1))) ρ (by omega) hg.1 (by omega) (by simp [ρ, encS])
      exact st_ret (v_ct (v_ct q (d_con _ _ _ _) (by simp only [List.length_cons, List.length_nil]; omega)) (y := w) (S2 := S) (by simp [ρ, encS]) (by simp only [List.length_append, List.length_cons, List.length_nil]; omega)) ⟨rfl, rfl⟩
    | either a b =>
      simp only [dpS] at hd
      simp only [nod] at hn
      refine st_ifF (S1 := S) (tst _ (by decide)) ?_
      refine st_ifF (S1 := S) (tst _ (by decide)) ?_
      refine st_ifF (S1 := S) (tst _ (by decide)) ?_
      refine st_ifF (S1 := S) (tst _ (by decide)) ?_
      refine st_ifF (S1 := S) (tst _ (by decide)) ?_
      obtain ⟨a1, a2⟩ := tx_ok a hg.1
      obtain ⟨b1, b2⟩ := tx_ok b hg.2
      obtain ⟨a3, a4⟩ := lside_ok (s := a) a2
      obtain ⟨b3, b4⟩ := rside_ok (s := b) b2
      refine st_asg (IH a (.idx (.var 0) (.con (.int 1))) ρ (by omega) hg.1 (by omega) (by simp [ρ, encS])) ?_
      refine st_asg (IH b (.idx (.var 0) (.con (.int 2))) [some (encS (.either a b)), some (.str (tx a)), none] (by omega) hg.2 (by omega) (by simp [encS])) ?_
      let ρ2 : List Nat → List Nat → FF.Env := fun x y => [some (encS (.either a b)), some (.str x), some (.str y)]
      show WS (denSs whlL Γ _ (ρ2 (tx a) (tx b)) S) _
      have na : ∀ x y, denE Γ (.idx (.idx (.var 0) (.con (.int 1))) (.con (.int 0))) (ρ2 x y) S = .ok (.str (nam a)) S := fun x y => by
        have := nam_ix S a
        simp [ρ2, encS, this]
      have nb : ∀ x y, denE Γ (.idx (.idx (.var 0) (.con (.int 2))) (.con (.int 0))) (ρ2 x y) S = .ok (.str (nam b)) S := fun x y => by
        have := nam_ix S b
        simp [ρ2, encS, this]
      have fin : ∀ ss : List Sm, WS (denSs whlL Γ ((.ret (.bin .add (.bin .add (.var 1) (.con (.str [32, 124, 32]))) (.var 2))) :: ss) (ρ2 (lside a (tx a)) (rside b (tx b))) S) ⟨fun _ T => (.non : PV) = .str (tx (.either a b)) ∧ T = S, fun v T => v = .str (tx (.either a b)) ∧ T = S, fun _ _ => False, fun _ _ => False⟩ := fun ss =>
        st_ret (v_ct (v_ct (x := lside a (tx a)) (S1 := S) rfl (d_con _ _ _ _) (by simp only [List.length_cons, List.length_nil]; omega)) (y := rside b (tx b)) (S2 := S) rfl (by simp only [List.length_append, List.length_cons, List.length_nil]; omega)) ⟨rfl, rfl⟩
      have mid : ∀ ss : List Sm, WS (denSs whlL Γ ((.ife (.cmp .isin (.idx (.idx (.var 0) (.con (.int 2))) (.con (.int 0))) (.tup [(.con (.str [97, 108, 115, 111])), (.con (.str [101, 105, 116, 104, 101, 114]))])) [(.asg (.name 2) (.bin .add (.bin .add (.con (.str [40])) (.var 2)) (.con (.str [41]))))] []) ::
          (.ret (.bin .add (.bin .add (.var 1) (.con (.str [32, 124, 32]))) (.var 2))) :: ss) (ρ2 (lside a (tx a)) (tx b)) S) ⟨fun _ T => (.non : PV) = .str (tx (.either a b)) ∧ T = S, fun v T => v = .str (tx (.either a b)) ∧ T = S, fun _ _ => False, fun _ _ => False⟩ := by
        intro ss
        have t2 : testOf Γ (.cmp .isin (.idx (.idx (.var 0) (.con (.int 2))) (.con (.int 0))) (.tup [(.con (.str [97, 108, 115, 111])), (.con (.str [101, 105, 116, 104, 101, 114]))])) (ρ2 (lside a (tx a)) (tx b)) S = .ok (decide (sAlso = nam b) || decide (sEither = nam b)) S := by
          have h := vin2 (S := S) (nam_lt b) (show (sAlso.all fun c => decide (c < 128)) = true by decide) (show (sEither.all fun c => decide (c < 128)) = true by decide)
          rw [d_test, d_cmp, nb, bind_ok_]
          simp [h]
        by_cases c : nam b = sAlso ∨ nam b = sEither
        · have ct : (decide (sAlso = nam b) || decide (sEither = nam b)) = true := by rcases c with c | c <;> simp [c]
          rw [ct] at t2
          refine st_ifT t2 ?_
          refine st_asg (v_ct (v_ct (d_con _ _ _ _) (y := tx b) (S2 := S) rfl (by simp only [List.length_cons, List.length_nil]; omega)) (d_con _ _ _ _) (by simp only [List.length_append, List.length_cons, List.length_nil]; omega)) ?_
          have h := fin ss
          have e : rside b (tx b) = [40] ++ tx b ++ [41] := by
            unfold rside
            rw [if_pos c]
            rfl
          rw [e] at h
          exact h
        · have ct : (decide (sAlso = nam b) || decide (sEither = nam b)) = false := by
            have c1 : ¬ sAlso = nam b := fun h => c (.inl h.symm)
            have c2 : ¬ sEither = nam b := fun h => c (.inr h.symm)
            simp [c1, c2]
          rw [ct] at t2
          refine st_ifF t2 ?_
          have h := fin ss
          have e : rside b (tx b) = tx b := by
            unfold rside
            rw [if_neg c]
          rw [e] at h
          exact h
      have t1 := t_nam (na (tx a) (tx b)) (nam_lt a) (show (sAlso.all fun c => decide (c < 128)) = true by decide)
      by_cases c : nam a = sAlso
      · rw [decide_eq_true c] at t1
        refine st_ifT t1 ?_
        refine st_asg (v_ct (v_ct (d_con _ _ _ _) (y := tx a) (S2 := S) rfl (by simp only [List.length_cons, List.length_nil]; omega)) (d_con _ _ _ _) (by simp only [List.length_append, List.length_cons, List.length_nil]; omega)) ?_
        have h := fun ss => mid ss
        have e : lside a (tx a) = [40] ++ tx a ++ [41] := by
          unfold lside
          rw [if_pos c]
          rfl
        rw [e] at h
        exact h _
      · rw [decide_eq_false c] at t1
        refine st_ifF t1 ?_
        have h := fun ss => mid ss
        have e : lside a (tx a) = tx a := by
          unfold lside
          rw [if_neg c]
        rw [e] at h
        exact h _
end LK16
set_option Elab.async false
set_option linter.all false
set_option autoImplicit false
set_option maxRecDepth 100000
set_option maxHeartbeats 1000000
namespace LK16
open PySem FF L2
theorem toD_str {x : List Nat} (h : ∀ c ∈ x, c < 128) : toD (.str x) = some (.str ⟨x.toArray⟩) := by
  have := shp_str h
  unfold shp at this
  cases hd : toD (.str x) with
  | none => rw [hd] at this; cases this
  | some d =>
    rw [hd] at this
    simp only at this
    split at this
    · exact this
    · cases this
theorem toDs_strs : ∀ {xs : List (List Nat)}, (∀ x ∈ xs, ∀ c ∈ x, c < 128) → toDs (xs.map PV.str) = some (xs.map fun x => PyData.str ⟨x.toArray⟩)
  | [], _ => rfl
  | x :: xs, h => by
    have h1 := toD_str (h x List.mem_cons_self)
    have h2 := toDs_strs fun y hy => h y (List.mem_cons_of_mem _ hy)
    simp only [List.map_cons]
    unfold toDs
    rw [h1, h2]
theorem any_cg {α : Type} {p q : α → Bool} : ∀ {xs : List α}, (∀ x ∈ xs, p x = q x) → xs.any p = xs.any q
  | [], _ => rfl
  | x :: xs, h => by
    simp only [List.any_cons]
    rw [h x List.mem_cons_self, any_cg fun y hy => h y (List.mem_cons_of_mem _ hy)]
theorem vinL {S : Store} {a : List Nat} {xs : List (List Nat)} (ha : (a.all fun c => decide (c < 128)) = true) (hx : ∀ x ∈ xs, (x.all fun c => decide (c < 128)) = true) : vin S (.str a) (.tup (xs.map PV.str)) = some (xs.any fun x => decide (x = a)) := by
  have all : ∀ {x : List Nat}, (x.all fun c => decide (c < 128)) = true → ∀ c ∈ x, c < 128 := fun h c hc => of_decide_eq_true (List.all_eq_true.mp h c hc)
  have f1 : fit 1 (.tup (xs.map PV.str)) = true := by
    have := fits_strs fun t ht => all (hx t ht)
    simpa [fit] using this
  obtain ⟨d, h1, h2⟩ := shp_fit (n := 1) (by omega) f1
  have h3 : toD (.tup (xs.map PV.str)) = some (.tuple (xs.map fun x => PyData.str ⟨x.toArray⟩)) := by
    unfold toD
    rw [toDs_strs fun t ht => all (hx t ht)]
    rfl
  rw [h1] at h3
  cases h3
  unfold vin
  simp only [vw_tup, vw_str]
  rw [shp_str (all ha), h2]
  unfold anyEq
  simp only [List.any_map]
  congr 1
  refine any_cg fun x hx' => ?_
  have e1 := eqL (hx x hx') ha
  unfold FF.eqV at e1
  rw [shp_str (all (hx x hx')), shp_str (all ha)] at e1
  simpa using e1
def namE : Ex → List Nat
  | .num _ => sNum
  | .word _ => sWord
  | .make _ _ => sMake
  | .call _ _ => sCall
  | .field _ _ => sField
  | .deed _ _ _ => sDeed
  | .let_ _ _ _ => sLet
  | .mat _ _ => sMatch
theorem namE_ix (S : Store) (e : Ex) : vidx S (encE e) (.int 0) = some (.str (namE e)) := by cases e <;> simp [encE, namE]
theorem namE_lt (e : Ex) : ((namE e).all fun c => decide (c < 128)) = true := by cases e <;> rfl
theorem namE_inn (e : Ex) : ([sDeed, sLet, sMatch].any fun x => decide (x = namE e)) = isInn e := by cases e <;> rfl
/-- a text, by value -/
def TV (n f : Nat) (v : PV) (t : List Nat) : Prop := ∀ S : Store, ((callL whlL P n f [v] S).bind fun v S2 => FF.settle .val S v S2) = .ok (.str t) S
theorem TV.call {n f g : Nat} {v : PV} {t : List Nat} (h : TV n f v t) {ρ : FF.Env} {S : Store} {e : E} (he : denE (Ge n) e ρ S = .ok v S) (hg : (Ge n).glob g = some (.fn f)) : denE (Ge n) (.call .val g [e]) ρ S = .ok (.str t) S := v_callc (f := f) (S1 := S) (es_cons he (d_nil _ _ _)) hg (h S)
theorem TV_of {n f : Nat} {v : PV} {t : List Nat} (h : ∀ S, W (K n f [v] S) fun a T => FF.settle .val S a T = .ok (.str t) S) : TV n f v t := fun S => by
  obtain ⟨a, T, e, h⟩ := h S
  unfold K at e
  rw [e, bind_ok_, h]
theorem linner_ok (n : Nat) (e : Ex) (ge : gE e) (hn : nodE e ≤ 300000) (h : TV n 34 (encE e) (eT e)) : TV (n + 1) 33 (encE e) (inn e (eT e)) := by
  obtain ⟨t1, t2⟩ := eT_ok e ge
  refine TV_of fun S => callW fun_33 rfl ?_
  let Γ := Ge n
  refine st_asg (h.call (by simp) rfl) ?_
  let ρ : FF.Env := [some (encE e), some (.str (eT e))]
  show WS (denSs whlL Γ _ ρ S) _
  have n0 : denE Γ (.idx (.var 0) (.con (.int 0))) ρ S = .ok (.str (namE e)) S := by
    have := namE_ix S e
    simp [ρ, this]
  have c0 : denE Γ (.cmp .isin (.idx (.var 0) (.con (.int 0))) (.tup [(.con (.str [100, 101, 101, 100])), (.con (.str [108, 101, 116])), (.con (.str [109, 97, 116, 99, 104]))])) ρ S = .ok (.bl (isInn e)) S := by
    have h := vinL (S := S) (namE_lt e) (xs := [sDeed, sLet, sMatch]) (by decide)
    rw [namE_inn] at h
    rw [d_cmp, n0, bind_ok_]
    simp at h
    simp [h]
  have e1 : denE Γ (.ife (.cmp .isin (.idx (.var 0) (.con (.int 0))) (.tup [(.con (.str [100, 101, 101, 100])), (.con (.str [108, 101, 116])), (.con (.str [109, 97, 116, 99, 104]))])) (.bin .add (.bin .add (.con (.str [40])) (.var 1)) (.con (.str [41]))) (.var 1)) ρ S = .ok (.str (inn e (eT e))) S := by
    rw [d_ife, c0, bind_ok_]
    unfold inn
    cases hi : isInn e with
    | true =>
      simp only [tr_bl, if_true]
      exact v_ct (v_ct (d_con _ _ _ _) (y := eT e) (S2 := S) rfl (by simp only [List.length_cons, List.length_nil]; omega)) (d_con _ _ _ _) (by simp only [List.length_append, List.length_cons, List.length_nil]; omega)
    | false =>
      simp only [tr_bl]
      rfl
  exact st_ret e1 (by simp)
end LK16
set_option Elab.async false
set_option linter.all false
set_option autoImplicit false
set_option maxRecDepth 100000
set_option maxHeartbeats 1000000
namespace LK16
open PySem FF L2
theorem nodEs_of : ∀ {ss : List Ex} {s : Ex}, s ∈ ss → nodE s ≤ nodEs ss
  | x :: ss, s, h => by
    simp only [nodEs]
    rcases List.mem_cons.mp h with rfl | h
    · omega
    · have := nodEs_of h
      omega
theorem nodRs_of : ∀ {ss : List Rl} {s : Rl}, s ∈ ss → nodR s ≤ nodRs ss
  | x :: ss, s, h => by
    simp only [nodRs]
    rcases List.mem_cons.mp h with rfl | h
    · omega
    · have := nodRs_of h
      omega
theorem v_joinR {Γ : Env2} {ρ : FF.Env} {S : Store} {y : List Nat} {i m : Nat} {ts : List (List Nat)} (h : ρ[i]? = some (some (.ref m))) (hS : S[m]? = some (.lst (ts.map PV.str))) (ho : okI ((ts.map (·.length)).sum + ts.length * y.length) = true) : denE Γ (.bm .join (.con (.str y)) [(.var i)]) ρ S = .ok (.str (TL.joinL y ts)) S := by
  have hk : bmK S .join (.str y) = true := rfl
  have e0 : denE Γ (.var i) ρ S = .ok (.ref m) S := by rw [d_var, h]
  rw [d_bm, d_con]
  simp only [bind_ok_, hk, if_true, d_cons, d_nil, e0]
  show mJoin S (.str y) [.ref m] = _
  unfold mJoin
  simp only [vw_ref, hS, Option.getD_some, asStrs_mp, ho, if_true]
theorem TV_sh {n : Nat} {s : Sh} (h : gSh s) (hn : 10 ≤ n) : TV n 32 (encS s) (tx s) := fun S => by
  have q := lshape_ok 3 (n - 5) s S h.2.1 h.1 (by have := h.2.2; omega)
  have e : n - 5 + 2 + 3 = n := by omega
  rw [e] at q
  unfold K at q
  rw [q, bind_ok_]
  simp
theorem ltext_ok : ∀ (m : Nat) (D : Nat) (e : Ex), dpE e ≤ m → gE e → nodE e ≤ 300000 → TV (D + 2 * m + 10) 34 (encE e) (eT e) := by
  intro m
  induction m with
  | zero => exact fun D e h => by cases e <;> simp only [dpE] at h <;> omega
  | succ m ih =>
    intro D e hd hg hn
    have T : ∀ e, dpE e ≤ m → gE e → nodE e ≤ 300000 → TV (D + 2 * m + 11) 34 (encE e) (eT e) := fun e h1 h2 h3 => by
      have h := ih (D + 1) e h1 h2 h3
      have e : D + 1 + 2 * m + 10 = D + 2 * m + 11 := by omega
      rw [e] at h
      exact h
    have I : ∀ e, dpE e ≤ m → gE e → nodE e ≤ 300000 → TV (D + 2 * m + 11) 33 (encE e) (inn e (eT e)) := fun e h1 h2 h3 => linner_ok (D + 2 * m + 10) e h2 h3 (ih D e h1 h2 h3)
    clear ih
    have eD : D + 2 * (m + 1) + 10 = (D + 2 * m + 11) + 1 := by omega
    rw [eD]
    obtain ⟨t1, t2⟩ := eT_ok e hg
    refine TV_of fun S => callW fun_34 rfl ?_
    let Γ := Ge (D + 2 * m + 11)
    let ρ : FF.Env := [some (encE e), none, none, none, none, none, none]
    show WS (denSs whlL Γ _ ρ S) _
    have n0 : denE Γ (.idx (.var 0) (.con (.int 0))) ρ S = .ok (.str (namE e)) S := by
      have := namE_ix S e
      simp [ρ, this]
    have tst : ∀ y : List Nat, (y.all fun c => decide (c < 128)) = true → testOf Γ (.cmp .eq (.idx (.var 0) (.con (.int 0))) (.con (.str y))) ρ S = .ok (decide (namE e = y)) S := fun y hy => t_nam n0 (namE_lt e) hy
    have parts : ∀ (ps : List Ex), (∀ p ∈ ps, dpE p ≤ m) → gEs ps → nodEs ps ≤ 300000 → ps.length ≤ 4 → denE Γ (.idx (.var 0) (.con (.int 2))) ρ S = .ok (.tup (ps.map encE)) S → denE Γ (.comp false (.one 6) .val [(.idx (.var 0) (.con (.int 2)))] [] (.call .val 45 [(.var 6)])) ρ S = .ok (.lst ((eTs ps).map PV.str)) S := by
      intro ps h1 h2 h3 h4 h5
      have gps := gEs_iff.mp h2
      obtain ⟨vs, c3, c4⟩ := v_comp (Γ := Γ) (ρ := ρ) (S := S) (t := .one 6) (k := .val) (es := [(.idx (.var 0) (.con (.int 2)))]) (e := .call .val 45 [(.var 6)]) (vs := [.tup (ps.map encE)]) (g := []) (xs := ps) encE (fun s v => v = PV.str (eT s)) (es_cons h5 (d_nil _ _ _)) (by simp) rfl (by unfold cap; omega) (fun x hx => by
        have hnx := nodEs_of hx
        exact ⟨[some (encE e), none, none, none, none, none, some (encE x)], rfl, W.of ((T x (h1 x hx) (gps x hx) (by omega)).call (e := .var 6) rfl rfl) ⟨rfl, rfl⟩⟩)
      have c5 := f2_map c4
      have c6 : vs = (eTs ps).map PV.str := by rw [c5, eTs_map, List.map_map]; rfl
      rw [c6] at c3
      exact c3
    cases e with
    | num i =>
      refine st_ifT (S1 := S) (tst _ (by decide)) ?_
      have q : Γ.call 29 [.int i] S = .ok (.str (numT i)) S := lnum_ok (D + 2 * m + 10) i S hg
      exact st_ret (v := .str (numT i)) (S1 := S) (v_callc (Γ := Γ) (f := 29) (S1 := S) (vs := [.int i]) (by simp [ρ, encE]) rfl (by
        rw [q, bind_ok_]
        simp)) (by simp [eT])
    | word w =>
      refine st_ifF (S1 := S) (tst _ (by decide)) ?_
      refine st_ifT (S1 := S) (tst _ (by decide)) ?_
      exact st_ret (v := .str w) (S1 := S) (by simp [ρ, encE]) (by simp [eT])
    | make t ps =>
      simp only [dpE] at hd
      simp only [nodE] at hn
      refine st_ifF (S1 := S) (tst _ (by decide)) ?_
      refine st_ifF (S1 := S) (tst _ (by decide)) ?_
      refine st_ifT (S1 := S) (tst _ (by decide)) ?_
      have c3 := parts ps (dpEs_le.mp (by omega)) hg.2.2 (by omega) hg.2.1 (by simp [ρ, encE, encEs_map])
      obtain ⟨k1, k2⟩ := eTs_ok ps hg.2.2
      have kl : (eTs ps).length = ps.length := by rw [eTs_map, List.length_map]
      have kz := hg.2.1
      have kt := hg.1.1
      obtain ⟨l1, l2⟩ := listedT_ok k2
      have q : Γ.call 28 [.lst ((eTs ps).map PV.str)] S = .ok (.str (listedT (eTs ps))) S := llisted_ok (D + 2 * m + 10) (eTs ps) S k2 (by omega)
      have c7 : denE Γ (.call .val 39 [(.comp false (.one 6) .val [(.idx (.var 0) (.con (.int 2)))] [] (.call .val 45 [(.var 6)]))]) ρ S = .ok (.str (listedT (eTs ps))) S := v_callc (f := 28) (S1 := S) (es_cons c3 (d_nil _ _ _)) rfl (by
        rw [q, bind_ok_]
        simp)
      exact st_ret (v_ct (x := t) (S1 := S) (by simp [ρ, encE]) c7 (by omega)) (by simp [eT])
    | call t ps =>
      simp only [dpE] at hd
      simp only [nodE] at hn
      refine st_ifF (S1 := S) (tst _ (by decide)) ?_
      refine st_ifF (S1 := S) (tst _ (by decide)) ?_
      refine st_ifF (S1 := S) (tst _ (by decide)) ?_
      refine st_ifT (S1 := S) (tst _ (by decide)) ?_
      have c3 := parts ps (dpEs_le.mp (by omega)) hg.2.2 (by omega) hg.2.1 (by simp [ρ, encE, encEs_map])
      obtain ⟨k1, k2⟩ := eTs_ok ps hg.2.2
      have kl : (eTs ps).length = ps.length := by rw [eTs_map, List.length_map]
      have kz := hg.2.1
      have kt := hg.1.1
      have kb := joinL_len [44, 32] (eTs ps)
      simp only [List.length_cons, List.length_nil] at kb
      have c7 := v_join (y := [44, 32]) c3 (okB (by simp only [List.length_cons, List.length_nil]; omega))
      exact st_ret (v_ct (v_ct (v_ct (x := t) (S1 := S) (by simp [ρ, encE]) (d_con _ _ _ _) (by simp only [List.length_cons, List.length_nil]; omega)) c7 (by simp only [List.length_append, List.length_cons, List.length_nil]; omega)) (d_con _ _ _ _) (by simp only [List.length_append, List.length_cons, List.length_nil]; omega)) (by simp [eT])
    | field a w =>
      simp only [dpE] at hd
      simp only [nodE] at hn
      refine st_ifF (S1 := S) (tst _ (by decide)) ?_
      refine st_ifF (S1 := S) (tst _ (by decide)) ?_
      refine st_ifF (S1 := S) (tst _ (by decide)) ?_
      refine st_ifF (S1 := S) (tst _ (by decide)) ?_
      refine st_ifT (S1 := S) (tst _ (by decide)) ?_
      obtain ⟨a1, a2⟩ := eT_ok a hg.1
      obtain ⟨b1, _⟩ := inn_ok (e := a) a2
      have hw := hg.2.1
      have q := (I a (by omega) hg.1 (by omega)).call (ρ := ρ) (S := S) (e := .idx (.var 0) (.con (.int 1))) (g := 44) (by simp [ρ, encE]) rfl
      exact st_ret (v_ct (v_ct q (d_con _ _ _ _) (by simp only [List.length_cons, List.length_nil]; omega)) (y := w) (S2 := S) (by simp [ρ, encE]) (by simp only [List.length_append, List.length_cons, List.length_nil]; omega)) (by simp [eT])
    | deed c a b =>
      simp only [dpE] at hd
      simp only [nodE] at hn
      refine st_ifF (S1 := S) (tst _ (by decide)) ?_
      refine st_ifF (S1 := S) (tst _ (by decide)) ?_
      refine st_ifF (S1 := S) (tst _ (by decide)) ?_
      refine st_ifF (S1 := S) (tst _ (by decide)) ?_
      refine st_ifF (S1 := S) (tst _ (by decide)) ?_
      refine st_ifT (S1 := S) (tst _ (by decide)) ?_
      obtain ⟨a1, a2⟩ := eT_ok a hg.2.1
      obtain ⟨b1, _⟩ := inn_ok (e := a) a2
      obtain ⟨c1, c2⟩ := eT_ok b hg.2.2
      obtain ⟨d1, _⟩ := inn_ok (e := b) c2
      have q1 := (I a (by omega) hg.2.1 (by omega)).call (ρ := ρ) (S := S) (e := .idx (.var 0) (.con (.int 2))) (g := 44) (by simp [ρ, encE]) rfl
      have q2 := (I b (by omega) hg.2.2 (by omega)).call (ρ := ρ) (S := S) (e := .idx (.var 0) (.con (.int 3))) (g := 44) (by simp [ρ, encE]) rfl
      exact st_ret (v_ct (v_ct (v_ct (v_ct q1 (d_con _ _ _ _) (by simp only [List.length_cons, List.length_nil]; omega)) (y := [c]) (S2 := S) (by simp [ρ, encE]) (by simp only [List.length_append, List.length_cons, List.length_nil]; omega)) (d_con _ _ _ _) (by simp only [List.length_append, List.length_cons, List.length_nil]; omega)) q2 (by simp only [List.length_append, List.length_cons, List.length_nil]; omega)) (by simp [eT])
    | let_ w a b =>
      simp only [dpE] at hd
      simp only [nodE] at hn
      refine st_ifF (S1 := S) (tst _ (by decide)) ?_
      refine st_ifF (S1 := S) (tst _ (by decide)) ?_
      refine st_ifF (S1 := S) (tst _ (by decide)) ?_
      refine st_ifF (S1 := S) (tst _ (by decide)) ?_
      refine st_ifF (S1 := S) (tst _ (by decide)) ?_
      refine st_ifF (S1 := S) (tst _ (by decide)) ?_
      refine st_ifT (S1 := S) (tst _ (by decide)) ?_
      obtain ⟨a1, a2⟩ := eT_ok a hg.2.1
      obtain ⟨c1, c2⟩ := eT_ok b hg.2.2
      have hw := hg.1.1
      have q1 := (T a (by omega) hg.2.1 (by omega)).call (ρ := ρ) (S := S) (e := .idx (.var 0) (.con (.int 2))) (g := 45) (by simp [ρ, encE]) rfl
      have q2 := (T b (by omega) hg.2.2 (by omega)).call (ρ := ρ) (S := S) (e := .idx (.var 0) (.con (.int 3))) (g := 45) (by simp [ρ, encE]) rfl
      exact st_ret (v_ct (v_ct (v_ct (v_ct (v_ct (d_con _ _ _ _) (y := w) (S2 := S) (by simp [ρ, encE]) (by simp only [List.length_cons, List.length_nil]; omega)) (d_con _ _ _ _) (by simp only [List.length_append, List.length_cons, List.length_nil]; omega)) q1 (by simp only [List.length_append, List.length_cons, List.length_nil]; omega)) (d_con _ _ _ _) (by simp only [List.length_append, List.length_cons, List.length_nil]; omega)) q2 (by simp only [List.length_append, List.length_cons, List.length_nil]; omega)) (by simp [eT])
    | mat a rs =>
      simp only [dpE] at hd
      simp only [nodE] at hn
      refine st_ifF (S1 := S) (tst _ (by decide)) ?_
      refine st_ifF (S1 := S) (tst _ (by decide)) ?_
      refine st_ifF (S1 := S) (tst _ (by decide)) ?_
      refine st_ifF (S1 := S) (tst _ (by decide)) ?_
      refine st_ifF (S1 := S) (tst _ (by decide)) ?_
      refine st_ifF (S1 := S) (tst _ (by decide)) ?_
      refine st_ifF (S1 := S) (tst _ (by decide)) ?_
      have grs := gRs_iff.mp hg.2.2
      have drs := dpRs_le (m := m) (rs := rs) |>.mp (by omega)
      obtain ⟨a1, a2⟩ := eT_ok a hg.1
      obtain ⟨k1, k2⟩ := rTs_ok rs hg.2.2
      have kl : (rTs rs).length = rs.length := by rw [rTs_map, List.length_map]
      have kz := hg.2.1.2
      have kb := joinL_len [59, 32] (rTs rs)
      simp only [List.length_cons, List.length_nil] at kb
      refine st_asg (v := .ref S.length) (S1 := S ++ [.lst []]) (by simp) ?_
      let ρ1 : Option PV → Option PV → Option PV → Option PV → FF.Env := fun o2 o3 o4 o5 => [some (encE (.mat a rs)), some (.ref S.length), o2, o3, o4, o5, none]
      show WS (denSs whlL Γ _ (ρ1 none none none none) _) _
      refine st_forA encR (fun ρ => ∃ o2 o3 o4 o5, ρ = ρ1 o2 o3 o4 o5) (fun r v => v = PV.str (rT r)) (S0 := S) (xs := rs) (vs := [.tup (rs.map encR)]) (by simp [ρ1, encE, encRs_map]) (by simp) ⟨none, none, none, none, rfl⟩ (fun r hr acc ρ hacc ⟨o2, o3, o4, o5, hρ⟩ => ?_) fun ρ ys ⟨o2, o3, o4, o5, hρ⟩ hy => ?_
      · subst hρ
        have hnr := nodRs_of hr
        have gr := grs r hr
        have dr_ := drs r hr
        have app : ∀ (ρ : FF.Env) (e : E), ρ[1]? = some (some (.ref S.length)) → denE Γ e ρ (S ++ [.lst acc]) = .ok (.str (rT r)) (S ++ [.lst acc]) → denE Γ (.bm .append (.var 1) [e]) ρ (S ++ [.lst acc]) = .ok .non (S ++ [.lst (acc ++ [.str (rT r)])]) := fun ρ e h0 h2 => by
          have := v_app h0 (s_at S _) h2 (s_at S _) (by omega)
          rw [s_set] at this
          exact this
        cases r with
        | plain s b =>
          refine ⟨ρ1 (some (encS s)) (some .non) (some (encE b)) o5, by simp [encR, ρ1], ?_⟩
          simp only [dpR] at dr_
          simp only [nodR] at hnr
          obtain ⟨b1, b2⟩ := eT_ok b gr.2
          obtain ⟨s1, s2⟩ := tx_ok s gr.1.1
          have sn := gr.1.2.2
          refine st_asg (v := .str []) (S1 := S ++ [.lst acc]) (by simp [ρ1]) ?_
          let ρ5 := ρ1 (some (encS s)) (some .non) (some (encE b)) (some (.str []))
          have q1 := (TV_sh (n := D + 2 * m + 11) gr.1 (by omega)).call (ρ := ρ5) (S := S ++ [.lst acc]) (e := .var 2) (g := 43) rfl rfl
          have q2 := (T b (by omega) gr.2 (by omega)).call (ρ := ρ5) (S := S ++ [.lst acc]) (e := .var 4) (g := 45) rfl rfl
          have q3 := v_ct (v_ct (v_ct q1 (b := .var 5) (y := []) (S2 := S ++ [.lst acc]) rfl (by simp; omega)) (d_con _ _ _ (.str [32, 45, 62, 32])) (by simp only [List.length_append, List.length_cons, List.length_nil]; omega)) q2 (by simp only [List.length_append, List.length_cons, List.length_nil]; omega)
          have e5 : tx s ++ [] ++ [32, 45, 62, 32] ++ eT b = rT (.plain s b) := by simp [rT]
          rw [e5] at q3
          refine st_expr (app ρ5 _ rfl q3) ?_
          exact st_nil ⟨⟨_, _, _, _, rfl⟩, _, rfl, rfl⟩
        | guard s g b =>
          refine ⟨ρ1 (some (encS s)) (some (encE g)) (some (encE b)) o5, by simp [encR, ρ1], ?_⟩
          simp only [dpR] at dr_
          simp only [nodR] at hnr
          obtain ⟨b1, b2⟩ := eT_ok b gr.2.2
          obtain ⟨g1, g2⟩ := eT_ok g gr.2.1
          obtain ⟨s1, s2⟩ := tx_ok s gr.1.1
          have sn := gr.1.2.2
          have hne : encE g ≠ PV.non := by cases g <;> simp [encE]
          let ρ4 := ρ1 (some (encS s)) (some (encE g)) (some (encE b)) o5
          have qg := (T g (by omega) gr.2.1 (by omega)).call (ρ := ρ4) (S := S ++ [.lst acc]) (e := .var 3) (g := 45) rfl rfl
          have ea : denE Γ (.ife (.cmp .is_ (.var 3) (.con .non)) (.con (.str [])) (.bin .add (.con (.str [32, 105, 102, 32])) (.call .val 45 [(.var 3)]))) ρ4 (S ++ [.lst acc]) = .ok (.str ([32, 105, 102, 32] ++ eT g)) (S ++ [.lst acc]) := by
            have e0 : denE Γ (.cmp .is_ (.var 3) (.con .non)) ρ4 (S ++ [.lst acc]) = .ok (.bl false) (S ++ [.lst acc]) := by
              simp [ρ4, ρ1, hne]
            rw [d_ife, e0, bind_ok_]
            simp only [tr_bl]
            exact v_ct (d_con _ _ _ _) qg (by simp only [List.length_cons, List.length_nil]; omega)
          refine st_asg ea ?_
          let ρ5 := ρ1 (some (encS s)) (some (encE g)) (some (encE b)) (some (.str ([32, 105, 102, 32] ++ eT g)))
          have q1 := (TV_sh (n := D + 2 * m + 11) gr.1 (by omega)).call (ρ := ρ5) (S := S ++ [.lst acc]) (e := .var 2) (g := 43) rfl rfl
          have q2 := (T b (by omega) gr.2.2 (by omega)).call (ρ := ρ5) (S := S ++ [.lst acc]) (e := .var 4) (g := 45) rfl rfl
          have q3 := v_ct (v_ct (v_ct q1 (b := .var 5) (y := [32, 105, 102, 32] ++ eT g) (S2 := S ++ [.lst acc]) rfl (by simp only [List.length_append, List.length_cons, List.length_nil]; omega)) (d_con _ _ _ (.str [32, 45, 62, 32])) (by simp only [List.length_append, List.length_cons, List.length_nil]; omega)) q2 (by simp only [List.length_append, List.length_cons, List.length_nil]; omega)
          have e5 : tx s ++ ([32, 105, 102, 32] ++ eT g) ++ [32, 45, 62, 32] ++ eT b = rT (.guard s g b) := by simp [rT]
          rw [e5] at q3
          refine st_expr (app ρ5 _ rfl q3) ?_
          exact st_nil ⟨⟨_, _, _, _, rfl⟩, _, rfl, rfl⟩
      · subst hρ
        have hy2 := f2_map hy
        have hy3 : ys = (rTs rs).map PV.str := by rw [hy2, rTs_map, List.map_map]; rfl
        subst hy3
        let ρ6 := ρ1 o2 o3 o4 o5
        have q1 := (T a (by omega) hg.1 (by omega)).call (ρ := ρ6) (S := S ++ [.lst ((rTs rs).map PV.str)]) (e := .idx (.var 0) (.con (.int 1))) (g := 45) (by simp [ρ6, ρ1, encE]) rfl
        have q2 := v_joinR (Γ := Γ) (ρ := ρ6) (S := S ++ [.lst ((rTs rs).map PV.str)]) (y := [59, 32]) (i := 1) (m := S.length) (ts := rTs rs) rfl (s_at S _) (okB (by simp only [List.length_cons, List.length_nil]; omega))
        have q3 := v_ct (v_ct (v_ct (v_ct (d_con Γ ρ6 _ (.str [109, 97, 116, 99, 104, 32])) q1 (by simp only [List.length_cons, List.length_nil]; omega)) (d_con _ _ _ (.str [32, 123])) (by simp only [List.length_append, List.length_cons, List.length_nil]; omega)) q2 (by simp only [List.length_append, List.length_cons, List.length_nil]; omega)) (d_con _ _ _ (.str [125])) (by simp only [List.length_append, List.length_cons, List.length_nil]; omega)
        refine st_ret q3 ?_
        have e6 : [109, 97, 116, 99, 104, 32] ++ eT a ++ [32, 123] ++ TL.joinL [59, 32] (rTs rs) ++ [125] = eT (.mat a rs) := by simp [eT]
        rw [e6]
        exact settle_vx (by simp)
end LK16
set_option Elab.async false
set_option linter.all false
set_option autoImplicit false
set_option maxRecDepth 100000
set_option maxHeartbeats 1000000
namespace LK16
open PySem FF L2
theorem kTs_map : ∀ ks : List Kd, kTs ks = ks.map kT
  | [] => by simp [kTs]
  | k :: ks => by simp [kTs, kTs_map ks]
theorem sum_le {m : Nat} : ∀ {ts : List (List Nat)}, (∀ t ∈ ts, t.length ≤ m) → (ts.map (·.length)).sum ≤ ts.length * m
  | [], _ => by simp
  | t :: ts, h => by
    have h1 := h t List.mem_cons_self
    have h2 := sum_le fun x hx => h x (List.mem_cons_of_mem _ hx)
    simp only [List.map_cons, List.sum_cons, List.length_cons, Nat.add_mul, Nat.one_mul]
    omega
theorem kT_ok : ∀ (m : Nat) (k : Kd), dep k ≤ m → gk k → (kT k).length ≤ 30 * 4 ^ m ∧ ∀ c ∈ kT k, c < 128
  | m, .num, _, _ => by
    have : 1 ≤ 4 ^ m := Nat.pow_pos (by decide)
    refine ⟨by simp [kT]; omega, ?_⟩
    simp only [kT]
    decide
  | m, .free n, _, _ => by
    have : 1 ≤ 4 ^ m := Nat.pow_pos (by decide)
    refine ⟨by simp [kT]; omega, ?_⟩
    simp only [kT, List.mem_singleton]
    intro c hc
    subst hc
    split <;> omega
  | 0, .made w ks, h, _ => by simp only [dep] at h; omega
  | m + 1, .made w ks, h, g => by
    simp only [dep] at h
    have hks := deps_le.mp (show deps ks ≤ m by omega)
    have gks' := gks_iff.mp g.2.2
    have all : ∀ t ∈ kTs ks, t.length ≤ 30 * 4 ^ m ∧ ∀ c ∈ t, c < 128 := fun t ht => by
      rw [kTs_map] at ht
      obtain ⟨k, hk, rfl⟩ := List.mem_map.mp ht
      exact kT_ok m k (hks k hk) (gks' k hk)
    obtain ⟨l1, l2⟩ := listedT_ok fun t ht => (all t ht).2
    have s1 := sum_le fun t ht => (all t ht).1
    have kl : (kTs ks).length = ks.length := by rw [kTs_map, List.length_map]
    have kz := g.2.1
    have : 1 ≤ 4 ^ m := Nat.pow_pos (by decide)
    have s2 : (kTs ks).length * (30 * 4 ^ m) ≤ 2 * (30 * 4 ^ m) := Nat.mul_le_mul_right _ (by omega)
    have hw := g.1.1
    have e4 : 4 ^ (m + 1) = 4 ^ m * 4 := Nat.pow_succ ..
    simp only [kT]
    exact ⟨by rw [List.length_append, e4]; omega, lt_app g.1.2 l2⟩
def namK : Kd → List Nat
  | .num => sNum
  | .free _ => sFree
  | .made _ _ => sMade
theorem namK_ix (S : Store) (k : Kd) : vidx S (enc k) (.int 0) = some (.str (namK k)) := by cases k <;> simp [enc, namK]
theorem namK_lt (k : Kd) : ((namK k).all fun c => decide (c < 128)) = true := by cases k <;> rfl
theorem ab_ok (S : Store) (n : Int) (h : 0 ≤ n ∧ n < 2) : vidx S (.str [65, 66]) (.int n) = some (.str [if n = 0 then 65 else 66]) := by
  have : n = 0 ∨ n = 1 := by omega
  rcases this with rfl | rfl <;> simp [vidx, L2.atI, L2.ixN]
theorem lkind_ok : ∀ (m : Nat), m ≤ 5 → ∀ (D : Nat) (k : Kd), dep k ≤ m → gk k → TV (D + 1 + m) 30 (enc k) (kT k) := by
  intro m
  induction m with
  | zero => exact fun _ D k h => by cases k <;> simp only [dep] at h <;> omega
  | succ m ih =>
    intro hm D k hd hg
    refine TV_of fun S => callW fun_30 rfl ?_
    let Γ := Ge (D + 1 + m)
    let ρ : FF.Env := [some (enc k), none]
    show WS (denSs whlL Γ _ ρ S) _
    have n0 : denE Γ (.idx (.var 0) (.con (.int 0))) ρ S = .ok (.str (namK k)) S := by
      have := namK_ix S k
      simp [ρ, this]
    have tst : ∀ y : List Nat, (y.all fun c => decide (c < 128)) = true → testOf Γ (.cmp .eq (.idx (.var 0) (.con (.int 0))) (.con (.str y))) ρ S = .ok (decide (namK k = y)) S := fun y hy => t_nam n0 (namK_lt k) hy
    have tsE : ∀ y : List Nat, (y.all fun c => decide (c < 128)) = true → denE Γ (.cmp .eq (.idx (.var 0) (.con (.int 0))) (.con (.str y))) ρ S = .ok (.bl (decide (namK k = y))) S := fun y hy => c_eq n0 (d_con _ _ _ _) (eqL (namK_lt k) hy)
    cases k with
    | num =>
      refine st_ifF (S1 := S) (tst _ (by decide)) ?_
      refine st_ret (v := .str (kT .num)) (S1 := S) ?_ (by simp)
      rw [d_ife, tsE _ (by decide), bind_ok_]
      rfl
    | free n =>
      refine st_ifF (S1 := S) (tst _ (by decide)) ?_
      refine st_ret (v := .str (kT (.free n))) (S1 := S) ?_ (by simp)
      rw [d_ife, tsE _ (by decide), bind_ok_]
      have := ab_ok S n hg
      show denE Γ (.idx (.con (.str [65, 66])) (.idx (.var 0) (.con (.int 1)))) ρ S = _
      simp [ρ, enc, this, kT]
    | made w ks =>
      simp only [dep] at hd
      have hks := deps_le.mp (show deps ks ≤ m by omega)
      have gks' := gks_iff.mp hg.2.2
      refine st_ifT (S1 := S) (tst _ (by decide)) ?_
      obtain ⟨vs, c3, c4⟩ := v_comp (Γ := Γ) (ρ := ρ) (S := S) (t := .one 1) (k := .val) (es := [(.idx (.var 0) (.con (.int 2)))]) (e := .call .val 41 [(.var 1)]) (vs := [.tup (ks.map enc)]) (g := []) (xs := ks) enc (fun s v => v = PV.str (kT s)) (by simp [ρ, enc, encs_map]) (by simp) rfl (by have := hg.2.1; unfold cap; omega) (fun x hx =>
        ⟨[some (enc (.made w ks)), some (enc x)], rfl, W.of ((ih (by omega) D x (hks x hx) (gks' x hx)).call (e := .var 1) rfl rfl) ⟨rfl, rfl⟩⟩)
      have c5 := f2_map c4
      have c6 : vs = (kTs ks).map PV.str := by rw [c5, kTs_map, List.map_map]; rfl
      rw [c6] at c3
      have all : ∀ t ∈ kTs ks, t.length ≤ 30 * 4 ^ 5 ∧ ∀ c ∈ t, c < 128 := fun t ht => by
        rw [kTs_map] at ht
        obtain ⟨k, hk, rfl⟩ := List.mem_map.mp ht
        exact kT_ok 5 k (by have := hks k hk; omega) (gks' k hk)
      have s1 := sum_le fun t ht => (all t ht).1
      have kl : (kTs ks).length = ks.length := by rw [kTs_map, List.length_map]
      have kz := hg.2.1
      have s2 : (kTs ks).length * (30 * 4 ^ 5) ≤ 2 * (30 * 4 ^ 5) := Nat.mul_le_mul_right _ (by omega)
      obtain ⟨l1, l2⟩ := listedT_ok fun t ht => (all t ht).2
      have hw := hg.1.1
      have eD : D + 1 + m = (D + m) + 1 := by omega
      have q : Γ.call 28 [.lst ((kTs ks).map PV.str)] S = .ok (.str (listedT (kTs ks))) S := by
        show callL whlL P (D + 1 + m) _ _ _ = _
        rw [eD]
        exact llisted_ok (D + m) (kTs ks) S (fun t ht => (all t ht).2) (by omega)
      have c7 : denE Γ (.call .val 39 [(.comp false (.one 1) .val [(.idx (.var 0) (.con (.int 2)))] [] (.call .val 41 [(.var 1)]))]) ρ S = .ok (.str (listedT (kTs ks))) S := v_callc (f := 28) (S1 := S) (es_cons c3 (d_nil _ _ _)) rfl (by
        rw [q, bind_ok_]
        simp)
      exact st_ret (v_ct (x := w) (S1 := S) (by simp [ρ, enc]) c7 (by omega)) (by simp [kT])
end LK16
set_option Elab.async false
set_option linter.all false
set_option autoImplicit false
set_option maxRecDepth 100000
set_option maxHeartbeats 1000000
namespace LK16
open PySem FF L2
def parS : List (List Nat) := [[], [40, 65, 41], [40, 65, 44, 32, 66, 41]]
def parT (many : Int) : List Nat := parS.getD many.toNat []
def fT (p : List Nat × Kd) : List Nat := p.1 ++ [32] ++ kT p.2
def gT (t : List Nat × List Kd) : List Nat := t.1 ++ listedT (kTs t.2)
def aheadT (kw w : List Nat) (many : Int) : List Nat := kw ++ [32] ++ w ++ parT many ++ [32, 61, 32]
def dT : Dc → List Nat
  | .record w many t fs => aheadT sRecord w many ++ t ++ listedT (fs.map fT)
  | .choice w many ts => aheadT sChoice w many ++ TL.joinL [32, 124, 32] (ts.map gT)
theorem parT_ok {many : Int} (h : 0 ≤ many ∧ many < 3) : (parT many).length ≤ 6 ∧ ∀ c ∈ parT many, c < 128 := by
  have : many = 0 ∨ many = 1 ∨ many = 2 := by omega
  rcases this with rfl | rfl | rfl <;> exact ⟨by decide, by decide⟩
theorem fT_ok {p : List Nat × Kd} (h : sh p.1 ∧ gkd p.2) : (fT p).length ≤ 2000 ∧ ∀ c ∈ fT p, c < 128 := by
  obtain ⟨k1, k2⟩ := kT_ok 3 p.2 h.2.2 h.2.1
  have hw := h.1.1
  unfold fT
  exact ⟨by simp only [List.length_append, List.length_cons, List.length_nil]; omega, lt_app (lt_app h.1.2 (by decide)) k2⟩
theorem gT_ok {t : List Nat × List Kd} (h : sh t.1 ∧ t.2.length ≤ 4 ∧ ∀ k ∈ t.2, gkd k) : (∀ x ∈ kTs t.2, x.length ≤ 1920 ∧ ∀ c ∈ x, c < 128) ∧ (gT t).length ≤ 9000 ∧ ∀ c ∈ gT t, c < 128 := by
  have all : ∀ x ∈ kTs t.2, x.length ≤ 1920 ∧ ∀ c ∈ x, c < 128 := fun x hx => by
    rw [kTs_map] at hx
    obtain ⟨k, hk, rfl⟩ := List.mem_map.mp hx
    exact kT_ok 3 k (h.2.2 k hk).2 (h.2.2 k hk).1
  obtain ⟨l1, l2⟩ := listedT_ok fun x hx => (all x hx).2
  have s1 := sum_le fun x hx => (all x hx).1
  have kl : (kTs t.2).length = t.2.length := by rw [kTs_map, List.length_map]
  have s2 : (kTs t.2).length * 1920 ≤ 4 * 1920 := Nat.mul_le_mul_right _ (by omega)
  have hw := h.1.1
  unfold gT
  exact ⟨all, by rw [List.length_append]; omega, lt_app h.1.2 l2⟩
theorem ldecl_ok (n : Nat) (hn : 10 ≤ n) (dc : Dc) (g : gD dc) : TV (n + 1) 35 (encD dc) (dT dc) := by
  refine TV_of fun S => callW fun_35 rfl ?_
  let Γ := Ge n
  have kc : ∀ k, gkd k → TV n 30 (enc k) (kT k) := fun k h => by
    have q := lkind_ok 3 (by omega) (n - 4) k h.2 h.1
    have e : n - 4 + 1 + 3 = n := by omega
    rw [e] at q
    exact q
  have lc : ∀ ts : List (List Nat), (∀ t ∈ ts, ∀ c ∈ t, c < 128) → (ts.map (·.length)).sum + 2 * ts.length ≤ 15000000 → ∀ (ρ : FF.Env) (e : E), denE Γ e ρ S = .ok (.lst (ts.map PV.str)) S → denE Γ (.call .val 39 [e]) ρ S = .ok (.str (listedT ts)) S := fun ts h1 h2 ρ e he => v_callc (f := 28) (S1 := S) (es_cons he (d_nil _ _ _)) rfl (by
    have q := llisted_ok (n - 1) ts S h1 h2
    have e : n - 1 + 1 = n := by omega
    rw [e] at q
    have q2 : Γ.call 28 [.lst (ts.map PV.str)] S = .ok (.str (listedT ts)) S := q
    rw [q2, bind_ok_]
    simp)
  have ahead : ∀ (kw w : List Nat) (many : Int) (r : List PV), kw.length ≤ 10 → sh w → (0 ≤ many ∧ many < 3) → denE Γ (.bin .add (.bin .add (.bin .add (.bin .add (.idx (.var 0) (.con (.int 0))) (.con (.str [32]))) (.idx (.var 0) (.con (.int 1)))) (.idx (.lst false [(.con (.str [])), (.con (.str [40, 65, 41])), (.con (.str [40, 65, 44, 32, 66, 41]))]) (.idx (.var 0) (.con (.int 2))))) (.con (.str [32, 61, 32]))) [some (.tup (.str kw :: .str w :: .int many :: r)), none, none, none, none, none] S = .ok (.str (aheadT kw w many)) S := by
    intro kw w many r h1 h2 h3
    obtain ⟨p1, p2⟩ := parT_ok h3
    have hw := h2.1
    have eP : denE Γ (.idx (.lst false [(.con (.str [])), (.con (.str [40, 65, 41])), (.con (.str [40, 65, 44, 32, 66, 41]))]) (.idx (.var 0) (.con (.int 2)))) [some (.tup (.str kw :: .str w :: .int many :: r)), none, none, none, none, none] S = .ok (.str (parT many)) S := by
      have : many = 0 ∨ many = 1 ∨ many = 2 := by omega
      rcases this with rfl | rfl | rfl
      · simp [parT, parS]
      · simp [parT, parS]
      · have h : vidx S (.lst [.str [], .str [40, 65, 41], .str [40, 65, 44, 32, 66, 41]]) (.int 2) = some (.str [40, 65, 44, 32, 66, 41]) := by simp [vidx, L2.atI, L2.ixN]
        simp [parT, parS, h]
    exact v_ct (v_ct (v_ct (v_ct (x := kw) (S1 := S) (by simp) (d_con _ _ _ _) (by simp only [List.length_cons, List.length_nil]; omega)) (y := w) (S2 := S) (by simp) (by simp only [List.length_append, List.length_cons, List.length_nil]; omega)) eP (by simp only [List.length_append, List.length_cons, List.length_nil]; omega)) (d_con _ _ _ _) (by simp only [List.length_append, List.length_cons, List.length_nil]; omega)
  have al : ∀ (kw w : List Nat) (many : Int), kw.length ≤ 10 → sh w → (0 ≤ many ∧ many < 3) → (aheadT kw w many).length ≤ 40 := fun kw w many h1 h2 h3 => by
    obtain ⟨p1, p2⟩ := parT_ok h3
    have hw := h2.1
    unfold aheadT
    simp only [List.length_append, List.length_cons, List.length_nil]
    omega
  cases dc with
  | record w many t fs =>
    obtain ⟨g1, g2, g3, g4, g5⟩ := g
    have hal := al sRecord w many (by decide) g1 g2
    refine st_asg (ahead sRecord w many _ (by decide) g1 g2) ?_
    let ρ : FF.Env := [some (encD (.record w many t fs)), some (.str (aheadT sRecord w many)), none, none, none, none]
    show WS (denSs whlL Γ _ ρ S) _
    refine st_ifT (S1 := S) (by
      have h := t_nam (Γ := Γ) (ρ := ρ) (S := S) (x := sRecord) (y := sRecord) (e := .idx (.var 0) (.con (.int 0))) (by simp [ρ, encD]) (by decide) (by decide)
      simpa using h) ?_
    obtain ⟨vs, c3, c4⟩ := v_comp (Γ := Γ) (ρ := ρ) (S := S) (t := .many [4, 5]) (k := .val) (es := [(.idx (.var 0) (.con (.int 4)))]) (e := .bin .add (.bin .add (.var 4) (.con (.str [32]))) (.call .val 41 [(.var 5)])) (vs := [.tup (fs.map encF)]) (g := []) (xs := fs) encF (fun p v => v = PV.str (fT p)) (by
        have h : vidx S (encD (.record w many t fs)) (.int 4) = some (.tup (fs.map encF)) := by simp [encD, vidx, L2.atI, L2.ixN]
        simp [ρ, h]) (by simp) rfl (by unfold cap; omega) (fun p hp => by
      have gp := g5 p hp
      obtain ⟨k1, k2⟩ := kT_ok 3 p.2 gp.2.2 gp.2.1
      have hw := gp.1.1
      refine ⟨[some (encD (.record w many t fs)), some (.str (aheadT sRecord w many)), none, none, some (.str p.1), some (enc p.2)], by simp [ρ, encF], W.of (a := .str (fT p)) (S := S) ?_ ⟨rfl, rfl⟩⟩
      exact v_ct (v_ct (x := p.1) (S1 := S) rfl (d_con _ _ _ _) (by simp only [List.length_cons, List.length_nil]; omega)) ((kc p.2 gp.2).call (e := .var 5) rfl rfl) (by simp only [List.length_append, List.length_cons, List.length_nil]; omega))
    have c5 := f2_map c4
    have c6 : vs = (fs.map fT).map PV.str := by rw [c5, List.map_map]; rfl
    rw [c6] at c3
    have all : ∀ x ∈ fs.map fT, x.length ≤ 2000 ∧ ∀ c ∈ x, c < 128 := fun x hx => by
      obtain ⟨p, hp, rfl⟩ := List.mem_map.mp hx
      exact fT_ok (g5 p hp)
    have s1 := sum_le fun x hx => (all x hx).1
    have kl : (fs.map fT).length = fs.length := List.length_map ..
    have s2 : (fs.map fT).length * 2000 ≤ 4 * 2000 := Nat.mul_le_mul_right _ (by omega)
    obtain ⟨l1, l2⟩ := listedT_ok fun x hx => (all x hx).2
    have c7 := lc (fs.map fT) (fun x hx => (all x hx).2) (by omega) ρ _ c3
    have ht := g3.1
    have e3 : denE Γ (.idx (.var 0) (.con (.int 3))) ρ S = .ok (.str t) S := by simp [ρ, encD]
    exact st_ret (v_ct (v_ct (x := aheadT sRecord w many) (S1 := S) rfl e3 (by omega)) c7 (by rw [List.length_append]; omega)) (by simp [dT])
  | choice w many ts =>
    obtain ⟨g1, g2, g4, g5⟩ := g
    have hal := al sChoice w many (by decide) g1 g2
    refine st_asg (ahead sChoice w many _ (by decide) g1 g2) ?_
    let ρ : FF.Env := [some (encD (.choice w many ts)), some (.str (aheadT sChoice w many)), none, none, none, none]
    show WS (denSs whlL Γ _ ρ S) _
    refine st_ifF (S1 := S) (by
      have h := t_nam (Γ := Γ) (ρ := ρ) (S := S) (x := sChoice) (y := sRecord) (e := .idx (.var 0) (.con (.int 0))) (by simp [ρ, encD]) (by decide) (by decide)
      simpa using h) ?_
    obtain ⟨vs, c3, c4⟩ := v_comp (Γ := Γ) (ρ := ρ) (S := S) (t := .many [2, 3]) (k := .val) (es := [(.idx (.var 0) (.con (.int 3)))]) (e := .bin .add (.var 2) (.call .val 39 [(.comp false (.one 5) .val [(.var 3)] [] (.call .val 41 [(.var 5)]))])) (vs := [.tup (ts.map encG)]) (g := []) (xs := ts) encG (fun p v => v = PV.str (gT p)) (by simp [ρ, encD]) (by simp) rfl (by unfold cap; omega) (fun p hp => by
      have gp := g5 p hp
      obtain ⟨k0, k1, k2⟩ := gT_ok gp
      have hw := gp.1.1
      let ρ5 : FF.Env := [some (encD (.choice w many ts)), some (.str (aheadT sChoice w many)), some (.str p.1), some (.tup (p.2.map enc)), none, none]
      refine ⟨ρ5, by simp [ρ, encG, ρ5], W.of (a := .str (gT p)) (S := S) ?_ ⟨rfl, rfl⟩⟩
      obtain ⟨us, d3, d4⟩ := v_comp (Γ := Γ) (ρ := ρ5) (S := S) (t := .one 5) (k := .val) (es := [(.var 3)]) (e := .call .val 41 [(.var 5)]) (vs := [.tup (p.2.map enc)]) (g := []) (xs := p.2) enc (fun s v => v = PV.str (kT s)) rfl (by simp) rfl (by have := gp.2.1; unfold cap; omega) (fun x hx =>
        ⟨_, rfl, W.of ((kc x (gp.2.2 x hx)).call (e := .var 5) rfl rfl) ⟨rfl, rfl⟩⟩)
      have d5 := f2_map d4
      have d6 : us = (kTs p.2).map PV.str := by rw [d5, kTs_map, List.map_map]; rfl
      rw [d6] at d3
      have s1 := sum_le fun x hx => (k0 x hx).1
      have kl : (kTs p.2).length = p.2.length := by rw [kTs_map, List.length_map]
      have s2 : (kTs p.2).length * 1920 ≤ 4 * 1920 := Nat.mul_le_mul_right _ (by have := gp.2.1; omega)
      have c7 := lc (kTs p.2) (fun x hx => (k0 x hx).2) (by have := gp.2.1; omega) ρ5 _ d3
      have gl : (gT p).length = p.1.length + (listedT (kTs p.2)).length := by unfold gT; rw [List.length_append]
      exact v_ct (x := p.1) (S1 := S) rfl c7 (by omega))
    have c5 := f2_map c4
    have c6 : vs = (ts.map gT).map PV.str := by rw [c5, List.map_map]; rfl
    rw [c6] at c3
    have all : ∀ x ∈ ts.map gT, x.length ≤ 9000 := fun x hx => by
      obtain ⟨p, hp, rfl⟩ := List.mem_map.mp hx
      exact (gT_ok (g5 p hp)).2.1
    have s1 := sum_le all
    have kl : (ts.map gT).length = ts.length := List.length_map ..
    have s2 : (ts.map gT).length * 9000 ≤ 3 * 9000 := Nat.mul_le_mul_right _ (by omega)
    have kb := joinL_len [32, 124, 32] (ts.map gT)
    simp only [List.length_cons, List.length_nil] at kb
    have c7 := v_join (y := [32, 124, 32]) c3 (okB (by simp only [List.length_cons, List.length_nil]; omega))
    exact st_ret (v_ct (x := aheadT sChoice w many) (S1 := S) rfl c7 (by omega)) (by simp [dT])
end LK16
set_option Elab.async false
set_option linter.all false
set_option autoImplicit false
set_option maxRecDepth 100000
set_option maxHeartbeats 1000000
namespace LK16
open PySem FF L2
def fnT (f : Fn) : List Nat := [100, 101, 102, 105, 110, 101, 32] ++ f.w ++ [40] ++ TL.joinL [44, 32] f.us ++ [41, 32, 61, 32] ++ eT f.e
def mainT (e : Ex) : List Nat := [109, 97, 105, 110, 32, 61, 32] ++ eT e
def linesT (p : Pg) : List (List Nat) := p.ds.map dT ++ p.fs.map fnT ++ [mainT p.m]
def pT (p : Pg) : List Nat := TL.joinL [10] (linesT p)
theorem v_compT {α : Type} {Γ : Env2} {ρ : FF.Env} {S : Store} {t : CT} {k : SrcK} {es : List E} {e : E} {vs : List PV} {g : Guard} {xs : List α} (i : α → PV) (R : α → PV → Prop) (h1 : denEs Γ es ρ S = .ok vs S) (h2 : walk S k vs = some (xs.map i, g)) (hg : intact g S = true) (hl : xs.length ≤ cap)
    (h : ∀ x ∈ xs, ∃ ρ', bindT S t (i x) (wipeE ρ (own t)) = some ρ' ∧ W (denE Γ e ρ' S) fun v T => T = S ∧ R x v) : ∃ ys, denE Γ (.comp true t k es [] e) ρ S = .ok (.ref S.length) (S ++ [.lst ys]) ∧ F2 R xs ys := by
  obtain ⟨ys, q1, q2⟩ := compL_rel (g := g) (t := t) (c := fun ρ' S' => denC Γ [] ρ' S') (e := fun ρ' S' => denE Γ e ρ' S') (ρ := wipeE ρ (own t)) (S := S) i (fun _ => true) R hg xs [] (by simpa using hl) (fun x hx => by
    obtain ⟨ρ', a, b⟩ := h x hx
    exact ⟨ρ', a, rfl, fun _ => b⟩)
  refine ⟨ys, ?_, by rwa [List.filter_eq_self.mpr (fun _ _ => rfl)] at q2⟩
  show ((denEs Γ es ρ S).bind fun vs S1 => (match walk S1 k vs with
    | some (xs, g) => (compL g t (fun ρ' S' => denC Γ [] ρ' S') (fun ρ' S' => denE Γ e ρ' S') (wipeE ρ (own t)) xs [] S1).bind fun r S2 => FF.alloc true (.lst r) S2
    | none => .bad)) = _
  rw [h1]
  simp only [bind_ok_, h2, q1, alloc_t, List.nil_append]
theorem dT_len {d : Dc} (g : gD d) : (dT d).length ≤ 40000 := by
  have al : ∀ (kw w : List Nat) (many : Int), kw.length ≤ 10 → sh w → (0 ≤ many ∧ many < 3) → (aheadT kw w many).length ≤ 40 := fun kw w many h1 h2 h3 => by
    obtain ⟨p1, p2⟩ := parT_ok h3
    have hw := h2.1
    unfold aheadT
    simp only [List.length_append, List.length_cons, List.length_nil]
    omega
  cases d with
  | record w many t fs =>
    obtain ⟨g1, g2, g3, g4, g5⟩ := g
    have h1 := al sRecord w many (by decide) g1 g2
    have all : ∀ x ∈ fs.map fT, x.length ≤ 2000 ∧ ∀ c ∈ x, c < 128 := fun x hx => by
      obtain ⟨p, hp, rfl⟩ := List.mem_map.mp hx
      exact fT_ok (g5 p hp)
    have s1 := sum_le fun x hx => (all x hx).1
    have kl : (fs.map fT).length = fs.length := List.length_map ..
    have s2 : (fs.map fT).length * 2000 ≤ 4 * 2000 := Nat.mul_le_mul_right _ (by omega)
    obtain ⟨l1, l2⟩ := listedT_ok fun x hx => (all x hx).2
    have ht := g3.1
    simp only [dT, List.length_append]
    omega
  | choice w many ts =>
    obtain ⟨g1, g2, g4, g5⟩ := g
    have h1 := al sChoice w many (by decide) g1 g2
    have all : ∀ x ∈ ts.map gT, x.length ≤ 9000 := fun x hx => by
      obtain ⟨p, hp, rfl⟩ := List.mem_map.mp hx
      exact (gT_ok (g5 p hp)).2.1
    have s1 := sum_le all
    have kl : (ts.map gT).length = ts.length := List.length_map ..
    have s2 : (ts.map gT).length * 9000 ≤ 3 * 9000 := Nat.mul_le_mul_right _ (by omega)
    have kb := joinL_len [32, 124, 32] (ts.map gT)
    simp only [List.length_cons, List.length_nil] at kb
    simp only [dT, List.length_append]
    omega
theorem us_len {f : Fn} (g : gFn f) : (TL.joinL [44, 32] f.us).length ≤ 100 ∧ ((f.us.map (·.length)).sum + f.us.length * 2 ≤ 100) := by
  have s1 := sum_le fun x hx => (g.us x hx).1
  have s2 : f.us.length * 16 ≤ 4 * 16 := Nat.mul_le_mul_right _ g.ul
  have kb := joinL_len [44, 32] f.us
  have := g.ul
  simp only [List.length_cons, List.length_nil] at kb
  omega
theorem fnT_len {f : Fn} (g : gFn f) : (fnT f).length ≤ 160000 := by
  obtain ⟨a1, _⟩ := eT_ok f.e g.e
  have := g.n
  have hw := g.w.1
  obtain ⟨u1, _⟩ := us_len g
  simp only [fnT, List.length_append, List.length_cons, List.length_nil]
  omega
end LK16
set_option Elab.async false
set_option linter.all false
set_option autoImplicit false
set_option maxRecDepth 100000
set_option maxHeartbeats 1000000
namespace LK16
open PySem FF L2
theorem lwhole_ok (n : Nat) (hn : 58 ≤ n) (p : Pg) (gp : gP p) : TV (n + 1) 36 (encP p) (pT p) := by
  have T : ∀ e, dpE e ≤ 24 → gE e → nodE e ≤ 300000 → TV n 34 (encE e) (eT e) := fun e h1 h2 h3 => by
    have q := ltext_ok 24 (n - 58) e h1 h2 h3
    have e : n - 58 + 2 * 24 + 10 = n := by omega
    rw [e] at q
    exact q
  have Dl : ∀ d, gD d → TV n 35 (encD d) (dT d) := fun d h => by
    have q := ldecl_ok (n - 1) (by omega) d h
    have e : n - 1 + 1 = n := by omega
    rw [e] at q
    exact q
  refine TV_of fun S => callW fun_36 rfl ?_
  let Γ := Ge n
  let ρ : Option PV → Option PV → Option PV → Option PV → FF.Env := fun o1 o2 o3 o4 => [some (encP p), o1, o2, o3, o4, none]
  show WS (denSs whlL Γ _ (ρ none none none none) S) _
  obtain ⟨ys, c1, c2⟩ := v_compT (Γ := Γ) (ρ := ρ none none none none) (S := S) (t := .one 5) (k := .val) (es := [(.idx (.var 0) (.con (.int 0)))]) (e := .call .val 46 [(.var 5)]) (vs := [.lst (p.ds.map encD)]) (g := []) (xs := p.ds) encD (fun d v => v = PV.str (dT d)) (by simp [ρ, encP]) (by simp) rfl (by have := gp.dl; unfold cap; omega) (fun x hx =>
    ⟨_, rfl, W.of ((Dl x (gp.ds x hx)).call (e := .var 5) rfl rfl) ⟨rfl, rfl⟩⟩)
  have c3 := f2_map c2
  have c4 : ys = (p.ds.map dT).map PV.str := by rw [c3, List.map_map]; rfl
  subst c4
  refine st_asg c1 ?_
  show WS (denSs whlL Γ _ (ρ (some (.ref S.length)) none none none) _) _
  have dl := gp.dl
  have fl := gp.fl
  refine st_for encFn (fun r ρ' T' => ∃ (done : List Fn) (o2 o3 o4 : Option PV), T' = S ++ [.lst ((p.ds.map dT ++ done.map fnT).map PV.str)] ∧ ρ' = ρ (some (.ref S.length)) o2 o3 o4 ∧ done ++ r = p.fs) (xs := p.fs) (vs := [.lst (p.fs.map encFn)]) (S1 := S ++ [.lst ((p.ds.map dT).map PV.str)]) (by simp [ρ, encP]) (by simp) ⟨[], none, none, none, by simp, rfl, rfl⟩ (fun f r ρ' T' ⟨done, o2, o3, o4, hT, hρ, hd⟩ => ?_) fun ρ' T' ⟨done, o2, o3, o4, hT, hρ, hd⟩ => ?_
  · subst hT hρ
    have hf : f ∈ p.fs := by rw [← hd]; simp
    have gf := gp.fs f hf
    have hdl : done.length ≤ 2 := by
      have : (done ++ f :: r).length ≤ 2 := by rw [hd]; exact fl
      simp at this
      omega
    obtain ⟨a1, _⟩ := eT_ok f.e gf.e
    have a2 := gf.n
    have hw := gf.w.1
    obtain ⟨u1, u2⟩ := us_len gf
    let ρ4 := ρ (some (.ref S.length)) (some (.str f.w)) (some (.tup (f.us.map PV.str))) (some (encE f.e))
    let T4 : Store := S ++ [.lst ((p.ds.map dT ++ done.map fnT).map PV.str)]
    refine ⟨ρ4, by simp [encFn, ρ, ρ4], ?_⟩
    have q1 := (T f.e (by have := gf.d; omega) gf.e (by omega)).call (ρ := ρ4) (S := T4) (e := .var 4) (g := 45) rfl rfl
    have lE : denE Γ (.blt false .list [(.var 3)]) ρ4 T4 = .ok (.lst (f.us.map PV.str)) T4 := by
      have e3 : denE Γ (.var 3) ρ4 T4 = .ok (.tup (f.us.map PV.str)) T4 := rfl
      rw [d_blt, es_cons e3 (d_nil _ _ _)]
      simp
    have q2 := v_join (y := [44, 32]) lE (okB (by simp only [List.length_cons, List.length_nil]; omega))
    have q3 := v_ct (v_ct (v_ct (v_ct (v_ct (d_con Γ ρ4 T4 (.str [100, 101, 102, 105, 110, 101, 32])) (b := .var 2) (y := f.w) (S2 := T4) rfl (by simp only [List.length_cons, List.length_nil]; omega)) (d_con _ _ _ (.str [40])) (by simp only [List.length_append, List.length_cons, List.length_nil]; omega)) q2 (by simp only [List.length_append, List.length_cons, List.length_nil]; omega)) (d_con _ _ _ (.str [41, 32, 61, 32])) (by simp only [List.length_append, List.length_cons, List.length_nil]; omega)) q1 (by simp only [List.length_append, List.length_cons, List.length_nil]; omega)
    have q4 := v_app (Γ := Γ) (ρ := ρ4) (S := T4) (i := 1) (m := S.length) rfl (s_at S _) q3 (s_at S _) (by simp; omega)
    have e5 : T4.set S.length (.lst ((p.ds.map dT ++ done.map fnT).map PV.str ++ [.str ([100, 101, 102, 105, 110, 101, 32] ++ f.w ++ [40] ++ TL.joinL [44, 32] f.us ++ [41, 32, 61, 32] ++ eT f.e)])) = S ++ [.lst ((p.ds.map dT ++ (done ++ [f]).map fnT).map PV.str)] := by
      show (S ++ _).set S.length _ = _
      rw [s_set]
      simp [fnT]
    rw [e5] at q4
    refine st_expr q4 ?_
    exact st_nil ⟨done ++ [f], _, _, _, rfl, rfl, by rw [← hd]; simp⟩
  · subst hT hρ
    rw [List.append_nil] at hd
    subst hd
    let T4 : Store := S ++ [.lst ((p.ds.map dT ++ p.fs.map fnT).map PV.str)]
    let ρ4 := ρ (some (.ref S.length)) o2 o3 o4
    obtain ⟨a1, _⟩ := eT_ok p.m gp.m
    have a2 := gp.n
    have q1 := (T p.m gp.d gp.m (by omega)).call (ρ := ρ4) (S := T4) (e := .idx (.var 0) (.con (.int 2))) (g := 45) (by simp [ρ4, ρ, encP]) rfl
    have q2 := v_ct (d_con Γ ρ4 T4 (.str [109, 97, 105, 110, 32, 61, 32])) q1 (by simp only [List.length_cons, List.length_nil]; omega)
    have q3 : denE Γ (.bin .add (.var 1) (.lst false [(.bin .add (.con (.str [109, 97, 105, 110, 32, 61, 32])) (.call .val 45 [(.idx (.var 0) (.con (.int 2)))]))])) ρ4 T4 = .ok (.lst ((linesT p).map PV.str)) T4 := by
      have e1 : denE Γ (.var 1) ρ4 T4 = .ok (.ref S.length) T4 := rfl
      have e2 : denE Γ (.lst false [(.bin .add (.con (.str [109, 97, 105, 110, 32, 61, 32])) (.call .val 45 [(.idx (.var 0) (.con (.int 2)))]))]) ρ4 T4 = .ok (.lst [.str (mainT p.m)]) T4 := by
        rw [d_lst, es_cons q2 (d_nil _ _ _)]
        simp [mainT]
      have e4 : view T4 (.ref S.length) = .lst ((p.ds.map dT ++ p.fs.map fnT).map PV.str) := by
        show (T4[S.length]?).getD _ = _
        have : T4[S.length]? = some (.lst ((p.ds.map dT ++ p.fs.map fnT).map PV.str)) := s_at S _
        rw [this]
        rfl
      rw [d_bin, e1, bind_ok_, e2, bind_ok_, e4]
      have o : okI (((p.ds.map dT ++ p.fs.map fnT).map PV.str).length + 1) = true := okN (by simp; omega)
      simp only [vw_lst, vb_add, va_lst, List.length_cons, List.length_nil, Nat.zero_add, o, if_true]
      simp [linesT]
    have s1 : ((linesT p).map (·.length)).sum ≤ (linesT p).length * 1090000 := sum_le fun t ht => by
      unfold linesT at ht
      rcases List.mem_append.mp ht with h | h
      · rcases List.mem_append.mp h with h | h
        · obtain ⟨d, hd, rfl⟩ := List.mem_map.mp h
          have := dT_len (gp.ds d hd)
          omega
        · obtain ⟨f, hf, rfl⟩ := List.mem_map.mp h
          have := fnT_len (gp.fs f hf)
          omega
      · rw [List.mem_singleton.mp h]
        simp only [mainT, List.length_append, List.length_cons, List.length_nil]
        omega
    have ll : (linesT p).length ≤ 6 := by
      simp only [linesT, List.length_append, List.length_map, List.length_cons, List.length_nil]
      omega
    have s2 : (linesT p).length * 1090000 ≤ 6 * 1090000 := Nat.mul_le_mul_right _ ll
    have q5 := v_join (y := [10]) q3 (okB (by simp only [List.length_cons, List.length_nil]; omega))
    exact st_ret q5 (settle_vx (by simp))
end LK16
set_option Elab.async false
set_option linter.all false
set_option autoImplicit false
set_option maxRecDepth 100000
set_option maxHeartbeats 1000000
namespace LK16
open PySem FF L2
mutual
/-- the program's shape -/
def ob : Sh → PV
  | .any => .obj 1 [] []
  | .word w => .obj 2 [1] [.str w]
  | .span lo hi => .obj 3 [2, 3] [.int lo, .int hi]
  | .made t ps => .obj 4 [5, 4] [.str t, .lst (obs ps)]
  | .either a b => .obj 5 [6, 7] [ob a, ob b]
  | .also p w => .obj 6 [8, 1] [ob p, .str w]
def obs : List Sh → List PV
  | [] => []
  | s :: ss => ob s :: obs ss
end
theorem obs_map : ∀ ss : List Sh, obs ss = ss.map ob
  | [] => rfl
  | s :: ss => by simp [obs, obs_map ss]
mutual
theorem low_ob : ∀ (n : Nat) (s : Sh), low n (ob s) = true
  | n, .any => by simp [ob]
  | n, .word w => by simp [ob]
  | n, .span lo hi => by simp [ob]
  | n, .made t ps => by simp [ob, lows_obs n ps]
  | n, .either a b => by simp [ob, low_ob n a, low_ob n b]
  | n, .also p w => by simp [ob, low_ob n p]
theorem lows_obs : ∀ (n : Nat) (ss : List Sh), lows n (obs ss) = true
  | n, [] => by simp [obs]
  | n, s :: ss => by simp [obs, low_ob n s, lows_obs n ss]
end
theorem set_ob (S : Store) (s : Sh) : FF.settle .val S (ob s) S = .ok (ob s) S := settle_v (low_ob _ s)
theorem init_word (d : Nat) (w : List Nat) (S : Store) : K (d + 1) 48 [.ref S.length, .str w] (S ++ [.obj 2 [] []]) = .ok .non (S ++ [ob (.word w)]) := by
  refine callE (callW fun_48 rfl ?_)
  refine st_self (v := .str w) (by simp) rfl (by simp) ?_
  exact st_nil ⟨rfl, rfl⟩
theorem init_span (d : Nat) (lo hi : Int) (S : Store) : K (d + 1) 54 [.ref S.length, .int lo, .int hi] (S ++ [.obj 3 [] []]) = .ok .non (S ++ [ob (.span lo hi)]) := by
  refine callE (callW fun_54 rfl ?_)
  refine st_self (v := .int lo) (by simp) rfl (by simp) ?_
  refine st_self (v := .int hi) (by simp) rfl (by simp [fput]) ?_
  exact st_nil ⟨rfl, rfl⟩
theorem init_made (d : Nat) (t : List Nat) (ps : List PV) (S : Store) : K (d + 1) 58 [.ref S.length, .str t, .lst ps] (S ++ [.obj 4 [] []]) = .ok .non (S ++ [.obj 4 [5, 4] [.str t, .lst ps]]) := by
  refine callE (callW fun_58 rfl ?_)
  refine st_self (v := .str t) (by simp) rfl (by simp) ?_
  refine st_self (v := .lst []) (by simp) rfl (by simp [fput]) ?_
  refine st_ifT (S1 := _) (by simp; rfl) ?_
  refine st_self (v := .lst ps) (by simp) rfl (by simp [fput]) ?_
  exact st_nil ⟨rfl, rfl⟩
theorem init_made0 (d : Nat) (t : List Nat) (S : Store) : K (d + 1) 58 [.ref S.length, .str t] (S ++ [.obj 4 [] []]) = .ok .non (S ++ [.obj 4 [5, 4] [.str t, .lst []]]) := by
  refine callE (callW fun_58 rfl ?_)
  refine st_self (v := .str t) (by simp) rfl (by simp) ?_
  refine st_self (v := .lst []) (by simp) rfl (by simp [fput]) ?_
  refine st_ifF (S1 := _) (by simp; rfl) ?_
  exact st_nil ⟨rfl, rfl⟩
theorem init_either (d : Nat) (a b : PV) (S : Store) : K (d + 1) 65 [.ref S.length, a, b] (S ++ [.obj 5 [] []]) = .ok .non (S ++ [.obj 5 [6, 7] [a, b]]) := by
  refine callE (callW fun_65 rfl ?_)
  refine st_self (v := a) (by simp) rfl (by simp) ?_
  refine st_self (v := b) (by simp) rfl (by simp [fput]) ?_
  exact st_nil ⟨rfl, rfl⟩
theorem init_also (d : Nat) (a : PV) (w : List Nat) (S : Store) : K (d + 1) 73 [.ref S.length, a, .str w] (S ++ [.obj 6 [] []]) = .ok .non (S ++ [.obj 6 [8, 1] [a, .str w]]) := by
  refine callE (callW fun_73 rfl ?_)
  refine st_self (v := a) (by simp) rfl (by simp) ?_
  refine st_self (v := .str w) (by simp) rfl (by simp [fput]) ?_
  exact st_nil ⟨rfl, rfl⟩
end LK16
set_option Elab.async false
set_option linter.all false
set_option autoImplicit false
set_option maxRecDepth 100000
set_option maxHeartbeats 1000000
namespace LK16
open PySem FF L2
mutual
theorem fit_encS : ∀ (m : Nat) (s : Sh), dpS s ≤ m → gS s → fit (2 * m) (encS s) = true
  | 0, s, h, _ => by cases s <;> simp only [dpS] at h <;> omega
  | m + 1, .any, _, _ => by
    show fit (2 * m + 1 + 1) _ = true
    simp [encS, fit, fits]
  | m + 1, .word w, _, g => by
    show fit (2 * m + 1 + 1) _ = true
    have := g.2
    simp [encS, fit, fits]
    exact this
  | m + 1, .span lo hi, _, _ => by
    show fit (2 * m + 1 + 1) _ = true
    simp [encS, fit, fits]
  | m + 1, .made t ps, h, g => by
    simp only [dpS] at h
    have h2 := fits_encS m ps (dpSs_le.mp (by omega)) g.2.2
    have := g.1.2
    show fit (2 * m + 1 + 1) _ = true
    simp [encS, fit, fits, h2]
    exact this
  | m + 1, .either a b, h, g => by
    simp only [dpS] at h
    have h1 := fit_up (k := 2 * m + 1) (by omega) (fit_encS m a (by omega) g.1)
    have h2 := fit_up (k := 2 * m + 1) (by omega) (fit_encS m b (by omega) g.2)
    show fit (2 * m + 1 + 1) _ = true
    simp [encS, fit, fits, h1, h2]
  | m + 1, .also p w, h, g => by
    simp only [dpS] at h
    have h1 := fit_up (k := 2 * m + 1) (by omega) (fit_encS m p (by omega) g.1)
    have := g.2.2
    show fit (2 * m + 1 + 1) _ = true
    simp [encS, fit, fits, h1]
    exact this
theorem fits_encS : ∀ (m : Nat) (ss : List Sh), (∀ s ∈ ss, dpS s ≤ m) → gSs ss → fits (2 * m) (encSs ss) = true
  | _, [], _, _ => by simp [encSs, fits]
  | m, s :: ss, h, g => by
    have h1 := fit_encS m s (h s List.mem_cons_self) g.1
    have h2 := fits_encS m ss (fun x hx => h x (List.mem_cons_of_mem _ hx)) g.2
    simp [encSs, fits, h1, h2]
end
theorem eqV_nilT {n : Nat} {xs : List PV} (hn : n ≤ 64) (h : fit n (.tup xs) = true) : FF.eqV (.tup xs) (.tup []) = some (decide (xs = [])) := by
  obtain ⟨d, h1, h2⟩ := shp_fit hn h
  obtain ⟨d2, h3, h4⟩ := shp_fit (v := .tup []) (n := 1) (by omega) (by simp [fit, fits])
  have e2 : d2 = .tuple [] := by
    have : toD (.tup []) = some (.tuple []) := by simp [toD, toDs]
    rw [h3] at this
    cases this
    rfl
  subst e2
  unfold FF.eqV
  rw [h2, h4]
  unfold toD at h1
  cases hd : toDs xs with
  | none => rw [hd] at h1; cases h1
  | some ds =>
    rw [hd] at h1
    simp only [Option.map_some, Option.some.injEq] at h1
    subst h1
    cases xs with
    | nil =>
      simp only [toDs, Option.some.injEq] at hd
      subst hd
      simp [PyData.eqv, PyData.eqvAll]
    | cons x r =>
      cases ds with
      | nil =>
        simp only [toDs] at hd
        split at hd
        · cases hd
        · cases hd
      | cons y r2 => simp [PyData.eqv, PyData.eqvAll]
theorem built_ok : ∀ (m : Nat), m ≤ 20 → ∀ (D : Nat) (s : Sh) (S : Store), dpS s ≤ m → gS s → K (D + 2 + m) 22 [encS s] S = .ok (ob s) S := by
  intro m
  induction m with
  | zero => exact fun _ D s S h => by cases s <;> simp only [dpS] at h <;> omega
  | succ m ih =>
    intro hm20 D s S hd hg
    let Γ := Ge (D + 2 + m)
    have e2 : D + 2 + m = (D + m + 1) + 1 := by omega
    have hin : Γ.init = callL whlL P (D + m + 1) := by
      show prevD whlL P (D + 2 + m) = _
      rw [e2]
      rfl
    have IH : ∀ (s : Sh) (e : E) (ρ : FF.Env), dpS s ≤ m → gS s → denE Γ e ρ S = .ok (encS s) S → denE Γ (.call .val 33 [e]) ρ S = .ok (ob s) S := by
      intro s e ρ h1 h2 h3
      refine v_callc (f := 22) (S1 := S) (es_cons h3 (d_nil _ _ _)) rfl ?_
      have q : Γ.call 22 [encS s] S = .ok (ob s) S := ih (by omega) D s S h1 h2
      rw [q, bind_ok_]
      exact settle_v (low_ob _ _)
    clear ih
    refine callE (callW fun_22 rfl ?_)
    let ρ : FF.Env := [some (encS s), none]
    show WS (denSs whlL Γ _ ρ S) _
    have n0 : denE Γ (.idx (.var 0) (.con (.int 0))) ρ S = .ok (.str (nam s)) S := by
      have := nam_ix S s
      simp [ρ, this]
    have tsE : ∀ y : List Nat, (y.all fun c => decide (c < 128)) = true → denE Γ (.cmp .eq (.idx (.var 0) (.con (.int 0))) (.con (.str y))) ρ S = .ok (.bl (decide (nam s = y))) S := fun y hy => c_eq n0 (d_con _ _ _ _) (eqL (nam_lt s) hy)
    have tst : ∀ y : List Nat, (y.all fun c => decide (c < 128)) = true → testOf Γ (.cmp .eq (.idx (.var 0) (.con (.int 0))) (.con (.str y))) ρ S = .ok (decide (nam s = y)) S := fun y hy => t_of (tsE y hy)
    have noM : ∀ (e : E), nam s ≠ sMade → testOf Γ (.and [(.cmp .eq (.idx (.var 0) (.con (.int 0))) (.con (.str [109, 97, 100, 101]))), e]) ρ S = .ok false S := fun e h => t_of (by
      rw [d_and, d_and2, tsE _ (by decide), bind_ok_, decide_eq_false h]
      simp only [tr_bl])
    cases s with
    | any =>
      refine st_ifT (S1 := S) (tst _ (by decide)) ?_
      exact st_ret (v := ob .any) (S1 := S) (mk0_ok rfl rfl) ⟨rfl, rfl⟩
    | word w =>
      refine st_ifF (S1 := S) (tst _ (by decide)) ?_
      refine st_ifT (S1 := S) (tst _ (by decide)) ?_
      exact st_ret (v := ob (.word w)) (S1 := S) (mk_ok (Γ := Γ) (f := 48) (vs := [.str w]) (by simp [ρ, encS]) rfl rfl (by rw [hin]; exact init_word (D + m) w S) (low_ob _ _)) ⟨rfl, rfl⟩
    | span lo hi =>
      refine st_ifF (S1 := S) (tst _ (by decide)) ?_
      refine st_ifF (S1 := S) (tst _ (by decide)) ?_
      refine st_ifT (S1 := S) (tst _ (by decide)) ?_
      exact st_ret (v := ob (.span lo hi)) (S1 := S) (mk_ok (Γ := Γ) (f := 54) (vs := [.int lo, .int hi]) (by simp [ρ, encS]) rfl rfl (by rw [hin]; exact init_span (D + m) lo hi S) (low_ob _ _)) ⟨rfl, rfl⟩
    | made t ps =>
      simp only [dpS] at hd
      have hps : ∀ p ∈ ps, dpS p ≤ m := dpSs_le.mp (by omega)
      have gps := gSs_iff.mp hg.2.2
      have e2 : denE Γ (.idx (.var 0) (.con (.int 2))) ρ S = .ok (.tup (ps.map encS)) S := by simp [ρ, encS, encSs_map]
      have hnil : FF.eqV (.tup (ps.map encS)) (.tup []) = some (decide (ps.map encS = [])) := eqV_nilT (n := 2 * m + 1) (by omega) (by
        have := fits_encS m ps hps hg.2.2
        rw [encSs_map] at this
        simp [fit, this])
      have ce := c_eq (Γ := Γ) (ρ := ρ) (S := S) (b := .tup []) (y := .tup []) e2 (by simp) hnil
      refine st_ifF (S1 := S) (tst _ (by decide)) ?_
      refine st_ifF (S1 := S) (tst _ (by decide)) ?_
      refine st_ifF (S1 := S) (tst _ (by decide)) ?_
      have te : testOf Γ (.and [(.cmp .eq (.idx (.var 0) (.con (.int 0))) (.con (.str [109, 97, 100, 101]))), (.cmp .eq (.idx (.var 0) (.con (.int 2))) (.tup []))]) ρ S = .ok (decide (ps = [])) S := t_of (by
        rw [d_and, d_and2, tsE _ (by decide), bind_ok_]
        have h : decide (nam (Sh.made t ps) = [109, 97, 100, 101]) = true := rfl
        rw [h]
        simp only [tr_bl]
        rw [d_and1, ce]
        simp)
      have e1 : denE Γ (.idx (.var 0) (.con (.int 1))) ρ S = .ok (.str t) S := by simp [ρ, encS]
      by_cases c : ps = []
      · rw [decide_eq_true c] at te
        refine st_ifT te ?_
        have hi0 := init_made0 (D + m) t S
        exact st_ret (v := ob (.made t ps)) (S1 := S) (mk_ok (Γ := Γ) (f := 58) (vs := [.str t]) (es_cons e1 (d_nil _ _ _)) rfl rfl (by
          rw [hin]
          have e3 : ob (.made t ps) = .obj 4 [5, 4] [.str t, .lst []] := by simp [ob, c, obs]
          rw [e3]
          exact hi0) (low_ob _ _)) ⟨rfl, rfl⟩
      · rw [decide_eq_false c] at te
        refine st_ifF te ?_
        refine st_ifT (S1 := S) (tst _ (by decide)) ?_
        obtain ⟨vs, c1, c2⟩ := v_comp (Γ := Γ) (ρ := ρ) (S := S) (t := .one 1) (k := .val) (es := [(.idx (.var 0) (.con (.int 2)))]) (e := .call .val 33 [(.var 1)]) (vs := [.tup (ps.map encS)]) (g := []) (xs := ps) encS (fun s v => v = ob s) (es_cons e2 (d_nil _ _ _)) (by simp) rfl (by have := hg.2.1; unfold cap; omega) (fun x hx =>
          ⟨[some (encS (.made t ps)), some (encS x)], rfl, W.of (IH x (.var 1) _ (hps x hx) (gps x hx) rfl) ⟨rfl, rfl⟩⟩)
        have c3 := f2_map c2
        subst c3
        exact st_ret (v := ob (.made t ps)) (S1 := S) (mk_ok (Γ := Γ) (f := 58) (vs := [.str t, .lst (ps.map ob)]) (es_cons e1 (es_cons c1 (d_nil _ _ _))) rfl rfl (by
          rw [hin]
          have := init_made (D + m) t (ps.map ob) S
          rw [← obs_map] at this ⊢
          exact this) (low_ob _ _)) ⟨rfl, rfl⟩
    | also p w =>
      simp only [dpS] at hd
      refine st_ifF (S1 := S) (tst _ (by decide)) ?_
      refine st_ifF (S1 := S) (tst _ (by decide)) ?_
      refine st_ifF (S1 := S) (tst _ (by decide)) ?_
      refine st_ifF (S1 := S) (noM _ (show _ ≠ _ by simp [nam])) ?_
      refine st_ifF (S1 := S) (tst _ (by decide)) ?_
      refine st_ifT (S1 := S) (tst _ (by decide)) ?_
      have q1 := IH p (.idx (.var 0) (.con (.int 1))) ρ (by omega) hg.1 (by simp [ρ, encS])
      exact st_ret (v := ob (.also p w)) (S1 := S) (mk_ok (Γ := Γ) (f := 73) (vs := [ob p, .str w]) (es_cons q1 (es_cons (v := .str w) (S1 := S) (by simp [ρ, encS]) (d_nil _ _ _))) rfl rfl (by rw [hin]; exact init_also (D + m) (ob p) w S) (low_ob _ (.also p w))) ⟨rfl, rfl⟩
    | either a b =>
      simp only [dpS] at hd
      refine st_ifF (S1 := S) (tst _ (by decide)) ?_
      refine st_ifF (S1 := S) (tst _ (by decide)) ?_
      refine st_ifF (S1 := S) (tst _ (by decide)) ?_
      refine st_ifF (S1 := S) (noM _ (show _ ≠ _ by simp [nam])) ?_
      refine st_ifF (S1 := S) (tst _ (by decide)) ?_
      refine st_ifF (S1 := S) (tst _ (by decide)) ?_
      have q1 := IH a (.idx (.var 0) (.con (.int 1))) ρ (by omega) hg.1 (by simp [ρ, encS])
      have q2 := IH b (.idx (.var 0) (.con (.int 2))) ρ (by omega) hg.2 (by simp [ρ, encS])
      exact st_ret (v := ob (.either a b)) (S1 := S) (mk_ok (Γ := Γ) (f := 65) (vs := [ob a, ob b]) (es_cons q1 (es_cons q2 (d_nil _ _ _))) rfl rfl (by rw [hin]; exact init_either (D + m) (ob a) (ob b) S) (low_ob _ (.either a b))) ⟨rfl, rfl⟩
end LK16
set_option Elab.async false
set_option linter.all false
set_option autoImplicit false
set_option maxRecDepth 100000
set_option maxHeartbeats 400000
namespace LK16
open PySem FF L2
theorem eqO_nil (ss : List Sh) : FF.eqV (.lst (obs ss)) (.lst []) = some (decide (ss = [])) := by
  cases ss with
  | nil =>
    rw [show obs [] = [] from rfl, eqV_same (n := 1) (by omega) (by simp [fit, fits])]
    simp
  | cons s r =>
    have h : toD (ob s) = none := by cases s <;> rfl
    have h2 : shp (.lst (obs (s :: r))) = none := by
      unfold shp toD
      simp [obs, toDs, h]
    unfold FF.eqV
    rw [h2]
    simp [neLen, obs]
/-- its class and fields -/
def cls : Sh → Nat
  | .any => 1
  | .word _ => 2
  | .span _ _ => 3
  | .made _ _ => 4
  | .either _ _ => 5
  | .also _ _ => 6
theorem ob_view (S : Store) (s : Sh) : ∃ ks ws, view S (ob s) = .obj (cls s) ks ws ∧ ks.contains 0 = false ∧ ks.contains 9 = false ∧ ks.contains 13 = false ∧ ks.contains 11 = false := by
  cases s <;> exact ⟨_, _, rfl, by decide, by decide, by decide, by decide⟩
def textF : Sh → Nat
  | .any => 45
  | .word _ => 53
  | .span _ _ => 57
  | .made _ _ => 64
  | .either _ _ => 71
  | .also _ _ => 79
def sideF : Sh → Nat
  | .also _ _ => 80
  | _ => 46
def lastF : Sh → Nat
  | .either _ _ => 72
  | _ => 47
/-- asked of a shape -/
theorem ask {Γ : Env2} {ρ : FF.Env} {S : Store} {o : E} {s : Sh} {x g : Nat} {t : List Nat} (hx : x = 0 ∨ x = 9 ∨ x = 13) (h1 : denE Γ o ρ S = .ok (ob s) S) (hm : Γ.meth (cls s) x = some g) (h3 : Γ.call g [ob s] S = .ok (.str t) S) : denE Γ (.meth .val o x []) ρ S = .ok (.str t) S := by
  obtain ⟨ks, ws, e1, e2, e3, e4, _⟩ := ob_view S s
  refine v_meth h1 e1 ?_ hm (d_nil _ _ _) ?_
  · rcases hx with rfl | rfl | rfl
    · exact e2
    · exact e3
    · exact e4
  · rw [h3, bind_ok_]
    simp
theorem pnum_ok (d : Nat) (n : Int) (S : Store) (h0 : -999999999 ≤ n) (h : n ≤ 999999999) : K (d + 1) 1 [.int n] S = .ok (.str (numT n)) S := by
  refine callE (callW fun_1 rfl ?_)
  by_cases hn : n < 0
  · obtain ⟨l1, l2⟩ := digs_ok (n := -n) (by omega) (by omega)
    have lg := log_ok (n := -n) (by omega)
    rw [decide_eq_true_eq] at lg
    have lg2 : n.natAbs.log2 < 1920 := by
      have : (-n).natAbs = n.natAbs := Int.natAbs_neg n
      rw [this] at lg
      exact lg
    refine st_ifT (S1 := S) (by simp [hn]) ?_
    refine st_ret (v_cat (d_con _ _ _ _) (y := digs (-n)) (S2 := S) (by simp [lg2, digs]) (by simp only [List.length_cons, List.length_nil]; omega)) ⟨by unfold numT; rw [if_pos hn]; rfl, rfl⟩
  · obtain ⟨l1, l2⟩ := digs_ok (n := n) (by omega) (by omega)
    have lg := log_ok (n := n) (by omega)
    rw [decide_eq_true_eq] at lg
    refine st_ifF (S1 := S) (by simp [hn]) ?_
    exact st_ret (v := .str (digs n)) (S1 := S) (by simp [lg, digs]) ⟨by unfold numT; rw [if_neg hn], rfl⟩
theorem pspan_ok (d : Nat) (lo hi : Int) (S : Store) (g : gS (.span lo hi)) : K (d + 2) 57 [ob (.span lo hi)] S = .ok (.str (spanT lo hi)) S := by
  obtain ⟨⟨h1, h1'⟩, h2, h3⟩ := g
  let Γ := P.env (callL whlL P (d + 1)) (prevD whlL P (d + 1))
  have num : ∀ (n : Int) (e : E) (ρ : FF.Env), -999999999 ≤ n → n ≤ 999999999 → denE Γ e ρ S = .ok (.int n) S → denE Γ (.call .val 3 [e]) ρ S = .ok (.str (numT n)) S := by
    intro n e ρ a b h
    refine v_callc (f := 1) (S1 := S) (vs := [.int n]) (by simp [h]) rfl ?_
    have q : Γ.call 1 [.int n] S = .ok (.str (numT n)) S := pnum_ok d n S a b
    rw [q, bind_ok_]
    simp
  obtain ⟨a1, a2⟩ := numT_ok (n := lo) h1 (by omega)
  obtain ⟨b1, b2⟩ := numT_ok (n := hi) (by omega) h3
  refine callE (callW fun_57 rfl ?_)
  have flo : ∀ ρ : FF.Env, ρ[0]? = some (some (ob (.span lo hi))) → denE Γ (.fld (.var 0) 2) ρ S = .ok (.int lo) S := fun ρ h => by simp [h, ob, fget]
  have fhi : ∀ ρ : FF.Env, ρ[0]? = some (some (ob (.span lo hi))) → denE Γ (.fld (.var 0) 3) ρ S = .ok (.int hi) S := fun ρ h => by simp [h, ob, fget]
  have glo : ∀ ρ : FF.Env, denE Γ (.glo 1) ρ S = .ok (.int 999999999) S := fun ρ => rfl
  have teq : ∀ (a b : E) (ρ : FF.Env) (i j : Int), denE Γ a ρ S = .ok (.int i) S → denE Γ b ρ S = .ok (.int j) S → testOf Γ (.cmp .eq a b) ρ S = .ok (i == j) S := fun a b ρ i j h1 h2 => by
    rw [d_test, d_cmp, h1, bind_ok_, h2]
    simp
  by_cases c1 : lo = hi
  · refine st_ifT (S1 := S) (by
      have := teq _ _ _ lo hi (flo [some (ob (.span lo hi)), none, none] rfl) (fhi _ rfl)
      have c : (lo == hi) = true := by simp [c1]
      rw [c] at this
      exact this) ?_
    exact st_ret (num lo _ _ h1 (by omega) (flo _ rfl)) ⟨by unfold spanT; rw [if_pos c1], rfl⟩
  refine st_ifF (S1 := S) (by
    have := teq _ _ _ lo hi (flo [some (ob (.span lo hi)), none, none] rfl) (fhi _ rfl)
    have c : (lo == hi) = false := by simp [c1]
    rw [c] at this
    exact this) ?_
  refine st_asg (num lo _ _ h1 (by omega) (flo _ rfl)) ?_
  refine st_asg (num hi _ _ (by omega) h3 (fhi _ rfl)) ?_
  have o1 : okI (numT lo).length = true := okN (by omega)
  have o2 : okI (numT hi).length = true := okN (by omega)
  have o3 : okI ((numT lo).length + 2) = true := okN (by omega)
  have o4 : okI (2 + (numT hi).length) = true := okN (by omega)
  have o5 : okI ((numT lo).length + (2 + (numT hi).length)) = true := okN (by omega)
  by_cases c2 : hi = 999999999
  · refine st_ifT (S1 := S) (by
      have := teq _ _ _ hi 999999999 (fhi [some (ob (.span lo hi)), some (.str (numT lo)), some (.str (numT hi))] rfl) (glo _)
      have c : (hi == 999999999) = true := by simp [c2]
      rw [c] at this
      exact this) ?_
    exact st_ret (v := .str (spanT lo hi)) (S1 := S) (by
      unfold spanT
      rw [if_neg c1, if_pos c2]
      simp [o1, asStrs, o3]) ⟨rfl, rfl⟩
  refine st_ifF (S1 := S) (by
    have := teq _ _ _ hi 999999999 (fhi [some (ob (.span lo hi)), some (.str (numT lo)), some (.str (numT hi))] rfl) (glo _)
    have c : (hi == 999999999) = false := by simp [c2]
    rw [c] at this
    exact this) ?_
  have gneg : ∀ ρ : FF.Env, denE Γ (.neg (.glo 1)) ρ S = .ok (.int (-999999999)) S := fun ρ => by
    rw [d_neg, glo, bind_ok_]
  by_cases c3 : lo = -999999999
  · refine st_ifT (S1 := S) (by
      have := teq _ _ _ lo (-999999999) (flo [some (ob (.span lo hi)), some (.str (numT lo)), some (.str (numT hi))] rfl) (gneg _)
      have c : (lo == -999999999) = true := by simp [c3]
      rw [c] at this
      exact this) ?_
    exact st_ret (v := .str (spanT lo hi)) (S1 := S) (by
      unfold spanT
      rw [if_neg c1, if_neg c2, if_pos c3]
      simp [o2, asStrs, o4]) ⟨rfl, rfl⟩
  refine st_ifF (S1 := S) (by
    have := teq _ _ _ lo (-999999999) (flo [some (ob (.span lo hi)), some (.str (numT lo)), some (.str (numT hi))] rfl) (gneg _)
    have c : (lo == -999999999) = false := by simp [c3]
    rw [c] at this
    exact this) ?_
  exact st_ret (v := .str (spanT lo hi)) (S1 := S) (by
    unfold spanT
    rw [if_neg c1, if_neg c2, if_neg c3]
    simp [o1, o2, asStrs, o5]) ⟨rfl, rfl⟩
theorem side_ok (n : Nat) (s : Sh) (hl : (tx s).length ≤ 900000) (h : ∀ S, K n (textF s) [ob s] S = .ok (.str (tx s)) S) (S : Store) : K (n + 1) (sideF s) [ob s] S = .ok (.str (lside s (tx s))) S := by
  let Γ := P.env (callL whlL P n) (prevD whlL P n)
  have q : ∀ ρ : FF.Env, ρ[0]? = some (some (ob s)) → denE Γ (.meth .val (.var 0) 0 []) ρ S = .ok (.str (tx s)) S := fun ρ hρ =>
    ask (g := textF s) (.inl rfl) (by rw [d_var, hρ]) (by cases s <;> rfl) (h S)
  cases s with
  | also p w =>
    refine callE (callW fun_80 rfl ?_)
    exact st_ret (v_cat (v_cat (d_con _ _ _ _) (q _ rfl) (by simp only [List.length_cons, List.length_nil]; omega)) (d_con _ _ _ _) (by simp only [List.length_append, List.length_cons, List.length_nil]; omega)) ⟨rfl, rfl⟩
  | any => exact callE (callW fun_46 rfl (st_ret (q _ rfl) ⟨rfl, rfl⟩))
  | word w => exact callE (callW fun_46 rfl (st_ret (q _ rfl) ⟨rfl, rfl⟩))
  | span lo hi => exact callE (callW fun_46 rfl (st_ret (q _ rfl) ⟨rfl, rfl⟩))
  | made t ps => exact callE (callW fun_46 rfl (st_ret (q _ rfl) ⟨rfl, rfl⟩))
  | either a b => exact callE (callW fun_46 rfl (st_ret (q _ rfl) ⟨rfl, rfl⟩))
theorem last_ok (n : Nat) (s : Sh) (hl : (tx s).length ≤ 900000) (h : ∀ m, n ≤ m → ∀ S, K m (textF s) [ob s] S = .ok (.str (tx s)) S) (S : Store) : K (n + 2) (lastF s) [ob s] S = .ok (.str (rside s (tx s))) S := by
  let Γ := P.env (callL whlL P (n + 1)) (prevD whlL P (n + 1))
  have q : ∀ ρ : FF.Env, ρ[0]? = some (some (ob s)) → denE Γ (.meth .val (.var 0) 9 []) ρ S = .ok (.str (lside s (tx s))) S := fun ρ hρ =>
    ask (g := sideF s) (.inr (.inl rfl)) (by rw [d_var, hρ]) (by cases s <;> rfl) (side_ok n s hl (h n (Nat.le_refl _)) S)
  cases s with
  | either a b =>
    have q : ∀ ρ : FF.Env, ρ[0]? = some (some (ob (.either a b))) → denE Γ (.meth .val (.var 0) 0 []) ρ S = .ok (.str (tx (.either a b))) S := fun ρ hρ =>
      ask (g := textF (.either a b)) (.inl rfl) (by rw [d_var, hρ]) rfl (h (n + 1) (by omega) S)
    refine callE (callW fun_72 rfl ?_)
    exact st_ret (v_cat (v_cat (d_con _ _ _ _) (q _ rfl) (by simp only [List.length_cons, List.length_nil]; omega)) (d_con _ _ _ _) (by simp only [List.length_append, List.length_cons, List.length_nil]; omega)) ⟨rfl, rfl⟩
  | any => exact callE (callW fun_47 rfl (st_ret (q _ rfl) ⟨rfl, rfl⟩))
  | word w => exact callE (callW fun_47 rfl (st_ret (q _ rfl) ⟨rfl, rfl⟩))
  | span lo hi => exact callE (callW fun_47 rfl (st_ret (q _ rfl) ⟨rfl, rfl⟩))
  | made t ps => exact callE (callW fun_47 rfl (st_ret (q _ rfl) ⟨rfl, rfl⟩))
  | also p w => exact callE (callW fun_47 rfl (st_ret (q _ rfl) ⟨rfl, rfl⟩))
theorem ptext_ok : ∀ (m : Nat) (n : Nat) (s : Sh) (S : Store), 3 * m + 2 ≤ n → dpS s ≤ m → gS s → nod s ≤ 20000 → K n (textF s) [ob s] S = .ok (.str (tx s)) S := by
  intro m
  induction m with
  | zero => exact fun n s S _ h => by cases s <;> simp only [dpS] at h <;> omega
  | succ m ih =>
    intro n s S hn hd hg hnd
    obtain ⟨n, rfl⟩ : ∃ k, n = k + 1 := ⟨n - 1, by omega⟩
    let Γ := P.env (callL whlL P n) (prevD whlL P n)
    have IH : ∀ (s : Sh) (o : E) (ρ : FF.Env), dpS s ≤ m → gS s → nod s ≤ 20000 → denE Γ o ρ S = .ok (ob s) S → denE Γ (.meth .val o 0 []) ρ S = .ok (.str (tx s)) S := fun s o ρ h1 h2 h3 h4 =>
      ask (g := textF s) (.inl rfl) h4 (by cases s <;> rfl) (ih n s S (by omega) h1 h2 h3)
    cases s with
    | any => exact callE (callW fun_45 rfl (st_ret (d_con _ _ _ _) ⟨rfl, rfl⟩))
    | word w => exact callE (callW fun_53 rfl (st_ret (v := .str w) (S1 := S) (by simp [ob, fget]) ⟨rfl, rfl⟩))
    | span lo hi =>
      obtain ⟨k, rfl⟩ : ∃ k, n = k + 1 := ⟨n - 1, by omega⟩
      exact pspan_ok k lo hi S hg
    | also p w =>
      simp only [dpS] at hd
      simp only [nod] at hnd
      obtain ⟨p1, _⟩ := tx_ok p hg.1
      have hw := hg.2.1
      refine callE (callW fun_79 rfl ?_)
      exact st_ret (v_cat (v_cat (IH p _ _ (by omega) hg.1 (by omega) (by simp [ob, fget])) (d_con _ _ _ _) (by simp only [List.length_cons, List.length_nil]; omega)) (y := w) (S2 := S) (by simp [ob, fget]) (by simp only [List.length_append, List.length_cons, List.length_nil]; omega)) ⟨rfl, rfl⟩
    | either a b =>
      simp only [dpS] at hd
      simp only [nod] at hnd
      obtain ⟨a1, a2⟩ := tx_ok a hg.1
      obtain ⟨b1, b2⟩ := tx_ok b hg.2
      obtain ⟨a3, _⟩ := lside_ok (s := a) a2
      obtain ⟨b3, _⟩ := rside_ok (s := b) b2
      obtain ⟨k, rfl⟩ : ∃ k, n = k + 2 := ⟨n - 2, by omega⟩
      have qa : denE Γ (.meth .val (.fld (.var 0) 6) 9 []) [some (ob (.either a b))] S = .ok (.str (lside a (tx a))) S :=
        ask (g := sideF a) (s := a) (.inr (.inl rfl)) (by simp [ob, fget]) (by cases a <;> rfl) (side_ok (k + 1) a (by omega) (fun S => ih (k + 1) a S (by omega) (by omega) hg.1 (by omega)) S)
      have qb : denE Γ (.meth .val (.fld (.var 0) 7) 13 []) [some (ob (.either a b))] S = .ok (.str (rside b (tx b))) S :=
        ask (g := lastF b) (s := b) (.inr (.inr rfl)) (by simp [ob, fget]) (by cases b <;> rfl) (last_ok k b (by omega) (fun j hj S => ih j b S (by omega) (by omega) hg.2 (by omega)) S)
      refine callE (callW fun_71 rfl ?_)
      exact st_ret (v_cat (v_cat qa (d_con _ _ _ _) (by simp only [List.length_cons, List.length_nil]; omega)) qb (by simp only [List.length_append, List.length_cons, List.length_nil]; omega)) ⟨rfl, rfl⟩
    | made t ps =>
      simp only [dpS] at hd
      simp only [nod] at hnd
      have hps : ∀ p ∈ ps, dpS p ≤ m := dpSs_le.mp (by omega)
      have gps := gSs_iff.mp hg.2.2
      have hnil := eqO_nil ps
      refine callE (callW fun_64 rfl ?_)
      by_cases c : ps = []
      · refine st_ifT (S1 := S) (by simp [ob, fget, hnil]; exact c) ?_
        exact st_ret (v := .str t) (S1 := S) (by simp [ob, fget]) ⟨by simp [tx, c, txs, listedT], rfl⟩
      · refine st_ifF (S1 := S) (by simp [ob, fget, hnil]; exact c) ?_
        obtain ⟨vs, c3, c4⟩ := v_comp (Γ := Γ) (ρ := [some (ob (.made t ps)), none, none]) (S := S) (t := .one 2) (k := .val) (es := [(.fld (.var 0) 4)]) (e := .meth .val (.var 2) 0 []) (vs := [.lst (ps.map ob)]) (g := []) (xs := ps) ob (fun s v => v = PV.str (tx s)) (by simp [ob, fget, obs_map]) (by simp) rfl (by have := hg.2.1; unfold cap; omega) (fun x hx => by
          have hnx := nods_of hx
          exact ⟨[some (ob (.made t ps)), none, some (ob x)], rfl, W.of (IH x (.var 2) _ (hps x hx) (gps x hx) (by omega) (by simp)) ⟨rfl, rfl⟩⟩)
        have c5 := f2_map c4
        have c6 : vs = (txs ps).map PV.str := by rw [c5, txs_map, List.map_map]; rfl
        rw [c6] at c3
        obtain ⟨k1, k2⟩ := txs_ok ps hg.2.2
        have kl : (txs ps).length = ps.length := by rw [txs_map, List.length_map]
        have kb := joinL_len [44, 32] (txs ps)
        have kz := hg.2.1
        have kt := hg.1.1
        simp only [List.length_cons, List.length_nil] at kb
        have c7 := v_join (y := [44, 32]) c3 (okN (by simp only [List.length_cons, List.length_nil]; omega))
        refine st_asg c7 ?_
        let ρ2 : FF.Env := [some (ob (.made t ps)), some (.str (TL.joinL [44, 32] (txs ps))), none]
        have c8 := v_cat (v_cat (v_cat (Γ := Γ) (ρ := ρ2) (S := S) (S1 := S) (S2 := S) (x := t) (y := [40]) (a := .fld (.var 0) 5) (b := .con (.str [40])) (by simp [ρ2, ob, fget]) (d_con _ _ _ _) (by simp only [List.length_cons, List.length_nil]; omega)) (b := .var 1) (y := TL.joinL [44, 32] (txs ps)) (S2 := S) rfl (by simp only [List.length_append, List.length_cons, List.length_nil]; omega)) (d_con _ _ _ (.str [41])) (by simp only [List.length_append, List.length_cons, List.length_nil]; omega)
        have hne : ¬ txs ps = [] := by rw [txs_map]; simpa using c
        exact st_ret c8 ⟨by simp [tx, listedT, hne], rfl⟩
end LK16
set_option Elab.async false
set_option linter.all false
set_option autoImplicit false
set_option maxRecDepth 100000
set_option maxHeartbeats 1000000
namespace LK16
open PySem FF L2
theorem plisted_ok (d : Nat) (ts : List (List Nat)) (S : Store) (h : ∀ t ∈ ts, ∀ c ∈ t, c < 128) (hl : (ts.map (·.length)).sum + 2 * ts.length ≤ 15000000) : K (d + 1) 2 [.lst (ts.map PV.str)] S = .ok (.str (listedT ts)) S := by
  have hnil := eqV_nil (by omega) (fits_strs h)
  refine callE (callW fun_2 rfl ?_)
  let Γ := Ge d
  let ρ : FF.Env := [some (.lst (ts.map PV.str))]
  show WS (denSs whlL Γ _ ρ S) _
  have e0 : testOf Γ (.cmp .eq (.var 0) (.lst false [])) ρ S = .ok (decide (ts = [])) S := t_of (by
    have := c_eq (Γ := Γ) (ρ := ρ) (S := S) (a := .var 0) (b := .lst false []) (x := .lst (ts.map PV.str)) (y := .lst []) rfl (by simp) hnil
    simpa using this)
  have j := v_join (Γ := Γ) (ρ := ρ) (S := S) (S1 := S) (y := [44, 32]) (e := .var 0) (ts := ts) rfl (okB (by simp only [List.length_cons, List.length_nil]; omega))
  have jl := joinL_len [44, 32] ts
  simp only [List.length_cons, List.length_nil] at jl
  by_cases c : ts = []
  · rw [decide_eq_true c] at e0
    refine st_ifT e0 ?_
    exact st_ret (d_con _ _ _ _) ⟨by unfold listedT; rw [if_pos c], rfl⟩
  · rw [decide_eq_false c] at e0
    refine st_ifF e0 ?_
    exact st_ret (v_ct (v_ct (d_con Γ ρ S (.str [40])) j (by simp only [List.length_cons, List.length_nil]; omega)) (d_con Γ ρ S (.str [41])) (by simp only [List.length_append, List.length_cons, List.length_nil]; omega)) ⟨by unfold listedT; rw [if_neg c], rfl⟩
theorem pkind_ok : ∀ (m : Nat), m ≤ 5 → ∀ (D : Nat) (k : Kd), dep k ≤ m → gk k → TV (D + 1 + m) 3 (enc k) (kT k) := by
  intro m
  induction m with
  | zero => exact fun _ D k h => by cases k <;> simp only [dep] at h <;> omega
  | succ m ih =>
    intro hm D k hd hg
    refine TV_of fun S => callW fun_3 rfl ?_
    let Γ := Ge (D + 1 + m)
    let ρ : FF.Env := [some (enc k), none]
    show WS (denSs whlL Γ _ ρ S) _
    have n0 : denE Γ (.idx (.var 0) (.con (.int 0))) ρ S = .ok (.str (namK k)) S := by
      have := namK_ix S k
      simp [ρ, this]
    have tst : ∀ y : List Nat, (y.all fun c => decide (c < 128)) = true → testOf Γ (.cmp .eq (.idx (.var 0) (.con (.int 0))) (.con (.str y))) ρ S = .ok (decide (namK k = y)) S := fun y hy => t_nam n0 (namK_lt k) hy
    cases k with
    | num =>
      refine st_ifT (S1 := S) (tst _ (by decide)) ?_
      exact st_ret (d_con _ _ _ _) (by simp [kT])
    | free n =>
      refine st_ifF (S1 := S) (tst _ (by decide)) ?_
      refine st_ifT (S1 := S) (tst _ (by decide)) ?_
      have := ab_ok S n hg
      exact st_ret (v := .str (kT (.free n))) (S1 := S) (by simp [ρ, enc, this, kT]) (by simp)
    | made w ks =>
      simp only [dep] at hd
      have hks := deps_le.mp (show deps ks ≤ m by omega)
      have gks' := gks_iff.mp hg.2.2
      refine st_ifF (S1 := S) (tst _ (by decide)) ?_
      refine st_ifF (S1 := S) (tst _ (by decide)) ?_
      obtain ⟨vs, c3, c4⟩ := v_comp (Γ := Γ) (ρ := ρ) (S := S) (t := .one 1) (k := .val) (es := [(.idx (.var 0) (.con (.int 2)))]) (e := .call .val 14 [(.var 1)]) (vs := [.tup (ks.map enc)]) (g := []) (xs := ks) enc (fun s v => v = PV.str (kT s)) (by simp [ρ, enc, encs_map]) (by simp) rfl (by have := hg.2.1; unfold cap; omega) (fun x hx =>
        ⟨[some (enc (.made w ks)), some (enc x)], rfl, W.of ((ih (by omega) D x (hks x hx) (gks' x hx)).call (e := .var 1) rfl rfl) ⟨rfl, rfl⟩⟩)
      have c5 := f2_map c4
      have c6 : vs = (kTs ks).map PV.str := by rw [c5, kTs_map, List.map_map]; rfl
      rw [c6] at c3
      have all : ∀ t ∈ kTs ks, t.length ≤ 30 * 4 ^ 5 ∧ ∀ c ∈ t, c < 128 := fun t ht => by
        rw [kTs_map] at ht
        obtain ⟨k, hk, rfl⟩ := List.mem_map.mp ht
        exact kT_ok 5 k (by have := hks k hk; omega) (gks' k hk)
      have s1 := sum_le fun t ht => (all t ht).1
      have kl : (kTs ks).length = ks.length := by rw [kTs_map, List.length_map]
      have kz := hg.2.1
      have s2 : (kTs ks).length * (30 * 4 ^ 5) ≤ 2 * (30 * 4 ^ 5) := Nat.mul_le_mul_right _ (by omega)
      obtain ⟨l1, l2⟩ := listedT_ok fun t ht => (all t ht).2
      have hw := hg.1.1
      have eD : D + 1 + m = (D + m) + 1 := by omega
      have q : Γ.call 2 [.lst ((kTs ks).map PV.str)] S = .ok (.str (listedT (kTs ks))) S := by
        show callL whlL P (D + 1 + m) _ _ _ = _
        rw [eD]
        exact plisted_ok (D + m) (kTs ks) S (fun t ht => (all t ht).2) (by omega)
      have c7 : denE Γ (.call .val 13 [(.comp false (.one 1) .val [(.idx (.var 0) (.con (.int 2)))] [] (.call .val 14 [(.var 1)]))]) ρ S = .ok (.str (listedT (kTs ks))) S := v_callc (f := 2) (S1 := S) (es_cons c3 (d_nil _ _ _)) rfl (by
        rw [q, bind_ok_]
        simp)
      exact st_ret (v_ct (x := w) (S1 := S) (by simp [ρ, enc]) c7 (by omega)) (by simp [kT])
end LK16
set_option Elab.async false
set_option linter.all false
set_option autoImplicit false
set_option maxRecDepth 100000
set_option maxHeartbeats 1000000
namespace LK16
open PySem FF L2
theorem plc {n : Nat} (hn : 1 ≤ n) {ts : List (List Nat)} {S : Store} (h1 : ∀ t ∈ ts, ∀ c ∈ t, c < 128) (h2 : (ts.map (·.length)).sum + 2 * ts.length ≤ 15000000) {ρ : FF.Env} {e : E} (he : denE (Ge n) e ρ S = .ok (.lst (ts.map PV.str)) S) : denE (Ge n) (.call .val 13 [e]) ρ S = .ok (.str (listedT ts)) S := v_callc (f := 2) (S1 := S) (es_cons he (d_nil _ _ _)) rfl (by
  have q := plisted_ok (n - 1) ts S h1 h2
  have e : n - 1 + 1 = n := by omega
  rw [e] at q
  have q2 : (Ge n).call 2 [.lst (ts.map PV.str)] S = .ok (.str (listedT ts)) S := q
  rw [q2, bind_ok_]
  simp)
theorem pkc {n : Nat} (hn : 4 ≤ n) {k : Kd} (h : gkd k) : TV n 3 (enc k) (kT k) := by
  have q := pkind_ok 3 (by omega) (n - 4) k h.2 h.1
  have e : n - 4 + 1 + 3 = n := by omega
  rw [e] at q
  exact q
theorem ptag_ok (n : Nat) (hn : 4 ≤ n) (p : List Nat × List Kd) (gp : sh p.1 ∧ p.2.length ≤ 4 ∧ ∀ k ∈ p.2, gkd k) : TV (n + 1) 4 (encG p) (gT p) := by
  refine TV_of fun S => callW fun_4 rfl ?_
  let Γ := Ge n
  let ρ : FF.Env := [some (encG p), none]
  show WS (denSs whlL Γ _ ρ S) _
  obtain ⟨k0, k1, k2⟩ := gT_ok gp
  have hw := gp.1.1
  obtain ⟨us, d3, d4⟩ := v_comp (Γ := Γ) (ρ := ρ) (S := S) (t := .one 1) (k := .val) (es := [(.idx (.var 0) (.con (.int 1)))]) (e := .call .val 14 [(.var 1)]) (vs := [.tup (p.2.map enc)]) (g := []) (xs := p.2) enc (fun s v => v = PV.str (kT s)) (by simp [ρ, encG]) (by simp) rfl (by have := gp.2.1; unfold cap; omega) (fun x hx =>
    ⟨[some (encG p), some (enc x)], rfl, W.of ((pkc hn (gp.2.2 x hx)).call (e := .var 1) rfl rfl) ⟨rfl, rfl⟩⟩)
  have d5 := f2_map d4
  have d6 : us = (kTs p.2).map PV.str := by rw [d5, kTs_map, List.map_map]; rfl
  rw [d6] at d3
  have s1 := sum_le fun x hx => (k0 x hx).1
  have kl : (kTs p.2).length = p.2.length := by rw [kTs_map, List.length_map]
  have s2 : (kTs p.2).length * 1920 ≤ 4 * 1920 := Nat.mul_le_mul_right _ (by have := gp.2.1; omega)
  have c7 := plc (by omega) (fun x hx => (k0 x hx).2) (by have := gp.2.1; omega) d3
  have gl : (gT p).length = p.1.length + (listedT (kTs p.2)).length := by unfold gT; rw [List.length_append]
  exact st_ret (v_ct (x := p.1) (S1 := S) (by simp [ρ, encG]) c7 (by omega)) (by simp [gT])
end LK16
set_option Elab.async false
set_option linter.all false
set_option autoImplicit false
set_option maxRecDepth 100000
set_option maxHeartbeats 1000000
namespace LK16
open PySem FF L2
theorem pdecl_ok (n : Nat) (hn : 10 ≤ n) (dc : Dc) (g : gD dc) : TV (n + 1) 5 (encD dc) (dT dc) := by
  refine TV_of fun S => callW fun_5 rfl ?_
  let Γ := Ge n
  have tg : ∀ p, (sh p.1 ∧ p.2.length ≤ 4 ∧ ∀ k ∈ p.2, gkd k) → TV n 4 (encG p) (gT p) := fun p h => by
    have q := ptag_ok (n - 1) (by omega) p h
    have e : n - 1 + 1 = n := by omega
    rw [e] at q
    exact q
  have ahead : ∀ (kw w : List Nat) (many : Int) (r : List PV), kw.length ≤ 10 → sh w → (0 ≤ many ∧ many < 3) → denE Γ (.bin .add (.bin .add (.bin .add (.bin .add (.idx (.var 0) (.con (.int 0))) (.con (.str [32]))) (.idx (.var 0) (.con (.int 1)))) (.idx (.glo 11) (.idx (.var 0) (.con (.int 2))))) (.con (.str [32, 61, 32]))) [some (.tup (.str kw :: .str w :: .int many :: r)), none, none, none, none, none] S = .ok (.str (aheadT kw w many)) S := by
    intro kw w many r h1 h2 h3
    obtain ⟨p1, p2⟩ := parT_ok h3
    have hw := h2.1
    have gE_ : ∀ ρ, denE Γ (.glo 11) ρ S = .ok (.tup [.str [], .str [40, 65, 41], .str [40, 65, 44, 32, 66, 41]]) S := fun ρ => rfl
    have e2 : denE Γ (.idx (.var 0) (.con (.int 2))) [some (.tup (.str kw :: .str w :: .int many :: r)), none, none, none, none, none] S = .ok (.int many) S := by simp
    have eP : denE Γ (.idx (.glo 11) (.idx (.var 0) (.con (.int 2)))) [some (.tup (.str kw :: .str w :: .int many :: r)), none, none, none, none, none] S = .ok (.str (parT many)) S := by
      rw [d_idx, gE_, bind_ok_, e2, bind_ok_]
      have : many = 0 ∨ many = 1 ∨ many = 2 := by omega
      rcases this with rfl | rfl | rfl
      · simp [parT, parS]
      · simp [parT, parS]
      · simp [parT, parS]
    exact v_ct (v_ct (v_ct (v_ct (x := kw) (S1 := S) (by simp) (d_con _ _ _ _) (by simp only [List.length_cons, List.length_nil]; omega)) (y := w) (S2 := S) (by simp) (by simp only [List.length_append, List.length_cons, List.length_nil]; omega)) eP (by simp only [List.length_append, List.length_cons, List.length_nil]; omega)) (d_con _ _ _ _) (by simp only [List.length_append, List.length_cons, List.length_nil]; omega)
  have al : ∀ (kw w : List Nat) (many : Int), kw.length ≤ 10 → sh w → (0 ≤ many ∧ many < 3) → (aheadT kw w many).length ≤ 40 := fun kw w many h1 h2 h3 => by
    obtain ⟨p1, p2⟩ := parT_ok h3
    have hw := h2.1
    unfold aheadT
    simp only [List.length_append, List.length_cons, List.length_nil]
    omega
  cases dc with
  | record w many t fs =>
    obtain ⟨g1, g2, g3, g4, g5⟩ := g
    have hal := al sRecord w many (by decide) g1 g2
    refine st_asg (ahead sRecord w many _ (by decide) g1 g2) ?_
    let ρ : Option PV → FF.Env := fun o2 => [some (encD (.record w many t fs)), some (.str (aheadT sRecord w many)), o2, none, none, none]
    show WS (denSs whlL Γ _ (ρ none) S) _
    refine st_ifF (S1 := S) (by
      have h := t_nam (Γ := Γ) (ρ := ρ none) (S := S) (x := sRecord) (y := sChoice) (e := .idx (.var 0) (.con (.int 0))) (by simp [ρ, encD]) (by decide) (by decide)
      simpa using h) ?_
    obtain ⟨vs, c3, c4⟩ := v_comp (Γ := Γ) (ρ := ρ none) (S := S) (t := .many [3, 4]) (k := .val) (es := [(.idx (.var 0) (.con (.int 4)))]) (e := .bin .add (.bin .add (.var 3) (.con (.str [32]))) (.call .val 14 [(.var 4)])) (vs := [.tup (fs.map encF)]) (g := []) (xs := fs) encF (fun p v => v = PV.str (fT p)) (by
        have h : vidx S (encD (.record w many t fs)) (.int 4) = some (.tup (fs.map encF)) := by simp [encD, vidx, L2.atI, L2.ixN]
        simp [ρ, h]) (by simp) rfl (by unfold cap; omega) (fun p hp => by
      have gp := g5 p hp
      obtain ⟨k1, k2⟩ := kT_ok 3 p.2 gp.2.2 gp.2.1
      have hw := gp.1.1
      refine ⟨[some (encD (.record w many t fs)), some (.str (aheadT sRecord w many)), none, some (.str p.1), some (enc p.2), none], by simp [ρ, encF], W.of (a := .str (fT p)) (S := S) ?_ ⟨rfl, rfl⟩⟩
      exact v_ct (v_ct (x := p.1) (S1 := S) rfl (d_con _ _ _ _) (by simp only [List.length_cons, List.length_nil]; omega)) ((pkc (by omega) gp.2).call (e := .var 4) rfl rfl) (by simp only [List.length_append, List.length_cons, List.length_nil]; omega))
    have c5 := f2_map c4
    have c6 : vs = (fs.map fT).map PV.str := by rw [c5, List.map_map]; rfl
    rw [c6] at c3
    have all : ∀ x ∈ fs.map fT, x.length ≤ 2000 ∧ ∀ c ∈ x, c < 128 := fun x hx => by
      obtain ⟨p, hp, rfl⟩ := List.mem_map.mp hx
      exact fT_ok (g5 p hp)
    have s1 := sum_le fun x hx => (all x hx).1
    have kl : (fs.map fT).length = fs.length := List.length_map ..
    have s2 : (fs.map fT).length * 2000 ≤ 4 * 2000 := Nat.mul_le_mul_right _ (by omega)
    obtain ⟨l1, l2⟩ := listedT_ok fun x hx => (all x hx).2
    refine st_asg c3 ?_
    have c7 := plc (n := n) (by omega) (ts := fs.map fT) (S := S) (fun x hx => (all x hx).2) (by omega) (ρ := ρ (some (.lst ((fs.map fT).map PV.str)))) (e := .var 2) rfl
    have ht := g3.1
    have e3 : denE Γ (.idx (.var 0) (.con (.int 3))) (ρ (some (.lst ((fs.map fT).map PV.str)))) S = .ok (.str t) S := by simp [ρ, encD]
    exact st_ret (v_ct (v_ct (x := aheadT sRecord w many) (S1 := S) rfl e3 (by omega)) c7 (by rw [List.length_append]; omega)) (by simp [dT])
  | choice w many ts =>
    obtain ⟨g1, g2, g4, g5⟩ := g
    have hal := al sChoice w many (by decide) g1 g2
    refine st_asg (ahead sChoice w many _ (by decide) g1 g2) ?_
    let ρ : FF.Env := [some (encD (.choice w many ts)), some (.str (aheadT sChoice w many)), none, none, none, none]
    show WS (denSs whlL Γ _ ρ S) _
    refine st_ifT (S1 := S) (by
      have h := t_nam (Γ := Γ) (ρ := ρ) (S := S) (x := sChoice) (y := sChoice) (e := .idx (.var 0) (.con (.int 0))) (by simp [ρ, encD]) (by decide) (by decide)
      simpa using h) ?_
    obtain ⟨vs, c3, c4⟩ := v_comp (Γ := Γ) (ρ := ρ) (S := S) (t := .one 5) (k := .val) (es := [(.idx (.var 0) (.con (.int 3)))]) (e := .call .val 15 [(.var 5)]) (vs := [.tup (ts.map encG)]) (g := []) (xs := ts) encG (fun p v => v = PV.str (gT p)) (by simp [ρ, encD]) (by simp) rfl (by unfold cap; omega) (fun p hp =>
      ⟨_, rfl, W.of ((tg p (g5 p hp)).call (e := .var 5) rfl rfl) ⟨rfl, rfl⟩⟩)
    have c5 := f2_map c4
    have c6 : vs = (ts.map gT).map PV.str := by rw [c5, List.map_map]; rfl
    rw [c6] at c3
    have all : ∀ x ∈ ts.map gT, x.length ≤ 9000 := fun x hx => by
      obtain ⟨p, hp, rfl⟩ := List.mem_map.mp hx
      exact (gT_ok (g5 p hp)).2.1
    have s1 := sum_le all
    have kl : (ts.map gT).length = ts.length := List.length_map ..
    have s2 : (ts.map gT).length * 9000 ≤ 3 * 9000 := Nat.mul_le_mul_right _ (by omega)
    have kb := joinL_len [32, 124, 32] (ts.map gT)
    simp only [List.length_cons, List.length_nil] at kb
    have c7 := v_join (y := [32, 124, 32]) c3 (okB (by simp only [List.length_cons, List.length_nil]; omega))
    exact st_ret (v_ct (x := aheadT sChoice w many) (S1 := S) rfl c7 (by omega)) (by simp [dT])
end LK16
set_option Elab.async false
set_option linter.all false
set_option autoImplicit false
set_option maxRecDepth 100000
set_option maxHeartbeats 1000000
namespace LK16
open PySem FF L2
/-! the expressions that the program is handed: shapes are objects -/
mutual
def encO : Ex → PV
  | .num i => .tup [.str sNum, .int i]
  | .word w => .tup [.str sWord, .str w]
  | .make t ps => .tup [.str sMake, .str t, .tup (encOs ps)]
  | .call w ps => .tup [.str sCall, .str w, .tup (encOs ps)]
  | .field e w => .tup [.str sField, encO e, .str w]
  | .deed c a b => .tup [.str sDeed, .str [c], encO a, encO b]
  | .let_ w a b => .tup [.str sLet, .str w, encO a, encO b]
  | .mat e rs => .tup [.str sMatch, encO e, .tup (encQs rs)]
def encOs : List Ex → List PV
  | [] => []
  | e :: es => encO e :: encOs es
def encQ : Rl → PV
  | .plain s b => .tup [ob s, .non, encO b]
  | .guard s g b => .tup [ob s, encO g, encO b]
def encQs : List Rl → List PV
  | [] => []
  | r :: rs => encQ r :: encQs rs
end
theorem encOs_map : ∀ es : List Ex, encOs es = es.map encO
  | [] => by simp [encOs]
  | e :: es => by simp [encOs, encOs_map es]
theorem encQs_map : ∀ rs : List Rl, encQs rs = rs.map encQ
  | [] => by simp [encQs]
  | r :: rs => by simp [encQs, encQs_map rs]
mutual
theorem low_encO : ∀ (n : Nat) (e : Ex), FF.low n (encO e) = true
  | n, .num i => by simp [encO]
  | n, .word w => by simp [encO]
  | n, .make t ps => by simp [encO, lows_encOs n ps]
  | n, .call t ps => by simp [encO, lows_encOs n ps]
  | n, .field e w => by simp [encO, low_encO n e]
  | n, .deed c a b => by simp [encO, low_encO n a, low_encO n b]
  | n, .let_ c a b => by simp [encO, low_encO n a, low_encO n b]
  | n, .mat e rs => by simp [encO, low_encO n e, lows_encQs n rs]
theorem lows_encOs : ∀ (n : Nat) (es : List Ex), lows n (encOs es) = true
  | n, [] => by simp [encOs]
  | n, e :: es => by simp [encOs, low_encO n e, lows_encOs n es]
theorem low_encQ : ∀ (n : Nat) (r : Rl), FF.low n (encQ r) = true
  | n, .plain s b => by simp [encQ, low_ob, low_encO n b]
  | n, .guard s g b => by simp [encQ, low_ob, low_encO n g, low_encO n b]
theorem lows_encQs : ∀ (n : Nat) (rs : List Rl), lows n (encQs rs) = true
  | n, [] => by simp [encQs]
  | n, r :: rs => by simp [encQs, low_encQ n r, lows_encQs n rs]
end
theorem namO_ix (S : Store) (e : Ex) : vidx S (encO e) (.int 0) = some (.str (namE e)) := by cases e <;> simp [encO, namE]
def encFo (f : Fn) : PV := .tup [.str f.w, .tup (f.us.map PV.str), encO f.e]
/-- what written is asked of -/
def encPo (p : Pg) : PV := .tup [.lst (p.ds.map encD), .lst (p.fs.map encFo), encO p.m]
theorem low_encFo (m : Nat) (f : Fn) : FF.low m (encFo f) = true := by simp [encFo, low_encO, low_strs]
theorem lows_fos (m : Nat) (fs : List Fn) : lows m (fs.map encFo) = true := lows_of fun v hv => by
  obtain ⟨f, _, rfl⟩ := List.mem_map.mp hv
  exact low_encFo m f
theorem low_encPo (m : Nat) (p : Pg) : FF.low m (encPo p) = true := by simp [encPo, lows_ds, lows_fos, low_encO]
end LK16
set_option Elab.async false
set_option linter.all false
set_option autoImplicit false
set_option maxRecDepth 100000
set_option maxHeartbeats 1000000
namespace LK16
open PySem FF L2
theorem pinner_ok (n : Nat) (e : Ex) (ge : gE e) (hn : nodE e ≤ 300000) (h : TV n 9 (encO e) (eT e)) : TV (n + 1) 6 (encO e) (inn e (eT e)) := by
  obtain ⟨t1, t2⟩ := eT_ok e ge
  refine TV_of fun S => callW fun_6 rfl ?_
  let Γ := Ge n
  refine st_asg (h.call (by simp) rfl) ?_
  let ρ : FF.Env := [some (encO e), some (.str (eT e))]
  show WS (denSs whlL Γ _ ρ S) _
  have n0 : denE Γ (.idx (.var 0) (.con (.int 0))) ρ S = .ok (.str (namE e)) S := by
    have := namO_ix S e
    simp [ρ, this]
  have gl : denE Γ (.glo 12) ρ S = .ok (.tup ([sDeed, sLet, sMatch].map PV.str)) S := rfl
  have c0 : testOf Γ (.cmp .isin (.idx (.var 0) (.con (.int 0))) (.glo 12)) ρ S = .ok (isInn e) S := t_of (by
    have h := vinL (S := S) (namE_lt e) (xs := [sDeed, sLet, sMatch]) (by decide)
    rw [namE_inn] at h
    rw [d_cmp, n0, bind_ok_, gl, bind_ok_, vc_in, h]
    rfl)
  have o1 : okI (eT e).length = true := okB (by omega)
  have o2 : okI (1 + ((eT e).length + 1)) = true := okB (by omega)
  cases hi : isInn e with
  | true =>
    rw [hi] at c0
    refine st_ifT c0 ?_
    exact st_ret (v := .str (inn e (eT e))) (S1 := S) (by
      unfold inn
      rw [if_pos hi]
      simp [ρ, o1, asStrs, o2, paren]) (by simp)
  | false =>
    rw [hi] at c0
    refine st_ifF c0 ?_
    exact st_ret (v := .str (inn e (eT e))) (S1 := S) (by
      unfold inn
      rw [if_neg (by rw [hi]; decide)]
      simp [ρ]) (by simp)
end LK16
set_option Elab.async false
set_option linter.all false
set_option autoImplicit false
set_option maxRecDepth 100000
set_option maxHeartbeats 1000000
namespace LK16
open PySem FF L2
theorem prule_ok (n : Nat) (hn : 20 ≤ n) (r : Rl) (gr : gR r) (hr : nodR r ≤ 300000) (T : ∀ e, gE e → dpE e ≤ dpR r → nodE e ≤ 300000 → TV n 9 (encO e) (eT e)) : TV (n + 1) 7 (encQ r) (rT r) := by
  refine TV_of fun S => callW fun_7 rfl ?_
  let Γ := Ge n
  have sh_ : ∀ (s : Sh) (ρ : FF.Env), gSh s → ρ[2]? = some (some (ob s)) → denE Γ (.meth .val (.var 2) 0 []) ρ S = .ok (.str (tx s)) S := fun s ρ g h =>
    ask (g := textF s) (.inl rfl) (by rw [d_var, h]) (by cases s <;> rfl) (ptext_ok 3 n s S (by omega) g.2.1 g.1 (by have := g.2.2; omega))
  cases r with
  | plain s b =>
    simp only [nodR] at hr
    obtain ⟨b1, b2⟩ := eT_ok b gr.2
    obtain ⟨s1, s2⟩ := tx_ok s gr.1.1
    have sn := gr.1.2.2
    let ρ1 : Option PV → FF.Env := fun o1 => [some (encQ (.plain s b)), o1, some (ob s), some .non, some (encO b)]
    refine st_names (vs := [ob s, .non, encO b]) (S1 := S) (ρ1 := ρ1 none) (by simp [encQ]) rfl ?_
    refine st_asg (sh_ s (ρ1 none) gr.1 rfl) ?_
    refine st_ifF (S1 := S) (by simp [ρ1]) ?_
    have q := (T b gr.2 (by simp only [dpR]; omega) (by omega)).call (ρ := ρ1 (some (.str (tx s)))) (S := S) (e := .var 4) (g := 20) rfl rfl
    exact st_ret (v_ct (v_ct (a := .var 1) (x := tx s) (S1 := S) rfl (d_con _ _ _ _) (by simp only [List.length_cons, List.length_nil]; omega)) q (by simp only [List.length_append, List.length_cons, List.length_nil]; omega)) (by simp [rT])
  | guard s g b =>
    simp only [nodR] at hr
    obtain ⟨b1, b2⟩ := eT_ok b gr.2.2
    obtain ⟨g1, g2⟩ := eT_ok g gr.2.1
    obtain ⟨s1, s2⟩ := tx_ok s gr.1.1
    have sn := gr.1.2.2
    have hne : encO g ≠ PV.non := by cases g <;> simp [encO]
    let ρ1 : Option PV → FF.Env := fun o1 => [some (encQ (.guard s g b)), o1, some (ob s), some (encO g), some (encO b)]
    refine st_names (vs := [ob s, encO g, encO b]) (S1 := S) (ρ1 := ρ1 none) (by simp [encQ]) rfl ?_
    refine st_asg (sh_ s (ρ1 none) gr.1 rfl) ?_
    refine st_ifT (S1 := S) (by simp [ρ1, hne]) ?_
    have qg := (T g gr.2.1 (by simp only [dpR]; omega) (by omega)).call (ρ := ρ1 (some (.str (tx s)))) (S := S) (e := .var 3) (g := 20) rfl rfl
    have q1 := v_ct (v_ct (Γ := Γ) (ρ := ρ1 (some (.str (tx s)))) (S := S) (a := .var 1) (x := tx s) (S1 := S) rfl (d_con _ _ _ (.str [32, 105, 102, 32])) (by simp only [List.length_cons, List.length_nil]; omega)) qg (by simp only [List.length_append, List.length_cons, List.length_nil]; omega)
    refine st_asg q1 ?_
    have q := (T b gr.2.2 (by simp only [dpR]; omega) (by omega)).call (ρ := ρ1 (some (.str (tx s ++ [32, 105, 102, 32] ++ eT g)))) (S := S) (e := .var 4) (g := 20) rfl rfl
    exact st_ret (v_ct (v_ct (a := .var 1) (x := tx s ++ [32, 105, 102, 32] ++ eT g) (S1 := S) rfl (d_con _ _ _ _) (by simp only [List.length_append, List.length_cons, List.length_nil]; omega)) q (by simp only [List.length_append, List.length_cons, List.length_nil]; omega)) (by simp [rT])
end LK16
set_option Elab.async false
set_option linter.all false
set_option autoImplicit false
set_option maxRecDepth 100000
set_option maxHeartbeats 1000000
namespace LK16
open PySem FF L2
theorem pmatch_ok (n : Nat) (hn : 20 ≤ n) (a : Ex) (rs : List Rl) (hg : gE (.mat a rs)) (hnd : nodE (.mat a rs) ≤ 300000) (Ta : TV (n + 1) 9 (encO a) (eT a)) (T : ∀ r ∈ rs, TV (n + 1) 7 (encQ r) (rT r)) : TV (n + 2) 8 (encO (.mat a rs)) (eT (.mat a rs)) := by
  refine TV_of fun S => callW fun_8 rfl ?_
  let Γ := Ge (n + 1)
  let ρ : Option PV → FF.Env := fun o => [some (encO (.mat a rs)), o, none]
  show WS (denSs whlL Γ _ (ρ none) S) _
  simp only [nodE] at hnd
  obtain ⟨a1, a2⟩ := eT_ok a hg.1
  obtain ⟨k1, k2⟩ := rTs_ok rs hg.2.2
  have kl : (rTs rs).length = rs.length := by rw [rTs_map, List.length_map]
  have kz := hg.2.1.2
  have kb := joinL_len [59, 32] (rTs rs)
  simp only [List.length_cons, List.length_nil] at kb
  obtain ⟨vs, c3, c4⟩ := v_comp (Γ := Γ) (ρ := ρ none) (S := S) (t := .one 2) (k := .val) (es := [(.idx (.var 0) (.con (.int 2)))]) (e := .call .val 18 [(.var 2)]) (vs := [.tup (rs.map encQ)]) (g := []) (xs := rs) encQ (fun s v => v = PV.str (rT s)) (by simp [ρ, encO, encQs_map]) (by simp) rfl (by unfold cap; omega) (fun x hx =>
    ⟨[some (encO (.mat a rs)), none, some (encQ x)], rfl, W.of ((T x hx).call (e := .var 2) rfl rfl) ⟨rfl, rfl⟩⟩)
  have c5 := f2_map c4
  have c6 : vs = (rTs rs).map PV.str := by rw [c5, rTs_map, List.map_map]; rfl
  rw [c6] at c3
  refine st_asg (v_join (y := [59, 32]) c3 (okB (by simp only [List.length_cons, List.length_nil]; omega))) ?_
  let ρ4 := ρ (some (.str (TL.joinL [59, 32] (rTs rs))))
  have q1 := Ta.call (ρ := ρ4) (S := S) (e := .idx (.var 0) (.con (.int 1))) (g := 20) (by simp [ρ4, ρ, encO]) rfl
  have q3 := v_ct (v_ct (v_ct (v_ct (d_con Γ ρ4 _ (.str [109, 97, 116, 99, 104, 32])) q1 (by simp only [List.length_cons, List.length_nil]; omega)) (d_con _ _ _ (.str [32, 123])) (by simp only [List.length_append, List.length_cons, List.length_nil]; omega)) (b := .var 1) (y := TL.joinL [59, 32] (rTs rs)) (S2 := S) rfl (by simp only [List.length_append, List.length_cons, List.length_nil]; omega)) (d_con _ _ _ (.str [125])) (by simp only [List.length_append, List.length_cons, List.length_nil]; omega)
  exact st_ret q3 (by simp [eT])
end LK16
set_option Elab.async false
set_option linter.all false
set_option autoImplicit false
set_option maxRecDepth 100000
set_option maxHeartbeats 1000000
namespace LK16
open PySem FF L2
theorem pexpr_ok : ∀ (m : Nat) (D : Nat) (e : Ex), dpE e ≤ m → gE e → nodE e ≤ 300000 → TV (D + 3 * m + 25) 9 (encO e) (eT e) := by
  intro m
  induction m with
  | zero => exact fun D e h => by cases e <;> simp only [dpE] at h <;> omega
  | succ m ih =>
    intro D e hd hg hn
    have T : ∀ (j : Nat) (e : Ex), j ≤ 2 → dpE e ≤ m → gE e → nodE e ≤ 300000 → TV (D + 3 * m + 25 + j) 9 (encO e) (eT e) := fun j e hj h1 h2 h3 => by
      have h := ih (D + j) e h1 h2 h3
      have e : D + j + 3 * m + 25 = D + 3 * m + 25 + j := by omega
      rw [e] at h
      exact h
    clear ih
    have eD : D + 3 * (m + 1) + 25 = (D + 3 * m + 25 + 2) + 1 := by omega
    rw [eD]
    have I : ∀ e, dpE e ≤ m → gE e → nodE e ≤ 300000 → TV (D + 3 * m + 25 + 2) 6 (encO e) (inn e (eT e)) := fun e h1 h2 h3 => pinner_ok (D + 3 * m + 25 + 1) e h2 h3 (T 1 e (by omega) h1 h2 h3)
    obtain ⟨t1, t2⟩ := eT_ok e hg
    refine TV_of fun S => callW fun_9 rfl ?_
    let Γ := Ge (D + 3 * m + 25 + 2)
    refine st_asg (v := .str (namE e)) (S1 := S) (by
      have := namO_ix S e
      simp [this]) ?_
    let ρ : FF.Env := [some (encO e), some (.str (namE e)), none]
    show WS (denSs whlL Γ _ ρ S) _
    have tst : ∀ y : List Nat, (y.all fun c => decide (c < 128)) = true → testOf Γ (.cmp .eq (.var 1) (.con (.str y))) ρ S = .ok (decide (namE e = y)) S := fun y hy => t_nam rfl (namE_lt e) hy
    have parts : ∀ (ps : List Ex), (∀ p ∈ ps, dpE p ≤ m) → gEs ps → nodEs ps ≤ 300000 → ps.length ≤ 4 → denE Γ (.idx (.var 0) (.con (.int 2))) ρ S = .ok (.tup (ps.map encO)) S → denE Γ (.comp false (.one 2) .val [(.idx (.var 0) (.con (.int 2)))] [] (.call .val 20 [(.var 2)])) ρ S = .ok (.lst ((eTs ps).map PV.str)) S := by
      intro ps h1 h2 h3 h4 h5
      have gps := gEs_iff.mp h2
      obtain ⟨vs, c3, c4⟩ := v_comp (Γ := Γ) (ρ := ρ) (S := S) (t := .one 2) (k := .val) (es := [(.idx (.var 0) (.con (.int 2)))]) (e := .call .val 20 [(.var 2)]) (vs := [.tup (ps.map encO)]) (g := []) (xs := ps) encO (fun s v => v = PV.str (eT s)) (es_cons h5 (d_nil _ _ _)) (by simp) rfl (by unfold cap; omega) (fun x hx => by
        have hnx := nodEs_of hx
        exact ⟨[some (encO e), some (.str (namE e)), some (encO x)], rfl, W.of ((T 2 x (by omega) (h1 x hx) (gps x hx) (by omega)).call (e := .var 2) rfl rfl) ⟨rfl, rfl⟩⟩)
      have c5 := f2_map c4
      have c6 : vs = (eTs ps).map PV.str := by rw [c5, eTs_map, List.map_map]; rfl
      rw [c6] at c3
      exact c3
    cases e with
    | num i =>
      refine st_ifT (S1 := S) (tst _ (by decide)) ?_
      have q : Γ.call 1 [.int i] S = .ok (.str (numT i)) S := pnum_ok (D + 3 * m + 25 + 1) i S hg.1 hg.2
      exact st_ret (v := .str (numT i)) (S1 := S) (v_callc (Γ := Γ) (f := 1) (S1 := S) (vs := [.int i]) (by simp [ρ, encO]) rfl (by
        rw [q, bind_ok_]
        simp)) (by simp [eT])
    | word w =>
      refine st_ifF (S1 := S) (tst _ (by decide)) ?_
      refine st_ifT (S1 := S) (tst _ (by decide)) ?_
      exact st_ret (v := .str w) (S1 := S) (by simp [ρ, encO]) (by simp [eT])
    | call t ps =>
      simp only [dpE] at hd
      simp only [nodE] at hn
      refine st_ifF (S1 := S) (tst _ (by decide)) ?_
      refine st_ifF (S1 := S) (tst _ (by decide)) ?_
      refine st_ifT (S1 := S) (tst _ (by decide)) ?_
      have c3 := parts ps (dpEs_le.mp (by omega)) hg.2.2 (by omega) hg.2.1 (by simp [ρ, encO, encOs_map])
      obtain ⟨k1, k2⟩ := eTs_ok ps hg.2.2
      have kl : (eTs ps).length = ps.length := by rw [eTs_map, List.length_map]
      have kz := hg.2.1
      have kt := hg.1.1
      have kb := joinL_len [44, 32] (eTs ps)
      simp only [List.length_cons, List.length_nil] at kb
      have c7 := v_join (y := [44, 32]) c3 (okB (by simp only [List.length_cons, List.length_nil]; omega))
      exact st_ret (v_ct (v_ct (v_ct (x := t) (S1 := S) (by simp [ρ, encO]) (d_con _ _ _ _) (by simp only [List.length_cons, List.length_nil]; omega)) c7 (by simp only [List.length_append, List.length_cons, List.length_nil]; omega)) (d_con _ _ _ _) (by simp only [List.length_append, List.length_cons, List.length_nil]; omega)) (by simp [eT])
    | make t ps =>
      simp only [dpE] at hd
      simp only [nodE] at hn
      refine st_ifF (S1 := S) (tst _ (by decide)) ?_
      refine st_ifF (S1 := S) (tst _ (by decide)) ?_
      refine st_ifF (S1 := S) (tst _ (by decide)) ?_
      refine st_ifT (S1 := S) (tst _ (by decide)) ?_
      have c3 := parts ps (dpEs_le.mp (by omega)) hg.2.2 (by omega) hg.2.1 (by simp [ρ, encO, encOs_map])
      obtain ⟨k1, k2⟩ := eTs_ok ps hg.2.2
      have kl : (eTs ps).length = ps.length := by rw [eTs_map, List.length_map]
      have kz := hg.2.1
      have kt := hg.1.1
      obtain ⟨l1, l2⟩ := listedT_ok k2
      have c7 := plc (n := D + 3 * m + 25 + 2) (by omega) k2 (by omega) c3
      exact st_ret (v_ct (x := t) (S1 := S) (by simp [ρ, encO]) c7 (by omega)) (by simp [eT])
    | field a w =>
      simp only [dpE] at hd
      simp only [nodE] at hn
      refine st_ifF (S1 := S) (tst _ (by decide)) ?_
      refine st_ifF (S1 := S) (tst _ (by decide)) ?_
      refine st_ifF (S1 := S) (tst _ (by decide)) ?_
      refine st_ifF (S1 := S) (tst _ (by decide)) ?_
      refine st_ifT (S1 := S) (tst _ (by decide)) ?_
      obtain ⟨a1, a2⟩ := eT_ok a hg.1
      obtain ⟨b1, _⟩ := inn_ok (e := a) a2
      have hw := hg.2.1
      have q := (I a (by omega) hg.1 (by omega)).call (ρ := ρ) (S := S) (e := .idx (.var 0) (.con (.int 1))) (g := 17) (by simp [ρ, encO]) rfl
      exact st_ret (v_ct (v_ct q (d_con _ _ _ _) (by simp only [List.length_cons, List.length_nil]; omega)) (y := w) (S2 := S) (by simp [ρ, encO]) (by simp only [List.length_append, List.length_cons, List.length_nil]; omega)) (by simp [eT])
    | deed c a b =>
      simp only [dpE] at hd
      simp only [nodE] at hn
      refine st_ifF (S1 := S) (tst _ (by decide)) ?_
      refine st_ifF (S1 := S) (tst _ (by decide)) ?_
      refine st_ifF (S1 := S) (tst _ (by decide)) ?_
      refine st_ifF (S1 := S) (tst _ (by decide)) ?_
      refine st_ifF (S1 := S) (tst _ (by decide)) ?_
      refine st_ifT (S1 := S) (tst _ (by decide)) ?_
      obtain ⟨a1, a2⟩ := eT_ok a hg.2.1
      obtain ⟨b1, _⟩ := inn_ok (e := a) a2
      obtain ⟨c1, c2⟩ := eT_ok b hg.2.2
      obtain ⟨d1, _⟩ := inn_ok (e := b) c2
      have q1 := (I a (by omega) hg.2.1 (by omega)).call (ρ := ρ) (S := S) (e := .idx (.var 0) (.con (.int 2))) (g := 17) (by simp [ρ, encO]) rfl
      have q2 := (I b (by omega) hg.2.2 (by omega)).call (ρ := ρ) (S := S) (e := .idx (.var 0) (.con (.int 3))) (g := 17) (by simp [ρ, encO]) rfl
      exact st_ret (v_ct (v_ct (v_ct (v_ct q1 (d_con _ _ _ _) (by simp only [List.length_cons, List.length_nil]; omega)) (y := [c]) (S2 := S) (by simp [ρ, encO]) (by simp only [List.length_append, List.length_cons, List.length_nil]; omega)) (d_con _ _ _ _) (by simp only [List.length_append, List.length_cons, List.length_nil]; omega)) q2 (by simp only [List.length_append, List.length_cons, List.length_nil]; omega)) (by simp [eT])
    | let_ w a b =>
      simp only [dpE] at hd
      simp only [nodE] at hn
      refine st_ifF (S1 := S) (tst _ (by decide)) ?_
      refine st_ifF (S1 := S) (tst _ (by decide)) ?_
      refine st_ifF (S1 := S) (tst _ (by decide)) ?_
      refine st_ifF (S1 := S) (tst _ (by decide)) ?_
      refine st_ifF (S1 := S) (tst _ (by decide)) ?_
      refine st_ifF (S1 := S) (tst _ (by decide)) ?_
      refine st_ifT (S1 := S) (tst _ (by decide)) ?_
      obtain ⟨a1, a2⟩ := eT_ok a hg.2.1
      obtain ⟨c1, c2⟩ := eT_ok b hg.2.2
      have hw := hg.1.1
      refine st_asg ((T 2 a (by omega) (by omega) hg.2.1 (by omega)).call (ρ := ρ) (S := S) (e := .idx (.var 0) (.con (.int 2))) (g := 20) (by simp [ρ, encO]) rfl) ?_
      let ρ2 : FF.Env := [some (encO (.let_ w a b)), some (.str (namE (.let_ w a b))), some (.str (eT a))]
      show WS (denSs whlL Γ _ ρ2 S) _
      have q2 := (T 2 b (by omega) (by omega) hg.2.2 (by omega)).call (ρ := ρ2) (S := S) (e := .idx (.var 0) (.con (.int 3))) (g := 20) (by simp [ρ2, encO]) rfl
      exact st_ret (v_ct (v_ct (v_ct (v_ct (v_ct (d_con _ _ _ _) (y := w) (S2 := S) (by simp [ρ2, encO]) (by simp only [List.length_cons, List.length_nil]; omega)) (d_con _ _ _ _) (by simp only [List.length_append, List.length_cons, List.length_nil]; omega)) (b := .var 2) (y := eT a) (S2 := S) rfl (by simp only [List.length_append, List.length_cons, List.length_nil]; omega)) (d_con _ _ _ _) (by simp only [List.length_append, List.length_cons, List.length_nil]; omega)) q2 (by simp only [List.length_append, List.length_cons, List.length_nil]; omega)) (by simp [eT])
    | mat a rs =>
      have hd0 := hd
      have hn0 := hn
      simp only [dpE] at hd
      simp only [nodE] at hn
      refine st_ifF (S1 := S) (tst _ (by decide)) ?_
      refine st_ifF (S1 := S) (tst _ (by decide)) ?_
      refine st_ifF (S1 := S) (tst _ (by decide)) ?_
      refine st_ifF (S1 := S) (tst _ (by decide)) ?_
      refine st_ifF (S1 := S) (tst _ (by decide)) ?_
      refine st_ifF (S1 := S) (tst _ (by decide)) ?_
      refine st_ifF (S1 := S) (tst _ (by decide)) ?_
      have grs := gRs_iff.mp hg.2.2
      have drs := dpRs_le (m := m) (rs := rs) |>.mp (by omega)
      have TR : ∀ r ∈ rs, TV (D + 3 * m + 25 + 1) 7 (encQ r) (rT r) := fun r hr => by
        have hnr := nodRs_of hr
        exact prule_ok (D + 3 * m + 25) (by omega) r (grs r hr) (by omega) fun e g1 g2 g3 => T 0 e (by omega) (by have := drs r hr; omega) g1 g3
      have hm := pmatch_ok (D + 3 * m + 25) (by omega) a rs hg hn0 (T 1 a (by omega) (by omega) hg.1 (by omega)) TR
      exact st_ret (hm.call (ρ := ρ) (S := S) (e := .var 0) (g := 19) rfl rfl) (by simp)
end LK16
set_option Elab.async false
set_option linter.all false
set_option autoImplicit false
set_option maxRecDepth 100000
set_option maxHeartbeats 1000000
namespace LK16
open PySem FF L2
theorem pfn_ok (n : Nat) (f : Fn) (gf : gFn f) (T : TV n 9 (encO f.e) (eT f.e)) : TV (n + 1) 10 (encFo f) (fnT f) := by
  refine TV_of fun S => callW fun_10 rfl ?_
  let Γ := Ge n
  obtain ⟨a1, _⟩ := eT_ok f.e gf.e
  have a2 := gf.n
  have hw := gf.w.1
  obtain ⟨u1, u2⟩ := us_len gf
  let ρ : FF.Env := [some (encFo f), some (.str f.w), some (.tup (f.us.map PV.str)), some (encO f.e)]
  refine st_names (vs := [.str f.w, .tup (f.us.map PV.str), encO f.e]) (S1 := S) (ρ1 := ρ) (by simp [encFo]) rfl ?_
  have lE : denE Γ (.blt false .list [(.var 2)]) ρ S = .ok (.lst (f.us.map PV.str)) S := by
    have e3 : denE Γ (.var 2) ρ S = .ok (.tup (f.us.map PV.str)) S := rfl
    rw [d_blt, es_cons e3 (d_nil _ _ _)]
    simp
  have q2 := v_join (y := [44, 32]) lE (okB (by simp only [List.length_cons, List.length_nil]; omega))
  have q0 : denE Γ (.fstr [(.con (.str [100, 101, 102, 105, 110, 101, 32])), (.fmt (.var 1)), (.con (.str [40]))]) ρ S = .ok (.str ([100, 101, 102, 105, 110, 101, 32] ++ f.w ++ [40])) S := by
    have o1 : okI f.w.length = true := okB (by omega)
    have o2 : okI (7 + (f.w.length + 1)) = true := okB (by omega)
    have o3 : okI (f.w.length + 1 + 7) = true := okB (by omega)
    simp [ρ, o1, asStrs, o2, o3]
  have q1 := T.call (ρ := ρ) (S := S) (e := .var 3) (g := 20) rfl rfl
  have q3 := v_ct (v_ct (v_ct q0 q2 (by simp only [List.length_append, List.length_cons, List.length_nil]; omega)) (d_con _ _ _ (.str [41, 32, 61, 32])) (by simp only [List.length_append, List.length_cons, List.length_nil]; omega)) q1 (by simp only [List.length_append, List.length_cons, List.length_nil]; omega)
  exact st_ret q3 (by simp [fnT])
end LK16
set_option Elab.async false
set_option linter.all false
set_option autoImplicit false
set_option maxRecDepth 100000
set_option maxHeartbeats 1000000
namespace LK16
open PySem FF L2
theorem pwritten_ok (n : Nat) (hn : 100 ≤ n) (p : Pg) (gp : gP p) : TV (n + 1) 11 (encPo p) (pT p) := by
  have T : ∀ k, 97 ≤ k → ∀ e, dpE e ≤ 24 → gE e → nodE e ≤ 300000 → TV k 9 (encO e) (eT e) := fun k hk e h1 h2 h3 => by
    have q := pexpr_ok 24 (k - 97) e h1 h2 h3
    have e : k - 97 + 3 * 24 + 25 = k := by omega
    rw [e] at q
    exact q
  have Dl : ∀ d, gD d → TV n 5 (encD d) (dT d) := fun d h => by
    have q := pdecl_ok (n - 1) (by omega) d h
    have e : n - 1 + 1 = n := by omega
    rw [e] at q
    exact q
  have Fl : ∀ f, gFn f → TV n 10 (encFo f) (fnT f) := fun f h => by
    have q := pfn_ok (n - 1) f h (T (n - 1) (by omega) f.e (by have := h.d; omega) h.e (by have := h.n; omega))
    have e : n - 1 + 1 = n := by omega
    rw [e] at q
    exact q
  have dl := gp.dl
  have fl := gp.fl
  refine TV_of fun S => callW fun_11 rfl ?_
  let Γ := Ge n
  let ρ : Option PV → FF.Env := fun o => [some (encPo p), o, some (.lst (p.ds.map encD)), some (.lst (p.fs.map encFo)), some (encO p.m), none]
  refine st_names (vs := [.lst (p.ds.map encD), .lst (p.fs.map encFo), encO p.m]) (S1 := S) (ρ1 := ρ none) (by simp [encPo]) rfl ?_
  obtain ⟨ys, c1, c2⟩ := v_comp (Γ := Γ) (ρ := ρ none) (S := S) (t := .one 5) (k := .val) (es := [(.var 2)]) (e := .call .val 16 [(.var 5)]) (vs := [.lst (p.ds.map encD)]) (g := []) (xs := p.ds) encD (fun d v => v = PV.str (dT d)) (by simp [ρ]) (by simp) rfl (by unfold cap; omega) (fun x hx =>
    ⟨_, rfl, W.of ((Dl x (gp.ds x hx)).call (e := .var 5) rfl rfl) ⟨rfl, rfl⟩⟩)
  have c3 := f2_map c2
  have c4 : ys = (p.ds.map dT).map PV.str := by rw [c3, List.map_map]; rfl
  subst c4
  obtain ⟨zs, d1, d2⟩ := v_comp (Γ := Γ) (ρ := ρ none) (S := S) (t := .one 5) (k := .val) (es := [(.var 3)]) (e := .call .val 21 [(.var 5)]) (vs := [.lst (p.fs.map encFo)]) (g := []) (xs := p.fs) encFo (fun d v => v = PV.str (fnT d)) (by simp [ρ]) (by simp) rfl (by unfold cap; omega) (fun x hx =>
    ⟨_, rfl, W.of ((Fl x (gp.fs x hx)).call (e := .var 5) rfl rfl) ⟨rfl, rfl⟩⟩)
  have d3 := f2_map d2
  have d4 : zs = (p.fs.map fnT).map PV.str := by rw [d3, List.map_map]; rfl
  subst d4
  refine st_asg (v_lcat c1 d1 (by simp; omega)) ?_
  let ρ4 := ρ (some (.lst ((p.ds.map dT).map PV.str ++ (p.fs.map fnT).map PV.str)))
  show WS (denSs whlL Γ _ ρ4 S) _
  obtain ⟨a1, a2⟩ := eT_ok p.m gp.m
  have a3 := gp.n
  have q1 := (T n (by omega) p.m gp.d gp.m (by omega)).call (ρ := ρ4) (S := S) (e := .var 4) (g := 20) rfl rfl
  have q2 := v_ct (d_con Γ ρ4 S (.str [109, 97, 105, 110, 32, 61, 32])) q1 (by simp only [List.length_cons, List.length_nil]; omega)
  have q3 : denE Γ (.bin .add (.var 1) (.lst false [(.bin .add (.con (.str [109, 97, 105, 110, 32, 61, 32])) (.call .val 20 [(.var 4)]))])) ρ4 S = .ok (.lst ((linesT p).map PV.str)) S := by
    have e2 : denE Γ (.lst false [(.bin .add (.con (.str [109, 97, 105, 110, 32, 61, 32])) (.call .val 20 [(.var 4)]))]) ρ4 S = .ok (.lst [.str (mainT p.m)]) S := by
      rw [d_lst, es_cons q2 (d_nil _ _ _)]
      simp [mainT]
    have := v_lcat (Γ := Γ) (ρ := ρ4) (S := S) (a := .var 1) (x := (p.ds.map dT).map PV.str ++ (p.fs.map fnT).map PV.str) rfl e2 (by simp; omega)
    rw [this]
    simp [linesT]
  have s1 : ((linesT p).map (·.length)).sum ≤ (linesT p).length * 1090000 := sum_le fun t ht => by
    unfold linesT at ht
    rcases List.mem_append.mp ht with h | h
    · rcases List.mem_append.mp h with h | h
      · obtain ⟨d, hd, rfl⟩ := List.mem_map.mp h
        have := dT_len (gp.ds d hd)
        omega
      · obtain ⟨f, hf, rfl⟩ := List.mem_map.mp h
        have := fnT_len (gp.fs f hf)
        omega
    · rw [List.mem_singleton.mp h]
      simp only [mainT, List.length_append, List.length_cons, List.length_nil]
      omega
  have ll : (linesT p).length ≤ 6 := by
    simp only [linesT, List.length_append, List.length_map, List.length_cons, List.length_nil]
    omega
  have s2 : (linesT p).length * 1090000 ≤ 6 * 1090000 := Nat.mul_le_mul_right _ ll
  have q5 := v_join (y := [10]) q3 (okB (by simp only [List.length_cons, List.length_nil]; omega))
  exact st_ret q5 (by simp [pT])
end LK16
set_option Elab.async false
set_option linter.all false
set_option autoImplicit false
set_option maxRecDepth 100000
set_option maxHeartbeats 1000000
namespace LK16
open PySem FF L2
/-- a value, by value -/
def VV (n f : Nat) (v r : PV) : Prop := ∀ S : Store, ((callL whlL P n f [v] S).bind fun v S2 => FF.settle .val S v S2) = .ok r S
theorem VV.call {n f g : Nat} {v r : PV} (h : VV n f v r) {ρ : FF.Env} {S : Store} {e : E} (he : denE (Ge n) e ρ S = .ok v S) (hg : (Ge n).glob g = some (.fn f)) : denE (Ge n) (.call .val g [e]) ρ S = .ok r S := v_callc (f := f) (S1 := S) (es_cons he (d_nil _ _ _)) hg (h S)
theorem VV_of {n f : Nat} {v r : PV} (h : ∀ S, W (K n f [v] S) fun a T => FF.settle .val S a T = .ok r S) : VV n f v r := fun S => by
  obtain ⟨a, T, e, h⟩ := h S
  unfold K at e
  rw [e, bind_ok_, h]
theorem e_or2 {Γ : Env2} {ρ : FF.Env} {S : Store} {a b : E} {ka kb : Bool} (h1 : denE Γ a ρ S = .ok (.bl ka) S) (h2 : denE Γ b ρ S = .ok (.bl kb) S) : denE Γ (.or [a, b]) ρ S = .ok (.bl (ka || kb)) S := by
  rw [d_or, d_or2, h1, bind_ok_]
  cases ka with
  | true => simp only [tr_bl, Bool.true_or]
  | false => simp only [tr_bl, d_or1, h2, Bool.false_or]
theorem e_and2 {Γ : Env2} {ρ : FF.Env} {S : Store} {a b : E} {ka kb : Bool} (h1 : denE Γ a ρ S = .ok (.bl ka) S) (h2 : ka = true → denE Γ b ρ S = .ok (.bl kb) S) : denE Γ (.and [a, b]) ρ S = .ok (.bl (ka && kb)) S := by
  rw [d_and, d_and2, h1, bind_ok_]
  cases ka with
  | true => simp only [tr_bl, d_and1, h2 rfl, Bool.true_and]
  | false => simp only [tr_bl, Bool.false_and]
theorem e_not {Γ : Env2} {ρ : FF.Env} {S : Store} {a : E} {ka : Bool} (h1 : denE Γ a ρ S = .ok (.bl ka) S) : denE Γ (.not a) ρ S = .ok (.bl (!ka)) S := by
  rw [d_not, h1, bind_ok_]
  simp only [tr_bl]
theorem e_ife {Γ : Env2} {ρ : FF.Env} {S : Store} {c a b : E} {k : Bool} {v : PV} (h1 : denE Γ c ρ S = .ok (.bl k) S) (h2 : k = true → denE Γ a ρ S = .ok v S) (h3 : k = false → denE Γ b ρ S = .ok v S) : denE Γ (.ife c a b) ρ S = .ok v S := by
  rw [d_ife, h1, bind_ok_]
  cases k with
  | true => simp only [tr_bl, h2 rfl]
  | false => simp only [tr_bl, h3 rfl]
theorem encE_ne (e : Ex) : encE e ≠ PV.non := by cases e <;> simp [encE]
theorem encO_ne (e : Ex) : encO e ≠ PV.non := by cases e <;> simp [encO]
/-- the turn over a match's rules, either way -/
theorem rules_turn {n gs ge : Nat} {enR : Rl → PV} {outR : Rl → PV} {enE outE : Ex → PV} {enS outS : Sh → PV} (ne : ∀ e, enE e ≠ PV.non)
    (h1 : ∀ s b, enR (.plain s b) = .tup [enS s, .non, enE b]) (h2 : ∀ s g b, enR (.guard s g b) = .tup [enS s, enE g, enE b]) (h3 : ∀ s b, outR (.plain s b) = .tup [outS s, .non, outE b]) (h4 : ∀ s g b, outR (.guard s g b) = .tup [outS s, outE g, outE b])
    (r : Rl) (hs : ∀ s (ρ : FF.Env) (T : Store), (∃ b, r = .plain s b) ∨ (∃ g b, r = .guard s g b) → ρ[2]? = some (some (enS s)) → denE (Ge n) (.call .val gs [(.var 2)]) ρ T = .ok (outS s) T)
    (he : ∀ e (i : Nat) (ρ : FF.Env) (T : Store), dpE e ≤ dpR r → gR r → (∃ s, r = .plain s e) ∨ (∃ s b, r = .guard s e b) ∨ (∃ s g, r = .guard s g e) → ρ[i]? = some (some (enE e)) → denE (Ge n) (.call .val ge [(.var i)]) ρ T = .ok (outE e) T) (gr : gR r)
    {S : Store} {acc : List PV} (hl : acc.length ≤ 1000) (o0 : PV) (o5 o6 : Option PV) (ρ0 : FF.Env) (hρ : ∃ o2 o3 o4, ρ0 = [some o0, some (.ref S.length), o2, o3, o4, o5, o6]) :
    ∃ ρ1, bindT (S ++ [.lst acc]) (.many [2, 3, 4]) (enR r) ρ0 = some ρ1 ∧ WS (denSs whlL (Ge n) [(.asg (.name 5) (.ife (.cmp .is_ (.var 3) (.con .non)) (.con .non) (.call .val ge [(.var 3)]))), (.expr (.bm .append (.var 1) [(.tup [(.call .val gs [(.var 2)]), (.var 5), (.call .val ge [(.var 4)])])]))] ρ1 (S ++ [.lst acc]))
      ⟨fun ρ' S' => (∃ o2 o3 o4 o5, ρ' = [some o0, some (.ref S.length), o2, o3, o4, o5, o6]) ∧ S' = S ++ [.lst (acc ++ [outR r])], fun _ _ => False, fun _ _ => False, fun _ _ => False⟩ := by
  obtain ⟨o2, o3, o4, rfl⟩ := hρ
  let T := S ++ [PV.lst acc]
  cases r with
  | plain s b =>
    refine ⟨[some o0, some (.ref S.length), some (enS s), some .non, some (enE b), o5, o6], by rw [h1]; rfl, ?_⟩
    refine st_asg (v := .non) (S1 := T) (by simp [T]) ?_
    let ρ4 : FF.Env := [some o0, some (.ref S.length), some (enS s), some .non, some (enE b), some .non, o6]
    have q1 := hs s ρ4 T (.inl ⟨b, rfl⟩) rfl
    have q2 := he b 4 ρ4 T (by simp [dpR]) gr (.inl ⟨s, rfl⟩) rfl
    have q3 : denE (Ge n) (.tup [(.call .val gs [(.var 2)]), (.var 5), (.call .val ge [(.var 4)])]) ρ4 T = .ok (outR (.plain s b)) T := by
      rw [d_tup, es_cons q1 (es_cons (v := .non) rfl (es_cons q2 (d_nil _ _ _))), h3]
      simp
    have q4 := v_app (i := 1) (ρ := ρ4) rfl (s_at S (.lst acc)) q3 (s_at S (.lst acc)) (by omega)
    refine st_expr q4 (st_nil ⟨⟨_, _, _, _, rfl⟩, by rw [s_set]⟩)
  | guard s g b =>
    refine ⟨[some o0, some (.ref S.length), some (enS s), some (enE g), some (enE b), o5, o6], by rw [h2]; rfl, ?_⟩
    let ρ3 : FF.Env := [some o0, some (.ref S.length), some (enS s), some (enE g), some (enE b), o5, o6]
    have q0 := he g 3 ρ3 T (by simp only [dpR]; omega) gr (.inr (.inl ⟨s, b, rfl⟩)) rfl
    refine st_asg (v := outE g) (S1 := T) (e_ife (k := false) (by simp [ne]) (by simp) (fun _ => q0)) ?_
    let ρ4 : FF.Env := [some o0, some (.ref S.length), some (enS s), some (enE g), some (enE b), some (outE g), o6]
    have q1 := hs s ρ4 T (.inr ⟨g, b, rfl⟩) rfl
    have q2 := he b 4 ρ4 T (by simp only [dpR]; omega) gr (.inr (.inr ⟨s, g, rfl⟩)) rfl
    have q3 : denE (Ge n) (.tup [(.call .val gs [(.var 2)]), (.var 5), (.call .val ge [(.var 4)])]) ρ4 T = .ok (outR (.guard s g b)) T := by
      rw [d_tup, es_cons q1 (es_cons (v := outE g) rfl (es_cons q2 (d_nil _ _ _))), h4]
      simp
    have q4 := v_app (i := 1) (ρ := ρ4) rfl (s_at S (.lst acc)) q3 (s_at S (.lst acc)) (by omega)
    refine st_expr q4 (st_nil ⟨⟨_, _, _, _, rfl⟩, by rw [s_set]⟩)
end LK16
set_option Elab.async false
set_option linter.all false
set_option autoImplicit false
set_option maxRecDepth 100000
set_option maxHeartbeats 1000000
namespace LK16
open PySem FF L2
theorem e_nam {Γ : Env2} {ρ : FF.Env} {S : Store} {x y : List Nat} {e : E} (h : denE Γ e ρ S = .ok (.str x) S) (hx : (x.all fun c => decide (c < 128)) = true) (hy : (y.all fun c => decide (c < 128)) = true) : denE Γ (.cmp .eq e (.con (.str y))) ρ S = .ok (.bl (decide (x = y))) S :=
  c_eq h (d_con _ _ _ _) (eqL hx hy)
theorem real_ok : ∀ (m : Nat) (D : Nat) (e : Ex), dpE e ≤ m → gE e → VV (D + m + 10) 23 (encE e) (encO e) := by
  intro m
  induction m with
  | zero => exact fun D e h => by cases e <;> simp only [dpE] at h <;> omega
  | succ m ih =>
    intro D e hd hg
    have T : ∀ e, dpE e ≤ m → gE e → VV (D + m + 10) 23 (encE e) (encO e) := fun e h1 h2 => ih D e h1 h2
    clear ih
    have eD : D + (m + 1) + 10 = (D + m + 10) + 1 := by omega
    rw [eD]
    refine VV_of fun S => callW fun_23 rfl ?_
    let Γ := Ge (D + m + 10)
    let ρ : FF.Env := [some (encE e), none, none, none, none, none, none]
    show WS (denSs whlL Γ _ ρ S) _
    have n0 : denE Γ (.idx (.var 0) (.con (.int 0))) ρ S = .ok (.str (namE e)) S := by
      have := namE_ix S e
      simp [ρ, this]
    have ts : ∀ y : List Nat, (y.all fun c => decide (c < 128)) = true → denE Γ (.cmp .eq (.idx (.var 0) (.con (.int 0))) (.con (.str y))) ρ S = .ok (.bl (decide (namE e = y))) S := fun y hy => e_nam n0 (namE_lt e) hy
    have t1 : ∀ y : List Nat, (y.all fun c => decide (c < 128)) = true → testOf Γ (.cmp .eq (.idx (.var 0) (.con (.int 0))) (.con (.str y))) ρ S = .ok (decide (namE e = y)) S := fun y hy => t_of (ts y hy)
    have t2 := t_of (e_or2 (ts sCall (by decide)) (ts sMake (by decide)))
    have t3 := t_of (e_or2 (ts sDeed (by decide)) (ts sLet (by decide)))
    have fin : ∀ {v : PV}, v = encO e → FF.settle .val S v S = .ok (encO e) S := fun h => by rw [h]; exact settle_v (low_encO _ _)
    have parts : ∀ (ps : List Ex), (∀ p ∈ ps, dpE p ≤ m) → gEs ps → ps.length ≤ 4 → denE Γ (.idx (.var 0) (.con (.int 2))) ρ S = .ok (.tup (ps.map encE)) S → denE Γ (.blt false .tuple [(.comp false (.one 6) .val [(.idx (.var 0) (.con (.int 2)))] [] (.call .val 34 [(.var 6)]))]) ρ S = .ok (.tup (ps.map encO)) S := by
      intro ps h1 h2 h4 h5
      have gps := gEs_iff.mp h2
      obtain ⟨vs, c3, c4⟩ := v_comp (Γ := Γ) (ρ := ρ) (S := S) (t := .one 6) (k := .val) (es := [(.idx (.var 0) (.con (.int 2)))]) (e := .call .val 34 [(.var 6)]) (vs := [.tup (ps.map encE)]) (g := []) (xs := ps) encE (fun s v => v = encO s) (es_cons h5 (d_nil _ _ _)) (by simp) rfl (by unfold cap; omega) (fun x hx =>
        ⟨[some (encE e), none, none, none, none, none, some (encE x)], rfl, W.of ((T x (h1 x hx) (gps x hx)).call (e := .var 6) rfl rfl) ⟨rfl, rfl⟩⟩)
      have c5 := f2_map c4
      rw [c5] at c3
      rw [d_blt, es_cons c3 (d_nil _ _ _)]
      simp
    cases e with
    | num i =>
      refine st_ifF (S1 := S) (t1 _ (by decide)) ?_
      refine st_ifF (S1 := S) t2 ?_
      refine st_ifF (S1 := S) (t1 _ (by decide)) ?_
      refine st_ifF (S1 := S) t3 ?_
      exact st_ret (v := encE (.num i)) (S1 := S) rfl (fin (by simp [encE, encO]))
    | word w =>
      refine st_ifF (S1 := S) (t1 _ (by decide)) ?_
      refine st_ifF (S1 := S) t2 ?_
      refine st_ifF (S1 := S) (t1 _ (by decide)) ?_
      refine st_ifF (S1 := S) t3 ?_
      exact st_ret (v := encE (.word w)) (S1 := S) rfl (fin (by simp [encE, encO]))
    | call t ps =>
      simp only [dpE] at hd
      refine st_ifF (S1 := S) (t1 _ (by decide)) ?_
      refine st_ifT (S1 := S) t2 ?_
      have q := parts ps (dpEs_le.mp (by omega)) hg.2.2 hg.2.1 (by simp [ρ, encE, encEs_map])
      exact st_ret (v := encO (.call t ps)) (S1 := S) (by
        rw [d_tup, es_cons n0 (es_cons (v := .str t) (S1 := S) (by simp [ρ, encE]) (es_cons q (d_nil _ _ _)))]
        simp [encO, encOs_map, namE]) (fin rfl)
    | make t ps =>
      simp only [dpE] at hd
      refine st_ifF (S1 := S) (t1 _ (by decide)) ?_
      refine st_ifT (S1 := S) t2 ?_
      have q := parts ps (dpEs_le.mp (by omega)) hg.2.2 hg.2.1 (by simp [ρ, encE, encEs_map])
      exact st_ret (v := encO (.make t ps)) (S1 := S) (by
        rw [d_tup, es_cons n0 (es_cons (v := .str t) (S1 := S) (by simp [ρ, encE]) (es_cons q (d_nil _ _ _)))]
        simp [encO, encOs_map, namE]) (fin rfl)
    | field a w =>
      simp only [dpE] at hd
      refine st_ifF (S1 := S) (t1 _ (by decide)) ?_
      refine st_ifF (S1 := S) t2 ?_
      refine st_ifT (S1 := S) (t1 _ (by decide)) ?_
      have q := (T a (by omega) hg.1).call (ρ := ρ) (S := S) (e := .idx (.var 0) (.con (.int 1))) (g := 34) (by simp [ρ, encE]) rfl
      exact st_ret (v := encO (.field a w)) (S1 := S) (by
        rw [d_tup, es_cons (d_con _ _ _ _) (es_cons q (es_cons (v := .str w) (S1 := S) (by simp [ρ, encE]) (d_nil _ _ _)))]
        simp [encO]) (fin rfl)
    | deed c a b =>
      simp only [dpE] at hd
      refine st_ifF (S1 := S) (t1 _ (by decide)) ?_
      refine st_ifF (S1 := S) t2 ?_
      refine st_ifF (S1 := S) (t1 _ (by decide)) ?_
      refine st_ifT (S1 := S) t3 ?_
      have q1 := (T a (by omega) hg.2.1).call (ρ := ρ) (S := S) (e := .idx (.var 0) (.con (.int 2))) (g := 34) (by simp [ρ, encE]) rfl
      have q2 := (T b (by omega) hg.2.2).call (ρ := ρ) (S := S) (e := .idx (.var 0) (.con (.int 3))) (g := 34) (by simp [ρ, encE]) rfl
      have o : okI 4 = true := by decide
      exact st_ret (v := encO (.deed c a b)) (S1 := S) (by
        rw [d_tup, es_cons n0 (es_cons (v := .str [c]) (S1 := S) (by simp [ρ, encE]) (es_cons q1 (es_cons q2 (d_nil _ _ _))))]
        simp [encO, namE, o]) (fin rfl)
    | let_ w a b =>
      simp only [dpE] at hd
      refine st_ifF (S1 := S) (t1 _ (by decide)) ?_
      refine st_ifF (S1 := S) t2 ?_
      refine st_ifF (S1 := S) (t1 _ (by decide)) ?_
      refine st_ifT (S1 := S) t3 ?_
      have q1 := (T a (by omega) hg.2.1).call (ρ := ρ) (S := S) (e := .idx (.var 0) (.con (.int 2))) (g := 34) (by simp [ρ, encE]) rfl
      have q2 := (T b (by omega) hg.2.2).call (ρ := ρ) (S := S) (e := .idx (.var 0) (.con (.int 3))) (g := 34) (by simp [ρ, encE]) rfl
      have o : okI 4 = true := by decide
      exact st_ret (v := encO (.let_ w a b)) (S1 := S) (by
        rw [d_tup, es_cons n0 (es_cons (v := .str w) (S1 := S) (by simp [ρ, encE]) (es_cons q1 (es_cons q2 (d_nil _ _ _))))]
        simp [encO, namE, o]) (fin rfl)
    | mat a rs =>
      simp only [dpE] at hd
      refine st_ifT (S1 := S) (t1 _ (by decide)) ?_
      refine st_asg (v := .ref S.length) (S1 := S ++ [.lst []]) (by simp) ?_
      have grs := gRs_iff.mp hg.2.2
      have drs := dpRs_le (m := m) (rs := rs) |>.mp (by omega)
      have kl := hg.2.1.2
      refine st_forA (α := Rl) (S0 := S) (xs := rs) (vs := [.tup (rs.map encR)]) encR (fun ρ' => ∃ o2 o3 o4 o5, ρ' = [some (encE (.mat a rs)), some (.ref S.length), o2, o3, o4, o5, none]) (fun r v => v = encQ r) (by simp [ρ, encE, encRs_map]) (by simp) ⟨_, _, _, _, rfl⟩ (fun r hr acc ρ' hacc ⟨o2, o3, o4, o5, hρ⟩ => ?_) fun ρ' ys ⟨o2, o3, o4, o5, hρ⟩ hy => ?_
      · obtain ⟨ρ1, b1, b2⟩ := rules_turn (n := D + m + 10) (gs := 33) (ge := 34) (enR := encR) (outR := encQ) (enE := encE) (outE := encO) (enS := encS) (outS := ob) encE_ne (fun s b => by simp [encR]) (fun s g b => by simp [encR]) (fun s b => by simp [encQ]) (fun s g b => by simp [encQ]) r
          (fun s ρ3 T3 h h2 => by
            have gs : gSh s := by
              have := grs r hr
              rcases h with ⟨b, rfl⟩ | ⟨g, b, rfl⟩
              · exact this.1
              · exact this.1
            refine v_callc (f := 22) (S1 := T3) (vs := [encS s]) (es_cons (by rw [d_var, h2]) (d_nil _ _ _)) rfl ?_
            have q := built_ok 3 (by omega) (D + m + 5) s T3 gs.2.1 gs.1
            have e : D + m + 5 + 2 + 3 = D + m + 10 := by omega
            rw [e] at q
            have q2 : (Ge (D + m + 10)).call 22 [encS s] T3 = .ok (ob s) T3 := q
            rw [q2, bind_ok_]
            exact settle_v (low_ob _ _))
          (fun e i ρ3 T3 h1 gr h h2 => by
            have ge : gE e := by
              rcases h with ⟨s, rfl⟩ | ⟨s, b, rfl⟩ | ⟨s, g, rfl⟩
              · exact gr.2
              · exact gr.2.1
              · exact gr.2.2
            exact (T e (by have := drs r hr; omega) ge).call (by rw [d_var, h2]) rfl)
          (grs r hr) (S := S) (acc := acc) (by omega) (encE (.mat a rs)) o5 none ρ' ⟨o2, o3, o4, hρ⟩
        refine ⟨ρ1, b1, WS.mono b2 (fun ρ4 S4 ⟨⟨p2, p3, p4, p5, h⟩, h5⟩ => ⟨⟨p2, p3, p4, p5, h⟩, _, h5, rfl⟩) (fun _ _ z => z.elim) (fun _ _ z => z.elim) fun _ _ z => z.elim⟩
      · have hy2 := f2_map hy
        subst hy2 hρ
        let ρ5 : FF.Env := [some (encE (.mat a rs)), some (.ref S.length), o2, o3, o4, o5, none]
        have q1 := (T a (by omega) hg.1).call (ρ := ρ5) (S := S ++ [.lst (rs.map encQ)]) (e := .idx (.var 0) (.con (.int 1))) (g := 34) (by simp [ρ5, encE]) rfl
        have q2 := v_tupR (Γ := Γ) (ρ := ρ5) (i := 1) rfl (s_at S (.lst (rs.map encQ)))
        refine st_ret (v := encO (.mat a rs)) (S1 := S ++ [.lst (rs.map encQ)]) (by
          rw [d_tup, es_cons (d_con _ _ _ _) (es_cons q1 (es_cons q2 (d_nil _ _ _)))]
          simp [encO, encQs_map]) (settle_vx (low_encO _ _))
end LK16
set_option Elab.async false
set_option linter.all false
set_option autoImplicit false
set_option maxRecDepth 100000
set_option maxHeartbeats 1000000
namespace LK16
open PySem FF L2
theorem told_ok : ∀ (m : Nat) (D : Nat) (s : Sh), dpS s ≤ m → gS s → VV (D + m) 24 (ob s) (encS s) := by
  intro m
  induction m with
  | zero => exact fun D s h => by cases s <;> simp only [dpS] at h <;> omega
  | succ m ih =>
    intro D s hd hg
    have T : ∀ s, dpS s ≤ m → gS s → VV (D + m) 24 (ob s) (encS s) := fun s h1 h2 => ih D s h1 h2
    clear ih
    have eD : D + (m + 1) = (D + m) + 1 := by omega
    rw [eD]
    refine VV_of fun S => callW fun_24 rfl ?_
    let Γ := Ge (D + m)
    let ρ : FF.Env := [some (ob s), none]
    show WS (denSs whlL Γ _ ρ S) _
    have o1 : denE Γ (.var 0) ρ S = .ok (ob s) S := rfl
    have isE : ∀ (c : Nat) (k : Bool), (isKnown Γ.ini (view S (ob s)) && [TyR.cls c].all (tOk Γ.ini)) = true → ([TyR.cls c].any fun t => isOne Γ.anc (view S (ob s)) t) = k → denE Γ (.isi (.var 0) [.cls c]) ρ S = .ok (.bl k) S := fun c k h1 h2 => by
      rw [d_isi, o1, bind_ok_, if_pos h1, h2]
    have fin : FF.settle .val S (encS s) S = .ok (encS s) S := settle_v (low_encS _ _)
    cases s with
    | any =>
      refine st_ifF (S1 := S) (t_of (isE _ false rfl rfl)) ?_
      refine st_ifF (S1 := S) (t_of (isE _ false rfl rfl)) ?_
      refine st_ifF (S1 := S) (t_of (e_and2 (kb := false) (isE _ false rfl rfl) (by simp))) ?_
      refine st_ifF (S1 := S) (t_of (isE _ false rfl rfl)) ?_
      refine st_ifF (S1 := S) (t_of (isE _ false rfl rfl)) ?_
      exact st_ret (v := encS .any) (S1 := S) (e_ife (k := true) (isE _ true rfl rfl) (fun _ => by simp [encS]) (by simp)) fin
    | word w =>
      refine st_ifT (S1 := S) (t_of (isE _ true rfl rfl)) ?_
      exact st_ret (v := encS (.word w)) (S1 := S) (by simp [ρ, ob, encS, fget]) fin
    | span lo hi =>
      refine st_ifF (S1 := S) (t_of (isE _ false rfl rfl)) ?_
      refine st_ifT (S1 := S) (t_of (isE _ true rfl rfl)) ?_
      exact st_ret (v := encS (.span lo hi)) (S1 := S) (by simp [ρ, ob, encS, fget]) fin
    | made t ps =>
      simp only [dpS] at hd
      have gps := gSs_iff.mp hg.2.2
      have hps : ∀ p ∈ ps, dpS p ≤ m := dpSs_le.mp (by omega)
      refine st_ifF (S1 := S) (t_of (isE _ false rfl rfl)) ?_
      refine st_ifF (S1 := S) (t_of (isE _ false rfl rfl)) ?_
      have e4 : denE Γ (.fld (.var 0) 4) ρ S = .ok (.lst (ps.map ob)) S := by simp [ρ, ob, fget, obs_map]
      refine st_ifT (S1 := S) (t_of (e_and2 (kb := true) (isE _ true rfl rfl) (fun _ => by
        rw [d_isi, e4, bind_ok_]
        rfl))) ?_
      obtain ⟨vs, c3, c4⟩ := v_comp (Γ := Γ) (ρ := ρ) (S := S) (t := .one 1) (k := .val) (es := [(.fld (.var 0) 4)]) (e := .call .val 35 [(.var 1)]) (vs := [.lst (ps.map ob)]) (g := []) (xs := ps) ob (fun s v => v = encS s) (es_cons e4 (d_nil _ _ _)) (by simp) rfl (by have := hg.2.1; unfold cap; omega) (fun x hx =>
        ⟨[some (ob (.made t ps)), some (ob x)], rfl, W.of ((T x (hps x hx) (gps x hx)).call (e := .var 1) rfl rfl) ⟨rfl, rfl⟩⟩)
      have c5 := f2_map c4
      rw [c5] at c3
      have c6 : denE Γ (.blt false .tuple [(.comp false (.one 1) .val [(.fld (.var 0) 4)] [] (.call .val 35 [(.var 1)]))]) ρ S = .ok (.tup (ps.map encS)) S := by
        rw [d_blt, es_cons c3 (d_nil _ _ _)]
        simp
      exact st_ret (v := encS (.made t ps)) (S1 := S) (by
        rw [d_tup, es_cons (d_con _ _ _ _) (es_cons (v := .str t) (S1 := S) (by simp [ρ, ob, fget]) (es_cons c6 (d_nil _ _ _)))]
        simp [encS, encSs_map]) fin
    | either a b =>
      simp only [dpS] at hd
      refine st_ifF (S1 := S) (t_of (isE _ false rfl rfl)) ?_
      refine st_ifF (S1 := S) (t_of (isE _ false rfl rfl)) ?_
      refine st_ifF (S1 := S) (t_of (e_and2 (kb := false) (isE _ false rfl rfl) (by simp))) ?_
      refine st_ifT (S1 := S) (t_of (isE _ true rfl rfl)) ?_
      have q1 := (T a (by omega) hg.1).call (ρ := ρ) (S := S) (e := .fld (.var 0) 6) (g := 35) (by simp [ρ, ob, fget]) rfl
      have q2 := (T b (by omega) hg.2).call (ρ := ρ) (S := S) (e := .fld (.var 0) 7) (g := 35) (by simp [ρ, ob, fget]) rfl
      exact st_ret (v := encS (.either a b)) (S1 := S) (by
        rw [d_tup, es_cons (d_con _ _ _ _) (es_cons q1 (es_cons q2 (d_nil _ _ _)))]
        simp [encS]) fin
    | also p w =>
      simp only [dpS] at hd
      refine st_ifF (S1 := S) (t_of (isE _ false rfl rfl)) ?_
      refine st_ifF (S1 := S) (t_of (isE _ false rfl rfl)) ?_
      refine st_ifF (S1 := S) (t_of (e_and2 (kb := false) (isE _ false rfl rfl) (by simp))) ?_
      refine st_ifF (S1 := S) (t_of (isE _ false rfl rfl)) ?_
      refine st_ifT (S1 := S) (t_of (isE _ true rfl rfl)) ?_
      have q1 := (T p (by omega) hg.1).call (ρ := ρ) (S := S) (e := .fld (.var 0) 8) (g := 35) (by simp [ρ, ob, fget]) rfl
      exact st_ret (v := encS (.also p w)) (S1 := S) (by
        rw [d_tup, es_cons (d_con _ _ _ _) (es_cons q1 (es_cons (v := .str w) (S1 := S) (by simp [ρ, ob, fget]) (d_nil _ _ _)))]
        simp [encS]) fin
end LK16
set_option Elab.async false
set_option linter.all false
set_option autoImplicit false
set_option maxRecDepth 100000
set_option maxHeartbeats 1000000
namespace LK16
open PySem FF L2
theorem plainly_ok : ∀ (m : Nat) (D : Nat) (e : Ex), dpE e ≤ m → gE e → VV (D + m + 10) 25 (encO e) (encE e) := by
  intro m
  induction m with
  | zero => exact fun D e h => by cases e <;> simp only [dpE] at h <;> omega
  | succ m ih =>
    intro D e hd hg
    have T : ∀ e, dpE e ≤ m → gE e → VV (D + m + 10) 25 (encO e) (encE e) := fun e h1 h2 => ih D e h1 h2
    clear ih
    have eD : D + (m + 1) + 10 = (D + m + 10) + 1 := by omega
    rw [eD]
    refine VV_of fun S => callW fun_25 rfl ?_
    let Γ := Ge (D + m + 10)
    let ρ : FF.Env := [some (encO e), none, none, none, none, none, none]
    show WS (denSs whlL Γ _ ρ S) _
    have n0 : denE Γ (.idx (.var 0) (.con (.int 0))) ρ S = .ok (.str (namE e)) S := by
      have := namO_ix S e
      simp [ρ, this]
    have ts : ∀ y : List Nat, (y.all fun c => decide (c < 128)) = true → denE Γ (.cmp .eq (.idx (.var 0) (.con (.int 0))) (.con (.str y))) ρ S = .ok (.bl (decide (namE e = y))) S := fun y hy => e_nam n0 (namE_lt e) hy
    have t1 : ∀ y : List Nat, (y.all fun c => decide (c < 128)) = true → testOf Γ (.cmp .eq (.idx (.var 0) (.con (.int 0))) (.con (.str y))) ρ S = .ok (decide (namE e = y)) S := fun y hy => t_of (ts y hy)
    have t2 := e_or2 (ts sCall (by decide)) (ts sMake (by decide))
    have t3 := t_of (e_or2 (ts sDeed (by decide)) (ts sLet (by decide)))
    have fin : ∀ {v : PV}, v = encE e → FF.settle .val S v S = .ok (encE e) S := fun h => by rw [h]; exact settle_v (low_encE _ _)
    have first : testOf Γ (.or [(.not (.isi (.var 0) [.bty "tuple"])), (.cmp .lt (.blt false .len [(.var 0)]) (.con (.int 2)))]) ρ S = .ok false S := by
      have o1 : denE Γ (.var 0) ρ S = .ok (encO e) S := rfl
      obtain ⟨xs, hx, hl⟩ : ∃ xs, encO e = .tup xs ∧ 2 ≤ xs.length := by cases e <;> exact ⟨_, by simp [encO]; rfl, by simp⟩
      rw [hx] at o1
      refine t_of (e_or2 (ka := false) (kb := false) ?_ ?_)
      · rw [d_not, d_isi, o1, bind_ok_]
        rfl
      · have o2 : ¬ ((xs.length : Int) < 2) := by omega
        rw [d_cmp, d_blt, es_cons o1 (d_nil _ _ _)]
        simp [o2]
    refine st_ifF first ?_
    have tupT : ∀ {xs : List PV}, denE Γ (.idx (.var 0) (.con (.int 2))) ρ S = .ok (.tup xs) S → denE Γ (.isi (.idx (.var 0) (.con (.int 2))) [.bty "tuple"]) ρ S = .ok (.bl true) S := fun h => by
      rw [d_isi, h, bind_ok_]
      rfl
    have parts : ∀ (ps : List Ex), (∀ p ∈ ps, dpE p ≤ m) → gEs ps → ps.length ≤ 4 → denE Γ (.idx (.var 0) (.con (.int 2))) ρ S = .ok (.tup (ps.map encO)) S → denE Γ (.blt false .tuple [(.comp false (.one 6) .val [(.idx (.var 0) (.con (.int 2)))] [] (.call .val 36 [(.var 6)]))]) ρ S = .ok (.tup (ps.map encE)) S := by
      intro ps h1 h2 h4 h5
      have gps := gEs_iff.mp h2
      obtain ⟨vs, c3, c4⟩ := v_comp (Γ := Γ) (ρ := ρ) (S := S) (t := .one 6) (k := .val) (es := [(.idx (.var 0) (.con (.int 2)))]) (e := .call .val 36 [(.var 6)]) (vs := [.tup (ps.map encO)]) (g := []) (xs := ps) encO (fun s v => v = encE s) (es_cons h5 (d_nil _ _ _)) (by simp) rfl (by unfold cap; omega) (fun x hx =>
        ⟨[some (encO e), none, none, none, none, none, some (encO x)], rfl, W.of ((T x (h1 x hx) (gps x hx)).call (e := .var 6) rfl rfl) ⟨rfl, rfl⟩⟩)
      have c5 := f2_map c4
      rw [c5] at c3
      rw [d_blt, es_cons c3 (d_nil _ _ _)]
      simp
    have noM : namE e ≠ sMatch → testOf Γ (.and [(.cmp .eq (.idx (.var 0) (.con (.int 0))) (.con (.str [109, 97, 116, 99, 104]))), (.isi (.idx (.var 0) (.con (.int 2))) [.bty "tuple"])]) ρ S = .ok false S := fun h => t_of (e_and2 (ka := false) (kb := false) (by
      have := ts sMatch (by decide)
      rw [decide_eq_false h] at this
      exact this) (by simp))
    have noC : namE e ≠ sCall → namE e ≠ sMake → testOf Γ (.and [(.or [(.cmp .eq (.idx (.var 0) (.con (.int 0))) (.con (.str [99, 97, 108, 108]))), (.cmp .eq (.idx (.var 0) (.con (.int 0))) (.con (.str [109, 97, 107, 101])))]), (.isi (.idx (.var 0) (.con (.int 2))) [.bty "tuple"])]) ρ S = .ok false S := fun h1 h2 => t_of (e_and2 (ka := false) (kb := false) (by
      have := t2
      rw [decide_eq_false h1, decide_eq_false h2] at this
      exact this) (by simp))
    have isC : (namE e = sCall ∨ namE e = sMake) → ∀ {xs : List PV}, denE Γ (.idx (.var 0) (.con (.int 2))) ρ S = .ok (.tup xs) S → testOf Γ (.and [(.or [(.cmp .eq (.idx (.var 0) (.con (.int 0))) (.con (.str [99, 97, 108, 108]))), (.cmp .eq (.idx (.var 0) (.con (.int 0))) (.con (.str [109, 97, 107, 101])))]), (.isi (.idx (.var 0) (.con (.int 2))) [.bty "tuple"])]) ρ S = .ok true S := fun h1 xs h2 => t_of (e_and2 (ka := true) (kb := true) (by
      have := t2
      rcases h1 with h1 | h1 <;> rw [h1] at this <;> exact this) (fun _ => tupT h2))
    have noN : namE e ≠ sNum → testOf Γ (.and [(.cmp .eq (.idx (.var 0) (.con (.int 0))) (.con (.str [110, 117, 109, 98, 101, 114]))), (.isi (.idx (.var 0) (.con (.int 1))) [.bty "bool"])]) ρ S = .ok false S := fun h => t_of (e_and2 (ka := false) (kb := false) (by
      have := ts sNum (by decide)
      rw [decide_eq_false h] at this
      exact this) (by simp))
    cases e with
    | num i =>
      refine st_ifF (S1 := S) (noM (by simp [namE])) ?_
      refine st_ifF (S1 := S) (noC (by simp [namE]) (by simp [namE])) ?_
      refine st_ifF (S1 := S) (t1 _ (by decide)) ?_
      refine st_ifF (S1 := S) t3 ?_
      refine st_ifF (S1 := S) (t_of (e_and2 (ka := true) (kb := false) (ts sNum (by decide)) (fun _ => by
        have e1 : denE Γ (.idx (.var 0) (.con (.int 1))) ρ S = .ok (.int i) S := by simp [ρ, encO]
        rw [d_isi, e1, bind_ok_]
        rfl))) ?_
      exact st_ret (v := encO (.num i)) (S1 := S) rfl (fin (by simp [encE, encO]))
    | word w =>
      refine st_ifF (S1 := S) (noM (by simp [namE])) ?_
      refine st_ifF (S1 := S) (noC (by simp [namE]) (by simp [namE])) ?_
      refine st_ifF (S1 := S) (t1 _ (by decide)) ?_
      refine st_ifF (S1 := S) t3 ?_
      refine st_ifF (S1 := S) (noN (by simp [namE])) ?_
      exact st_ret (v := encO (.word w)) (S1 := S) rfl (fin (by simp [encE, encO]))
    | call t ps =>
      simp only [dpE] at hd
      have h5 : denE Γ (.idx (.var 0) (.con (.int 2))) ρ S = .ok (.tup (ps.map encO)) S := by simp [ρ, encO, encOs_map]
      refine st_ifF (S1 := S) (noM (by simp [namE])) ?_
      refine st_ifT (S1 := S) (isC (.inl rfl) h5) ?_
      have q := parts ps (dpEs_le.mp (by omega)) hg.2.2 hg.2.1 h5
      exact st_ret (v := encE (.call t ps)) (S1 := S) (by
        rw [d_tup, es_cons n0 (es_cons (v := .str t) (S1 := S) (by simp [ρ, encO]) (es_cons q (d_nil _ _ _)))]
        simp [encE, encEs_map, namE]) (fin rfl)
    | make t ps =>
      simp only [dpE] at hd
      have h5 : denE Γ (.idx (.var 0) (.con (.int 2))) ρ S = .ok (.tup (ps.map encO)) S := by simp [ρ, encO, encOs_map]
      refine st_ifF (S1 := S) (noM (by simp [namE])) ?_
      refine st_ifT (S1 := S) (isC (.inr rfl) h5) ?_
      have q := parts ps (dpEs_le.mp (by omega)) hg.2.2 hg.2.1 h5
      exact st_ret (v := encE (.make t ps)) (S1 := S) (by
        rw [d_tup, es_cons n0 (es_cons (v := .str t) (S1 := S) (by simp [ρ, encO]) (es_cons q (d_nil _ _ _)))]
        simp [encE, encEs_map, namE]) (fin rfl)
    | field a w =>
      simp only [dpE] at hd
      refine st_ifF (S1 := S) (noM (by simp [namE])) ?_
      refine st_ifF (S1 := S) (noC (by simp [namE]) (by simp [namE])) ?_
      refine st_ifT (S1 := S) (t1 _ (by decide)) ?_
      have q := (T a (by omega) hg.1).call (ρ := ρ) (S := S) (e := .idx (.var 0) (.con (.int 1))) (g := 36) (by simp [ρ, encO]) rfl
      exact st_ret (v := encE (.field a w)) (S1 := S) (by
        rw [d_tup, es_cons (d_con _ _ _ _) (es_cons q (es_cons (v := .str w) (S1 := S) (by simp [ρ, encO]) (d_nil _ _ _)))]
        simp [encE]) (fin rfl)
    | deed c a b =>
      simp only [dpE] at hd
      refine st_ifF (S1 := S) (noM (by simp [namE])) ?_
      refine st_ifF (S1 := S) (noC (by simp [namE]) (by simp [namE])) ?_
      refine st_ifF (S1 := S) (t1 _ (by decide)) ?_
      refine st_ifT (S1 := S) t3 ?_
      have q1 := (T a (by omega) hg.2.1).call (ρ := ρ) (S := S) (e := .idx (.var 0) (.con (.int 2))) (g := 36) (by simp [ρ, encO]) rfl
      have q2 := (T b (by omega) hg.2.2).call (ρ := ρ) (S := S) (e := .idx (.var 0) (.con (.int 3))) (g := 36) (by simp [ρ, encO]) rfl
      have o : okI 4 = true := by decide
      exact st_ret (v := encE (.deed c a b)) (S1 := S) (by
        rw [d_tup, es_cons n0 (es_cons (v := .str [c]) (S1 := S) (by simp [ρ, encO]) (es_cons q1 (es_cons q2 (d_nil _ _ _))))]
        simp [encE, namE, o]) (fin rfl)
    | let_ w a b =>
      simp only [dpE] at hd
      refine st_ifF (S1 := S) (noM (by simp [namE])) ?_
      refine st_ifF (S1 := S) (noC (by simp [namE]) (by simp [namE])) ?_
      refine st_ifF (S1 := S) (t1 _ (by decide)) ?_
      refine st_ifT (S1 := S) t3 ?_
      have q1 := (T a (by omega) hg.2.1).call (ρ := ρ) (S := S) (e := .idx (.var 0) (.con (.int 2))) (g := 36) (by simp [ρ, encO]) rfl
      have q2 := (T b (by omega) hg.2.2).call (ρ := ρ) (S := S) (e := .idx (.var 0) (.con (.int 3))) (g := 36) (by simp [ρ, encO]) rfl
      have o : okI 4 = true := by decide
      exact st_ret (v := encE (.let_ w a b)) (S1 := S) (by
        rw [d_tup, es_cons n0 (es_cons (v := .str w) (S1 := S) (by simp [ρ, encO]) (es_cons q1 (es_cons q2 (d_nil _ _ _))))]
        simp [encE, namE, o]) (fin rfl)
    | mat a rs =>
      simp only [dpE] at hd
      have h5 : denE Γ (.idx (.var 0) (.con (.int 2))) ρ S = .ok (.tup (rs.map encQ)) S := by simp [ρ, encO, encQs_map]
      refine st_ifT (S1 := S) (t_of (e_and2 (ka := true) (kb := true) (ts sMatch (by decide)) (fun _ => tupT h5))) ?_
      refine st_asg (v := .ref S.length) (S1 := S ++ [.lst []]) (by simp) ?_
      have grs := gRs_iff.mp hg.2.2
      have drs := dpRs_le (m := m) (rs := rs) |>.mp (by omega)
      have kl := hg.2.1.2
      refine st_forA (α := Rl) (S0 := S) (xs := rs) (vs := [.tup (rs.map encQ)]) encQ (fun ρ' => ∃ o2 o3 o4 o5, ρ' = [some (encO (.mat a rs)), some (.ref S.length), o2, o3, o4, o5, none]) (fun r v => v = encR r) (by simp [ρ, encO, encQs_map]) (by simp) ⟨_, _, _, _, rfl⟩ (fun r hr acc ρ' hacc ⟨o2, o3, o4, o5, hρ⟩ => ?_) fun ρ' ys ⟨o2, o3, o4, o5, hρ⟩ hy => ?_
      · obtain ⟨ρ1, b1, b2⟩ := rules_turn (n := D + m + 10) (gs := 35) (ge := 36) (enR := encQ) (outR := encR) (enE := encO) (outE := encE) (enS := ob) (outS := encS) encO_ne (fun s b => by simp [encQ]) (fun s g b => by simp [encQ]) (fun s b => by simp [encR]) (fun s g b => by simp [encR]) r
          (fun s ρ3 T3 h h2 => by
            have gs : gSh s := by
              have := grs r hr
              rcases h with ⟨b, rfl⟩ | ⟨g, b, rfl⟩
              · exact this.1
              · exact this.1
            have q := told_ok 3 (D + m + 7) s gs.2.1 gs.1
            have e : D + m + 7 + 3 = D + m + 10 := by omega
            rw [e] at q
            exact q.call (by rw [d_var, h2]) rfl)
          (fun e i ρ3 T3 h1 gr h h2 => by
            have ge : gE e := by
              rcases h with ⟨s, rfl⟩ | ⟨s, b, rfl⟩ | ⟨s, g, rfl⟩
              · exact gr.2
              · exact gr.2.1
              · exact gr.2.2
            exact (T e (by have := drs r hr; omega) ge).call (by rw [d_var, h2]) rfl)
          (grs r hr) (S := S) (acc := acc) (by omega) (encO (.mat a rs)) o5 none ρ' ⟨o2, o3, o4, hρ⟩
        refine ⟨ρ1, b1, WS.mono b2 (fun ρ4 S4 ⟨⟨p2, p3, p4, p5, h⟩, h5⟩ => ⟨⟨p2, p3, p4, p5, h⟩, _, h5, rfl⟩) (fun _ _ z => z.elim) (fun _ _ z => z.elim) fun _ _ z => z.elim⟩
      · have hy2 := f2_map hy
        subst hy2 hρ
        let ρ5 : FF.Env := [some (encO (.mat a rs)), some (.ref S.length), o2, o3, o4, o5, none]
        have q1 := (T a (by omega) hg.1).call (ρ := ρ5) (S := S ++ [.lst (rs.map encR)]) (e := .idx (.var 0) (.con (.int 1))) (g := 36) (by simp [ρ5, encO]) rfl
        have q2 := v_tupR (Γ := Γ) (ρ := ρ5) (i := 1) rfl (s_at S (.lst (rs.map encR)))
        refine st_ret (v := encE (.mat a rs)) (S1 := S ++ [.lst (rs.map encR)]) (by
          rw [d_tup, es_cons (d_con _ _ _ _) (es_cons q1 (es_cons q2 (d_nil _ _ _)))]
          simp [encE, encRs_map]) (settle_vx (low_encE _ _))
end LK16
set_option Elab.async false
set_option linter.all false
set_option autoImplicit false
set_option maxRecDepth 100000
set_option maxHeartbeats 1000000
namespace LK16
open PySem FF L2
theorem whole_fns {n gx : Nat} {en out : Fn → PV} {enE outE : Ex → PV} (hen : ∀ f, en f = .tup [.str f.w, .tup (f.us.map PV.str), enE f.e]) (hout : ∀ f, out f = .tup [.str f.w, .tup (f.us.map PV.str), outE f.e]) {v0 : PV} {o1 : Option PV} {S : Store} {fs : List Fn} (hl : fs.length ≤ 2)
    (he : ∀ f ∈ fs, ∀ ρ : FF.Env, ρ[4]? = some (some (enE f.e)) → denE (Ge n) (.call .val gx [(.var 4)]) ρ S = .ok (outE f.e) S) (h1 : denE (Ge n) (.idx (.var 0) (.con (.int 1))) [some v0, none, none, none, none] S = .ok (.lst (fs.map en)) S) :
    denE (Ge n) (.comp false (.many [2, 3, 4]) .val [(.idx (.var 0) (.con (.int 1)))] [] (.tup [(.var 2), (.var 3), (.call .val gx [(.var 4)])])) [some v0, none, none, none, none] S = .ok (.lst (fs.map out)) S := by
  obtain ⟨vs, c3, c4⟩ := v_comp (Γ := Ge n) (ρ := [some v0, none, none, none, none]) (S := S) (t := .many [2, 3, 4]) (k := .val) (es := [(.idx (.var 0) (.con (.int 1)))]) (e := .tup [(.var 2), (.var 3), (.call .val gx [(.var 4)])]) (vs := [.lst (fs.map en)]) (g := []) (xs := fs) en (fun s v => v = out s) (es_cons h1 (d_nil _ _ _)) (by simp) rfl (by unfold cap; omega) (fun f hf =>
    ⟨[some v0, none, some (.str f.w), some (.tup (f.us.map PV.str)), some (enE f.e)], by rw [hen]; rfl, W.of (by
      rw [d_tup, es_cons (v := .str f.w) rfl (es_cons (v := .tup (f.us.map PV.str)) rfl (es_cons (he f hf _ rfl) (d_nil _ _ _)))]
      simp
      rfl) ⟨rfl, by rw [hout]⟩⟩)
  have c5 := f2_map c4
  rw [c5] at c3
  exact c3
theorem wreal_ok (n : Nat) (hn : 40 ≤ n) (p : Pg) (gp : gP p) : VV (n + 1) 26 (encP p) (encPo p) := by
  have T : ∀ e, dpE e ≤ 24 → gE e → VV n 23 (encE e) (encO e) := fun e h1 h2 => by
    have q := real_ok 24 (n - 34) e h1 h2
    have e : n - 34 + 24 + 10 = n := by omega
    rw [e] at q
    exact q
  refine VV_of fun S => callW fun_26 rfl ?_
  have c := whole_fns (n := n) (gx := 34) (en := encFn) (out := encFo) (enE := encE) (outE := encO) (fun f => rfl) (fun f => rfl) (v0 := encP p) (o1 := none) (S := S) (fs := p.fs) gp.fl (fun f hf ρ h => (T f.e (by have := (gp.fs f hf).d; omega) (gp.fs f hf).e).call (by rw [d_var, h]) rfl) (by simp [encP])
  refine st_asg c ?_
  let ρ4 : FF.Env := [some (encP p), some (.lst (p.fs.map encFo)), none, none, none]
  have q1 := (T p.m gp.d gp.m).call (ρ := ρ4) (S := S ++ [.lst (p.ds.map encD)]) (e := .idx (.var 0) (.con (.int 2))) (g := 34) (by simp [ρ4, encP]) rfl
  have q1' := (T p.m gp.d gp.m).call (ρ := ρ4) (S := S) (e := .idx (.var 0) (.con (.int 2))) (g := 34) (by simp [ρ4, encP]) rfl
  refine st_ret (v := encPo p) (S1 := S) ?_ (settle_v (low_encPo _ _))
  have e0 : denE (Ge n) (.blt false .list [(.idx (.var 0) (.con (.int 0)))]) ρ4 S = .ok (.lst (p.ds.map encD)) S := by simp [ρ4, encP]
  show denE (Ge n) _ ρ4 S = _
  rw [d_tup, es_cons e0 (es_cons (v := .lst (p.fs.map encFo)) rfl (es_cons q1' (d_nil _ _ _)))]
  simp [encPo]
theorem wplain_ok (n : Nat) (hn : 40 ≤ n) (p : Pg) (gp : gP p) : VV (n + 1) 27 (encPo p) (encP p) := by
  have T : ∀ e, dpE e ≤ 24 → gE e → VV n 25 (encO e) (encE e) := fun e h1 h2 => by
    have q := plainly_ok 24 (n - 34) e h1 h2
    have e : n - 34 + 24 + 10 = n := by omega
    rw [e] at q
    exact q
  refine VV_of fun S => callW fun_27 rfl ?_
  let Γ := Ge n
  let ρ : FF.Env := [some (encPo p), none, none, none, none]
  show WS (denSs whlL Γ _ ρ S) _
  have o1 : denE Γ (.var 0) ρ S = .ok (.tup [.lst (p.ds.map encD), .lst (p.fs.map encFo), encO p.m]) S := rfl
  have i0 : denE Γ (.idx (.var 0) (.con (.int 0))) ρ S = .ok (.lst (p.ds.map encD)) S := by simp [ρ, encPo]
  have i1 : denE Γ (.idx (.var 0) (.con (.int 1))) ρ S = .ok (.lst (p.fs.map encFo)) S := by simp [ρ, encPo]
  have isL : ∀ {e : E} {xs : List PV}, denE Γ e ρ S = .ok (.lst xs) S → denE Γ (.isi e [.bty "list"]) ρ S = .ok (.bl true) S := fun h => by
    rw [d_isi, h, bind_ok_]
    rfl
  refine st_ifF (S1 := S) (t_of (e_or2 (ka := false) (kb := false) (e_not (ka := true) (by rw [d_isi, o1, bind_ok_]; rfl)) (by
    rw [d_cmp, d_blt, es_cons o1 (d_nil _ _ _)]
    simp))) ?_
  refine st_ifF (S1 := S) (t_of (e_or2 (ka := false) (kb := false) (e_not (isL i0)) (e_not (isL i1)))) ?_
  have c := whole_fns (n := n) (gx := 36) (en := encFo) (out := encFn) (enE := encO) (outE := encE) (fun f => rfl) (fun f => rfl) (v0 := encPo p) (o1 := none) (S := S) (fs := p.fs) gp.fl (fun f hf ρ h => (T f.e (by have := (gp.fs f hf).d; omega) (gp.fs f hf).e).call (by rw [d_var, h]) rfl) i1
  refine st_asg c ?_
  let ρ4 : FF.Env := [some (encPo p), some (.lst (p.fs.map encFn)), none, none, none]
  have q1 := (T p.m gp.d gp.m).call (ρ := ρ4) (S := S) (e := .idx (.var 0) (.con (.int 2))) (g := 36) (by simp [ρ4, encPo]) rfl
  refine st_ret (v := encP p) (S1 := S) ?_ (settle_v (low_encP _ _))
  have e0 : denE Γ (.blt false .list [(.idx (.var 0) (.con (.int 0)))]) ρ4 S = .ok (.lst (p.ds.map encD)) S := by simp [ρ4, encPo]
  show denE Γ _ ρ4 S = _
  rw [d_tup, es_cons e0 (es_cons (v := .lst (p.fs.map encFn)) rfl (es_cons q1 (d_nil _ _ _)))]
  simp [encP]
end LK16
set_option Elab.async false
set_option linter.all false
set_option autoImplicit false
set_option maxRecDepth 100000
set_option maxHeartbeats 1000000
namespace LK16
open PySem FF L2
theorem fits_of {n : Nat} : ∀ {xs : List PV}, (∀ v ∈ xs, fit n v = true) → fits n xs = true
  | [], _ => by simp [fits]
  | v :: xs, h => by
    have h1 := h v List.mem_cons_self
    have h2 := fits_of fun w hw => h w (List.mem_cons_of_mem _ hw)
    simp [fits, h1, h2]
theorem fitS {n : Nat} {w : List Nat} (h : (w.all fun c => decide (c < 128)) = true) : fit n (.str w) = true := by
  cases n <;> simpa [fit] using h
theorem fitI (n : Nat) (i : Int) : fit n (.int i) = true := by cases n <;> simp [fit]
theorem fitT {n : Nat} {xs : List PV} (h : ∀ v ∈ xs, fit n v = true) : fit (n + 1) (.tup xs) = true := by simp only [fit]; exact fits_of h
theorem fitL {n : Nat} {xs : List PV} (h : ∀ v ∈ xs, fit n v = true) : fit (n + 1) (.lst xs) = true := by simp only [fit]; exact fits_of h
mutual
theorem fit_encE : ∀ (m : Nat) (e : Ex), tdE e ≤ m → gE e → fit m (encE e) = true
  | 0, e, h, _ => by cases e <;> simp only [tdE] at h <;> omega
  | m + 1, .num i, _, _ => by
    simp only [encE]
    exact fitT (by simp [fitI, fitS (n := m) (w := sNum) (by decide)])
  | m + 1, .word w, _, g => by
    simp only [encE]
    exact fitT (by simp [fitS (n := m) (sh_all g), fitS (n := m) (w := sWord) (by decide)])
  | m + 1, .make t ps, h, g => by
    simp only [tdE] at h
    match m, h with
    | 0, h => omega
    | m + 1, h =>
      have h2 := fits_encEs m ps (by omega) g.2.2
      have h3 : fit (m + 1) (.tup (encEs ps)) = true := by simp only [fit]; exact h2
      simp only [encE]
      exact fitT (by simp [fitS (n := m + 1) (sh_all g.1), fitS (n := m + 1) (w := sMake) (by decide), h3])
  | m + 1, .call t ps, h, g => by
    simp only [tdE] at h
    match m, h with
    | 0, h => omega
    | m + 1, h =>
      have h2 := fits_encEs m ps (by omega) g.2.2
      have h3 : fit (m + 1) (.tup (encEs ps)) = true := by simp only [fit]; exact h2
      simp only [encE]
      exact fitT (by simp [fitS (n := m + 1) (sh_all g.1), fitS (n := m + 1) (w := sCall) (by decide), h3])
  | m + 1, .field e w, h, g => by
    simp only [tdE] at h
    have h2 := fit_encE m e (by omega) g.1
    simp only [encE]
    exact fitT (by simp [fitS (n := m) (sh_all g.2), fitS (n := m) (w := sField) (by decide), h2])
  | m + 1, .deed c a b, h, g => by
    simp only [tdE] at h
    have h1 := fit_encE m a (by omega) g.2.1
    have h2 := fit_encE m b (by omega) g.2.2
    have hc : ([c].all fun c => decide (c < 128)) = true := by simp [g.1]
    simp only [encE]
    exact fitT (by simp [fitS (n := m) hc, fitS (n := m) (w := sDeed) (by decide), h1, h2])
  | m + 1, .let_ w a b, h, g => by
    simp only [tdE] at h
    have h1 := fit_encE m a (by omega) g.2.1
    have h2 := fit_encE m b (by omega) g.2.2
    simp only [encE]
    exact fitT (by simp [fitS (n := m) (sh_all g.1), fitS (n := m) (w := sLet) (by decide), h1, h2])
  | m + 1, .mat e rs, h, g => by
    simp only [tdE] at h
    have h1 := fit_encE m e (by omega) g.1
    match m, h, h1 with
    | 0, h, _ => omega
    | 1, h, _ => omega
    | m + 2, h, h1 =>
      have h2 := fits_encRs m rs (by omega) g.2.2
      have h3 : fit (m + 2) (.tup (encRs rs)) = true := by simp only [fit]; exact h2
      simp only [encE]
      exact fitT (by simp [fitS (n := m + 2) (w := sMatch) (by decide), h1, h3])
theorem fits_encEs : ∀ (m : Nat) (es : List Ex), tdEs es ≤ m → gEs es → fits m (encEs es) = true
  | _, [], _, _ => by simp [encEs, fits]
  | m, e :: es, h, g => by
    simp only [tdEs] at h
    have h1 := fit_encE m e (by omega) g.1
    have h2 := fits_encEs m es (by omega) g.2
    simp [encEs, fits, h1, h2]
theorem fits_encRs : ∀ (m : Nat) (rs : List Rl), tdRs rs ≤ m → gRs rs → fits (m + 1) (encRs rs) = true
  | _, [], _, _ => by simp [encRs, fits]
  | m, r :: rs, h, g => by
    simp only [tdRs] at h
    have h1 := fit_encR m r (by omega) g.1
    have h2 := fits_encRs m rs (by omega) g.2
    simp [encRs, fits, h1, h2]
theorem fit_encR : ∀ (m : Nat) (r : Rl), tdR r ≤ m → gR r → fit (m + 1) (encR r) = true
  | m, .plain s b, h, g => by
    simp only [tdR] at h
    have h1 := fit_up (k := m) (by omega) (fit_encS 3 s g.1.2.1 g.1.1)
    have h2 := fit_encE m b (by omega) g.2
    have h3 : fit m .non = true := by cases m <;> simp [fit]
    simp only [encR]
    exact fitT (by simp [h1, h2, h3])
  | m, .guard s x b, h, g => by
    simp only [tdR] at h
    have h1 := fit_up (k := m) (by omega) (fit_encS 3 s g.1.2.1 g.1.1)
    have h2 := fit_encE m b (by omega) g.2.2
    have h3 := fit_encE m x (by omega) g.2.1
    simp only [encR]
    exact fitT (by simp [h1, h2, h3])
end
mutual
theorem fit_enc : ∀ (m : Nat) (k : Kd), dep k ≤ m → gk k → fit (2 * m) (enc k) = true
  | 0, k, h, _ => by cases k <;> simp only [dep] at h <;> omega
  | m + 1, .num, _, _ => by
    show fit (2 * m + 1 + 1) _ = true
    simp only [enc]
    exact fitT (by simp [fitS (n := 2 * m + 1) (w := sNum) (by decide)])
  | m + 1, .free n, _, _ => by
    show fit (2 * m + 1 + 1) _ = true
    simp only [enc]
    exact fitT (by simp [fitS (n := 2 * m + 1) (w := sFree) (by decide), fitI])
  | m + 1, .made w ks, h, g => by
    simp only [dep] at h
    have h2 := fits_encs m ks (deps_le.mp (by omega)) g.2.2
    show fit (2 * m + 1 + 1) _ = true
    have h3 : fit (2 * m + 1) (.tup (encs ks)) = true := by simp only [fit]; exact h2
    simp only [enc]
    exact fitT (by simp [fitS (n := 2 * m + 1) (w := sMade) (by decide), fitS (n := 2 * m + 1) (sh_all g.1), h3])
theorem fits_encs : ∀ (m : Nat) (ss : List Kd), (∀ s ∈ ss, dep s ≤ m) → gks ss → fits (2 * m) (encs ss) = true
  | _, [], _, _ => by simp [encs, fits]
  | m, s :: ss, h, g => by
    have h1 := fit_enc m s (h s List.mem_cons_self) g.1
    have h2 := fits_encs m ss (fun x hx => h x (List.mem_cons_of_mem _ hx)) g.2
    simp [encs, fits, h1, h2]
end
theorem fit_encD (d : Dc) (g : gD d) : fit 10 (encD d) = true := by
  cases d with
  | record w many t fs =>
    obtain ⟨g1, g2, g3, g4, g5⟩ := g
    have h : fit 9 (.tup (fs.map encF)) = true := fitT fun v hv => by
      obtain ⟨p, hp, rfl⟩ := List.mem_map.mp hv
      have := fit_up (k := 7) (by omega) (fit_enc 3 p.2 (g5 p hp).2.2 (g5 p hp).2.1)
      exact fitT (by simp [fitS (n := 7) (sh_all (g5 p hp).1), this])
    exact fitT (by simp [fitS (n := 9) (sh_all g1), fitS (n := 9) (sh_all g3), fitS (n := 9) (w := sRecord) (by decide), fitI, h])
  | choice w many ts =>
    obtain ⟨g1, g2, g4, g5⟩ := g
    have h : fit 9 (.tup (ts.map encG)) = true := fitT fun v hv => by
      obtain ⟨p, hp, rfl⟩ := List.mem_map.mp hv
      have : fit 7 (.tup (p.2.map enc)) = true := fitT fun v hv => by
        obtain ⟨k, hk, rfl⟩ := List.mem_map.mp hv
        have gk := (g5 p hp).2.2 k hk
        exact fit_enc 3 k gk.2 gk.1
      exact fitT (by simp [fitS (n := 7) (sh_all (g5 p hp).1), this])
    exact fitT (by simp [fitS (n := 9) (sh_all g1), fitS (n := 9) (w := sChoice) (by decide), fitI, h])
theorem fit_encFn (f : Fn) (g : gFn f) : fit 17 (encFn f) = true := by
  have h : fit 16 (.tup (f.us.map PV.str)) = true := fitT fun v hv => by
    obtain ⟨k, hk, rfl⟩ := List.mem_map.mp hv
    exact fitS (sh_all (g.us k hk))
  have h2 := fit_encE 16 f.e (by have := g.t; omega) g.e
  exact fitT (by simp [fitS (n := 16) (sh_all g.w), h, h2])
theorem fit_encP (p : Pg) (g : gP p) : fit 57 (encP p) = true := by
  have h1 : fit 56 (.lst (p.ds.map encD)) = true := fitL fun v hv => by
    obtain ⟨k, hk, rfl⟩ := List.mem_map.mp hv
    exact fit_up (by omega) (fit_encD k (g.ds k hk))
  have h2 : fit 56 (.lst (p.fs.map encFn)) = true := fitL fun v hv => by
    obtain ⟨k, hk, rfl⟩ := List.mem_map.mp hv
    exact fit_up (by omega) (fit_encFn k (g.fs k hk))
  have h3 := fit_encE 56 p.m g.t g.m
  exact fitT (by simp [h1, h2, h3])
theorem aheadT_lt {kw w : List Nat} {many : Int} (h : ∀ c ∈ kw, c < 128) (hw : sh w) (hm : 0 ≤ many ∧ many < 3) : ∀ c ∈ aheadT kw w many, c < 128 :=
  lt_app (lt_app (lt_app (lt_app h (by decide)) hw.2) (parT_ok hm).2) (by decide)
theorem dT_lt {d : Dc} (g : gD d) : ∀ c ∈ dT d, c < 128 := by
  cases d with
  | record w many t fs =>
    obtain ⟨g1, g2, g3, g4, g5⟩ := g
    have l := (listedT_ok (ts := fs.map fT) fun x hx => by
      obtain ⟨p, hp, rfl⟩ := List.mem_map.mp hx
      exact (fT_ok (g5 p hp)).2).2
    exact lt_app (lt_app (aheadT_lt (by decide) g1 g2) g3.2) l
  | choice w many ts =>
    obtain ⟨g1, g2, g4, g5⟩ := g
    have l := joinL_lt (y := [32, 124, 32]) (by decide) (xs := ts.map gT) fun x hx => by
      obtain ⟨p, hp, rfl⟩ := List.mem_map.mp hx
      exact (gT_ok (g5 p hp)).2.2
    exact lt_app (aheadT_lt (by decide) g1 g2) l
theorem fnT_lt {f : Fn} (g : gFn f) : ∀ c ∈ fnT f, c < 128 :=
  lt_app (lt_app (lt_app (lt_app (lt_app (by decide) g.w.2) (by decide)) (joinL_lt (by decide) fun x hx => (g.us x hx).2)) (by decide)) (eT_ok f.e g.e).2
theorem pT_lt {p : Pg} (g : gP p) : ∀ c ∈ pT p, c < 128 := joinL_lt (by decide) fun x hx => by
  unfold linesT at hx
  rcases List.mem_append.mp hx with h | h
  · rcases List.mem_append.mp h with h | h
    · obtain ⟨d, hd, rfl⟩ := List.mem_map.mp h
      exact dT_lt (g.ds d hd)
    · obtain ⟨f, hf, rfl⟩ := List.mem_map.mp h
      exact fnT_lt (g.fs f hf)
  · rw [List.mem_singleton.mp h]
    exact lt_app (by decide) (eT_ok p.m g.m).2
end LK16
set_option Elab.async false
set_option linter.all false
set_option autoImplicit false
set_option maxRecDepth 100000
set_option maxHeartbeats 1000000
namespace LK16
open PySem FF L2
abbrev depth : Nat := 140
theorem law_true : ∀ ns : List Int, ns.length ≤ 63 → ∃ S', callD pd.P depth lawF [.lst (ns.map PV.int)] [] = .ok (.bl true) S' := by
  intro ns hl
  suffices h : ∀ S : Store, lows S.length S = true → W (callL whlL P 140 38 [.lst (ns.map PV.int)] S) fun v _ => v = .bl true by
    obtain ⟨v, T, e, rfl⟩ := h [] (by simp)
    exact ⟨T, e⟩
  intro S hlow
  refine callW fun_38 rfl ?_
  let Γ := Ge 139
  let sc : Option PV := some (.lst (ns.map PV.int))
  let S1 : Store := S ++ [at_ 0 0]
  have hb : Bs S1 S.length := ⟨by simp [S1], lows_tail (lows_mono (by simp [S1]) _ hlow) (by simp [S1, at_])⟩
  refine st_asg (v := .ref S.length) (S1 := S1) (by simp [S1, at_]) ?_
  let ρ2 : FF.Env := [sc, some (.ref S.length), none, none, none]
  show WS (denSs whlL Γ _ ρ2 S1) _
  have eX : S1 = X S1 S.length 0 0 := (X_same hb (by simp [S1])).symm
  obtain ⟨v, k1, b1, e1, a1, a2, p, rfl, gp, p5, p18, pn⟩ := gcall (D := 139) (program_ok 122 ns hl 30) hb (k := 0) (b := 0) (ρ := ρ2) (es := [(.var 0), (.var 1), (.con (.int 30))]) (S0 := X S1 S.length 0 0) (by decide) (es_cons rfl (es_cons rfl (es_cons rfl (d_nil _ _ _)))) (show (Ge 139).glob 32 = some (.fn 21) from rfl)
  rw [← eX] at e1
  have hk1 : k1 + 2 ≤ Bk := by
    have : cP + 2 ≤ Bk := by decide
    omega
  obtain ⟨v, k2, b2, e2, a3, a4, q, rfl, gq⟩ := gcall (D := 139) (long_ok 136 ns hl p gp p5 p18 pn) hb (k := k1) (b := b1) (ρ := ρ2) (es := [(.var 0), (.var 1), (.call .chg 32 [(.var 0), (.var 1), (.con (.int 30))])]) (S0 := S1) hk1 (es_cons rfl (es_cons rfl (es_cons e1 (d_nil _ _ _)))) (show (Ge 139).glob 48 = some (.fn 37) from rfl)
  refine st_asg e2 ?_
  let T := X S1 S.length k2 b2
  let ρ3 : FF.Env := [sc, some (.ref S.length), some (encP q), none, none]
  show WS (denSs whlL Γ _ ρ3 T) _
  refine st_asg ((wreal_ok 138 (by omega) q gq).call (ρ := ρ3) (S := T) (e := .var 2) rfl rfl) ?_
  let ρ4 : FF.Env := [sc, some (.ref S.length), some (encP q), some (encPo q), none]
  show WS (denSs whlL Γ _ ρ4 T) _
  have W1 := pwritten_ok 138 (by omega) q gq
  refine st_asg (W1.call (ρ := ρ4) (S := T) (e := .var 3) rfl rfl) ?_
  let ρ5 : FF.Env := [sc, some (.ref S.length), some (encP q), some (encPo q), some (.str (pT q))]
  show WS (denSs whlL Γ _ ρ5 T) _
  have lt := pT_lt gq
  have all : ((pT q).all fun c => decide (c < 128)) = true := List.all_eq_true.mpr fun c hc => decide_eq_true (lt c hc)
  have same : FF.eqV (.str (pT q)) (.str (pT q)) = some true := by
    rw [eqL all all]
    simp
  have v4 : denE Γ (.var 4) ρ5 T = .ok (.str (pT q)) T := rfl
  have t1 := c_ne (k := true) v4 ((lwhole_ok 138 (by omega) q gq).call (ρ := ρ5) (S := T) (e := .var 2) (g := 47) rfl rfl) same
  refine st_ifF (S1 := T) (t_of (e_or2 (ka := false) (kb := false) (e_not (ka := true) (by rw [d_isi, v4, bind_ok_]; rfl)) t1)) ?_
  have sameP : FF.eqV (encP q) (encP q) = some true := eqV_same (n := 57) (by omega) (fit_encP q gq)
  have t2 := c_eq (k := true) ((wplain_ok 138 (by omega) q gq).call (ρ := ρ5) (S := T) (e := .var 3) (g := 38) rfl rfl) (b := .var 2) (y := encP q) rfl sameP
  have t3 := c_eq (k := true) (W1.call (ρ := ρ5) (S := T) (e := .var 3) (g := 22) rfl rfl) (b := .var 4) (y := .str (pT q)) rfl same
  exact st_ret (v := .bl true) (S1 := T) (e_and2 t2 (fun _ => t3)) rfl
end LK16
set_option Elab.async false
set_option linter.all false
set_option maxRecDepth 100000
set_option maxHeartbeats 0
namespace LK16
open PySem FF L2
theorem chk_ok : pd.chk = true := by decide +kernel
abbrev R : PySem.W.OpenRow := PySem.W.OpenLaw.row PySem.Challenge.rw_fitfirst_k16_written
abbrev hk : PySem.W.Hook := hookX 4 pd.xk pd.fn
def obHd (s : PySem.W.SharedT) : He.AlD := obsXG 4 pd.xk pd.fn (HandSHeadRun.getT s)
theorem ob_eq (s : PySem.W.SharedT) : obHd s = hk.obs s.abs := obsXG_eq (HandSHeadRun.getT_eq s)
def looseL0 : List Str := ["_wall", "MOST", "MOST_WAYS", "number_text", "Shape", "Anything", "Word", "Span", "Made", "Either", "Also", "PARAMS", "INNER", "listed", "kind_text", "tagged_text", "declaration_text", "inner_text", "rule_text", "match_text", "expression_text", "function_text", "written", "_law_cell", "_law_draw", "_law_pool", "_law_number", "_law_kind", "_law_declaration", "_law_shape"]
def looseL1 : List Str := ["_law_rules", "_law_expression", "_law_program", "_law_built", "_law_real", "_law_told", "_law_plainly", "_law_whole_real", "_law_whole_plainly", "_law_listed", "_law_number_text", "_law_kind_text", "_law_span_text", "_law_shape_text", "_law_inner", "_law_text", "_law_declared_text", "_law_whole_text", "_law_long"]
theorem run (w : World) : HandSHeadRun.RunEq R (PySem.W.view R.prog [52]) hk obHd 6000 (LK16.looseL0 ++ LK16.looseL1) w := by
  intro os
  kernel_rfl
end LK16
open PySem PySem.W PySem.Calls PyProof.Rows
theorem PySem.Challenge.cw_fitfirst_k16_written_holds : PySem.Challenge.rw_fitfirst_k16_written.Holds := by
  w_on; o_law
  refine HandSHeadRun.head_any (r := OpenLaw.row PySem.Challenge.rw_fitfirst_k16_written) (q := view (OpenLaw.row PySem.Challenge.rw_fitfirst_k16_written).prog [52]) (H := LK16.hk) (ob := LK16.obHd) (M := 6000) (loose := LK16.looseL0 ++ LK16.looseL1) (d := HandSHeadRun.topDef (OpenLaw.row PySem.Challenge.rw_fitfirst_k16_written).prog 52) (kwd := []) LK16.ob_eq
    (by kernel_rfl) (fun s => by kernel_rfl) LK16.run (by kernel_rfl) (by kernel_rfl) (by kernel_rfl) (by rfl) (by first | assumption | decide +kernel) (by decide +kernel) ⟨rfl, rfl, rfl, rfl, rfl, by decide +kernel⟩ ?hw ?hc
  case hw => w_witness2
  case hc =>
    refine L2.walk_ofE (l := PySem.Challenge.rw_fitfirst_k16_written) (n := 63) (k := LK16.depth) (x := "_law_script") (CX := L2.CX0) rfl (by decide) (by kernel_rfl) ⟨rfl, by decide, by decide⟩ ?F (fun _ _ _ _ z => z)
    intro w mg fa h Y G hmg0
    obtain ⟨K, KX, c⟩ := Y
    have hmg : mg ("law" : PySem.Str) = some (.ref fa) := by
      have e : (HandSHeadRun.topDef (OpenLaw.row PySem.Challenge.rw_fitfirst_k16_written).prog 52).name = ("law" : PySem.Str) := by kernel_rfl
      rw [← e]
      exact hmg0
    obtain ⟨fd, sp, hb, hS, hF⟩ := FF.law_fn (D := LK16.pd) (f := LK16.lawF) (d := LK16.depth) (n := 63) (x := "_law_script") (law := "law") (g := 49) (Pr := (PySem.Challenge.rw_fitfirst_k16_written).prog) (w := w) LK16.chk_ok KX G c hmg rfl rfl rfl (by decide +kernel) rfl (by decide +kernel) LK16.law_true
    exact ⟨K, fd, sp, KX, hb, hS, hF⟩
