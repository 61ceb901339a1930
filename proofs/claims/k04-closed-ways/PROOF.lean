import PyProof.Rows.All
import HandS.ForMost
import HandS.ForExc
import HandS.TupMul
import HandS.Deep
import HandS.Wide
import HandS.TupAny
import HandS.DictComp
import HandS.TupLe
import HandS.Text
import HandS.Dict
import HandS.IsInst
import KE.DataAny
import HandS.Flow
import HandS.WordsDict
import OpenK.KMeth
import HandS.Iter
import HandS.Walk
import HandS.Zip
import KE.GoesEnum
import HandS.NoneIn
import HandS.Comp
import HandS.Style
import HandS.Exc
import HandS.Defaults
import HandS.HeadHook2
import KE.KStateDown
import HandS.Head0
import HandS.Head1
import HandS.Head2
import HandS.HeadEnd
import HandS.HeadHook1
import HandS.Words
import HandS.WordsExc
import HandS.Ends
import PySem.Challenge.RW_repeatnets_k04_closed_ways_looked_at
set_option Elab.async false
set_option linter.all false
set_option maxRecDepth 100000
set_option maxHeartbeats 0
section
/-! V0: values as trees, a heap of changing objects, the deep syntax and its evaluator. Core Lean alone. -/
namespace HV
abbrev Txt := List Nat
/-- a thing that does not change any more -/
inductive PV where
  | non
  | bl (b : Bool)
  | int (i : Int)
  | str (s : Txt)
  | lst (xs : List PV)
  | tup (xs : List PV)
  | dct (kvs : List (PV × PV))
  | obj (c : Nat) (fs : List (Nat × PV))
  | cls (c : Nat)
  | ty (n : Nat)
  | scr (ns : List Int)
deriving Inhabited
def PV.atom : PV → Bool
  | .non => true
  | .bl _ => true
  | .int _ => true
  | .str _ => true
  | .cls _ => true
  | .ty _ => true
  | _ => false
/-- a name's code: its signs as digits by 256 -/
def nmL : Nat → Nat → List Nat → List Nat
  | 0, _, acc => acc
  | k + 1, n, acc => if n = 0 then acc else nmL k (n / 256) (n % 256 :: acc)
/-! ### operators -/
def LIM : Nat := 16777216
def addV : PV → PV → Option PV
  | .int i, .int j => some (.int (i + j))
  | .str s, .str t => if s.length + t.length ≤ LIM then some (.str (s ++ t)) else none
  | .lst xs, .lst ys => if xs.length + ys.length ≤ LIM then some (.lst (xs ++ ys)) else none
  | .tup xs, .tup ys => if xs.length + ys.length ≤ LIM then some (.tup (xs ++ ys)) else none
  | _, _ => none
def subV : PV → PV → Option PV
  | .int i, .int j => some (.int (i - j))
  | _, _ => none
def mulV : PV → PV → Option PV
  | .int i, .int j => if i.natAbs.log2 + j.natAbs.log2 < 1000000 then some (.int (i * j)) else none
  | .lst xs, .int k => if -9223372036854775808 ≤ k ∧ k < 9223372036854775808 ∧ xs.length * k.toNat ≤ LIM then some (.lst (List.replicate k.toNat xs).flatten) else none
  | .tup xs, .int k => if xs ≠ [] ∧ 0 ≤ k ∧ k ≤ 1000 ∧ xs.length ≤ 1000 then some (.tup (List.replicate k.toNat xs).flatten) else none
  | _, _ => none
def fdivV : PV → PV → Option PV
  | .int i, .int j => if 0 < j ∧ j.natAbs.log2 < 9000 then some (.int (i / j)) else none
  | _, _ => none
def modV : PV → PV → Option PV
  | .int i, .int j => if 0 < j then some (.int (i % j)) else none
  | _, _ => none
def powV : PV → PV → Option PV
  | .int i, .int j => if 0 ≤ j ∧ j ≤ 1000000 ∧ i.natAbs < 18446744073709551616 then some (.int (i ^ j.toNat)) else none
  | _, _ => none
def binV : Nat → PV → PV → Option PV
  | 0 => addV
  | 1 => subV
  | 2 => mulV
  | 3 => fdivV
  | 4 => modV
  | 5 => powV
  | _ => fun _ _ => none
mutual
/-- equal as data -/
def eqvP : PV → PV → Bool
  | .non, .non => true
  | .bl a, .bl b => a == b
  | .bl a, .int j => (if a then 1 else 0) == j
  | .int i, .bl b => i == (if b then 1 else 0)
  | .int i, .int j => i == j
  | .str s, .str t => s == t
  | .lst xs, .lst ys => eqvPs xs ys
  | .tup xs, .tup ys => eqvPs xs ys
  | _, _ => false
def eqvPs : List PV → List PV → Bool
  | [], [] => true
  | x :: xs, y :: ys => eqvP x y && eqvPs xs ys
  | _, _ => false
end
mutual
/-- plain data, so many deep at most -/
def dataP : Nat → PV → Bool
  | _, .non => true
  | _, .bl _ => true
  | _, .int _ => true
  | _, .str _ => true
  | 0, _ => false
  | n + 1, .lst xs => dataPs n xs
  | n + 1, .tup xs => dataPs n xs
  | _ + 1, _ => false
def dataPs : Nat → List PV → Bool
  | _, [] => true
  | n, x :: xs => dataP n x && dataPs n xs
end
def eqD (a b : PV) : Option Bool := if dataP 60 a && dataP 60 b then some (eqvP a b) else none
def blO (o : Option Bool) : Option PV := match o with
  | some b => some (.bl b)
  | none => none
def ltI (p : Int → Int → Bool) : PV → PV → Option PV
  | .int i, .int j => some (.bl (p i j))
  | _, _ => none
def intsV : List PV → Option (List Int)
  | [] => some []
  | .int i :: r => (match intsV r with | some is => some (i :: is) | none => none)
  | _ :: _ => none
def lexI : List Int → List Int → Bool
  | _, [] => false
  | [], _ :: _ => true
  | a :: l, b :: m => if a = b then lexI l m else decide (a < b)
def ltV : PV → PV → Option PV
  | .int i, .int j => some (.bl (decide (i < j)))
  | .tup xs, .tup ys => (match intsV xs, intsV ys with
    | some a, some b => some (.bl (lexI a b))
    | _, _ => none)
  | _, _ => none
def dGet : List (PV × PV) → PV → Option PV
  | [], _ => none
  | (k, v) :: r, x => if eqvP k x then some v else dGet r x
def inD : PV → PV → Option Bool
  | x, .lst ys => if dataP 60 x && dataPs 60 ys then some (ys.any fun y => eqvP y x) else none
  | x, .tup ys => if dataP 0 x && dataPs 0 ys then some (ys.any fun y => eqvP y x) else none
  | .str [c], .str t => some (t.contains c)
  | .int i, .dct kvs => some (dGet kvs (.int i)).isSome
  | .str s, .dct kvs => some (dGet kvs (.str s)).isSome
  | _, _ => none
def isV : PV → PV → Option Bool
  | .non, .non => some true
  | _, .non => some false
  | .bl a, .bl b => some (a == b)
  | _, _ => none
/-- the same flat thing -/
def sameP : PV → PV → Bool
  | .non, .non => true
  | .bl a, .bl b => a == b
  | .int i, .int j => i == j
  | .str s, .str t => s == t
  | _, _ => false
/-- dicts that hold the same flat things -/
def eqDD : PV → PV → Option Bool
  | .dct ks, .dct ls => if ks.length = ls.length ∧ (ks.all fun kv => match dGet ls kv.1 with | some w => sameP kv.2 w | none => false) = true then some true else none
  | _, _ => none
def eqE (a b : PV) : Option Bool := match eqD a b with
  | some t => some t
  | none => eqDD a b
def cmpV : Nat → PV → PV → Option PV
  | 0 => fun a b => blO (eqE a b)
  | 1 => fun a b => blO ((eqE a b).map not)
  | 2 => ltV
  | 3 => ltI fun i j => decide (i ≤ j)
  | 4 => ltI fun i j => decide (j < i)
  | 5 => ltI fun i j => decide (j ≤ i)
  | 6 => fun a b => blO (inD a b)
  | 7 => fun a b => blO ((inD a b).map not)
  | 8 => fun a b => blO (isV a b)
  | 9 => fun a b => blO ((isV a b).map not)
  | _ => fun _ _ => none
def lenV : PV → Option PV
  | .lst xs => some (.int xs.length)
  | .tup xs => some (.int xs.length)
  | .str s => some (.int s.length)
  | .dct kvs => some (.int kvs.length)
  | .scr ns => some (.int ns.length)
  | _ => none
def ixP (n : Nat) (i : Int) : Option Nat := if 0 ≤ i then (if i < n then some i.toNat else none) else if -(n : Int) ≤ i then some (i + n).toNat else none
def atP {α : Type} (xs : List α) (i : Int) : Option α := (ixP xs.length i).bind fun j => xs[j]?
def idxV : PV → PV → Option PV
  | .lst xs, .int i => atP xs i
  | .tup xs, .int i => atP xs i
  | .str s, .int i => (atP s i).map fun c => .str [c]
  | .dct kvs, .int i => dGet kvs (.int i)
  | .dct kvs, .str s => dGet kvs (.str s)
  | _, _ => none
def sIxP (n d : Nat) : Option Int → Nat
  | none => d
  | some v => if v < 0 then (v + (n : Int)).toNat else min v.toNat n
def cutP {α : Type} (xs : List α) (lo hi : Option Int) : List α := (xs.drop (sIxP xs.length 0 lo)).take (sIxP xs.length xs.length hi - sIxP xs.length 0 lo)
def slcV (a : PV) (lo hi : Option Int) : Option PV := match a with
  | .lst xs => some (.lst (cutP xs lo hi))
  | .tup xs => some (.tup (cutP xs lo hi))
  | .str s => some (.str (cutP s lo hi))
  | _ => none
def negV : PV → Option PV
  | .int i => some (.int (-i))
  | _ => none
def truthV : PV → Option Bool
  | .bl b => some b
  | .non => some false
  | .int i => some (i != 0)
  | .lst xs => some (!xs.isEmpty)
  | .tup xs => some (!xs.isEmpty)
  | .str xs => some (xs.length != 0)
  | _ => none

def attV (isF : Nat → Nat → Bool) (f : Nat) : PV → Option PV
  | .obj c fs => if isF c f = true then fs.lookup f else none
  | _ => none
/-- the kinds of things -/
inductive Kd where
  | ty (n : Nat)
  | cls (c : Nat)
deriving DecidableEq
/-- types: 0 int 1 bool 2 str 3 list 4 tuple 5 dict 6 NoneType -/
def kdV : PV → Option Kd
  | .non => some (.ty 6)
  | .bl _ => some (.ty 1)
  | .int _ => some (.ty 0)
  | .str _ => some (.ty 2)
  | .lst _ => some (.ty 3)
  | .tup _ => some (.ty 4)
  | .dct _ => some (.ty 5)
  | .obj c _ => some (.cls c)
  | _ => none
def kdC : PV → Option Kd
  | .ty n => if n < 6 then some (.ty n) else none
  | .cls c => some (.cls c)
  | _ => none
def kdIs : Kd → Kd → Bool
  | .ty 1, .ty 0 => true
  | a, b => decide (a = b)
def kdAny (k : Kd) : List PV → Option Bool
  | [] => some false
  | c :: r => match kdC c, kdAny k r with
    | some q, some b => some (kdIs k q || b)
    | _, _ => none
def isiV (x c : PV) : Option PV := match kdV x with
  | none => none
  | some k => match c with
    | .tup cs => blO (kdAny k cs)
    | _ => match kdC c with
      | some q => some (.bl (kdIs k q))
      | none => none
def intV : PV → Option PV
  | .int i => some (.int i)
  | .bl b => some (.int (if b then 1 else 0))
  | _ => none
def listV : PV → Option PV
  | .lst xs => some (.lst xs)
  | .tup xs => some (.lst xs)
  | .scr ns => some (.lst (ns.map .int))
  | _ => none
def tupleV : PV → Option PV
  | .lst xs => some (.tup xs)
  | .tup xs => some (.tup xs)
  | _ => none
def trA : PV → Bool
  | .bl b => b
  | .int i => i != 0
  | .str s => s.length != 0
  | _ => false
def allV : PV → Option PV
  | .lst xs => if dataPs 0 xs = true then some (.bl (xs.all trA)) else none
  | .tup xs => if dataPs 0 xs = true then some (.bl (xs.all trA)) else none
  | _ => none
def anyV : PV → Option PV
  | .lst xs => if dataPs 0 xs = true then some (.bl (xs.any trA)) else none
  | .tup xs => if dataPs 0 xs = true then some (.bl (xs.any trA)) else none
  | _ => none
def iterV : PV → Option (List PV)
  | .lst ds => some ds
  | .tup ds => some ds
  | .str s => some (s.map fun c => .str [c])
  | .scr ns => some (ns.map .int)
  | _ => none
def seqP : PV → Option (List PV)
  | .lst ds => some ds
  | .tup ds => some ds
  | _ => none
def rngN (d : PV) : Option (List PV) := match d with
  | .int j => if -4611686018427387904 ≤ j ∧ j ≤ 16777216 then some ((List.range j.toNat).map fun (i : Nat) => .int (0 + (i : Int))) else none
  | _ => none
def rngN2 (c d : PV) : Option (List PV) := match c, d with
  | .int i, .int j => if -4611686018427387904 ≤ i ∧ i < 4611686018427387904 ∧ -4611686018427387904 ≤ j ∧ j < 4611686018427387904 ∧ j - i ≤ 16777216 then some ((List.range (j - i).toNat).map fun (k : Nat) => .int (i + (k : Int))) else none
  | _, _ => none
def enumP (ds : List PV) : List PV := ds.zipIdx.map fun x => .tup [.int (x.2 : Nat), x.1]
def zipP (ds es : List PV) : List PV := (ds.zip es).map fun x => .tup [x.1, x.2]
def strsV : List PV → Option (List Txt)
  | [] => some []
  | .str s :: r => (match strsV r with | some ss => some (s :: ss) | none => none)
  | _ :: _ => none
def joinT (a : Txt) : List Txt → Txt
  | [] => []
  | [s] => s
  | s :: r => s ++ (a ++ joinT a r)
def joinV : PV → PV → Option PV
  | .str a, .lst xs => (match strsV xs with
    | some ss => if (ss.map List.length).sum + ss.length * a.length ≤ 16777216 then some (.str (joinT a ss)) else none
    | none => none)
  | _, _ => none
def absV : PV → Option PV
  | .int i => some (.int (if i < 0 then -i else i))
  | _ => none
def sumV : PV → Option PV
  | .lst xs => (match intsV xs with | some is => some (.int is.sum) | none => none)
  | _ => none
def max2V : PV → PV → Option PV
  | .int i, .int j => some (.int (if j > i then j else i))
  | _, _ => none
def min2V : PV → PV → Option PV
  | .int i, .int j => some (.int (if j < i then j else i))
  | _, _ => none
def countV : PV → PV → Option PV
  | .lst xs, y => if dataP 60 y && dataPs 60 xs then some (.int (xs.countP fun x => eqvP x y)) else none
  | _, _ => none
def revV : PV → Option PV
  | .lst xs => some (.lst xs.reverse)
  | _ => none
def pairsV : List PV → Option (List (PV × PV))
  | [] => some []
  | .tup [k, v] :: r => (match pairsV r with | some ps => some ((k, v) :: ps) | none => none)
  | _ :: _ => none
def isKey : PV → Bool
  | .int _ => true
  | .str _ => true
  | _ => false
def putD {α : Type} (kvs : List (PV × α)) (k : PV) (v : α) : List (PV × α) :=
  if (kvs.any fun kv => eqvP kv.1 k) = true then kvs.map (fun kv => if eqvP kv.1 k = true then (kv.1, v) else kv) else kvs ++ [(k, v)]
def mergeD {α : Type} : List (PV × α) → List (PV × α) → List (PV × α)
  | d, [] => d
  | d, (k, v) :: r => mergeD (putD d k v) r
def dictV : PV → Option PV
  | .lst xs => (match pairsV xs with
    | some ps => if ps.all (fun p => isKey p.1) = true then some (.dct (mergeD [] ps)) else none
    | none => none)
  | .dct kvs => some (.dct kvs)
  | _ => none
/-! ### values, changing objects, the heap -/
/-- a value: a thing that stays as it is, or a changing object by its number -/
inductive Vl where
  | fz (d : PV)
  | rf (n : Nat)
deriving Inhabited
inductive MO where
  | lst (xs : List Vl)
  | dct (kvs : List (PV × Vl))
  | ins (c : Nat) (fs : List (Nat × Vl))
deriving Inhabited
abbrev Hm := List (Option MO)
abbrev Env := List (Option Vl)
inductive R (α : Type) where
  | ok (a : α) (h : Hm)
  | exc (c : Nat) (ps : List PV) (h : Hm)
  | stuck
def R.bind {α β : Type} (o : R α) (f : α → Hm → R β) : R β := match o with
  | .ok a h => f a h
  | .exc c p h => .exc c p h
  | .stuck => .stuck
def lift {α : Type} (o : Option α) (h : Hm) : R α := match o with
  | some a => .ok a h
  | none => .stuck
def liftF (o : Option PV) (h : Hm) : R Vl := match o with
  | some a => .ok (.fz a) h
  | none => .stuck
/-! ### freezing -/
def mapH {α β : Type} (f : α → Hm → Option (β × Hm)) : List α → Hm → Option (List β × Hm)
  | [], h => some ([], h)
  | x :: xs, h => match f x h with
    | none => none
    | some (d, h1) => match mapH f xs h1 with
      | none => none
      | some (ds, h2) => some (d :: ds, h2)
def sndH {κ : Type} (f : Vl → Hm → Option (PV × Hm)) (p : κ × Vl) (h : Hm) : Option ((κ × PV) × Hm) := match f p.2 h with
  | none => none
  | some (d, h1) => some ((p.1, d), h1)
/-- a value becomes a thing that stays: its objects leave the heap -/
def frzV : Nat → Vl → Hm → Option (PV × Hm)
  | _, .fz d, h => some (d, h)
  | 0, .rf _, _ => none
  | k + 1, .rf n, h => match h[n]? with
    | some (some (.lst xs)) => (match mapH (frzV k) xs (h.set n none) with
      | some (ds, h1) => some (.lst ds, h1)
      | none => none)
    | some (some (.dct kvs)) => (match mapH (sndH (frzV k)) kvs (h.set n none) with
      | some (ds, h1) => some (.dct ds, h1)
      | none => none)
    | some (some (.ins c fs)) => (match mapH (sndH (frzV k)) fs (h.set n none) with
      | some (ds, h1) => some (.obj c ds, h1)
      | none => none)
    | _ => none
def frz (v : Vl) (h : Hm) : R PV := match frzV 8 v h with
  | some (d, h1) => .ok d h1
  | none => .stuck
/-- a value as it stands now -/
def vw (h : Hm) (v : Vl) : Option PV := match frzV 8 v h with
  | some (d, _) => some d
  | none => none
def frzs : List Vl → Hm → R (List PV)
  | [], h => .ok [] h
  | v :: vs, h => (frz v h).bind fun d h => (frzs vs h).bind fun ds h => .ok (d :: ds) h
/-! ### operators over values -/
def op2 (f g : Env → Hm → R Vl) (k : Vl → Vl → Hm → R Vl) : Env → Hm → R Vl := fun env h => (f env h).bind fun x h => (g env h).bind fun y h => k x y h
def op1 (f : Env → Hm → R Vl) (k : Vl → Hm → R Vl) : Env → Hm → R Vl := fun env h => (f env h).bind fun x h => k x h
/-- the answer is flat: what is asked is read where it stands -/
def opA (g : PV → PV → Option PV) : Vl → Vl → Hm → R Vl := fun x y h => match vw h x, vw h y with
  | some a, some b => liftF (g a b) h
  | _, _ => .stuck
def opA1 (g : PV → Option PV) : Vl → Hm → R Vl := fun x h => match vw h x with
  | some a => liftF (g a) h
  | none => .stuck
/-- the answer may hold what is asked: that is frozen -/
def opG (g : PV → PV → Option PV) : Vl → Vl → Hm → R Vl := fun x y h => (frz x h).bind fun a h => (frz y h).bind fun b h => liftF (g a b) h
def opG1 (g : PV → Option PV) : Vl → Hm → R Vl := fun x h => (frz x h).bind fun a h => liftF (g a) h
/-- a list, new, that may change -/
def newL (xs : List Vl) (h : Hm) : R Vl := .ok (.rf h.length) (h ++ [some (.lst xs)])
def newD (xs : List (PV × Vl)) (h : Hm) : R Vl := .ok (.rf h.length) (h ++ [some (.dct xs)])
def evVar (i : Nat) : Env → Hm → R Vl := fun env h => match env[i]? with
  | some (some v) => .ok v h
  | _ => .stuck
def cstE (d : PV) : Env → Hm → R Vl := fun _ h => if d.atom = true then .ok (.fz d) h else .stuck
def gloE (o : Option PV) : Env → Hm → R Vl := fun _ h => match o with
  | some d => if d.atom = true then .ok (.fz d) h else .stuck
  | none => .stuck
def truH (h : Hm) : Vl → Option Bool
  | .fz d => truthV d
  | .rf n => match h[n]? with
    | some (some (.lst xs)) => some (!xs.isEmpty)
    | some (some (.dct xs)) => some (!xs.isEmpty)
    | _ => none
def lenH : Vl → Hm → R Vl := fun x h => match x with
  | .fz d => liftF (lenV d) h
  | .rf n => match h[n]? with
    | some (some (.lst xs)) => .ok (.fz (.int xs.length)) h
    | some (some (.dct xs)) => .ok (.fz (.int xs.length)) h
    | _ => .stuck
def dGetH : List (PV × Vl) → PV → Option Vl
  | [], _ => none
  | (k, v) :: r, x => if eqvP k x then some v else dGetH r x
def idxH : Vl → Vl → Hm → R Vl := fun x y h => match y with
  | .rf _ => .stuck
  | .fz i => match x with
    | .fz d => liftF (idxV d i) h
    | .rf n => match h[n]? with
      | some (some (.lst xs)) => (match i with | .int j => lift (atP xs j) h | _ => .stuck)
      | some (some (.dct kvs)) => if isKey i = true then lift (dGetH kvs i) h else .stuck
      | _ => .stuck
def attH (isF : Nat → Nat → Bool) (f : Nat) : Vl → Hm → R Vl := fun x h => match x with
  | .fz d => liftF (attV isF f d) h
  | .rf n => match h[n]? with
    | some (some (.ins c fs)) => if isF c f = true then lift (fs.lookup f) h else .stuck
    | _ => .stuck
def truR (v : Vl) (h : Hm) : R Bool := lift (truH h v) h
def blR (v : Vl) (h : Hm) : R Bool := match v with
  | .fz (.bl b) => .ok b h
  | _ => .stuck
def andT (f g : Env → Hm → R Bool) : Env → Hm → R Bool := fun env h => (f env h).bind fun t h => if t = true then g env h else .ok false h
def orT (f g : Env → Hm → R Bool) : Env → Hm → R Bool := fun env h => (f env h).bind fun t h => if t = true then .ok true h else g env h
def notT (f : Env → Hm → R Bool) : Env → Hm → R Bool := fun env h => (f env h).bind fun t h => .ok (!t) h
def valT (f : Env → Hm → R Vl) : Env → Hm → R Bool := fun env h => (f env h).bind truR
def cmpT (f : Env → Hm → R Vl) : Env → Hm → R Bool := fun env h => (f env h).bind blR
def andV (f g : Env → Hm → R Vl) : Env → Hm → R Vl := fun env h => (f env h).bind fun d h => (truR d h).bind fun t h => if t = true then g env h else .ok d h
def orV (f g : Env → Hm → R Vl) : Env → Hm → R Vl := fun env h => (f env h).bind fun d h => (truR d h).bind fun t h => if t = true then .ok d h else g env h
def notV (f : Env → Hm → R Vl) : Env → Hm → R Vl := fun env h => (f env h).bind fun d h => (truR d h).bind fun t h => .ok (.fz (.bl (!t))) h
def ifV (c : Env → Hm → R Bool) (f g : Env → Hm → R Vl) : Env → Hm → R Vl := fun env h => (c env h).bind fun t h => if t = true then f env h else g env h
def chainV (k j : Nat) (f g u : Env → Hm → R Vl) : Env → Hm → R Vl := fun env h => (f env h).bind fun x h => (g env h).bind fun y h => (opA (cmpV k) x y h).bind fun z h => match z with
  | .fz (.bl true) => (u env h).bind fun w h => opA (cmpV j) y w h
  | .fz (.bl false) => .ok (.fz (.bl false)) h
  | _ => .stuck
def bdE (f : Option (Env → Hm → R Vl)) : Env → Hm → R (Option Int) := fun env h => match f with
  | none => .ok none h
  | some f => (f env h).bind fun d h => match d with
    | .fz (.int i) => .ok (some i) h
    | _ => .stuck
/-- a slice: of a changing list a new one that stays, if its items stay -/
def allF : List Vl → Option (List PV)
  | [] => some []
  | .fz d :: r => (match allF r with | some ds => some (d :: ds) | none => none)
  | .rf _ :: _ => none
def allFd : List (PV × Vl) → Option (List (PV × PV))
  | [] => some []
  | (k, .fz d) :: r => (match allFd r with | some ds => some ((k, d) :: ds) | none => none)
  | (_, .rf _) :: _ => none
def shal (h : Hm) : Vl → Option PV
  | .fz d => some d
  | .rf n => match h[n]? with
    | some (some (.lst xs)) => (match allF xs with | some ds => some (.lst ds) | none => none)
    | some (some (.dct xs)) => (match allFd xs with | some ds => some (.dct ds) | none => none)
    | _ => none
def slcE (f : Env → Hm → R Vl) (lo hi : Option (Env → Hm → R Vl)) : Env → Hm → R Vl := fun env h => (f env h).bind fun x h => (bdE lo env h).bind fun l h => (bdE hi env h).bind fun u h => match shal h x with
  | some d => liftF (slcV d l u) h
  | none => .stuck
/-- one built-in with an answer made of its one argument's items: list(), tuple(), sorted() -/
def opS1 (g : PV → Option PV) : Vl → Hm → R Vl := fun x h => match shal h x with
  | some d => liftF (g d) h
  | none => .stuck
/-- .. held as a changing object -/
def thaw (d : PV) (h : Hm) : R Vl := match d with
  | .lst ds => newL (ds.map .fz) h
  | .dct kvs => newD (kvs.map fun kv => (kv.1, .fz kv.2)) h
  | _ => .stuck
def opN1 (g : PV → Option PV) : Vl → Hm → R Vl := fun x h => match shal h x with
  | some d => (match g d with
    | some r => thaw r h
    | none => .stuck)
  | none => .stuck
/-- + and * of lists, the new one held as a changing object -/
def opNb (k : Nat) : Vl → Vl → Hm → R Vl := fun x y h => (frz x h).bind fun a h => (frz y h).bind fun b h => match a with
  | .lst _ => (match binV k a b with
    | some (.lst ds) => newL (ds.map .fz) h
    | _ => .stuck)
  | _ => .stuck
/-- d.get(k, e) -/
def getH (x k e : Vl) (h : Hm) : R Vl := match k with
  | .fz i => if isKey i = true then (match x with
    | .fz (.dct kvs) => (match dGet kvs i with
      | some d => .ok (.fz d) h
      | none => .ok e h)
    | .rf n => (match h[n]? with
      | some (some (.dct kvs)) => (match dGetH kvs i with
        | some d => .ok d h
        | none => .ok e h)
      | _ => .stuck)
    | _ => .stuck) else .stuck
  | _ => .stuck
def isStrV : Vl → Bool
  | .fz (.str _) => true
  | _ => false
def joinE (f g : Env → Hm → R Vl) : Env → Hm → R Vl := fun env h => (f env h).bind fun x h => if isStrV x = true then (g env h).bind fun y h => opA joinV x y h else .stuck
/-- a dict that may change -/
def isDctH (h : Hm) : Vl → Bool
  | .rf n => (match h[n]? with
    | some (some (.dct _)) => true
    | _ => false)
  | _ => false
/-- d.update(e), e a dict that stays -/
def updW (x y : Vl) (h : Hm) : R Vl := match x, y with
  | .rf n, .fz (.dct es) => (match h[n]? with
    | some (some (.dct kvs)) => if kvs.length + es.length ≤ LIM then .ok (.fz .non) (h.set n (some (.dct (mergeD kvs (es.map fun e => (e.1, Vl.fz e.2)))))) else .stuck
    | _ => .stuck)
  | _, _ => .stuck
def updE (f g : Env → Hm → R Vl) : Env → Hm → R Vl := fun env h => (f env h).bind fun x h => if isDctH h x = true then (g env h).bind fun y h => updW x y h else .stuck
def op3 (f g u : Env → Hm → R Vl) (k : Vl → Vl → Vl → Hm → R Vl) : Env → Hm → R Vl := fun env h => (f env h).bind fun x h => (g env h).bind fun y h => (u env h).bind fun z h => k x y z h
/-- count, index: the list's own items, the thing read -/
def countH : Vl → Vl → Hm → R Vl := fun x y h => opA countV x y h
/-! ### displays, arguments -/
def esNil : Env → Hm → R (List Vl) := fun _ h => .ok [] h
def esCons (f : Env → Hm → R Vl) (g : Env → Hm → R (List Vl)) : Env → Hm → R (List Vl) := fun env h => (f env h).bind fun d h => (g env h).bind fun ds h => .ok (d :: ds) h
def lstE (g : Env → Hm → R (List Vl)) : Env → Hm → R Vl := fun env h => (g env h).bind fun ds h => if ds.length ≤ LIM then (frzs ds h).bind fun ds h => .ok (.fz (.lst ds)) h else .stuck
def tupE (g : Env → Hm → R (List Vl)) : Env → Hm → R Vl := fun env h => (g env h).bind fun ds h => if ds.length ≤ LIM then (frzs ds h).bind fun ds h => .ok (.fz (.tup ds)) h else .stuck
def nlstE (g : Env → Hm → R (List Vl)) : Env → Hm → R Vl := fun env h => (g env h).bind fun ds h => if ds.length ≤ LIM then newL ds h else .stuck
/-- a dict's display: its keys and values in turn -/
def prs : List Vl → Option (List (PV × Vl))
  | [] => some []
  | .fz k :: v :: r => if isKey k = true then (match prs r with | some ps => some ((k, v) :: ps) | none => none) else none
  | _ => none
def ndctE (g : Env → Hm → R (List Vl)) : Env → Hm → R Vl := fun env h => (g env h).bind fun vs h => match prs vs with
  | some ps => if ps.length ≤ 15 then newD (mergeD [] ps) h else .stuck
  | none => .stuck
def dctE (g : Env → Hm → R (List Vl)) : Env → Hm → R Vl := fun env h => (ndctE g env h).bind fun v h => (frz v h).bind fun d h => .ok (.fz d) h
/-! ### calls -/
/-- arguments by their names: which stands at each parameter -/
def perm (is : List Nat) (vs : List Vl) : Option (List Vl) := is.mapM fun i => vs[i]?
def permE (is : List Nat) (g : Env → Hm → R (List Vl)) : Env → Hm → R (List Vl) := fun env h => (g env h).bind fun vs h => lift (perm is vs) h
/-- an own __contains__, __eq__ -/
def clsOfV (h : Hm) : Vl → Option Nat
  | .fz (.obj c _) => some c
  | .fz _ => none
  | .rf n => match h[n]? with
    | some (some (.ins c _)) => some c
    | _ => none
def ownB (neg : Bool) (o : R Vl) : R Vl := o.bind fun r h => match r with
  | .fz (.bl b) => .ok (.fz (.bl (if neg then !b else b))) h
  | _ => .stuck
def cmpG (spc : Nat → Nat → Option Nat) (φ : Nat → List Vl → Hm → R Vl) (k : Nat) : Vl → Vl → Hm → R Vl := fun x y h =>
  if k = 6 ∨ k = 7 then (match clsOfV h y with
    | some c => (match spc 6 c with
      | some f => ownB (decide (k = 7)) (φ f [y, x] h)
      | none => .stuck)
    | none => opA (cmpV k) x y h)
  else if k = 0 ∨ k = 1 then (match clsOfV h x with
    | some c => (match spc 0 c with
      | some f => ownB (decide (k = 1)) (φ f [x, y] h)
      | none => .stuck)
    | none => opA (cmpV k) x y h)
  else opA (cmpV k) x y h
def callE (φ : List Vl → Hm → R Vl) (g : Env → Hm → R (List Vl)) : Env → Hm → R Vl := fun env h => (g env h).bind fun as h => φ as h
/-- an instance of the class c without a field m -/
def isInst (h : Hm) (c m : Nat) : Vl → Bool
  | .fz (.obj c' fs) => decide (c' = c) && !(fs.map (·.1)).contains m
  | .fz _ => false
  | .rf n => match h[n]? with
    | some (some (.ins c' fs)) => decide (c' = c) && !(fs.map (·.1)).contains m
    | _ => false
def methE (c m : Nat) (φ : List Vl → Hm → R Vl) (f : Env → Hm → R Vl) (g : Env → Hm → R (List Vl)) : Env → Hm → R Vl := fun env h => (f env h).bind fun d h => if isInst h c m d = true then (g env h).bind fun as h => φ (d :: as) h else .stuck
def newE (c : Nat) (φ : List Vl → Hm → R Vl) (g : Env → Hm → R (List Vl)) : Env → Hm → R Vl := fun env h => (g env h).bind fun as h => (φ (.rf h.length :: as) (h ++ [some (.ins c [])])).bind fun r h' => match r with
  | .fz .non => .ok (.rf h.length) h'
  | _ => .stuck
def frzE (f : Env → Hm → R Vl) : Env → Hm → R Vl := fun env h => (f env h).bind fun v h => (frz v h).bind fun d h => .ok (.fz d) h
/-! ### writing -/
def putP {α : Type} (f : Nat) (d : α) : List (Nat × α) → List (Nat × α)
  | [] => [(f, d)]
  | (g, x) :: r => if g = f then (f, d) :: r else (g, x) :: putP f d r
/-- the list at x is taken out and put back otherwise -/
def wrL (x : Vl) (w : List Vl → Option (Vl × List Vl)) (h : Hm) : R Vl := match x with
  | .rf n => (match h[n]? with
    | some (some (.lst xs)) => (match w xs with
      | some (r, ys) => .ok r (h.set n (some (.lst ys)))
      | none => .stuck)
    | _ => .stuck)
  | _ => .stuck
def appW (y : Vl) (xs : List Vl) : Option (Vl × List Vl) := if xs.length < LIM then some (.fz .non, xs ++ [y]) else none
def popW (xs : List Vl) : Option (Vl × List Vl) := match xs[xs.length - 1]? with
  | some y => some (y, xs.dropLast)
  | none => none
def popAtW (i : Vl) (xs : List Vl) : Option (Vl × List Vl) := match i with
  | .fz (.int i) => (match ixP xs.length i with
    | some k => (match xs[k]? with | some y => some (y, xs.eraseIdx k) | none => none)
    | none => none)
  | _ => none
def itemsH (h : Hm) : Vl → Option (List Vl)
  | .fz (.lst ds) => some (ds.map .fz)
  | .rf n => match h[n]? with
    | some (some (.lst xs)) => some xs
    | _ => none
  | _ => none
def isLstH (h : Hm) : Vl → Bool
  | .rf n => (match h[n]? with
    | some (some (.lst _)) => true
    | _ => false)
  | _ => false
def appE (f g : Env → Hm → R Vl) : Env → Hm → R Vl := fun env h => (f env h).bind fun x h => if isLstH h x = true then (g env h).bind fun y h => wrL x (appW y) h else .stuck
def popAtE (f g : Env → Hm → R Vl) : Env → Hm → R Vl := fun env h => (f env h).bind fun x h => if isLstH h x = true then (g env h).bind fun y h => wrL x (popAtW y) h else .stuck
def popE (f : Env → Hm → R Vl) : Env → Hm → R Vl := fun env h => (f env h).bind fun x h => wrL x popW h
/-- x.extend(y): y another list -/
def extE (f g : Env → Hm → R Vl) : Env → Hm → R Vl := fun env h => (f env h).bind fun x h => if isLstH h x = true then (g env h).bind fun y h => match x, itemsH h y with
  | .rf n, some ys => (match y with
    | .rf m => if m = n then .stuck else wrL x (fun xs => if xs.length + ys.length ≤ LIM then some (.fz .non, xs ++ ys) else none) h
    | .fz _ => wrL x (fun xs => if xs.length + ys.length ≤ LIM then some (.fz .non, xs ++ ys) else none) h)
  | _, _ => .stuck
  else .stuck
/-! ### statements -/
inductive SO where
  | nx (e : Env) (h : Hm)
  | rt (v : Vl) (h : Hm)
  | bk (e : Env) (h : Hm)
  | ct (e : Env) (h : Hm)
  | exc (c : Nat) (p : List PV) (h : Hm)
  | stuck
def SO.bind (o : SO) (f : Env → Hm → SO) : SO := match o with
  | .nx e h => f e h
  | o => o
def R.bindS {α : Type} (o : R α) (f : α → Hm → SO) : SO := match o with
  | .ok a h => f a h
  | .exc c p h => .exc c p h
  | .stuck => .stuck
def setE (i : Nat) (v : Vl) (env : Env) (h : Hm) : SO := if i < env.length then .nx (env.set i (some v)) h else .stuck
/-- o[i] = v -/
def setI (x i v : Vl) (h : Hm) : R Vl := match x with
  | .rf n => (match h[n]? with
    | some (some (.lst xs)) => (match i with
      | .fz (.int i) => (match ixP xs.length i with | some k => .ok (.fz .non) (h.set n (some (.lst (xs.set k v)))) | none => .stuck)
      | _ => .stuck)
    | some (some (.dct kvs)) => (match i with
      | .fz k => if isKey k = true ∧ kvs.length < LIM then .ok (.fz .non) (h.set n (some (.dct (putD kvs k v)))) else .stuck
      | _ => .stuck)
    | _ => .stuck)
  | _ => .stuck
def fldH (isF : Nat → Nat → Bool) (f : Nat) (x v : Vl) (h : Hm) : R Vl := match x with
  | .rf n => (match h[n]? with
    | some (some (.ins c fs)) => if isF c f = true ∧ fs.length < 1000 then .ok (.fz .non) (h.set n (some (.ins c (putP f v fs)))) else .stuck
    | _ => .stuck)
  | _ => .stuck
def setL : List Nat → List Vl → Env → Option Env
  | [], [], env => some env
  | i :: is, v :: vs, env => if i < env.length then setL is vs (env.set i (some v)) else none
  | _, _, _ => none
def whileN (c : Env → Hm → R Bool) (b : Env → Hm → SO) : Nat → Env → Hm → SO
  | 0, _, _ => .stuck
  | n + 1, env, h => (c env h).bindS fun t h => if t = true then (match b env h with
      | .nx e h => whileN c b n e h
      | .ct e h => whileN c b n e h
      | .bk e h => .nx e h
      | o => o) else .nx env h
def forN (g : Vl → Env → Hm → Option Env) (b : Env → Hm → SO) : List Vl → Env → Hm → SO
  | [], env, h => .nx env h
  | x :: xs, env, h => match g x env h with
    | none => .stuck
    | some e => match b e h with
      | .nx e h => forN g b xs e h
      | .ct e h => forN g b xs e h
      | .bk e h => .nx e h
      | o => o
/-! ### what is walked: its items, and what is locked meanwhile -/
abbrev Lk := List (Nat × MO)
def lockH : Lk → Hm → Hm
  | [], h => h
  | (n, _) :: r, h => lockH r (h.set n none)
def unlkH : Lk → Hm → Hm
  | [], h => h
  | (n, o) :: r, h => (unlkH r h).set n (some o)
def unlkS (l : Lk) : SO → SO
  | .nx e h => .nx e (unlkH l h)
  | .rt v h => .rt v (unlkH l h)
  | .bk e h => .bk e (unlkH l h)
  | .ct e h => .ct e (unlkH l h)
  | .exc c p h => .exc c p (unlkH l h)
  | .stuck => .stuck
def unlkR {α : Type} (l : Lk) : R α → R α
  | .ok a h => .ok a (unlkH l h)
  | .exc c p h => .exc c p (unlkH l h)
  | .stuck => .stuck
abbrev Src := Env → Hm → R (List Vl × Lk)
def srcV (f : Env → Hm → R Vl) : Src := fun env h => (f env h).bind fun v h => match v with
  | .fz d => (match iterV d with | some ds => .ok (ds.map .fz, []) h | none => .stuck)
  | .rf n => (match h[n]? with
    | some (some (.lst xs)) => .ok (xs, [(n, .lst xs)]) h
    | _ => .stuck)
def srcR (f : Env → Hm → R Vl) : Src := fun env h => (f env h).bind fun v h => match v with
  | .fz d => (match rngN d with | some ds => .ok (ds.map .fz, []) h | none => .stuck)
  | _ => .stuck
def srcR2 (f g : Env → Hm → R Vl) : Src := fun env h => (f env h).bind fun v h => (g env h).bind fun u h => match v, u with
  | .fz c, .fz d => (match rngN2 c d with | some ds => .ok (ds.map .fz, []) h | none => .stuck)
  | _, _ => .stuck
/-- a list or a tuple, its items, what is to be locked -/
def seqH (h : Hm) : Vl → Option (List PV × Lk)
  | .fz d => (match seqP d with | some ds => some (ds, []) | none => none)
  | .rf n => match h[n]? with
    | some (some (.lst xs)) => (match allF xs with | some ds => some (ds, [(n, .lst xs)]) | none => none)
    | _ => none
def srcE (f : Env → Hm → R Vl) : Src := fun env h => (f env h).bind fun v h => match seqH h v with
  | some (ds, l) => .ok ((enumP ds).map .fz, l) h
  | none => .stuck
def srcZ (f g : Env → Hm → R Vl) : Src := fun env h => (f env h).bind fun v h => (g env h).bind fun u h => match seqH h v with
  | some (ds, l) => (match seqH (lockH l h) u with
    | some (es, l2) => .ok ((zipP ds es).map .fz, l ++ l2) h
    | none => .stuck)
  | none => .stuck
/-! ### targets -/
def tgN (i : Nat) : Vl → Env → Hm → Option Env := fun v env _ => if i < env.length then some (env.set i (some v)) else none
def gsNil : List Vl → Env → Hm → Option Env := fun ds env _ => match ds with
  | [] => some env
  | _ => none
def gsCons (g : Vl → Env → Hm → Option Env) (u : List Vl → Env → Hm → Option Env) : List Vl → Env → Hm → Option Env := fun ds env h => match ds with
  | d :: ds => (match g d env h with
    | some e => u ds e h
    | none => none)
  | [] => none
def gSeq (n : Nat) (g : List Vl → Env → Hm → Option Env) : Vl → Env → Hm → Option Env := fun d env h => match d with
  | .fz (.tup ds) => if ds.length = n then g (ds.map .fz) env h else none
  | .fz (.lst ds) => if ds.length = n then g (ds.map .fz) env h else none
  | .rf k => (match h[k]? with
    | some (some (.lst xs)) => if xs.length = n then g xs env h else none
    | _ => none)
  | _ => none
/-! ### comprehensions -/
def wipeE : List Nat → Env → Env
  | [], env => env
  | v :: vs, env => (wipeE vs env).set v none
/-- nothing is raised within -/
def R.sure {α : Type} : R α → R α
  | .ok a h => .ok a h
  | _ => .stuck
def lcN {β : Type} (g : Vl → Env → Hm → Option Env) (c : Env → Hm → R Bool) (e : Env → Hm → R β) (env : Env) : List Vl → Hm → R (List β)
  | [], h => .ok [] h
  | d :: ds, h => match g d env h with
    | none => .stuck
    | some e1 => (c e1 h).sure.bind fun b h => if b = true then
        (e e1 h).sure.bind fun y h => (lcN g c e env ds h).bind fun ys h => .ok (y :: ys) h
      else lcN g c e env ds h
def frzR (f : Env → Hm → R Vl) : Env → Hm → R PV := fun env h => (f env h).bind frz
def lcV (own : List Nat) (src : Src) (g : Vl → Env → Hm → Option Env) (c : Env → Hm → R Bool) (e : Env → Hm → R Vl) : Env → Hm → R Vl := fun env h =>
  (src env h).bind fun (ds, l) h => unlkR l ((lcN g c (frzR e) (wipeE own env) ds (lockH l h)).bind fun ys h => .ok (.fz (.lst ys)) h)
def nlcV (own : List Nat) (src : Src) (g : Vl → Env → Hm → Option Env) (c : Env → Hm → R Bool) (e : Env → Hm → R Vl) : Env → Hm → R Vl := fun env h =>
  (src env h).bind fun (ds, l) h => unlkR l ((lcN g c e (wipeE own env) ds (lockH l h)).bind fun ys h => newL ys h)
mutual
/-- no dict within -/
def noD : PV → Bool
  | .lst xs => noDs xs
  | .tup xs => noDs xs
  | .dct _ => false
  | .obj _ fs => noDf fs
  | _ => true
def noDs : List PV → Bool
  | [] => true
  | x :: xs => noD x && noDs xs
def noDf : List (Nat × PV) → Bool
  | [] => true
  | (_, x) :: xs => noD x && noDf xs
end
def noV : Vl → Bool
  | .fz d => noD d
  | .rf _ => true
def noO : Option MO → Bool
  | none => true
  | some (.lst xs) => xs.all noV
  | some (.dct kvs) => kvs.all fun kv => noV kv.2
  | some (.ins _ fs) => fs.all fun kv => noV kv.2
/-- the keys of the dict at i, which stays as it is meanwhile -/
def srcK (i : Nat) : Src := fun env h => match env[i]? with
  | some (some (.fz (.dct ds))) => .ok (ds.map fun kv => .fz kv.1, []) h
  | _ => .stuck
def lcKV (own : List Nat) (i : Nat) (g : Vl → Env → Hm → Option Env) (c : Env → Hm → R Bool) (e : Env → Hm → R Vl) : Env → Hm → R Vl := fun env h => match env[i]? with
  | some (some (.rf n)) => (match h[n]? with
    | some (some (.dct kvs)) => (match allFd kvs with
      | some ds => (lcN g c (frzR e) (wipeE own (env.set i (some (.fz (.dct ds))))) (ds.map fun kv => .fz kv.1) (h.set n none)).sure.bind fun ys h' => if noDs ys = true ∧ h'.all noO = true then .ok (.fz (.lst ys)) (h'.set n (some (.dct kvs))) else .stuck
      | none => .stuck)
    | _ => .stuck)
  | _ => .stuck
def pairE (f g : Env → Hm → R Vl) : Env → Hm → R (PV × Vl) := fun env h => (f env h).bind fun k h => (g env h).bind fun v h => match k with
  | .fz i => if isKey i = true then .ok (i, v) h else .stuck
  | _ => .stuck
def ndcV (own : List Nat) (src : Src) (g : Vl → Env → Hm → Option Env) (c : Env → Hm → R Bool) (e u : Env → Hm → R Vl) : Env → Hm → R Vl := fun env h =>
  (src env h).bind fun (ds, l) h => unlkR l ((lcN g c (pairE e u) (wipeE own env) ds (lockH l h)).bind fun ys h => newD (mergeD [] ys) h)
def dcV (own : List Nat) (src : Src) (g : Vl → Env → Hm → Option Env) (c : Env → Hm → R Bool) (e u : Env → Hm → R Vl) : Env → Hm → R Vl := frzE (ndcV own src g c e u)
/-! ### defs -/
def refsV (n : Nat) : Vl → Bool
  | .fz _ => true
  | .rf m => decide (m < n)
def refsO (n : Nat) : Option MO → Bool
  | none => true
  | some (.lst xs) => xs.all (refsV n)
  | some (.dct kvs) => kvs.all fun kv => refsV n kv.2
  | some (.ins _ fs) => fs.all fun kv => refsV n kv.2
/-- the heap of the caller: nothing in it leads to what is dropped -/
def cutH (keep : Bool) (n : Nat) (h : Hm) : Option Hm := if keep = true then some h else if h.length = n then some h else
  let h1 := h.take n
  if h1.all (refsO n) = true then some h1 else none
def runF (keep : Bool) (np k : Nat) (body : Env → Hm → SO) (vs : List Vl) (h : Hm) : R Vl := if vs.length = np then (match body (vs.map some ++ List.replicate k none) h with
  | .nx _ h' => (match cutH keep h.length h' with
    | some h1 => .ok (.fz .non) h1
    | none => .stuck)
  | .rt v h' => (match cutH keep h.length h' with
    | some h1 => if refsV h1.length v = true then .ok v h1 else .stuck
    | none => .stuck)
  | .exc c p h' => (match cutH keep h.length h' with
    | some h1 => .exc c p h1
    | none => .stuck)
  | _ => .stuck) else .stuck
/-! ### the syntax -/
mutual
inductive Ex where
  | cst (d : PV)
  | var (i : Nat)
  | glo (x : Nat)
  | bin (k : Nat) (a b : Ex)
  | cmp (k : Nat) (a b : Ex)
  | chn (k j : Nat) (a b c : Ex)
  | neg (a : Ex)
  | and (a b : Ex)
  | or (a b : Ex)
  | not (a : Ex)
  | ite (c : Ts) (a b : Ex)
  | lst (es : Es)
  | nlst (es : Es)
  | tup (es : Es)
  | att (a : Ex) (f : Nat)
  | idx (a b : Ex)
  | slc (a : Ex) (lo hi : Oe)
  | len (a : Ex)
  | isi (a c : Ex)
  | b1 (k : Nat) (a : Ex)
  | s1 (k : Nat) (a : Ex)
  | call (f : Nat) (as : Es)
  | meth (c m f : Nat) (a : Ex) (as : Es)
  | new (x c f : Nat) (as : Es)
  | lc (own : List Nat) (tg : Tg) (src : Sr) (c : Ts) (e : Ex)
  | nlc (own : List Nat) (tg : Tg) (src : Sr) (c : Ts) (e : Ex)
  | lcK (own : List Nat) (tg : Tg) (i : Nat) (c : Ts) (e : Ex)
  | app (o a : Ex)
  | ext (o a : Ex)
  | popAt (o a : Ex)
  | pop (o : Ex)
  | n1 (k : Nat) (a : Ex)
  | nbin (k : Nat) (a b : Ex)
  | b2 (k : Nat) (a b : Ex)
  | get (o k e : Ex)
  | cnt (o a : Ex)
  | join (o a : Ex)
  | upd (o a : Ex)
  | rev (a : Ex)
  | dct (es : Es)
  | ndct (es : Es)
  | dc (own : List Nat) (tg : Tg) (src : Sr) (c : Ts) (e u : Ex)
  | ndc (own : List Nat) (tg : Tg) (src : Sr) (c : Ts) (e u : Ex)
  | callK (f : Nat) (is : List Nat) (as : Es)
  | methK (c m f : Nat) (a : Ex) (is : List Nat) (as : Es)
  | newK (x c f : Nat) (is : List Nat) (as : Es)
  | frz (a : Ex)
  | bad
inductive Es where
  | nil
  | cons (a : Ex) (r : Es)
inductive Oe where
  | non
  | one (a : Ex)
inductive Ts where
  | yes
  | val (a : Ex)
  | cmp (k : Nat) (a b : Ex)
  | chn (k j : Nat) (a b c : Ex)
  | not (a : Ts)
  | and (a b : Ts)
  | or (a b : Ts)
inductive Sr where
  | val (a : Ex)
  | rng (a : Ex)
  | rng2 (a b : Ex)
  | enm (a : Ex)
  | zip (a b : Ex)
inductive Tg where
  | nm (i : Nat)
  | tp (ts : Tgs)
inductive Tgs where
  | nil
  | cons (t : Tg) (r : Tgs)
end
/-- targets that are names or places -/
inductive Pts where
  | nil
  | nm (i : Nat) (r : Pts)
  | sub (o ix : Ex) (r : Pts)
mutual
inductive Stm where
  | pass
  | ret (a : Ex)
  | retN
  | exp (a : Ex)
  | set (i : Nat) (a : Ex)
  | setT (t : Tg) (a : Ex)
  | par (is : List Nat) (es : Es)
  | parP (ts : Pts) (es : Es)
  | setI (o ix a : Ex)
  | fld (o : Ex) (f : Nat) (a : Ex)
  | ite (c : Ts) (a b : Sts)
  | whl (c : Ts) (b : Sts)
  | for_ (t : Tg) (s : Sr) (b : Sts)
  | brk
  | cont
  | bad
inductive Sts where
  | nil
  | cons (a : Stm) (r : Sts)
end
/-- what a run leans on: fields, defs, constants of the module; how long a while may go on -/
structure Gx where
  isF : Nat → Nat → Bool
  spc : Nat → Nat → Option Nat
  φ : Nat → List Vl → Hm → R Vl
  glo : Nat → Option PV
  fuel : Nat
/-- flat answers -/
def b1V : Nat → PV → Option PV
  | 0 => intV
  | 1 => allV
  | 2 => anyV
  | 3 => absV
  | 4 => sumV
  | _ => fun _ => none
def b2V : Nat → PV → PV → Option PV
  | 0 => max2V
  | 1 => min2V
  | _ => fun _ _ => none
/-- answers made of the items -/
def s1V : Nat → PV → Option PV
  | 0 => listV
  | 1 => tupleV
  | 2 => dictV
  | _ => fun _ => none
mutual
def Gx.ex (G : Gx) : Ex → Env → Hm → R Vl
  | .cst d => cstE d
  | .var i => evVar i
  | .glo x => gloE (G.glo x)
  | .bin k a b => op2 (G.ex a) (G.ex b) (opG (binV k))
  | .cmp k a b => op2 (G.ex a) (G.ex b) (cmpG G.spc G.φ k)
  | .chn k j a b c => chainV k j (G.ex a) (G.ex b) (G.ex c)
  | .neg a => op1 (G.ex a) (opA1 negV)
  | .and a b => andV (G.ex a) (G.ex b)
  | .or a b => orV (G.ex a) (G.ex b)
  | .not a => notV (G.ex a)
  | .ite c a b => ifV (G.ts c) (G.ex a) (G.ex b)
  | .lst es => lstE (G.es es)
  | .nlst es => nlstE (G.es es)
  | .tup es => tupE (G.es es)
  | .att a f => op1 (G.ex a) (attH G.isF f)
  | .idx a b => op2 (G.ex a) (G.ex b) idxH
  | .slc a lo hi => slcE (G.ex a) (G.oe lo) (G.oe hi)
  | .len a => op1 (G.ex a) lenH
  | .isi a c => op2 (G.ex a) (G.ex c) (opA isiV)
  | .b1 k a => op1 (G.ex a) (opA1 (b1V k))
  | .s1 k a => op1 (G.ex a) (opS1 (s1V k))
  | .call f as => callE (G.φ f) (G.es as)
  | .meth c m f a as => methE c m (G.φ f) (G.ex a) (G.es as)
  | .new _ c f as => newE c (G.φ f) (G.es as)
  | .lc own tg src c e => lcV own (G.sr src) (G.tg tg) (G.ts c) (G.ex e)
  | .nlc own tg src c e => nlcV own (G.sr src) (G.tg tg) (G.ts c) (G.ex e)
  | .lcK own tg i c e => lcKV own i (G.tg tg) (G.ts c) (G.ex e)
  | .app o a => appE (G.ex o) (G.ex a)
  | .ext o a => extE (G.ex o) (G.ex a)
  | .popAt o a => popAtE (G.ex o) (G.ex a)
  | .pop o => popE (G.ex o)
  | .n1 k a => op1 (G.ex a) (opN1 (s1V k))
  | .nbin k a b => op2 (G.ex a) (G.ex b) (opNb k)
  | .b2 k a b => op2 (G.ex a) (G.ex b) (opA (b2V k))
  | .get o k e => op3 (G.ex o) (G.ex k) (G.ex e) getH
  | .cnt o a => op2 (G.ex o) (G.ex a) countH
  | .join o a => joinE (G.ex o) (G.ex a)
  | .upd o a => updE (G.ex o) (G.ex a)
  | .rev a => op1 (G.ex a) (opS1 revV)
  | .dct es => dctE (G.es es)
  | .ndct es => ndctE (G.es es)
  | .dc own tg src c e u => dcV own (G.sr src) (G.tg tg) (G.ts c) (G.ex e) (G.ex u)
  | .ndc own tg src c e u => ndcV own (G.sr src) (G.tg tg) (G.ts c) (G.ex e) (G.ex u)
  | .callK f is as => callE (G.φ f) (permE is (G.es as))
  | .methK c m f a is as => methE c m (G.φ f) (G.ex a) (permE is (G.es as))
  | .newK _ c f is as => newE c (G.φ f) (permE is (G.es as))
  | .frz a => frzE (G.ex a)
  | .bad => fun _ _ => .stuck
def Gx.es (G : Gx) : Es → Env → Hm → R (List Vl)
  | .nil => esNil
  | .cons a r => esCons (G.ex a) (G.es r)
def Gx.oe (G : Gx) : Oe → Option (Env → Hm → R Vl)
  | .non => none
  | .one a => some (G.ex a)
def Gx.ts (G : Gx) : Ts → Env → Hm → R Bool
  | .yes => fun _ h => .ok true h
  | .val a => valT (G.ex a)
  | .cmp k a b => cmpT (op2 (G.ex a) (G.ex b) (cmpG G.spc G.φ k))
  | .chn k j a b c => cmpT (chainV k j (G.ex a) (G.ex b) (G.ex c))
  | .not a => notT (G.ts a)
  | .and a b => andT (G.ts a) (G.ts b)
  | .or a b => orT (G.ts a) (G.ts b)
def Gx.sr (G : Gx) : Sr → Src
  | .val a => srcV (G.ex a)
  | .rng a => srcR (G.ex a)
  | .rng2 a b => srcR2 (G.ex a) (G.ex b)
  | .enm a => srcE (G.ex a)
  | .zip a b => srcZ (G.ex a) (G.ex b)
def Gx.tg (G : Gx) : Tg → Vl → Env → Hm → Option Env
  | .nm i => tgN i
  | .tp ts => gSeq (Tgs.len ts) (G.tgs ts)
def Gx.tgs (G : Gx) : Tgs → List Vl → Env → Hm → Option Env
  | .nil => gsNil
  | .cons t r => gsCons (G.tg t) (G.tgs r)
def Tgs.len : Tgs → Nat
  | .nil => 0
  | .cons _ r => Tgs.len r + 1
end
def nxG (o : Option Env) (h : Hm) : SO := match o with
  | some e => .nx e h
  | none => .stuck
def Gx.pts (G : Gx) : Pts → List Vl → Env → Hm → SO
  | .nil, vs => fun env h => (match vs with
    | [] => .nx env h
    | _ => .stuck)
  | .nm i r, vs => fun env h => (match vs with
    | v :: vs => if i < env.length then G.pts r vs (env.set i (some v)) h else .stuck
    | [] => .stuck)
  | .sub o ix r, vs => fun env h => (match vs with
    | v :: vs => (G.ex o env h).bindS fun x h => (G.ex ix env h).bindS fun i h => (setI x i v h).bindS fun _ h => G.pts r vs env h
    | [] => .stuck)
mutual
def Gx.st (G : Gx) : Stm → Env → Hm → SO
  | .pass => .nx
  | .ret a => fun env h => (G.ex a env h).bindS .rt
  | .retN => fun _ h => .rt (.fz .non) h
  | .exp a => fun env h => (G.ex a env h).bindS fun _ h => .nx env h
  | .set i a => fun env h => (G.ex a env h).bindS fun v h => setE i v env h
  | .setT t a => fun env h => (G.ex a env h).bindS fun v h => nxG (G.tg t v env h) h
  | .par is es => fun env h => (G.es es env h).bindS fun vs h => nxG (setL is vs env) h
  | .parP ts es => fun env h => (G.es es env h).bindS fun vs h => G.pts ts vs env h
  | .setI o ix a => fun env h => (G.ex a env h).bindS fun y h => (G.ex o env h).bindS fun x h => (G.ex ix env h).bindS fun i h => (setI x i y h).bindS fun _ h => .nx env h
  | .fld o f a => fun env h => (G.ex a env h).bindS fun y h => (G.ex o env h).bindS fun x h => (fldH G.isF f x y h).bindS fun _ h => .nx env h
  | .ite c a b => fun env h => (G.ts c env h).bindS fun t h => if t = true then G.sts a env h else G.sts b env h
  | .whl c b => fun env h => whileN (G.ts c) (G.sts b) G.fuel env h
  | .for_ t s b => fun env h => (G.sr s env h).bindS fun (ds, l) h => unlkS l (forN (G.tg t) (G.sts b) ds env (lockH l h))
  | .brk => .bk
  | .cont => .ct
  | .bad => fun _ _ => .stuck
def Gx.sts (G : Gx) : Sts → Env → Hm → SO
  | .nil => .nx
  | .cons a r => fun env h => (G.st a env h).bind (G.sts r)
end
/-- the table of defs: whether the heap is kept, parameters, further names, body -/
structure Dr where
  keep : Bool
  np : Nat
  k : Nat
  body : Sts
/-- the defs of a module, so many calls deep -/
def runs (isF : Nat → Nat → Bool) (spc : Nat → Nat → Option Nat) (glo : Nat → Option PV) (fuel : Nat) (tab : Nat → Option Dr) : Nat → Nat → List Vl → Hm → R Vl
  | 0, _ => fun _ _ => .stuck
  | n + 1, f => match tab f with
    | some d => runF d.keep d.np d.k (Gx.sts ⟨isF, spc, runs isF spc glo fuel tab n, glo, fuel⟩ d.body)
    | none => fun _ _ => .stuck
end HV

end

section
/-! V1: what trees stand for in the heap; what a step may change. -/
namespace HV
open PySem PySem.Spec PyProof.Rows L2
def tx (s : Txt) : Str := ⟨s.toArray⟩
def nmS (n : Nat) : Str := ⟨(nmL n n []).toArray⟩
structure Tb where
  K : PySem.W.Frag
  cls : Nat → Option Addr
  isF : Nat → Nat → Bool
def tyN : Nat → String
  | 0 => "int" | 1 => "bool" | 2 => "str" | 3 => "list" | 4 => "tuple" | 5 => "dict" | 6 => "NoneType" | _ => "object"
inductive KeyR : Key → PV → Prop
  | int (i : Int) : KeyR (.inl i) (.int i)
  | str (s : Txt) (h : s.length ≤ sizeLine ∧ ∀ c ∈ s, c < 1114112) : KeyR (.inr (tx s)) (.str s)
def kdVal (T : Tb) : Kd → Value → Prop
  | .ty n, u => n < 7 ∧ u = .type (tyN n)
  | .cls c, u => ∃ C, T.cls c = some C ∧ u = .ref C
/-- what the classes of the table are -/
structure TbOk (T : Tb) : Prop where
  cl : ∀ c C, T.cls c = some C → Cls T.K C
  fl : ∀ c C f, T.cls c = some C → T.isF c f = true → NoAttr T.K C (nmS f)
  ty : ∀ c C, T.cls c = some C → PySem.W.findIn T.K (.ref C) "__class__" = some (some (.builtin "object.__class__")) ∧ PySem.W.specialIn T.K (.builtin "object.__class__") "__get__" = some (some (.builtin "getset_descriptor.__get__")) ∧
    PySem.W.takesIn T.K (.builtin "object.__class__") = some true ∧ PySem.W.mroIn T.K C (.type "object") = some true
  kit : ∀ a b u w, kdVal T a u → kdVal T b w → PySem.W.kitOne T.K u w = some (kdIs a b)
theorem nmL_val : ∀ (k n : Nat) (acc : List Nat), n < 256 ^ k → (nmL k n acc).foldl (fun a c => a * 256 + c) 0 = acc.foldl (fun a c => a * 256 + c) n
  | 0, n, acc, h => by
    have : n = 0 := by simpa using h
    subst this; rfl
  | k + 1, n, acc, h => by
    unfold nmL
    by_cases h0 : n = 0
    · rw [if_pos h0, h0]
    · rw [if_neg h0, nmL_val k (n / 256) (n % 256 :: acc) (by rw [Nat.pow_succ] at h; exact Nat.div_lt_of_lt_mul (by omega))]
      show acc.foldl _ (n / 256 * 256 + n % 256) = _
      rw [show n / 256 * 256 + n % 256 = n by omega]
theorem lt256 : ∀ n : Nat, n < 256 ^ n
  | 0 => by decide
  | n + 1 => by
    have := lt256 n
    rw [Nat.pow_succ]
    omega
theorem nmS_inj {a b : Nat} (h : nmS a = nmS b) : a = b := by
  unfold nmS at h
  have h1 : (nmL a a []).toArray = (nmL b b []).toArray := congrArg Str.cps h
  have h2 : nmL a a [] = nmL b b [] := by simpa using congrArg Array.toList h1
  have e1 := nmL_val a a [] (lt256 a)
  have e2 := nmL_val b b [] (lt256 b)
  rw [h2] at e1
  exact e1.symm.trans e2
mutual
inductive RepV (T : Tb) (Hs : Hp) : V → PV → Prop
  | non : RepV T Hs .non .non
  | bl (b : Bool) : RepV T Hs (.bl b) (.bl b)
  | int (i : Int) : RepV T Hs (.int i) (.int i)
  | str (s : Txt) (h : s.length ≤ sizeLine ∧ ∀ c ∈ s, c < 1114112) : RepV T Hs (.str (tx s)) (.str s)
  | scr {a : Addr} {ns : List Int} : SqL T.K Hs a (ns.map V.int) → ns.length ≤ sizeLine → RepV T Hs (.ref a) (.scr ns)
  | lst {a : Addr} {xs : List V} {ds : List PV} : Hs a = some (.lst xs) → ds.length ≤ sizeLine → RepVs T Hs xs ds → RepV T Hs (.ref a) (.lst ds)
  | tup {a : Addr} {xs : List V} {ds : List PV} : Hs a = some (.tup xs) → ds.length ≤ sizeLine → RepVs T Hs xs ds → RepV T Hs (.ref a) (.tup ds)
  | dct {a : Addr} {ks : List (Key × V)} {ds : List (PV × PV)} : Rd Hs a (.dK ks) → ds.length ≤ sizeLine → RepKs T Hs ks ds → RepV T Hs (.ref a) (.dct ds)
  | obj {a c C dx : Addr} {fs : List (Str × V)} {ds : List (Nat × PV)} : Hs a = some (.ins C dx fs) → T.cls c = some C → RepFs T Hs fs ds → RepV T Hs (.ref a) (.obj c ds)
  | cls {c C : Addr} : T.cls c = some C → RepV T Hs (.ref C) (.cls c)
  | ty (n : Nat) : RepV T Hs (.ty (tyN n)) (.ty n)
inductive RepVs (T : Tb) (Hs : Hp) : List V → List PV → Prop
  | nil : RepVs T Hs [] []
  | cons {x : V} {d : PV} {xs : List V} {ds : List PV} : RepV T Hs x d → RepVs T Hs xs ds → RepVs T Hs (x :: xs) (d :: ds)
inductive RepKs (T : Tb) (Hs : Hp) : List (Key × V) → List (PV × PV) → Prop
  | nil : RepKs T Hs [] []
  | cons {k : Key} {e : PV} {x : V} {d : PV} {xs : List (Key × V)} {ds : List (PV × PV)} : KeyR k e → RepV T Hs x d → RepKs T Hs xs ds → RepKs T Hs ((k, x) :: xs) ((e, d) :: ds)
inductive RepFs (T : Tb) (Hs : Hp) : List (Str × V) → List (Nat × PV) → Prop
  | nil : RepFs T Hs [] []
  | cons {f : Nat} {x : V} {d : PV} {xs : List (Str × V)} {ds : List (Nat × PV)} : RepV T Hs x d → RepFs T Hs xs ds → RepFs T Hs ((nmS f, x) :: xs) ((f, d) :: ds)
end
section
variable {T : Tb} {Hs Hs' : Hp}
theorem SameT {K : PySem.W.Frag} {H H' : Hp} {a : Addr} {xs : List V} (e : Same H H') (h : SqT K H a xs) : SqT K H' a xs := by
  rcases h with (h | ⟨o, h⟩) | h
  · exact .inl (.inl (e _ _ h))
  · exact .inl (.inr ⟨o, e _ _ h⟩)
  · exact .inr h
theorem SameR {H H' : Hp} {a : Addr} {u : HO} (e : Same H H') (h : Rd H a u) : Rd H' a u := by
  rcases h with h | ⟨o, h⟩
  · exact .inl (e _ _ h)
  · exact .inr ⟨o, e _ _ h⟩
mutual
theorem RepV.mono (e : Same Hs Hs') : ∀ {v : V} {d : PV}, RepV T Hs v d → RepV T Hs' v d
  | _, _, .non => .non
  | _, _, .bl b => .bl b
  | _, _, .int b => .int b
  | _, _, .str b h => .str b h
  | _, _, .scr h z => .scr (e.seq h) z
  | _, _, .lst h z r => .lst (e _ _ h) z (RepVs.mono e r)
  | _, _, .tup h z r => .tup (e _ _ h) z (RepVs.mono e r)
  | _, _, .dct h z r => .dct (SameR e h) z (RepKs.mono e r)
  | _, _, .obj h c r => .obj (e _ _ h) c (RepFs.mono e r)
  | _, _, .cls h => .cls h
  | _, _, .ty n => .ty n
theorem RepVs.mono (e : Same Hs Hs') : ∀ {v : List V} {d : List PV}, RepVs T Hs v d → RepVs T Hs' v d
  | _, _, .nil => .nil
  | _, _, .cons h r => .cons (RepV.mono e h) (RepVs.mono e r)
theorem RepKs.mono (e : Same Hs Hs') : ∀ {v : List (Key × V)} {d : List (PV × PV)}, RepKs T Hs v d → RepKs T Hs' v d
  | _, _, .nil => .nil
  | _, _, .cons k h r => .cons k (RepV.mono e h) (RepKs.mono e r)
theorem RepFs.mono (e : Same Hs Hs') : ∀ {v : List (Str × V)} {d : List (Nat × PV)}, RepFs T Hs v d → RepFs T Hs' v d
  | _, _, .nil => .nil
  | _, _, .cons h r => .cons (RepV.mono e h) (RepFs.mono e r)
end
theorem RepVs.length : ∀ {v : List V} {d : List PV}, RepVs T Hs v d → v.length = d.length
  | _, _, .nil => rfl
  | _, _, .cons _ r => congrArg (· + 1) (RepVs.length r)
theorem RepKs.length : ∀ {v : List (Key × V)} {d : List (PV × PV)}, RepKs T Hs v d → v.length = d.length
  | _, _, .nil => rfl
  | _, _, .cons _ _ r => congrArg (· + 1) (RepKs.length r)
theorem RepVs.get : ∀ {v : List V} {d : List PV} {k : Nat} {e : PV}, RepVs T Hs v d → d[k]? = some e → ∃ x, v[k]? = some x ∧ RepV T Hs x e
  | _, _, k, e, .nil, h => by simp at h
  | _, _, 0, e, .cons q r, h => by simp at h; subst h; exact ⟨_, rfl, q⟩
  | _, _, k + 1, e, .cons q r, h => by
    obtain ⟨x, h1, h2⟩ := RepVs.get (k := k) (e := e) r (by simpa using h)
    exact ⟨x, by simpa using h1, h2⟩
theorem RepVs.of : ∀ {v : List V} {d : List PV}, v.length = d.length → (∀ (k : Nat) x e, v[k]? = some x → d[k]? = some e → RepV T Hs x e) → RepVs T Hs v d
  | [], [], _, _ => .nil
  | [], _ :: _, h, _ => by simp at h
  | _ :: _, [], h, _ => by simp at h
  | x :: v, e :: d, h, g => .cons (g 0 x e rfl rfl) (RepVs.of (by simpa using h) fun k x e h1 h2 => g (k + 1) x e (by simpa using h1) (by simpa using h2))
theorem RepVs.append {v v' : List V} {d d' : List PV} (h : RepVs T Hs v d) (h' : RepVs T Hs v' d') : RepVs T Hs (v ++ v') (d ++ d') := by
  induction v generalizing d with
  | nil => cases h; exact h'
  | cons x v ih => cases h with | cons q r => exact .cons q (ih r)
end
section
variable {T : Tb} {Hs Hs' H H' : Hp}
theorem RepKs.of : ∀ {v : List (Key × V)} {d : List (PV × PV)}, v.length = d.length → (∀ (k : Nat) q x q' e, v[k]? = some (q, x) → d[k]? = some (q', e) → KeyR q q' ∧ RepV T Hs x e) → RepKs T Hs v d
  | [], [], _, _ => .nil
  | [], _ :: _, h, _ => by simp at h
  | _ :: _, [], h, _ => by simp at h
  | (q, x) :: v, (q', e) :: d, h, g => .cons (g 0 q x q' e rfl rfl).1 (g 0 q x q' e rfl rfl).2 (RepKs.of (by simpa using h) fun k q x q' e h1 h2 => g (k + 1) q x q' e (by simpa using h1) (by simpa using h2))
theorem RepFs.of : ∀ {v : List (Str × V)} {d : List (Nat × PV)}, v.length = d.length → (∀ (k : Nat) g x f e, v[k]? = some (g, x) → d[k]? = some (f, e) → g = nmS f ∧ RepV T Hs x e) → RepFs T Hs v d
  | [], [], _, _ => .nil
  | [], _ :: _, h, _ => by simp at h
  | _ :: _, [], h, _ => by simp at h
  | (q, x) :: v, (q', e) :: d, h, g => by
    obtain ⟨rfl, h2⟩ := g 0 q x q' e rfl rfl
    exact .cons h2 (RepFs.of (by simpa using h) fun k q x q' e h1 h2 => g (k + 1) q x q' e (by simpa using h1) (by simpa using h2))
end
structure Tr (Hs H : Hp) (O : Addr → Prop) (Hs' H' : Hp) (O' : Addr → Prop) : Prop where
  mono : Same Hs Hs'
  keep : ∀ a o, H a = some o → Hs a = none → ¬ O a → H' a = some o
  there : ∀ a, H' a = none → H a = none
  new : ∀ a o, Hs' a = some o → Hs a = some o ∨ (Hs a = none ∧ (O a ∨ H a = none))
  newO : ∀ a, O' a → O a ∨ H a = none
section
variable {Hs H Hs1 H1 Hs2 H2 : Hp} {O O1 O2 : Addr → Prop}
theorem Tr.refl : Tr Hs H O Hs H O := ⟨Same.refl _, fun _ _ h _ _ => h, fun _ h => h, fun _ _ h => .inl h, fun _ h => .inl h⟩
theorem Tr.trans (x : Tr Hs H O Hs1 H1 O1) (y : Tr Hs1 H1 O1 Hs2 H2 O2) : Tr Hs H O Hs2 H2 O2 where
  mono := x.mono.trans y.mono
  keep := fun a o h hs ho => by
    have h1 := x.keep a o h hs ho
    have ne : H a ≠ none := by rw [h]; simp
    refine y.keep a o h1 ?_ ?_
    · cases q : Hs1 a with
      | none => rfl
      | some u =>
        rcases x.new a u q with z | ⟨_, z | z⟩
        · rw [hs] at z; cases z
        · exact absurd z ho
        · exact absurd z ne
    · intro z
      rcases x.newO a z with z | z
      · exact ho z
      · exact ne z
  there := fun a h => x.there a (y.there a h)
  new := fun a o h => by
    rcases y.new a o h with z | ⟨z, w⟩
    · exact x.new a o z
    · refine .inr ⟨?_, ?_⟩
      · cases q : Hs a with
        | none => rfl
        | some u => rw [x.mono a u q] at z; cases z
      · rcases w with w | w
        · exact x.newO a w
        · exact .inr (x.there a w)
  newO := fun a h => by
    rcases y.newO a h with z | z
    · exact x.newO a z
    · exact .inr (x.there a z)
end
/-- shared objects were made -/
inductive Grow (Hs H : Hp) : Hp → Hp → Prop
  | refl : Grow Hs H Hs H
  | new {Hs1 H1 : Hp} {p : Addr} {o : HO} : Grow Hs H Hs1 H1 → H1 p = none → Grow Hs H (upd Hs1 p o) (upd H1 p o)
theorem Grow.one {Hs H : Hp} {p : Addr} {o : HO} (h : H p = none) : Grow Hs H (upd Hs p o) (upd H p o) := .new .refl h
theorem Grow.trans {Hs H Hs1 H1 Hs2 H2 : Hp} (a : Grow Hs H Hs1 H1) (b : Grow Hs1 H1 Hs2 H2) : Grow Hs H Hs2 H2 := by
  induction b with
  | refl => exact a
  | new _ h ih => exact .new ih h
section
variable {T : Tb} {Hs Hs' H H' : Hp}
theorem Grow.same (sb : Same Hs H) (g : Grow Hs H Hs' H') : Same Hs Hs' ∧ Same H H' ∧ Same Hs' H' := by
  induction g with
  | refl => exact ⟨Same.refl _, Same.refl _, sb⟩
  | @new Hs1 H1 p o _ h ih =>
    obtain ⟨s1, s2, s3⟩ := ih
    have hn : Hs1 p = none := s3.free h
    exact ⟨s1.trans fun a u q => by rw [upd_ne (ne_of_none q hn)]; exact q, s2.trans fun a u q => by rw [upd_ne (ne_of_none q h)]; exact q, fun a u q => by
      by_cases e : a = p
      · subst e; rw [upd_same] at q ⊢; exact q
      · rw [upd_ne e] at q ⊢; exact s3 a u q⟩
theorem Grow.none (sb : Same Hs H) (g : Grow Hs H Hs' H') {a : Addr} (h : H a ≠ none) : Hs' a = Hs a ∧ H' a = H a := by
  induction g with
  | refl => exact ⟨rfl, rfl⟩
  | @new Hs1 H1 p o _ hp ih =>
    have ne : a ≠ p := fun z => h (by rw [← ih.2, z]; exact hp)
    rw [upd_ne ne, upd_ne ne]
    exact ih
theorem fields_none {fs : List (Str × V)} {ds : List (Nat × PV)} (h : RepFs T Hs fs ds) {m : Nat} (hm : m ∉ ds.map (·.1)) : fs.lookup (nmS m) = none := by
  induction fs generalizing ds with
  | nil => rfl
  | cons x fs ih =>
    cases h with
    | cons r rr =>
      rename_i f x d ds
      rw [List.lookup_cons]
      have ne : (nmS m == nmS f) = false := by
        rw [beq_eq_false_iff_ne]
        exact fun e => hm (by rw [nmS_inj e]; simp)
      rw [ne]
      exact ih rr fun hg => hm (by simp [hg])
theorem fields_get {fs : List (Str × V)} {ds : List (Nat × PV)} (h : RepFs T Hs fs ds) {f : Nat} {d : PV} (hd : ds.lookup f = some d) : ∃ v, fs.lookup (nmS f) = some v ∧ RepV T Hs v d := by
  induction fs generalizing ds with
  | nil => cases h; cases hd
  | cons x fs ih =>
    cases h with
    | cons r rr =>
      rename_i g x e ds
      rw [List.lookup_cons] at hd ⊢
      by_cases hg : f = g
      · subst hg
        simp only [beq_self_eq_true] at hd ⊢
        cases hd
        exact ⟨_, rfl, r⟩
      · have n1 : (f == g) = false := by rw [beq_eq_false_iff_ne]; exact hg
        have n2 : (nmS f == nmS g) = false := by
          rw [beq_eq_false_iff_ne]
          exact fun z => hg (nmS_inj z)
        rw [n1] at hd
        rw [n2]
        exact ih rr hd
/-- a value by values, no object made, the answer flat -/
def VA2 (T : Tb) (r : R2) (g : PV → PV → Option PV) : Prop := ∀ (x y : V) (d1 d2 d : PV) (Hx Hy H : Hp) (Q : VK), Same Hx H → Same Hy H → RepV T Hx x d1 → RepV T Hy y d2 → g d1 d2 = some d →
  (∀ v, (∀ Hs, RepV T Hs v d) → Q v H) → r x y H Q
/-- .. objects may be made -/
def VG2 (T : Tb) (r : R2) (g : PV → PV → Option PV) : Prop := ∀ (x y : V) (d1 d2 d : PV) (Hs H : Hp) (Q : VK), Same Hs H → RepV T Hs x d1 → RepV T Hs y d2 → g d1 d2 = some d →
  (∀ v Hs' H', Grow Hs H Hs' H' → RepV T Hs' v d → Q v H') → r x y H Q
def VA1 (T : Tb) (r : V → Hp → VK → Prop) (g : PV → Option PV) : Prop := ∀ (x : V) (d1 d : PV) (Hx H : Hp) (Q : VK), Same Hx H → RepV T Hx x d1 → g d1 = some d →
  (∀ v, (∀ Hs, RepV T Hs v d) → Q v H) → r x H Q
def VG1 (T : Tb) (r : V → Hp → VK → Prop) (g : PV → Option PV) : Prop := ∀ (x : V) (d1 d : PV) (Hs H : Hp) (Q : VK), Same Hs H → RepV T Hs x d1 → g d1 = some d →
  (∀ v Hs' H', Grow Hs H Hs' H' → RepV T Hs' v d → Q v H') → r x H Q
end
section
variable {T : Tb}
theorem PE.imp {X : Cx} {e : Expr} {t t' : TE} (h : PE X e t) (i : ∀ σ H Q, t' σ H Q → t σ H Q) : PE X e t' := ⟨fun pins s σ H Q I q => h.run pins s σ H Q I (i σ H Q q)⟩
theorem PT.imp {X : Cx} {e : Expr} {t t' : TT} (h : PT X e t) (i : ∀ σ H Q, t' σ H Q → t σ H Q) : PT X e t' := ⟨fun pins s σ H Q I q => h.run pins s σ H Q I (i σ H Q q)⟩
theorem PA.imp {X : Cx} {e : List Expr} {t t' : TA} (h : PA X e t) (i : ∀ σ H Q, t' σ H Q → t σ H Q) : PA X e t' := ⟨fun pos pins s σ H Q I q => h.run pos pins s σ H Q I (i σ H Q q)⟩
theorem PS.imp {X : Cx} {e : Stmt} {t t' : TS} (h : PS X e t) (i : ∀ D σ H, t' D σ H → t D σ H) : PS X e t' := ⟨fun pins s σ H Q I q => h.run pins s σ H Q I (i Q σ H q)⟩
theorem PSs.imp {X : Cx} {e : List Stmt} {t t' : TS} (h : PSs X e t) (i : ∀ D σ H, t' D σ H → t D σ H) : PSs X e t' := ⟨fun pins s σ H Q I q => h.run pins s σ H Q I (i Q σ H q)⟩
end
end HV

end

section
/-! Vt: tuple * 1, tuple * 0. -/
namespace HV
open PySem PySem.Spec PyProof.Rows L2
theorem tuple_mul1 (l : Addr) (items : Array Value) (n : Nat) (dd : Option Addr) (sl : Array (Option Value)) (u : Tok) :
    Meets (Builtin.«tuple.__mul__» ⟨[.ref l, .int 1 u], []⟩) (fun _ R s => s.heap.get? l = some { cls := .type "tuple", dict := dd, data := .seq items n, slots := sl } ∧ R (.ok (.ret (Value.ref l))) s) :=
  .of_wp fun prog w A R s h => by
    obtain ⟨hp, g, d, tk, os⟩ := s
    obtain ⟨hl, h⟩ := h
    have f1 := AutoSeq1.idx_int
    wp_walk using wpAny_loadPart' hl
    repeat (first
      | (refine wpAny_ite_true (decide_eq_true (by rw [Bool.or_eq_true]; exact .inr rfl)) ?_; wp_walk using wpAny_loadPart' hl)
      | (refine wpAny_ite_false (decide_eq_false (by decide)) ?_; wp_walk using wpAny_loadPart' hl))
    exact ⟨_, rfl, h⟩
theorem tuple_mul0 (l : Addr) (items : Array Value) (n : Nat) (dd : Option Addr) (sl : Array (Option Value)) (u : Tok) (c1 : (items.isEmpty || (0 : Int) == 1) = false) :
    Meets (Builtin.«tuple.__mul__» ⟨[.ref l, .int 0 u], []⟩) (fun _ R s => s.heap.get? l = some { cls := .type "tuple", dict := dd, data := .seq items n, slots := sl } ∧
      R (.ok (.ret (Value.ref s.heap.objs.size))) { s with heap := s.heap.push { cls := Value.type "tuple", data := Data.seq #[] }, toks := s.toks }) :=
  .of_wp fun prog w A R s h => by
    obtain ⟨hp, g, d, tk, os⟩ := s
    obtain ⟨hl, h⟩ := h
    have f1 := AutoSeq1.idx_int
    wp_walk using wpAny_loadPart' hl
    repeat (first
      | (refine wpAny_ite_false (decide_eq_false (by rw [c1]; exact Bool.false_ne_true)) ?_; wp_walk using wpAny_loadPart' hl)
      | (refine wpAny_ite_true (decide_eq_true (by rw [Bool.or_eq_true]; exact .inl rfl)) ?_; wp_walk using wpAny_loadPart' hl)
      | (refine wpAny_ite_false (decide_eq_false (by decide)) ?_; wp_walk using wpAny_loadPart' hl))
    exact ⟨_, rfl, h⟩
def rRepS (K : PySem.W.Frag) : R2 := fun x y H Q => ∃ l k xs, x = .ref l ∧ y = .int k ∧ SqT K H l xs ∧ xs ≠ [] ∧ ((k = 1 ∧ Q (.ref l) H) ∨ (k = 0 ∧ ∀ p, H p = none → Q (.ref p) (upd H p (.tup []))))
section
variable {X : Cx}
theorem op_repS : OpR X (binaryOp .Mult) (rRepS X.K) := by
  intro pins s σ H x y v u Q I rx ry h
  obtain ⟨l, k, xs, rfl, rfl, hT, hne, hk⟩ := h
  cases rx
  obtain ⟨t, rfl⟩ := ry
  obtain ⟨its, r, ⟨⟨cls, dd, data, sl⟩, ho, hc, n, hd⟩, hs⟩ := I.tuple hT
  simp only at hc hd
  subst hc hd
  have hle : its.length = xs.length := r.length.symm
  have hn : its ≠ [] := fun e => hne (by
    rw [e] at hle
    exact List.eq_nil_of_length_eq_zero hle.symm)
  have hi : its.toArray.isEmpty = false := by
    cases its with
    | nil => exact absurd rfl hn
    | cons a b => rfl
  rcases hk with ⟨rfl, q⟩ | ⟨rfl, q⟩
  · refine wpAny_binaryOp_repeat_ref (T := "tuple") (U := "int") (by decide) ⟨_, ho, rfl⟩ (fun s' => typeIs_int s' 1 t) noFill_tuple_mul F.fills_int_mul F.slot_int_rmul repeat_tuple F.slot_int_index.lookup
      (call_meets F.slot_int_rmul (typeIs_int s 1 t) F.entry_int_rmul (F.args_int_rmul_2 _ _) (int_rmul_tuple 1 t l its.toArray n dd sl)
        ⟨ho, rfl, ⟨_, ho, rfl⟩, call_meets F.slot_tuple_mul ⟨_, ho, rfl⟩ F.entry_tuple_mul (F.args_tuple_mul_2 _ _) (tuple_mul1 l its.toArray n dd sl t) ⟨ho, ?_⟩⟩)
    exact ⟨.ref l, H, I, rfl, q⟩
  · refine wpAny_binaryOp_repeat_ref (T := "tuple") (U := "int") (by decide) ⟨_, ho, rfl⟩ (fun s' => typeIs_int s' 0 t) noFill_tuple_mul F.fills_int_mul F.slot_int_rmul repeat_tuple F.slot_int_index.lookup
      (call_meets F.slot_int_rmul (typeIs_int s 0 t) F.entry_int_rmul (F.args_int_rmul_2 _ _) (int_rmul_tuple 0 t l its.toArray n dd sl)
        ⟨ho, rfl, ⟨_, ho, rfl⟩, call_meets F.slot_tuple_mul ⟨_, ho, rfl⟩ F.entry_tuple_mul (F.args_tuple_mul_2 _ _) (tuple_mul0 l its.toArray n dd sl t (by rw [hi]; rfl)) ⟨ho, ?_⟩⟩)
    refine ⟨.ref s.heap.objs.size, _, I.laid (t' := s.toks) (o := .tup []) (fun b ob q => Heap.get?_push_of_some _ q) (Nat.le_refl _) ?_, rfl, q _ (I.hok.fresh (Nat.le_refl _))⟩
    exact ⟨Nat.zero_le _, _, .nil, IsTup.new _ _⟩
end
end HV

end

section
/-! V2: operators and comparisons by trees, over the hand layer's rules. -/
namespace HV
open PySem PySem.Spec PyProof.Rows L2
theorem lim_eq : LIM = sizeLine := by rw [sizeLine_eq]; rfl
section
variable {T : Tb} {Hs H Hs' H' : Hp} {X : Cx}
theorem tx_len (s : Txt) : (tx s).length = s.length := by simp [tx, Str.length]
theorem tx_app (s t : Txt) : tx s ++ tx t = tx (s ++ t) := by
  show (⟨(tx s).cps ++ (tx t).cps⟩ : Str) = _
  simp [tx]
theorem tx_inj {s t : Txt} (h : tx s = tx t) : s = t := by
  have := congrArg (fun z : Str => z.cps.toList) h
  simpa [tx] using this
theorem OpR.mono {f : Value → Value → Sem Value} {r r' : R2} (h : OpR X f r) (k : ∀ x y H Q, r' x y H Q → r x y H Q) : OpR X f r' := fun pins s σ H x y v u Q I rx ry q => h pins s σ H x y v u Q I rx ry (k x y H Q q)
/-- an operator by trees -/
def rG2 (T : Tb) (g : PV → PV → Option PV) : R2 := fun x y H Q => ∃ Hs d1 d2 d, Same Hs H ∧ RepV T Hs x d1 ∧ RepV T Hs y d2 ∧ g d1 d2 = some d ∧ ∀ v Hs' H', Grow Hs H Hs' H' → RepV T Hs' v d → Q v H'
theorem vg_rG2 (g : PV → PV → Option PV) : VG2 T (rG2 T g) g := fun x y d1 d2 d Hs H Q s r1 r2 e k => ⟨Hs, d1, d2, d, s, r1, r2, e, k⟩
/-- .. flat, nothing made -/
def rA2 (T : Tb) (g : PV → PV → Option PV) : R2 := fun x y H Q => ∃ Hx Hy d1 d2 d, Same Hx H ∧ Same Hy H ∧ RepV T Hx x d1 ∧ RepV T Hy y d2 ∧ g d1 d2 = some d ∧ ∀ v, (∀ Hs, RepV T Hs v d) → Q v H
theorem va_rA2 (g : PV → PV → Option PV) : VA2 T (rA2 T g) g := fun x y d1 d2 d Hx Hy H Q s1 s2 r1 r2 e k => ⟨Hx, Hy, d1, d2, d, s1, s2, r1, r2, e, k⟩
theorem bin_add (hK : T.K = X.K) : OpR X (binaryOp .Add) (rG2 T addV) := by
  refine OpR.mono (OpR.or op_add (OpR.or op_add_str (OpR.or op_cat op_catA))) fun x y H Q h => ?_
  obtain ⟨Hs, d1, d2, d, s, r1, r2, e, k⟩ := h
  cases r1 with
  | int i =>
    cases r2 with
    | int j => cases e; exact .inl ⟨i, j, rfl, rfl, k _ Hs H .refl (.int _)⟩
    | _ => cases e
  | str a ha =>
    cases r2 with
    | str b hb =>
      simp only [addV] at e
      by_cases hl : a.length + b.length ≤ LIM
      · rw [if_pos hl] at e
        cases e
        rw [lim_eq] at hl
        refine .inr (.inl ⟨_, _, rfl, rfl, by rw [tx_len, tx_len]; exact hl, ?_⟩)
        rw [tx_app]
        exact k _ Hs H .refl (.str _ ⟨by rw [List.length_append]; exact hl, fun c hc => (List.mem_append.mp hc).elim (ha.2 c) (hb.2 c)⟩)
      · rw [if_neg hl] at e; cases e
    | _ => cases e
  | lst h1 z1 q1 =>
    rename_i a xs ds
    cases r2 with
    | lst h2 z2 q2 =>
      rename_i b ys es
      simp only [addV] at e
      by_cases hl : ds.length + es.length ≤ LIM
      · rw [if_pos hl] at e
        cases e
        rw [lim_eq] at hl
        refine .inr (.inr (.inl ⟨a, b, xs, ys, rfl, rfl, s _ _ h1, s _ _ h2, by rw [q1.length, q2.length]; exact hl, fun p hp => ?_⟩))
        have sb : Same Hs (upd Hs p (.lst (xs ++ ys))) := ((Grow.one (o := .lst (xs ++ ys)) hp).same s).1
        exact k _ _ _ (Grow.one hp) (.lst upd_same (by rw [List.length_append]; exact hl) ((q1.append q2).mono sb))
      · rw [if_neg hl] at e; cases e
    | _ => cases e
  | tup h1 z1 q1 =>
    rename_i a xs ds
    cases r2 with
    | tup h2 z2 q2 =>
      rename_i b ys es
      simp only [addV] at e
      by_cases hl : ds.length + es.length ≤ LIM
      · rw [if_pos hl] at e
        cases e
        rw [lim_eq] at hl
        refine .inr (.inr (.inr ⟨a, b, xs, ys, rfl, rfl, SqT.of (s _ _ h1), SqT.of (s _ _ h2), by rw [q1.length, q2.length]; exact hl, fun hx => ?_, fun hx hy => ?_, fun hx hy p hp => ?_⟩))
        · subst hx
          cases q1
          exact k _ _ _ .refl (.tup h2 z2 q2)
        · subst hy
          cases q2
          rw [List.append_nil] at k
          exact k _ _ _ .refl (.tup h1 z1 q1)
        · have sb : Same Hs (upd Hs p (.tup (xs ++ ys))) := ((Grow.one (o := .tup (xs ++ ys)) hp).same s).1
          exact k _ _ _ (Grow.one hp) (.tup upd_same (by rw [List.length_append]; exact hl) ((q1.append q2).mono sb))
      · rw [if_neg hl] at e; cases e
    | _ => cases e
  | _ => cases e
theorem bin_sub : OpR X (binaryOp .Sub) (rG2 T subV) := by
  refine OpR.mono op_sub fun x y H Q h => ?_
  obtain ⟨Hs, d1, d2, d, s, r1, r2, e, k⟩ := h
  cases r1 with
  | int i =>
    cases r2 with
    | int j => cases e; exact ⟨i, j, rfl, rfl, k _ Hs H .refl (.int _)⟩
    | _ => cases e
  | _ => cases e
theorem RepVs.flatten (h : RepVs T Hs xs ds) : ∀ n : Nat, RepVs T Hs (List.replicate n xs).flatten (List.replicate n ds).flatten
  | 0 => .nil
  | n + 1 => by
    rw [List.replicate_succ, List.replicate_succ, List.flatten_cons, List.flatten_cons]
    exact h.append (RepVs.flatten h n)
theorem bin_mul (hK : T.K = X.K) : OpR X (binaryOp .Mult) (rG2 T mulV) := by
  refine OpR.mono (OpR.or op_mulW (OpR.or op_rep (OpR.or op_repT op_repS))) fun x y H Q h => ?_
  obtain ⟨Hs, d1, d2, d, s, r1, r2, e, k⟩ := h
  cases r1 with
  | int i =>
    cases r2 with
    | int j =>
      simp only [mulV] at e
      by_cases hl : i.natAbs.log2 + j.natAbs.log2 < 1000000
      · rw [if_pos hl] at e
        cases e
        exact .inl ⟨i, j, rfl, rfl, hl, k _ Hs H .refl (.int _)⟩
      · rw [if_neg hl] at e; cases e
    | _ => cases e
  | lst h1 z1 q1 =>
    rename_i a xs ds
    cases r2 with
    | int j =>
      simp only [mulV] at e
      by_cases hl : -9223372036854775808 ≤ j ∧ j < 9223372036854775808 ∧ ds.length * j.toNat ≤ LIM
      · rw [if_pos hl] at e
        cases e
        rw [lim_eq] at hl
        refine .inr (.inl ⟨a, j, xs, rfl, rfl, s _ _ h1, by omega, by omega, by rw [q1.length]; exact hl.2.2, fun p hp => ?_⟩)
        have sb : Same Hs (upd Hs p (.lst (List.replicate j.toNat xs).flatten)) := ((Grow.one (o := .lst (List.replicate j.toNat xs).flatten) hp).same s).1
        exact k _ _ _ (Grow.one hp) (.lst upd_same (by rw [PyProof.Rows.lm_len_rep_flat, Nat.mul_comm]; exact hl.2.2) ((q1.flatten _).mono sb))
      · rw [if_neg hl] at e; cases e
    | _ => cases e
  | tup h1 z1 q1 =>
    rename_i a xs ds
    cases r2 with
    | int j =>
      simp only [mulV] at e
      by_cases hl : ds ≠ [] ∧ 0 ≤ j ∧ j ≤ 1000 ∧ ds.length ≤ 1000
      · rw [if_pos hl] at e
        cases e
        have hne : xs ≠ [] := fun z => by subst z; cases q1; exact hl.1 rfl
        by_cases h2 : 2 ≤ j
        · refine .inr (.inr (.inl ⟨a, j, xs, rfl, rfl, SqT.of (s _ _ h1), hne, h2, hl.2.2.1, by rw [q1.length]; exact hl.2.2.2, fun p hp => ?_⟩))
          have sb : Same Hs (upd Hs p (.tup (List.replicate j.toNat xs).flatten)) := ((Grow.one (o := .tup (List.replicate j.toNat xs).flatten) hp).same s).1
          refine k _ _ _ (Grow.one hp) (.tup upd_same ?_ ((q1.flatten _).mono sb))
          rw [PyProof.Rows.lm_len_rep_flat, sizeLine_eq]
          have a1 : j.toNat * ds.length ≤ 1000 * 1000 := Nat.mul_le_mul (by omega) hl.2.2.2
          omega
        · by_cases h3 : j = 1
          · subst h3
            refine .inr (.inr (.inr ⟨a, 1, xs, rfl, rfl, SqT.of (s _ _ h1), hne, .inl ⟨rfl, ?_⟩⟩))
            refine k _ _ _ .refl ?_
            have : (List.replicate (1 : Int).toNat ds).flatten = ds := by simp
            rw [this]
            exact .tup h1 z1 q1
          · have h4 : j = 0 := by omega
            subst h4
            refine .inr (.inr (.inr ⟨a, 0, xs, rfl, rfl, SqT.of (s _ _ h1), hne, .inr ⟨rfl, fun p hp => ?_⟩⟩))
            exact k _ _ _ (Grow.one hp) (.tup upd_same (Nat.zero_le _) .nil)
      · rw [if_neg hl] at e; cases e
    | _ => cases e
  | _ => cases e
theorem bin_fdiv : OpR X (binaryOp .FloorDiv) (rG2 T fdivV) := by
  refine OpR.mono op_fdivW fun x y H Q h => ?_
  obtain ⟨Hs, d1, d2, d, s, r1, r2, e, k⟩ := h
  cases r1 with
  | int i =>
    cases r2 with
    | int j =>
      simp only [fdivV] at e
      by_cases hl : 0 < j ∧ j.natAbs.log2 < 9000
      · rw [if_pos hl] at e
        cases e
        exact ⟨i, j, rfl, rfl, hl, k _ Hs H .refl (.int _)⟩
      · rw [if_neg hl] at e; cases e
    | _ => cases e
  | _ => cases e
theorem bin_mod : OpR X (binaryOp .Mod) (rG2 T modV) := by
  refine OpR.mono op_mod fun x y H Q h => ?_
  obtain ⟨Hs, d1, d2, d, s, r1, r2, e, k⟩ := h
  cases r1 with
  | int i =>
    cases r2 with
    | int j =>
      simp only [modV] at e
      by_cases hl : 0 < j
      · rw [if_pos hl] at e
        cases e
        exact ⟨i, j, rfl, rfl, hl, k _ Hs H .refl (.int _)⟩
      · rw [if_neg hl] at e; cases e
    | _ => cases e
  | _ => cases e
theorem bin_pow : OpR X (binaryOp .Pow) (rG2 T powV) := by
  refine OpR.mono op_pow fun x y H Q h => ?_
  obtain ⟨Hs, d1, d2, d, s, r1, r2, e, k⟩ := h
  cases r1 with
  | int i =>
    cases r2 with
    | int j =>
      simp only [powV] at e
      by_cases hl : 0 ≤ j ∧ j ≤ 1000000 ∧ i.natAbs < 18446744073709551616
      · rw [if_pos hl] at e
        cases e
        exact ⟨i, j, rfl, rfl, ⟨hl.1, hl.2.1, hl.2.2⟩, k _ Hs H .refl (.int _)⟩
      · rw [if_neg hl] at e; cases e
    | _ => cases e
  | _ => cases e
/-! ### data -/
mutual
def toD : PV → PyData
  | .bl b => .bool b
  | .int i => .int i
  | .str s => .str (tx s)
  | .lst xs => .list (toDs xs)
  | .tup xs => .tuple (toDs xs)
  | _ => .none
def toDs : List PV → List PyData
  | [] => []
  | x :: xs => toD x :: toDs xs
end
mutual
theorem RepV.dp (s : Same Hs H) : ∀ {n : Nat} {v : V} {d : PV}, RepV T Hs v d → dataP n d = true → Dp T.K H v (toD d)
  | _, _, _, .non, _ => .non
  | _, _, _, .bl b, _ => .bl b
  | _, _, _, .int b, _ => .int b
  | _, _, _, .str b _, _ => .str _
  | 0, _, _, .lst h z r, e => by simp [dataP] at e
  | n + 1, _, _, .lst h z r, e => .lst (SqL.of (s _ _ h)) (RepVs.dp s r (n := n) (by simpa [dataP] using e))
  | 0, _, _, .tup h z r, e => by simp [dataP] at e
  | n + 1, _, _, .tup h z r, e => .tup (SqT.of (s _ _ h)) (RepVs.dp s r (n := n) (by simpa [dataP] using e))
  | n, _, _, .dct h z r, e => by cases n <;> simp [dataP] at e
  | n, _, _, .obj h c r, e => by cases n <;> simp [dataP] at e
  | n, _, _, .cls h, e => by cases n <;> simp [dataP] at e
  | n, _, _, .ty _, e => by cases n <;> simp [dataP] at e
  | n, _, _, .scr _ _, e => by cases n <;> simp [dataP] at e
theorem RepVs.dp (s : Same Hs H) : ∀ {n : Nat} {v : List V} {d : List PV}, RepVs T Hs v d → dataPs n d = true → DpAll T.K H v (toDs d)
  | _, _, _, .nil, _ => .nil
  | n, _, _, .cons h r, e => by
    simp only [dataPs, Bool.and_eq_true] at e
    exact .cons (RepV.dp s h e.1) (RepVs.dp s r e.2)
end
end
section
variable {T : Tb} {Hs H Hs' H' : Hp} {X : Cx}
theorem tx_ok {s : Txt} (h : ∀ c ∈ s, c < 1114112) : PyData.strOk (tx s) = true := by
  unfold PyData.strOk tx
  rw [Array.all_eq_true]
  intro i hi
  simp only [decide_eq_true_eq]
  exact h _ (by simp)
mutual
theorem RepV.lay : ∀ {n : Nat} {v : V} {d : PV}, RepV T Hs v d → dataP n d = true → (toD d).canLay0 = true
  | _, _, _, .non, _ => by simp [toD, PyData.canLay0]
  | _, _, _, .bl b, _ => by simp [toD, PyData.canLay0]
  | _, _, _, .int b, _ => by simp [toD, PyData.canLay0]
  | _, _, _, .str b h, _ => by simp only [toD, PyData.canLay0]; exact tx_ok h.2
  | 0, _, _, .lst h z r, e => by simp [dataP] at e
  | n + 1, _, _, .lst h z r, e => by simp only [toD, PyData.canLay0]; exact RepVs.lay r (n := n) (by simpa [dataP] using e)
  | 0, _, _, .tup h z r, e => by simp [dataP] at e
  | n + 1, _, _, .tup h z r, e => by simp only [toD, PyData.canLay0]; exact RepVs.lay r (n := n) (by simpa [dataP] using e)
  | n, _, _, .dct h z r, e => by cases n <;> simp [dataP] at e
  | n, _, _, .obj h c r, e => by cases n <;> simp [dataP] at e
  | n, _, _, .cls h, e => by cases n <;> simp [dataP] at e
  | n, _, _, .ty _, e => by cases n <;> simp [dataP] at e
  | n, _, _, .scr _ _, e => by cases n <;> simp [dataP] at e
theorem RepVs.lay : ∀ {n : Nat} {v : List V} {d : List PV}, RepVs T Hs v d → dataPs n d = true → PyData.canLayAll0 (toDs d) = true
  | _, _, _, .nil, _ => by simp [toDs, PyData.canLayAll0]
  | n, _, _, .cons h r, e => by
    simp only [dataPs, Bool.and_eq_true] at e
    simp only [toDs, PyData.canLayAll0, Bool.and_eq_true]
    exact ⟨RepV.lay h e.1, RepVs.lay r e.2⟩
end
mutual
theorem deep_toD : ∀ (n : Nat) (d : PV), dataP n d = true → (toD d).depth ≤ n
  | n, .non, _ => by simp [toD, PyData.depth]
  | n, .bl _, _ => by simp [toD, PyData.depth]
  | n, .int _, _ => by simp [toD, PyData.depth]
  | n, .str _, _ => by simp [toD, PyData.depth]
  | 0, .lst xs, e => by simp [dataP] at e
  | n + 1, .lst xs, e => by
    simp only [toD, PyData.depth]
    exact Nat.succ_le_succ (deep_toDs n xs (by simpa [dataP] using e))
  | 0, .tup xs, e => by simp [dataP] at e
  | n + 1, .tup xs, e => by
    simp only [toD, PyData.depth]
    exact Nat.succ_le_succ (deep_toDs n xs (by simpa [dataP] using e))
  | n, .dct _, e => by cases n <;> simp [dataP] at e
  | n, .obj _ _, e => by cases n <;> simp [dataP] at e
  | n, .cls _, e => by cases n <;> simp [dataP] at e
  | n, .ty _, e => by cases n <;> simp [dataP] at e
  | n, .scr _, e => by cases n <;> simp [dataP] at e
theorem deep_toDs : ∀ (n : Nat) (d : List PV), dataPs n d = true → PyData.depthAll (toDs d) ≤ n
  | n, [], _ => by simp [toDs, PyData.depthAll]
  | n, x :: xs, e => by
    simp only [dataPs, Bool.and_eq_true] at e
    simp only [toDs, PyData.depthAll]
    exact Nat.max_le.mpr ⟨deep_toD n x e.1, deep_toDs n xs e.2⟩
end
theorem tx_beq (s t : Txt) : (tx s == tx t) = (s == t) := by
  by_cases h : s = t
  · subst h; simp
  · have : tx s ≠ tx t := fun z => h (tx_inj z)
    rw [beq_eq_false_iff_ne.mpr this, beq_eq_false_iff_ne.mpr h]
mutual
theorem eqv_toD : ∀ (n m : Nat) (a b : PV), dataP n a = true → dataP m b = true → PyData.eqv (toD a) (toD b) = eqvP a b
  | n, m, .lst xs, .lst ys, ha, hb => by
    cases n with
    | zero => simp [dataP] at ha
    | succ n =>
      cases m with
      | zero => simp [dataP] at hb
      | succ m =>
        simp only [toD, PyData.eqv, eqvP]
        exact eqv_toDs n m xs ys (by simpa [dataP] using ha) (by simpa [dataP] using hb)
  | n, m, .tup xs, .tup ys, ha, hb => by
    cases n with
    | zero => simp [dataP] at ha
    | succ n =>
      cases m with
      | zero => simp [dataP] at hb
      | succ m =>
        simp only [toD, PyData.eqv, eqvP]
        exact eqv_toDs n m xs ys (by simpa [dataP] using ha) (by simpa [dataP] using hb)
  | n, m, .str s, .str t, _, _ => by simp only [toD, PyData.eqv, eqvP, tx_beq]
  | n, m, .non, b, _, hb => by cases b <;> first | (simp [toD, PyData.eqv, eqvP]; done) | (cases m <;> simp [dataP] at hb)
  | n, m, .bl _, b, _, hb => by cases b <;> first | (simp [toD, PyData.eqv, eqvP]; done) | (cases m <;> simp [dataP] at hb)
  | n, m, .int _, b, _, hb => by cases b <;> first | (simp [toD, PyData.eqv, eqvP]; done) | (cases m <;> simp [dataP] at hb)
  | n, m, .str _, .non, _, _ => by simp [toD, PyData.eqv, eqvP]
  | n, m, .str _, .bl _, _, _ => by simp [toD, PyData.eqv, eqvP]
  | n, m, .str _, .int _, _, _ => by simp [toD, PyData.eqv, eqvP]
  | n, m, .str _, .lst _, _, _ => by simp [toD, PyData.eqv, eqvP]
  | n, m, .str _, .tup _, _, _ => by simp [toD, PyData.eqv, eqvP]
  | n, m, .lst _, .non, _, _ => by simp [toD, PyData.eqv, eqvP]
  | n, m, .lst _, .bl _, _, _ => by simp [toD, PyData.eqv, eqvP]
  | n, m, .lst _, .int _, _, _ => by simp [toD, PyData.eqv, eqvP]
  | n, m, .lst _, .str _, _, _ => by simp [toD, PyData.eqv, eqvP]
  | n, m, .lst _, .tup _, _, _ => by simp [toD, PyData.eqv, eqvP]
  | n, m, .tup _, .non, _, _ => by simp [toD, PyData.eqv, eqvP]
  | n, m, .tup _, .bl _, _, _ => by simp [toD, PyData.eqv, eqvP]
  | n, m, .tup _, .int _, _, _ => by simp [toD, PyData.eqv, eqvP]
  | n, m, .tup _, .str _, _, _ => by simp [toD, PyData.eqv, eqvP]
  | n, m, .tup _, .lst _, _, _ => by simp [toD, PyData.eqv, eqvP]
  | n, m, a, .dct _, _, hb => by cases m <;> simp [dataP] at hb
  | n, m, a, .obj _ _, _, hb => by cases m <;> simp [dataP] at hb
  | n, m, a, .cls _, _, hb => by cases m <;> simp [dataP] at hb
  | n, m, a, .ty _, _, hb => by cases m <;> simp [dataP] at hb
  | n, m, a, .scr _, _, hb => by cases m <;> simp [dataP] at hb
  | n, m, .dct _, b, ha, _ => by cases n <;> simp [dataP] at ha
  | n, m, .obj _ _, b, ha, _ => by cases n <;> simp [dataP] at ha
  | n, m, .cls _, b, ha, _ => by cases n <;> simp [dataP] at ha
  | n, m, .ty _, b, ha, _ => by cases n <;> simp [dataP] at ha
  | n, m, .scr _, b, ha, _ => by cases n <;> simp [dataP] at ha
theorem eqv_toDs : ∀ (n m : Nat) (a b : List PV), dataPs n a = true → dataPs m b = true → PyData.eqvAll (toDs a) (toDs b) = eqvPs a b
  | n, m, [], [], _, _ => by simp [toDs, PyData.eqvAll, eqvPs]
  | n, m, [], _ :: _, _, _ => by simp [toDs, PyData.eqvAll, eqvPs]
  | n, m, _ :: _, [], _, _ => by simp [toDs, PyData.eqvAll, eqvPs]
  | n, m, x :: xs, y :: ys, ha, hb => by
    simp only [dataPs, Bool.and_eq_true] at ha hb
    simp only [toDs, PyData.eqvAll, eqvPs]
    rw [eqv_toD n m x y ha.1 hb.1, eqv_toDs n m xs ys ha.2 hb.2]
end
theorem RepV.shaped {v : V} {d : PV} (h : RepV T Hs v d) (e : dataP 60 d = true) : SeqAt.shaped (toD d) = true := by
  unfold SeqAt.shaped
  rw [Bool.and_eq_true]
  exact ⟨h.lay e, decide_eq_true (Nat.le_trans (deep_toD 60 d e) (by decide))⟩
theorem key_eq0 {k q : Key} {e q' : PV} (kr : KeyR k e) (kq : KeyR q q') : eqvP e q' = decide (k = q) := by
  cases kr with
  | int i =>
    cases kq with
    | int j =>
      simp only [eqvP]
      by_cases z : i = j
      · subst z; simp
      · rw [beq_eq_false_iff_ne.mpr z, decide_eq_false (fun w => z (Sum.inl.inj w))]
    | str t => rw [decide_eq_false (fun w => nomatch w)]; rfl
  | str s =>
    cases kq with
    | int j => rw [decide_eq_false (fun w => nomatch w)]; rfl
    | str t =>
      simp only [eqvP]
      by_cases z : s = t
      · subst z; simp
      · rw [beq_eq_false_iff_ne.mpr z, decide_eq_false (fun w => z (tx_inj (Sum.inr.inj w)))]
theorem dget_rep0 : ∀ {ks : List (Key × V)} {ds : List (PV × PV)} {q : Key} {q' d : PV}, RepKs T Hs ks ds → KeyR q q' → dGet ds q' = some d → ∃ v, valV ks q = some v ∧ RepV T Hs v d
  | _, _, _, _, _, .nil, _, h => nomatch h
  | _, _, q, q', d, .cons (k := k) (e := e) kr rx rr, kq, h => by
    simp only [dGet] at h
    rw [key_eq0 kr kq] at h
    by_cases z : k = q
    · rw [decide_eq_true z, if_pos rfl] at h
      cases h
      exact ⟨_, valV_pos (p := (k, _)) z, rx⟩
    · rw [decide_eq_false z, if_neg Bool.false_ne_true] at h
      rw [valV_neg (p := (k, _)) z]
      exact dget_rep0 rr kq h
theorem repks_mem : ∀ {ks : List (Key × V)} {ds : List (PV × PV)} {p : Key × V}, RepKs T Hs ks ds → p ∈ ks → ∃ kv ∈ ds, KeyR p.1 kv.1 ∧ RepV T Hs p.2 kv.2
  | _, _, _, .nil, h => nomatch h
  | _, _, p, .cons kr rx rr, h => by
    cases h with
    | head => exact ⟨_, List.mem_cons_self, kr, rx⟩
    | tail _ h =>
      obtain ⟨kv, hm, z⟩ := repks_mem rr h
      exact ⟨kv, List.mem_cons_of_mem _ hm, z⟩
theorem same_of {v w : V} {d e : PV} (h : RepV T Hs v d) (h' : RepV T Hs' w e) (q : sameP d e = true) : w = v ∧ flatB v = true := by
  cases d <;> cases e <;> first
    | (cases q; done)
    | (cases h; cases h'; exact ⟨rfl, rfl⟩)
    | (cases h; cases h'; simp only [sameP, beq_iff_eq] at q; subst q; exact ⟨rfl, rfl⟩)
theorem eqDD_rep {x y : V} {d1 d2 : PV} {t : Bool} (s1 : Same Hs H) (s2 : Same Hs' H) (r1 : RepV T Hs x d1) (r2 : RepV T Hs' y d2) (e : eqDD d1 d2 = some t) :
    t = true ∧ ∃ a b ks ls, x = .ref a ∧ y = .ref b ∧ Rd H a (.dK ks) ∧ Rd H b (.dK ls) ∧ ks.length = ls.length ∧ ∀ p ∈ ks, valV ls p.1 = some p.2 ∧ flatB p.2 = true := by
  cases r1 with
  | dct h1 z1 q1 =>
    cases r2 with
    | dct h2 z2 q2 =>
      rename_i a ks ds b ls es
      simp only [eqDD] at e
      split at e
      · rename_i hc
        cases e
        refine ⟨rfl, a, b, ks, ls, rfl, rfl, SameR s1 h1, SameR s2 h2, by rw [q1.length, q2.length]; exact hc.1, fun p hp => ?_⟩
        obtain ⟨kv, hm, kr, rv⟩ := repks_mem q1 hp
        have hall := List.all_eq_true.mp hc.2 kv hm
        cases g : dGet es kv.1 with
        | none => rw [g] at hall; cases hall
        | some w =>
          rw [g] at hall
          obtain ⟨v, gv, rw'⟩ := dget_rep0 q2 kr g
          obtain ⟨e1, e2⟩ := same_of rv rw' hall
          exact ⟨e1 ▸ gv, e2⟩
      · cases e
    | _ => cases e
  | _ => cases e
theorem op_eq_dictR (hu : X.A.units < cLine) : OpR X (compareOp .Eq) (fun x y H Q => ∃ a b ks ls, x = .ref a ∧ y = .ref b ∧ Rd H a (.dK ks) ∧ Rd H b (.dK ls) ∧ ks.length = ls.length ∧ (∀ p ∈ ks, valV ls p.1 = some p.2 ∧ flatB p.2 = true) ∧ Q (.bl true) H) := by
  intro pins s σ H x y v u Q I rx ry h
  obtain ⟨a, b, ks, ls, rfl, rfl, ea, eb, hlen, hp, q⟩ := h
  obtain rfl : v = Value.ref a := rx
  obtain rfl : u = Value.ref b := ry
  obtain ⟨_, ya, va, ra, da⟩ := dk_rd I.hok ea
  obtain ⟨_, yb, vb, rb, db⟩ := dk_rd I.hok eb
  have hl : va.length = vb.length := by rw [← ra.length, ← rb.length]; exact hlen
  exact PySem.W.keq_eq (knd := mixKind X.prog X.w) (r := true) ya yb da db hu (fun _ => hits_all rb ra hp) (fin_bl I q (by simp [hl]))
theorem op_ne_dictR (hu : X.A.units < cLine) : OpR X (compareOp .NotEq) (fun x y H Q => ∃ a b ks ls, x = .ref a ∧ y = .ref b ∧ Rd H a (.dK ks) ∧ Rd H b (.dK ls) ∧ ks.length = ls.length ∧ (∀ p ∈ ks, valV ls p.1 = some p.2 ∧ flatB p.2 = true) ∧ Q (.bl false) H) := by
  intro pins s σ H x y v u Q I rx ry h
  obtain ⟨a, b, ks, ls, rfl, rfl, ea, eb, hlen, hp, q⟩ := h
  obtain rfl : v = Value.ref a := rx
  obtain rfl : u = Value.ref b := ry
  obtain ⟨_, ya, va, ra, da⟩ := dk_rd I.hok ea
  obtain ⟨_, yb, vb, rb, db⟩ := dk_rd I.hok eb
  have hl : va.length = vb.length := by rw [← ra.length, ← rb.length]; exact hlen
  exact PySem.W.keq_ne (knd := mixKind X.prog X.w) (r := true) ya yb da db hu (fun _ => hits_all rb ra hp) (fin_bl I q (by simp [hl]))
theorem cmp_eq (hK : T.K = X.K) (hu : X.A.units + 64 < cLine) : OpR X (compareOp .Eq) (rA2 T (cmpV 0)) := by
  refine OpR.mono (OpR.or (op_eqD hu) (op_eq_dictR (by omega))) fun x y H Q h => ?_
  obtain ⟨Hx, Hy, d1, d2, d, s1, s2, r1, r2, e, k⟩ := h
  simp only [cmpV, eqE, eqD] at e
  by_cases hd : (dataP 60 d1 && dataP 60 d2) = true
  · rw [if_pos hd] at e
    cases e
    rw [Bool.and_eq_true] at hd
    refine .inl ⟨toD d1, toD d2, hK ▸ r1.dp s1 hd.1, hK ▸ r2.dp s2 hd.2, r1.shaped hd.1, r2.shaped hd.2, ?_⟩
    rw [eqv_toD 60 60 _ _ hd.1 hd.2]
    exact k _ fun Hs => .bl _
  · rw [if_neg hd] at e
    cases e1 : eqDD d1 d2 with
    | none => rw [e1] at e; cases e
    | some t =>
      obtain ⟨ht, a, b, ks, ls, g⟩ := eqDD_rep s1 s2 r1 r2 e1
      subst ht
      rw [e1] at e
      cases e
      obtain ⟨g1, g2, g3, g4, g5, g6⟩ := g
      exact .inr ⟨a, b, ks, ls, g1, g2, g3, g4, g5, g6, k _ fun Hs => .bl _⟩
theorem cmp_ne (hK : T.K = X.K) (hu : X.A.units + 64 < cLine) : OpR X (compareOp .NotEq) (rA2 T (cmpV 1)) := by
  refine OpR.mono (OpR.or (op_neD hu) (op_ne_dictR (by omega))) fun x y H Q h => ?_
  obtain ⟨Hx, Hy, d1, d2, d, s1, s2, r1, r2, e, k⟩ := h
  simp only [cmpV, eqE, eqD] at e
  by_cases hd : (dataP 60 d1 && dataP 60 d2) = true
  · rw [if_pos hd] at e
    cases e
    rw [Bool.and_eq_true] at hd
    refine .inl ⟨toD d1, toD d2, hK ▸ r1.dp s1 hd.1, hK ▸ r2.dp s2 hd.2, r1.shaped hd.1, r2.shaped hd.2, ?_⟩
    rw [eqv_toD 60 60 _ _ hd.1 hd.2]
    exact k _ fun Hs => .bl _
  · rw [if_neg hd] at e
    cases e1 : eqDD d1 d2 with
    | none => rw [e1] at e; cases e
    | some t =>
      obtain ⟨ht, a, b, ks, ls, g⟩ := eqDD_rep s1 s2 r1 r2 e1
      subst ht
      rw [e1] at e
      cases e
      obtain ⟨g1, g2, g3, g4, g5, g6⟩ := g
      exact .inr ⟨a, b, ks, ls, g1, g2, g3, g4, g5, g6, k _ fun Hs => .bl _⟩
theorem cmp_int {op : CmpOp} {p : Int → Int → Bool} (h : OpR X (compareOp op) (rI0 fun i j => .bl (p i j))) : OpR X (compareOp op) (rA2 T (ltI p)) := by
  refine OpR.mono h fun x y H Q z => ?_
  obtain ⟨Hx, Hy, d1, d2, d, s1, s2, r1, r2, e, k⟩ := z
  cases r1 with
  | int i =>
    cases r2 with
    | int j => cases e; exact ⟨i, j, rfl, rfl, k _ fun Hs => .bl _⟩
    | _ => cases e
  | _ => cases e
theorem ints_rep : ∀ {xs : List V} {ds : List PV} {is : List Int}, RepVs T Hs xs ds → intsV ds = some is → xs = is.map V.int
  | _, _, _, .nil, e => by cases e; rfl
  | _, _, is, .cons (d := d) (ds := ds) h r, e => by
    cases h with
    | int i =>
      simp only [intsV] at e
      cases e1 : intsV ds with
      | none => rw [e1] at e; cases e
      | some js =>
        rw [e1] at e
        cases e
        rw [ints_rep r e1]
        rfl
    | _ => cases e
theorem lexI_eq : ∀ (a b : List Int), lexI a b = HT.lexLt a b
  | [], [] => rfl
  | [], _ :: _ => rfl
  | _ :: _, [] => rfl
  | x :: xs, y :: ys => by
    rw [HT.lexLt_cons, ← lexI_eq xs ys]
    rfl
theorem cmp_lt (hK : T.K = X.K) (hu : X.A.units < cLine) : OpR X (compareOp .Lt) (rA2 T (cmpV 2)) := by
  refine OpR.mono (OpR.or op_lt (op_ltT hu)) fun x y H Q z => ?_
  obtain ⟨Hx, Hy, d1, d2, d, s1, s2, r1, r2, e, k⟩ := z
  cases r1 with
  | int i =>
    cases r2 with
    | int j => cases e; exact .inl ⟨i, j, rfl, rfl, k _ fun Hs => .bl _⟩
    | _ => cases e
  | tup h1 z1 q1 =>
    cases r2 with
    | tup h2 z2 q2 =>
      rename_i a xs ds b ys es
      simp only [cmpV, ltV] at e
      cases e1 : intsV ds with
      | none => rw [e1] at e; cases e
      | some as =>
        cases e2 : intsV es with
        | none => rw [e1, e2] at e; cases e
        | some bs =>
          rw [e1, e2] at e
          cases e
          refine .inr ⟨a, b, as, bs, rfl, rfl, ?_, ?_, ?_⟩
          · rw [← ints_rep q1 e1]; exact SqT.of (s1 _ _ h1)
          · rw [← ints_rep q2 e2]; exact SqT.of (s2 _ _ h2)
          · rw [← lexI_eq]; exact k _ fun Hs => .bl _
    | _ => cases e
  | _ => cases e
theorem cmp_le : OpR X (compareOp .LtE) (rA2 T (cmpV 3)) := cmp_int op_le
theorem cmp_gt : OpR X (compareOp .Gt) (rA2 T (cmpV 4)) := cmp_int op_gt
theorem cmp_ge : OpR X (compareOp .GtE) (rA2 T (cmpV 5)) := cmp_int op_ge
theorem any_toD {n m : Nat} {d1 : PV} (h1 : dataP n d1 = true) : ∀ {es : List PV}, dataPs m es = true → ((toDs es).any fun z => PyData.eqv z (toD d1)) = es.any fun z => eqvP z d1
  | [], _ => rfl
  | e :: es, h => by
    simp only [dataPs, Bool.and_eq_true] at h
    simp only [toDs, List.any_cons]
    rw [eqv_toD m n e d1 h.1 h1, any_toD h1 h.2]
theorem flat_of {v : V} {d : PV} (h : RepV T Hs v d) (e : dataP 0 d = true) : flatV v = true := by
  cases h <;> first | rfl | (simp [dataP] at e)
theorem flats_of : ∀ {v : List V} {d : List PV}, RepVs T Hs v d → dataPs 0 d = true → v.all flatV = true
  | _, _, .nil, _ => rfl
  | _, _, .cons h r, e => by
    simp only [dataPs, Bool.and_eq_true] at e
    simp only [List.all_cons, Bool.and_eq_true]
    exact ⟨flat_of h e.1, flats_of r e.2⟩
theorem eqV_of {v w : V} {d e : PV} (h : RepV T Hs v d) (h' : RepV T Hs' w e) (q : dataP 0 d = true) (q' : dataP 0 e = true) : eqV v w = eqvP d e := by
  cases h <;> first
    | (simp [dataP] at q; done)
    | (cases h' <;> first
        | (simp [dataP] at q'; done)
        | rfl
        | (simp only [eqV, eqvP, tx_beq]))
theorem inV_of {w : V} {e : PV} (h' : RepV T Hs' w e) (q' : dataP 0 e = true) : ∀ {v : List V} {d : List PV}, RepVs T Hs v d → dataPs 0 d = true → inV w v = d.any fun y => eqvP y e
  | _, _, .nil, _ => rfl
  | _, _, .cons h r, q => by
    simp only [dataPs, Bool.and_eq_true] at q
    have ih := inV_of h' q' r q.2
    unfold inV at ih ⊢
    simp only [List.any_cons]
    rw [eqV_of h h' q.1 q', ih]
theorem key_eq {k q : Key} {e q' : PV} (kr : KeyR k e) (kq : KeyR q q') : eqvP e q' = decide (k = q) := by
  cases kr with
  | int i =>
    cases kq with
    | int j =>
      simp only [eqvP]
      by_cases z : i = j
      · subst z; simp
      · rw [beq_eq_false_iff_ne.mpr z, decide_eq_false (fun w => z (Sum.inl.inj w))]
    | str t => rw [decide_eq_false (fun w => nomatch w)]; rfl
  | str s =>
    cases kq with
    | int j => rw [decide_eq_false (fun w => nomatch w)]; rfl
    | str t =>
      simp only [eqvP]
      by_cases z : s = t
      · subst z; simp
      · rw [beq_eq_false_iff_ne.mpr z, decide_eq_false (fun w => z (tx_inj (Sum.inr.inj w)))]
theorem dget_is {k : Key} {e : PV} (ke : KeyR k e) : ∀ {v : List (Key × V)} {d : List (PV × PV)}, RepKs T Hs v d → (valV v k).isSome = (dGet d e).isSome
  | _, _, .nil => rfl
  | _, _, .cons (k := q) (xs := r) (ds := ds) q' rx rr => by
    simp only [dGet]
    rw [key_eq q' ke]
    by_cases z : q = k
    · rw [decide_eq_true z, valV_pos (p := (q, _)) z]; rfl
    · rw [decide_eq_false z, valV_neg (p := (q, _)) z]
      rw [if_neg Bool.false_ne_true]
      exact dget_is ke rr
theorem op_dIn (hu : X.A.units + 1 < cLine) : OpR X (compareOp .In) (fun x y H Q => ∃ a ov, y = .ref a ∧ DGet H a x ov ∧ Q (.bl ov.isSome) H) := by
  intro pins s σ H x y v u Q I rx ry h
  obtain ⟨a, ov, rfl, g, q⟩ := h
  cases ry
  exact d_in hu I g rx fun s3 I3 => ⟨.bl ov.isSome, H, I3, rfl, q⟩
theorem op_dNotIn (hu : X.A.units + 1 < cLine) : OpR X (compareOp .NotIn) (fun x y H Q => ∃ a ov, y = .ref a ∧ DGet H a x ov ∧ Q (.bl (!ov.isSome)) H) := by
  intro pins s σ H x y v u Q I rx ry h
  obtain ⟨a, ov, rfl, g, q⟩ := h
  cases ry
  exact d_notIn hu I g rx fun s3 I3 => ⟨.bl (!ov.isSome), H, I3, rfl, q⟩
theorem cmp_in (hK : T.K = X.K) (hu : X.A.units + 65 < cLine) : OpR X (compareOp .In) (rA2 T (cmpV 6)) := by
  refine OpR.mono (OpR.or (op_dIn (by omega)) (OpR.or (op_inD hu) (OpR.or op_in_seq op_in_sign))) fun x y H Q h => ?_
  obtain ⟨Hx, Hy, d1, d2, d, s1, s2, r1, r2, e, k⟩ := h
  cases r2 with
  | lst h z r =>
    rename_i a ys es
    simp only [cmpV, inD] at e
    by_cases hd : (dataP 60 d1 && dataPs 60 es) = true
    · rw [if_pos hd] at e
      cases e
      rw [Bool.and_eq_true] at hd
      have hl : dataP 61 (.lst es) = true := by simp only [dataP]; exact hd.2
      refine .inr (.inl ⟨toD d1, toDs es, hK ▸ r1.dp s1 hd.1, hK ▸ (RepV.lst h z r).dp s2 hl, r1.shaped hd.1, ?_, ?_⟩)
      · unfold SeqAt.shaped
        rw [Bool.and_eq_true]
        exact ⟨(RepV.lst h z r).lay hl, decide_eq_true (Nat.le_trans (deep_toD 61 _ hl) (by decide))⟩
      · rw [any_toD hd.1 hd.2]
        exact k _ fun Hs => .bl _
    · rw [if_neg hd] at e; cases e
  | tup h z r =>
    rename_i a ys es
    simp only [cmpV, inD] at e
    by_cases hd : (dataP 0 d1 && dataPs 0 es) = true
    · rw [if_pos hd] at e
      cases e
      rw [Bool.and_eq_true] at hd
      refine .inr (.inr (.inl ⟨a, ys, rfl, .inr (SqT.of (s2 _ _ h)), flat_of r1 hd.1, flats_of r hd.2, ?_⟩))
      rw [if_neg Bool.false_ne_true, inV_of r1 hd.1 r hd.2]
      exact k _ fun Hs => .bl _
    · rw [if_neg hd] at e; cases e
  | str t ht =>
    cases r1 with
    | str s hs =>
      simp only [cmpV] at e
      match s, hs, e with
      | [c], hs, e =>
        cases e
        refine .inr (.inr (.inr ⟨c, tx t, rfl, rfl, ?_⟩))
        have eq : decide (c ∈ (tx t).cps.toList) = t.contains c := by
          rw [List.contains_eq_mem]
          exact decide_eq_decide.mpr (by simp [tx])
        rw [eq]
        exact k _ fun Hs => .bl _
      | [], hs, e => cases e
      | _ :: _ :: _, hs, e => cases e
    | _ => cases e
  | dct h z r =>
    rename_i a ks es
    simp only [cmpV] at e
    cases r1 with
    | int i =>
      cases e
      refine .inl ⟨a, _, rfl, .inl ⟨ks, .inl i, SameR s2 h, rfl, rfl⟩, ?_⟩
      rw [dget_is (.int i) r]
      exact k _ fun Hs => .bl _
    | str t ht =>
      match t, ht, e with
      | [], ht, e =>
        cases e
        refine .inl ⟨a, _, rfl, .inl ⟨ks, .inr (tx []), SameR s2 h, rfl, rfl⟩, ?_⟩
        rw [dget_is (.str [] ht) r]
        exact k _ fun Hs => .bl _
      | [c], ht, e =>
        cases e
        refine .inl ⟨a, _, rfl, .inl ⟨ks, .inr (tx [c]), SameR s2 h, rfl, rfl⟩, ?_⟩
        rw [dget_is (.str [c] ht) r]
        exact k _ fun Hs => .bl _
      | c :: c' :: t, ht, e =>
        cases e
        refine .inl ⟨a, _, rfl, .inl ⟨ks, .inr (tx (c :: c' :: t)), SameR s2 h, rfl, rfl⟩, ?_⟩
        rw [dget_is (.str (c :: c' :: t) ht) r]
        exact k _ fun Hs => .bl _
    | _ => cases e
  | _ => simp only [cmpV] at e; cases d1 <;> first | (cases e; done) | skip
theorem cmp_notin (hK : T.K = X.K) (hu : X.A.units + 65 < cLine) : OpR X (compareOp .NotIn) (rA2 T (cmpV 7)) := by
  refine OpR.mono (OpR.or (op_dNotIn (by omega)) (OpR.or (op_notInD hu) (OpR.or op_notIn_seq op_notIn_sign))) fun x y H Q h => ?_
  obtain ⟨Hx, Hy, d1, d2, d, s1, s2, r1, r2, e, k⟩ := h
  cases r2 with
  | lst h z r =>
    rename_i a ys es
    simp only [cmpV, inD] at e
    by_cases hd : (dataP 60 d1 && dataPs 60 es) = true
    · rw [if_pos hd] at e
      cases e
      rw [Bool.and_eq_true] at hd
      have hl : dataP 61 (.lst es) = true := by simp only [dataP]; exact hd.2
      refine .inr (.inl ⟨toD d1, toDs es, hK ▸ r1.dp s1 hd.1, hK ▸ (RepV.lst h z r).dp s2 hl, r1.shaped hd.1, ?_, ?_⟩)
      · unfold SeqAt.shaped
        rw [Bool.and_eq_true]
        exact ⟨(RepV.lst h z r).lay hl, decide_eq_true (Nat.le_trans (deep_toD 61 _ hl) (by decide))⟩
      · rw [any_toD hd.1 hd.2]
        exact k _ fun Hs => .bl _
    · rw [if_neg hd] at e; cases e
  | tup h z r =>
    rename_i a ys es
    simp only [cmpV, inD] at e
    by_cases hd : (dataP 0 d1 && dataPs 0 es) = true
    · rw [if_pos hd] at e
      cases e
      rw [Bool.and_eq_true] at hd
      refine .inr (.inr (.inl ⟨a, ys, rfl, .inr (SqT.of (s2 _ _ h)), flat_of r1 hd.1, flats_of r hd.2, ?_⟩))
      rw [if_pos rfl, inV_of r1 hd.1 r hd.2]
      exact k _ fun Hs => .bl _
    · rw [if_neg hd] at e; cases e
  | str t ht =>
    cases r1 with
    | str s hs =>
      simp only [cmpV] at e
      match s, hs, e with
      | [c], hs, e =>
        cases e
        refine .inr (.inr (.inr ⟨c, tx t, rfl, rfl, ?_⟩))
        have eq : decide (c ∈ (tx t).cps.toList) = t.contains c := by
          rw [List.contains_eq_mem]
          exact decide_eq_decide.mpr (by simp [tx])
        rw [eq]
        exact k _ fun Hs => .bl _
      | [], hs, e => cases e
      | _ :: _ :: _, hs, e => cases e
    | _ => cases e
  | dct h z r =>
    rename_i a ks es
    simp only [cmpV] at e
    cases r1 with
    | int i =>
      cases e
      refine .inl ⟨a, _, rfl, .inl ⟨ks, .inl i, SameR s2 h, rfl, rfl⟩, ?_⟩
      rw [dget_is (.int i) r]
      exact k _ fun Hs => .bl _
    | str t ht =>
      match t, ht, e with
      | [], ht, e =>
        cases e
        refine .inl ⟨a, _, rfl, .inl ⟨ks, .inr (tx []), SameR s2 h, rfl, rfl⟩, ?_⟩
        rw [dget_is (.str [] ht) r]
        exact k _ fun Hs => .bl _
      | [c], ht, e =>
        cases e
        refine .inl ⟨a, _, rfl, .inl ⟨ks, .inr (tx [c]), SameR s2 h, rfl, rfl⟩, ?_⟩
        rw [dget_is (.str [c] ht) r]
        exact k _ fun Hs => .bl _
      | c :: c' :: t, ht, e =>
        cases e
        refine .inl ⟨a, _, rfl, .inl ⟨ks, .inr (tx (c :: c' :: t)), SameR s2 h, rfl, rfl⟩, ?_⟩
        rw [dget_is (.str (c :: c' :: t) ht) r]
        exact k _ fun Hs => .bl _
    | _ => cases e
  | _ => simp only [cmpV] at e; cases d1 <;> first | (cases e; done) | skip
theorem non_of {v : V} {d : PV} (h : RepV T Hs v d) : decide (v = .non) = (match d with | .non => true | _ => false) := by
  cases h <;> simp
theorem cmp_is : OpR X (compareOp .Is) (rA2 T (cmpV 8)) := by
  refine OpR.mono (OpR.or op_isN op_is_bl) fun x y H Q h => ?_
  obtain ⟨Hx, Hy, d1, d2, d, s1, s2, r1, r2, e, k⟩ := h
  cases r2 with
  | non =>
    refine .inl ⟨rfl, ?_⟩
    rw [non_of r1]
    cases d1 <;> (cases e; exact k _ fun Hs => .bl _)
  | bl b =>
    cases r1 with
    | bl a =>
      cases e
      refine .inr ⟨a, b, rfl, rfl, ?_⟩
      have : decide (a = b) = (a == b) := by cases a <;> cases b <;> rfl
      rw [this]
      exact k _ fun Hs => .bl _
    | _ => cases e
  | _ => cases r1 <;> cases e
theorem cmp_isnot : OpR X (compareOp .IsNot) (rA2 T (cmpV 9)) := by
  refine OpR.mono (OpR.or op_notN op_isnot_bl) fun x y H Q h => ?_
  obtain ⟨Hx, Hy, d1, d2, d, s1, s2, r1, r2, e, k⟩ := h
  cases r2 with
  | non =>
    refine .inl ⟨rfl, ?_⟩
    rw [non_of r1]
    cases d1 <;> (cases e; exact k _ fun Hs => .bl _)
  | bl b =>
    cases r1 with
    | bl a =>
      cases e
      refine .inr ⟨a, b, rfl, rfl, ?_⟩
      have : decide (a = b) = (a == b) := by cases a <;> cases b <;> rfl
      rw [this]
      exact k _ fun Hs => .bl _
    | _ => cases e
  | _ => cases r1 <;> cases e
end
end HV

end

section
/-! V3: subscripts, kinds, built-in functions by trees. -/
namespace HV
open PySem PySem.Spec PyProof.Rows L2
section
variable {T : Tb} {Hs H Hs' H' : Hp} {X : Cx}
/-! ### subscripts -/
theorem atP_eq {α : Type} (xs : List α) (i : Int) : atP xs i = atI xs i := rfl
theorem at_rep {xs : List V} {ds : List PV} (r : RepVs T Hs xs ds) {i : Int} {d : PV} (h : atP ds i = some d) : ∃ v, atI xs i = some v ∧ RepV T Hs v d := by
  unfold atP ixP at h
  unfold atI ixN
  rw [r.length]
  split at h
  · split at h
    · simp only [Option.bind_some] at h
      rename_i h1 h2
      obtain ⟨v, g1, g2⟩ := r.get h
      exact ⟨v, by rw [if_pos h1, if_pos h2]; exact g1, g2⟩
    · cases h
  · split at h
    · simp only [Option.bind_some] at h
      rename_i h1 h2
      obtain ⟨v, g1, g2⟩ := r.get h
      exact ⟨v, by rw [if_neg h1, if_pos h2]; exact g1, g2⟩
    · cases h
theorem dget_rep : ∀ {ks : List (Key × V)} {ds : List (PV × PV)} {q : Key} {q' d : PV}, RepKs T Hs ks ds → KeyR q q' → dGet ds q' = some d → ∃ v, valV ks q = some v ∧ RepV T Hs v d
  | _, _, _, _, _, .nil, _, h => by cases h
  | _, _, q, q', d, .cons (k := k) (e := e) kr r rr, kq, h => by
    simp only [dGet] at h
    have key : eqvP e q' = decide (k = q) := by
      cases kr with
      | int i =>
        cases kq with
        | int j =>
          simp only [eqvP]
          by_cases z : i = j
          · subst z; simp
          · rw [beq_eq_false_iff_ne.mpr z, decide_eq_false (fun w => z (Sum.inl.inj w))]
        | str t => rw [decide_eq_false (fun w => nomatch w)]; rfl
      | str s =>
        cases kq with
        | int j => rw [decide_eq_false (fun w => nomatch w)]; rfl
        | str t =>
          simp only [eqvP]
          by_cases z : s = t
          · subst z; simp
          · rw [beq_eq_false_iff_ne.mpr z, decide_eq_false (fun w => z (tx_inj (Sum.inr.inj w)))]
    rw [key] at h
    by_cases z : k = q
    · rw [decide_eq_true z, if_pos rfl] at h
      cases h
      exact ⟨_, valV_pos z, r⟩
    · rw [decide_eq_false z, if_neg Bool.false_ne_true] at h
      obtain ⟨v, h1, h2⟩ := dget_rep rr kq h
      exact ⟨v, (valV_neg z).trans h1, h2⟩
theorem va_att (ok : TbOk T) (f : Nat) : VG1 T (fun x H Q => ∃ a C dx fs v, x = .ref a ∧ H a = some (.ins C dx fs) ∧ Cls T.K C ∧ NoAttr T.K C (nmS f) ∧ fs.lookup (nmS f) = some v ∧ Q v H) (attV T.isF f) := by
  intro x d1 d Hs H Q s r e k
  cases r with
  | obj ha hc hf =>
    rename_i a c C dx fs ds
    simp only [attV] at e
    by_cases hi : T.isF c f = true
    · rw [if_pos hi] at e
      obtain ⟨v, k1, k2⟩ := fields_get hf e
      exact ⟨a, C, dx, fs, v, rfl, s _ _ ha, ok.cl c C hc, ok.fl c C f hc hi, k1, k v Hs H .refl k2⟩
    · rw [if_neg hi] at e; cases e
  | _ => cases e
theorem RepVs.drop : ∀ {xs : List V} {ds : List PV} (n : Nat), RepVs T Hs xs ds → RepVs T Hs (xs.drop n) (ds.drop n)
  | _, _, 0, h => by simpa using h
  | _, _, n + 1, .nil => by simp; exact .nil
  | _, _, n + 1, .cons _ r => by simpa using RepVs.drop n r
theorem RepVs.take : ∀ {xs : List V} {ds : List PV} (n : Nat), RepVs T Hs xs ds → RepVs T Hs (xs.take n) (ds.take n)
  | _, _, 0, h => by simp; exact .nil
  | _, _, n + 1, .nil => by simp; exact .nil
  | _, _, n + 1, .cons q r => by simpa using .cons q (RepVs.take n r)
theorem sIx_eq (n d : Nat) (o : Option Int) : sIxP n d o = HT.sIx n d o := by cases o <;> rfl
theorem cut_rep {xs : List V} {ds : List PV} (h : RepVs T Hs xs ds) (lo hi : Option Int) : RepVs T Hs (cutV xs lo hi) (cutP ds lo hi) := by
  unfold cutV cutP
  rw [h.length, sIx_eq, sIx_eq]
  exact (h.drop _).take _
theorem cutP_len {α : Type} (xs : List α) (lo hi : Option Int) : (cutP xs lo hi).length ≤ xs.length := by
  unfold cutP
  rw [List.length_take, List.length_drop]
  omega
theorem cutP_whole {α : Type} {xs : List α} {lo hi : Option Int} (h : HT.sIx xs.length 0 lo = 0 ∧ HT.sIx xs.length xs.length hi = xs.length) : cutP xs lo hi = xs := by
  unfold cutP
  rw [sIx_eq, sIx_eq, h.1, h.2]
  simp
/-! ### operators by codes -/
def cmpOf : Nat → CmpOp
  | 0 => .Eq | 1 => .NotEq | 2 => .Lt | 3 => .LtE | 4 => .Gt | 5 => .GtE | 6 => .In | 7 => .NotIn | 8 => .Is | _ => .IsNot
def binOf : Nat → Operator
  | 0 => .Add | 1 => .Sub | 2 => .Mult | 3 => .FloorDiv | 4 => .Mod | _ => .Pow
theorem cmp_ok (hK : T.K = X.K) (hu : X.A.units + 65 < cLine) : ∀ k, k < 10 → OpR X (compareOp (cmpOf k)) (rA2 T (cmpV k))
  | 0, _ => cmp_eq hK (by omega)
  | 1, _ => cmp_ne hK (by omega)
  | 2, _ => cmp_lt hK (by omega)
  | 3, _ => cmp_le
  | 4, _ => cmp_gt
  | 5, _ => cmp_ge
  | 6, _ => cmp_in hK hu
  | 7, _ => cmp_notin hK hu
  | 8, _ => cmp_is
  | 9, _ => cmp_isnot
  | k + 10, h => by omega
theorem bin_ok (hK : T.K = X.K) : ∀ k, k < 6 → OpR X (binaryOp (binOf k)) (rG2 T (binV k))
  | 0, _ => bin_add hK
  | 1, _ => bin_sub
  | 2, _ => bin_mul hK
  | 3, _ => bin_fdiv
  | 4, _ => bin_mod
  | 5, _ => bin_pow
  | k + 6, h => by omega
end
section
variable {T : Tb} {Hs H Hs' H' : Hp} {X : Cx}
theorem RepV.kind (ok : TbOk T) {v : V} {d : PV} (h : RepV T Hs v d) (s : Same Hs H) {k : Kd} (e : kdV d = some k) : ∃ t, TyX T.K H v t ∧ kdVal T k t := by
  cases h with
  | non => cases e; exact ⟨_, .base .non, by decide, rfl⟩
  | bl b => cases e; exact ⟨_, .base (.bl b), by decide, rfl⟩
  | int b => cases e; exact ⟨_, .base (.int b), by decide, rfl⟩
  | str b _ => cases e; exact ⟨_, .base (.str _), by decide, rfl⟩
  | lst h _ _ => cases e; exact ⟨_, .base (.lst (s _ _ h)), by decide, rfl⟩
  | tup h _ _ => cases e; exact ⟨_, .base (.tup (s _ _ h)), by decide, rfl⟩
  | dct h _ _ =>
    cases e
    rcases SameR s h with h | ⟨o, h⟩
    · exact ⟨_, .base (.dK h), by decide, rfl⟩
    · exact ⟨_, .fDict h, by decide, rfl⟩
  | obj h c r =>
    rename_i a cid C dx fs ds
    cases e
    obtain ⟨h1, h2, h3, h4⟩ := ok.ty cid C c
    exact ⟨_, .base (.ins (s _ _ h) (ok.cl cid C c) h1 h2 h3 h4), C, c, rfl⟩
  | cls h => cases e
  | ty n => cases e
  | scr h z => cases e
theorem RepV.clsOf {v : V} {d : PV} (h : RepV T Hs v d) {k : Kd} (e : kdC d = some k) : ∃ u, ClsV v u ∧ kdVal T k u := by
  cases h with
  | ty n =>
    simp only [kdC] at e
    by_cases hn : n < 6
    · rw [if_pos hn] at e
      cases e
      exact ⟨_, .ty _, by omega, rfl⟩
    · rw [if_neg hn] at e; cases e
  | cls c =>
    rename_i cid C
    cases e
    exact ⟨_, .own C, C, c, rfl⟩
  | _ => cases e
theorem kdAny_ok (ok : TbOk T) {k : Kd} {t : Value} (hk : kdVal T k t) : ∀ {vs : List V} {ds : List PV} {b : Bool}, RepVs T Hs vs ds → kdAny k ds = some b → ∃ us, Paired ClsV vs us ∧ PySem.W.kitAny T.K t us = some b
  | _, _, _, .nil, e => by cases e; exact ⟨[], .nil, rfl⟩
  | _, _, b, .cons (d := d) (ds := ds) h r, e => by
    simp only [kdAny] at e
    cases w : kdC d with
    | none => simp only [w] at e; cases e
    | some q =>
      cases w2 : kdAny k ds with
      | none => simp only [w, w2] at e; cases e
      | some b2 =>
        simp only [w, w2] at e
        cases e
        obtain ⟨u, c1, c2⟩ := h.clsOf w
        obtain ⟨us, p1, p2⟩ := kdAny_ok ok hk r w2
        refine ⟨u :: us, .cons c1 p1, kitAny_cons (ok.kit k q t u hk c2) (fun z => by rw [z]; exact p2) fun z => by rw [z]; rfl⟩
theorem isi_ok (ok : TbOk T) : VA2 T (fun x y H Q => rIsi T.K [x, y] H Q ∨ rIsiT T.K [x, y] H Q) isiV := by
  intro x y d1 d2 d Hx Hy H Q s1 s2 r1 r2 e k
  unfold isiV at e
  cases w : kdV d1 with
  | none => rw [w] at e; cases e
  | some kk =>
    rw [w] at e
    dsimp only at e
    obtain ⟨t, ty, kt⟩ := r1.kind ok s1 w
    cases r2 with
    | tup h z r =>
      rename_i a xs ds
      dsimp only at e
      cases w2 : kdAny kk ds with
      | none => rw [w2] at e; cases e
      | some b =>
        rw [w2] at e
        cases e
        obtain ⟨us, p1, p2⟩ := kdAny_ok ok kt r w2
        exact .inr ⟨x, a, xs, t, us, b, rfl, s2 _ _ h, p1, ty, p2, k _ fun Hs => .bl _⟩
    | ty n =>
      dsimp only at e
      cases w2 : kdC (.ty n) with
      | none => rw [w2] at e; cases e
      | some q =>
        rw [w2] at e
        cases e
        obtain ⟨u, c1, c2⟩ := (RepV.ty (T := T) (Hs := Hy) n).clsOf w2
        exact .inl ⟨x, _, t, u, _, rfl, c1, ty, ok.kit kk q t u kt c2, k _ fun Hs => .bl _⟩
    | cls c =>
      rename_i cid C
      cases e
      exact .inl ⟨x, _, t, .ref C, _, rfl, .own C, ty, ok.kit kk (.cls cid) t _ kt ⟨C, c, rfl⟩, k _ fun Hs => .bl _⟩
    | _ => cases e
theorem len_ok : VA1 T (fun x H Q => (∃ y n, [x] = [y] ∧ LenV T.K y H n ∧ Q (.int n) H) ∨ ∃ a kvs, [x] = [V.ref a] ∧ Rd H a (.dK kvs) ∧ Q (.int kvs.length) H) lenV := by
  intro x d1 d Hx H Q s r e k
  cases r with
  | lst h z r =>
    rename_i a xs ds
    cases e
    have := k (.int (xs.length : Nat)) fun Hs => by rw [r.length]; exact .int _
    exact .inl ⟨_, xs.length, rfl, .inl ⟨xs, SqL.of (s _ _ h), rfl⟩, this⟩
  | tup h z r =>
    rename_i a xs ds
    cases e
    have := k (.int (xs.length : Nat)) fun Hs => by rw [r.length]; exact .int _
    exact .inl ⟨_, xs.length, rfl, .inr ⟨xs, SqT.of (s _ _ h), rfl⟩, this⟩
  | str t ht =>
    cases e
    refine .inl ⟨_, (tx t).length, rfl, ⟨by rw [tx_len]; exact ht.1, rfl⟩, ?_⟩
    rw [tx_len]
    exact k _ fun Hs => .int _
  | dct h z r =>
    rename_i a ks ds
    cases e
    refine .inr ⟨a, ks, rfl, SameR s h, ?_⟩
    rw [r.length]
    exact k _ fun Hs => .int _
  | scr h z =>
    rename_i a ns
    cases e
    refine .inl ⟨_, (ns.map V.int).length, rfl, .inl ⟨_, s.seq h, rfl⟩, ?_⟩
    rw [List.length_map]
    exact k _ fun Hs => .int _
  | _ => cases e
theorem int_ok : VA1 T (fun x H Q => (∃ i, [x] = [V.int i] ∧ Q (.int i) H) ∨ ∃ k, [x] = [V.bl k] ∧ Q (.int (if k then 1 else 0)) H) intV := by
  intro x d1 d Hx H Q s r e k
  cases r with
  | int i => cases e; exact .inl ⟨i, rfl, k _ fun Hs => .int _⟩
  | bl b => cases e; exact .inr ⟨b, rfl, k _ fun Hs => .int _⟩
  | _ => cases e
theorem RepVs.ints (ns : List Int) : RepVs T Hs (ns.map V.int) (ns.map PV.int) := by
  induction ns with
  | nil => exact .nil
  | cons n ns ih => exact .cons (.int n) ih
theorem list_ok : VG1 T (fun x H Q => ∃ p ys, [x] = [V.ref p] ∧ (SqL T.K H p ys ∨ SqT T.K H p ys) ∧ ∀ l, H l = none → Q (.ref l) (upd H l (.lst ys))) listV := by
  intro x d1 d Hs H Q s r e k
  have fin : ∀ {xs : List V} {ds : List PV} {l : Addr}, RepVs T Hs xs ds → ds.length ≤ sizeLine → H l = none → (∀ v Hs' H', Grow Hs H Hs' H' → RepV T Hs' v (.lst ds) → Q v H') → Q (.ref l) (upd H l (.lst xs)) := fun {xs ds l} r z hl k =>
    k _ _ _ (Grow.one hl) (.lst upd_same z (r.mono ((Grow.one (o := .lst xs) hl).same s).1))
  cases r with
  | lst h z r => cases e; exact ⟨_, _, rfl, .inl (SqL.of (s _ _ h)), fun l hl => fin r z hl k⟩
  | tup h z r => cases e; exact ⟨_, _, rfl, .inr (SqT.of (s _ _ h)), fun l hl => fin r z hl k⟩
  | scr h z => cases e; exact ⟨_, _, rfl, .inl (s.seq h), fun l hl => fin (RepVs.ints _) (by rw [List.length_map]; exact z) hl k⟩
  | _ => cases e
theorem tuple_ok : VG1 T (fun x H Q => ∃ p ys, [x] = [V.ref p] ∧ ((SqL T.K H p ys ∧ ∀ l, H l = none → Q (.ref l) (upd H l (.tup ys))) ∨ (SqT T.K H p ys ∧ Q (.ref p) H))) tupleV := by
  intro x d1 d Hs H Q s r e k
  cases r with
  | lst h z r =>
    rename_i a xs ds
    cases e
    exact ⟨_, _, rfl, .inl ⟨SqL.of (s _ _ h), fun l hl => k _ _ _ (Grow.one hl) (.tup upd_same z (r.mono ((Grow.one (o := .tup xs) hl).same s).1))⟩⟩
  | tup h z r => cases e; exact ⟨_, _, rfl, .inr ⟨SqT.of (s _ _ h), k _ _ _ .refl (.tup h z r)⟩⟩
  | _ => cases e
/-! ### any, all -/
theorem plain_flat : ∀ {ds : List PV}, dataPs 0 ds = true → PyData.plainAll (toDs ds) = true
  | [], _ => rfl
  | d :: ds, h => by
    simp only [dataPs, Bool.and_eq_true] at h
    simp only [toDs, PyData.plainAll, Bool.and_eq_true]
    exact ⟨by cases d <;> first | rfl | (simp [dataP] at h), plain_flat h.2⟩
theorem fits_flat : ∀ {vs : List V} {ds : List PV}, RepVs T Hs vs ds → dataPs 0 ds = true → ∀ x ∈ toDs ds, x.fits63
  | _, _, .nil, _ => fun x h => by simp [toDs] at h
  | _, _, .cons h r, e => by
    simp only [dataPs, Bool.and_eq_true] at e
    intro x hx
    simp only [toDs, List.mem_cons] at hx
    rcases hx with rfl | hx
    · cases h with
      | str s hs =>
        show (((tx s).length : Nat) : Int) < 2 ^ 63
        rw [tx_len]
        have := hs.1
        rw [sizeLine_eq] at this
        omega
      | non => trivial
      | bl b => trivial
      | int i => trivial
      | _ => simp [dataP] at e
    · exact fits_flat r e.2 x hx
theorem truthy_flat {d : PV} (h : dataP 0 d = true) : (toD d).truthy = trA d := by
  cases d <;> first | rfl | (simp [dataP] at h) | skip
  rename_i s
  show PyData.truthy (.str (tx s)) = _
  simp only [PyData.truthy, trA, tx_len]
  all_goals (cases s <;> rfl)
theorem any_flat : ∀ {ds : List PV}, dataPs 0 ds = true → (toDs ds).any PyData.truthy = ds.any trA
  | [], _ => rfl
  | d :: ds, h => by
    simp only [dataPs, Bool.and_eq_true] at h
    simp only [toDs, List.any_cons, truthy_flat h.1, any_flat h.2]
theorem all_flat : ∀ {ds : List PV}, dataPs 0 ds = true → (toDs ds).all PyData.truthy = ds.all trA
  | [], _ => rfl
  | d :: ds, h => by
    simp only [dataPs, Bool.and_eq_true] at h
    simp only [toDs, List.all_cons, truthy_flat h.1, all_flat h.2]
/-- one argument, by trees; nothing is told of the heap but that it stands -/
def rA1 (T : Tb) (g : PV → Option PV) : List V → Hp → VK → Prop := fun vs H Q => ∃ x Hx d1 d, vs = [x] ∧ Same Hx H ∧ RepV T Hx x d1 ∧ g d1 = some d ∧ ∀ v, (∀ Hs, RepV T Hs v d) → Q v H
theorem va_rA1 (g : PV → Option PV) : VA1 T (fun x H Q => rA1 T g [x] H Q) g := fun x d1 d Hx H Q s r e k => ⟨x, Hx, d1, d, rfl, s, r, e, k⟩
theorem call_any (hc : X.calm = true) (hK : T.K = X.K) : CallR X (.builtin "any") (rA1 T anyV) := by
  intro pins s σ H vs us Q I r h
  obtain ⟨x, Hx, d1, d, rfl, sb, rx, e, k⟩ := h
  obtain ⟨u, rfl, ru⟩ := vals1 r
  cases rx with
  | lst h z rr =>
    rename_i a xs ds
    simp only [anyV] at e
    by_cases hd : dataPs 0 ds = true
    · rw [if_pos hd] at e
      cases e
      cases ru
      obtain ⟨its, rv, hl, _⟩ := I.list (SqL.of (sb _ _ h))
      obtain ⟨as, hr⟩ := Dp.readsAll I _ xs its (hK ▸ rr.dp sb hd) rv
      refine PySem.W.any_list_data (I.ok.hd hc) hl.isList hr (plain_flat hd) (fits_flat rr hd) fun h' tk hk => ?_
      rw [any_flat hd]
      exact ⟨.bl _, H, I.kept hk, rfl, k _ fun Hs => .bl _⟩
    · rw [if_neg hd] at e; cases e
  | tup h z rr =>
    rename_i a xs ds
    simp only [anyV] at e
    by_cases hd : dataPs 0 ds = true
    · rw [if_pos hd] at e
      cases e
      cases ru
      obtain ⟨its, rv, hl, _⟩ := I.tuple (SqT.of (sb _ _ h))
      obtain ⟨as, hr⟩ := Dp.readsAll I _ xs its (hK ▸ rr.dp sb hd) rv
      refine PySem.W.any_tuple_data (I.ok.hd hc) hl hr (plain_flat hd) (fits_flat rr hd) fun h' tk hk => ?_
      rw [any_flat hd]
      exact ⟨.bl _, H, I.kept hk, rfl, k _ fun Hs => .bl _⟩
    · rw [if_neg hd] at e; cases e
  | _ => cases e
theorem call_all (hc : X.calm = true) (hK : T.K = X.K) : CallR X (.builtin "all") (rA1 T allV) := by
  intro pins s σ H vs us Q I r h
  obtain ⟨x, Hx, d1, d, rfl, sb, rx, e, k⟩ := h
  obtain ⟨u, rfl, ru⟩ := vals1 r
  cases rx with
  | lst h z rr =>
    rename_i a xs ds
    simp only [allV] at e
    by_cases hd : dataPs 0 ds = true
    · rw [if_pos hd] at e
      cases e
      cases ru
      obtain ⟨its, rv, hl, _⟩ := I.list (SqL.of (sb _ _ h))
      obtain ⟨as, hr⟩ := Dp.readsAll I _ xs its (hK ▸ rr.dp sb hd) rv
      refine PySem.W.all_list_data (I.ok.hd hc) hl.isList hr (plain_flat hd) (fits_flat rr hd) fun h' tk hk => ?_
      rw [all_flat hd]
      exact ⟨.bl _, H, I.kept hk, rfl, k _ fun Hs => .bl _⟩
    · rw [if_neg hd] at e; cases e
  | tup h z rr =>
    rename_i a xs ds
    simp only [allV] at e
    by_cases hd : dataPs 0 ds = true
    · rw [if_pos hd] at e
      cases e
      cases ru
      obtain ⟨its, rv, hl, _⟩ := I.tuple (SqT.of (sb _ _ h))
      obtain ⟨as, hr⟩ := Dp.readsAll I _ xs its (hK ▸ rr.dp sb hd) rv
      refine PySem.W.all_tuple_data (I.ok.hd hc) hl hr (plain_flat hd) (fits_flat rr hd) fun h' tk hk => ?_
      rw [all_flat hd]
      exact ⟨.bl _, H, I.kept hk, rfl, k _ fun Hs => .bl _⟩
    · rw [if_neg hd] at e; cases e
  | _ => cases e
end
end HV

end

section
/-! V4: the heap of changing objects against the hand layer's heap; freezing, locks. -/
namespace HV
open PySem PySem.Spec PyProof.Rows L2
structure Wd where
  T : Tb
  fld : Nat → Nat
  E : XK
section
variable {α β γ : Type}
theorem Paired.get {F : α → β → Prop} : ∀ {xs : List α} {ys : List β} {k : Nat} {y : β}, Paired F xs ys → ys[k]? = some y → ∃ x, xs[k]? = some x ∧ F x y
  | _, _, k, y, .nil, h => by simp at h
  | _, _, 0, y, .cons r _, h => by simp at h; subst h; exact ⟨_, rfl, r⟩
  | _, _, k + 1, y, .cons _ t, h => by
    obtain ⟨x, h1, h2⟩ := Paired.get (k := k) (y := y) t (by simpa using h)
    exact ⟨x, by simpa using h1, h2⟩
theorem Paired.getL {F : α → β → Prop} : ∀ {xs : List α} {ys : List β} {k : Nat} {x : α}, Paired F xs ys → xs[k]? = some x → ∃ y, ys[k]? = some y ∧ F x y
  | _, _, k, y, .nil, h => by simp at h
  | _, _, 0, y, .cons r _, h => by simp at h; subst h; exact ⟨_, rfl, r⟩
  | _, _, k + 1, y, .cons _ t, h => by
    obtain ⟨x, h1, h2⟩ := Paired.getL (k := k) (x := y) t (by simpa using h)
    exact ⟨x, by simpa using h1, h2⟩
theorem Paired.append {F : α → β → Prop} : ∀ {xs xs' : List α} {ys ys' : List β}, Paired F xs ys → Paired F xs' ys' → Paired F (xs ++ xs') (ys ++ ys')
  | _, _, _, _, .nil, s => s
  | _, _, _, _, .cons r t, s => .cons r (Paired.append t s)
theorem Paired.set {F : α → β → Prop} {x : α} {y : β} (r : F x y) : ∀ {xs : List α} {ys : List β} (i : Nat), Paired F xs ys → Paired F (xs.set i x) (ys.set i y)
  | _, _, _, .nil => .nil
  | _, _, 0, .cons _ t => .cons r t
  | _, _, i + 1, .cons q t => .cons q (Paired.set r i t)
theorem Paired.erase {F : α → β → Prop} : ∀ {xs : List α} {ys : List β} (i : Nat), Paired F xs ys → Paired F (xs.eraseIdx i) (ys.eraseIdx i)
  | _, _, _, .nil => .nil
  | _, _, 0, .cons _ t => t
  | _, _, i + 1, .cons q t => .cons q (Paired.erase i t)
theorem Paired.dropLast {F : α → β → Prop} : ∀ {xs : List α} {ys : List β}, Paired F xs ys → Paired F xs.dropLast ys.dropLast
  | _, _, .nil => .nil
  | _, _, .cons _ .nil => .nil
  | _, _, .cons q (.cons r t) => .cons q (Paired.dropLast (.cons r t))
theorem Paired.imp {F G : α → β → Prop} : ∀ {xs : List α} {ys : List β}, Paired F xs ys → (∀ a b, F a b → G a b) → Paired G xs ys
  | _, _, .nil, _ => .nil
  | _, _, .cons r t, f => .cons (f _ _ r) (Paired.imp t f)
theorem Paired.mem {F : α → β → Prop} : ∀ {xs : List α} {ys : List β}, Paired F xs ys → ∀ y ∈ ys, ∃ x ∈ xs, F x y
  | _, _, .nil, _, h => by simp at h
  | _, _, .cons r t, y, h => by
    rcases List.mem_cons.mp h with rfl | h
    · exact ⟨_, by simp, r⟩
    · obtain ⟨x, h1, h2⟩ := Paired.mem t y h
      exact ⟨x, by simp [h1], h2⟩
end
/-- what a value stands for -/
def VlR (T : Tb) (Hs : Hp) (ρ : List Addr) (v : V) : Vl → Prop
  | .fz d => RepV T Hs v d
  | .rf n => ∃ a, ρ[n]? = some a ∧ v = .ref a
abbrev VlsR (T : Tb) (Hs : Hp) (ρ : List Addr) : List V → List Vl → Prop := Paired (VlR T Hs ρ)
def KvR (T : Tb) (Hs : Hp) (ρ : List Addr) (p : Key × V) (q : PV × Vl) : Prop := KeyR p.1 q.1 ∧ VlR T Hs ρ p.2 q.2
def FdR (T : Tb) (Hs : Hp) (ρ : List Addr) (p : Str × V) (q : Nat × Vl) : Prop := p.1 = nmS q.1 ∧ VlR T Hs ρ p.2 q.2
/-- what a changing object stands for -/
def MOR (T : Tb) (Hs H : Hp) (ρ : List Addr) (a : Addr) : MO → Prop
  | .lst xs => ∃ vs, H a = some (.lst vs) ∧ xs.length ≤ sizeLine ∧ VlsR T Hs ρ vs xs
  | .dct kvs => ∃ ks, H a = some (.dK ks) ∧ kvs.length ≤ sizeLine ∧ Paired (KvR T Hs ρ) ks kvs
  | .ins c fs => ∃ C dx gs, H a = some (.ins C dx gs) ∧ T.cls c = some C ∧ (fs.map (·.1)).Nodup ∧ Paired (FdR T Hs ρ) gs fs
structure Sy (T : Tb) (Hs H : Hp) (ρ : List Addr) (h : Hm) : Prop where
  sub : Same Hs H
  len : ρ.length = h.length
  inj : ∀ (i j : Nat) a o u, h[i]? = some (some o) → h[j]? = some (some u) → ρ[i]? = some a → ρ[j]? = some a → i = j
  ob : ∀ (n : Nat) o a, h[n]? = some (some o) → ρ[n]? = some a → Hs a = none ∧ MOR T Hs H ρ a o
/-- the addresses of what changes -/
def Im (ρ : List Addr) (h : Hm) (a : Addr) : Prop := ∃ (n : Nat) (o : MO), h[n]? = some (some o) ∧ ρ[n]? = some a
def Pre (ρ ρ' : List Addr) : Prop := ∀ (n : Nat) (a : Addr), ρ[n]? = some a → ρ'[n]? = some a
def EnvR (T : Tb) (Hs : Hp) (ρ : List Addr) (σ : L2.St) (env : Env) : Prop := env.length = σ.length ∧ ∀ (i : Nat) v, env[i]? = some (some v) → ∃ u, σ[i]? = some (some u) ∧ VlR T Hs ρ u v
/-- what an exception of the class c with the things ps is -/
def XR (T : Tb) (Hs H : Hp) (fld : Nat → Nat) (c : Nat) (ps : List PV) (C : Addr) (d : Option Addr) : Prop :=
  T.cls c = some C ∧ ((ps = [] ∧ d = none) ∨ ∃ p dd v, ps = [p] ∧ d = some dd ∧ H dd = some (.xd [(nmS (fld c), v)]) ∧ RepV T Hs v p)
abbrev TrH (Hs H : Hp) (ρ : List Addr) (h : Hm) (Hs' H' : Hp) (ρ' : List Addr) (h' : Hm) : Prop := Tr Hs H (Im ρ h) Hs' H' (Im ρ' h')
/-- an outcome is as wanted -/
def Post {α : Type} (D : Wd) (Q : Hp → Hp → List Addr → α → Prop) (Hs H : Hp) (ρ : List Addr) (h : Hm) : R α → Prop
  | .ok a h' => ∀ H' Hs' ρ', TrH Hs H ρ h Hs' H' ρ' h' → Pre ρ ρ' → Sy D.T Hs' H' ρ' h' → Q Hs' H' ρ' a
  | .exc c ps h' => ∀ H' Hs' ρ' C d, TrH Hs H ρ h Hs' H' ρ' h' → Pre ρ ρ' → Sy D.T Hs' H' ρ' h' → XR D.T Hs' H' D.fld c ps C d → D.E (.ref C) d H'
  | .stuck => False
section
variable {D : Wd} {T : Tb} {Hs H Hs' H' Hs2 H2 : Hp} {ρ ρ' : List Addr} {h h' : Hm} {σ : L2.St} {env : Env} {α β : Type}
theorem Pre.refl : Pre ρ ρ := fun _ _ h => h
theorem Pre.trans {ρ2 : List Addr} (a : Pre ρ ρ') (b : Pre ρ' ρ2) : Pre ρ ρ2 := fun n x h => b n x (a n x h)
theorem Pre.app {ρ2 : List Addr} : Pre ρ (ρ ++ ρ2) := fun n a e => by
  rw [List.getElem?_append_left (List.getElem?_eq_some_iff.mp e).1]; exact e
theorem VlR.mono {v : V} {x : Vl} (e : Same Hs Hs') (p : Pre ρ ρ') (r : VlR T Hs ρ v x) : VlR T Hs' ρ' v x := by
  cases x with
  | fz d => exact RepV.mono e r
  | rf n => obtain ⟨a, h1, h2⟩ := r; exact ⟨a, p n a h1, h2⟩
theorem VlsR.mono {v : List V} {x : List Vl} (e : Same Hs Hs') (p : Pre ρ ρ') (r : VlsR T Hs ρ v x) : VlsR T Hs' ρ' v x := Paired.imp r fun _ _ h => h.mono e p
theorem EnvR.mono (e : Same Hs Hs') (p : Pre ρ ρ') (r : EnvR T Hs ρ σ env) : EnvR T Hs' ρ' σ env := ⟨r.1, fun i v h => by
  obtain ⟨u, h1, h2⟩ := r.2 i v h
  exact ⟨u, h1, h2.mono e p⟩⟩
theorem MOR.move {a : Addr} {o : MO} (e : Same Hs Hs') (p : Pre ρ ρ') (k : ∀ u, H a = some u → H' a = some u) (r : MOR T Hs H ρ a o) : MOR T Hs' H' ρ' a o := by
  cases o with
  | lst xs => obtain ⟨vs, h1, h2, h3⟩ := r; exact ⟨vs, k _ h1, h2, VlsR.mono e p h3⟩
  | dct kvs => obtain ⟨vs, h1, h2, h3⟩ := r; exact ⟨vs, k _ h1, h2, Paired.imp h3 fun _ _ h => ⟨h.1, h.2.mono e p⟩⟩
  | ins c fs => obtain ⟨C, dx, gs, h1, h2, h3, h4⟩ := r; exact ⟨C, dx, gs, k _ h1, h2, h3, Paired.imp h4 fun _ _ h => ⟨h.1, h.2.mono e p⟩⟩
theorem MOR.some {a : Addr} {o : MO} (r : MOR T Hs H ρ a o) : ∃ u, H a = some u ∧ Mut (some u) := by
  cases o with
  | lst xs => obtain ⟨vs, h1, _⟩ := r; exact ⟨_, h1, trivial⟩
  | dct kvs => obtain ⟨vs, h1, _⟩ := r; exact ⟨_, h1, trivial⟩
  | ins c fs => obtain ⟨C, dx, gs, h1, _⟩ := r; exact ⟨_, h1, trivial⟩
theorem Sy.im (sy : Sy T Hs H ρ h) {a : Addr} (m : Im ρ h a) : Hs a = none ∧ H a ≠ none := by
  obtain ⟨n, o, h1, h2⟩ := m
  obtain ⟨k1, k2⟩ := sy.ob n o a h1 h2
  obtain ⟨u, k3, _⟩ := k2.some
  exact ⟨k1, by rw [k3]; simp⟩
theorem Sy.at (sy : Sy T Hs H ρ h) {n : Nat} {o : MO} (e : h[n]? = some (some o)) : ∃ a, ρ[n]? = some a ∧ Hs a = none ∧ MOR T Hs H ρ a o := by
  have hl : n < ρ.length := by rw [sy.len]; exact (List.getElem?_eq_some_iff.mp e).1
  exact ⟨ρ[n], List.getElem?_eq_getElem hl, sy.ob n o _ e (List.getElem?_eq_getElem hl)⟩
theorem get_set {α : Type} {l : List (Option α)} {i j : Nat} {o : Option α} {u : α} (e : (l.set i o)[j]? = some (some u)) : (j = i ∧ o = some u ∧ i < l.length) ∨ (j ≠ i ∧ l[j]? = some (some u)) := by
  by_cases hj : j = i
  · subst hj
    have hl := (List.getElem?_eq_some_iff.mp e).1
    rw [List.length_set] at hl
    rw [List.getElem?_set_self hl] at e
    exact .inl ⟨rfl, Option.some.inj e, hl⟩
  · rw [List.getElem?_set_ne (Ne.symm hj)] at e
    exact .inr ⟨hj, e⟩
/-! ### two in a row -/
theorem Post.bind {R : Hp → Hp → List Addr → α → Prop} {S : Hp → Hp → List Addr → β → Prop} {o : HV.R α} {f : α → Hm → HV.R β}
    (p : Post D S Hs H ρ h (o.bind f)) (k : ∀ a h' H' Hs' ρ', TrH Hs H ρ h Hs' H' ρ' h' → Pre ρ ρ' → Sy D.T Hs' H' ρ' h' → Post D S Hs' H' ρ' h' (f a h') → R Hs' H' ρ' a) :
    Post D R Hs H ρ h o := by
  cases o with
  | stuck => exact p
  | exc c ps e => exact p
  | ok a e =>
    intro H' Hs' ρ' t pr sy
    refine k a e H' Hs' ρ' t pr sy ?_
    have p' : Post D S Hs H ρ h (f a e) := p
    cases q : f a e with
    | stuck => rw [q] at p'; exact p'
    | exc c ps e2 =>
      rw [q] at p'
      intro H2 Hs2 ρ2 C d t2 pr2 sy2 x
      exact p' H2 Hs2 ρ2 C d (t.trans t2) (pr.trans pr2) sy2 x
    | ok b e2 =>
      rw [q] at p'
      intro H2 Hs2 ρ2 t2 pr2 sy2
      exact p' H2 Hs2 ρ2 (t.trans t2) (pr.trans pr2) sy2
theorem Post.imp {R S : Hp → Hp → List Addr → α → Prop} {o : HV.R α} (p : Post D R Hs H ρ h o) (k : ∀ a h' H' Hs' ρ', TrH Hs H ρ h Hs' H' ρ' h' → Pre ρ ρ' → Sy D.T Hs' H' ρ' h' → R Hs' H' ρ' a → S Hs' H' ρ' a) : Post D S Hs H ρ h o := by
  cases o with
  | stuck => exact p
  | exc c ps e => exact p
  | ok a e => exact fun H' Hs' ρ' t pr sy => k a e H' Hs' ρ' t pr sy (p H' Hs' ρ' t pr sy)
theorem Post.back {R : Hp → Hp → List Addr → α → Prop} {o : HV.R α} (t : TrH Hs H ρ h Hs' H' ρ' h') (pr : Pre ρ ρ') (p : Post D R Hs H ρ h o) : Post D R Hs' H' ρ' h' o := by
  cases o with
  | stuck => exact p
  | exc c ps e => exact fun H2 Hs2 ρ2 C d t2 pr2 sy2 x => p H2 Hs2 ρ2 C d (t.trans t2) (pr.trans pr2) sy2 x
  | ok a e => exact fun H2 Hs2 ρ2 t2 pr2 sy => p H2 Hs2 ρ2 (t.trans t2) (pr.trans pr2) sy
/-! ### the heap's steps -/
/-- a new object that stays -/
theorem Sy.alloc (sy : Sy T Hs H ρ h) {p : Addr} {o : HO} (hp : H p = none) : Sy T (upd Hs p o) (upd H p o) ρ h ∧ TrH Hs H ρ h (upd Hs p o) (upd H p o) ρ h := by
  have hs : Hs p = none := sy.sub.free hp
  have sb : Same Hs (upd Hs p o) := fun a u q => by rw [upd_ne (ne_of_none q hs)]; exact q
  have sh : Same H (upd H p o) := fun a u q => by rw [upd_ne (ne_of_none q hp)]; exact q
  refine ⟨⟨fun a u q => ?_, sy.len, sy.inj, fun n u a q w => ?_⟩, ⟨sb, fun a u q _ _ => sh a u q, fun a q => ?_, fun a u q => ?_, fun a q => .inl q⟩⟩
  · by_cases e : a = p
    · subst e; rw [upd_same] at q ⊢; exact q
    · rw [upd_ne e] at q ⊢; exact sy.sub a u q
  · obtain ⟨k1, k2⟩ := sy.ob n u a q w
    have ne : a ≠ p := fun e => (sy.im ⟨n, u, q, w⟩).2 (by rw [e]; exact hp)
    exact ⟨by rw [upd_ne ne]; exact k1, k2.move sb Pre.refl (fun u z => sh a u z)⟩
  · by_cases e : a = p
    · subst e; exact hp
    · rw [upd_ne e] at q; exact q
  · by_cases e : a = p
    · subst e; exact .inr ⟨hs, .inr hp⟩
    · rw [upd_ne e] at q; exact .inl q
theorem Sy.grow (sy : Sy T Hs H ρ h) (g : Grow Hs H Hs' H') : Sy T Hs' H' ρ h ∧ TrH Hs H ρ h Hs' H' ρ h := by
  induction g with
  | refl => exact ⟨sy, Tr.refl⟩
  | new _ hp ih =>
    obtain ⟨s1, t1⟩ := ih
    obtain ⟨s2, t2⟩ := s1.alloc hp
    exact ⟨s2, t1.trans t2⟩
/-- an object that is nobody's is laid or written -/
theorem Sy.other (sy : Sy T Hs H ρ h) {a : Addr} {o : HO} (hs : Hs a = none) (hi : ¬ Im ρ h a) : Sy T Hs (upd H a o) ρ h := by
  refine ⟨fun b u q => by rw [upd_ne (ne_of_none q hs)]; exact sy.sub b u q, sy.len, sy.inj, fun n u b q w => ?_⟩
  obtain ⟨k1, k2⟩ := sy.ob n u b q w
  have ne : b ≠ a := fun e => hi ⟨n, u, q, by rw [← e]; exact w⟩
  exact ⟨k1, k2.move (Same.refl _) Pre.refl fun u z => by rw [upd_ne ne]; exact z⟩
/-- .. is told: it stays from now on -/
theorem Sy.tell (sy : Sy T Hs H ρ h) {a : Addr} {o : HO} (ha : H a = some o) (hs : Hs a = none) (hi : ¬ Im ρ h a) : Sy T (upd Hs a o) H ρ h := by
  refine ⟨fun b u q => ?_, sy.len, sy.inj, fun n u b q w => ?_⟩
  · by_cases e : b = a
    · subst e; rw [upd_same] at q; cases q; exact ha
    · rw [upd_ne e] at q; exact sy.sub b u q
  · obtain ⟨k1, k2⟩ := sy.ob n u b q w
    have ne : b ≠ a := fun e => hi ⟨n, u, q, by rw [← e]; exact w⟩
    exact ⟨by rw [upd_ne ne]; exact k1, k2.move (fun b u z => by rw [upd_ne (ne_of_none z hs)]; exact z) Pre.refl fun u z => z⟩
theorem im_app {a p : Addr} {o : Option MO} (hl : ρ.length = h.length) (m : Im (ρ ++ [p]) (h ++ [o]) a) : Im ρ h a ∨ (a = p ∧ ∃ u, o = some u) := by
  obtain ⟨n, u, h1, h2⟩ := m
  by_cases hn : n < h.length
  · rw [List.getElem?_append_left hn] at h1
    rw [List.getElem?_append_left (by omega)] at h2
    exact .inl ⟨n, u, h1, h2⟩
  · have hn2 : n = h.length := by
      have := (List.getElem?_eq_some_iff.mp h1).1
      rw [List.length_append] at this
      simp at this
      omega
    subst hn2
    rw [List.getElem?_append_right (Nat.le_refl _), Nat.sub_self] at h1
    rw [← hl, List.getElem?_append_right (Nat.le_refl _), Nat.sub_self] at h2
    simp at h1 h2
    exact .inr ⟨h2.symm, u, h1⟩
/-- .. becomes a changing object -/
theorem Sy.take_in (sy : Sy T Hs H ρ h) {p : Addr} {o : MO} (hs : Hs p = none) (hi : ¬ Im ρ h p) (m : MOR T Hs H (ρ ++ [p]) p o) : Sy T Hs H (ρ ++ [p]) (h ++ [some o]) := by
  have cs : ∀ (n : Nat) (u : MO) (a : Addr), (h ++ [some o])[n]? = some (some u) → (ρ ++ [p])[n]? = some a → (n < h.length ∧ h[n]? = some (some u) ∧ ρ[n]? = some a) ∨ (n = h.length ∧ u = o ∧ a = p) := fun n u a q w => by
    by_cases hn : n < h.length
    · rw [List.getElem?_append_left hn] at q
      rw [List.getElem?_append_left (by rw [sy.len]; exact hn)] at w
      exact .inl ⟨hn, q, w⟩
    · have hn2 : n = h.length := by
        have := (List.getElem?_eq_some_iff.mp q).1
        rw [List.length_append] at this
        simp at this
        omega
      subst hn2
      rw [List.getElem?_append_right (Nat.le_refl _), Nat.sub_self] at q
      rw [← sy.len, List.getElem?_append_right (Nat.le_refl _), Nat.sub_self] at w
      simp at q w
      exact .inr ⟨rfl, q.symm, w.symm⟩
  refine ⟨sy.sub, by rw [List.length_append, List.length_append, sy.len]; rfl, fun i j a u w q1 q2 w1 w2 => ?_, fun n u a q w => ?_⟩
  · rcases cs i u a q1 w1 with ⟨c1, c2, c3⟩ | ⟨c1, c2, c3⟩
    · rcases cs j w a q2 w2 with ⟨d1, d2, d3⟩ | ⟨d1, d2, d3⟩
      · exact sy.inj i j a u w c2 d2 c3 d3
      · subst d3; exact absurd ⟨i, u, c2, c3⟩ hi
    · rcases cs j w a q2 w2 with ⟨d1, d2, d3⟩ | ⟨d1, d2, d3⟩
      · subst c3; exact absurd ⟨j, w, d2, d3⟩ hi
      · omega
  · rcases cs n u a q w with ⟨c1, c2, c3⟩ | ⟨c1, c2, c3⟩
    · obtain ⟨k1, k2⟩ := sy.ob n u a c2 c3
      exact ⟨k1, k2.move (Same.refl _) Pre.app fun _ z => z⟩
    · subst c2; subst c3; exact ⟨hs, m⟩
theorem tr_new {O : Addr → Prop} {p : Addr} {o : HO} (hp : H p = none) : Tr Hs H O Hs (upd H p o) O :=
  ⟨Same.refl _, fun a u h _ _ => by rw [upd_ne (ne_of_none h hp)]; exact h, fun a h => by
    by_cases e : a = p
    · rw [e]; exact hp
    · rw [upd_ne e] at h; exact h, fun _ _ h => .inl h, fun _ h => .inl h⟩
theorem Sy.nobody (sy : Sy T Hs H ρ h) {p : Addr} (hp : H p = none) : Hs p = none ∧ ¬ Im ρ h p := ⟨sy.sub.free hp, fun m => (sy.im m).2 hp⟩
/-- a new object that may change -/
theorem Sy.new (sy : Sy T Hs H ρ h) {p : Addr} {u : HO} {o : MO} (hp : H p = none) (m : MOR T Hs (upd H p u) (ρ ++ [p]) p o) : Sy T Hs (upd H p u) (ρ ++ [p]) (h ++ [some o]) ∧ TrH Hs H ρ h Hs (upd H p u) (ρ ++ [p]) (h ++ [some o]) := by
  obtain ⟨n1, n2⟩ := sy.nobody hp
  refine ⟨(sy.other n1 n2).take_in n1 n2 m, ?_⟩
  have t := tr_new (Hs := Hs) (O := Im ρ h) (o := u) hp
  refine ⟨t.mono, t.keep, t.there, t.new, fun a z => ?_⟩
  rcases im_app sy.len z with z | ⟨rfl, _⟩
  · exact .inl z
  · exact .inr hp
theorem im_set {a : Addr} {n : Nat} {o : Option MO} (m : Im ρ (h.set n o) a) : Im ρ h a ∨ (ρ[n]? = some a ∧ n < h.length) := by
  obtain ⟨k, u, h1, h2⟩ := m
  rcases get_set h1 with ⟨rfl, _, hl⟩ | ⟨_, e⟩
  · exact .inr ⟨h2, hl⟩
  · exact .inl ⟨k, u, e, h2⟩
/-- a changing object is written -/
theorem Sy.write (sy : Sy T Hs H ρ h) {n : Nat} {a : Addr} {o o' : MO} {u : HO} (e : h[n]? = some (some o)) (ha : ρ[n]? = some a) (m : MOR T Hs (upd H a u) ρ a o') : Sy T Hs (upd H a u) ρ (h.set n (some o')) ∧ TrH Hs H ρ h Hs (upd H a u) ρ (h.set n (some o')) := by
  obtain ⟨k1, k2⟩ := sy.ob n o a e ha
  have hl := (List.getElem?_eq_some_iff.mp e).1
  refine ⟨⟨fun b w q => by rw [upd_ne (ne_of_none q k1)]; exact sy.sub b w q, by rw [List.length_set]; exact sy.len, fun i j b w z q1 q2 w1 w2 => ?_, fun i w b q w1 => ?_⟩, ⟨Same.refl _, fun b w q _ no => ?_, fun b q => ?_, fun _ _ q => .inl q, fun b q => ?_⟩⟩
  · have lv : ∀ (i : Nat) (w : MO), (h.set n (some o'))[i]? = some (some w) → ∃ w', h[i]? = some (some w') := fun i w q => by
      rcases get_set q with ⟨rfl, _, _⟩ | ⟨_, q⟩
      · exact ⟨o, e⟩
      · exact ⟨w, q⟩
    obtain ⟨w', q1'⟩ := lv i w q1
    obtain ⟨z', q2'⟩ := lv j z q2
    exact sy.inj i j b w' z' q1' q2' w1 w2
  · rcases get_set q with ⟨rfl, q, _⟩ | ⟨ne, q⟩
    · cases q
      rw [ha] at w1
      cases w1
      exact ⟨k1, m⟩
    · obtain ⟨c1, c2⟩ := sy.ob i w b q w1
      have nb : b ≠ a := fun z => ne (sy.inj i n b w o q e w1 (by rw [z]; exact ha))
      exact ⟨c1, c2.move (Same.refl _) Pre.refl fun u z => by rw [upd_ne nb]; exact z⟩
  · have nb : b ≠ a := fun z => no ⟨n, o, e, by rw [z]; exact ha⟩
    rw [upd_ne nb]; exact q
  · by_cases z : b = a
    · subst z; rw [upd_same] at q; cases q
    · rw [upd_ne z] at q; exact q
  · rcases im_set q with z | ⟨z, _⟩
    · exact .inl z
    · exact .inl ⟨n, o, e, z⟩
/-- a changing object is not looked at for a while -/
theorem Sy.kill (sy : Sy T Hs H ρ h) (n : Nat) : Sy T Hs H ρ (h.set n none) := by
  have lv : ∀ (i : Nat) (w : MO), (h.set n none)[i]? = some (some w) → i ≠ n ∧ h[i]? = some (some w) := fun i w q => by
    rcases get_set q with ⟨_, z, _⟩ | ⟨ne, q⟩
    · cases z
    · exact ⟨ne, q⟩
  exact ⟨sy.sub, by rw [List.length_set]; exact sy.len, fun i j b w z q1 q2 w1 w2 => sy.inj i j b w z (lv i w q1).2 (lv j z q2).2 w1 w2, fun i w b q w1 => sy.ob i w b (lv i w q).2 w1⟩
theorem im_kill {n : Nat} {a : Addr} (m : Im ρ (h.set n none) a) : Im ρ h a := by
  obtain ⟨k, u, h1, h2⟩ := m
  rcases get_set h1 with ⟨_, z, _⟩ | ⟨_, e⟩
  · cases z
  · exact ⟨k, u, e, h2⟩
theorem Sy.nokill (sy : Sy T Hs H ρ h) {n : Nat} {a : Addr} {o : MO} (e : h[n]? = some (some o)) (ha : ρ[n]? = some a) : ¬ Im ρ (h.set n none) a := by
  rintro ⟨k, u, h1, h2⟩
  rcases get_set h1 with ⟨_, z, _⟩ | ⟨ne, q⟩
  · cases z
  · exact ne (sy.inj k n a u o q e h2 ha)
/-! ### freezing -/
/-- a freezing, shown: nothing in the heap is changed, the same is known of more -/
def FzOk (T : Tb) (H : Hp) (ρ : List Addr) (Hs : Hp) (h : Hm) (Hs' : Hp) (h' : Hm) : Prop := Sy T Hs' H ρ h' ∧ Tr Hs H (Im ρ h) Hs' H (Im ρ h')
theorem map_ok {α' : Type} {F : Hp → α' → α → Prop} {G : Hp → α' → β → Prop} (hG : ∀ Hs Hs' a b, Same Hs Hs' → G Hs a b → G Hs' a b) (hF : ∀ Hs Hs' a b, Same Hs Hs' → F Hs a b → F Hs' a b) {f : α → Hm → Option (β × Hm)}
    (hf : ∀ Hs h x v d h', Sy T Hs H ρ h → F Hs v x → f x h = some (d, h') → ∃ Hs', FzOk T H ρ Hs h Hs' h' ∧ G Hs' v d) :
    ∀ {Hs : Hp} {h : Hm} {xs : List α} {vs : List α'} {ds : List β} {h' : Hm}, Sy T Hs H ρ h → Paired (F Hs) vs xs → mapH f xs h = some (ds, h') → ∃ Hs', FzOk T H ρ Hs h Hs' h' ∧ Paired (G Hs') vs ds := by
  intro Hs h xs
  induction xs generalizing Hs h with
  | nil =>
    intro vs ds h' sy r e
    cases r
    cases e
    exact ⟨Hs, ⟨sy, Tr.refl⟩, .nil⟩
  | cons x xs ih =>
    intro vs ds h' sy r e
    cases r with
    | cons rx rr =>
      simp only [mapH] at e
      cases w : f x h with
      | none => rw [w] at e; cases e
      | some dh =>
        obtain ⟨d, h1⟩ := dh
        rw [w] at e
        dsimp only at e
        cases w2 : mapH f xs h1 with
        | none => rw [w2] at e; cases e
        | some dsh =>
          obtain ⟨ds', h2⟩ := dsh
          rw [w2] at e
          cases e
          obtain ⟨Hs1, ⟨s1, t1⟩, g1⟩ := hf Hs h x _ d h1 sy rx w
          obtain ⟨Hs2, ⟨s2, t2⟩, g2⟩ := ih s1 (Paired.imp rr fun a b z => hF _ _ _ _ t1.mono z) w2
          exact ⟨Hs2, ⟨s2, t1.trans t2⟩, .cons (hG _ _ _ _ t2.mono g1) g2⟩
theorem RepVs.ofP : ∀ {vs : List V} {ds : List PV}, Paired (RepV T Hs) vs ds → RepVs T Hs vs ds
  | _, _, .nil => .nil
  | _, _, .cons r t => .cons r (RepVs.ofP t)
theorem RepKs.ofP : ∀ {vs : List (Key × V)} {ds : List (PV × PV)}, Paired (fun (p : Key × V) (q : PV × PV) => KeyR p.1 q.1 ∧ RepV T Hs p.2 q.2) vs ds → RepKs T Hs vs ds
  | _, _, .nil => .nil
  | _, _, .cons (a := (k, x)) (b := (e, d)) r t => .cons r.1 r.2 (RepKs.ofP t)
theorem RepFs.ofP : ∀ {vs : List (Str × V)} {ds : List (Nat × PV)}, Paired (fun (p : Str × V) (q : Nat × PV) => p.1 = nmS q.1 ∧ RepV T Hs p.2 q.2) vs ds → RepFs T Hs vs ds
  | _, _, .nil => .nil
  | _, _, .cons (a := (k, x)) (b := (e, d)) r t => by
    obtain ⟨h1, h2⟩ := r
    dsimp only at h1
    subst h1
    exact .cons h2 (RepFs.ofP t)
theorem mapH_len {f : α → Hm → Option (β × Hm)} : ∀ {xs : List α} {h h' : Hm} {ds : List β}, mapH f xs h = some (ds, h') → ds.length = xs.length
  | [], h, h', ds, e => by cases e; rfl
  | x :: xs, h, h', ds, e => by
    simp only [mapH] at e
    cases w : f x h with
    | none => rw [w] at e; cases e
    | some dh =>
      obtain ⟨d, h1⟩ := dh
      rw [w] at e
      dsimp only at e
      cases w2 : mapH f xs h1 with
      | none => rw [w2] at e; cases e
      | some dsh =>
        obtain ⟨ds', h2⟩ := dsh
        rw [w2] at e
        cases e
        simp [mapH_len w2]
theorem frzV_ok : ∀ (k : Nat) {Hs : Hp} {h h' : Hm} {x : Vl} {v : V} {d : PV}, Sy T Hs H ρ h → VlR T Hs ρ v x → frzV k x h = some (d, h') → ∃ Hs', FzOk T H ρ Hs h Hs' h' ∧ RepV T Hs' v d
  | k, Hs, h, h', .fz d0, v, d, sy, r, e => by
    cases k <;> (cases e; exact ⟨Hs, ⟨sy, Tr.refl⟩, r⟩)
  | 0, Hs, h, h', .rf n, v, d, sy, r, e => by cases e
  | k + 1, Hs, h, h', .rf n, v, d, sy, r, e => by
    obtain ⟨a, ha, rfl⟩ := r
    have ih := fun (Hs : Hp) (h : Hm) (x : Vl) (v : V) (d : PV) (h' : Hm) (s : Sy T Hs H ρ h) (r : VlR T Hs ρ v x) (e : frzV k x h = some (d, h')) => frzV_ok k (h' := h') s r e
    simp only [frzV] at e
    have fin : ∀ {o : MO} {u : HO} {Hs1 : Hp} {h1 : Hm}, h[n]? = some (some o) → H a = some u → FzOk T H ρ Hs (h.set n none) Hs1 h1 → FzOk T H ρ Hs h (upd Hs1 a u) h1 ∧ Same Hs1 (upd Hs1 a u) := fun {o u Hs1 h1} e hu z => by
      obtain ⟨s1, t1⟩ := z
      have no := sy.nokill e ha
      have hsa : Hs a = none := (sy.ob n o a e ha).1
      have n1 : Hs1 a = none := by
        cases q : Hs1 a with
        | none => rfl
        | some w =>
          rcases t1.new a w q with z | ⟨_, z | z⟩
          · rw [hsa] at z; cases z
          · exact absurd z no
          · rw [hu] at z; cases z
      have no1 : ¬ Im ρ h1 a := fun z => by
        rcases t1.newO a z with z | z
        · exact no z
        · rw [hu] at z; cases z
      have sb : Same Hs1 (upd Hs1 a u) := fun b w z => by rw [upd_ne (ne_of_none z n1)]; exact z
      refine ⟨⟨s1.tell hu n1 no1, t1.mono.trans sb, fun b w q _ _ => q, fun b q => q, fun b w q => ?_, fun b q => ?_⟩, sb⟩
      · by_cases z : b = a
        · subst z; exact .inr ⟨hsa, .inl ⟨n, o, e, ha⟩⟩
        · rw [upd_ne z] at q
          rcases t1.new b w q with z | ⟨z1, z | z⟩
          · exact .inl z
          · exact .inr ⟨z1, .inl (im_kill z)⟩
          · exact .inr ⟨z1, .inr z⟩
      · rcases t1.newO b q with z | z
        · exact .inl (im_kill z)
        · exact .inr z
    cases w : h[n]? with
    | none => rw [w] at e; cases e
    | some oo =>
      rw [w] at e
      cases oo with
      | none => cases e
      | some o =>
        obtain ⟨hsa, mr⟩ := sy.ob n o a w ha
        cases o with
        | lst xs =>
          dsimp only at e
          cases w2 : mapH (frzV k) xs (h.set n none) with
          | none => rw [w2] at e; cases e
          | some dh =>
            obtain ⟨ds, h1⟩ := dh
            rw [w2] at e
            cases e
            obtain ⟨vs, g1, g2, g3⟩ := mr
            obtain ⟨Hs1, z, g⟩ := map_ok (F := fun Hs v x => VlR T Hs ρ v x) (G := fun Hs v d => RepV T Hs v d) (fun _ _ _ _ s r => r.mono s) (fun _ _ _ _ s r => r.mono s Pre.refl) ih (sy.kill n) g3 w2
            obtain ⟨q1, q2⟩ := fin w g1 z
            exact ⟨_, q1, .lst upd_same (by rw [mapH_len w2]; exact g2) (RepVs.ofP (Paired.imp g fun _ _ r => r.mono q2))⟩
        | dct kvs =>
          dsimp only at e
          cases w2 : mapH (sndH (frzV k)) kvs (h.set n none) with
          | none => rw [w2] at e; cases e
          | some dh =>
            obtain ⟨ds, h1⟩ := dh
            rw [w2] at e
            cases e
            obtain ⟨vs, g1, g2, g3⟩ := mr
            obtain ⟨Hs1, z, g⟩ := map_ok (F := fun Hs p q => KvR T Hs ρ p q) (G := fun Hs (p : Key × V) (q : PV × PV) => KeyR p.1 q.1 ∧ RepV T Hs p.2 q.2) (fun _ _ _ _ s r => ⟨r.1, r.2.mono s⟩) (fun _ _ _ _ s r => ⟨r.1, r.2.mono s Pre.refl⟩) (fun Hs h x v d h' s r e => by
              simp only [sndH] at e
              cases w3 : frzV k x.2 h with
              | none => rw [w3] at e; cases e
              | some dh =>
                obtain ⟨d', h2⟩ := dh
                rw [w3] at e
                cases e
                obtain ⟨Hs', f1, f2⟩ := ih Hs h x.2 v.2 _ _ s r.2 w3
                exact ⟨Hs', f1, r.1, f2⟩) (sy.kill n) g3 w2
            obtain ⟨q1, q2⟩ := fin w g1 z
            exact ⟨_, q1, .dct (.inl upd_same) (by rw [mapH_len w2]; exact g2) (RepKs.ofP (Paired.imp g fun _ _ r => ⟨r.1, r.2.mono q2⟩))⟩
        | ins c fs =>
          dsimp only at e
          cases w2 : mapH (sndH (frzV k)) fs (h.set n none) with
          | none => rw [w2] at e; cases e
          | some dh =>
            obtain ⟨ds, h1⟩ := dh
            rw [w2] at e
            cases e
            obtain ⟨C, dx, gs, g1, g2, g3, g4⟩ := mr
            obtain ⟨Hs1, z, g⟩ := map_ok (F := fun Hs p q => FdR T Hs ρ p q) (G := fun Hs (p : Str × V) (q : Nat × PV) => p.1 = nmS q.1 ∧ RepV T Hs p.2 q.2) (fun _ _ _ _ s r => ⟨r.1, r.2.mono s⟩) (fun _ _ _ _ s r => ⟨r.1, r.2.mono s Pre.refl⟩) (fun Hs h x v d h' s r e => by
              simp only [sndH] at e
              cases w3 : frzV k x.2 h with
              | none => rw [w3] at e; cases e
              | some dh =>
                obtain ⟨d', h2⟩ := dh
                rw [w3] at e
                cases e
                obtain ⟨Hs', f1, f2⟩ := ih Hs h x.2 v.2 _ _ s r.2 w3
                exact ⟨Hs', f1, r.1, f2⟩) (sy.kill n) g4 w2
            obtain ⟨q1, q2⟩ := fin w g1 z
            exact ⟨_, q1, .obj upd_same g2 (RepFs.ofP (Paired.imp g fun _ _ r => ⟨r.1, r.2.mono q2⟩))⟩
/-- a value, as it stands -/
theorem vw_ok (sy : Sy T Hs H ρ h) {x : Vl} {v : V} {d : PV} (r : VlR T Hs ρ v x) (e : vw h x = some d) : ∃ Hv, Same Hs Hv ∧ Same Hv H ∧ RepV T Hv v d := by
  unfold vw at e
  cases w : frzV 8 x h with
  | none => rw [w] at e; cases e
  | some dh =>
    obtain ⟨d', h1⟩ := dh
    rw [w] at e
    cases e
    obtain ⟨Hs', ⟨s1, t1⟩, g⟩ := frzV_ok 8 sy r w
    exact ⟨Hs', t1.mono, s1.sub, g⟩
theorem Post.frz {R : Hp → Hp → List Addr → PV → Prop} (sy : Sy D.T Hs H ρ h) {x : Vl} {v : V} (r : VlR D.T Hs ρ v x) (p : Post D R Hs H ρ h (HV.frz x h)) : ∃ Hs' h' d, HV.frz x h = .ok d h' ∧ FzOk D.T H ρ Hs h Hs' h' ∧ RepV D.T Hs' v d ∧ R Hs' H ρ d := by
  unfold HV.frz at p ⊢
  cases w : frzV 8 x h with
  | none => rw [w] at p; exact p.elim
  | some dh =>
    obtain ⟨d', h1⟩ := dh
    rw [w] at p
    obtain ⟨Hs', ⟨s1, t1⟩, g⟩ := frzV_ok 8 sy r w
    exact ⟨Hs', h1, d', rfl, ⟨s1, t1⟩, g, p H Hs' ρ t1 Pre.refl s1⟩
theorem frz_ok (sy : Sy T Hs H ρ h) {x : Vl} {v : V} {d : PV} (r : VlR T Hs ρ v x) (e : HV.frz x h = .ok d h') : ∃ Hs', FzOk T H ρ Hs h Hs' h' ∧ RepV T Hs' v d := by
  unfold HV.frz at e
  cases w : frzV 8 x h with
  | none => rw [w] at e; cases e
  | some dh =>
    obtain ⟨d', h1⟩ := dh
    rw [w] at e
    cases e
    exact frzV_ok 8 sy r w
theorem frz_exc {x : Vl} {c : Nat} {ps : List PV} (e : HV.frz x h = .exc c ps h') : False := by
  unfold HV.frz at e
  split at e <;> cases e
theorem frzs_ok : ∀ {xs : List Vl} {vs : List V} {Hs : Hp} {h h' : Hm} {ds : List PV}, Sy T Hs H ρ h → VlsR T Hs ρ vs xs → frzs xs h = .ok ds h' → ∃ Hs', FzOk T H ρ Hs h Hs' h' ∧ RepVs T Hs' vs ds
  | [], vs, Hs, h, h', ds, sy, r, e => by cases r; cases e; exact ⟨Hs, ⟨sy, Tr.refl⟩, .nil⟩
  | x :: xs, vs, Hs, h, h', ds, sy, r, e => by
    cases r with
    | cons rx rr =>
      simp only [frzs] at e
      cases w : HV.frz x h with
      | stuck => rw [w] at e; cases e
      | exc c ps h1 => exact (frz_exc w).elim
      | ok d h1 =>
        rw [w] at e
        replace e : (frzs xs h1).bind (fun ds h => .ok (d :: ds) h) = R.ok ds h' := e
        cases w2 : frzs xs h1 with
        | stuck => rw [w2] at e; cases e
        | exc c ps h1 => rw [w2] at e; cases e
        | ok ds' h2 =>
          rw [w2] at e
          cases e
          obtain ⟨Hs1, ⟨s1, t1⟩, g1⟩ := frz_ok sy rx w
          obtain ⟨Hs2, ⟨s2, t2⟩, g2⟩ := frzs_ok s1 (VlsR.mono t1.mono Pre.refl rr) w2
          exact ⟨Hs2, ⟨s2, t1.trans t2⟩, .cons (g1.mono t2.mono) g2⟩
theorem frzs_exc {xs : List Vl} {c : Nat} {ps : List PV} : ∀ {h h' : Hm}, frzs xs h = .exc c ps h' → False := by
  induction xs with
  | nil => intro h h' e; cases e
  | cons x xs ih =>
    intro h h' e
    simp only [frzs] at e
    cases w : HV.frz x h with
    | stuck => rw [w] at e; cases e
    | exc c ps h1 => exact frz_exc w
    | ok d h1 =>
      rw [w] at e
      replace e : (frzs xs h1).bind (fun ds h => .ok (d :: ds) h) = R.exc c ps h' := e
      cases w2 : frzs xs h1 with
      | stuck => rw [w2] at e; cases e
      | exc c' ps' h3 => rw [w2] at e; cases e; exact ih w2
      | ok ds' h2 => rw [w2] at e; cases e
/-! ### locks -/
theorem lockH_len : ∀ {l : Lk} {h : Hm}, (lockH l h).length = h.length
  | [], _ => rfl
  | (n, o) :: r, h => by unfold lockH; rw [lockH_len, List.length_set]
theorem unlkH_len : ∀ {l : Lk} {h : Hm}, (unlkH l h).length = h.length
  | [], _ => rfl
  | (n, o) :: r, h => by unfold unlkH; rw [List.length_set, unlkH_len]
/-- what is locked stands there -/
def LkOk : Lk → Hm → Prop
  | [], _ => True
  | (n, o) :: r, h => h[n]? = some (some o) ∧ LkOk r (h.set n none)
theorem Sy.lock : ∀ {l : Lk} {h : Hm}, Sy T Hs H ρ h → Sy T Hs H ρ (lockH l h)
  | [], _, sy => sy
  | (n, o) :: r, h, sy => Sy.lock (l := r) (sy.kill n)
theorem im_lock : ∀ {l : Lk} {h : Hm} {a : Addr}, Im ρ (lockH l h) a → Im ρ h a
  | [], _, _, m => m
  | (n, o) :: r, h, a, m => im_kill (im_lock (l := r) m)
theorem tr_lock {l : Lk} : TrH Hs H ρ h Hs H ρ (lockH l h) := ⟨Same.refl _, fun _ _ q _ _ => q, fun _ q => q, fun _ _ q => .inl q, fun _ q => .inl (im_lock q)⟩
/-- the locks are opened: what was locked is as it was -/
theorem Sy.unlk : ∀ {l : Lk} {h : Hm}, Sy T Hs H ρ h → LkOk l h → TrH Hs H ρ (lockH l h) Hs' H' ρ' h' → Pre ρ ρ' → Sy T Hs' H' ρ' h' → Sy T Hs' H' ρ' (unlkH l h') ∧ TrH Hs H ρ h Hs' H' ρ' (unlkH l h')
  | [], h, sy, _, t, _, sy' => ⟨sy', t⟩
  | (n, o) :: r, h, sy, lk, t, pr, sy' => by
    obtain ⟨s2, t2⟩ := Sy.unlk (l := r) (sy.kill n) lk.2 t pr sy'
    obtain ⟨a, ha, hsa, mr⟩ := sy.at lk.1
    obtain ⟨u, hu, _⟩ := mr.some
    have no := sy.nokill lk.1 ha
    have ha' := pr n a ha
    have n1 : Hs' a = none := by
      cases q : Hs' a with
      | none => rfl
      | some w =>
        rcases t2.new a w q with z | ⟨_, z | z⟩
        · rw [hsa] at z; cases z
        · exact absurd z no
        · rw [hu] at z; cases z
    have no1 : ¬ Im ρ' (unlkH r h') a := fun z => by
      rcases t2.newO a z with z | z
      · exact no z
      · rw [hu] at z; cases z
    have kp : ∀ u, H a = some u → H' a = some u := fun u q => t2.keep a u q hsa no
    have lt : n < (unlkH r h').length := by rw [← s2.len]; exact (List.getElem?_eq_some_iff.mp ha').1
    show Sy T Hs' H' ρ' ((unlkH r h').set n (some o)) ∧ TrH Hs H ρ h Hs' H' ρ' ((unlkH r h').set n (some o))
    refine ⟨⟨s2.sub, by rw [List.length_set]; exact s2.len, fun i j b w z q1 q2 w1 w2 => ?_, fun i w b q w1 => ?_⟩, ⟨t2.mono, fun b w q hs no => t2.keep b w q hs fun z => no (im_kill z), t2.there, fun b w q => ?_, fun b q => ?_⟩⟩
    · rcases get_set q1 with ⟨ei, _, _⟩ | ⟨ne1, q1⟩
      · rcases get_set q2 with ⟨ej, _, _⟩ | ⟨ne2, q2⟩
        · exact ei.trans ej.symm
        · rw [ei, ha'] at w1; cases w1
          exact absurd ⟨j, z, q2, w2⟩ no1
      · rcases get_set q2 with ⟨ej, _, _⟩ | ⟨ne2, q2⟩
        · rw [ej, ha'] at w2; cases w2
          exact absurd ⟨i, w, q1, w1⟩ no1
        · exact s2.inj i j b w z q1 q2 w1 w2
    · rcases get_set q with ⟨rfl, z, _⟩ | ⟨ne, q⟩
      · cases z
        rw [ha'] at w1; cases w1
        exact ⟨n1, mr.move t2.mono pr kp⟩
      · exact s2.ob i w b q w1
    · rcases t2.new b w q with z | ⟨z1, z | z⟩
      · exact .inl z
      · exact .inr ⟨z1, .inl (im_kill z)⟩
      · exact .inr ⟨z1, .inr z⟩
    · rcases im_set q with z | ⟨z, _⟩
      · rcases t2.newO b z with z | z
        · exact .inl (im_kill z)
        · exact .inr z
      · rw [ha'] at z; cases z
        exact .inl ⟨n, o, lk.1, ha⟩
theorem Post.unlk {R : Hp → Hp → List Addr → α → Prop} {l : Lk} {o : HV.R α} (sy : Sy D.T Hs H ρ h) (lk : LkOk l h) (p : Post D R Hs H ρ h (unlkR l o)) : Post D R Hs H ρ (lockH l h) o := by
  cases o with
  | stuck => exact p
  | ok a h1 =>
    intro H' Hs' ρ' t pr s1
    obtain ⟨s2, t2⟩ := Sy.unlk sy lk t pr s1
    exact p H' Hs' ρ' t2 pr s2
  | exc c ps h1 =>
    intro H' Hs' ρ' C d t pr s1 x
    obtain ⟨s2, t2⟩ := Sy.unlk sy lk t pr s1
    exact p H' Hs' ρ' C d t2 pr s2 x
/-! ### what a def drops -/
theorem refsV_R {n : Nat} {v : V} {x : Vl} (r : VlR T Hs ρ v x) (e : refsV n x = true) : VlR T Hs (ρ.take n) v x := by
  cases x with
  | fz d => exact r
  | rf m =>
    obtain ⟨a, h1, h2⟩ := r
    have : m < n := of_decide_eq_true e
    exact ⟨a, by rw [List.getElem?_take_of_lt this]; exact h1, h2⟩
theorem Paired.all {α β : Type} {F G : α → β → Prop} {p : β → Bool} : ∀ {xs : List α} {ys : List β}, Paired F xs ys → ys.all p = true → (∀ a b, F a b → p b = true → G a b) → Paired G xs ys
  | _, _, .nil, _, _ => .nil
  | _, _, .cons r t, e, f => by
    simp only [List.all_cons, Bool.and_eq_true] at e
    exact .cons (f _ _ r e.1) (Paired.all t e.2 f)
theorem Sy.cut {n : Nat} (sy : Sy T Hs H ρ h) (e : (h.take n).all (refsO n) = true) : Sy T Hs H (ρ.take n) (h.take n) := by
  have lv : ∀ (i : Nat) (w : MO), (h.take n)[i]? = some (some w) → i < n ∧ h[i]? = some (some w) := fun i w q => by
    have hl := (List.getElem?_eq_some_iff.mp q).1
    rw [List.length_take] at hl
    have : i < n := by omega
    rw [List.getElem?_take_of_lt this] at q
    exact ⟨this, q⟩
  refine ⟨sy.sub, by rw [List.length_take, List.length_take, sy.len], fun i j b w z q1 q2 w1 w2 => ?_, fun i w b q w1 => ?_⟩
  · obtain ⟨l1, q1⟩ := lv i w q1
    obtain ⟨l2, q2⟩ := lv j z q2
    rw [List.getElem?_take_of_lt l1] at w1
    rw [List.getElem?_take_of_lt l2] at w2
    exact sy.inj i j b w z q1 q2 w1 w2
  · have ro := List.all_eq_true.mp e _ (List.mem_of_getElem? q)
    obtain ⟨l1, q⟩ := lv i w q
    rw [List.getElem?_take_of_lt l1] at w1
    obtain ⟨c1, c2⟩ := sy.ob i w b q w1
    refine ⟨c1, ?_⟩
    cases w with
    | lst xs =>
      obtain ⟨vs, g1, g2, g3⟩ := c2
      exact ⟨vs, g1, g2, Paired.all g3 ro fun _ _ r e => refsV_R r e⟩
    | dct kvs =>
      obtain ⟨vs, g1, g2, g3⟩ := c2
      exact ⟨vs, g1, g2, Paired.all g3 ro fun _ _ r e => ⟨r.1, refsV_R r.2 e⟩⟩
    | ins c fs =>
      obtain ⟨C, dx, gs, g1, g2, g3, g4⟩ := c2
      exact ⟨C, dx, gs, g1, g2, g3, Paired.all g4 ro fun _ _ r e => ⟨r.1, refsV_R r.2 e⟩⟩
theorem im_take {n : Nat} {a : Addr} (m : Im (ρ.take n) (h.take n) a) : Im ρ h a := by
  obtain ⟨k, u, h1, h2⟩ := m
  have hl := (List.getElem?_eq_some_iff.mp h1).1
  rw [List.length_take] at hl
  rw [List.getElem?_take_of_lt (by omega)] at h1 h2
  exact ⟨k, u, h1, h2⟩
/-- of the callee's heap what the caller sees -/
theorem Sy.cutH {keep : Bool} {h1 h2 : Hm} {ρ1 : List Addr} (sy : Sy T Hs H ρ h) (s1 : Sy T Hs' H' ρ1 h1) (t : TrH Hs H ρ h Hs' H' ρ1 h1) (pr : Pre ρ ρ1) (e : HV.cutH keep h.length h1 = some h2) :
    ∃ ρ2, Sy T Hs' H' ρ2 h2 ∧ TrH Hs H ρ h Hs' H' ρ2 h2 ∧ Pre ρ ρ2 ∧ ∀ v x, VlR T Hs' ρ1 v x → refsV h2.length x = true → VlR T Hs' ρ2 v x := by
  unfold HV.cutH at e
  by_cases hk : keep = true
  · rw [if_pos hk] at e
    cases e
    exact ⟨ρ1, s1, t, pr, fun _ _ r _ => r⟩
  rw [if_neg hk] at e
  by_cases hl : h1.length = h.length
  · rw [if_pos hl] at e
    cases e
    exact ⟨ρ1, s1, t, pr, fun _ _ r _ => r⟩
  rw [if_neg hl] at e
  dsimp only at e
  by_cases hr : (h1.take h.length).all (refsO h.length) = true
  · rw [if_pos hr] at e
    cases e
    refine ⟨ρ1.take h.length, s1.cut hr, ⟨t.mono, t.keep, t.there, t.new, fun a z => t.newO a (im_take z)⟩, fun n a q => ?_, fun v x r e => ?_⟩
    · have : n < h.length := by rw [← sy.len]; exact (List.getElem?_eq_some_iff.mp q).1
      rw [List.getElem?_take_of_lt this]
      exact pr n a q
    · refine refsV_R r ?_
      cases x with
      | fz d => rfl
      | rf m =>
        have : m < (h1.take h.length).length := of_decide_eq_true e
        rw [List.length_take] at this
        exact decide_eq_true (by omega)
  · rw [if_neg hr] at e; cases e
end
end HV

end

section
/-! V5: expressions. -/
namespace HV
open PySem PySem.Spec PyProof.Rows L2
section
variable {e o : Expr} {es : List Expr} {pos apos cpos : Pos}
/-! ### what the shape of an expression tells -/
/-- not starred, no slice, no super() -/
def argX : Expr → Bool
  | .Starred .. => false
  | .Slice .. => false
  | .Call (.Name id _) [] [] _ => !(id == ("super" : Str))
  | _ => true
def compX : Expr → Bool
  | .ListComp .. => true
  | .SetComp .. => true
  | .DictComp .. => true
  | _ => false
/-- none of the shapes that are read otherwise -/
def plainX (e : Expr) : Bool := argX e && !compX e
theorem argX_of (h : plainX e = true) : argX e = true := (Bool.and_eq_true_iff.mp h).1
theorem star_of {ev : PySem.Env} (h : argX e = true) : starEach (e :: es) ev = (false, eval e ev) :: starEach es ev := by
  cases e <;> first | rfl | (cases h)
theorem base_of {a : Str} {ev : PySem.Env} {w : Sem Value} (h : argX e = true) : attributeBase e a ev w = w := by
  unfold attributeBase
  split
  · rename_i id _ _
    have h2 : (!(id == ("super" : Str))) = true := h
    have h3 : (id != ("super" : Str)) = true := h2
    simp only [h3, Bool.true_or, if_true]
  · rfl
theorem sub_of (h : argX e = true) : NoSl e := by
  intro ov iv
  cases e <;> first | rfl | (cases h)
theorem swap_of {t : Option Expr} {l : Nat} {ev : PySem.Env} (h : plainX e = true) : swapsWith e t l ev = pure false := by
  have h2 := (Bool.and_eq_true_iff.mp h).2
  cases e <;> first | rfl | (cases h2)
theorem swapS_of {t : Expr} {l : Nat} {ev : PySem.Env} (h : plainX e = true) : swapsWithSole [t] e l ev = pure false := swap_of h
def argsX : List Expr → Bool
  | [] => true
  | e :: es => argX e && argsX es
theorem stars_of {ev : PySem.Env} : ∀ {es : List Expr}, argsX es = true → starEach es ev = es.map fun e => (false, eval e ev)
  | [], _ => rfl
  | e :: es, h => by
    have h2 := Bool.and_eq_true_iff.mp (show (argX e && argsX es) = true from h)
    rw [star_of h2.1, stars_of h2.2]
    rfl
theorem back_any {ev : PySem.Env} (h : argsX es = true) : (backTo pos (starEach es ev)).any (·.1) = false := by
  rw [stars_of h]
  unfold backTo
  rw [List.map_map, List.any_map, List.any_eq_false]
  intro x _
  simp
theorem back_all {ev : PySem.Env} (h : argsX es = true) : (backTo pos (starEach es ev)).all (fun x => !x.1) = true := by
  rw [stars_of h]
  unfold backTo
  rw [List.map_map, List.all_map, List.all_eq_true]
  intro x _
  simp
theorem few_of {ev : PySem.Env} (h : argsX es = true) (hn : es.length < 30) : ((backTo pos (starEach es ev)).all (fun x => !x.1) && (backToKw pos (keywordEach [] ev)).all (fun x => x.1.isSome)
      && decide (es.length + ([] : List Keyword).length + (if ([] : List Keyword).isEmpty then 0 else 1) < 30)) = true := by
  rw [back_all h]
  simpa [backToKw, keywordEach] using hn
theorem meth_ht {a : Str} {ev : PySem.Env} (ho : argX o = true) (h : argsX es = true) (hn : es.length < 30) (hl : (apos.endLine == pos.line) = true) : eval (.Call (.Attribute o a apos) es [] pos) ev = (do
      let ov ← eval o ev
      standAt apos.atName
      let (f, first) ← holding [ov] (getMethod ov a (do return (← importBound o ev).getD true))
      callWith pos f first (backTo pos (starEach es ev)) (backToKw pos (keywordEach [] ev))) := by
  rw [arm_eval_Call, base_of ho]
  have hform : methodCallForm (es.length + ([] : List Keyword).length) (backTo pos (starEach es ev)) (backToKw pos (keywordEach [] ev)) = true := few_of h hn
  have hpos : methodCallPos true o ev apos pos = pure pos := by unfold methodCallPos; simp [hl]
  unfold methodCall
  rw [hform]
  simp only [hpos, pure_bind]
  rfl
end
/-- an expression by trees -/
def semE (D : Wd) (f : Env → Hm → R Vl) : TE := fun σ H Q => ∃ Hs ρ h env, Sy D.T Hs H ρ h ∧ EnvR D.T Hs ρ σ env ∧ Post D (fun Hs' H' ρ' a => ∀ v, VlR D.T Hs' ρ' v a → Q v H') Hs H ρ h (f env h)
def semA (D : Wd) (f : Env → Hm → R (List Vl)) : TA := fun σ H Q => ∃ Hs ρ h env, Sy D.T Hs H ρ h ∧ EnvR D.T Hs ρ σ env ∧ Post D (fun Hs' H' ρ' a => ∀ v, VlsR D.T Hs' ρ' v a → Q v H') Hs H ρ h (f env h)
def semT (D : Wd) (f : Env → Hm → R Bool) : TT := fun σ H Q => ∃ Hs ρ h env, Sy D.T Hs H ρ h ∧ EnvR D.T Hs ρ σ env ∧ Post D (fun Hs' H' ρ' a => Q a H') Hs H ρ h (f env h)
/-- what is wanted of a value's outcome -/
abbrev PostV (D : Wd) (Q : VK) (Hs H : Hp) (ρ : List Addr) (h : Hm) (o : R Vl) : Prop := Post D (fun Hs' H' ρ' a => ∀ v, VlR D.T Hs' ρ' v a → Q v H') Hs H ρ h o
def KV2 (D : Wd) (r : R2) (k : Vl → Vl → Hm → R Vl) : Prop := ∀ x y a b Hs H ρ h Q, Sy D.T Hs H ρ h → VlR D.T Hs ρ x a → VlR D.T Hs ρ y b → PostV D Q Hs H ρ h (k a b h) → r x y H Q
def KV1 (D : Wd) (r : V → Hp → VK → Prop) (k : Vl → Hm → R Vl) : Prop := ∀ x a Hs H ρ h Q, Sy D.T Hs H ρ h → VlR D.T Hs ρ x a → PostV D Q Hs H ρ h (k a h) → r x H Q
section
variable {D : Wd} {T : Tb} {Hs H Hs' H' : Hp} {ρ ρ' : List Addr} {h h' : Hm} {σ : L2.St} {env : Env} {X : Cx} {e o a b c : Expr} {es rest : List Expr} {apos cpos pos pos' p p2 : Pos}
theorem sem_op2 {f g : Env → Hm → R Vl} {rr : R2} {k : Vl → Vl → Hm → R Vl} (hv : KV2 D rr k) : ∀ σ H Q, semE D (op2 f g k) σ H Q → tOp rr (semE D f) (semE D g) σ H Q := by
  intro σ H Q z
  obtain ⟨Hs, ρ, h, env, sy, er, p⟩ := z
  refine ⟨Hs, ρ, h, env, sy, er, Post.bind (f := fun x h => (g env h).bind fun y h => k x y h) p fun x h1 H1 Hs1 ρ1 t1 p1 sy1 q1 v rv => ?_⟩
  refine ⟨Hs1, ρ1, h1, env, sy1, er.mono t1.mono p1, q1.bind fun y h2 H2 Hs2 ρ2 t2 p2 sy2 q2 u ru => ?_⟩
  exact hv v u x y Hs2 H2 ρ2 h2 Q sy2 (rv.mono t2.mono p2) ru q2
theorem sem_op1 {f : Env → Hm → R Vl} {rr : V → Hp → VK → Prop} {k : Vl → Hm → R Vl} (hv : KV1 D rr k) : ∀ σ H Q, semE D (op1 f k) σ H Q → semE D f σ H fun x H1 => rr x H1 Q := by
  intro σ H Q z
  obtain ⟨Hs, ρ, h, env, sy, er, p⟩ := z
  refine ⟨Hs, ρ, h, env, sy, er, Post.bind (f := fun x h => k x h) p fun x h1 H1 Hs1 ρ1 t1 p1 sy1 q1 v rv => ?_⟩
  exact hv v x Hs1 H1 ρ1 h1 Q sy1 rv q1
theorem Post.frzB {α : Type} {R : Hp → Hp → List Addr → α → Prop} {f : PV → Hm → HV.R α} (sy : Sy D.T Hs H ρ h) {x : Vl} {v : V} (r : VlR D.T Hs ρ v x) (p : Post D R Hs H ρ h ((HV.frz x h).bind f)) :
    ∃ Hs' h' d, FzOk D.T H ρ Hs h Hs' h' ∧ RepV D.T Hs' v d ∧ Post D R Hs' H ρ h' (f d h') := by
  cases w : HV.frz x h with
  | stuck => rw [w] at p; exact p.elim
  | exc c ps h1 => exact (frz_exc w).elim
  | ok d h1 =>
    rw [w] at p
    obtain ⟨Hs1, ⟨s1, t1⟩, g⟩ := frz_ok sy r w
    exact ⟨Hs1, h1, d, ⟨s1, t1⟩, g, Post.back t1 Pre.refl (show Post D R Hs H ρ h (f d h1) from p)⟩
theorem kv_A {rr : R2} {g : PV → PV → Option PV} (hv : VA2 D.T rr g) : KV2 D rr (opA g) := by
  intro x y a b Hs H ρ h Q sy rx ry p
  unfold opA at p
  cases w : vw h a with
  | none => simp only [w] at p; exact p.elim
  | some d1 =>
    cases w2 : vw h b with
    | none => simp only [w, w2] at p; exact p.elim
    | some d2 =>
      simp only [w, w2] at p
      obtain ⟨Hx, x1, x2, x3⟩ := vw_ok sy rx w
      obtain ⟨Hy, y1, y2, y3⟩ := vw_ok sy ry w2
      cases w3 : g d1 d2 with
      | none => rw [w3] at p; exact p.elim
      | some d =>
        rw [w3] at p
        exact hv x y d1 d2 d Hx Hy H Q x2 y2 x3 y3 w3 fun v rv => p H Hs ρ Tr.refl Pre.refl sy v (rv _)
theorem kv_A1 {rr : V → Hp → VK → Prop} {g : PV → Option PV} (hv : VA1 D.T rr g) : KV1 D rr (opA1 g) := by
  intro x a Hs H ρ h Q sy rx p
  unfold opA1 at p
  cases w : vw h a with
  | none => simp only [w] at p; exact p.elim
  | some d1 =>
    simp only [w] at p
    obtain ⟨Hx, x1, x2, x3⟩ := vw_ok sy rx w
    cases w3 : g d1 with
    | none => rw [w3] at p; exact p.elim
    | some d =>
      rw [w3] at p
      exact hv x d1 d Hx H Q x2 x3 w3 fun v rv => p H Hs ρ Tr.refl Pre.refl sy v (rv _)
theorem Post.liftF {Q : VK} {o : Option PV} (p : PostV D Q Hs H ρ h (HV.liftF o h)) (sy : Sy D.T Hs H ρ h) : ∃ d, o = some d ∧ ∀ v Hs' H', Grow Hs H Hs' H' → RepV D.T Hs' v d → Q v H' := by
  cases o with
  | none => exact p.elim
  | some d =>
    refine ⟨d, rfl, fun v Hs' H' gr rv => ?_⟩
    obtain ⟨s3, t3⟩ := sy.grow gr
    exact p H' Hs' ρ t3 Pre.refl s3 v rv
theorem kv_G {rr : R2} {g : PV → PV → Option PV} (hv : VG2 D.T rr g) : KV2 D rr (opG g) := by
  intro x y a b Hs H ρ h Q sy rx ry p
  obtain ⟨Hs1, h1, d1, ⟨s1, t1⟩, r1, p1⟩ := Post.frzB sy rx p
  obtain ⟨Hs2, h2, d2, ⟨s2, t2⟩, r2, p2⟩ := Post.frzB s1 (ry.mono t1.mono Pre.refl) p1
  obtain ⟨d, w, k⟩ := p2.liftF s2
  exact hv x y d1 d2 d Hs2 H Q s2.sub (r1.mono t2.mono) r2 w k
theorem kv_G1 {rr : V → Hp → VK → Prop} {g : PV → Option PV} (hv : VG1 D.T rr g) : KV1 D rr (opG1 g) := by
  intro x a Hs H ρ h Q sy rx p
  obtain ⟨Hs1, h1, d1, ⟨s1, t1⟩, r1, p1⟩ := Post.frzB sy rx p
  obtain ⟨d, w, k⟩ := p1.liftF s1
  exact hv x d1 d Hs1 H Q s1.sub r1 w k
/-! ### names, constants -/
theorem ev_cst {e : Expr} {v : V} {d : PV} (h : PE X e (tC v)) (r : ∀ Hs, RepV D.T Hs v d) (ha : d.atom = true) : PE X e (semE D (cstE d)) := by
  refine PE.imp h fun σ H Q z => ?_
  obtain ⟨Hs, ρ, h, env, sy, er, p⟩ := z
  unfold cstE at p
  rw [if_pos ha] at p
  exact p H Hs ρ Tr.refl Pre.refl sy v (r Hs)
theorem ev_gloE {e : Expr} {v : V} {d : PV} {od : Option PV} (hd : od = some d) (h : PE X e (tC v)) (r : ∀ Hs, RepV D.T Hs v d) (ha : d.atom = true) : PE X e (semE D (gloE od)) := by
  subst hd
  refine PE.imp h fun σ H Q z => ?_
  obtain ⟨Hs, ρ, h, env, sy, er, p⟩ := z
  unfold gloE at p
  dsimp only at p
  rw [if_pos ha] at p
  exact p H Hs ρ Tr.refl Pre.refl sy v (r Hs)
theorem ev_var {i : Nat} (h : PE X e (tVar i)) : PE X e (semE D (evVar i)) := by
  refine PE.imp h fun σ H Q z => ?_
  obtain ⟨Hs, ρ, h, env, sy, er, p⟩ := z
  unfold evVar at p
  cases q : env[i]? with
  | none => rw [q] at p; exact p.elim
  | some s =>
    rw [q] at p
    cases s with
    | none => exact p.elim
    | some x =>
      obtain ⟨u, h1, h2⟩ := er.2 i x q
      exact ⟨u, h1, p H Hs ρ Tr.refl Pre.refl sy u h2⟩
/-! ### subscripts -/
theorem vg_ix : VG2 T (fun x y H Q => (rIx T.K x y H Q) ∨ (∃ a v, x = .ref a ∧ DGet H a y (some v) ∧ Q v H)) idxV := by
  intro x y d1 d2 d Hs H Q s r1 r2 e k
  cases r1 with
  | lst h z r =>
    rename_i a xs ds
    cases r2 with
    | int i =>
      obtain ⟨v, g1, g2⟩ := at_rep r (show atP ds i = some d from e)
      exact .inl (.inl ⟨a, xs, i, v, rfl, rfl, SqL.of (s _ _ h), g1, k v Hs H .refl g2⟩)
    | _ => cases e
  | tup h z r =>
    rename_i a xs ds
    cases r2 with
    | int i =>
      obtain ⟨v, g1, g2⟩ := at_rep r (show atP ds i = some d from e)
      exact .inl (.inr (.inl ⟨a, xs, i, v, rfl, rfl, SqT.of (s _ _ h), g1, k v Hs H .refl g2⟩))
    | _ => cases e
  | str t ht =>
    cases r2 with
    | int i =>
      simp only [idxV] at e
      cases w : atP t i with
      | none => rw [w] at e; cases e
      | some c =>
        rw [w] at e
        cases e
        have hc : c ∈ t := by
          unfold atP at w
          cases q : ixP t.length i with
          | none => rw [q] at w; cases w
          | some j => rw [q] at w; exact List.mem_of_getElem? w
        refine .inl (.inr (.inr ⟨tx t, i, c, rfl, rfl, by rw [tx_len]; exact ht.1, by rw [← atP_eq]; simpa [tx] using w, k _ Hs H .refl (.str [c] ⟨by show 1 ≤ sizeLine; decide, fun c' h => by simp at h; subst h; exact ht.2 _ hc⟩)⟩))
    | _ => cases e
  | dct h z r =>
    rename_i a ks ds
    cases r2 with
    | int i =>
      obtain ⟨v, g1, g2⟩ := dget_rep r (.int i) (show dGet ds (.int i) = some d from e)
      exact .inr ⟨a, v, rfl, .inl ⟨ks, .inl i, SameR s h, rfl, g1.symm⟩, k v Hs H .refl g2⟩
    | str t ht =>
      obtain ⟨v, g1, g2⟩ := dget_rep r (.str t ht) (show dGet ds (.str t) = some d from e)
      exact .inr ⟨a, v, rfl, .inl ⟨ks, .inr (tx t), SameR s h, rfl, g1.symm⟩, k v Hs H .refl g2⟩
    | _ => cases e
  | _ => cases r2 <;> cases e
abbrev rIxA (K : PySem.W.Frag) : R2 := fun x y H Q => (rIx K x y H Q) ∨ (∃ a v, x = .ref a ∧ DGet H a y (some v) ∧ Q v H)
theorem at_vl {xs : List V} {ds : List Vl} (r : VlsR T Hs ρ xs ds) {i : Int} {d : Vl} (h : atP ds i = some d) : ∃ v, atI xs i = some v ∧ VlR T Hs ρ v d := by
  unfold atP ixP at h
  unfold atI ixN
  rw [Paired.length r]
  split at h
  · split at h
    · simp only [Option.bind_some] at h
      rename_i h1 h2
      obtain ⟨v, g1, g2⟩ := Paired.get r h
      exact ⟨v, by rw [if_pos h1, if_pos h2]; exact g1, g2⟩
    · cases h
  · split at h
    · simp only [Option.bind_some] at h
      rename_i h1 h2
      obtain ⟨v, g1, g2⟩ := Paired.get r h
      exact ⟨v, by rw [if_neg h1, if_pos h2]; exact g1, g2⟩
    · cases h
theorem dget_vl {q : Key} {q' : PV} (kq : KeyR q q') : ∀ {ks : List (Key × V)} {ds : List (PV × Vl)} {d : Vl}, Paired (KvR T Hs ρ) ks ds → dGetH ds q' = some d → ∃ v, valV ks q = some v ∧ VlR T Hs ρ v d
  | _, _, _, .nil, h => by cases h
  | _, _, d, .cons (a := (k, x)) (b := (e, y)) r rr, h => by
    simp only [dGetH] at h
    rw [key_eq r.1 kq] at h
    by_cases z : k = q
    · rw [decide_eq_true z, if_pos rfl] at h
      cases h
      exact ⟨_, valV_pos z, r.2⟩
    · rw [decide_eq_false z, if_neg Bool.false_ne_true] at h
      obtain ⟨v, h1, h2⟩ := dget_vl kq rr h
      exact ⟨v, (valV_neg z).trans h1, h2⟩
theorem keyR_of {v : V} {d : PV} (hr : RepV T Hs v d) (h : isKey d = true) : ∃ k, KeyR k d ∧ v = kV k := by
  cases hr with
  | int i => exact ⟨.inl i, .int i, rfl⟩
  | str s z => exact ⟨.inr (tx s), .str s z, rfl⟩
  | _ => cases h
theorem kv_ix : KV2 D (rIxA D.T.K) idxH := by
  intro x y a b Hs H ρ h Q sy rx ry p
  unfold idxH at p
  cases b with
  | rf n => exact p.elim
  | fz i =>
    cases a with
    | fz d =>
      dsimp only at p
      obtain ⟨d', w, k⟩ := p.liftF sy
      exact vg_ix x y d i d' Hs H Q sy.sub rx ry w k
    | rf n =>
      dsimp only at p
      obtain ⟨a, ha, rfl⟩ := rx
      cases w : h[n]? with
      | none => rw [w] at p; exact p.elim
      | some oo =>
        rw [w] at p
        cases oo with
        | none => exact p.elim
        | some o =>
          obtain ⟨_, mr⟩ := sy.ob n o a w ha
          cases o with
          | lst xs =>
            obtain ⟨vs, g1, g2, g3⟩ := mr
            replace ry : RepV D.T Hs y i := ry
            cases ry with
            | int j =>
              dsimp only at p
              cases w2 : atP xs j with
              | none => rw [w2] at p; exact p.elim
              | some z =>
                rw [w2] at p
                obtain ⟨v, k1, k2⟩ := at_vl g3 w2
                exact .inl (.inl ⟨a, vs, j, v, rfl, rfl, SqL.of g1, k1, p H Hs ρ Tr.refl Pre.refl sy v k2⟩)
            | _ => exact p.elim
          | dct kvs =>
            obtain ⟨ks, g1, g2, g3⟩ := mr
            dsimp only at p
            by_cases hk : isKey i = true
            · rw [if_pos hk] at p
              obtain ⟨q, kq, rfl⟩ := keyR_of (show RepV D.T Hs y i from ry) hk
              cases w2 : dGetH kvs i with
              | none => rw [w2] at p; exact p.elim
              | some z =>
                rw [w2] at p
                obtain ⟨v, k1, k2⟩ := dget_vl kq g3 w2
                exact .inr ⟨a, v, rfl, .inl ⟨ks, q, .inl g1, rfl, k1.symm⟩, p H Hs ρ Tr.refl Pre.refl sy v k2⟩
            · rw [if_neg hk] at p; exact p.elim
          | ins c fs => exact p.elim
theorem ix_dict (hu : X.A.units + 1 < cLine) : IxR X (fun x y H Q => ∃ a v, x = .ref a ∧ DGet H a y (some v) ∧ Q v H) := by
  intro value slice pins s σ H x y v u Q I rx ry h hs
  obtain ⟨a, w, rfl, g, q⟩ := h
  cases rx
  exact tail_any (dict_typeIs I g) PySem.F.slot_dict_getitem.lookup (d_getItem hu I g ry fun w' s3 I3 rw' => ⟨w, H, I3, rw', q⟩) hs
theorem ix_any (hu : X.A.units + 1 < cLine) : IxR X (rIxA X.K) := ix_seq.or (ix_dict hu)
theorem ev_ix (hK : D.T.K = X.K) (hu : X.A.units + 1 < cLine) {f g : Env → Hm → R Vl} (ha : PE X a (semE D f)) (hb : PE X b (semE D g)) (hs : argX b = true) : PE X (.Subscript a b pos) (semE D (op2 f g idxH)) := by
  refine PE.imp (pe_ix (ix_any hu) ha hb (sub_of hs)) fun σ H Q z => ?_
  have q := sem_op2 kv_ix σ H Q z
  rw [hK] at q
  exact q
/-! ### fields -/
theorem fd_none {gs : List (Str × V)} {fs : List (Nat × Vl)} (h : Paired (FdR T Hs ρ) gs fs) {m : Nat} (hm : m ∉ fs.map (·.1)) : gs.lookup (nmS m) = none := by
  induction h with
  | nil => rfl
  | @cons p q gs fs r rr ih =>
    obtain ⟨g, x⟩ := p
    obtain ⟨f, y⟩ := q
    obtain ⟨r1, r2⟩ := r
    dsimp only at r1
    subst r1
    rw [List.lookup_cons]
    have ne : (nmS m == nmS f) = false := by
      rw [beq_eq_false_iff_ne]
      exact fun e => hm (by rw [nmS_inj e]; simp)
    rw [ne]
    exact ih fun hg => hm (by simp [hg])
theorem fd_get {gs : List (Str × V)} {fs : List (Nat × Vl)} (h : Paired (FdR T Hs ρ) gs fs) {f : Nat} {d : Vl} (hd : fs.lookup f = some d) : ∃ v, gs.lookup (nmS f) = some v ∧ VlR T Hs ρ v d := by
  induction h with
  | nil => cases hd
  | @cons p q gs fs r rr ih =>
    obtain ⟨g0, x⟩ := p
    obtain ⟨g, y⟩ := q
    obtain ⟨r1, r2⟩ := r
    dsimp only at r1
    subst r1
    rw [List.lookup_cons] at hd ⊢
    by_cases hg : f = g
    · subst hg
      simp only [beq_self_eq_true] at hd ⊢
      cases hd
      exact ⟨_, rfl, r2⟩
    · have n1 : (f == g) = false := by rw [beq_eq_false_iff_ne]; exact hg
      have n2 : (nmS f == nmS g) = false := by
        rw [beq_eq_false_iff_ne]
        exact fun z => hg (nmS_inj z)
      rw [n1] at hd
      rw [n2]
      exact ih hd
theorem kv_att (ok : TbOk D.T) (f : Nat) : KV1 D (fun x H Q => ∃ a C dx fs v, x = .ref a ∧ H a = some (.ins C dx fs) ∧ Cls D.T.K C ∧ NoAttr D.T.K C (nmS f) ∧ fs.lookup (nmS f) = some v ∧ Q v H) (attH D.T.isF f) := by
  intro x a Hs H ρ h Q sy rx p
  unfold attH at p
  cases a with
  | fz d =>
    dsimp only at p
    obtain ⟨d', w, k⟩ := p.liftF sy
    exact va_att ok f x d d' Hs H Q sy.sub rx w k
  | rf n =>
    dsimp only at p
    obtain ⟨a, ha, rfl⟩ := rx
    cases w : h[n]? with
    | none => rw [w] at p; exact p.elim
    | some oo =>
      rw [w] at p
      cases oo with
      | none => exact p.elim
      | some o =>
        obtain ⟨_, mr⟩ := sy.ob n o a w ha
        cases o with
        | lst xs => exact p.elim
        | dct kvs => exact p.elim
        | ins c fs =>
          obtain ⟨C, dx, gs, g1, g2, g3, g4⟩ := mr
          dsimp only at p
          by_cases hi : D.T.isF c f = true
          · rw [if_pos hi] at p
            cases w2 : fs.lookup f with
            | none => rw [w2] at p; exact p.elim
            | some z =>
              rw [w2] at p
              obtain ⟨v, k1, k2⟩ := fd_get g4 w2
              exact ⟨a, C, dx, gs, v, rfl, g1, ok.cl c C g2, ok.fl c C f g2 hi, k1, p H Hs ρ Tr.refl Pre.refl sy v k2⟩
          · rw [if_neg hi] at p; exact p.elim
theorem ev_att (ok : TbOk D.T) (hK : D.T.K = X.K) {g : Env → Hm → R Vl} {f : Nat} (h : PE X e (semE D g)) (hb : attributeBase e (nmS f) X.env (eval e X.env) = eval e X.env) : PE X (.Attribute e (nmS f) pos) (semE D (op1 g (attH D.T.isF f))) := by
  refine PE.imp (pe_fld h hb) fun σ H Q z => ?_
  have q := sem_op1 (kv_att ok f) σ H Q z
  rw [← hK]
  exact q
/-! ### numbers, comparisons -/
theorem ev_bin (hK : D.T.K = X.K) {k : Nat} (hk : k < 6) {f g : Env → Hm → R Vl} (ha : PE X a (semE D f)) (hb : PE X b (semE D g)) : PE X (.BinOp a (binOf k) b pos) (semE D (op2 f g (opG (binV k)))) :=
  PE.imp (pe_op (bin_ok hK k hk) ha hb) (sem_op2 (kv_G (vg_rG2 _)))
theorem ev_cmp (hK : D.T.K = X.K) (hu : X.A.units + 65 < cLine) {k : Nat} (hk : k < 10) {f g : Env → Hm → R Vl} (ha : PE X a (semE D f)) (hb : PE X b (semE D g)) (hm : behindInMarks (cmpOf k) b = false) :
    PE X (.Compare a [cmpOf k] [b] pos) (semE D (op2 f g (opA (cmpV k)))) :=
  PE.imp (pe_cmpR (cmp_ok hK hu k hk) ha hb hm) (sem_op2 (kv_A (va_rA2 _)))
theorem ev_neg {f : Env → Hm → R Vl} (ha : PE X a (semE D f)) : PE X (.UnaryOp .USub a pos) (semE D (op1 f (opA1 negV))) := by
  refine PE.imp (pe_un un_neg ha) fun σ H Q z => ?_
  exact sem_op1 (rr := rU fun i => .int (-i)) (kv_A1 fun x d1 d Hx H Q s r e k => by
    cases r with
    | int i => cases e; exact ⟨i, rfl, k _ fun Hs => .int _⟩
    | _ => cases e) σ H Q z
/-! ### truth, tests -/
theorem tru_rep {K : PySem.W.Frag} {v : V} {d : PV} {t : Bool} (s : Same Hs H) (r : RepV T Hs v d) (h : truthV d = some t) : TruV K v H t := by
  cases r with
  | non => cases h; rfl
  | bl b => cases h; rfl
  | int i => cases h; rfl
  | str x hx =>
    cases h
    refine ⟨by rw [tx_len]; exact hx.1, ?_⟩
    rw [tx_len]
    cases x <;> simp <;> omega
  | lst ha hz hr =>
    cases h
    refine .inl ⟨_, SqL.of (s _ _ ha), ?_⟩
    cases hr <;> rfl
  | tup ha hz hr =>
    cases h
    refine .inr (.inl ⟨_, SqT.of (s _ _ ha), ?_⟩)
    cases hr <;> rfl
  | _ => cases h
theorem tru_vl {K : PySem.W.Frag} {v : V} {x : Vl} {t : Bool} (sy : Sy T Hs H ρ h) (r : VlR T Hs ρ v x) (e : truH h x = some t) : TruV K v H t := by
  cases x with
  | fz d => exact tru_rep sy.sub r e
  | rf n =>
    obtain ⟨a, ha, rfl⟩ := r
    simp only [truH] at e
    cases w : h[n]? with
    | none => rw [w] at e; cases e
    | some oo =>
      rw [w] at e
      cases oo with
      | none => cases e
      | some o =>
        obtain ⟨_, mr⟩ := sy.ob n o a w ha
        cases o with
        | lst xs =>
          obtain ⟨vs, g1, g2, g3⟩ := mr
          cases e
          refine .inl ⟨_, SqL.of g1, ?_⟩
          cases g3 <;> rfl
        | dct kvs =>
          obtain ⟨ks, g1, g2, g3⟩ := mr
          cases e
          refine .inr (.inr ⟨_, g1, ?_⟩)
          cases g3 <;> rfl
        | ins c fs => cases e
theorem t_val {f : Env → Hm → R Vl} (ha : PE X a (semE D f)) (he : ∀ whole, isTrue a X.env whole = (do let v ← whole; standAt a.pos; holding [v] (truthy v))) : PT X a (semT D (valT f)) := by
  refine PT.imp (pt_truth ha he) fun σ H Q z => ?_
  obtain ⟨Hs, ρ, h, env, sy, er, p⟩ := z
  refine ⟨Hs, ρ, h, env, sy, er, Post.bind (f := truR) p fun d h1 H1 Hs1 ρ1 t1 p1 sy1 q1 v rv => ?_⟩
  unfold truR at q1
  cases w : truH h1 d with
  | none => rw [w] at q1; exact q1.elim
  | some t =>
    rw [w] at q1
    exact ⟨t, tru_vl sy1 rv w, q1 H1 Hs1 ρ1 Tr.refl Pre.refl sy1⟩
theorem blR_ok {f : Env → Hm → R Vl} {σ : L2.St} {H : Hp} {Q : Bool → Hp → Prop} (z : semT D (cmpT f) σ H Q) : semE D f σ H fun v H1 => ∃ k, v = .bl k ∧ Q k H1 := by
  obtain ⟨Hs, ρ, h, env, sy, er, p⟩ := z
  refine ⟨Hs, ρ, h, env, sy, er, Post.bind (f := blR) p fun d h1 H1 Hs1 ρ1 t1 p1 sy1 q1 v rv => ?_⟩
  cases d with
  | rf n => exact q1.elim
  | fz d =>
    replace rv : RepV D.T Hs1 v d := rv
    cases rv with
    | bl b => exact ⟨b, rfl, q1 H1 Hs1 ρ1 Tr.refl Pre.refl sy1⟩
    | _ => exact q1.elim
theorem t_cmp (hK : D.T.K = X.K) (hu : X.A.units + 65 < cLine) {k : Nat} (hk : k < 10) {f g : Env → Hm → R Vl} (ha : PE X a (semE D f)) (hb : PE X b (semE D g)) (hm : behindInMarks (cmpOf k) b = false) :
    PT X (.Compare a [cmpOf k] [b] pos) (semT D (cmpT (op2 f g (opA (cmpV k))))) := by
  refine PT.imp (pt_cmpR (cmp_ok hK hu k hk) ha hb hm) fun σ H Q z => ?_
  exact sem_op2 (kv_A (va_rA2 _)) σ H _ (blR_ok z)
theorem t_not {f : Env → Hm → R Bool} (ha : PT X a (semT D f)) : PT X (.UnaryOp .Not a pos) (semT D (notT f)) := by
  refine PT.imp (pt_not ha) fun σ H Q z => ?_
  obtain ⟨Hs, ρ, h, env, sy, er, p⟩ := z
  exact ⟨Hs, ρ, h, env, sy, er, Post.bind (f := fun t h => .ok (!t) h) p fun d h1 H1 Hs1 ρ1 t1 p1 sy1 q1 => q1 H1 Hs1 ρ1 Tr.refl Pre.refl sy1⟩
theorem t_and {f g : Env → Hm → R Bool} (ha : PT X a (semT D f)) (hb : PW X (.BoolOp .And (b :: rest) pos) (semT D g)) : PW X (.BoolOp .And (a :: b :: rest) pos) (semT D (andT f g)) := by
  refine ⟨fun wh pins s σ H Q I z => (pw_and ha hb).run wh pins s σ H Q I ?_⟩
  obtain ⟨Hs, ρ, h, env, sy, er, p⟩ := z
  refine ⟨Hs, ρ, h, env, sy, er, Post.bind (f := fun t h => if t = true then g env h else .ok false h) p fun t h1 H1 Hs1 ρ1 t1 p1 sy1 q1 => ?_⟩
  cases t with
  | true => exact iteT ⟨Hs1, ρ1, h1, env, sy1, er.mono t1.mono p1, q1⟩
  | false => exact iteF (q1 H1 Hs1 ρ1 Tr.refl Pre.refl sy1)
theorem t_or {f g : Env → Hm → R Bool} (ha : PT X a (semT D f)) (hb : PW X (.BoolOp .Or (b :: rest) pos) (semT D g)) : PW X (.BoolOp .Or (a :: b :: rest) pos) (semT D (orT f g)) := by
  refine ⟨fun wh pins s σ H Q I z => (pw_or ha hb).run wh pins s σ H Q I ?_⟩
  obtain ⟨Hs, ρ, h, env, sy, er, p⟩ := z
  refine ⟨Hs, ρ, h, env, sy, er, Post.bind (f := fun t h => if t = true then .ok true h else g env h) p fun t h1 H1 Hs1 ρ1 t1 p1 sy1 q1 => ?_⟩
  cases t with
  | true => exact iteT (q1 H1 Hs1 ρ1 Tr.refl Pre.refl sy1)
  | false => exact iteF ⟨Hs1, ρ1, h1, env, sy1, er.mono t1.mono p1, q1⟩
theorem t_yes {f : Env → Hm → R Bool} (hf : f = fun _ h => .ok true h) : ∀ σ H (Q : Bool → Hp → Prop), semT D f σ H Q → Q true H := fun σ H Q z => by
  subst hf
  obtain ⟨Hs, ρ, h, env, sy, er, p⟩ := z
  exact p H Hs ρ Tr.refl Pre.refl sy
/-! ### .. as values -/
theorem truR_ok {d : Vl} {α : Type} {R : Hp → Hp → List Addr → α → Prop} {v : V} {f : Bool → Hm → HV.R α} (sy : Sy D.T Hs H ρ h) (rv : VlR D.T Hs ρ v d) (q : Post D R Hs H ρ h ((truR d h).bind f)) : ∃ t, TruV X.K v H t ∧ Post D R Hs H ρ h (f t h) := by
  unfold truR at q
  cases w : truH h d with
  | none => rw [w] at q; exact q.elim
  | some t =>
    rw [w] at q
    exact ⟨t, tru_vl sy rv w, q⟩
theorem ev_and {f g : Env → Hm → R Vl} (ha : PE X a (semE D f)) (hb : PE X (.BoolOp .And (b :: rest) pos) (semE D g)) : PE X (.BoolOp .And (a :: b :: rest) pos) (semE D (andV f g)) := by
  refine PE.imp (pe_andT ha hb) fun σ H Q z => ?_
  obtain ⟨Hs, ρ, h, env, sy, er, p⟩ := z
  refine ⟨Hs, ρ, h, env, sy, er, Post.bind (f := fun d h => (truR d h).bind fun t h => if t = true then g env h else .ok d h) p fun d h1 H1 Hs1 ρ1 t1 p1 sy1 q1 v rv => ?_⟩
  obtain ⟨t, tr, q1⟩ := truR_ok (X := X) sy1 rv q1
  refine ⟨t, tr, ?_⟩
  cases t with
  | true => exact iteT ⟨Hs1, ρ1, h1, env, sy1, er.mono t1.mono p1, q1⟩
  | false => exact iteF (q1 H1 Hs1 ρ1 Tr.refl Pre.refl sy1 v rv)
theorem ev_or {f g : Env → Hm → R Vl} (ha : PE X a (semE D f)) (hb : PE X (.BoolOp .Or (b :: rest) pos) (semE D g)) : PE X (.BoolOp .Or (a :: b :: rest) pos) (semE D (orV f g)) := by
  refine PE.imp (pe_orT ha hb) fun σ H Q z => ?_
  obtain ⟨Hs, ρ, h, env, sy, er, p⟩ := z
  refine ⟨Hs, ρ, h, env, sy, er, Post.bind (f := fun d h => (truR d h).bind fun t h => if t = true then .ok d h else g env h) p fun d h1 H1 Hs1 ρ1 t1 p1 sy1 q1 v rv => ?_⟩
  obtain ⟨t, tr, q1⟩ := truR_ok (X := X) sy1 rv q1
  refine ⟨t, tr, ?_⟩
  cases t with
  | false => exact iteF ⟨Hs1, ρ1, h1, env, sy1, er.mono t1.mono p1, q1⟩
  | true => exact iteT (q1 H1 Hs1 ρ1 Tr.refl Pre.refl sy1 v rv)
theorem ev_not {f : Env → Hm → R Vl} (ha : PE X a (semE D f)) : PE X (.UnaryOp .Not a pos) (semE D (notV f)) := by
  refine PE.imp (pe_notT ha) fun σ H Q z => ?_
  obtain ⟨Hs, ρ, h, env, sy, er, p⟩ := z
  refine ⟨Hs, ρ, h, env, sy, er, Post.bind (f := fun d h => (truR d h).bind fun t h => R.ok (Vl.fz (.bl (!t))) h) p fun d h1 H1 Hs1 ρ1 t1 p1 sy1 q1 v rv => ?_⟩
  obtain ⟨t, tr, q1⟩ := truR_ok (X := X) sy1 rv q1
  exact ⟨t, tr, q1 H1 Hs1 ρ1 Tr.refl Pre.refl sy1 _ (RepV.bl _)⟩
theorem ev_if {u : Env → Hm → R Bool} {f g : Env → Hm → R Vl} (hc : PT X c (semT D u)) (ha : PE X a (semE D f)) (hb : PE X b (semE D g)) : PE X (.IfExp c a b pos) (semE D (ifV u f g)) := by
  refine PE.imp (pe_ifExp hc ha hb) fun σ H Q z => ?_
  obtain ⟨Hs, ρ, h, env, sy, er, p⟩ := z
  refine ⟨Hs, ρ, h, env, sy, er, Post.bind (f := fun t h => if t = true then f env h else g env h) p fun t h1 H1 Hs1 ρ1 t1 p1 sy1 q1 => ?_⟩
  cases t with
  | true => exact iteT ⟨Hs1, ρ1, h1, env, sy1, er.mono t1.mono p1, q1⟩
  | false => exact iteF ⟨Hs1, ρ1, h1, env, sy1, er.mono t1.mono p1, q1⟩
/-! ### a op b op c -/
theorem opA_ok {α : Type} {g : PV → PV → Option PV} {x y : V} {a b : Vl} {R : Hp → Hp → List Addr → α → Prop} {f : Vl → Hm → HV.R α} (sy : Sy D.T Hs H ρ h) (rx : VlR D.T Hs ρ x a) (ry : VlR D.T Hs ρ y b) (q : Post D R Hs H ρ h ((opA g a b h).bind f)) :
    ∃ Hx Hy d1 d2 d, Same Hx H ∧ Same Hy H ∧ RepV D.T Hx x d1 ∧ RepV D.T Hy y d2 ∧ g d1 d2 = some d ∧ Post D R Hs H ρ h (f (.fz d) h) := by
  unfold opA at q
  cases w : vw h a with
  | none => simp only [w] at q; exact q.elim
  | some d1 =>
    cases w2 : vw h b with
    | none => simp only [w, w2] at q; exact q.elim
    | some d2 =>
      simp only [w, w2] at q
      obtain ⟨Hx, x1, x2, x3⟩ := vw_ok sy rx w
      obtain ⟨Hy, y1, y2, y3⟩ := vw_ok sy ry w2
      cases w3 : g d1 d2 with
      | none => rw [w3] at q; exact q.elim
      | some d => rw [w3] at q; exact ⟨Hx, Hy, d1, d2, d, x2, y2, x3, y3, w3, q⟩
theorem sem_chain {k j : Nat} {f g u : Env → Hm → R Vl} : ∀ σ H Q, semE D (chainV k j f g u) σ H Q → tChain (rA2 D.T (cmpV k)) (rA2 D.T (cmpV j)) (semE D f) (semE D g) (semE D u) σ H Q := by
  intro σ H Q z
  obtain ⟨Hs, ρ, h, env, sy, er, p⟩ := z
  refine ⟨Hs, ρ, h, env, sy, er, Post.bind (f := fun x h => (g env h).bind fun y h => (opA (cmpV k) x y h).bind fun z h => match z with
    | .fz (.bl true) => (u env h).bind fun w h => opA (cmpV j) y w h
    | .fz (.bl false) => .ok (.fz (.bl false)) h
    | _ => .stuck) p fun x h1 H1 Hs1 ρ1 t1 p1 sy1 q1 v rv => ?_⟩
  refine ⟨Hs1, ρ1, h1, env, sy1, er.mono t1.mono p1, q1.bind fun y h2 H2 Hs2 ρ2 t2 p2 sy2 q2 w ry => ?_⟩
  have rx := rv.mono t2.mono p2
  obtain ⟨Hx, Hy, d1, d2, d, s1, s2, r1, r2, e, q2⟩ := opA_ok sy2 rx ry q2
  refine ⟨Hx, Hy, d1, d2, d, s1, s2, r1, r2, e, fun v rv => ?_⟩
  cases d with
  | bl t =>
    have rv := rv Hs2
    cases rv
    refine ⟨t, rfl, ?_⟩
    cases t with
    | false => exact iteF (q2 H2 Hs2 ρ2 Tr.refl Pre.refl sy2 _ (RepV.bl _))
    | true =>
      refine iteT ⟨Hs2, ρ2, h2, env, sy2, (er.mono t1.mono p1).mono t2.mono p2, Post.bind (f := fun w h => opA (cmpV j) y w h) q2 fun z h3 H3 Hs3 ρ3 t3 p3 sy3 q3 x3 rz => ?_⟩
      exact kv_A (va_rA2 _) w x3 y z Hs3 H3 ρ3 h3 Q sy3 (ry.mono t3.mono p3) rz q3
  | _ => exact q2.elim
theorem ev_chain (hK : D.T.K = X.K) (hu : X.A.units + 65 < cLine) {k j : Nat} (hk : k < 10) (hj : j < 10) {f g u : Env → Hm → R Vl} (ha : PE X a (semE D f)) (hb : PE X b (semE D g)) (hc : PE X c (semE D u)) (hm : behindInMarks (cmpOf j) c = false) :
    PE X (.Compare a [cmpOf k, cmpOf j] [b, c] pos) (semE D (chainV k j f g u)) :=
  PE.imp (pe_chain (cmp_ok hK hu k hk) (cmp_ok hK hu j hj) ha hb hc hm) sem_chain
theorem t_chain (hK : D.T.K = X.K) (hu : X.A.units + 65 < cLine) {k j : Nat} (hk : k < 10) (hj : j < 10) {f g u : Env → Hm → R Vl} (ha : PE X a (semE D f)) (hb : PE X b (semE D g)) (hc : PE X c (semE D u)) (hm : behindInMarks (cmpOf j) c = false) :
    PT X (.Compare a [cmpOf k, cmpOf j] [b, c] pos) (semT D (cmpT (chainV k j f g u))) := by
  refine PT.imp (pt_chain (cmp_ok hK hu k hk) (cmp_ok hK hu j hj) ha hb hc hm) fun σ H Q z => ?_
  exact sem_chain σ H _ (blR_ok z)
/-! ### displays -/
theorem es_nil : PA X [] (semA D esNil) := PA.imp pa_nil fun σ H Q z => by
  obtain ⟨Hs, ρ, h, env, sy, er, p⟩ := z
  exact p H Hs ρ Tr.refl Pre.refl sy [] .nil
theorem es_cons {f : Env → Hm → R Vl} {g : Env → Hm → R (List Vl)} (he : PE X e (semE D f)) (hr : PA X es (semA D g)) (hs : starEach (e :: es) X.env = (false, eval e X.env) :: starEach es X.env) : PA X (e :: es) (semA D (esCons f g)) := by
  refine PA.imp (pa_cons he hr hs) fun σ H Q z => ?_
  obtain ⟨Hs, ρ, h, env, sy, er, p⟩ := z
  refine ⟨Hs, ρ, h, env, sy, er, Post.bind (f := fun d h => (g env h).bind fun ds h => .ok (d :: ds) h) p fun d h1 H1 Hs1 ρ1 t1 p1 sy1 q1 v rv => ?_⟩
  refine ⟨Hs1, ρ1, h1, env, sy1, er.mono t1.mono p1, q1.bind fun ds h2 H2 Hs2 ρ2 t2 p2 sy2 q2 vs rs => ?_⟩
  exact q2 H2 Hs2 ρ2 Tr.refl Pre.refl sy2 (v :: vs) (.cons (rv.mono t2.mono p2) rs)
theorem Post.frzsB {α : Type} {R : Hp → Hp → List Addr → α → Prop} {f : List PV → Hm → HV.R α} (sy : Sy D.T Hs H ρ h) {xs : List Vl} {vs : List V} (r : VlsR D.T Hs ρ vs xs) (p : Post D R Hs H ρ h ((frzs xs h).bind f)) :
    ∃ Hs' h' ds, FzOk D.T H ρ Hs h Hs' h' ∧ RepVs D.T Hs' vs ds ∧ Post D R Hs' H ρ h' (f ds h') := by
  cases w : frzs xs h with
  | stuck => rw [w] at p; exact p.elim
  | exc c ps h1 => exact (frzs_exc w).elim
  | ok d h1 =>
    rw [w] at p
    obtain ⟨Hs1, ⟨s1, t1⟩, g⟩ := frzs_ok sy r w
    exact ⟨Hs1, h1, d, ⟨s1, t1⟩, g, Post.back t1 Pre.refl (show Post D R Hs H ρ h (f d h1) from p)⟩
theorem ev_lst {g : Env → Hm → R (List Vl)} (hh : PA X es (semA D g)) : PE X (.List es pos) (semE D (lstE g)) := by
  refine PE.imp (pe_lst hh) fun σ H Q z => ?_
  obtain ⟨Hs, ρ, h, env, sy, er, p⟩ := z
  refine ⟨Hs, ρ, h, env, sy, er, Post.bind (f := fun ds h => if ds.length ≤ LIM then (frzs ds h).bind fun ds h => R.ok (Vl.fz (.lst ds)) h else .stuck) p fun ds h1 H1 Hs1 ρ1 t1 p1 sy1 q1 vs rs => ?_⟩
  by_cases hl : ds.length ≤ LIM
  · rw [if_pos hl] at q1
    rw [lim_eq] at hl
    refine ⟨by rw [Paired.length rs]; exact hl, fun a ha => ?_⟩
    obtain ⟨Hs2, h2, d2, ⟨s2, t2⟩, r2, q2⟩ := Post.frzsB sy1 rs q1
    obtain ⟨s3, t3⟩ := s2.alloc (o := .lst vs) ha
    exact q2 _ _ ρ1 t3 Pre.refl s3 (.ref a) (RepV.lst upd_same (by rw [← r2.length, Paired.length rs]; exact hl) (r2.mono t3.mono))
  · rw [if_neg hl] at q1; exact q1.elim
theorem ev_tup {x1 : Nat} {g : Env → Hm → R (List Vl)} (hh : PA X es (semA D g)) : PE X (.Tuple es x1 pos) (semE D (tupE g)) := by
  refine PE.imp (pe_tup hh) fun σ H Q z => ?_
  obtain ⟨Hs, ρ, h, env, sy, er, p⟩ := z
  refine ⟨Hs, ρ, h, env, sy, er, Post.bind (f := fun ds h => if ds.length ≤ LIM then (frzs ds h).bind fun ds h => R.ok (Vl.fz (.tup ds)) h else .stuck) p fun ds h1 H1 Hs1 ρ1 t1 p1 sy1 q1 vs rs => ?_⟩
  by_cases hl : ds.length ≤ LIM
  · rw [if_pos hl] at q1
    rw [lim_eq] at hl
    refine ⟨by rw [Paired.length rs]; exact hl, fun a ha => ?_⟩
    obtain ⟨Hs2, h2, d2, ⟨s2, t2⟩, r2, q2⟩ := Post.frzsB sy1 rs q1
    obtain ⟨s3, t3⟩ := s2.alloc (o := .tup vs) ha
    exact q2 _ _ ρ1 t3 Pre.refl s3 (.ref a) (RepV.tup upd_same (by rw [← r2.length, Paired.length rs]; exact hl) (r2.mono t3.mono))
  · rw [if_neg hl] at q1; exact q1.elim
theorem ev_nlst {g : Env → Hm → R (List Vl)} (hh : PA X es (semA D g)) : PE X (.List es pos) (semE D (nlstE g)) := by
  refine PE.imp (pe_lst hh) fun σ H Q z => ?_
  obtain ⟨Hs, ρ, h, env, sy, er, p⟩ := z
  refine ⟨Hs, ρ, h, env, sy, er, Post.bind (f := fun ds h => if ds.length ≤ LIM then newL ds h else .stuck) p fun ds h1 H1 Hs1 ρ1 t1 p1 sy1 q1 vs rs => ?_⟩
  by_cases hl : ds.length ≤ LIM
  · rw [if_pos hl] at q1
    rw [lim_eq] at hl
    refine ⟨by rw [Paired.length rs]; exact hl, fun a ha => ?_⟩
    obtain ⟨s3, t3⟩ := sy1.new (u := .lst vs) (o := .lst ds) ha ⟨vs, upd_same, hl, VlsR.mono (Same.refl _) Pre.app rs⟩
    exact q1 _ _ _ t3 Pre.app s3 (.ref a) ⟨a, by rw [← sy1.len]; simp, rfl⟩
  · rw [if_neg hl] at q1; exact q1.elim
end
end HV

end

section
/-! V6: slices, built-ins, methods of lists, calls of defs, new instances. -/
namespace HV
open PySem PySem.Spec PyProof.Rows L2
section
variable {D : Wd} {T : Tb} {Hs H Hs' H' : Hp} {ρ ρ' : List Addr} {h h' : Hm} {σ : L2.St} {env : Env} {X : Cx} {e o a b c : Expr} {es rest : List Expr} {apos cpos pos pos' p p2 : Pos}
/-! ### a list's items, all of which stay -/
theorem allF_ok : ∀ {xs : List Vl} {vs : List V} {ds : List PV}, VlsR T Hs ρ vs xs → allF xs = some ds → RepVs T Hs vs ds
  | [], _, _, .nil, e => by cases e; exact .nil
  | .rf n :: xs, _, _, .cons _ _, e => by cases e
  | .fz d :: xs, _, ds, .cons r t, e => by
    simp only [allF] at e
    cases w : allF xs with
    | none => rw [w] at e; cases e
    | some ds' => rw [w] at e; cases e; exact .cons r (allF_ok t w)
theorem allFd_ok : ∀ {xs : List (PV × Vl)} {vs : List (Key × V)} {ds : List (PV × PV)}, Paired (KvR T Hs ρ) vs xs → allFd xs = some ds → RepKs T Hs vs ds
  | [], _, _, .nil, e => by cases e; exact .nil
  | (k, .rf n) :: xs, _, _, .cons _ _, e => by cases e
  | (k, .fz d) :: xs, _, ds, .cons r t, e => by
    simp only [allFd] at e
    cases w : allFd xs with
    | none => rw [w] at e; cases e
    | some ds' => rw [w] at e; cases e; exact .cons r.1 r.2 (allFd_ok t w)
theorem shal_ok (sy : Sy T Hs H ρ h) {v : V} {x : Vl} {d : PV} (r : VlR T Hs ρ v x) (e : shal h x = some d) : RepV T Hs v d ∨ (∃ a vs ds, v = .ref a ∧ d = .lst ds ∧ H a = some (.lst vs) ∧ ds.length ≤ sizeLine ∧ RepVs T Hs vs ds) ∨ ∃ a vs ds, v = .ref a ∧ d = .dct ds ∧ H a = some (.dK vs) ∧ ds.length ≤ sizeLine ∧ RepKs T Hs vs ds := by
  cases x with
  | fz d' => cases e; exact .inl r
  | rf n =>
    obtain ⟨a, ha, rfl⟩ := r
    simp only [shal] at e
    cases w : h[n]? with
    | none => rw [w] at e; cases e
    | some oo =>
      rw [w] at e
      cases oo with
      | none => cases e
      | some o =>
        obtain ⟨_, mr⟩ := sy.ob n o a w ha
        cases o with
        | lst xs =>
          obtain ⟨vs, g1, g2, g3⟩ := mr
          dsimp only at e
          cases w2 : allF xs with
          | none => rw [w2] at e; cases e
          | some ds =>
            rw [w2] at e
            cases e
            have q := allF_ok g3 w2
            exact .inr (.inl ⟨a, vs, ds, rfl, rfl, g1, by rw [← q.length, Paired.length g3]; exact g2, q⟩)
        | dct kvs =>
          obtain ⟨vs, g1, g2, g3⟩ := mr
          dsimp only at e
          cases w2 : allFd kvs with
          | none => rw [w2] at e; cases e
          | some ds =>
            rw [w2] at e
            cases e
            have q := allFd_ok g3 w2
            exact .inr (.inr ⟨a, vs, ds, rfl, rfl, g1, by rw [← q.length, Paired.length g3]; exact g2, q⟩)
        | ins c fs => cases e
theorem kv_list : KV1 D (fun x H Q => ∃ p ys, [x] = [V.ref p] ∧ (SqL D.T.K H p ys ∨ SqT D.T.K H p ys) ∧ ∀ l, H l = none → Q (.ref l) (upd H l (.lst ys))) (opS1 listV) := by
  intro x a Hs H ρ h Q sy rx p
  unfold opS1 at p
  cases w : shal h a with
  | none => simp only [w] at p; exact p.elim
  | some d =>
    simp only [w] at p
    obtain ⟨d', w2, k⟩ := p.liftF sy
    rcases shal_ok sy rx w with r | ⟨a, vs, ds, rfl, rfl, g1, g2, g3⟩ | ⟨a, vs, ds, rfl, rfl, g1, g2, g3⟩
    · exact list_ok x d d' Hs H Q sy.sub r w2 k
    · cases w2
      exact ⟨a, vs, rfl, .inl (SqL.of g1), fun l hl => k _ _ _ (Grow.one hl) (.lst upd_same g2 (g3.mono ((Grow.one (o := .lst vs) hl).same sy.sub).1))⟩
    · cases w2
theorem kv_tuple : KV1 D (fun x H Q => ∃ p ys, [x] = [V.ref p] ∧ ((SqL D.T.K H p ys ∧ ∀ l, H l = none → Q (.ref l) (upd H l (.tup ys))) ∨ (SqT D.T.K H p ys ∧ Q (.ref p) H))) (opS1 tupleV) := by
  intro x a Hs H ρ h Q sy rx p
  unfold opS1 at p
  cases w : shal h a with
  | none => simp only [w] at p; exact p.elim
  | some d =>
    simp only [w] at p
    obtain ⟨d', w2, k⟩ := p.liftF sy
    rcases shal_ok sy rx w with r | ⟨a, vs, ds, rfl, rfl, g1, g2, g3⟩ | ⟨a, vs, ds, rfl, rfl, g1, g2, g3⟩
    · exact tuple_ok x d d' Hs H Q sy.sub r w2 k
    · cases w2
      exact ⟨a, vs, rfl, .inl ⟨SqL.of g1, fun l hl => k _ _ _ (Grow.one hl) (.tup upd_same g2 (g3.mono ((Grow.one (o := .tup vs) hl).same sy.sub).1))⟩⟩
    · cases w2
/-! ### built-ins by name -/
theorem CallR.imp {f : Value} {r r' : List V → Hp → VK → Prop} (h : CallR X f r) (k : ∀ xs H Q, r' xs H Q → r xs H Q) : CallR X f r' := fun pins s σ H xs us Q I rv q => h pins s σ H xs us Q I rv (k xs H Q q)
theorem ev_b1 {x : Str} {id : String} {r : List V → Hp → VK → Prop} {k : Vl → Hm → R Vl} {f : Env → Hm → R Vl} (hc : CallR X (.builtin id) r) (hv : KV1 D (fun x H Q => r [x] H Q) k) (hg : Gl X x) (hm : X.mg x = none) (hb : bootBuiltins x = some (.builtin id))
    (hn : x ≠ "__name__") (hdb : (x == ("__debug__" : Str)) = false) (ha : PE X a (semE D f)) (hs : argX a = true) : PE X (.Call (.Name x p) [a] [] pos) (semE D (op1 f k)) := by
  have hst : starEach [a] X.env = [(false, eval a X.env)] := star_of hs
  exact PE.imp (pe_callB hc hg hm hb (pa_cons ha pa_nil hst) hn hdb hst rfl) fun σ H Q z => (sem_op1 (rr := fun x H Q => r [x] H Q) hv σ H Q z : semE D f σ H fun x H1 => r [x] H1 Q)
theorem ev_t1 {x : Str} {id : String} {r : List V → Hp → VK → Prop} {k : Vl → Hm → R Vl} {f : Env → Hm → R Vl} (hc : CallR X (.type id) r) (hv : KV1 D (fun x H Q => r [x] H Q) k) (hg : Gl X x) (hm : X.mg x = none) (hb : bootBuiltins x = some (.type id))
    (hn : x ≠ "__name__") (hdb : (x == ("__debug__" : Str)) = false) (ha : PE X a (semE D f)) (hs : argX a = true) : PE X (.Call (.Name x p) [a] [] pos) (semE D (op1 f k)) := by
  have hst : starEach [a] X.env = [(false, eval a X.env)] := star_of hs
  exact PE.imp (pe_callTy hc hg hm hb (pa_cons ha pa_nil hst) hn hdb hst rfl) fun σ H Q z => (sem_op1 (rr := fun x H Q => r [x] H Q) hv σ H Q z : semE D f σ H fun x H1 => r [x] H1 Q)
theorem ev_b2 {x : Str} {id : String} {r : List V → Hp → VK → Prop} {k : Vl → Vl → Hm → R Vl} {f g : Env → Hm → R Vl} (hc : CallR X (.builtin id) r) (hv : KV2 D (fun x y H Q => r [x, y] H Q) k) (hg : Gl X x) (hm : X.mg x = none) (hb : bootBuiltins x = some (.builtin id))
    (hn : x ≠ "__name__") (hdb : (x == ("__debug__" : Str)) = false) (ha : PE X a (semE D f)) (hb2 : PE X b (semE D g)) (hs : argX a = true) (hs2 : argX b = true) : PE X (.Call (.Name x p) [a, b] [] pos) (semE D (op2 f g k)) := by
  have hst2 : starEach [b] X.env = [(false, eval b X.env)] := star_of hs2
  have hst : starEach [a, b] X.env = (false, eval a X.env) :: starEach [b] X.env := star_of hs
  exact PE.imp (pe_callB hc hg hm hb (pa_cons ha (pa_cons hb2 pa_nil hst2) hst) hn hdb hst (back_any (by simp [argsX, hs2]))) fun σ H Q z => sem_op2 (rr := fun x y H Q => r [x, y] H Q) hv σ H Q z
theorem ev_isi (ok : TbOk D.T) (hK : D.T.K = X.K) {f g : Env → Hm → R Vl} (hg : Gl X "isinstance") (hm : X.mg "isinstance" = none) (ha : PE X a (semE D f)) (hb : PE X b (semE D g)) (hs : argX a = true) (hs2 : argX b = true) :
    PE X (.Call (.Name "isinstance" p) [a, b] [] pos) (semE D (op2 f g (opA isiV))) := by
  refine ev_b2 (call_isi.or call_isiT) ?_ hg hm boot_isinstance (by decide) (by decide) ha hb hs hs2
  have q := kv_A (isi_ok ok)
  rw [hK] at q
  exact q
theorem call_lenK : CallR X (.builtin "len") (fun xs H Q => ∃ a kvs, xs = [V.ref a] ∧ Rd H a (.dK kvs) ∧ Q (.int kvs.length) H) := by
  intro pins s σ H xs us Q I r h
  obtain ⟨a, kvs, rfl, hx, q⟩ := h
  obtain ⟨u, rfl, rx⟩ := vals1 r
  cases rx
  exact d_len I hx fun t s' I' => ⟨.int kvs.length, H, I', ⟨t, rfl⟩, q⟩
theorem kv_len : KV1 D (fun x H Q => (∃ y n, [x] = [y] ∧ LenV D.T.K y H n ∧ Q (.int n) H) ∨ ∃ a kvs, [x] = [V.ref a] ∧ Rd H a (.dK kvs) ∧ Q (.int kvs.length) H) lenH := by
  intro x a Hs H ρ h Q sy rx p
  unfold lenH at p
  cases a with
  | fz d =>
    dsimp only at p
    obtain ⟨d', w, k⟩ := p.liftF sy
    exact len_ok x d d' Hs H Q sy.sub rx w fun v rv => k v Hs H .refl (rv _)
  | rf n =>
    obtain ⟨a, ha, rfl⟩ := rx
    dsimp only at p
    cases w : h[n]? with
    | none => rw [w] at p; exact p.elim
    | some oo =>
      rw [w] at p
      cases oo with
      | none => exact p.elim
      | some o =>
        obtain ⟨_, mr⟩ := sy.ob n o a w ha
        cases o with
        | lst xs =>
          obtain ⟨vs, g1, g2, g3⟩ := mr
          have := p H Hs ρ Tr.refl Pre.refl sy (.int (vs.length : Nat)) (by rw [Paired.length g3]; exact RepV.int _)
          exact .inl ⟨_, vs.length, rfl, .inl ⟨vs, SqL.of g1, rfl⟩, this⟩
        | dct kvs =>
          obtain ⟨ks, g1, g2, g3⟩ := mr
          refine .inr ⟨a, ks, rfl, .inl g1, ?_⟩
          rw [Paired.length g3]
          exact p H Hs ρ Tr.refl Pre.refl sy _ (RepV.int _)
        | ins c fs => exact p.elim
theorem ev_len (hK : D.T.K = X.K) {f : Env → Hm → R Vl} (hg : Gl X "len") (hm : X.mg "len" = none) (ha : PE X a (semE D f)) (hs : argX a = true) : PE X (.Call (.Name "len" p) [a] [] pos) (semE D (op1 f lenH)) := by
  refine ev_b1 (r := fun xs H Q => (∃ x n, xs = [x] ∧ LenV X.K x H n ∧ Q (.int n) H) ∨ ∃ a kvs, xs = [V.ref a] ∧ Rd H a (.dK kvs) ∧ Q (.int kvs.length) H) (call_len.or call_lenK) ?_ hg hm boot_len (by decide) (by decide) ha hs
  rw [← hK]
  exact kv_len
theorem ev_int {f : Env → Hm → R Vl} (hg : Gl X "int") (hm : X.mg "int" = none) (ha : PE X a (semE D f)) (hs : argX a = true) : PE X (.Call (.Name "int" p) [a] [] pos) (semE D (op1 f (opA1 intV))) :=
  ev_t1 call_int1 (kv_A1 int_ok) hg hm boot_int (by decide) (by decide) ha hs
theorem ev_all (hK : D.T.K = X.K) (hc : X.calm = true) {f : Env → Hm → R Vl} (hg : Gl X "all") (hm : X.mg "all" = none) (ha : PE X a (semE D f)) (hs : argX a = true) : PE X (.Call (.Name "all" p) [a] [] pos) (semE D (op1 f (opA1 allV))) :=
  ev_b1 (call_all hc hK) (kv_A1 (va_rA1 allV)) hg hm (by decide +kernel) (by decide) (by decide) ha hs
theorem ev_any (hK : D.T.K = X.K) (hc : X.calm = true) {f : Env → Hm → R Vl} (hg : Gl X "any") (hm : X.mg "any" = none) (ha : PE X a (semE D f)) (hs : argX a = true) : PE X (.Call (.Name "any" p) [a] [] pos) (semE D (op1 f (opA1 anyV))) :=
  ev_b1 (call_any hc hK) (kv_A1 (va_rA1 anyV)) hg hm (by decide +kernel) (by decide) (by decide) ha hs
theorem ev_list (hK : D.T.K = X.K) {f : Env → Hm → R Vl} (hg : Gl X "list") (hm : X.mg "list" = none) (ha : PE X a (semE D f)) (hs : argX a = true) : PE X (.Call (.Name "list" p) [a] [] pos) (semE D (op1 f (opS1 listV))) := by
  refine ev_t1 call_list_of ?_ hg hm boot_list (by decide) (by decide) ha hs
  rw [← hK]
  exact kv_list
theorem ev_tuple (hK : D.T.K = X.K) {f : Env → Hm → R Vl} (hg : Gl X "tuple") (hm : X.mg "tuple" = none) (ha : PE X a (semE D f)) (hs : argX a = true) : PE X (.Call (.Name "tuple" p) [a] [] pos) (semE D (op1 f (opS1 tupleV))) := by
  refine ev_t1 call_tuple_of ?_ hg hm boot_tuple (by decide) (by decide) ha hs
  rw [← hK]
  exact kv_tuple
/-! ### slices -/
def semB (D : Wd) (f : Env → Hm → R (Option Int)) : TO := fun σ H Q => ∃ Hs ρ h env, Sy D.T Hs H ρ h ∧ EnvR D.T Hs ρ σ env ∧ Post D (fun Hs' H' ρ' i => Q i H') Hs H ρ h (f env h)
theorem b_none : PO X none (semB D (bdE none)) := by
  refine ⟨fun pins s σ H Q I z => po_none.run pins s σ H Q I ?_⟩
  obtain ⟨Hs, ρ, h, env, sy, er, p⟩ := z
  exact p H Hs ρ Tr.refl Pre.refl sy
theorem b_some {f : Env → Hm → R Vl} (hf : PE X e (semE D f)) : PO X (some e) (semB D (bdE (some f))) := by
  refine ⟨fun pins s σ H Q I z => (po_some hf).run pins s σ H Q I ?_⟩
  obtain ⟨Hs, ρ, h, env, sy, er, p⟩ := z
  refine ⟨Hs, ρ, h, env, sy, er, Post.bind (f := fun d h => match d with | .fz (.int i) => R.ok (some i) h | _ => .stuck) p fun d h1 H1 Hs1 ρ1 t1 p1 sy1 q1 v rv => ?_⟩
  cases d with
  | rf n => exact q1.elim
  | fz d =>
    replace rv : RepV D.T Hs1 v d := rv
    cases rv with
    | int i => exact ⟨i, rfl, q1 H1 Hs1 ρ1 Tr.refl Pre.refl sy1⟩
    | _ => exact q1.elim
abbrev rSlc (K : PySem.W.Frag) : V → Option Int → Option Int → Hp → VK → Prop := fun x lo hi H Q => rSlL K x lo hi H Q ∨ (rSlA K x lo hi H Q ∨ rSlS x lo hi H Q)
theorem ev_slc {f : Env → Hm → R Vl} {lo hi : Option Expr} {l u : Option (Env → Hm → R Vl)} (ha : PE X a (semE D f)) (hl : PO X lo (semB D (bdE l))) (hu : PO X hi (semB D (bdE u))) : PE X (.Subscript a (.Slice lo hi none p2) pos) (semE D (slcE f l u)) := by
  refine PE.imp (pe_slice (r := rSlc X.K) (sl_list.or (sl_tupA.or sl_str)) ha hl hu) fun σ H Q z => ?_
  obtain ⟨Hs, ρ, h, env, sy, er, p⟩ := z
  refine ⟨Hs, ρ, h, env, sy, er, Post.bind (f := fun x h => (bdE l env h).bind fun l h => (bdE u env h).bind fun u h => match shal h x with | some d => liftF (slcV d l u) h | none => .stuck) p fun x h1 H1 Hs1 ρ1 t1 p1 sy1 q1 v rv => ?_⟩
  refine ⟨Hs1, ρ1, h1, env, sy1, er.mono t1.mono p1, q1.bind fun lo h2 H2 Hs2 ρ2 t2 p2 sy2 q2 => ?_⟩
  refine ⟨Hs2, ρ2, h2, env, sy2, (er.mono t1.mono p1).mono t2.mono p2, q2.bind fun hi h3 H3 Hs3 ρ3 t3 p3 sy3 q3 => ?_⟩
  have rv := (rv.mono t2.mono p2).mono t3.mono p3
  cases w : shal h3 x with
  | none => rw [w] at q3; exact q3.elim
  | some d =>
    rw [w] at q3
    obtain ⟨d', w2, k⟩ := Post.liftF q3 sy3
    rcases shal_ok sy3 rv w with r | ⟨a, vs, ds, rfl, rfl, g1, g2, g3⟩ | ⟨a, vs, ds, rfl, rfl, g1, g2, g3⟩
    · cases r with
      | @lst a xs ds ha hz hr =>
        cases w2
        refine .inl ⟨a, xs, rfl, SqL.of (sy3.sub _ _ ha), fun p hp => ?_⟩
        exact k _ _ _ (Grow.one hp) (.lst upd_same (Nat.le_trans (cutP_len _ _ _) hz) ((cut_rep hr lo hi).mono ((Grow.one (o := .lst (cutV xs lo hi)) hp).same sy3.sub).1))
      | @tup a xs ds ha hz hr =>
        cases w2
        refine .inr (.inl ⟨a, xs, rfl, SqT.of (sy3.sub _ _ ha), fun hw => ?_, fun hw p hp => ?_⟩)
        · rw [hr.length] at hw
          rw [cutP_whole hw] at k
          exact k _ _ _ .refl (.tup ha hz hr)
        · exact k _ _ _ (Grow.one hp) (.tup upd_same (Nat.le_trans (cutP_len _ _ _) hz) ((cut_rep hr lo hi).mono ((Grow.one (o := .tup (cutV xs lo hi)) hp).same sy3.sub).1))
      | str s hs =>
        cases w2
        refine .inr (.inr ⟨tx s, rfl, by rw [tx_len]; exact hs.1, ?_⟩)
        have e : cutS (tx s) lo hi = tx (cutP s lo hi) := by
          unfold cutS cutP
          rw [tx_len, sIx_eq, sIx_eq]
          rfl
        rw [e]
        exact k _ _ _ .refl (.str _ ⟨Nat.le_trans (cutP_len _ _ _) hs.1, fun c hc => hs.2 c (List.mem_of_mem_drop (List.mem_of_mem_take hc))⟩)
      | _ => cases w2
    · cases w2
      refine .inl ⟨a, vs, rfl, SqL.of g1, fun p hp => ?_⟩
      exact k _ _ _ (Grow.one hp) (.lst upd_same (Nat.le_trans (cutP_len _ _ _) g2) ((cut_rep g3 lo hi).mono ((Grow.one (o := .lst (cutV vs lo hi)) hp).same sy3.sub).1))
    · cases w2
/-! ### methods of lists -/
theorem isLst_ok {K : PySem.W.Frag} (sy : Sy T Hs H ρ h) {v : V} {x : Vl} (r : VlR T Hs ρ v x) (e : isLstH h x = true) : tyV K "list" v H := by
  cases x with
  | fz d => cases e
  | rf n =>
    obtain ⟨a, ha, rfl⟩ := r
    simp only [isLstH] at e
    cases w : h[n]? with
    | none => rw [w] at e; cases e
    | some oo =>
      rw [w] at e
      cases oo with
      | none => cases e
      | some o =>
        obtain ⟨_, mr⟩ := sy.ob n o a w ha
        cases o with
        | lst xs => obtain ⟨vs, g1, g2, g3⟩ := mr; exact .inl ⟨rfl, _, SqL.of g1⟩
        | dct kvs => cases e
        | ins c fs => cases e
/-- what a rule asks, and what it writes -/
def WrOk (T : Tb) (w : List Vl → Option (Vl × List Vl)) (r : Addr → Hp → VK → Prop) (Hs : Hp) (ρ : List Addr) : Prop :=
  ∀ (H : Hp) (a : Addr) (vs : List V) (xs ys : List Vl) (z : Vl) (Q : VK), H a = some (.lst vs) → xs.length ≤ sizeLine → VlsR T Hs ρ vs xs → w xs = some (z, ys) → (∀ us v, ys.length ≤ sizeLine → VlsR T Hs ρ us ys → VlR T Hs ρ v z → Q v (upd H a (.lst us))) → r a H Q
theorem wrL_ok {w : List Vl → Option (Vl × List Vl)} {r : Addr → Hp → VK → Prop} {v : V} {x : Vl} {Q : VK} (sy : Sy D.T Hs H ρ h) (rv : VlR D.T Hs ρ v x) (hw : WrOk D.T w r Hs ρ) (p : PostV D Q Hs H ρ h (wrL x w h)) : ∃ a, v = .ref a ∧ tyV X.K "list" v H ∧ r a H Q := by
  unfold wrL at p
  cases x with
  | fz d => exact p.elim
  | rf n =>
    obtain ⟨a, ha, rfl⟩ := rv
    dsimp only at p
    cases e : h[n]? with
    | none => rw [e] at p; exact p.elim
    | some oo =>
      rw [e] at p
      cases oo with
      | none => exact p.elim
      | some o =>
        obtain ⟨_, mr⟩ := sy.ob n o a e ha
        cases o with
        | lst xs =>
          obtain ⟨vs, g1, g2, g3⟩ := mr
          dsimp only at p
          cases e2 : w xs with
          | none => rw [e2] at p; exact p.elim
          | some zy =>
            obtain ⟨z, ys⟩ := zy
            rw [e2] at p
            refine ⟨a, rfl, .inl ⟨rfl, _, SqL.of g1⟩, hw H a vs xs ys z Q g1 g2 g3 e2 fun us v hl hu hv => ?_⟩
            obtain ⟨s2, t2⟩ := sy.write (u := .lst us) (o' := .lst ys) e ha ⟨us, upd_same, hl, hu⟩
            exact p _ Hs ρ t2 Pre.refl s2 v hv
        | dct kvs => exact p.elim
        | ins c fs => exact p.elim
theorem ev_m1 {f g : Env → Hm → R Vl} {w : Vl → List Vl → Option (Vl × List Vl)} {name : Str} {id : String} {r : V → List V → Hp → VK → Prop} (slot : Slot "list" name id) (hty : typeOf (.builtin id) = pure (.type "method_descriptor")) (hm : MtM X id r)
    (hw : ∀ Hs ρ y dy, VlR D.T Hs ρ y dy → WrOk D.T (w dy) (fun a H Q => r (.ref a) [y] H Q) Hs ρ)
    (ho : PE X o (semE D f)) (he : PE X e (semE D g)) (hbase : attributeBase o name X.env (eval o X.env) = eval o X.env)
    (hs : starEach [e] X.env = [(false, eval e X.env)]) (hline : (apos.endLine == cpos.line) = true) :
    PE X (.Call (.Attribute o name apos) [e] [] cpos) (semE D fun env h => (f env h).bind fun x h => if isLstH h x = true then (g env h).bind fun y h => wrL x (w y) h else .stuck) := by
  refine PE.imp (pe_bm PySem.F.plainAttrs_list slot hty hm ho (pa_cons he pa_nil hs) hbase ?_ hline hs rfl) fun σ H Q z => ?_
  · rw [hs]; rfl
  obtain ⟨Hs, ρ, h, env, sy, er, p⟩ := z
  refine ⟨Hs, ρ, h, env, sy, er, Post.bind (f := fun x h => if isLstH h x = true then (g env h).bind fun y h => wrL x (w y) h else .stuck) p fun x h1 H1 Hs1 ρ1 t1 p1 sy1 q1 v rv => ?_⟩
  by_cases hl : isLstH h1 x = true
  · rw [if_pos hl] at q1
    refine ⟨isLst_ok sy1 rv hl, ⟨Hs1, ρ1, h1, env, sy1, er.mono t1.mono p1, q1.bind fun y h2 H2 Hs2 ρ2 t2 p2 sy2 q2 u ru => ?_⟩⟩
    obtain ⟨a, rfl, _, hr⟩ := wrL_ok (X := X) sy2 (rv.mono t2.mono p2) (hw Hs2 ρ2 u y ru) q2
    exact hr
  · rw [if_neg hl] at q1; exact q1.elim
theorem ev_append {f g : Env → Hm → R Vl} (ho : PE X o (semE D f)) (he : PE X e (semE D g)) (hbase : attributeBase o "append" X.env (eval o X.env) = eval o X.env)
    (hs : starEach [e] X.env = [(false, eval e X.env)]) (hline : (apos.endLine == cpos.line) = true) : PE X (.Call (.Attribute o "append" apos) [e] [] cpos) (semE D (appE f g)) := by
  refine ev_m1 (w := appW) PySem.F.slot_list_append PySem.F.type_list_append mt_append (fun Hs ρ y dy ry H a vs xs ys z Q g1 g2 g3 e k => ?_) ho he hbase hs hline
  unfold appW at e
  by_cases hl : xs.length < LIM
  · rw [if_pos hl] at e
    cases e
    rw [lim_eq] at hl
    exact ⟨a, vs, y, rfl, rfl, g1, by rw [Paired.length g3]; exact hl, k _ _ (by rw [List.length_append]; exact hl) (Paired.append g3 (.cons ry .nil)) RepV.non⟩
  · rw [if_neg hl] at e; cases e
theorem seqIx {n : Nat} {i : Int} {k : Nat} (h : ixP n i = some k) : seqIndex? i n = some k := by
  unfold ixP at h
  unfold seqIndex?
  split at h
  · split at h
    · cases h
      rename_i h1 h2
      have e : ¬ i < 0 := by omega
      simp [e]
      omega
    · cases h
  · split at h
    · cases h
      rename_i h1 h2
      have e : i < 0 := by omega
      simp [e]
      omega
    · cases h
theorem ixP_lt {n : Nat} {i : Int} {k : Nat} (hn : n ≤ sizeLine) (w : ixP n i = some k) : -(2 ^ 63) ≤ i ∧ i < 2 ^ 63 := by
  have : (sizeLine : Int) ≤ 2 ^ 62 := by rw [sizeLine_eq]; decide
  unfold ixP at w
  split at w
  · split at w
    · omega
    · cases w
  · split at w
    · omega
    · cases w
theorem len_erase {α : Type} (xs : List α) (k : Nat) : (xs.eraseIdx k).length ≤ xs.length := by
  rw [List.length_eraseIdx]; split <;> omega
theorem ev_popAt {f g : Env → Hm → R Vl} (ho : PE X o (semE D f)) (he : PE X e (semE D g)) (hbase : attributeBase o "pop" X.env (eval o X.env) = eval o X.env)
    (hs : starEach [e] X.env = [(false, eval e X.env)]) (hline : (apos.endLine == cpos.line) = true) : PE X (.Call (.Attribute o "pop" apos) [e] [] cpos) (semE D (popAtE f g)) := by
  refine ev_m1 (w := popAtW) PySem.F.slot_list_pop PySem.F.type_list_pop mt_popAt (fun Hs ρ y dy ry H a vs xs ys z Q g1 g2 g3 e k => ?_) ho he hbase hs hline
  unfold popAtW at e
  cases dy with
  | rf n => cases e
  | fz d =>
    replace ry : RepV D.T Hs y d := ry
    cases ry with
    | int i =>
      dsimp only at e
      cases w : ixP xs.length i with
      | none => rw [w] at e; cases e
      | some j =>
        simp only [w] at e
        cases w2 : xs[j]? with
        | none => rw [w2] at e; cases e
        | some y =>
          rw [w2] at e
          cases e
          obtain ⟨u, h1, h2⟩ := Paired.get g3 w2
          have hb := ixP_lt g2 w
          exact ⟨a, vs, i, j, u, rfl, rfl, g1, hb.1, hb.2, by rw [Paired.length g3]; exact seqIx w, h1, k _ _ (Nat.le_trans (len_erase xs j) g2) (Paired.erase j g3) h2⟩
    | _ => cases e
theorem ev_pop {f : Env → Hm → R Vl} (ho : PE X o (semE D f)) (hbase : attributeBase o "pop" X.env (eval o X.env) = eval o X.env)
    (hline : (apos.endLine == cpos.line) = true) : PE X (.Call (.Attribute o "pop" apos) [] [] cpos) (semE D (popE f)) := by
  refine PE.imp (pe_bm0 PySem.F.plainAttrs_list PySem.F.slot_list_pop PySem.F.type_list_pop mt_pop ho hbase hline) fun σ H Q z => ?_
  obtain ⟨Hs, ρ, h, env, sy, er, p⟩ := z
  refine ⟨Hs, ρ, h, env, sy, er, Post.bind (f := fun x h => wrL x popW h) p fun x h1 H1 Hs1 ρ1 t1 p1 sy1 q1 v rv => ?_⟩
  have hw : WrOk D.T popW (fun a H Q => rPop (.ref a) [] H Q) Hs1 ρ1 := fun H a vs xs ys z Q g1 g2 g3 e k => by
    unfold popW at e
    cases w : xs[xs.length - 1]? with
    | none => rw [w] at e; cases e
    | some y =>
      rw [w] at e
      cases e
      obtain ⟨u, h1, h2⟩ := Paired.get g3 w
      exact ⟨a, vs, u, rfl, rfl, g1, by rw [Paired.length g3]; exact h1, k _ _ (by rw [List.length_dropLast]; omega) (Paired.dropLast g3) h2⟩
  obtain ⟨a, rfl, ty, hr⟩ := wrL_ok (X := X) sy1 rv hw q1
  exact ⟨ty, hr⟩
theorem vls_fz : ∀ {vs : List V} {ds : List PV}, RepVs T Hs vs ds → VlsR T Hs ρ vs (ds.map Vl.fz)
  | _, _, .nil => .nil
  | _, _, .cons r t => .cons r (vls_fz t)
theorem items_ok (sy : Sy T Hs H ρ h) {v : V} {x : Vl} {ys : List Vl} (r : VlR T Hs ρ v x) (e : itemsH h x = some ys) : ∃ b zs, v = .ref b ∧ H b = some (.lst zs) ∧ VlsR T Hs ρ zs ys ∧ ys.length ≤ sizeLine := by
  cases x with
  | fz d =>
    replace r : RepV T Hs v d := r
    cases r with
    | lst ha hz hr => cases e; exact ⟨_, _, rfl, sy.sub _ _ ha, vls_fz hr, by rw [List.length_map]; exact hz⟩
    | _ => cases e
  | rf n =>
    obtain ⟨a, ha, rfl⟩ := r
    simp only [itemsH] at e
    cases w : h[n]? with
    | none => rw [w] at e; cases e
    | some oo =>
      rw [w] at e
      cases oo with
      | none => cases e
      | some o =>
        obtain ⟨_, mr⟩ := sy.ob n o a w ha
        cases o with
        | lst xs => obtain ⟨vs, g1, g2, g3⟩ := mr; cases e; exact ⟨a, vs, rfl, g1, g3, g2⟩
        | dct kvs => cases e
        | ins c fs => cases e
theorem ev_extend {f g : Env → Hm → R Vl} (ho : PE X o (semE D f)) (he : PE X e (semE D g)) (hbase : attributeBase o "extend" X.env (eval o X.env) = eval o X.env)
    (hs : starEach [e] X.env = [(false, eval e X.env)]) (hline : (apos.endLine == cpos.line) = true) : PE X (.Call (.Attribute o "extend" apos) [e] [] cpos) (semE D (extE f g)) := by
  refine PE.imp (pe_bm PySem.F.plainAttrs_list PySem.F.slot_list_extend PySem.F.type_list_extend mt_extend ho (pa_cons he pa_nil hs) hbase ?_ hline hs rfl) fun σ H Q z => ?_
  · rw [hs]; rfl
  obtain ⟨Hs, ρ, h, env, sy, er, p⟩ := z
  refine ⟨Hs, ρ, h, env, sy, er, Post.bind (f := fun x h => if isLstH h x = true then (g env h).bind fun y h => match x, itemsH h y with
    | .rf n, some ys => (match y with
      | .rf m => if m = n then R.stuck else wrL x (fun xs => if xs.length + ys.length ≤ LIM then some (Vl.fz .non, xs ++ ys) else none) h
      | .fz _ => wrL x (fun xs => if xs.length + ys.length ≤ LIM then some (Vl.fz .non, xs ++ ys) else none) h)
    | _, _ => .stuck
    else .stuck) p fun x h1 H1 Hs1 ρ1 t1 p1 sy1 q1 v rv => ?_⟩
  by_cases hl : isLstH h1 x = true
  · rw [if_pos hl] at q1
    refine ⟨isLst_ok sy1 rv hl, ⟨Hs1, ρ1, h1, env, sy1, er.mono t1.mono p1, q1.bind fun y h2 H2 Hs2 ρ2 t2 p2 sy2 q2 u ru => ?_⟩⟩
    have rv := rv.mono t2.mono p2
    cases x with
    | fz d => exact q2.elim
    | rf n =>
      cases w : itemsH h2 y with
      | none => rw [w] at q2; exact q2.elim
      | some ys =>
        rw [w] at q2
        obtain ⟨b, zs, rfl, hb, hz, hyl⟩ := items_ok sy2 ru w
        have q3 : PostV D Q Hs2 H2 ρ2 h2 (wrL (.rf n) (fun xs => if xs.length + ys.length ≤ LIM then some (Vl.fz .non, xs ++ ys) else none) h2) := by
          cases y with
          | fz d => exact q2
          | rf m =>
            dsimp only at q2
            by_cases hm : m = n
            · rw [if_pos hm] at q2; exact q2.elim
            · rw [if_neg hm] at q2; exact q2
        have hw : WrOk D.T (fun xs => if xs.length + ys.length ≤ LIM then some (Vl.fz .non, xs ++ ys) else none) (fun a H Q => H = H2 → rExtend (.ref a) [.ref b] H Q) Hs2 ρ2 := fun H a vs xs ys' z Q g1 g2 g3 e k eH => by
          subst eH
          dsimp only at e
          by_cases hl : xs.length + ys.length ≤ LIM
          · rw [if_pos hl] at e
            cases e
            rw [lim_eq] at hl
            exact ⟨a, b, vs, zs, rfl, rfl, g1, hb, by rw [Paired.length g3, Paired.length hz]; exact hl, k _ _ (by rw [List.length_append]; exact hl) (Paired.append g3 hz) RepV.non⟩
          · rw [if_neg hl] at e; cases e
        obtain ⟨a, rfl, _, hr⟩ := wrL_ok (X := X) sy2 rv hw q3
        exact hr rfl
  · rw [if_neg hl] at q1; exact q1.elim
/-! ### freezing -/
theorem ev_frz {f : Env → Hm → R Vl} (he : PE X e (semE D f)) : PE X e (semE D (frzE f)) := by
  refine PE.imp he fun σ H Q z => ?_
  obtain ⟨Hs, ρ, h, env, sy, er, p⟩ := z
  refine ⟨Hs, ρ, h, env, sy, er, Post.bind (f := fun v h => (HV.frz v h).bind fun d h => R.ok (Vl.fz d) h) p fun x h1 H1 Hs1 ρ1 t1 p1 sy1 q1 v rv => ?_⟩
  obtain ⟨Hs2, h2, d, ⟨s2, t2⟩, r2, q2⟩ := Post.frzB sy1 rv q1
  exact q2 H1 Hs2 ρ1 Tr.refl Pre.refl s2 v r2
/-! ### what a def promises -/
def spF (T : Tb) (fld : Nat → Nat) (φ : List Vl → Hm → R Vl) : Sp := fun vs H Q E => ∃ Hs ρ h as, Sy T Hs H ρ h ∧ VlsR T Hs ρ vs as ∧ PostV ⟨T, fld, E⟩ Q Hs H ρ h (φ as h)
theorem sem_call {φ : List Vl → Hm → R Vl} {g : Env → Hm → R (List Vl)} : ∀ σ H Q, semE D (callE φ g) σ H Q → tCall (spF D.T D.fld φ) [] D.E (semA D g) σ H Q := by
  intro σ H Q z
  obtain ⟨Hs, ρ, h, env, sy, er, p⟩ := z
  refine ⟨Hs, ρ, h, env, sy, er, Post.bind (f := fun as h => φ as h) p fun as h1 H1 Hs1 ρ1 t1 p1 sy1 q1 vs rs => ?_⟩
  show spF D.T D.fld φ (vs ++ []) H1 Q D.E
  rw [List.append_nil]
  exact ⟨Hs1, ρ1, h1, as, sy1, rs, q1⟩
/-- where a def stands -/
structure Fd (X : Cx) (k : Nat) (x : Str) (f : Addr) (fd : FuncData) (ps : List Str) (sp : Sp) : Prop where
  ok : FnOk X.prog X.w X.K X.mg X.base (L2.CX X.prog X.w) k f fd ps sp
  mg : X.mg x = some (.ref f)
  kp : PySem.W.keepIn X.K (.ref f) = true
  bd : Binds X.K fd ps []
theorem nil_A {σ : L2.St} {H : Hp} {Q : List V → Hp → Prop} (z : semA D esNil σ H Q) : Q [] H := by
  obtain ⟨Hs, ρ, h, env, sy, er, p⟩ := z
  exact p H Hs ρ Tr.refl Pre.refl sy [] .nil
theorem ev_call {φ : List Vl → Hm → R Vl} {g : Env → Hm → R (List Vl)} {k : Nat} {x : Str} {f : Addr} {fd : FuncData} {ps : List Str} (F : Fd X k x f fd ps (spF D.T D.fld φ)) (hr : Room k X.A) (hg : Gl X x) (hx : Passes (L2.CX X.prog X.w) X D.E)
    (ha : PA X es (semA D g)) (hn : es = [] → g = esNil) (hs : argsX es = true) (hdb : (x == ("__debug__" : Str)) = false) : PE X (.Call (.Name x p) es [] pos) (semE D (callE φ g)) := by
  cases es with
  | nil =>
    rw [hn rfl]
    exact PE.imp (pe_call0 F.ok hr hg F.mg F.kp F.bd .nil hx hdb) fun σ H Q z => nil_A (sem_call σ H Q z)
  | cons e es =>
    have h2 := Bool.and_eq_true_iff.mp (show (argX e && argsX es) = true from hs)
    exact PE.imp (pe_call F.ok hr hg F.mg F.kp F.bd .nil hx ha hdb (star_of h2.1) (back_any h2.2)) sem_call
/-! ### methods -/
theorem isInst_ok {c mm : Nat} (sy : Sy T Hs H ρ h) {v : V} {x : Vl} (r : VlR T Hs ρ v x) (e : isInst h c mm x = true) : ∃ a C dx fs, v = .ref a ∧ H a = some (.ins C dx fs) ∧ T.cls c = some C ∧ fs.lookup (nmS mm) = none := by
  cases x with
  | fz d =>
    replace r : RepV T Hs v d := r
    cases r with
    | obj ha hc hf =>
      rename_i a c' C dx fs ds
      simp only [isInst, Bool.and_eq_true, decide_eq_true_eq, Bool.not_eq_true'] at e
      obtain ⟨rfl, h2⟩ := e
      refine ⟨a, C, dx, fs, rfl, sy.sub _ _ ha, hc, fields_none hf fun z => ?_⟩
      rw [List.contains_iff_mem.mpr z] at h2
      cases h2
    | _ => cases e
  | rf n =>
    obtain ⟨a, ha, rfl⟩ := r
    simp only [isInst] at e
    cases w : h[n]? with
    | none => rw [w] at e; cases e
    | some oo =>
      rw [w] at e
      cases oo with
      | none => cases e
      | some o =>
        obtain ⟨_, mr⟩ := sy.ob n o a w ha
        cases o with
        | lst xs => cases e
        | dct kvs => cases e
        | ins c' fs =>
          obtain ⟨C, dx, gs, g1, g2, g3, g4⟩ := mr
          simp only [Bool.and_eq_true, decide_eq_true_eq, Bool.not_eq_true'] at e
          obtain ⟨rfl, h2⟩ := e
          refine ⟨a, C, dx, gs, rfl, g1, g2, fd_none g4 fun z => ?_⟩
          rw [List.contains_iff_mem.mpr z] at h2
          cases h2
structure Md (X : Cx) (k : Nat) (C : Addr) (mm : Nat) (f : Addr) (fd : FuncData) (ps : List Str) (sp : Sp) : Prop where
  ok : FnOk X.prog X.w X.K X.mg X.base (L2.CX X.prog X.w) k f fd ps sp
  cl : Cls X.K C
  mt : Meth X.K C (nmS mm) f
  bd : Binds X.K fd ps []
theorem sem_meth {c mm : Nat} {C : Addr} {φ : List Vl → Hm → R Vl} {f : Env → Hm → R Vl} {g : Env → Hm → R (List Vl)} (hc : D.T.cls c = some C) : ∀ σ H Q, semE D (methE c mm φ f g) σ H Q → tMeth C (nmS mm) (spF D.T D.fld φ) [] D.E (semE D f) (semA D g) σ H Q := by
  intro σ H Q z
  obtain ⟨Hs, ρ, h, env, sy, er, p⟩ := z
  refine ⟨Hs, ρ, h, env, sy, er, Post.bind (f := fun d h => if isInst h c mm d = true then (g env h).bind fun as h => φ (d :: as) h else .stuck) p fun d h1 H1 Hs1 ρ1 t1 p1 sy1 q1 v rv => ?_⟩
  by_cases hi : isInst h1 c mm d = true
  · rw [if_pos hi] at q1
    obtain ⟨a, C', dx, fs, rfl, ha, hc', hm⟩ := isInst_ok sy1 rv hi
    rw [hc] at hc'
    cases hc'
    refine ⟨a, dx, fs, rfl, ha, hm, ⟨Hs1, ρ1, h1, env, sy1, er.mono t1.mono p1, q1.bind fun as h2 H2 Hs2 ρ2 t2 p2 sy2 q2 vs rs => ?_⟩⟩
    show spF D.T D.fld φ (V.ref a :: (vs ++ [])) H2 Q D.E
    rw [List.append_nil]
    exact ⟨Hs2, ρ2, h2, d :: as, sy2, .cons (rv.mono t2.mono p2) rs, q2⟩
  · rw [if_neg hi] at q1; exact q1.elim
theorem semE_mono {f : Env → Hm → R Vl} {Q Q' : VK} (k : ∀ v H, Q v H → Q' v H) (z : semE D f σ H Q) : semE D f σ H Q' := by
  obtain ⟨Hs, ρ, h, env, sy, er, p⟩ := z
  exact ⟨Hs, ρ, h, env, sy, er, p.imp fun a e H' Hs' ρ' t s pr r v rv => k v H' (r v rv)⟩
theorem ev_meth {C a : Addr} {c mm : Nat} {k : Nat} {fd : FuncData} {ps : List Str} {φ : List Vl → Hm → R Vl} {f : Env → Hm → R Vl} {g : Env → Hm → R (List Vl)} (hc : D.T.cls c = some C) (M : Md X k C mm a fd ps (spF D.T D.fld φ)) (he : PE X o (semE D f)) (hr : Room k X.A) (hx : Passes (L2.CX X.prog X.w) X D.E) (ha : PA X es (semA D g))
    (hg : es = [] → g = esNil) (ho : argX o = true) (hs : argsX es = true) (hn : es.length < 30) (hl : (apos.endLine == pos.line) = true) : PE X (.Call (.Attribute o (nmS mm) apos) es [] pos) (semE D (methE c mm φ f g)) := by
  cases es with
  | nil =>
    rw [hg rfl]
    refine PE.imp (pe_meth0 he M.cl M.mt M.ok hr M.bd .nil hx (meth_ht ho hs hn hl)) fun σ H Q z => ?_
    refine semE_mono (fun v H1 h => ?_) (sem_meth hc σ H Q z)
    obtain ⟨a, dx, fs, h1, h2, h3, h4⟩ := h
    exact ⟨a, dx, fs, h1, h2, h3, nil_A h4⟩
  | cons e es =>
    have h2 := Bool.and_eq_true_iff.mp (show (argX e && argsX es) = true from hs)
    exact PE.imp (pe_meth he M.cl M.mt M.ok hr M.bd .nil hx ha (star_of h2.1) (back_any h2.2) (meth_ht ho hs hn hl)) (sem_meth hc)
/-! ### new instances -/
theorem sem_new {c : Nat} {C : Addr} {φ : List Vl → Hm → R Vl} {g : Env → Hm → R (List Vl)} (hc : D.T.cls c = some C) : ∀ σ H Q, semE D (newE c φ g) σ H Q → tMake C (spF D.T D.fld φ) [] D.E (semA D g) σ H Q := by
  intro σ H Q z
  obtain ⟨Hs, ρ, h, env, sy, er, p⟩ := z
  refine ⟨Hs, ρ, h, env, sy, er, Post.bind (f := fun as h => (φ (.rf h.length :: as) (h ++ [some (.ins c [])])).bind fun r h' => match r with
    | .fz .non => R.ok (Vl.rf h.length) h'
    | _ => .stuck) p fun as h1 H1 Hs1 ρ1 t1 p1 sy1 q1 vs rs => ?_⟩
  intro x dx hx hdx hne
  rw [List.append_nil]
  obtain ⟨n1, n2⟩ := sy1.nobody hdx
  have s2 := sy1.other (o := .own x) n1 n2
  have hx2 : upd H1 dx (.own x) x = none := by rw [upd_ne (Ne.symm hne)]; exact hx
  have t2 : TrH Hs1 H1 ρ1 h1 Hs1 (upd H1 dx (.own x)) ρ1 h1 := tr_new hdx
  obtain ⟨s3, t3⟩ := s2.new (u := .ins C dx []) (o := .ins c []) hx2 ⟨C, dx, [], upd_same, hc, List.nodup_nil, .nil⟩
  have t23 := t2.trans t3
  have at0 : (ρ1 ++ [x])[h1.length]? = some x := by rw [← sy1.len]; simp
  refine ⟨Hs1, ρ1 ++ [x], h1 ++ [some (.ins c [])], .rf h1.length :: as, s3, .cons ⟨x, at0, rfl⟩ (VlsR.mono (Same.refl _) Pre.app rs), ?_⟩
  refine Post.bind (D := ⟨D.T, D.fld, D.E⟩) (S := fun Hs' H' ρ' a => ∀ v, VlR D.T Hs' ρ' v a → Q v H') (Post.back t23 Pre.app q1) fun r h4 H4 Hs4 ρ4 t4 p4 sy4 q4 v rv => ?_
  cases r with
  | rf n => exact q4.elim
  | fz d =>
    replace rv : RepV D.T Hs4 v d := rv
    cases rv with
    | non => exact ⟨rfl, q4 H4 Hs4 ρ4 Tr.refl Pre.refl sy4 (.ref x) ⟨x, p4 _ _ at0, rfl⟩⟩
    | _ => exact q4.elim
structure Nd (X : Cx) (k : Nat) (x : Str) (C f : Addr) (fd : FuncData) (ps : List Str) (sp : Sp) : Prop where
  ok : FnOk X.prog X.w X.K X.mg X.base (L2.CX X.prog X.w) k f fd ps sp
  mkr : L2.Mk X.K C f
  mg : X.mg x = some (.ref C)
  bd : Binds X.K fd ps []
theorem ev_new {c : Nat} {C f : Addr} {x : Str} {k : Nat} {fd : FuncData} {ps : List Str} {φ : List Vl → Hm → R Vl} {g : Env → Hm → R (List Vl)} (hc : D.T.cls c = some C) (M : Nd X k x C f fd ps (spF D.T D.fld φ)) (hr : Room (k + 1) X.A) (hgl : Gl X x) (hx : Passes (L2.CX X.prog X.w) X D.E)
    (ha : PA X es (semA D g)) (hg : es = [] → g = esNil) (hs : argsX es = true) (hdb : (x == ("__debug__" : Str)) = false) : PE X (.Call (.Name x p) es [] pos) (semE D (newE c φ g)) := by
  cases es with
  | nil =>
    rw [hg rfl]
    exact PE.imp (pe_make0 M.mkr M.ok hr hgl M.mg M.bd .nil hx hdb) fun σ H Q z => nil_A (sem_new hc σ H Q z)
  | cons e es =>
    have h2 := Bool.and_eq_true_iff.mp (show (argX e && argsX es) = true from hs)
    exact PE.imp (pe_make M.mkr M.ok hr hgl M.mg M.bd .nil hx ha hdb (star_of h2.1) (back_any h2.2)) (sem_new hc)
end
end HV

end

section
/-! V6b: own __contains__; further built-ins. -/
namespace HV
open PySem PySem.Spec PyProof.Rows L2
def nCont : Nat := 29516393455720661124010696543
section
variable {D : Wd} {T : Tb} {Hs H Hs' H' : Hp} {ρ ρ' : List Addr} {h h' : Hm} {σ : L2.St} {env : Env} {X : Cx} {e o a b c : Expr} {es rest : List Expr} {apos cpos pos pos' p p2 : Pos}
theorem cont_name : nmS nCont = "__contains__" := by decide +kernel
theorem clsOf_ok {c : Nat} (sy : Sy T Hs H ρ h) {v : V} {x : Vl} (r : VlR T Hs ρ v x) (e : clsOfV h x = some c) : ∃ a C dx fs, v = .ref a ∧ H a = some (.ins C dx fs) ∧ T.cls c = some C := by
  cases x with
  | fz d =>
    replace r : RepV T Hs v d := r
    cases r with
    | obj ha hc hf =>
      rename_i a c' C dx fs ds
      simp only [clsOfV] at e
      cases e
      exact ⟨a, C, dx, fs, rfl, sy.sub _ _ ha, hc⟩
    | _ => cases e
  | rf n =>
    obtain ⟨a, ha, rfl⟩ := r
    simp only [clsOfV] at e
    cases w : h[n]? with
    | none => rw [w] at e; cases e
    | some oo =>
      rw [w] at e
      cases oo with
      | none => cases e
      | some o =>
        obtain ⟨_, mr⟩ := sy.ob n o a w ha
        cases o with
        | lst xs => cases e
        | dct kvs => cases e
        | ins c' fs =>
          obtain ⟨C, dx, gs, g1, g2, g3, g4⟩ := mr
          cases e
          exact ⟨a, C, dx, gs, rfl, g1, g2⟩
/-- y in x, x of an own class -/
def rOwn (D : Wd) (X : Cx) (k : Nat) (neg : Bool) : R2 := fun x y H Q => ∃ a C dx fs fa fd ps φ, y = .ref a ∧ H a = some (.ins C dx fs) ∧ Md X k C nCont fa fd ps (spF D.T D.fld φ) ∧
  spF D.T D.fld φ [y, x] H (fun v H1 => ∃ b, v = .bl b ∧ Q (.bl (if neg then !b else b)) H1) D.E
theorem op_ownIn {k : Nat} (hr : Room k X.A) (hx : Passes (L2.CX X.prog X.w) X D.E) : OpR X (compareOp .In) (rOwn D X k false) := by
  intro pins s σ H x y v u Q I rx ry hh
  obtain ⟨a, C, dx, fs, fa, fd, ps, φ, rfl, ha, M, q⟩ := hh
  cases ry
  obtain ⟨mA, J, _⟩ := ins_get I.hok ha
  obtain ⟨od, J, _⟩ := J.look
  obtain ⟨m, hF⟩ := I.fr
  have hs := M.mt.at_
  rw [cont_name] at hs
  refine PySem.W.in_K hF I.ok.mod.kin J hs M.mt.fn ?_
  refine wpAny_mono (run_fn M.ok hr M.bd .nil hx I (vs := [V.ref a, x]) (.cons (show L2.RelV (V.ref a) (Value.ref a) from rfl) (.cons rx .nil)) (by rw [List.append_nil]; exact q)) (fun r s' z => ?_) fun _ _ z => z
  obtain ⟨w, H', I', rw', b, rfl, q'⟩ := z
  cases rw'
  refine wpAny_of_eq (a := b) rfl ?_
  exact ⟨.bl b, H', I', rfl, q'⟩
theorem op_ownNotIn {k : Nat} (hr : Room k X.A) (hx : Passes (L2.CX X.prog X.w) X D.E) : OpR X (compareOp .NotIn) (rOwn D X k true) := by
  intro pins s σ H x y v u Q I rx ry hh
  obtain ⟨a, C, dx, fs, fa, fd, ps, φ, rfl, ha, M, q⟩ := hh
  cases ry
  obtain ⟨mA, J, _⟩ := ins_get I.hok ha
  obtain ⟨od, J, _⟩ := J.look
  obtain ⟨m, hF⟩ := I.fr
  have hs := M.mt.at_
  rw [cont_name] at hs
  refine PySem.W.notIn_K hF I.ok.mod.kin J hs M.mt.fn ?_
  refine wpAny_mono (run_fn M.ok hr M.bd .nil hx I (vs := [V.ref a, x]) (.cons (show L2.RelV (V.ref a) (Value.ref a) from rfl) (.cons rx .nil)) (by rw [List.append_nil]; exact q)) (fun r s' z => ?_) fun _ _ z => z
  obtain ⟨w, H', I', rw', b, rfl, q'⟩ := z
  cases rw'
  refine wpAny_of_eq (a := b) rfl ?_
  exact ⟨.bl (!b), H', I', rfl, q'⟩
/-- the own comparisons a text may lean on -/
def SpcOk (D : Wd) (X : Cx) (k : Nat) (spc : Nat → Nat → Option Nat) (φ : Nat → List Vl → Hm → R Vl) : Prop := ∀ j c f, spc j c = some f → j = 6 ∧ ∃ C a fd ps, D.T.cls c = some C ∧ Md X k C nCont a fd ps (spF D.T D.fld (φ f))
theorem own_post {k : Nat} {spc : Nat → Nat → Option Nat} {φ : Nat → List Vl → Hm → R Vl} (S : SpcOk D X k spc φ) {neg : Bool} {c f : Nat} {x y : V} {a b : Vl} {Q : VK} (hc : clsOfV h b = some c) (hf : spc 6 c = some f) (sy : Sy D.T Hs H ρ h) (rx : VlR D.T Hs ρ x a) (ry : VlR D.T Hs ρ y b)
    (p : PostV D Q Hs H ρ h (ownB neg (φ f [b, a] h))) : rOwn D X k neg x y H Q := by
  obtain ⟨ad, C, dx, fs, rfl, ha, hC⟩ := clsOf_ok sy ry hc
  obtain ⟨_, C', fa, fd, ps, hC', M⟩ := S 6 c f hf
  rw [hC] at hC'
  cases hC'
  refine ⟨ad, C, dx, fs, fa, fd, ps, _, rfl, ha, M, Hs, ρ, h, [b, a], sy, .cons ry (.cons rx .nil), ?_⟩
  refine Post.bind (D := ⟨D.T, D.fld, D.E⟩) (S := fun Hs' H' ρ' a => ∀ v, VlR D.T Hs' ρ' v a → Q v H') p fun r h4 H4 Hs4 ρ4 t4 p4 sy4 q4 v rv => ?_
  cases r with
  | rf n => exact q4.elim
  | fz d =>
    replace rv : RepV D.T Hs4 v d := rv
    cases rv with
    | bl b => exact ⟨b, rfl, q4 H4 Hs4 ρ4 Tr.refl Pre.refl sy4 _ (.bl _)⟩
    | _ => exact q4.elim
theorem cmpG_other {spc : Nat → Nat → Option Nat} {φ : Nat → List Vl → Hm → R Vl} {k : Nat} (h6 : k ≠ 6) (h7 : k ≠ 7) (h0 : ∀ j c f, spc j c = some f → j = 6) {a b : Vl} {h : Hm} : cmpG spc φ k a b h = opA (cmpV k) a b h ∨ cmpG spc φ k a b h = .stuck := by
  unfold cmpG
  rw [if_neg (by omega)]
  by_cases z : k = 0 ∨ k = 1
  · rw [if_pos z]
    cases w : clsOfV h a with
    | none => exact .inl rfl
    | some c =>
      dsimp only
      cases w2 : spc 0 c with
      | none => exact .inr rfl
      | some f => exact absurd (h0 0 c f w2) (by decide)
  · rw [if_neg z]; exact .inl rfl
theorem kv_cmpG {k j : Nat} {spc : Nat → Nat → Option Nat} {φ : Nat → List Vl → Hm → R Vl} (S : SpcOk D X k spc φ) : KV2 D (fun x y H Q => (j = 6 ∧ rOwn D X k false x y H Q) ∨ (j = 7 ∧ rOwn D X k true x y H Q) ∨ rA2 D.T (cmpV j) x y H Q) (cmpG spc φ j) := by
  intro x y a b Hs H ρ h Q sy rx ry p
  by_cases hj : j = 6 ∨ j = 7
  · unfold cmpG at p
    rw [if_pos hj] at p
    cases w : clsOfV h b with
    | none => rw [w] at p; exact .inr (.inr (kv_A (va_rA2 _) x y a b Hs H ρ h Q sy rx ry p))
    | some c =>
      rw [w] at p
      dsimp only at p
      cases w2 : spc 6 c with
      | none => rw [w2] at p; exact p.elim
      | some f =>
        rw [w2] at p
        dsimp only at p
        rcases hj with rfl | rfl
        · exact .inl ⟨rfl, own_post S w w2 sy rx ry p⟩
        · exact .inr (.inl ⟨rfl, own_post S w w2 sy rx ry p⟩)
  · refine .inr (.inr ?_)
    rcases cmpG_other (spc := spc) (φ := φ) (a := a) (b := b) (h := h) (fun z => hj (.inl z)) (fun z => hj (.inr z)) (fun j c f z => (S j c f z).1) with z | z
    · rw [z] at p
      exact kv_A (va_rA2 _) x y a b Hs H ρ h Q sy rx ry p
    · rw [z] at p; exact p.elim
theorem op_cmpG {k j : Nat} (hK : D.T.K = X.K) (hu : X.A.units + 65 < cLine) (hj : j < 10) (hr : Room k X.A) (hx : Passes (L2.CX X.prog X.w) X D.E) : OpR X (compareOp (cmpOf j)) (fun x y H Q => (j = 6 ∧ rOwn D X k false x y H Q) ∨ (j = 7 ∧ rOwn D X k true x y H Q) ∨ rA2 D.T (cmpV j) x y H Q) := by
  intro pins s σ H x y v u Q I rx ry z
  rcases z with ⟨rfl, z⟩ | ⟨rfl, z⟩ | z
  · exact op_ownIn hr hx pins s σ H x y v u Q I rx ry z
  · exact op_ownNotIn hr hx pins s σ H x y v u Q I rx ry z
  · exact cmp_ok hK hu j hj pins s σ H x y v u Q I rx ry z
theorem ev_cmpG (hK : D.T.K = X.K) (hu : X.A.units + 65 < cLine) {n k : Nat} (hk : k < 10) (hr : Room n X.A) (hx : Passes (L2.CX X.prog X.w) X D.E) {spc : Nat → Nat → Option Nat} {φ : Nat → List Vl → Hm → R Vl} (S : SpcOk D X n spc φ) {f g : Env → Hm → R Vl} (ha : PE X a (semE D f)) (hb : PE X b (semE D g)) (hm : behindInMarks (cmpOf k) b = false) :
    PE X (.Compare a [cmpOf k] [b] pos) (semE D (op2 f g (cmpG spc φ k))) :=
  PE.imp (pe_cmpR (op_cmpG hK hu hk hr hx) ha hb hm) (sem_op2 (kv_cmpG S))
theorem t_cmpG (hK : D.T.K = X.K) (hu : X.A.units + 65 < cLine) {n k : Nat} (hk : k < 10) (hr : Room n X.A) (hx : Passes (L2.CX X.prog X.w) X D.E) {spc : Nat → Nat → Option Nat} {φ : Nat → List Vl → Hm → R Vl} (S : SpcOk D X n spc φ) {f g : Env → Hm → R Vl} (ha : PE X a (semE D f)) (hb : PE X b (semE D g)) (hm : behindInMarks (cmpOf k) b = false) :
    PT X (.Compare a [cmpOf k] [b] pos) (semT D (cmpT (op2 f g (cmpG spc φ k)))) := by
  refine PT.imp (pt_cmpR (op_cmpG hK hu hk hr hx) ha hb hm) fun σ H Q z => ?_
  exact sem_op2 (kv_cmpG S) σ H _ (blR_ok z)
end
end HV

end

section
/-! Vz: zip and enumerate of lists and tuples in any mix. -/
namespace HV
open PySem PySem.Spec PyProof.Rows L2
/-- a list (false), a tuple (true) -/
def SqB (K : PySem.W.Frag) (t : Bool) (H : Hp) (a : Addr) (xs : List V) : Prop := match t with
  | false => SqL K H a xs
  | true => SqT K H a xs
def IsB (t : Bool) (h : Heap) (a : Addr) (items : Array Value) : Prop := match t with
  | false => h.IsList a items
  | true => h.IsTuple a items
def ItB (t : Bool) (h : Heap) (it a : Addr) (i : Nat) : Prop := match t with
  | false => h.IsListIter it a i
  | true => h.IsTupleIter it a i
def itO (t : Bool) (a : Addr) : Obj := match t with
  | false => { cls := .type "list_iterator", data := .fields #[.ref a, .int 0 0] }
  | true => { cls := .type "tuple_iterator", data := .fields #[.ref a, .int 0 0] }
section
variable {X : Cx} {pins : List (Addr × Obj)} {σ : L2.St} {H : Hp} {s : Shared} {t : Bool} {a : Addr} {xs ys : List V}
theorem seqB (I : Inv X pins σ H s) (h : SqB X.K t H a xs) : ∃ its, Vals xs its ∧ IsB t s.heap a its.toArray ∧ a < s.heap.objs.size := by
  cases t with
  | false =>
    obtain ⟨its, rv, p, _⟩ := I.list h
    exact ⟨its, rv, p.isList, p.lt⟩
  | true =>
    obtain ⟨its, rv, p, _⟩ := I.tuple h
    obtain ⟨o, ho, _⟩ := id p
    exact ⟨its, rv, p, Heap.lt_size ho⟩
theorem injB (I : Inv X pins σ H s) (h : SqB X.K t H a xs) (h' : SqB X.K t H a ys) : xs = ys := by
  cases t with
  | false => exact I.list_inj h h'
  | true => exact I.tuple_inj h h'
theorem drawsB {prog : Program} {w : World} {A : Around} (hh : A.handled = none) (it : Addr) (hne : a ≠ it) (items : Array Value) :
    Draws prog w A it [it, a] items.size (fun i v => items[i]? = some v) (fun i h => ItB t h it a i ∧ IsB t h a items) := by
  cases t with
  | false => exact Draws.list hh it a hne items
  | true => exact Draws.tuple hh it a hne items
theorem beginsB (items : Array Value) : Begins (.ref a) (itO t a) fun h => IsB t h a items := by
  cases t with
  | false => exact begins_list a items
  | true => exact begins_tuple a items
theorem ItB.obj {h : Heap} {it : Addr} {i : Nat} (q : ItB t h it a i) : ∃ o vs, h.get? it = some o ∧ o.data = .fields vs := by
  cases t with
  | false => obtain ⟨o, e, _, d⟩ := q; exact ⟨o, _, e, d⟩
  | true => obtain ⟨o, e, _, d⟩ := q; exact ⟨o, _, e, d⟩
theorem ItB.at {h h' : Heap} {it : Addr} {i : Nat} (q : ItB t h it a i) (k : ∀ o, h.get? it = some o → h'.get? it = some o) : ItB t h' it a i := by
  cases t with
  | false => exact Heap.IsListIter.at q k
  | true => exact Heap.IsTupleIter.at q k
theorem itB_new {h : Heap} {it : Addr} (e : h.get? it = some (itO t a)) : ItB t h it a 0 := by
  cases t with
  | false => exact ⟨_, e, rfl, rfl⟩
  | true => exact ⟨_, e, rfl, rfl⟩
end
/-- the two at a and b as they stand at each turn, the items in new pairs -/
def ItzB (K : PySem.W.Frag) (t u : Bool) (a b : Addr) : It :=
  ⟨fun i H => ∃ (xs ys : List V) (x y : V), SqB K t H a xs ∧ SqB K u H b ys ∧ xs[i]? = some x ∧ ys[i]? = some y,
    fun i H v H' => ∃ T x y, v = .ref T ∧ H T = none ∧ H' = upd H T (.tup [x, y]) ∧ (∀ xs, SqB K t H a xs → xs[i]? = some x) ∧ ∀ ys, SqB K u H b ys → ys[i]? = some y,
    fun i H => ∃ xs ys : List V, SqB K t H a xs ∧ SqB K u H b ys ∧ i ≤ xs.length ∧ i ≤ ys.length ∧ (i = xs.length ∨ i = ys.length)⟩
theorem turn_zipB {P : Program} {w : World} {K : PySem.W.Frag} {elts : List Expr} {kk : Nat} {tpos : Pos} {t u : Bool} {a b z TI TO i1 i2 : Addr} (D : ZipSep2 z TI TO i1 i2 [i1, a] [i2, b]) (na : a ≠ i1) (nb : b ≠ i2) :
    Turn P w K (.Tuple elts kk tpos) (ItzB K t u a b) [z, TI, TO, i1, i2] z (fun i h => IsZip h z TI TO .none ∧ IsTupOf2 h TI (.ref i1) (.ref i2) ∧ (∃ x y, IsTupOf2 h TO x y) ∧ ItB t h i1 a i ∧ ItB u h i2 b i) where
  mem := by simp
  obj := fun i h st c hc => by
    obtain ⟨hz, hTI, ⟨x, y, hTO⟩, q1, q2⟩ := st
    obtain ⟨o1, v1, e1, d1⟩ := q1.obj
    obtain ⟨o2, v2, e2, d2⟩ := q2.obj
    have e' : c = z ∨ c = TI ∨ c = TO ∨ c = i1 ∨ c = i2 := by simpa using hc
    rcases e' with q | q | q | q | q
    · rw [q]; exact ⟨_, hz, fun v q => nomatch q⟩
    · rw [q]; exact ⟨_, hTI, fun v q => nomatch q⟩
    · rw [q]; exact ⟨_, hTO, fun v q => nomatch q⟩
    · rw [q]; exact ⟨o1, e1, fun v q => by rw [d1] at q; cases q⟩
    · rw [q]; exact ⟨o2, e2, fun v q => by rw [d2] at q; cases q⟩
  keep := fun i h h' st k => by
    obtain ⟨hz, hTI, ⟨x, y, hTO⟩, h1, h2⟩ := st
    exact ⟨k z (by simp) _ hz, k TI (by simp) _ hTI, ⟨x, y, k TO (by simp) _ hTO⟩, h1.at fun o q => k i1 (by simp) o q, h2.at fun o q => k i2 (by simp) o q⟩
  item := by
    intro X hP hw hK hc i pins s σ H E I hf st hg
    subst hP hw hK
    obtain ⟨hz, hTI, ⟨x0, y0, hTO⟩, h1, h2⟩ := st
    obtain ⟨xs, ys, x, y, hqx, hqy, hx, hy⟩ := hg
    obtain ⟨its, rv, p, _⟩ := seqB I hqx
    obtain ⟨its2, rv2, p2, _⟩ := seqB I hqy
    obtain ⟨u0, hu, ru⟩ := rv.get hx
    obtain ⟨u2, hu2, ru2⟩ := rv2.get hy
    have hzl : z < s.heap.objs.size := Heap.lt_size hz
    have l1 := rv.length
    have l2 := rv2.length
    have hlx : i < xs.length := (List.getElem?_eq_some_iff.mp hx).1
    have hly : i < ys.length := (List.getElem?_eq_some_iff.mp hy).1
    have hh : X.A.in1.handled = none := I.ok.hd hc
    refine wpAny_pyNext_zipD2_item D (drawsB (t := t) hh i1 na its.toArray) (drawsB (t := u) hh i2 nb its2.toArray) hz hTI hTO ⟨h1, p⟩ ⟨h2, p2⟩ (by simp; omega) (by simp; omega) fun x1 x2 h' tk e1 e2 z' TO' s1 s2 hT hsz hk => ?_
    have e1' : x1 = u0 := by
      have e3 : its.toArray[i]? = some u0 := by simpa using hu
      rw [e3] at e1; cases e1; rfl
    have e2' : x2 = u2 := by
      have e3 : its2.toArray[i]? = some u2 := by simpa using hu2
      rw [e3] at e2; cases e2; rfl
    subst e1' e2'
    refine ⟨_, rfl, wpAny_letOwnedTupleGo_zip (s := { s with heap := h', toks := tk }) z' fun h'' z'' sb => ?_⟩
    have hT2 : h''.get? s.heap.objs.size = some { cls := .type "tuple", data := .seq #[x1, x2] } := (sb.2 _ (Nat.ne_of_gt hzl)).trans hT
    have new : ObjOk X.prog X.w (upd H s.heap.objs.size (.tup [x, y])) h'' s.heap.objs.size (.tup [x, y]) :=
      ⟨by show 2 ≤ sizeLine; decide, [x1, x2], .cons ru (.cons ru2 .nil), ⟨_, hT2, rfl, _, rfl⟩⟩
    have I1 : Inv X pins σ (upd H s.heap.objs.size (.tup [x, y])) { s with heap := h'', toks := tk } :=
      I.turnedNew (t' := tk) (ch := [z, TI, TO, i1, i2]) (fun c o hb q => (sb.2 c (fun q' => hb (by simp [q']))).trans (hk c o (fun q' => hb (by simp [q'])) (fun q' => hb (by simp [q'])) (fun q' => hb (by simp [q'])) (fun q' => hb (by simp [q'])) q)) hf (Nat.le_refl _) new
    refine ⟨.ref s.heap.objs.size, _, I1, rfl, ⟨_, x, y, rfl, I.hok.fresh (Nat.le_refl _), rfl, fun l hl => by rw [injB I hl hqx]; exact hx, fun l hl => by rw [injB I hl hqy]; exact hy⟩, ⟨z'', ?_, ⟨x1, x2, ?_⟩, ?_, ?_⟩, fun c hcm => ?_⟩
    · exact (sb.2 _ D.TIz).trans (hk _ _ D.TIz D.TITO D.TIi1 D.TIi2 hTI)
    · exact (sb.2 _ D.TOz).trans TO'
    · exact s1.1.at fun o q => (sb.2 _ (Ne.symm D.zi1)).trans q
    · exact s2.1.at fun o q => (sb.2 _ (Ne.symm D.zi2)).trans q
    · have hlt : c < s.heap.objs.size := by
        have e' : c = z ∨ c = TI ∨ c = TO ∨ c = i1 ∨ c = i2 := by simpa using hcm
        rcases e' with q | q | q | q | q
        · rw [q]; exact hzl
        · rw [q]; exact Heap.lt_size hTI
        · rw [q]; exact Heap.lt_size hTO
        · rw [q]; obtain ⟨_, _, e1, _⟩ := h1.obj; exact Heap.lt_size e1
        · rw [q]; obtain ⟨_, _, e2, _⟩ := h2.obj; exact Heap.lt_size e2
      rw [upd_ne (Nat.ne_of_lt hlt)]
      exact (hf c hcm).1
  done := by
    intro X hP hw hK hc i pins s σ H E I hf st hg
    subst hP hw hK
    obtain ⟨hz, hTI, ⟨x0, y0, hTO⟩, h1, h2⟩ := st
    obtain ⟨xs, ys, hqx, hqy, g1, g2, hend⟩ := hg
    obtain ⟨its, rv, p, _⟩ := seqB I hqx
    obtain ⟨its2, rv2, p2, _⟩ := seqB I hqy
    have l1 := rv.length
    have l2 := rv2.length
    have hh : X.A.in1.handled = none := I.ok.hd hc
    exact wpAny_pyNext_zipD2_end D (drawsB (t := t) hh i1 na its.toArray) (drawsB (t := u) hh i2 nb its2.toArray) hz hTI hTO ⟨h1, p⟩ ⟨h2, p2⟩ (by simp; omega) (by simp; omega) (by simp; omega) fun h' tk hk => ⟨rfl, I.turnedL (t' := tk) (ch := [z, TI, TO, i1, i2]) (fun c o hb q =>
      hk c o (fun q' => hb (by simp [q'])) (fun q' => hb (by simp [q'])) (fun q' => hb (by simp [q'])) (fun q' => hb (by simp [q'])) q) hf⟩
  self := fun A i s Q E st h => wpAny_pyIter_zip st.1 h
def iZipB (K : PySem.W.Frag) (ta : TA) : TI := fun σ H R => ta σ H fun vs H1 => ∃ t u a b xs ys, vs = [.ref a, .ref b] ∧ SqB K t H1 a xs ∧ SqB K u H1 b ys ∧ R (ItzB K t u a b) H1
theorem pi_zipB {X : Cx} {e e2 : Expr} {ta : TA} {p pos tpos : Pos} {elts : List Expr} {kk : Nat} (hg : Gl X "zip") (hm : X.mg "zip" = none) (ha : PA X [e, e2] ta)
    (hs : starEach [e, e2] X.env = (false, eval e X.env) :: starEach [e2] X.env) (hpl : (backTo pos (starEach [e2] X.env)).any (·.1) = false) :
    PI X (.Tuple elts kk tpos) (.Call (.Name "zip" p) [e, e2] [] pos) (iZipB X.K ta) := by
  refine ⟨fun pins s σ H R I h => ?_⟩
  refine Call_ (ld_blt I hg hm PyProof.Rows.boot_zip (PyProof.Rows.callWith_type1 (thn (ha.run pos pins s σ H _ I h) fun us s1 ⟨vs, H1, I1, r1, q1⟩ => ?_) hs hpl))
  obtain ⟨t, u, a, b, xs, ys, ex, hqx, hqy, q⟩ := q1
  subst ex
  cases r1 with
  | cons r rr =>
    cases rr with
    | cons r' rr =>
      cases rr
      cases r
      cases r'
      have fresh5 : ∀ c, c ∈ [s1.heap.objs.size + 4, s1.heap.objs.size + 2, s1.heap.objs.size + 3, s1.heap.objs.size, s1.heap.objs.size + 1] → FpOk X pins H1 c := fun c hcm => by
        have e' : c = s1.heap.objs.size + 4 ∨ c = s1.heap.objs.size + 2 ∨ c = s1.heap.objs.size + 3 ∨ c = s1.heap.objs.size ∨ c = s1.heap.objs.size + 1 := by simpa using hcm
        have hle : s1.heap.objs.size ≤ c := by
          rcases e' with z | z | z | z | z
          · rw [z]; exact Nat.le_add_right _ _
          · rw [z]; exact Nat.le_add_right _ _
          · rw [z]; exact Nat.le_add_right _ _
          · rw [z]; exact Nat.le_refl _
          · rw [z]; exact Nat.le_add_right _ _
        exact I1.fpOk hle (I1.hok.fresh hle)
      obtain ⟨its, rv, p1, la⟩ := seqB I1 hqx
      obtain ⟨its2, rv2, p2, lb⟩ := seqB I1 hqy
      refine zip_begins2 (beginsB (t := t) its.toArray) (beginsB (t := u) its2.toArray) p1 p2 fun h' hz hTI hTO g1 g2 hsz hk => wpAny_pyIter_zip hz ?_
      have I2 : Inv X pins σ H1 { s1 with heap := h' } := I1.kept (t' := s1.toks) hk
      exact ⟨s1.heap.objs.size + 4, [s1.heap.objs.size + 4, s1.heap.objs.size + 2, s1.heap.objs.size + 3, s1.heap.objs.size, s1.heap.objs.size + 1], _, _, H1, rfl, I2,
        turn_zipB (zip_sep2 (fp1 := [a]) (fp2 := [b]) (fun c hc => by simp at hc; rw [hc]; exact la) (fun c hc => by simp at hc; rw [hc]; exact lb)) (Nat.ne_of_lt la) (Nat.ne_of_lt (Nat.lt_succ_of_lt lb)), ⟨hz, hTI, ⟨_, _, hTO⟩, itB_new g1, itB_new g2⟩, fresh5, q⟩
theorem walk_zipB {K : PySem.W.Frag} {t u : Bool} {a b : Addr} {xs ys : List V} {n : Nat} (hn : n = min xs.length ys.length) : Walk (ItzB K t u a b) n (fun H => SqB K t H a xs ∧ SqB K u H b ys) (YPair (fun i => xs[i]?) (fun i => ys[i]?)) := by
  subst hn
  refine ⟨fun i _ hi q => ?_, fun _ q => ⟨xs, ys, q.1, q.2, by omega, by omega, by omega⟩, fun i H v H' _ q y => ?_⟩
  · have h1 : i < xs.length := by omega
    have h2 : i < ys.length := by omega
    exact ⟨xs, ys, xs[i], ys[i], q.1, q.2, by simp [h1], by simp [h2]⟩
  · obtain ⟨T, x, z, h1, h2, h3, h4, h5⟩ := y
    exact ⟨T, x, z, h1, h2, h3, h4 xs q.1, h5 ys q.2⟩
/-! ### enumerate -/
def IteB (K : PySem.W.Frag) (t : Bool) (a : Addr) : It :=
  ⟨fun i H => ∃ (xs : List V) (x : V), SqB K t H a xs ∧ xs[i]? = some x, fun i H v H' => ∃ T x, v = .ref T ∧ H T = none ∧ H' = upd H T (.tup [.int (i : Nat), x]) ∧ ∀ xs, SqB K t H a xs → xs[i]? = some x, fun i H => ∃ xs : List V, SqB K t H a xs ∧ xs.length = i⟩
theorem turn_enumB {P : Program} {w : World} {K : PySem.W.Frag} {elts : List Expr} {kk : Nat} {tpos : Pos} {t : Bool} (a e it : Addr) (hne : e ≠ it) (hea : e ≠ a) (hia : a ≠ it) :
    Turn P w K (.Tuple elts kk tpos) (IteB K t a) [e, it] e (fun i h => (∃ old, IsEnum h e it ((i : Nat) : Int) old) ∧ ItB t h it a i) where
  mem := by simp
  obj := fun i h st b hb => by
    obtain ⟨⟨old, he⟩, q⟩ := st
    obtain ⟨o, v, ho, hd⟩ := q.obj
    have e' : b = e ∨ b = it := by simpa using hb
    rcases e' with z | z
    · rw [z]; exact ⟨_, he, fun v q => nomatch q⟩
    · rw [z]; exact ⟨o, ho, fun v q => by rw [hd] at q; cases q⟩
  keep := fun i h h' st k => let ⟨⟨old, he⟩, hi⟩ := st; ⟨⟨old, k e (by simp) _ he⟩, hi.at fun o q => k it (by simp) o q⟩
  item := by
    intro X hP hw hK hc i pins s σ H E I hf st hg
    subst hP hw hK
    obtain ⟨⟨old, he⟩, hit⟩ := st
    obtain ⟨xs, x, hq, hx⟩ := hg
    obtain ⟨its, rv, p, hz⟩ := seqB I hq
    obtain ⟨u, hu, ru⟩ := rv.get hx
    have hel : e < s.heap.objs.size := Heap.lt_size he
    have hil : it < s.heap.objs.size := by obtain ⟨_, _, q, _⟩ := hit.obj; exact Heap.lt_size q
    have hh : X.A.in1.handled = none := I.ok.hd hc
    have l1 := rv.length
    have hlx : i < xs.length := (List.getElem?_eq_some_iff.mp hx).1
    refine wpAny_pyNext_enum_itemD (drawsB (t := t) hh it hia its.toArray) he ⟨hit, p⟩ (by simp; omega) hne (by simp; exact ⟨hne, hea⟩) fun x1 h' tk e1 ho st' hT hsz hk => ?_
    have e1' : x1 = u := by
      have e3 : its.toArray[i]? = some u := by simpa using hu
      rw [e3] at e1; cases e1; rfl
    subst e1'
    refine ⟨_, rfl, wpAny_letOwnedTupleGo_enum (s := { s with heap := h', toks := tk + 1 }) ho fun h'' he' sb => ?_⟩
    have hT2 : h''.get? s.heap.objs.size = some { cls := .type "tuple", data := .seq #[.int i tk, x1] } := (sb.2 _ (Nat.ne_of_gt hel)).trans hT
    have new : ObjOk X.prog X.w (upd H s.heap.objs.size (.tup [.int (i : Nat), x])) h'' s.heap.objs.size (.tup [.int (i : Nat), x]) :=
      ⟨by show 2 ≤ sizeLine; decide, [.int i tk, x1], .cons ⟨_, rfl⟩ (.cons ru .nil), ⟨_, hT2, rfl, _, rfl⟩⟩
    have I1 : Inv X pins σ (upd H s.heap.objs.size (.tup [.int (i : Nat), x])) { s with heap := h'', toks := tk + 1 } :=
      I.turnedNew (ch := [e, it]) (fun b ob hb q => (sb.2 b (fun z => hb (by simp [z]))).trans (hk b ob (fun z => hb (by simp [z])) (fun z => hb (by simp [z])) q)) hf (Nat.le_refl _) new
    refine ⟨.ref s.heap.objs.size, _, I1, rfl, ⟨_, x, rfl, I.hok.fresh (Nat.le_refl _), rfl, fun ys hy => by rw [injB I hy hq]; exact hx⟩, ⟨⟨x1, ?_⟩, st'.1.at fun o q => (sb.2 it (Ne.symm hne)).trans q⟩, fun b hb => ?_⟩
    · have e1 : ((i + 1 : Nat) : Int) = (i : Int) + 1 := by omega
      rw [e1]; exact he'
    · have hb' : b < s.heap.objs.size := by
        have e' : b = e ∨ b = it := by simpa using hb
        rcases e' with z | z
        · rw [z]; exact hel
        · rw [z]; exact hil
      rw [upd_ne (Nat.ne_of_lt hb')]
      exact (hf b hb).1
  done := by
    intro X hP hw hK hc i pins s σ H E I hf st hg
    subst hP hw hK
    obtain ⟨⟨old, he⟩, hit⟩ := st
    obtain ⟨xs, hq, hx⟩ := hg
    obtain ⟨its, rv, p, hz⟩ := seqB I hq
    obtain ⟨f0, f1, f2, f3, f4, f5⟩ := hf it (by simp)
    have hl := rv.length
    have hh : X.A.in1.handled = none := I.ok.hd hc
    have e : its.toArray.size = i := by simp; omega
    exact wpAny_pyNext_enum_endD (drawsB (t := t) hh it hia its.toArray) he ⟨by rw [e]; exact hit, p⟩ fun h' eb => ⟨rfl, I.turned (t' := s.toks) (fun b o hb q => eb b o hb q) f0 f1 f3 f4 f5⟩
  self := fun A i s Q E st h => let ⟨⟨_, he⟩, _⟩ := st; wpAny_pyIter_enum he h
theorem meets_enumQ {v : Value} {o : Obj} {H : Heap → Prop} (B : Begins v o H) :
    Meets (Builtin.«enumerate.__new__» ⟨[.type "enumerate", v], []⟩) (fun _ R s => H s.heap ∧
      R (.ok (.ret (.ref (s.heap.push o).objs.size))) { s with heap := (s.heap.push o).push { cls := .type "enumerate", data := .fields #[.none, .bool false, .ref s.heap.objs.size, rawInt 0, .none, .none] } }) :=
  .of_wp fun prog w A R s h => by
    obtain ⟨hp, g, d, tk, os⟩ := s; obtain ⟨h1, h⟩ := h
    have hsub := sub_enumerate
    have q1 : ∀ {A' : Around} {E : Value → Shared → Prop} {Q : Value → Shared → Prop}, Q (.ref hp.objs.size) ⟨hp.push o, g, d, tk, os⟩ → wpAny (model prog w) A' (pyIter v) Q E ⟨hp, g, d, tk, os⟩ :=
      fun q => B.iter prog w _ _ ⟨hp, g, d, tk, os⟩ _ h1 q
    wp_walk using q1
    refine wpAny_stack_any fun st => wpAny_pure ?_
    split
    · rename_i c _ _ _ _ _
      cases (c == Value.type "enumerate")
      · wp_walk using q1
        exact ⟨_, rfl, h⟩
      · wp_walk using q1
        exact ⟨_, rfl, h⟩
    · wp_walk using q1
      exact ⟨_, rfl, h⟩
theorem call_enumQ {prog : Program} {w : World} {A : Around} {E : Value → Shared → Prop} {s : Shared} {v : Value} {o : Obj} {H : Heap → Prop} {Q : Value → Shared → Prop} (B : Begins v o H) (h1 : H s.heap)
    (h : ∀ h', IsEnum h' (s.heap.objs.size + 1) s.heap.objs.size 0 .none → h'.get? s.heap.objs.size = some o → h'.objs.size = s.heap.objs.size + 2 →
      (∀ b o, s.heap.get? b = some o → h'.get? b = some o) → Q (.ref (s.heap.objs.size + 1)) { s with heap := h' }) :
    wpAny (model prog w) A (call (.type "enumerate") [v]) Q E s := by
  refine callType_new F.called_enumerate (by decide) (F.typeCall_enumerate_1 _) (F.newCall_enumerate_1 _) (fun obj => F.args_object_init_2 obj _) F.entry_enumerate_new
    (meets_enumQ B) ⟨h1, ?_⟩
  have hz : (s.heap.push o).objs.size = s.heap.objs.size + 1 := Heap.size_push ..
  show _ ∧ _
  rw [hz]
  have he : IsEnum ((s.heap.push o).push { cls := .type "enumerate", data := .fields #[.none, .bool false, .ref s.heap.objs.size, rawInt 0, .none, .none] }) (s.heap.objs.size + 1) s.heap.objs.size 0 .none := by
    have := Heap.get?_push_size (s.heap.push o) (o := { cls := .type "enumerate", data := .fields #[.none, .bool false, .ref s.heap.objs.size, rawInt 0, .none, .none] }) rfl
    rw [hz] at this; exact this
  refine ⟨⟨_, he, rfl⟩, h _ he (Heap.get?_push_of_some _ (Heap.get?_push_size _ B.free)) (by rw [Heap.size_push, hz]) fun b o x => Heap.get?_push_of_some _ (Heap.get?_push_of_some _ x)⟩
def iEnumB (K : PySem.W.Frag) (ta : TA) : TI := fun σ H R => ta σ H fun vs H1 => ∃ t a xs, vs = [.ref a] ∧ SqB K t H1 a xs ∧ R (IteB K t a) H1
theorem pi_enumB {X : Cx} {e : Expr} {ta : TA} {p pos tpos : Pos} {elts : List Expr} {kk : Nat} (hg : Gl X "enumerate") (hm : X.mg "enumerate" = none) (ha : PA X [e] ta) (hs : starEach [e] X.env = [(false, eval e X.env)]) :
    PI X (.Tuple elts kk tpos) (.Call (.Name "enumerate" p) [e] [] pos) (iEnumB X.K ta) := by
  refine ⟨fun pins s σ H R I h => ?_⟩
  refine Call_ (ld_blt I hg hm boot_enumerate (PyProof.Rows.callWith_type1 (thn (ha.run pos pins s σ H _ I h) fun us s1 ⟨vs, H1, I1, r1, q1⟩ => ?_) hs rfl))
  obtain ⟨t, a, xs, ex, hq, q⟩ := q1
  subst ex
  cases r1 with
  | cons r rr =>
    cases rr
    cases r
    obtain ⟨its, rv, p', la⟩ := seqB I1 hq
    refine call_enumQ (beginsB (t := t) its.toArray) p' fun h' he g1 hsz hk => wpAny_pyIter_enum he ?_
    have I2 : Inv X pins σ H1 { s1 with heap := h' } := I1.kept (t' := s1.toks) hk
    refine ⟨s1.heap.objs.size + 1, [s1.heap.objs.size + 1, s1.heap.objs.size], _, _, H1, rfl, I2, turn_enumB a (s1.heap.objs.size + 1) s1.heap.objs.size (Nat.succ_ne_self _) (Nat.ne_of_gt (Nat.lt_succ_of_lt la)) (Nat.ne_of_lt la), ⟨⟨.none, he⟩, itB_new g1⟩, fun b hb => ?_, q⟩
    have e' : b = s1.heap.objs.size + 1 ∨ b = s1.heap.objs.size := by simpa using hb
    have hle : s1.heap.objs.size ≤ b := by
      rcases e' with z | z
      · rw [z]; exact Nat.le_add_right _ _
      · rw [z]; exact Nat.le_refl _
    exact I1.fpOk hle (I1.hok.fresh hle)
theorem walk_enumB {K : PySem.W.Frag} {t : Bool} {a : Addr} {xs : List V} : Walk (IteB K t a) xs.length (fun H => SqB K t H a xs) (YPair (fun i => some (.int (i : Nat))) (fun i => xs[i]?)) := by
  refine ⟨fun i _ hi q => ⟨xs, xs[i], q, by simp [hi]⟩, fun _ q => ⟨xs, q, rfl⟩, fun i H v H' _ q y => ?_⟩
  obtain ⟨T, x, h1, h2, h3, h4⟩ := y
  exact ⟨T, .int (i : Nat), x, h1, h2, h3, rfl, h4 xs q⟩
end HV

end

section
/-! V7: statements, targets, what is walked, loops, comprehensions. -/
namespace HV
open PySem PySem.Spec PyProof.Rows L2
def PostS (D : Wd) (En : Ends) (Hs H : Hp) (ρ : List Addr) (h : Hm) : SO → Prop
  | .nx env' h' => ∀ σ' H' Hs' ρ', TrH Hs H ρ h Hs' H' ρ' h' → Pre ρ ρ' → Sy D.T Hs' H' ρ' h' → EnvR D.T Hs' ρ' σ' env' → En.nx σ' H'
  | .bk env' h' => ∀ σ' H' Hs' ρ', TrH Hs H ρ h Hs' H' ρ' h' → Pre ρ ρ' → Sy D.T Hs' H' ρ' h' → EnvR D.T Hs' ρ' σ' env' → En.bk σ' H'
  | .ct env' h' => ∀ σ' H' Hs' ρ', TrH Hs H ρ h Hs' H' ρ' h' → Pre ρ ρ' → Sy D.T Hs' H' ρ' h' → EnvR D.T Hs' ρ' σ' env' → En.ct σ' H'
  | .rt v h' => ∀ u H' Hs' ρ', TrH Hs H ρ h Hs' H' ρ' h' → Pre ρ ρ' → Sy D.T Hs' H' ρ' h' → VlR D.T Hs' ρ' u v → En.rt u H'
  | .exc c ps h' => ∀ H' Hs' ρ' C d, TrH Hs H ρ h Hs' H' ρ' h' → Pre ρ ρ' → Sy D.T Hs' H' ρ' h' → XR D.T Hs' H' D.fld c ps C d → D.E (.ref C) d H'
  | .stuck => False
def semS (D : Wd) (f : Env → Hm → SO) : TS := fun En σ H => ∃ Hs ρ h env, Sy D.T Hs H ρ h ∧ EnvR D.T Hs ρ σ env ∧ PostS D En Hs H ρ h (f env h)
section
variable {D : Wd} {T : Tb} {Hs H Hs' H' : Hp} {ρ ρ' : List Addr} {h h' : Hm} {σ : L2.St} {env : Env} {X : Cx} {e o a b c tg : Expr} {es rest : List Expr} {apos cpos pos pos' p p2 : Pos} {En : Ends}
theorem PostS.back {o : SO} (t : TrH Hs H ρ h Hs' H' ρ' h') (pr : Pre ρ ρ') (q : PostS D En Hs H ρ h o) : PostS D En Hs' H' ρ' h' o := by
  cases o with
  | nx e => exact fun σ' H2 Hs2 ρ2 t2 p2 sy er => q σ' H2 Hs2 ρ2 (t.trans t2) (pr.trans p2) sy er
  | bk e => exact fun σ' H2 Hs2 ρ2 t2 p2 sy er => q σ' H2 Hs2 ρ2 (t.trans t2) (pr.trans p2) sy er
  | ct e => exact fun σ' H2 Hs2 ρ2 t2 p2 sy er => q σ' H2 Hs2 ρ2 (t.trans t2) (pr.trans p2) sy er
  | rt d e => exact fun v H2 Hs2 ρ2 t2 p2 sy r => q v H2 Hs2 ρ2 (t.trans t2) (pr.trans p2) sy r
  | exc c ps e => exact fun H2 Hs2 ρ2 C d t2 p2 sy x => q H2 Hs2 ρ2 C d (t.trans t2) (pr.trans p2) sy x
  | stuck => exact q
theorem Post.bindS {α : Type} {R : Hp → Hp → List Addr → α → Prop} {o : HV.R α} {f : α → Hm → SO} (q : PostS D En Hs H ρ h (o.bindS f))
    (k : ∀ a h' H' Hs' ρ', TrH Hs H ρ h Hs' H' ρ' h' → Pre ρ ρ' → Sy D.T Hs' H' ρ' h' → PostS D En Hs' H' ρ' h' (f a h') → R Hs' H' ρ' a) : Post D R Hs H ρ h o := by
  cases o with
  | stuck => exact q
  | exc c ps e => exact q
  | ok a e =>
    intro H' Hs' ρ' t pr sy
    exact k a e H' Hs' ρ' t pr sy (PostS.back t pr (show PostS D En Hs H ρ h (f a e) from q))
theorem PostS.unlk {l : Lk} {o : SO} (sy : Sy D.T Hs H ρ h) (lk : LkOk l h) (q : PostS D En Hs H ρ h (unlkS l o)) : PostS D En Hs H ρ (lockH l h) o := by
  cases o with
  | stuck => exact q
  | nx e h1 =>
    intro σ' H' Hs' ρ' t pr s1 er
    obtain ⟨s2, t2⟩ := Sy.unlk sy lk t pr s1
    exact q σ' H' Hs' ρ' t2 pr s2 er
  | bk e h1 =>
    intro σ' H' Hs' ρ' t pr s1 er
    obtain ⟨s2, t2⟩ := Sy.unlk sy lk t pr s1
    exact q σ' H' Hs' ρ' t2 pr s2 er
  | ct e h1 =>
    intro σ' H' Hs' ρ' t pr s1 er
    obtain ⟨s2, t2⟩ := Sy.unlk sy lk t pr s1
    exact q σ' H' Hs' ρ' t2 pr s2 er
  | rt v h1 =>
    intro u H' Hs' ρ' t pr s1 r
    obtain ⟨s2, t2⟩ := Sy.unlk sy lk t pr s1
    exact q u H' Hs' ρ' t2 pr s2 r
  | exc c ps h1 =>
    intro H' Hs' ρ' C d t pr s1 x
    obtain ⟨s2, t2⟩ := Sy.unlk sy lk t pr s1
    exact q H' Hs' ρ' C d t2 pr s2 x
/-! ### blocks, plain statements -/
theorem ss_nil : PSs X [] (semS D .nx) := PSs.imp pss_nil fun En σ H z => by
  obtain ⟨Hs, ρ, h, env, sy, er, p⟩ := z
  exact p σ H Hs ρ Tr.refl Pre.refl sy er
theorem ss_cons {st : Stmt} {rest : List Stmt} {f g : Env → Hm → SO} (hh : PS X st (semS D f)) (hr : PSs X rest (semS D g)) : PSs X (st :: rest) (semS D fun env h => (f env h).bind g) := by
  refine PSs.imp (pss_cons hh hr) fun En σ H z => ?_
  obtain ⟨Hs, ρ, h, env, sy, er, p⟩ := z
  refine ⟨Hs, ρ, h, env, sy, er, ?_⟩
  show PostS D _ Hs H ρ h (f env h)
  dsimp only at p
  cases q : f env h with
  | nx e h1 =>
    rw [q] at p
    intro σ' H' Hs' ρ' t pr sy' er'
    exact ⟨Hs', ρ', h1, e, sy', er', PostS.back t pr p⟩
  | bk e h1 => rw [q] at p; exact p
  | ct e h1 => rw [q] at p; exact p
  | rt d h1 => rw [q] at p; exact p
  | exc c ps h1 => rw [q] at p; exact p
  | stuck => rw [q] at p; exact p
theorem s_pass : PS X (.Pass pos) (semS D .nx) := PS.imp ps_pass fun En σ H z => by
  obtain ⟨Hs, ρ, h, env, sy, er, p⟩ := z
  exact p σ H Hs ρ Tr.refl Pre.refl sy er
theorem s_doc {x : Str} {j : Nat} : PS X (.Expr (.Constant (.str x) j pos) pos') (semS D .nx) := PS.imp ps_doc fun En σ H z => by
  obtain ⟨Hs, ρ, h, env, sy, er, p⟩ := z
  exact p σ H Hs ρ Tr.refl Pre.refl sy er
theorem s_brk : PS X (.Break pos) (semS D .bk) := PS.imp ps_break fun En σ H z => by
  obtain ⟨Hs, ρ, h, env, sy, er, p⟩ := z
  exact p σ H Hs ρ Tr.refl Pre.refl sy er
theorem s_cont : PS X (.Continue pos) (semS D .ct) := PS.imp ps_continue fun En σ H z => by
  obtain ⟨Hs, ρ, h, env, sy, er, p⟩ := z
  exact p σ H Hs ρ Tr.refl Pre.refl sy er
theorem s_ret {f : Env → Hm → R Vl} (hh : PE X e (semE D f)) : PS X (.Return (some e) pos) (semS D fun env h => (f env h).bindS .rt) := by
  refine PS.imp (ps_ret hh) fun En σ H z => ?_
  obtain ⟨Hs, ρ, h, env, sy, er, p⟩ := z
  exact ⟨Hs, ρ, h, env, sy, er, Post.bindS p fun d h1 H1 Hs1 ρ1 t1 p1 sy1 q1 v rv => q1 v H1 Hs1 ρ1 Tr.refl Pre.refl sy1 rv⟩
theorem s_retN : PS X (.Return none pos) (semS D fun _ h => .rt (.fz .non) h) := by
  refine PS.imp ps_retN fun En σ H z => ?_
  obtain ⟨Hs, ρ, h, env, sy, er, p⟩ := z
  exact p .non H Hs ρ Tr.refl Pre.refl sy RepV.non
theorem s_expr {f : Env → Hm → R Vl} (hh : PE X e (semE D f)) (hs : swapsWith e none pos.line X.env = pure false) : PS X (.Expr e pos) (semS D fun env h => (f env h).bindS fun _ h => .nx env h) := by
  refine PS.imp (ps_expr hh (hs := hs)) fun En σ H z => ?_
  obtain ⟨Hs, ρ, h, env, sy, er, p⟩ := z
  exact ⟨Hs, ρ, h, env, sy, er, Post.bindS p fun d h1 H1 Hs1 ρ1 t1 p1 sy1 q v r => q σ H1 Hs1 ρ1 Tr.refl Pre.refl sy1 (er.mono t1.mono p1)⟩
theorem s_if {xs ys : List Stmt} {f : Env → Hm → R Bool} {g u : Env → Hm → SO} (hc : PT X c (semT D f)) (ha : PSs X xs (semS D g)) (hb : PSs X ys (semS D u)) :
    PS X (.If c xs ys pos) (semS D fun env h => (f env h).bindS fun t h => if t = true then g env h else u env h) := by
  refine PS.imp (ps_if hc ha hb) fun En σ H z => ?_
  obtain ⟨Hs, ρ, h, env, sy, er, p⟩ := z
  refine ⟨Hs, ρ, h, env, sy, er, Post.bindS p fun k h1 H1 Hs1 ρ1 t1 p1 sy1 q => ?_⟩
  cases k with
  | true => exact iteT ⟨Hs1, ρ1, h1, env, sy1, er.mono t1.mono p1, q⟩
  | false => exact iteF ⟨Hs1, ρ1, h1, env, sy1, er.mono t1.mono p1, q⟩
theorem EnvR.set {i : Nat} {u : V} {v : Vl} (er : EnvR T Hs ρ σ env) (hi : i < env.length) (r : VlR T Hs ρ u v) : EnvR T Hs ρ (σ.set i (some u)) (env.set i (some v)) := by
  refine ⟨by rw [List.length_set, List.length_set]; exact er.1, fun j w e => ?_⟩
  by_cases hj : j = i
  · subst hj
    rw [List.getElem?_set_self hi] at e
    cases e
    exact ⟨u, List.getElem?_set_self (by rw [← er.1]; exact hi), r⟩
  · rw [List.getElem?_set_ne (Ne.symm hj)] at e
    obtain ⟨u', h1, h2⟩ := er.2 j w e
    exact ⟨u', by rw [List.getElem?_set_ne (Ne.symm hj)]; exact h1, h2⟩
theorem s_set {x : Str} {i : Nat} {f : Env → Hm → R Vl} (hh : PS X (.Assign [.Name x pos'] e pos) (tAsg (semE D f) (gName i))) :
    PS X (.Assign [.Name x pos'] e pos) (semS D fun env h => (f env h).bindS fun v h => setE i v env h) := by
  refine PS.imp hh fun En σ H z => ?_
  obtain ⟨Hs, ρ, h, env, sy, er, p⟩ := z
  refine ⟨Hs, ρ, h, env, sy, er, Post.bindS p fun v h1 H1 Hs1 ρ1 t1 p1 sy1 q u ru => ?_⟩
  unfold setE at q
  by_cases hi : i < env.length
  · rw [if_pos hi] at q
    exact q _ H1 Hs1 ρ1 Tr.refl Pre.refl sy1 ((er.mono t1.mono p1).set hi ru)
  · rw [if_neg hi] at q; exact q.elim
/-! ### several names at once -/
theorem setL_ok : ∀ {is : List Nat} {vs : List Vl} {us : List V} {env e : Env} {σ : L2.St}, setL is vs env = some e → VlsR T Hs ρ us vs → EnvR T Hs ρ σ env → EnvR T Hs ρ ((is.zip us).foldl (fun σ p => σ.set p.1 (some p.2)) σ) e
  | [], [], _, env, e, σ, h, .nil, er => by cases h; exact er
  | [], _ :: _, _, _, _, _, h, _, _ => by cases h
  | _ :: _, [], _, _, _, _, h, _, _ => by cases h
  | i :: is, v :: vs, _, env, e, σ, h, .cons r rr, er => by
    simp only [setL] at h
    by_cases hi : i < env.length
    · rw [if_pos hi] at h
      exact setL_ok (is := is) h rr (er.set hi r)
    · rw [if_neg hi] at h; cases h
theorem s_par2 {i j : Nat} {x y : Str} {px py pt : Pos} {kt k2 pt2} {g : Env → Hm → R (List Vl)} (hc : X.calm = true) (hN : X.N.Nodup) (hi : X.N[i]? = some x) (hj : X.N[j]? = some y) (hij : i ≠ j)
    (hx : X.env.scope.names.lookup x = some .local) (hy : X.env.scope.names.lookup y = some .local) (ha : PA X [a, b] (semA D g))
    (hw : swappedStores [.Tuple [.Name x px, .Name y py] kt pt] (.Tuple [a, b] k2 pt2) X.env = pure (some [x, y])) :
    PS X (.Assign [.Tuple [.Name x px, .Name y py] kt pt] (.Tuple [a, b] k2 pt2) pos) (semS D fun env h => (g env h).bindS fun vs h => nxG (setL [i, j] vs env) h) := by
  refine PS.imp (ps_par hc hN hi hj hij hx hy ha hw rfl) fun En σ H z => ?_
  obtain ⟨Hs, ρ, h, env, sy, er, p⟩ := z
  refine ⟨Hs, ρ, h, env, sy, er, Post.bindS p fun vs h1 H1 Hs1 ρ1 t1 p1 sy1 q us ru => ?_⟩
  cases w : setL [i, j] vs env with
  | none => rw [w] at q; exact q.elim
  | some e2 =>
    rw [w] at q
    have er2 := setL_ok w ru (er.mono t1.mono p1)
    have hlen : us.length = 2 := by
      rw [Paired.length ru]
      match vs, w with
      | [], w => cases w
      | [_], w => simp only [setL] at w; split at w <;> cases w
      | [_, _], w => rfl
      | _ :: _ :: _ :: _, w => simp only [setL] at w; split at w <;> first | cases w | (split at w <;> cases w)
    match us, hlen, er2 with
    | [u, w], _, er2 => exact ⟨u, w, rfl, q _ H1 Hs1 ρ1 Tr.refl Pre.refl sy1 er2⟩
theorem s_par3 {i j l : Nat} {x y z : Str} {px py pz pt : Pos} {kt k2 pt2} {g : Env → Hm → R (List Vl)} (hc : X.calm = true) (hN : X.N.Nodup) (hi : X.N[i]? = some x) (hj : X.N[j]? = some y) (hl : X.N[l]? = some z) (hij : i ≠ j) (hil : i ≠ l) (hjl : j ≠ l)
    (hx : X.env.scope.names.lookup x = some .local) (hy : X.env.scope.names.lookup y = some .local) (hz : X.env.scope.names.lookup z = some .local) (ha : PA X [a, b, c] (semA D g))
    (hw : swappedStores [.Tuple [.Name x px, .Name y py, .Name z pz] kt pt] (.Tuple [a, b, c] k2 pt2) X.env = pure (some [x, y, z])) :
    PS X (.Assign [.Tuple [.Name x px, .Name y py, .Name z pz] kt pt] (.Tuple [a, b, c] k2 pt2) pos) (semS D fun env h => (g env h).bindS fun vs h => nxG (setL [i, j, l] vs env) h) := by
  refine PS.imp (ps_par3 hc hN hi hj hl hij hil hjl hx hy hz ha hw rfl) fun En σ H z => ?_
  obtain ⟨Hs, ρ, h, env, sy, er, p⟩ := z
  refine ⟨Hs, ρ, h, env, sy, er, Post.bindS p fun vs h1 H1 Hs1 ρ1 t1 p1 sy1 q us ru => ?_⟩
  cases w : setL [i, j, l] vs env with
  | none => rw [w] at q; exact q.elim
  | some e2 =>
    rw [w] at q
    have er2 := setL_ok w ru (er.mono t1.mono p1)
    have hlen : us.length = 3 := by
      rw [Paired.length ru]
      match vs, w with
      | [], w => cases w
      | [_], w => simp only [setL] at w; split at w <;> cases w
      | [_, _], w => simp only [setL] at w; split at w <;> first | cases w | (split at w <;> cases w)
      | [_, _, _], w => rfl
      | _ :: _ :: _ :: _ :: _, w => simp only [setL] at w; split at w <;> first | cases w | (split at w <;> first | cases w | (split at w <;> cases w))
    match us, hlen, er2 with
    | [u, v, w], _, er2 => exact ⟨u, v, w, rfl, q _ H1 Hs1 ρ1 Tr.refl Pre.refl sy1 er2⟩
/-! ### while -/
theorem s_while {body : List Stmt} {f : Env → Hm → R Bool} {g : Env → Hm → SO} (hp : PassesOwn (model X.prog X.w) X.A X.env X.xe) (n : Nat) (hc : PT X c (semT D f)) (hb : PSs X body (semS D g)) :
    PS X (.While c body [] pos) (semS D fun env h => whileN f g n env h) := by
  refine PS.imp (ps_while hp hc hb) fun En σ H z => ?_
  obtain ⟨Hs, ρ, h, env, sy, er, p⟩ := z
  refine ⟨fun m σ1 H1 => ∃ Hs1 ρ1 h1 env1, TrH Hs H ρ h Hs1 H1 ρ1 h1 ∧ Pre ρ ρ1 ∧ Sy D.T Hs1 H1 ρ1 h1 ∧ EnvR D.T Hs1 ρ1 σ1 env1 ∧ PostS D En Hs1 H1 ρ1 h1 (whileN f g m env1 h1), ⟨n, Hs, ρ, h, env, Tr.refl, Pre.refl, sy, er, p⟩, ?_⟩
  rintro m σ1 H1 ⟨Hs1, ρ1, h1, env1, t1, p1, sy1, er1, q1⟩
  cases m with
  | zero => exact q1.elim
  | succ m =>
    simp only [whileN] at q1
    refine ⟨Hs1, ρ1, h1, env1, sy1, er1, Post.bindS q1 fun b h2 H2 Hs2 ρ2 t2 p2 sy2 q2 => ?_⟩
    have er2 := er1.mono t2.mono p2
    cases b with
    | false =>
      rw [if_neg Bool.false_ne_true] at q2
      exact iteF (q2 σ1 H2 Hs2 ρ2 Tr.refl Pre.refl sy2 er2)
    | true =>
      rw [if_pos rfl] at q2
      refine iteT ⟨fun σ' H' => ∃ Hs3 ρ3 h3 env3, TrH Hs H ρ h Hs3 H' ρ3 h3 ∧ Pre ρ ρ3 ∧ Sy D.T Hs3 H' ρ3 h3 ∧ EnvR D.T Hs3 ρ3 σ' env3 ∧ PostS D En Hs3 H' ρ3 h3 (whileN f g m env3 h3), fun σ' H' q => ⟨m, Nat.lt_succ_self m, q⟩, Hs2, ρ2, h2, env1, sy2, er2, ?_⟩
      cases q : g env1 h2 with
      | nx e h3 =>
        rw [q] at q2
        exact fun σ' H' Hs' ρ' t pr sy' er' => ⟨Hs', ρ', h3, e, (t1.trans t2).trans t, (p1.trans p2).trans pr, sy', er', PostS.back t pr q2⟩
      | ct e h3 =>
        rw [q] at q2
        exact fun σ' H' Hs' ρ' t pr sy' er' => ⟨Hs', ρ', h3, e, (t1.trans t2).trans t, (p1.trans p2).trans pr, sy', er', PostS.back t pr q2⟩
      | bk e h3 =>
        rw [q] at q2
        exact fun σ' H' Hs' ρ' t pr sy' er' => q2 σ' H' Hs' ρ' t pr sy' er'
      | rt d h3 => rw [q] at q2; exact q2
      | exc c ps h3 => rw [q] at q2; exact q2
      | stuck => rw [q] at q2; exact q2
/-! ### what is stored in an object -/
def rSetV : TSet := fun o i v H Q => rSetL o i v H Q ∨ ∃ a H', o = .ref a ∧ DPut H a i v H' ∧ Q H'
theorem set_any (hu : X.A.units + 1 < cLine) : PSet X rSetV := by
  intro pins s σ H o i v ov iv u Q I ro ri rv h
  rcases h with h | ⟨a, H', rfl, g, q⟩
  · exact set_list pins s σ H o i v ov iv u Q I ro ri rv h
  · cases ro
    exact d_setItem hu I g ri rv fun s' I' => ⟨H', I', q⟩
theorem kv_any {k : Key} {e : PV} (ke : KeyR k e) : ∀ {v : List (Key × V)} {d : List (PV × Vl)}, Paired (KvR T Hs ρ) v d → (v.any fun kv => decide (kv.1 = k)) = d.any fun kv => eqvP kv.1 e
  | _, _, .nil => rfl
  | _, _, .cons r rr => by rw [List.any_cons, List.any_cons, kv_any ke rr, key_eq r.1 ke]
theorem kv_put1 {k : Key} {e : PV} {x : V} {y : Vl} (ke : KeyR k e) (rx : VlR T Hs ρ x y) : ∀ {v : List (Key × V)} {d : List (PV × Vl)}, Paired (KvR T Hs ρ) v d → Paired (KvR T Hs ρ) (v.map fun kv => if kv.1 = k then (kv.1, x) else kv) (d.map fun kv => if eqvP kv.1 e = true then (kv.1, y) else kv)
  | _, _, .nil => .nil
  | _, _, .cons (a := (q, x')) (b := (e', y')) r rr => by
    rw [List.map_cons, List.map_cons]
    by_cases z : q = k
    · rw [if_pos z, if_pos (by rw [key_eq r.1 ke]; exact decide_eq_true z)]
      exact .cons ⟨r.1, rx⟩ (kv_put1 ke rx rr)
    · rw [if_neg z, if_neg (by rw [key_eq r.1 ke, decide_eq_false z]; exact Bool.false_ne_true)]
      exact .cons r (kv_put1 ke rx rr)
theorem kv_put {k : Key} {e : PV} {x : V} {y : Vl} (ke : KeyR k e) (rx : VlR T Hs ρ x y) {v : List (Key × V)} {d : List (PV × Vl)} (r : Paired (KvR T Hs ρ) v d) : Paired (KvR T Hs ρ) (putK v k x) (putD d e y) := by
  unfold putK putD
  rw [kv_any ke r]
  by_cases z : (d.any fun kv => eqvP kv.1 e) = true
  · rw [if_pos z, if_pos z]; exact kv_put1 ke rx r
  · rw [if_neg z, if_neg z]; exact Paired.append r (.cons ⟨ke, rx⟩ .nil)
theorem putD_len (d : List (PV × Vl)) (e : PV) (x : Vl) : (putD d e x).length ≤ d.length + 1 := by
  unfold putD
  split <;> simp
theorem setI_ok {x i v : V} {dx di dv : Vl} {Q : Hp → Prop} (sy : Sy D.T Hs H ρ h) (rx : VlR D.T Hs ρ x dx) (ri : VlR D.T Hs ρ i di) (rv : VlR D.T Hs ρ v dv) (q : Post D (fun Hs' H' ρ' _ => Q H') Hs H ρ h (setI dx di dv h)) : rSetV x i v H Q := by
  unfold setI at q
  cases dx with
  | fz d => exact q.elim
  | rf n =>
    obtain ⟨a, ha, rfl⟩ := rx
    dsimp only at q
    cases e : h[n]? with
    | none => rw [e] at q; exact q.elim
    | some oo =>
      rw [e] at q
      cases oo with
      | none => exact q.elim
      | some o =>
        obtain ⟨_, mr⟩ := sy.ob n o a e ha
        cases di with
        | rf m => cases o <;> exact q.elim
        | fz di =>
          replace ri : RepV D.T Hs i di := ri
          cases o with
          | lst xs =>
            obtain ⟨vs, g1, g2, g3⟩ := mr
            cases ri with
            | int i =>
              dsimp only at q
              cases w : ixP xs.length i with
              | none => rw [w] at q; exact q.elim
              | some k =>
                rw [w] at q
                obtain ⟨s2, t2⟩ := sy.write (u := .lst (vs.set k v)) (o' := .lst (xs.set k dv)) e ha ⟨_, upd_same, by rw [List.length_set]; exact g2, Paired.set rv k g3⟩
                exact .inl ⟨a, vs, i, k, rfl, rfl, g1, by rw [Paired.length g3]; exact w, q _ Hs ρ t2 Pre.refl s2⟩
            | _ => exact q.elim
          | dct kvs =>
            obtain ⟨ks, g1, g2, g3⟩ := mr
            dsimp only at q
            by_cases hl : isKey di = true ∧ kvs.length < LIM
            · rw [if_pos hl] at q
              obtain ⟨qk, kq, rfl⟩ := keyR_of ri hl.1
              have hl2 := hl.2
              rw [lim_eq] at hl2
              have := putD_len kvs di dv
              obtain ⟨s2, t2⟩ := sy.write (u := .dK (putK ks qk v)) (o' := .dct (putD kvs di dv)) e ha ⟨_, upd_same, by omega, kv_put kq rv g3⟩
              exact .inr ⟨a, _, rfl, .inl ⟨ks, qk, g1, rfl, by rw [Paired.length g3]; exact hl2, rfl⟩, q _ Hs ρ t2 Pre.refl s2⟩
            · rw [if_neg hl] at q; exact q.elim
          | ins c fs => cases di <;> exact q.elim
theorem s_setI (hu : X.A.units + 1 < cLine) {value ix : Expr} {f g u : Env → Hm → R Vl} (hv : PE X value (semE D f)) (ho : PE X o (semE D g)) (hi : PE X ix (semE D u))
    (hsw : swapsWithSole [.Subscript o ix pos'] value pos.line X.env = pure false) (hnl : ∀ v, assign (.Subscript o ix pos') X.env v = (do
      let ov ← holding [v] (eval o X.env)
      let iv ← holding [v, ov] (eval ix X.env)
      standAt pos'
      holding [v, ov, iv] (setItem ov iv v)
      release [v, ov, iv] [])) (h1 : (assignEach [.Subscript o ix pos'] X.env).map (·.2) = [assign (.Subscript o ix pos') X.env]) (hw : swappedStores [.Subscript o ix pos'] value X.env = pure none) :
    PS X (.Assign [.Subscript o ix pos'] value pos) (semS D fun env h => (f env h).bindS fun y h => (g env h).bindS fun x h => (u env h).bindS fun i h => (setI x i y h).bindS fun _ h => .nx env h) := by
  refine PS.imp (ps_asg hv (pg_sub ho hi (set_any hu) hnl) hsw hw h1) fun En σ H z => ?_
  obtain ⟨Hs, ρ, h, env, sy, er, p⟩ := z
  refine ⟨Hs, ρ, h, env, sy, er, Post.bindS p fun y h1 H1 Hs1 ρ1 t1 p1 sy1 q1 v rv => ?_⟩
  have er1 := er.mono t1.mono p1
  refine ⟨Hs1, ρ1, h1, env, sy1, er1, Post.bindS q1 fun x h2 H2 Hs2 ρ2 t2 p2 sy2 q2 w rw' => ?_⟩
  have er2 := er1.mono t2.mono p2
  refine ⟨Hs2, ρ2, h2, env, sy2, er2, Post.bindS q2 fun i h3 H3 Hs3 ρ3 t3 p3 sy3 q3 z rz => ?_⟩
  refine setI_ok sy3 (rw'.mono t3.mono p3) rz ((rv.mono t2.mono p2).mono t3.mono p3) ?_
  exact Post.bindS q3 fun _ h4 H4 Hs4 ρ4 t4 p4 sy4 q4 => q4 σ H4 Hs4 ρ4 Tr.refl Pre.refl sy4 ((er2.mono t3.mono p3).mono t4.mono p4)
theorem fd_put {f : Nat} {v : V} {d : Vl} (rv : VlR T Hs ρ v d) : ∀ {gs : List (Str × V)} {fs : List (Nat × Vl)}, Paired (FdR T Hs ρ) gs fs → Paired (FdR T Hs ρ) (putF (nmS f) v gs) (putP f d fs)
  | _, _, .nil => .cons ⟨rfl, rv⟩ .nil
  | _, _, .cons (a := (g, x)) (b := (f0, y)) (l₁ := gs) (l₂ := fs) r rr => by
    obtain ⟨r1, r2⟩ := r
    dsimp only at r1
    subst r1
    by_cases hf : f0 = f
    · subst hf
      have e1 : putF (nmS f0) v ((nmS f0, x) :: gs) = (nmS f0, v) :: gs := by simp [putF]
      have e2 : putP f0 d ((f0, y) :: fs) = (f0, d) :: fs := by simp [putP]
      rw [e1, e2]
      exact .cons ⟨rfl, rv⟩ rr
    · have e1 : putF (nmS f) v ((nmS f0, x) :: gs) = (nmS f0, x) :: putF (nmS f) v gs := by
        simp only [putF]; rw [if_neg fun z => hf (nmS_inj z)]
      have e2 : putP f d ((f0, y) :: fs) = (f0, y) :: putP f d fs := by
        simp only [putP]; rw [if_neg hf]
      rw [e1, e2]
      exact .cons ⟨rfl, r2⟩ (fd_put rv rr)
theorem putP_mem {α : Type} {f g : Nat} {d : α} : ∀ {fs : List (Nat × α)}, g ∈ (putP f d fs).map (·.1) → g = f ∨ g ∈ fs.map (·.1)
  | [], h => by simp [putP] at h; exact .inl h
  | (f0, y) :: fs, h => by
    simp only [putP] at h
    split at h
    · rename_i e
      simp at h
      rcases h with h | h
      · exact .inl h
      · exact .inr (by simp; exact .inr h)
    · simp at h
      rcases h with h | h
      · exact .inr (by simp [h])
      · obtain ⟨x, hx⟩ := h
        rcases putP_mem (fs := fs) (g := g) (by simp; exact ⟨x, hx⟩) with h | h
        · exact .inl h
        · exact .inr (by simp at h ⊢; exact .inr h)
theorem putP_nodup {α : Type} {f : Nat} {d : α} : ∀ {fs : List (Nat × α)}, (fs.map (·.1)).Nodup → ((putP f d fs).map (·.1)).Nodup
  | [], _ => by simp [putP]
  | (f0, y) :: fs, h => by
    rw [List.map_cons, List.nodup_cons] at h
    simp only [putP]
    split
    · rename_i e
      rw [List.map_cons, List.nodup_cons]
      dsimp only at e ⊢
      rw [← e]; exact h
    · rename_i e
      rw [List.map_cons, List.nodup_cons]
      refine ⟨fun z => ?_, putP_nodup h.2⟩
      rcases putP_mem z with z | z
      · exact e z
      · exact h.1 z
theorem s_fld (ok : TbOk D.T) (hK : D.T.K = X.K) {f : Nat} {value : Expr} {u g : Env → Hm → R Vl} (hv : PE X value (semE D u)) (ho : PE X o (semE D g)) (hs : swapsWith value (some (.Attribute o (nmS f) pos')) pos.line X.env = pure false) :
    PS X (.Assign [.Attribute o (nmS f) pos'] value pos) (semS D fun env h => (u env h).bindS fun y h => (g env h).bindS fun x h => (fldH D.T.isF f x y h).bindS fun _ h => .nx env h) := by
  refine PS.imp (ps_fld ho hv hs) fun En σ H z => ?_
  obtain ⟨Hs, ρ, h, env, sy, er, p⟩ := z
  refine ⟨Hs, ρ, h, env, sy, er, Post.bindS p fun y h1 H1 Hs1 ρ1 t1 p1 sy1 q1 v rv => ?_⟩
  have er1 := er.mono t1.mono p1
  refine ⟨Hs1, ρ1, h1, env, sy1, er1, Post.bindS q1 fun x h2 H2 Hs2 ρ2 t2 p2 sy2 q2 w rw' => ?_⟩
  have er2 := er1.mono t2.mono p2
  unfold fldH at q2
  cases x with
  | fz d => exact q2.elim
  | rf n =>
    obtain ⟨a, ha, rfl⟩ := rw'
    dsimp only at q2
    cases e : h2[n]? with
    | none => rw [e] at q2; exact q2.elim
    | some oo =>
      rw [e] at q2
      cases oo with
      | none => exact q2.elim
      | some oo =>
        obtain ⟨_, mr⟩ := sy2.ob n oo a e ha
        cases oo with
        | lst xs => exact q2.elim
        | dct kvs => exact q2.elim
        | ins c fs =>
          obtain ⟨C, dx, gs, g1, g2, g3, g4⟩ := mr
          dsimp only at q2
          by_cases hif : D.T.isF c f = true ∧ fs.length < 1000
          · rw [if_pos hif] at q2
            have rv2 := rv.mono t2.mono p2
            obtain ⟨s3, t3⟩ := sy2.write (u := .ins C dx (putF (nmS f) v gs)) (o' := .ins c (putP f y fs)) e ha ⟨C, dx, _, upd_same, g2, putP_nodup g3, fd_put rv2 g4⟩
            exact ⟨a, C, dx, gs, rfl, g1, by rw [← hK]; exact ok.cl _ _ g2, by rw [← hK]; exact ok.fl _ _ _ g2 hif.1, by rw [Paired.length g4]; exact hif.2, q2 σ _ Hs2 ρ2 t3 Pre.refl s3 er2⟩
          · rw [if_neg hif] at q2; exact q2.elim
/-! ### targets -/
def semG (D : Wd) (ts : List Nat) (g : Vl → Env → Hm → Option Env) : TG := fun v σ H Q => ∃ Hs ρ h env d, Sy D.T Hs H ρ h ∧ EnvR D.T Hs ρ σ env ∧ VlR D.T Hs ρ v d ∧ ∃ e, g d env h = some e ∧
  ∀ σ', EnvR D.T Hs ρ σ' e → σ'.length = σ.length → (∀ i, i ∉ ts → σ'[i]? = σ[i]?) → Q σ' H
def semGs (D : Wd) (ts : List Nat) (g : List Vl → Env → Hm → Option Env) : TGs := fun vs σ H Q => ∃ Hs ρ h env ds, Sy D.T Hs H ρ h ∧ EnvR D.T Hs ρ σ env ∧ VlsR D.T Hs ρ vs ds ∧ ∃ e, g ds env h = some e ∧
  ∀ σ', EnvR D.T Hs ρ σ' e → σ'.length = σ.length → (∀ i, i ∉ ts → σ'[i]? = σ[i]?) → Q σ' H
theorem g_name {i : Nat} {x : Str} (hN : X.N.Nodup) (hi : X.N[i]? = some x) (hx : Loc X.env.scope x) (hf : X.fn x = true ∨ X.env.scope.names.lookup x = some .local) : PG X (.Name x pos) (semG D [i] (tgN i)) := by
  refine ⟨fun pins s σ H v u Q I r z => (pg_name hN hi hx hf).run pins s σ H v u Q I r ?_⟩
  obtain ⟨Hs, ρ, h, env, d, sy, er, rv, e, he, k⟩ := z
  unfold tgN at he
  by_cases hl : i < env.length
  · rw [if_pos hl] at he
    cases he
    exact k _ (er.set hl rv) (List.length_set ..) fun j hj => List.getElem?_set_ne fun z => hj (by rw [← z]; simp)
  · rw [if_neg hl] at he; cases he
theorem gs_nil : PGs X [] (semGs D [] gsNil) := by
  refine ⟨fun pins s σ H vs us Q I r z => pgs_nil.run pins s σ H vs us Q I r ?_⟩
  obtain ⟨Hs, ρ, h, env, ds, sy, er, rv, e, he, k⟩ := z
  cases rv with
  | nil => cases he; exact ⟨rfl, k σ er rfl fun _ _ => rfl⟩
  | cons _ _ => cases he
theorem gs_cons {ts us : List Nat} {g : Vl → Env → Hm → Option Env} {u : List Vl → Env → Hm → Option Env} (h1 : PG X e (semG D ts g)) (h2 : PGs X es (semGs D us u)) (hs : (assignEach (e :: es) X.env).map (·.2) = assign e X.env :: (assignEach es X.env).map (·.2)) : PGs X (e :: es) (semGs D (ts ++ us) (gsCons g u)) := by
  refine ⟨fun pins s σ H vs us' Q I r z => (pgs_cons h1 h2 hs).run pins s σ H vs us' Q I r ?_⟩
  obtain ⟨Hs, ρ, h, env, ds, sy, er, rv, e, he, k⟩ := z
  cases rv with
  | nil => cases he
  | cons rx rr =>
    rename_i x d xs ds
    simp only [gsCons] at he
    cases w : g d env h with
    | none => rw [w] at he; cases he
    | some e1 =>
      rw [w] at he
      refine ⟨x, xs, rfl, Hs, ρ, h, env, d, sy, er, rx, e1, w, fun σ1 er1 l1 a1 => ?_⟩
      refine ⟨Hs, ρ, h, e1, ds, sy, er1, rr, e, he, fun σ2 er2 l2 a2 => ?_⟩
      exact k σ2 er2 (l2.trans l1) fun i hi => (a2 i fun z => hi (List.mem_append_right _ z)).trans (a1 i fun z => hi (List.mem_append_left _ z))
theorem pg_or {t t' : TG} (h : PG X e t) (h' : PG X e t') : PG X e (fun v σ H Q => t v σ H Q ∨ t' v σ H Q) := ⟨fun pins s σ H v u Q I r z => by
  rcases z with z | z
  · exact h.run pins s σ H v u Q I r z
  · exact h'.run pins s σ H v u Q I r z⟩
theorem g_seq (hc : X.calm = true) {ts : List Nat} {n kk : Nat} {g : List Vl → Env → Hm → Option Env} (hh : PGs X es (semGs D ts g)) (hn : (assignEach es X.env).length = n) (hst : (assignEach es X.env).findIdx? (·.1) = none) : PG X (.Tuple es kk pos) (semG D ts (gSeq n g)) := by
  refine ⟨fun pins s σ H v u Q I r z => (pg_or (pg_tup (k := kk) hc hh hn hst) (pg_unl (k := kk) hc hh hn hst)).run pins s σ H v u Q I r ?_⟩
  obtain ⟨Hs, ρ, h, env, d, sy, er, rv, e, he, k⟩ := z
  cases d with
  | fz d =>
    replace rv : RepV D.T Hs v d := rv
    cases rv with
    | @tup a xs ds ha hz hr =>
      simp only [gSeq] at he
      by_cases hl : ds.length = n
      · rw [if_pos hl] at he
        exact .inl ⟨a, xs, rfl, SqT.of (sy.sub _ _ ha), by rw [hr.length]; exact hl, Hs, ρ, h, env, _, sy, er, vls_fz hr, e, he, k⟩
      · rw [if_neg hl] at he; cases he
    | @lst a xs ds ha hz hr =>
      simp only [gSeq] at he
      by_cases hl : ds.length = n
      · rw [if_pos hl] at he
        exact .inr ⟨a, xs, rfl, SqL.of (sy.sub _ _ ha), by rw [hr.length]; exact hl, Hs, ρ, h, env, _, sy, er, vls_fz hr, e, he, k⟩
      · rw [if_neg hl] at he; cases he
    | _ => cases he
  | rf m =>
    obtain ⟨a, ha, rfl⟩ := rv
    simp only [gSeq] at he
    cases w : h[m]? with
    | none => rw [w] at he; cases he
    | some oo =>
      rw [w] at he
      cases oo with
      | none => cases he
      | some oo =>
        obtain ⟨_, mr⟩ := sy.ob m oo a w ha
        cases oo with
        | lst xs =>
          obtain ⟨vs, g1, g2, g3⟩ := mr
          dsimp only at he
          by_cases hl : xs.length = n
          · rw [if_pos hl] at he
            exact .inr ⟨a, vs, rfl, SqL.of g1, by rw [Paired.length g3]; exact hl, Hs, ρ, h, env, _, sy, er, g3, e, he, k⟩
          · rw [if_neg hl] at he; cases he
        | dct kvs => cases he
        | ins c fs => cases he
/-! ### what is walked -/
def ItV (X : Cx) (tg : Expr) (x : V) (H : Hp) (R : It → Hp → Prop) : Prop := ∀ (pins : List (Addr × Obj)) (s : Shared) (σ : L2.St) (v : Value), Inv X pins σ H s → RelV x v → wpAny (model X.prog X.w) X.A (pyIter v) (PIE X pins σ tg R) X.xe s
theorem pi_val {te : TE} (he : PE X e te) : PI X tg e (fun σ H R => te σ H fun x H1 => ItV X tg x H1 R) := ⟨fun pins s σ H R I h => thn (he.run pins s σ H _ I h) fun v s1 ⟨x, H1, I1, r1, q1⟩ => q1 pins s1 σ v I1 r1⟩
theorem it_list {a : Addr} {xs : List V} {R : It → Hp → Prop} (hq : SqL X.K H a xs) (q : R (Itl X.K a) H) : ItV X tg (.ref a) H R := by
  intro pins s1 σ v I1 r1
  cases r1
  obtain ⟨its, rv, p, hz⟩ := I1.list hq
  refine wpAny_pyIter_list p.isList ?_
  refine ⟨s1.heap.objs.size, [s1.heap.objs.size], _, _, H, rfl, I1.kept (t' := s1.toks) fun b o e => Heap.get?_push_of_some _ e, turn_list a _, ⟨_, Heap.get?_push_size _ rfl, rfl, rfl⟩, fun b hb => ?_, q⟩
  have e : b = s1.heap.objs.size := by simpa using hb
  subst e
  exact I1.fpOk (Nat.le_refl _) (I1.hok.fresh (Nat.le_refl _))
theorem it_tup {a : Addr} {xs : List V} {R : It → Hp → Prop} (hq : SqT X.K H a xs) (q : R (Itt X.K a) H) : ItV X tg (.ref a) H R := by
  intro pins s1 σ v I1 r1
  cases r1
  obtain ⟨its, rv, p, hz⟩ := I1.tuple hq
  refine wpAny_pyIter_tuple (show s1.heap.IsTuple a its.toArray from p) ?_
  refine ⟨s1.heap.objs.size, [s1.heap.objs.size], _, _, H, rfl, I1.kept (t' := s1.toks) fun b o e => Heap.get?_push_of_some _ e, turn_tuple a _, ⟨_, Heap.get?_push_size _ rfl, rfl, rfl⟩, fun b hb => ?_, q⟩
  have e : b = s1.heap.objs.size := by simpa using hb
  subst e
  exact I1.fpOk (Nat.le_refl _) (I1.hok.fresh (Nat.le_refl _))
theorem it_str {x : Str} {R : It → Hp → Prop} (q : R (Its x) H) : ItV X tg (.str x) H R := by
  intro pins s1 σ v I1 r1
  obtain ⟨t, rfl⟩ := r1
  cases ha : x.cps.all (· < 128)
  · exact wpAny_pyIter_wide ha (pi_one (tk := s1.toks) I1 _ (turn_str _ x t "str_iterator" (.inr rfl)) ⟨_, Heap.get?_push_size _ rfl, rfl, rfl⟩ q)
  · exact wpAny_pyIter_ascii ha (pi_one (tk := s1.toks) I1 _ (turn_str _ x t "str_ascii_iterator" (.inl rfl)) ⟨_, Heap.get?_push_size _ rfl, rfl, rfl⟩ q)
/-- what is walked gives the things ds, while what is nobody's stands -/
def WalkV (T : Tb) (Hs H : Hp) (O : Addr → Prop) (ρ : List Addr) (ds : List Vl) (J : It) : Prop := ∃ (G : Hp → Prop) (Y : Nat → Hp → V → Hp → Prop), ds.length ≤ sizeLine ∧ Walk J ds.length G Y ∧ (∀ Hs2 H2 O2, Tr Hs H O Hs2 H2 O2 → Same Hs2 H2 → G H2) ∧
  ∀ i Hs2 H2 O2 x H', i < ds.length → Tr Hs H O Hs2 H2 O2 → Same Hs2 H2 → Y i H2 x H' → ∃ Hs' d, Grow Hs2 H2 Hs' H' ∧ ds[i]? = some d ∧ VlR T Hs' ρ x d
section
variable {O : Addr → Prop} {K : PySem.W.Frag} {a b : Addr} {xs ys : List V} {ds es : List PV}
theorem walkv_at {J : It} {G : Hp → Prop} {vs : List Vl} (w : Walk J xs.length G (YAt xs)) (hS : ∀ Hs2 H2 O2, Tr Hs H O Hs2 H2 O2 → Same Hs2 H2 → G H2) (hz : vs.length ≤ sizeLine) (hr : VlsR T Hs ρ xs vs) : WalkV T Hs H O ρ vs J := by
  refine ⟨G, YAt xs, hz, by rw [← Paired.length hr]; exact w, hS, fun i Hs2 H2 O2 x H' hi t s y => ?_⟩
  obtain ⟨rfl, y⟩ := y
  obtain ⟨d, g1, g2⟩ := Paired.getL hr y
  exact ⟨Hs2, d, .refl, g1, g2.mono t.mono Pre.refl⟩
theorem walkv_str {s : Txt} (hh : s.length ≤ sizeLine ∧ ∀ c ∈ s, c < 1114112) : WalkV T Hs H O ρ ((s.map fun c => PV.str [c]).map Vl.fz) (Its (tx s)) := by
  refine ⟨fun _ => True, fun i H v H' => H' = H ∧ ∃ c, (tx s).cps[i]? = some c ∧ v = .str ⟨#[c]⟩, by rw [List.length_map, List.length_map]; exact hh.1, ?_, fun _ _ _ _ _ => trivial, fun i Hs2 H2 O2 x H' hi t sm y => ?_⟩
  · have e : ((s.map fun c => PV.str [c]).map Vl.fz).length = (tx s).cps.size := by simp [tx]
    rw [e]
    exact walk_str
  · obtain ⟨rfl, c, hc, rfl⟩ := y
    have hc2 : s[i]? = some c := by simpa [tx] using hc
    exact ⟨Hs2, .fz (.str [c]), .refl, by rw [List.getElem?_map, List.getElem?_map, hc2]; rfl, RepV.str [c] ⟨by simp [sizeLine_eq], fun z hz => by simp at hz; subst hz; exact hh.2 z (List.mem_of_getElem? hc2)⟩⟩
theorem walkv_range {lo : Int} {n : Nat} (hz : n ≤ sizeLine) : WalkV T Hs H O ρ (((List.range n).map fun (i : Nat) => PV.int (lo + (i : Int))).map Vl.fz) (Itr lo n) := by
  refine ⟨fun _ => True, YFn fun i => .int (lo + i), by simpa using hz, by simpa using walk_range, fun _ _ _ _ _ => trivial, fun i Hs2 H2 O2 x H' hi t sm y => ?_⟩
  obtain ⟨rfl, rfl⟩ := y
  have hi2 : i < n := by simpa using hi
  exact ⟨Hs2, .fz (.int (lo + i)), .refl, by simp [hi2], RepV.int _⟩
theorem walkv_pair {xs ys : Nat → Option V} {J : It} {G : Hp → Prop} {ds : List PV} (hz : ds.length ≤ sizeLine) (w : Walk J ds.length G (YPair xs ys)) (hG : ∀ Hs2 H2 O2, Tr Hs H O Hs2 H2 O2 → Same Hs2 H2 → G H2)
    (hh : ∀ i x y, i < ds.length → xs i = some x → ys i = some y → ∃ d e, ds[i]? = some (.tup [d, e]) ∧ RepV T Hs x d ∧ RepV T Hs y e) : WalkV T Hs H O ρ (ds.map Vl.fz) J := by
  refine ⟨G, _, by rw [List.length_map]; exact hz, by rw [List.length_map]; exact w, hG, fun i Hs2 H2 O2 v H' hi t sm y => ?_⟩
  rw [List.length_map] at hi
  obtain ⟨T', x, y', rfl, hT, rfl, hx, hy⟩ := y
  obtain ⟨d, e, h1, h2, h3⟩ := hh i x y' hi hx hy
  have hs2 : Hs2 T' = none := sm.free hT
  have sb : Same Hs2 (upd Hs2 T' (.tup [x, y'])) := fun a u q => by rw [upd_ne (ne_of_none q hs2)]; exact q
  exact ⟨_, .fz (.tup [d, e]), .one hT, by rw [List.getElem?_map, h1]; rfl, RepV.tup upd_same (by simp [sizeLine_eq]) (.cons ((h2.mono t.mono).mono sb) (.cons ((h3.mono t.mono).mono sb) .nil))⟩
end
/-- the outcome with its heap beside -/
def tagH {α : Type} : R α → R (α × Hm)
  | .ok a h => .ok (a, h) h
  | .exc c p h => .exc c p h
  | .stuck => .stuck
theorem tag_bind {α β : Type} {o : R α} {f : α → Hm → R β} : tagH (o.bind f) = o.bind fun a h => tagH (f a h) := by cases o <;> rfl
def semI (D : Wd) (f : Src) : TI := fun σ H Q => ∃ Hs ρ h env, Sy D.T Hs H ρ h ∧ EnvR D.T Hs ρ σ env ∧
  Post D (fun Hs' H' ρ' r => ∀ J, WalkV D.T Hs' H' (Im ρ' (lockH r.1.2 r.2)) ρ' r.1.1 J → Q J H') Hs H ρ h (tagH (f env h))
def SrcOk (f : Src) : Prop := ∀ env h ds l h', f env h = .ok (ds, l) h' → LkOk l h'
theorem i_val (hK : D.T.K = X.K) {f : Env → Hm → R Vl} (he : PE X e (semE D f)) : PI X tg e (semI D (srcV f)) := by
  refine ⟨fun pins s σ H R I z => (pi_val he).run pins s σ H R I ?_⟩
  obtain ⟨Hs, ρ, h, env, sy, er, p⟩ := z
  unfold srcV at p
  rw [tag_bind] at p
  refine ⟨Hs, ρ, h, env, sy, er, p.bind fun d h1 H1 Hs1 ρ1 t1 p1 sy1 q1 v rv => ?_⟩
  cases d with
  | fz d =>
    dsimp only at q1
    cases w : iterV d with
    | none => rw [w] at q1; exact q1.elim
    | some ds =>
      rw [w] at q1
      have q := q1 H1 Hs1 ρ1 Tr.refl Pre.refl sy1
      replace rv : RepV D.T Hs1 v d := rv
      cases rv with
      | lst ha hz hr => cases w; exact it_list (SqL.of (sy1.sub _ _ ha)) (q _ (walkv_at walk_list (fun Hs2 H2 O2 t s => SqL.of (s _ _ (t.mono _ _ ha))) (by rw [List.length_map]; exact hz) (vls_fz hr)))
      | tup ha hz hr => cases w; exact it_tup (SqT.of (sy1.sub _ _ ha)) (q _ (walkv_at walk_tup (fun Hs2 H2 O2 t s => SqT.of (s _ _ (t.mono _ _ ha))) (by rw [List.length_map]; exact hz) (vls_fz hr)))
      | str x hx => cases w; exact it_str (q _ (walkv_str hx))
      | @scr a ns ha hz =>
        cases w
        exact it_list (by rw [← hK]; exact sy1.sub.seq ha) (q _ (walkv_at walk_list (fun Hs2 H2 O2 t s => by rw [← hK]; exact s.seq (t.mono.seq ha)) (by rw [List.length_map, List.length_map]; exact hz) (vls_fz (RepVs.ints ns))))
      | _ => cases w
  | rf n =>
    obtain ⟨a, ha, rfl⟩ := rv
    dsimp only at q1
    cases w : h1[n]? with
    | none => rw [w] at q1; exact q1.elim
    | some oo =>
      rw [w] at q1
      cases oo with
      | none => exact q1.elim
      | some oo =>
        obtain ⟨hsa, mr⟩ := sy1.ob n oo a w ha
        cases oo with
        | lst xs =>
          obtain ⟨vs, g1, g2, g3⟩ := mr
          have q := q1 H1 Hs1 ρ1 Tr.refl Pre.refl sy1
          have no := sy1.nokill w ha
          exact it_list (SqL.of g1) (q _ (walkv_at walk_list (fun Hs2 H2 O2 t s => SqL.of (t.keep a _ g1 hsa no)) g2 g3))
        | dct kvs => exact q1.elim
        | ins c fs => exact q1.elim
theorem src_val {f : Env → Hm → R Vl} : SrcOk (srcV f) := by
  intro env h ds l h' e
  unfold srcV at e
  cases w : f env h with
  | stuck => rw [w] at e; cases e
  | exc c ps h1 => rw [w] at e; cases e
  | ok v h1 =>
    rw [w] at e
    cases v with
    | fz d =>
      simp only [R.bind] at e
      cases w2 : iterV d with
      | none => rw [w2] at e; cases e
      | some ds => rw [w2] at e; cases e; trivial
    | rf n =>
      simp only [R.bind] at e
      cases w2 : h1[n]? with
      | none => rw [w2] at e; cases e
      | some oo =>
        rw [w2] at e
        cases oo with
        | none => cases e
        | some oo =>
          cases oo with
          | lst xs => cases e; exact ⟨w2, trivial⟩
          | dct kvs => cases e
          | ins c fs => cases e
theorem i_range {f : Env → Hm → R Vl} (hg : Gl X "range") (hm : X.mg "range" = none) (ha : PE X a (semE D f)) (hs : argX a = true) : PI X tg (.Call (.Name "range" p) [a] [] pos) (semI D (srcR f)) := by
  have hst : starEach [a] X.env = [(false, eval a X.env)] := star_of hs
  refine ⟨fun pins s σ H R I z => (pi_range1 hg hm (pa_cons ha pa_nil hst) hst).run pins s σ H R I ?_⟩
  obtain ⟨Hs, ρ, h, env, sy, er, p⟩ := z
  unfold srcR at p
  rw [tag_bind] at p
  refine ⟨Hs, ρ, h, env, sy, er, p.bind fun d h1 H1 Hs1 ρ1 t1 p1 sy1 q1 v rv => ?_⟩
  cases d with
  | rf n => exact q1.elim
  | fz d =>
    dsimp only at q1
    cases w : rngN d with
    | none => rw [w] at q1; exact q1.elim
    | some ds =>
      rw [w] at q1
      have q := q1 H1 Hs1 ρ1 Tr.refl Pre.refl sy1
      replace rv : RepV D.T Hs1 v d := rv
      cases rv with
      | int j =>
        simp only [rngN] at w
        split at w
        · cases w
          rename_i hj
          exact ⟨j, rfl, by omega, by omega, q _ (walkv_range (by rw [sizeLine_eq]; omega))⟩
        · cases w
      | _ => cases w
theorem src_range {f : Env → Hm → R Vl} : SrcOk (srcR f) := by
  intro env h ds l h' e
  unfold srcR at e
  cases w : f env h with
  | stuck => rw [w] at e; cases e
  | exc c ps h1 => rw [w] at e; cases e
  | ok v h1 =>
    rw [w] at e
    cases v with
    | rf n => cases e
    | fz d =>
      simp only [R.bind] at e
      cases w2 : rngN d with
      | none => rw [w2] at e; cases e
      | some ds => rw [w2] at e; cases e; trivial
theorem i_range2 {f g : Env → Hm → R Vl} (hg : Gl X "range") (hm : X.mg "range" = none) (ha : PE X a (semE D f)) (hb : PE X b (semE D g)) (hs : argX a = true) (hs2 : argX b = true) : PI X tg (.Call (.Name "range" p) [a, b] [] pos) (semI D (srcR2 f g)) := by
  have hst2 : starEach [b] X.env = [(false, eval b X.env)] := star_of hs2
  have hst : starEach [a, b] X.env = [(false, eval a X.env), (false, eval b X.env)] := by rw [star_of hs, hst2]
  refine ⟨fun pins s σ H R I z => (pi_range2 hg hm (pa_cons ha (pa_cons hb pa_nil hst2) (star_of hs)) hst hst2).run pins s σ H R I ?_⟩
  obtain ⟨Hs, ρ, h, env, sy, er, p⟩ := z
  unfold srcR2 at p
  rw [tag_bind] at p
  refine ⟨Hs, ρ, h, env, sy, er, p.bind fun c h1 H1 Hs1 ρ1 t1 p1 sy1 q1 v rv => ?_⟩
  rw [tag_bind] at q1
  refine ⟨Hs1, ρ1, h1, env, sy1, er.mono t1.mono p1, q1.bind fun d h2 H2 Hs2 ρ2 t2 p2 sy2 q2 u ru => ?_⟩
  cases c with
  | rf n => exact q2.elim
  | fz c =>
    cases d with
    | rf n => exact q2.elim
    | fz d =>
      dsimp only at q2
      cases w : rngN2 c d with
      | none => rw [w] at q2; exact q2.elim
      | some ds =>
        rw [w] at q2
        have q := q2 H2 Hs2 ρ2 Tr.refl Pre.refl sy2
        replace rv : RepV D.T Hs1 v c := rv
        replace ru : RepV D.T Hs2 u d := ru
        cases rv with
        | int i =>
          cases ru with
          | int j =>
            simp only [rngN2] at w
            split at w
            · cases w
              rename_i hj
              exact ⟨i, j, rfl, ⟨by omega, by omega, by omega, by omega⟩, q _ (walkv_range (by rw [sizeLine_eq]; omega))⟩
            · cases w
          | _ => cases w
        | _ => cases w
theorem src_range2 {f g : Env → Hm → R Vl} : SrcOk (srcR2 f g) := by
  intro env h ds l h' e
  unfold srcR2 at e
  cases w : f env h with
  | stuck => rw [w] at e; cases e
  | exc c ps h1 => rw [w] at e; cases e
  | ok v h1 =>
    rw [w] at e
    simp only [R.bind] at e
    cases w1 : g env h1 with
    | stuck => rw [w1] at e; cases e
    | exc c ps h1 => rw [w1] at e; cases e
    | ok u h2 =>
      rw [w1] at e
      cases v with
      | rf n => cases e
      | fz c =>
        cases u with
        | rf n => cases e
        | fz d =>
          dsimp only at e
          cases w2 : rngN2 c d with
          | none => rw [w2] at e; cases e
          | some ds => rw [w2] at e; cases e; trivial
/-- a list or a tuple whose items stay -/
theorem seqH_ok (sy : Sy T Hs H ρ h) {v : V} {x : Vl} {ds : List PV} {l : Lk} (r : VlR T Hs ρ v x) (e : seqH h x = some (ds, l)) :
    LkOk l h ∧ ∃ t a xs, v = .ref a ∧ RepVs T Hs xs ds ∧ ds.length ≤ sizeLine ∧ ∀ K h1, (h1 = lockH l h ∨ ∃ l2, h1 = lockH l2 (lockH l h)) → ∀ Hs2 H2 O2, Tr Hs H (Im ρ h1) Hs2 H2 O2 → Same Hs2 H2 → SqB K t H2 a xs := by
  cases x with
  | fz d =>
    simp only [seqH] at e
    cases w : seqP d with
    | none => rw [w] at e; cases e
    | some ds' =>
      rw [w] at e
      cases e
      refine ⟨trivial, ?_⟩
      replace r : RepV T Hs v d := r
      cases r with
      | lst ha hz hr => cases w; exact ⟨false, _, _, rfl, hr, hz, fun K h1 _ Hs2 H2 O2 t s => SqL.of (s _ _ (t.mono _ _ ha))⟩
      | tup ha hz hr => cases w; exact ⟨true, _, _, rfl, hr, hz, fun K h1 _ Hs2 H2 O2 t s => SqT.of (s _ _ (t.mono _ _ ha))⟩
      | _ => cases w
  | rf n =>
    obtain ⟨a, ha, rfl⟩ := r
    simp only [seqH] at e
    cases w : h[n]? with
    | none => rw [w] at e; cases e
    | some oo =>
      rw [w] at e
      cases oo with
      | none => cases e
      | some oo =>
        obtain ⟨hsa, mr⟩ := sy.ob n oo a w ha
        cases oo with
        | dct kvs => cases e
        | ins c fs => cases e
        | lst xs =>
          obtain ⟨vs, g1, g2, g3⟩ := mr
          dsimp only at e
          cases w2 : allF xs with
          | none => rw [w2] at e; cases e
          | some ds' =>
            rw [w2] at e
            cases e
            have hr := allF_ok g3 w2
            have no := sy.nokill w ha
            refine ⟨⟨w, trivial⟩, false, a, vs, rfl, hr, by rw [← hr.length, Paired.length g3]; exact g2, fun K h1 hh Hs2 H2 O2 t s => SqL.of (t.keep a _ g1 hsa fun z => ?_)⟩
            rcases hh with rfl | ⟨l2, rfl⟩
            · exact no z
            · exact no (im_lock z)
theorem i_enum {elts : List Expr} {kk : Nat} {f : Env → Hm → R Vl} (hg : Gl X "enumerate") (hm : X.mg "enumerate" = none) (ha : PE X a (semE D f)) (hs : argX a = true) : PI X (.Tuple elts kk p2) (.Call (.Name "enumerate" p) [a] [] pos) (semI D (srcE f)) := by
  have hst : starEach [a] X.env = [(false, eval a X.env)] := star_of hs
  refine ⟨fun pins s σ H R I z => (pi_enumB hg hm (pa_cons ha pa_nil hst) hst).run pins s σ H R I ?_⟩
  obtain ⟨Hs, ρ, h, env, sy, er, p⟩ := z
  unfold srcE at p
  rw [tag_bind] at p
  refine ⟨Hs, ρ, h, env, sy, er, p.bind fun d h1 H1 Hs1 ρ1 t1 p1 sy1 q1 v rv => ?_⟩
  cases w : seqH h1 d with
  | none => rw [w] at q1; exact q1.elim
  | some dl =>
    obtain ⟨ds, l⟩ := dl
    rw [w] at q1
    have q := q1 H1 Hs1 ρ1 Tr.refl Pre.refl sy1
    obtain ⟨_, t, a, xs, rfl, hr, hz, hS⟩ := seqH_ok sy1 rv w
    have hl : (enumP ds).length = xs.length := by rw [hr.length]; simp [enumP]
    refine ⟨t, a, xs, rfl, hS X.K _ (.inl rfl) Hs1 H1 _ Tr.refl sy1.sub, q _ (walkv_pair (by rw [hl, hr.length]; exact hz) (by rw [hl]; exact walk_enumB) (fun Hs2 H2 O2 t s => hS X.K _ (.inl rfl) Hs2 H2 O2 t s) fun i x y hi hx hy => ?_)⟩
    cases hx
    have hi2 : i < ds.length := by rw [← hr.length, ← hl]; exact hi
    obtain ⟨x', g1, g2⟩ := hr.get (List.getElem?_eq_getElem hi2)
    rw [g1] at hy
    cases hy
    exact ⟨.int i, ds[i], by simp [enumP, hi2], .int _, g2⟩
theorem i_zip {elts : List Expr} {kk : Nat} {f g : Env → Hm → R Vl} (hg : Gl X "zip") (hm : X.mg "zip" = none) (ha : PE X a (semE D f)) (hb : PE X b (semE D g)) (hs : argX a = true) (hs2 : argX b = true) : PI X (.Tuple elts kk p2) (.Call (.Name "zip" p) [a, b] [] pos) (semI D (srcZ f g)) := by
  have hst2 : starEach [b] X.env = [(false, eval b X.env)] := star_of hs2
  have hst : starEach [a, b] X.env = (false, eval a X.env) :: starEach [b] X.env := star_of hs
  refine ⟨fun pins s σ H R I z => (pi_zipB hg hm (pa_cons ha (pa_cons hb pa_nil hst2) hst) hst (back_any (by simp [argsX, hs2]))).run pins s σ H R I ?_⟩
  obtain ⟨Hs, ρ, h, env, sy, er, p⟩ := z
  unfold srcZ at p
  rw [tag_bind] at p
  refine ⟨Hs, ρ, h, env, sy, er, p.bind fun c h1 H1 Hs1 ρ1 t1 p1 sy1 q1 v rv => ?_⟩
  rw [tag_bind] at q1
  refine ⟨Hs1, ρ1, h1, env, sy1, er.mono t1.mono p1, q1.bind fun d h2 H2 Hs2 ρ2 t2 p2 sy2 q2 u ru => ?_⟩
  cases w : seqH h2 c with
  | none => rw [w] at q2; exact q2.elim
  | some dl =>
    obtain ⟨ds, l⟩ := dl
    rw [w] at q2
    dsimp only at q2
    cases w2 : seqH (lockH l h2) d with
    | none => rw [w2] at q2; exact q2.elim
    | some dl2 =>
      obtain ⟨es, l2⟩ := dl2
      rw [w2] at q2
      have q := q2 H2 Hs2 ρ2 Tr.refl Pre.refl sy2
      have lapp : ∀ (l : Lk) (h : Hm), lockH (l ++ l2) h = lockH l2 (lockH l h) := by
        intro l
        induction l with
        | nil => intro h; rfl
        | cons x l ih => intro h; obtain ⟨n, o⟩ := x; show lockH (l ++ l2) (h.set n none) = _; rw [ih]; rfl
      obtain ⟨_, t, a, xs, rfl, hr, hz, hS⟩ := seqH_ok sy2 (rv.mono t2.mono p2) w
      obtain ⟨_, t', b, ys, rfl, hr2, hz2, hS2⟩ := seqH_ok (sy2.lock (l := l)) ru w2
      have hl : (zipP ds es).length = min xs.length ys.length := by rw [hr.length, hr2.length]; simp [zipP]
      refine ⟨t, t', a, b, xs, ys, rfl, hS X.K _ (.inl rfl) Hs2 H2 _ Tr.refl sy2.sub, hS2 X.K _ (.inl rfl) Hs2 H2 _ Tr.refl sy2.sub, q _ (walkv_pair (by rw [hl, hr.length]; omega) (G := fun H => SqB X.K t H a xs ∧ SqB X.K t' H b ys) (walk_zipB hl) (fun Hs3 H3 O3 t s => ?_) fun i x y hi hx hy => ?_)⟩
      · dsimp only at t
        rw [lapp] at t
        exact ⟨hS X.K _ (.inr ⟨l2, rfl⟩) Hs3 H3 O3 t s, hS2 X.K _ (.inl rfl) Hs3 H3 O3 t s⟩
      have hi2 : i < ds.length := by rw [← hr.length]; omega
      have hi3 : i < es.length := by rw [← hr2.length]; omega
      obtain ⟨x', g1, g2⟩ := hr.get (List.getElem?_eq_getElem hi2)
      obtain ⟨y', g3, g4⟩ := hr2.get (List.getElem?_eq_getElem hi3)
      rw [g1] at hx
      rw [g3] at hy
      cases hx
      cases hy
      exact ⟨ds[i], es[i], by simp [zipP, List.getElem?_zip_eq_some, hi2, hi3], g2, g4⟩
theorem seqH_lk {x : Vl} {ds : List PV} {l : Lk} (e : seqH h x = some (ds, l)) : LkOk l h := by
  cases x with
  | fz d =>
    simp only [seqH] at e
    cases w : seqP d with
    | none => rw [w] at e; cases e
    | some ds' => rw [w] at e; cases e; trivial
  | rf n =>
    simp only [seqH] at e
    cases w : h[n]? with
    | none => rw [w] at e; cases e
    | some oo =>
      rw [w] at e
      cases oo with
      | none => cases e
      | some oo =>
        cases oo with
        | dct kvs => cases e
        | ins c fs => cases e
        | lst xs =>
          dsimp only at e
          cases w2 : allF xs with
          | none => rw [w2] at e; cases e
          | some ds' => rw [w2] at e; cases e; exact ⟨w, trivial⟩
theorem src_enum {f : Env → Hm → R Vl} : SrcOk (srcE f) := by
  intro env h ds l h' e
  unfold srcE at e
  cases w : f env h with
  | stuck => rw [w] at e; cases e
  | exc c ps h1 => rw [w] at e; cases e
  | ok v h1 =>
    rw [w] at e
    simp only [R.bind] at e
    cases w2 : seqH h1 v with
    | none => rw [w2] at e; cases e
    | some dl => obtain ⟨ds, l⟩ := dl; rw [w2] at e; cases e; exact seqH_lk w2
theorem lk_app : ∀ {l l2 : Lk} {h : Hm}, LkOk l h → LkOk l2 (lockH l h) → LkOk (l ++ l2) h
  | [], _, _, _, k => k
  | (n, o) :: r, l2, h, k1, k2 => ⟨k1.1, lk_app (l := r) k1.2 k2⟩
theorem src_zip {f g : Env → Hm → R Vl} : SrcOk (srcZ f g) := by
  intro env h ds l h' e
  unfold srcZ at e
  cases w : f env h with
  | stuck => rw [w] at e; cases e
  | exc c ps h1 => rw [w] at e; cases e
  | ok v h1 =>
    rw [w] at e
    simp only [R.bind] at e
    cases w1 : g env h1 with
    | stuck => rw [w1] at e; cases e
    | exc c ps h1 => rw [w1] at e; cases e
    | ok u h2 =>
      rw [w1] at e
      dsimp only at e
      cases w2 : seqH h2 v with
      | none => rw [w2] at e; cases e
      | some dl =>
        obtain ⟨ds, l⟩ := dl
        rw [w2] at e
        dsimp only at e
        cases w3 : seqH (lockH l h2) u with
        | none => rw [w3] at e; cases e
        | some dl2 => obtain ⟨es, l2⟩ := dl2; rw [w3] at e; cases e; exact lk_app (seqH_lk w2) (seqH_lk w3)
/-! ### for -/
theorem s_for {iter : Expr} {body : List Stmt} {f : Src} {g : Vl → Env → Hm → Option Env} {b : Env → Hm → SO} {ts : List Nat} (sk : SrcOk f)
    (hh : PS X (.For tg iter body [] pos) (tFor (semI D f) (semG D ts g) (semS D b))) : PS X (.For tg iter body [] pos) (semS D fun env h => (f env h).bindS fun (ds, l) h => unlkS l (forN g b ds env (lockH l h))) := by
  refine PS.imp hh fun En σ H z => ?_
  obtain ⟨Hs, ρ, h, env, sy, er, p⟩ := z
  refine ⟨Hs, ρ, h, env, sy, er, ?_⟩
  dsimp only at p
  cases w : f env h with
  | stuck => rw [w] at p; exact p
  | exc c ps h1 => rw [w] at p; exact p
  | ok dl h1 =>
    obtain ⟨ds, l⟩ := dl
    rw [w] at p
    intro H1 Hs1 ρ1 t1 p1 sy1 J hJ
    have lk := sk env h ds l h1 w
    have q1 : PostS D En Hs1 H1 ρ1 (lockH l h1) (forN g b ds env (lockH l h1)) := PostS.unlk sy1 lk (PostS.back t1 p1 p)
    obtain ⟨G, Y, hsz, wk, hG, hY⟩ := hJ
    dsimp only at hsz wk hG hY
    refine for_it wk (fun i σ2 H2 => ∃ Hs2 ρ2 h2 env2, TrH Hs1 H1 ρ1 (lockH l h1) Hs2 H2 ρ2 h2 ∧ Pre ρ1 ρ2 ∧ Sy D.T Hs2 H2 ρ2 h2 ∧ EnvR D.T Hs2 ρ2 σ2 env2 ∧ PostS D En Hs2 H2 ρ2 h2 (forN g b (ds.drop i) env2 h2)) ⟨Hs1, ρ1, lockH l h1, env, Tr.refl, Pre.refl, sy1.lock, er.mono t1.mono p1, by rw [List.drop_zero]; exact q1⟩ ?_ ?_ ?_
    · rintro i σ2 H2 hi ⟨Hs2, ρ2, h2, env2, t2, p2, sy2, er2, q2⟩
      exact hG Hs2 H2 _ t2 sy2.sub
    · rintro i x σ2 H2 H3 hi ⟨Hs2, ρ2, h2, env2, t2, p2, sy2, er2, q2⟩ y
      obtain ⟨Hs3, d, gr, hd, rx⟩ := hY i Hs2 H2 _ x H3 hi t2 sy2.sub y
      obtain ⟨sy3, t3⟩ := sy2.grow gr
      have e : ds.drop i = d :: ds.drop (i + 1) := by
        obtain ⟨hl, rfl⟩ := List.getElem?_eq_some_iff.mp hd
        exact List.drop_eq_getElem_cons hl
      rw [e] at q2
      simp only [forN] at q2
      cases q : g d env2 h2 with
      | none => simp only [q] at q2; exact q2.elim
      | some e2 =>
        simp only [q] at q2
        have q3 := PostS.back t3 Pre.refl q2
        refine ⟨Hs3, ρ2, h2, env2, d, sy3, er2.mono t3.mono Pre.refl, rx.mono (Same.refl _) p2, e2, q, fun σ4 er4 _ _ => ⟨Hs3, ρ2, h2, e2, sy3, er4, ?_⟩⟩
        cases w2 : b e2 h2 with
        | nx e h4 =>
          rw [w2] at q3
          exact fun σ' H' Hs' ρ' t pr sy' er' => ⟨Hs', ρ', h4, e, (t2.trans t3).trans t, p2.trans pr, sy', er', PostS.back t pr q3⟩
        | ct e h4 =>
          rw [w2] at q3
          exact fun σ' H' Hs' ρ' t pr sy' er' => ⟨Hs', ρ', h4, e, (t2.trans t3).trans t, p2.trans pr, sy', er', PostS.back t pr q3⟩
        | bk e h4 =>
          rw [w2] at q3
          exact fun σ' H' Hs' ρ' t pr sy' er' => q3 σ' H' Hs' ρ' t pr sy' er'
        | rt d h4 => rw [w2] at q3; exact q3
        | exc c ps h4 => rw [w2] at q3; exact q3
        | stuck => rw [w2] at q3; exact q3
    · rintro σ2 H2 ⟨Hs2, ρ2, h2, env2, t2, p2, sy2, er2, q2⟩
      rw [List.drop_length] at q2
      exact q2 σ2 H2 Hs2 ρ2 Tr.refl Pre.refl sy2 er2
end
end HV

end

section
/-! V8: list comprehensions. -/
namespace HV
open PySem PySem.Spec PyProof.Rows L2
section
variable {D : Wd} {T : Tb} {Hs H Hs' H' : Hp} {ρ ρ' : List Addr} {h h' : Hm} {σ : L2.St} {env : Env} {X : Cx} {α β : Type}
theorem wipe_in {σ : L2.St} {i : Nat} : ∀ {vs : List Nat}, i ∈ vs → i < σ.length → (wipe σ vs)[i]? = some none
  | [], h, _ => by simp at h
  | v :: vs, h, hl => by
    unfold wipe
    by_cases e : v = i
    · subst e; rw [List.getElem?_set_self (by rw [wipe_length]; exact hl)]
    · rw [List.getElem?_set_ne e]
      refine wipe_in ?_ hl
      simp at h
      rcases h with h | h
      · exact absurd h.symm e
      · exact h
theorem wipe_eq {σ τ : L2.St} {vs : List Nat} (hl : τ.length = σ.length) (h : ∀ i, i ∉ vs → τ[i]? = (wipe σ vs)[i]?) : wipe τ vs = wipe σ vs := by
  refine List.ext_getElem? fun i => ?_
  by_cases hi : i ∈ vs
  · by_cases hlt : i < σ.length
    · rw [wipe_in hi hlt, wipe_in hi (by omega)]
    · rw [List.getElem?_eq_none (by rw [wipe_length]; omega), List.getElem?_eq_none (by rw [wipe_length]; omega)]
  · rw [wipe_out hi, h i hi]
theorem wipeE_len : ∀ {vs : List Nat} {env : Env}, (wipeE vs env).length = env.length
  | [], _ => rfl
  | v :: vs, env => by unfold wipeE; rw [List.length_set, wipeE_len]
theorem wipeE_get {i : Nat} {x : Vl} : ∀ {vs : List Nat} {env : Env}, (wipeE vs env)[i]? = some (some x) → i ∉ vs ∧ env[i]? = some (some x)
  | [], _, e => ⟨by simp, e⟩
  | v :: vs, env, e => by
    unfold wipeE at e
    rcases get_set e with ⟨_, z, _⟩ | ⟨ne, e⟩
    · cases z
    · obtain ⟨k1, k2⟩ := wipeE_get e
      exact ⟨by simp [ne, k1], k2⟩
theorem EnvR.wipe (er : EnvR T Hs ρ σ env) (own : List Nat) : EnvR T Hs ρ (L2.wipe σ own) (wipeE own env) := by
  refine ⟨by rw [wipeE_len, wipe_length]; exact er.1, fun i v e => ?_⟩
  obtain ⟨k1, k2⟩ := wipeE_get e
  obtain ⟨u, h1, h2⟩ := er.2 i v k2
  exact ⟨u, by rw [wipe_out k1]; exact h1, h2⟩
/-- a block: nothing is raised out of it -/
def Wd.blk (D : Wd) : Wd := { D with E := E0 }
theorem Post.sure {R : Hp → Hp → List Addr → α → Prop} {S : Hp → Hp → List Addr → β → Prop} {o : HV.R α} {f : α → Hm → HV.R β} {Hs0 H0 : Hp} {ρ0 : List Addr} {h0 : Hm}
    (q : Post D S Hs0 H0 ρ0 h0 (o.sure.bind f)) (k : ∀ a h' H' Hs' ρ', TrH Hs H ρ h Hs' H' ρ' h' → Pre ρ ρ' → Sy D.T Hs' H' ρ' h' → Post D S Hs0 H0 ρ0 h0 (f a h') → R Hs' H' ρ' a) :
    Post D.blk R Hs H ρ h o := by
  cases o with
  | stuck => exact q
  | exc c ps e => exact q.elim
  | ok a e => exact fun H' Hs' ρ' t pr sy => k a e H' Hs' ρ' t pr sy q
theorem sure_bind {γ : Type} {o : R α} {f : α → Hm → R β} {g : β → Hm → R γ} : (o.sure.bind f).bind g = o.sure.bind fun a h => (f a h).bind g := by cases o <;> rfl
/-- an element's outcome, read by ok -/
def semX (D : Wd) (ok : Hp → List Addr → V → β → Prop) (f : Env → Hm → R β) : TE := fun σ H Q => ∃ Hs ρ h env, Sy D.T Hs H ρ h ∧ EnvR D.T Hs ρ σ env ∧ Post D (fun Hs' H' ρ' a => ∀ v, ok Hs' ρ' v a → Q v H') Hs H ρ h (f env h)
/-- the comprehension's turns: what comes of them by F -/
theorem sem_lcG {src : Src} (sk : SrcOk src) {g : Vl → Env → Hm → Option Env} {c : Env → Hm → R Bool} {te : TE} {eb : Env → Hm → R β} {own ts : List Nat} (hts : ∀ i ∈ ts, i ∈ own) (F : List β → Hm → R Vl)
    {ok : Hp → List Addr → V → β → Prop} (hmono : ∀ Hs Hs' ρ ρ' v b, Same Hs Hs' → Pre ρ ρ' → ok Hs ρ v b → ok Hs' ρ' v b)
    (he : ∀ σ H Q, semX D.blk ok eb σ H Q → te σ H Q)
    (hF : ∀ Hs1 H1 ρ1 h1 Hs H ρ h acc ys D0 (Q : VK), H1 D0 = none → TrH Hs1 H1 ρ1 h1 Hs H ρ h → Pre ρ1 ρ → Sy D.T Hs H ρ h → H D0 = some (.lst acc) → Hs D0 = none → ¬ Im ρ h D0 → acc.length ≤ sizeLine → Paired (ok Hs ρ) acc ys → PostV D Q Hs1 H1 ρ1 h1 (F ys h) → Q (.ref D0) H) :
    ∀ σ H Q, semE D (fun env h => (src env h).bind fun (ds, l) h => unlkR l ((lcN g c eb (wipeE own env) ds (lockH l h)).bind F)) σ H Q → tLc (semI D src) (semG D.blk ts g) (semT D.blk c) te own σ H Q := by
  intro σ H Q z
  obtain ⟨Hs, ρ, h, env, sy, er, p⟩ := z
  refine ⟨Hs, ρ, h, env, sy, er, ?_⟩
  dsimp only at p
  cases w : src env h with
  | stuck => rw [w] at p; exact p
  | exc c ps h1 => rw [w] at p; exact p
  | ok dl h1 =>
    obtain ⟨ds, l⟩ := dl
    rw [w] at p
    intro H1 Hs1 ρ1 t1 p1 sy1 J hJ D0 hD0
    have lk := sk env h ds l h1 w
    have q1 : PostV D Q Hs1 H1 ρ1 (lockH l h1) ((lcN g c eb (wipeE own env) ds (lockH l h1)).bind F) := Post.unlk sy1 lk (Post.back t1 p1 p)
    obtain ⟨G, Y, hsz, wk, hG, hY⟩ := hJ
    dsimp only at hsz wk hG hY
    obtain ⟨hs0, ho0⟩ := (sy1.lock (l := l)).nobody hD0
    have tr_other : ∀ {Hs2 H2 : Hp} {ρ2 : List Addr} {h2 : Hm} {o : HO}, TrH Hs1 H1 ρ1 (lockH l h1) Hs2 H2 ρ2 h2 → TrH Hs1 H1 ρ1 (lockH l h1) Hs2 (upd H2 D0 o) ρ2 h2 := fun {Hs2 H2 ρ2 h2 o} t =>
      ⟨t.mono, fun a u h1 h2 h3 => by rw [upd_ne (ne_of_none h1 hD0)]; exact t.keep a u h1 h2 h3, fun a h => by
        by_cases e : a = D0
        · rw [e]; exact hD0
        · rw [upd_ne e] at h; exact t.there a h, t.new, t.newO⟩
    refine lc_it wk (fun i H2 => ∃ Hs2 ρ2 h2 acc accd, TrH Hs1 H1 ρ1 (lockH l h1) Hs2 H2 ρ2 h2 ∧ Pre ρ1 ρ2 ∧ Sy D.T Hs2 H2 ρ2 h2 ∧ H2 D0 = some (.lst acc) ∧ Hs2 D0 = none ∧ ¬ Im ρ2 h2 D0 ∧ Paired (ok Hs2 ρ2) acc accd ∧ acc.length ≤ i ∧
        PostV D Q Hs1 H1 ρ1 (lockH l h1) ((lcN g c eb (wipeE own env) (ds.drop i) h2).bind fun ys h => F (accd ++ ys) h))
      ⟨Hs1, ρ1, lockH l h1, [], [], tr_other Tr.refl, Pre.refl, sy1.lock.other hs0 ho0, upd_same, hs0, ho0, .nil, Nat.le_refl _, by rw [List.drop_zero]; exact q1⟩ ?_ ?_ ?_
    · rintro i H2 hi ⟨Hs2, ρ2, h2, acc, accd, t2, p2, sy2, _⟩
      exact hG Hs2 H2 _ t2 sy2.sub
    · rintro i x H2 H3 hi ⟨Hs2, ρ2, h2, acc, accd, t2, p2, sy2, a1, a2, a3, a4, a5, q2⟩ y
      obtain ⟨Hs3, d, gr, hd, rx⟩ := hY i Hs2 H2 _ x H3 hi t2 sy2.sub y
      obtain ⟨sy3, t3⟩ := sy2.grow gr
      have gn := gr.none sy2.sub (a := D0) (by rw [a1]; simp)
      have es : ds.drop i = d :: ds.drop (i + 1) := by
        obtain ⟨hl, rfl⟩ := List.getElem?_eq_some_iff.mp hd
        exact List.drop_eq_getElem_cons hl
      rw [es] at q2
      simp only [lcN] at q2
      have er3 : EnvR D.T Hs3 ρ2 (L2.wipe σ own) (wipeE own env) := ((((er.mono t1.mono p1).mono t2.mono p2).mono t3.mono Pre.refl).wipe own)
      cases qg : g d (wipeE own env) h2 with
      | none => simp only [qg] at q2; exact q2.elim
      | some e2 =>
        simp only [qg] at q2
        refine ⟨Hs3, ρ2, h2, wipeE own env, d, sy3, er3, rx.mono (Same.refl _) p2, e2, qg, fun σ4 er4 hl4 hσ4 => ?_⟩
        rw [wipe_length] at hl4
        refine ⟨wipe_eq hl4 fun i hi => hσ4 i fun z => hi (hts i z), ?_⟩
        rw [sure_bind] at q2
        have keepD : ∀ {Hs6 H6 : Hp} {ρ6 : List Addr} {h6 : Hm}, TrH Hs3 H3 ρ2 h2 Hs6 H6 ρ6 h6 → H6 D0 = some (.lst acc) ∧ Hs6 D0 = none ∧ ¬ Im ρ6 h6 D0 := fun {Hs6 H6 ρ6 h6} t => by
          have n3 : Hs3 D0 = none := gn.1.trans a2
          have h3 : H3 D0 = some (.lst acc) := gn.2.trans a1
          refine ⟨t.keep D0 _ h3 n3 a3, ?_, fun z => ?_⟩
          · cases z : Hs6 D0 with
            | none => rfl
            | some o =>
              rcases t.new D0 o z with u | ⟨_, u | u⟩
              · rw [n3] at u; cases u
              · exact absurd u a3
              · rw [h3] at u; cases u
          · rcases t.newO D0 z with u | u
            · exact a3 u
            · rw [h3] at u; cases u
        refine ⟨Hs3, ρ2, h2, e2, sy3, er4, Post.sure q2 fun b h5 H5 Hs5 ρ5 t5 p5 sy5 q5 => ?_⟩
        cases b with
        | false =>
          rw [if_neg Bool.false_ne_true] at q5
          refine iteF ?_
          obtain ⟨k1, k2, k3⟩ := keepD t5
          have t35 := t3.trans t5
          exact ⟨Hs5, ρ5, h5, acc, accd, t2.trans t35, p2.trans p5, sy5, k1, k2, k3, Paired.imp a4 fun v b r => hmono _ _ _ _ v b t35.mono p5 r, by omega, q5⟩
        | true =>
          rw [if_pos rfl, sure_bind] at q5
          refine iteT (he σ4 H5 _ ⟨Hs5, ρ5, h5, e2, sy5, er4.mono t5.mono p5, Post.sure q5 fun y h6 H6 Hs6 ρ6 t6 p6 sy6 q6 v rv => ?_⟩)
          have t56 := t5.trans t6
          have t36 := t3.trans t56
          obtain ⟨k1, k2, k3⟩ := keepD t56
          refine ⟨acc, k1, Nat.lt_of_le_of_lt a5 (Nat.lt_of_lt_of_le hi hsz), ?_⟩
          refine ⟨Hs6, ρ6, h6, acc ++ [v], accd ++ [y], tr_other (t2.trans t36), p2.trans (p5.trans p6), sy6.other k2 k3, upd_same, k2, k3, Paired.append (Paired.imp a4 fun v b r => hmono _ _ _ _ v b t36.mono (p5.trans p6) r) (.cons rv .nil), by simp; omega, ?_⟩
          have eq : ∀ {o : R (List β)}, (o.bind fun ys h4 => R.ok (y :: ys) h4).bind (fun ys h => F (accd ++ ys) h) = o.bind fun ys h => F (accd ++ [y] ++ ys) h := fun {o} => by
            cases o <;> simp [R.bind]
          rw [eq] at q6
          exact q6
    · rintro H2 ⟨Hs2, ρ2, h2, acc, accd, t2, p2, sy2, a1, a2, a3, a4, a5, q2⟩
      rw [List.drop_length] at q2
      have q3 : PostV D Q Hs1 H1 ρ1 (lockH l h1) (F (accd ++ []) h2) := q2
      rw [List.append_nil] at q3
      exact hF Hs1 H1 ρ1 _ Hs2 H2 ρ2 h2 acc accd D0 Q hD0 t2 p2 sy2 a1 a2 a3 (Nat.le_trans a5 hsz) a4 q3
theorem sem_lc {src : Src} (sk : SrcOk src) {g : Vl → Env → Hm → Option Env} {c : Env → Hm → R Bool} {e : Env → Hm → R Vl} {own ts : List Nat} (hts : ∀ i ∈ ts, i ∈ own) :
    ∀ σ H Q, semE D (lcV own src g c e) σ H Q → tLc (semI D src) (semG D.blk ts g) (semT D.blk c) (semE D.blk e) own σ H Q :=
  sem_lcG sk hts (fun ys h => .ok (.fz (.lst ys)) h) (ok := fun Hs ρ v d => RepV D.T Hs v d) (fun _ _ _ _ v b s _ r => r.mono s)
    (fun σ H Q z => by
      obtain ⟨Hs, ρ, h, env, sy, er, p⟩ := z
      refine ⟨Hs, ρ, h, env, sy, er, Post.bind (f := HV.frz) p fun a h1 H1 Hs1 ρ1 t1 p1 sy1 q1 v rv => ?_⟩
      obtain ⟨Hs2, h2, d, _, _, r2, q2⟩ := Post.frz (D := D.blk) sy1 rv q1
      exact q2 v r2)
    (fun Hs1 H1 ρ1 h1 Hs H ρ h acc ys D0 Q hD0 t p sy a1 a2 a3 a4 a5 q => by
      have sb : Same Hs (upd Hs D0 (.lst acc)) := fun b w z => by rw [upd_ne (ne_of_none z a2)]; exact z
      have r5 := RepVs.ofP a5
      refine q H (upd Hs D0 (.lst acc)) ρ ⟨t.mono.trans sb, t.keep, t.there, fun b w z => ?_, t.newO⟩ p (sy.tell a1 a2 a3) (.ref D0) (RepV.lst upd_same (by rw [← r5.length]; exact a4) (r5.mono sb))
      by_cases e : b = D0
      · subst e
        refine .inr ⟨?_, .inr hD0⟩
        cases u : Hs1 b with
        | none => rfl
        | some o => rw [t.mono b o u] at a2; cases a2
      · rw [upd_ne e] at z; exact t.new b w z)
theorem sem_nlc {src : Src} (sk : SrcOk src) {g : Vl → Env → Hm → Option Env} {c : Env → Hm → R Bool} {e : Env → Hm → R Vl} {own ts : List Nat} (hts : ∀ i ∈ ts, i ∈ own) :
    ∀ σ H Q, semE D (nlcV own src g c e) σ H Q → tLc (semI D src) (semG D.blk ts g) (semT D.blk c) (semE D.blk e) own σ H Q :=
  sem_lcG sk hts (fun ys h => newL ys h) (ok := fun Hs ρ v d => VlR D.T Hs ρ v d) (fun _ _ _ _ v b s p r => r.mono s p)
    (fun σ H Q z => z)
    (fun Hs1 H1 ρ1 h1 Hs H ρ h acc ys D0 Q hD0 t p sy a1 a2 a3 a4 a5 q => by
      have s2 := sy.take_in (o := .lst ys) a2 a3 ⟨acc, a1, by rw [← Paired.length a5]; exact a4, Paired.imp a5 fun _ _ r => r.mono (Same.refl _) Pre.app⟩
      refine q H Hs (ρ ++ [D0]) ⟨t.mono, t.keep, t.there, t.new, fun b z => ?_⟩ (p.trans Pre.app) s2 (.ref D0) ⟨D0, by rw [← sy.len]; simp, rfl⟩
      rcases im_app sy.len z with z | ⟨rfl, _⟩
      · exact t.newO b z
      · exact .inr hD0)
end
end HV

end

section
/-! V8b: reversed lists, list() and dict() that change, join, update, dict displays and comprehensions. -/
namespace HV
open PySem PySem.Spec PyProof.Rows L2
section
variable {D : Wd} {T : Tb} {Hs H Hs' H' : Hp} {ρ ρ' : List Addr} {h h' : Hm} {σ : L2.St} {env : Env} {X : Cx} {e o a b c : Expr} {es rest : List Expr} {apos cpos pos pos' p p1 p2 p3 : Pos}
theorem RepVs.rev : ∀ {xs : List V} {ds : List PV}, RepVs T Hs xs ds → RepVs T Hs xs.reverse ds.reverse
  | _, _, .nil => .nil
  | _, _, .cons h r => by
    rw [List.reverse_cons, List.reverse_cons]
    exact (RepVs.rev r).append (.cons h .nil)
theorem kv_rev : KV1 D (fun x H Q => ∃ a xs, x = V.ref a ∧ SqL D.T.K H a xs ∧ ∀ p, H p = none → Q (.ref p) (upd H p (.lst xs.reverse))) (opS1 revV) := by
  intro x a Hs H ρ h Q sy rx p
  unfold opS1 at p
  cases w : shal h a with
  | none => simp only [w] at p; exact p.elim
  | some d =>
    simp only [w] at p
    obtain ⟨d', w2, k⟩ := p.liftF sy
    rcases shal_ok sy rx w with r | ⟨a, vs, ds, rfl, rfl, g1, g2, g3⟩ | ⟨a, vs, ds, rfl, rfl, g1, g2, g3⟩
    · cases r with
      | @lst a xs ds ha hz hr =>
        cases w2
        exact ⟨a, xs, rfl, SqL.of (sy.sub _ _ ha), fun l hl => k _ _ _ (Grow.one hl) (.lst upd_same (by rw [List.length_reverse]; exact hz) (hr.rev.mono ((Grow.one (o := .lst xs.reverse) hl).same sy.sub).1))⟩
      | _ => cases w2
    · cases w2
      exact ⟨a, vs, rfl, SqL.of g1, fun l hl => k _ _ _ (Grow.one hl) (.lst upd_same (by rw [List.length_reverse]; exact g2) (g3.rev.mono ((Grow.one (o := .lst vs.reverse) hl).same sy.sub).1))⟩
    · cases w2
theorem ev_rev (hK : D.T.K = X.K) {k : Nat} {f : Env → Hm → R Vl} (ha : PE X a (semE D f)) : PE X (.Subscript a (.Slice none none (some (.UnaryOp .USub (.Constant (.int 1) k p1) p2)) p3) pos) (semE D (op1 f (opS1 revV))) := by
  refine PE.imp (pe_revL ha) fun σ H Q z => ?_
  have q := sem_op1 (kv_rev (D := D)) σ H Q z
  rw [hK] at q
  exact q
/-! ### list() that changes -/
theorem newL_post {Q : VK} (sy : Sy D.T Hs H ρ h) {xs : List V} {ds : List Vl} {l : Addr} (hl : H l = none) (hz : ds.length ≤ sizeLine) (hr : VlsR D.T Hs ρ xs ds) (p : PostV D Q Hs H ρ h (newL ds h)) : Q (.ref l) (upd H l (.lst xs)) := by
  obtain ⟨s3, t3⟩ := sy.new (u := .lst xs) (o := .lst ds) hl ⟨xs, upd_same, hz, VlsR.mono (Same.refl _) Pre.app hr⟩
  exact p _ _ _ t3 Pre.app s3 (.ref l) ⟨l, by rw [← sy.len]; simp, rfl⟩
theorem newD_post {Q : VK} (sy : Sy D.T Hs H ρ h) {ks : List (Key × V)} {ds : List (PV × Vl)} {l : Addr} (hl : H l = none) (hz : ds.length ≤ sizeLine) (hr : Paired (KvR D.T Hs ρ) ks ds) (p : PostV D Q Hs H ρ h (newD ds h)) : Q (.ref l) (upd H l (.dK ks)) := by
  obtain ⟨s3, t3⟩ := sy.new (u := .dK ks) (o := .dct ds) hl ⟨ks, upd_same, hz, Paired.imp hr fun _ _ r => ⟨r.1, r.2.mono (Same.refl _) Pre.app⟩⟩
  exact p _ _ _ t3 Pre.app s3 (.ref l) ⟨l, by rw [← sy.len]; simp, rfl⟩
theorem kv_nlist : KV1 D (fun x H Q => ∃ p ys, [x] = [V.ref p] ∧ (SqL D.T.K H p ys ∨ SqT D.T.K H p ys) ∧ ∀ l, H l = none → Q (.ref l) (upd H l (.lst ys))) (opN1 listV) := by
  intro x a Hs H ρ h Q sy rx p
  unfold opN1 at p
  cases w : shal h a with
  | none => simp only [w] at p; exact p.elim
  | some d =>
    simp only [w] at p
    rcases shal_ok sy rx w with r | ⟨a, vs, ds, rfl, rfl, g1, g2, g3⟩ | ⟨a, vs, ds, rfl, rfl, g1, g2, g3⟩
    · cases r with
      | @lst a xs ds ha hz hr => exact ⟨a, xs, rfl, .inl (SqL.of (sy.sub _ _ ha)), fun l hl => newL_post sy hl (by rw [List.length_map]; exact hz) (vls_fz hr) p⟩
      | @tup a xs ds ha hz hr => exact ⟨a, xs, rfl, .inr (SqT.of (sy.sub _ _ ha)), fun l hl => newL_post sy hl (by rw [List.length_map]; exact hz) (vls_fz hr) p⟩
      | @scr a ns ha hz => exact ⟨a, _, rfl, .inl (sy.sub.seq ha), fun l hl => newL_post sy hl (by rw [List.length_map, List.length_map]; exact hz) (vls_fz (RepVs.ints ns)) p⟩
      | _ => exact p.elim
    · exact ⟨a, vs, rfl, .inl (SqL.of g1), fun l hl => newL_post sy hl (by rw [List.length_map]; exact g2) (vls_fz g3) p⟩
    · exact p.elim
/-! ### dicts -/
def fzP (e : PV × PV) : PV × Vl := (e.1, .fz e.2)
theorem allFd_fz : ∀ {ds : List (PV × PV)}, allFd (ds.map fzP) = some ds
  | [] => rfl
  | (k, d) :: ds => by
    show (match allFd (ds.map fzP) with | some ds => some ((k, d) :: ds) | none => none) = _
    rw [allFd_fz]
theorem repks_fz {ks : List (Key × V)} {ds : List (PV × PV)} (h : Paired (KvR T Hs ρ) ks (ds.map fzP)) : RepKs T Hs ks ds := allFd_ok h allFd_fz
theorem fz_repks : ∀ {ks : List (Key × V)} {ds : List (PV × PV)}, RepKs T Hs ks ds → Paired (KvR T Hs ρ) ks (ds.map fzP)
  | _, _, .nil => .nil
  | _, _, .cons k r t => .cons ⟨k, r⟩ (fz_repks t)
theorem merge_rel {more : List (Key × V)} {es : List (PV × Vl)} (r : Paired (KvR T Hs ρ) more es) : ∀ {ks : List (Key × V)} {ds : List (PV × Vl)}, Paired (KvR T Hs ρ) ks ds → Paired (KvR T Hs ρ) (mergeK ks more) (mergeD ds es) := by
  induction r with
  | nil => intro ks ds h; exact h
  | @cons x y l1 l2 r t ih =>
    intro ks ds h
    obtain ⟨k, v⟩ := y
    exact ih (kv_put r.1 r.2 h)
theorem putD_map (ds : List (PV × PV)) (k v : PV) : putD (ds.map fzP) k (.fz v) = (putD ds k v).map fzP := by
  unfold putD
  have e : ((ds.map fzP).any fun kv => eqvP kv.1 k) = ds.any fun kv => eqvP kv.1 k := by rw [List.any_map]; rfl
  rw [e]
  split
  · rw [List.map_map, List.map_map]
    refine List.map_congr_left fun x _ => ?_
    show (if eqvP x.1 k = true then _ else _) = fzP (if eqvP x.1 k = true then _ else _)
    split <;> rfl
  · rw [List.map_append]; rfl
theorem mergeD_map : ∀ (es ds : List (PV × PV)), mergeD (ds.map fzP) (es.map fzP) = (mergeD ds es).map fzP
  | [], _ => rfl
  | (k, v) :: es, ds => by
    show mergeD (putD (ds.map fzP) k (.fz v)) (es.map fzP) = (mergeD (putD ds k v) es).map fzP
    rw [putD_map, mergeD_map]
theorem putD_lenG {α : Type} (d : List (PV × α)) (e : PV) (x : α) : (putD d e x).length ≤ d.length + 1 := by
  unfold putD
  split <;> simp
theorem mergeD_len {α : Type} : ∀ (es ds : List (PV × α)), (mergeD ds es).length ≤ ds.length + es.length
  | [], ds => by simp [mergeD]
  | (k, v) :: es, ds => by
    have h1 := mergeD_len es (putD ds k v)
    have h2 := putD_lenG ds k v
    simp only [mergeD, List.length_cons]
    omega
theorem pairs_len : ∀ {ds : List PV} {ps : List (PV × PV)}, pairsV ds = some ps → ps.length = ds.length
  | [], _, e => by cases e; rfl
  | d :: ds, ps, e => by
    match d, e with
    | .tup [k, v], e =>
      simp only [pairsV] at e
      cases w : pairsV ds with
      | none => rw [w] at e; cases e
      | some qs => rw [w] at e; cases e; simp [pairs_len w]
theorem pairs_rep (s : Same Hs H) : ∀ {xs : List V} {ds : List PV} {ps : List (PV × PV)}, RepVs T Hs xs ds → pairsV ds = some ps → ps.all (fun p => isKey p.1) = true →
    ∃ as kvs, xs = as.map V.ref ∧ Paired (fun p (kv : Key × V) => SqT T.K H p [kV kv.1, kv.2]) as kvs ∧ Paired (KvR T Hs ρ) kvs (ps.map fzP)
  | _, _, _, .nil, e, _ => by cases e; exact ⟨[], [], rfl, .nil, .nil⟩
  | _, _, ps, .cons (d := d) (ds := ds) h r, e, ha => by
    match d, h, e with
    | .tup [k, v], h, e =>
      simp only [pairsV] at e
      cases w : pairsV ds with
      | none => rw [w] at e; cases e
      | some qs =>
        rw [w] at e
        cases e
        simp only [List.all_cons, Bool.and_eq_true] at ha
        obtain ⟨as, kvs, e1, e2, e3⟩ := pairs_rep s r w ha.2
        cases h with
        | tup hh hz hr =>
          rename_i a ys
          cases hr with
          | cons r1 t =>
            cases t with
            | cons r2 t =>
              cases t
              obtain ⟨kk, kr, rfl⟩ := keyR_of r1 ha.1
              exact ⟨a :: as, (kk, _) :: kvs, by rw [e1]; rfl, .cons (SqT.of (s _ _ hh)) e2, .cons ⟨kr, r2⟩ e3⟩
def rDict (K : PySem.W.Frag) : V → Hp → VK → Prop := fun x H Q => (∃ (a : Addr) (ps : List Addr) (kvs : List (Key × V)), [x] = [V.ref a] ∧ SqL K H a (ps.map V.ref) ∧ Paired (fun p kv => SqT K H p [kV kv.1, kv.2]) ps kvs ∧
    ∀ p, H p = none → Q (.ref p) (upd H p (.dK (mergeK [] kvs)))) ∨ (∃ (a : Addr) (kvs : List (Key × V)), [x] = [V.ref a] ∧ Rd H a (.dK kvs) ∧ ∀ p, H p = none → Q (.ref p) (upd H p (.dK kvs)))
theorem dict_core (sy : Sy T Hs H ρ h) {x : V} {a : Vl} {d r : PV} (rx : VlR T Hs ρ x a) (w : shal h a = some d) (w2 : dictV d = some r) :
    ∃ ks ds, r = .dct ds ∧ ds.length ≤ sizeLine ∧ Paired (KvR T Hs ρ) ks (ds.map fzP) ∧ ∀ Q : VK, (∀ p, H p = none → Q (.ref p) (upd H p (.dK ks))) → rDict T.K x H Q := by
  have ofL : ∀ {a : Addr} {vs : List V} {ds : List PV}, H a = some (.lst vs) → ds.length ≤ sizeLine → RepVs T Hs vs ds → dictV (.lst ds) = some r →
      ∃ ks ds, r = .dct ds ∧ ds.length ≤ sizeLine ∧ Paired (KvR T Hs ρ) ks (ds.map fzP) ∧ ∀ Q : VK, (∀ p, H p = none → Q (.ref p) (upd H p (.dK ks))) → rDict T.K (.ref a) H Q := fun {a vs ds} g1 g2 g3 w2 => by
    simp only [dictV] at w2
    cases w3 : pairsV ds with
    | none => rw [w3] at w2; cases w2
    | some ps =>
      rw [w3] at w2
      dsimp only at w2
      split at w2
      · rename_i hk
        cases w2
        obtain ⟨as, kvs, e1, e2, e3⟩ := pairs_rep (ρ := ρ) sy.sub g3 w3 hk
        refine ⟨mergeK [] kvs, _, rfl, ?_, ?_, fun Q q => .inl ⟨a, as, kvs, rfl, by rw [← e1]; exact SqL.of g1, e2, q⟩⟩
        · have := mergeD_len ps []
          have := pairs_len w3
          simp at *
          omega
        · rw [← mergeD_map]
          exact merge_rel e3 .nil
      · cases w2
  rcases shal_ok sy rx w with r' | ⟨a, vs, ds, rfl, rfl, g1, g2, g3⟩ | ⟨a, vs, ds, rfl, rfl, g1, g2, g3⟩
  · cases r' with
    | @lst a xs ds ha hz hr => exact ofL (sy.sub _ _ ha) hz hr w2
    | @dct a ks ds ha hz hr =>
      cases w2
      exact ⟨ks, ds, rfl, hz, fz_repks hr, fun Q q => .inr ⟨a, ks, rfl, SameR sy.sub ha, q⟩⟩
    | _ => cases w2
  · exact ofL g1 g2 g3 w2
  · cases w2
    exact ⟨vs, ds, rfl, g2, fz_repks g3, fun Q q => .inr ⟨a, vs, rfl, .inl g1, q⟩⟩
theorem kv_dict : KV1 D (rDict D.T.K) (opS1 dictV) := by
  intro x a Hs H ρ h Q sy rx p
  unfold opS1 at p
  cases w : shal h a with
  | none => simp only [w] at p; exact p.elim
  | some d =>
    simp only [w] at p
    obtain ⟨d', w2, k⟩ := p.liftF sy
    obtain ⟨ks, ds, rfl, hz, hr, q⟩ := dict_core sy rx w w2
    exact q Q fun p hp => k _ _ _ (Grow.one hp) (.dct (.inl upd_same) hz ((repks_fz hr).mono ((Grow.one (o := .dK ks) hp).same sy.sub).1))
theorem kv_ndict : KV1 D (rDict D.T.K) (opN1 dictV) := by
  intro x a Hs H ρ h Q sy rx p
  unfold opN1 at p
  cases w : shal h a with
  | none => simp only [w] at p; exact p.elim
  | some d =>
    simp only [w] at p
    cases w2 : dictV d with
    | none => rw [w2] at p; exact p.elim
    | some r =>
      rw [w2] at p
      obtain ⟨ks, ds, rfl, hz, hr, q⟩ := dict_core sy rx w w2
      exact q Q fun l hl => newD_post sy hl (by rw [List.length_map]; exact hz) hr p
theorem call_dictR (hc : X.calm = true) : CallR X (.type "dict") (fun xs H Q => ∃ x, xs = [x] ∧ rDict X.K x H Q) := by
  intro pins s σ H xs us Q I r q
  obtain ⟨x, rfl, q⟩ := q
  rcases q with q | q
  · exact call_dictP hc pins s σ H _ us Q I r q
  · exact call_dictD pins s σ H _ us Q I r q
theorem ev_dictG (hK : D.T.K = X.K) (hc : X.calm = true) {k : Vl → Hm → R Vl} (hv : KV1 D (rDict D.T.K) k) {f : Env → Hm → R Vl} (hg : Gl X "dict") (hm : X.mg "dict" = none) (ha : PE X a (semE D f)) (hs : argX a = true) : PE X (.Call (.Name "dict" p) [a] [] pos) (semE D (op1 f k)) := by
  refine ev_t1 (call_dictR hc) ?_ hg hm boot_dict (by decide) (by decide) ha hs
  intro x y Hs H ρ h Q sy rx q
  have z := hv x y Hs H ρ h Q sy rx q
  rw [hK] at z
  exact ⟨x, rfl, z⟩
end
end HV

end

section
/-! V8c: join, update, dict displays, dict comprehensions. -/
namespace HV
open PySem PySem.Spec PyProof.Rows L2 TL
section
variable {D : Wd} {T : Tb} {Hs H Hs' H' : Hp} {ρ ρ' : List Addr} {h h' : Hm} {σ : L2.St} {env : Env} {X : Cx} {e o a b c : Expr} {es rest : List Expr} {apos cpos pos pos' p p1 p2 p3 : Pos}
theorem str_ext {x y : Str} (h : x.cps.toList = y.cps.toList) : x = y := by
  obtain ⟨⟨x⟩⟩ := x
  obtain ⟨⟨y⟩⟩ := y
  simp at h
  rw [h]
theorem joinL_eq (a : Txt) : ∀ ss : List Txt, joinL a ss = joinT a ss
  | [] => rfl
  | [s] => rfl
  | s :: q :: r => by
    show s ++ (a ++ joinL a (q :: r)) = s ++ (a ++ joinT a (q :: r))
    rw [joinL_eq a (q :: r)]
theorem join_tx (a : Txt) (ss : List Txt) : Txt.join (tx a) (ss.map tx) = tx (joinT a ss) := by
  rw [join_eq]
  refine str_ext ?_
  have := tl_join (tx a) (ss.map tx)
  rw [List.map_map] at this
  have e : (tl ∘ tx) = (id : Txt → Txt) := by funext z; simp [tx]
  rw [e, List.map_id, show tl (tx a) = a by simp [tx], joinL_eq] at this
  rw [show (Str.join (tx a) (ss.map tx)).cps.toList = tl (Str.join (tx a) (ss.map tx)) from rfl, this]
  simp [tx]
theorem strs_rep : ∀ {xs : List V} {ds : List PV} {ss : List Txt}, RepVs T Hs xs ds → strsV ds = some ss → xs = (ss.map tx).map V.str ∧ ∀ s ∈ ss, ∀ c ∈ s, c < 1114112
  | _, _, _, .nil, e => by cases e; exact ⟨rfl, fun s h => by simp at h⟩
  | _, _, ss, .cons (d := d) (ds := ds) h r, e => by
    cases h with
    | str s hs =>
      simp only [strsV] at e
      cases w : strsV ds with
      | none => rw [w] at e; cases e
      | some qs =>
        rw [w] at e
        cases e
        obtain ⟨e1, e2⟩ := strs_rep r w
        refine ⟨by rw [e1]; rfl, fun z hz => ?_⟩
        rcases List.mem_cons.mp hz with rfl | hz
        · exact hs.2
        · exact e2 z hz
    | _ => cases e
theorem joinT_mem {a : Txt} {P : Nat → Prop} (ha : ∀ c ∈ a, P c) : ∀ {ss : List Txt}, (∀ s ∈ ss, ∀ c ∈ s, P c) → ∀ c ∈ joinT a ss, P c
  | [], _, c, hc => by simp [joinT] at hc
  | [s], h, c, hc => h s (by simp) c hc
  | s :: q :: r, h, c, hc => by
    have hc : c ∈ s ++ (a ++ joinT a (q :: r)) := hc
    rcases List.mem_append.mp hc with z | z
    · exact h s (by simp) c z
    · rcases List.mem_append.mp z with z | z
      · exact ha c z
      · exact joinT_mem ha (fun s hs => h s (List.mem_cons_of_mem _ hs)) c z
theorem joinT_len (a : Txt) : ∀ ss : List Txt, (joinT a ss).length ≤ (ss.map List.length).sum + ss.length * a.length
  | [] => by simp [joinT]
  | [s] => by simp [joinT]
  | s :: q :: r => by
    have ih := joinT_len a (q :: r)
    show (s ++ (a ++ joinT a (q :: r))).length ≤ _
    simp only [List.length_append, List.map_cons, List.sum_cons, List.length_cons] at ih ⊢
    have e : (r.length + 1 + 1) * a.length = (r.length + 1) * a.length + a.length := Nat.succ_mul _ _
    omega
def rJoin (K : PySem.W.Frag) : R2 := fun x y H Q => ∃ a p, ∃ ys : List Str, x = .str a ∧ [y] = [V.ref p] ∧ (SqL K H p (ys.map V.str) ∨ SqT K H p (ys.map V.str)) ∧ (ys.map (·.length)).sum + ys.length * a.length ≤ 16777216 ∧ Q (.str (Txt.join a ys)) H
theorem va_join : VA2 T (rJoin T.K) joinV := by
  intro x y d1 d2 d Hx Hy H Q s1 s2 r1 r2 e k
  cases r1 with
  | str a ha =>
    cases r2 with
    | lst h2 z2 q2 =>
      rename_i p xs ds
      simp only [joinV] at e
      cases w : strsV ds with
      | none => rw [w] at e; cases e
      | some ss =>
        rw [w] at e
        dsimp only at e
        split at e
        · rename_i hl
          cases e
          obtain ⟨e1, e2⟩ := strs_rep q2 w
          refine ⟨tx a, p, ss.map tx, rfl, rfl, .inl (by rw [← e1]; exact SqL.of (s2 _ _ h2)), ?_, ?_⟩
          · rw [List.map_map, List.length_map, tx_len]
            have : ((fun x : Str => x.length) ∘ tx) = (List.length : Txt → Nat) := by funext z; exact tx_len z
            rw [this]
            exact hl
          · rw [join_tx]
            refine k _ fun Hs => .str _ ⟨by rw [sizeLine_eq]; exact Nat.le_trans (joinT_len a ss) hl, joinT_mem ha.2 e2⟩
        · cases e
    | _ => cases e
  | _ => cases e
theorem ev_join (hK : D.T.K = X.K) {f g : Env → Hm → R Vl} (ho : PE X o (semE D f)) (he : PE X e (semE D g)) (hs : starEach [e] X.env = [(false, eval e X.env)]) (hbase : attributeBase o "join" X.env (eval o X.env) = eval o X.env) (hline : (apos.endLine == pos.line) = true) :
    PE X (.Call (.Attribute o "join" apos) [e] [] pos) (semE D (joinE f g)) := by
  refine PE.imp (pe_join ho he hs hbase hline) fun σ H Q z => ?_
  obtain ⟨Hs, ρ, h, env, sy, er, p⟩ := z
  refine ⟨Hs, ρ, h, env, sy, er, Post.bind (f := fun x h => if isStrV x = true then (g env h).bind fun y h => opA joinV x y h else .stuck) p fun x h1 H1 Hs1 ρ1 t1 p1 sy1 q1 v rv => ?_⟩
  by_cases hl : isStrV x = true
  · rw [if_pos hl] at q1
    refine ⟨?_, ⟨Hs1, ρ1, h1, env, sy1, er.mono t1.mono p1, q1.bind fun y h2 H2 Hs2 ρ2 t2 p2 sy2 q2 u ru => ?_⟩⟩
    · cases x with
      | rf n => cases hl
      | fz d =>
        replace rv : RepV D.T Hs1 v d := rv
        cases rv with
        | str s hs => exact ⟨_, rfl⟩
        | _ => cases hl
    · have q := kv_A (va_join (T := D.T)) v u x y Hs2 H2 ρ2 h2 Q sy2 (rv.mono t2.mono p2) ru q2
      rw [hK] at q
      exact q
  · rw [if_neg hl] at q1; exact q1.elim
/-! ### update -/
theorem mt_update : MtR X "dict.update" (fun x xs H Q => ∃ (a b : Addr) (ks ls : List (Key × V)), x = .ref a ∧ xs = [.ref b] ∧ a ≠ b ∧ H a = some (.dK ks) ∧ Rd H b (.dK ls) ∧ ks.length + ls.length ≤ sizeLine ∧ Q .non (upd H a (.dK (mergeK ks ls)))) := by
  intro pins s σ H x xs v us Q I rx rs hh
  obtain ⟨a, b, ks, ls, rfl, rfl, hne, ha, hb, hz, q⟩ := hh
  obtain rfl : v = Value.ref a := rx
  obtain ⟨u, rfl, ru⟩ := vals1 rs
  obtain rfl : u = Value.ref b := ru
  obtain ⟨z1, hd, vs, rel, dd⟩ := dk_of I.hok ha
  obtain ⟨z2, hd2, ws, rel2, dd2⟩ := dk_rd I.hok hb
  refine call_meetsIn PySem.F.slot_dict_update dd.typeIs PySem.F.entry_dict_update (PySem.F.args_dict_update_2 _ _) (meets_dict_update (mixKind X.prog X.w) a b hne hd2)
    ⟨vs, ws, dd, dd2, (by rw [← rel.length, ← rel2.length]; exact hz), fun h' hmm _ hs => ?_⟩
  have he : ∃ q, h'.get? a = some q := let ⟨q, _, _, hq, _⟩ := hmm; ⟨q, hq⟩
  have hl : (mergeK ks ls).length ≤ sizeLine := by
    have : ∀ (ls ks : List (Key × V)), (mergeK ks ls).length ≤ ks.length + ls.length := fun ls => by
      induction ls with
      | nil => intro ks; exact Nat.le_refl _
      | cons p r ih =>
        intro ks
        have h1 := ih (putK ks p.1 p.2)
        have h2 := length_putK ks p.1 p.2
        have h3 : mergeK ks (p :: r) = mergeK (putK ks p.1 p.2) r := rfl
        rw [h3]
        simp only [List.length_cons]
        omega
    have := this ls ks
    omega
  exact ⟨.non, _, d_write (t' := s.toks) I (by rw [ha]; exact True.intro) hs he (dk_new hl hd (rel2.merge rel) hmm), rfl, q⟩
theorem isDct_ok {K : PySem.W.Frag} (sy : Sy T Hs H ρ h) {v : V} {x : Vl} (r : VlR T Hs ρ v x) (e : isDctH h x = true) : tyV K "dict" v H := by
  cases x with
  | fz d => cases e
  | rf n =>
    obtain ⟨a, ha, rfl⟩ := r
    simp only [isDctH] at e
    cases w : h[n]? with
    | none => rw [w] at e; cases e
    | some oo =>
      rw [w] at e
      cases oo with
      | none => cases e
      | some o =>
        obtain ⟨_, mr⟩ := sy.ob n o a w ha
        cases o with
        | lst xs => cases e
        | dct kvs =>
          obtain ⟨ks, g1, _⟩ := mr
          exact .inr (.inr (.inl ⟨rfl, .inl ⟨ks, g1⟩⟩))
        | ins c fs => cases e
theorem ev_update {f g : Env → Hm → R Vl} (ho : PE X o (semE D f)) (he : PE X e (semE D g)) (hbase : attributeBase o "update" X.env (eval o X.env) = eval o X.env)
    (hs : starEach [e] X.env = [(false, eval e X.env)]) (hline : (apos.endLine == cpos.line) = true) : PE X (.Call (.Attribute o "update" apos) [e] [] cpos) (semE D (updE f g)) := by
  refine PE.imp (pe_bm PySem.F.plainAttrs_dict PySem.F.slot_dict_update PySem.F.type_dict_update mt_update ho (pa_cons he pa_nil hs) hbase ?_ hline hs rfl) fun σ H Q z => ?_
  · rw [hs]; rfl
  obtain ⟨Hs, ρ, h, env, sy, er, p⟩ := z
  refine ⟨Hs, ρ, h, env, sy, er, Post.bind (f := fun x h => if isDctH h x = true then (g env h).bind fun y h => updW x y h else .stuck) p fun x h1 H1 Hs1 ρ1 t1 p1 sy1 q1 v rv => ?_⟩
  by_cases hl : isDctH h1 x = true
  · rw [if_pos hl] at q1
    refine ⟨isDct_ok sy1 rv hl, ⟨Hs1, ρ1, h1, env, sy1, er.mono t1.mono p1, q1.bind fun y h2 H2 Hs2 ρ2 t2 p2 sy2 q2 u ru => ?_⟩⟩
    replace rv := rv.mono t2.mono p2
    cases x with
    | fz d => cases hl
    | rf n =>
      cases y with
      | rf m => exact q2.elim
      | fz d =>
        replace ru : RepV D.T Hs2 u d := ru
        cases ru with
        | @dct b ls es hb hz hr =>
          obtain ⟨a, ha, rfl⟩ := rv
          simp only [updW] at q2
          cases w : h2[n]? with
          | none => rw [w] at q2; exact q2.elim
          | some oo =>
            rw [w] at q2
            cases oo with
            | none => exact q2.elim
            | some oo =>
              obtain ⟨hsa, mr⟩ := sy2.ob n oo a w ha
              cases oo with
              | lst xs => exact q2.elim
              | ins c fs => exact q2.elim
              | dct kvs =>
                obtain ⟨ks, g1, g2, g3⟩ := mr
                dsimp only at q2
                by_cases hz2 : kvs.length + es.length ≤ LIM
                · rw [if_pos hz2] at q2
                  rw [lim_eq] at hz2
                  have hab : a ≠ b := fun z => by
                    subst z
                    rcases hb with hb | ⟨_, hb⟩ <;> (rw [hsa] at hb; cases hb)
                  refine ⟨a, b, ks, ls, rfl, rfl, hab, g1, SameR sy2.sub hb, by rw [Paired.length g3, hr.length]; exact hz2, ?_⟩
                  have := mergeD_len (es.map fzP) kvs
                  rw [List.length_map] at this
                  obtain ⟨s2, t2⟩ := sy2.write (u := .dK (mergeK ks ls)) (o' := .dct (mergeD kvs (es.map fzP))) w ha ⟨_, upd_same, Nat.le_trans this hz2, merge_rel (fz_repks hr) g3⟩
                  exact q2 _ _ _ t2 Pre.refl s2 _ .non
                · rw [if_neg hz2] at q2; exact q2.elim
        | _ => exact q2.elim
  · rw [if_neg hl] at q1; exact q1.elim
/-! ### {} -/
theorem ev_ndct0 : PE X (.Dict [] [] pos) (semE D (ndctE esNil)) := by
  refine PE.imp pe_dnewK fun σ H Q z => ?_
  obtain ⟨Hs, ρ, h, env, sy, er, p⟩ := z
  intro l hl
  exact newD_post sy hl (Nat.zero_le _) .nil (show PostV D Q Hs H ρ h (newD [] h) from p)
theorem ev_dct0 : PE X (.Dict [] [] pos) (semE D (dctE esNil)) := by
  refine PE.imp pe_dnewK fun σ H Q z => ?_
  obtain ⟨Hs, ρ, h, env, sy, er, p⟩ := z
  intro l hl
  have p2 : PostV D Q Hs H ρ h ((newD [] h).bind fun v h => (HV.frz v h).bind fun d h => .ok (.fz d) h) := p
  refine newD_post (Q := fun v H1 => Q v H1) sy hl (Nat.zero_le _) .nil ?_
  refine Post.bind p2 fun v h1 H1 Hs1 ρ1 t1 p1 sy1 q1 u ru => ?_
  obtain ⟨Hs2, h2, d, f1, r2, q2⟩ := Post.frzB sy1 ru q1
  exact q2 H1 Hs2 ρ1 Tr.refl Pre.refl f1.1 u r2
end
end HV

end

section
/-! V8d: dict comprehensions. -/
namespace L2
open PySem
theorem dc_it {J : It} {n : Nat} {G : Hp → Prop} {Y : Nat → Hp → V → Hp → Prop} (w : Walk J n G Y) {g : TG} {tt : TT} {tk tv : TE} {vs : List Nat} {σ : St} {H1 : Hp} {D : Addr} {Qd : Hp → Prop} (Pv : Nat → Hp → Prop) (h0 : Pv 0 (upd H1 D (.dK []))) (hG : ∀ i H, i ≤ n → Pv i H → G H)
    (hs : ∀ i x H H', i < n → Pv i H → Y i H x H' → g x (wipe σ vs) H' fun σ2 H2 => wipe σ2 vs = wipe σ vs ∧ tt σ2 H2 fun b H3 =>
      if b = true then tk σ2 H3 fun y H4 => tv σ2 H4 fun z H5 => ∃ kvs k, y = kV k ∧ H5 D = some (.dK kvs) ∧ kvs.length < sizeLine ∧ Pv (i + 1) (upd H5 D (.dK (putK kvs k z))) else Pv (i + 1) H3) (hd : ∀ H, Pv n H → Qd H) :
    ∃ W : Nat → Nat → Hp → Prop, (∃ m, W 0 m (upd H1 D (.dK []))) ∧ ∀ i m H, W i m H →
      (J.stop i H ∧ Qd H) ∨ (J.go i H ∧ ∃ Nx : Hp → Prop, (∀ H', Nx H' → ∃ m', m' < m ∧ W (i + 1) m' H') ∧ ∀ x H', J.yld i H x H' → g x (wipe σ vs) H' fun σ2 H2 => wipe σ2 vs = wipe σ vs ∧ tt σ2 H2 fun b H3 =>
        if b = true then tk σ2 H3 fun y H4 => tv σ2 H4 fun z H5 => ∃ kvs k, y = kV k ∧ H5 D = some (.dK kvs) ∧ kvs.length < sizeLine ∧ Nx (upd H5 D (.dK (putK kvs k z))) else Nx H3) := by
  refine ⟨fun i m H => m = n - i ∧ i ≤ n ∧ Pv i H, ⟨n, by simp, Nat.zero_le _, h0⟩, ?_⟩
  rintro i m H ⟨rfl, hi, p⟩
  have q := hG i H hi p
  by_cases hlt : i < n
  · refine .inr ⟨w.goes i H hlt q, Pv (i + 1), fun H' p' => ⟨n - (i + 1), by omega, rfl, hlt, p'⟩, fun x H' y => hs i x H H' hlt p (w.yields i H x H' hlt q y)⟩
  · have e : i = n := by omega
    subst e
    exact .inl ⟨w.stops H q, hd H p⟩
end L2
namespace HV
open PySem PySem.Spec PyProof.Rows L2
section
variable {D : Wd} {T : Tb} {Hs H Hs' H' : Hp} {ρ ρ' : List Addr} {h h' : Hm} {σ : L2.St} {env : Env} {X : Cx} {α β : Type}
theorem mergeD_app {α : Type} : ∀ (es ds : List (PV × α)) (k : PV) (v : α), mergeD ds (es ++ [(k, v)]) = putD (mergeD ds es) k v
  | [], _, _, _ => rfl
  | (j, u) :: es, ds, k, v => mergeD_app es (putD ds j u) k v
theorem KvRs.mono {ks : List (Key × V)} {ds : List (PV × Vl)} (h : Paired (KvR T Hs ρ) ks ds) (s : Same Hs Hs') (p : Pre ρ ρ') : Paired (KvR T Hs' ρ') ks ds := Paired.imp h fun _ _ r => ⟨r.1, r.2.mono s p⟩
theorem sem_ndc {src : Src} (sk : SrcOk src) {g : Vl → Env → Hm → Option Env} {c : Env → Hm → R Bool} {e u : Env → Hm → R Vl} {own ts : List Nat} (hts : ∀ i ∈ ts, i ∈ own) :
    ∀ σ H Q, semE D (ndcV own src g c e u) σ H Q → tDc (semI D src) (semG D.blk ts g) (semT D.blk c) (semE D.blk e) (semE D.blk u) own σ H Q := by
  intro σ H Q z
  obtain ⟨Hs, ρ, h, env, sy, er, p⟩ := z
  refine ⟨Hs, ρ, h, env, sy, er, ?_⟩
  unfold ndcV at p
  dsimp only at p
  cases w : src env h with
  | stuck => rw [w] at p; exact p
  | exc c ps h1 => rw [w] at p; exact p
  | ok dl h1 =>
    obtain ⟨ds, l⟩ := dl
    rw [w] at p
    intro H1 Hs1 ρ1 t1 p1 sy1 J hJ D0 hD0
    have lk := sk env h ds l h1 w
    have q1 : PostV D Q Hs1 H1 ρ1 (lockH l h1) ((lcN g c (pairE e u) (wipeE own env) ds (lockH l h1)).bind fun ys h => newD (mergeD [] ys) h) := Post.unlk sy1 lk (Post.back t1 p1 p)
    obtain ⟨G, Y, hsz, wk, hG, hY⟩ := hJ
    dsimp only at hsz wk hG hY
    obtain ⟨hs0, ho0⟩ := (sy1.lock (l := l)).nobody hD0
    have tr_other : ∀ {Hs2 H2 : Hp} {ρ2 : List Addr} {h2 : Hm} {o : HO}, TrH Hs1 H1 ρ1 (lockH l h1) Hs2 H2 ρ2 h2 → TrH Hs1 H1 ρ1 (lockH l h1) Hs2 (upd H2 D0 o) ρ2 h2 := fun {Hs2 H2 ρ2 h2 o} t =>
      ⟨t.mono, fun a u h1 h2 h3 => by rw [upd_ne (ne_of_none h1 hD0)]; exact t.keep a u h1 h2 h3, fun a h => by
        by_cases e : a = D0
        · rw [e]; exact hD0
        · rw [upd_ne e] at h; exact t.there a h, t.new, t.newO⟩
    refine dc_it wk (fun i H2 => ∃ Hs2 ρ2 h2 acc accd, TrH Hs1 H1 ρ1 (lockH l h1) Hs2 H2 ρ2 h2 ∧ Pre ρ1 ρ2 ∧ Sy D.T Hs2 H2 ρ2 h2 ∧ H2 D0 = some (.dK acc) ∧ Hs2 D0 = none ∧ ¬ Im ρ2 h2 D0 ∧ Paired (KvR D.T Hs2 ρ2) acc (mergeD [] accd) ∧ acc.length ≤ i ∧
        PostV D Q Hs1 H1 ρ1 (lockH l h1) ((lcN g c (pairE e u) (wipeE own env) (ds.drop i) h2).bind fun ys h => newD (mergeD [] (accd ++ ys)) h))
      ⟨Hs1, ρ1, lockH l h1, [], [], tr_other Tr.refl, Pre.refl, sy1.lock.other hs0 ho0, upd_same, hs0, ho0, .nil, Nat.le_refl _, by rw [List.drop_zero]; exact q1⟩ ?_ ?_ ?_
    · rintro i H2 hi ⟨Hs2, ρ2, h2, acc, accd, t2, p2, sy2, _⟩
      exact hG Hs2 H2 _ t2 sy2.sub
    · rintro i x H2 H3 hi ⟨Hs2, ρ2, h2, acc, accd, t2, p2, sy2, a1, a2, a3, a4, a5, q2⟩ y
      obtain ⟨Hs3, d, gr, hd, rx⟩ := hY i Hs2 H2 _ x H3 hi t2 sy2.sub y
      obtain ⟨sy3, t3⟩ := sy2.grow gr
      have gn := gr.none sy2.sub (a := D0) (by rw [a1]; simp)
      have es : ds.drop i = d :: ds.drop (i + 1) := by
        obtain ⟨hl, rfl⟩ := List.getElem?_eq_some_iff.mp hd
        exact List.drop_eq_getElem_cons hl
      rw [es] at q2
      simp only [lcN] at q2
      have er3 : EnvR D.T Hs3 ρ2 (L2.wipe σ own) (wipeE own env) := ((((er.mono t1.mono p1).mono t2.mono p2).mono t3.mono Pre.refl).wipe own)
      cases qg : g d (wipeE own env) h2 with
      | none => simp only [qg] at q2; exact q2.elim
      | some e2 =>
        simp only [qg] at q2
        refine ⟨Hs3, ρ2, h2, wipeE own env, d, sy3, er3, rx.mono (Same.refl _) p2, e2, qg, fun σ4 er4 hl4 hσ4 => ?_⟩
        rw [wipe_length] at hl4
        refine ⟨wipe_eq hl4 fun i hi => hσ4 i fun z => hi (hts i z), ?_⟩
        rw [sure_bind] at q2
        have keepD : ∀ {Hs6 H6 : Hp} {ρ6 : List Addr} {h6 : Hm}, TrH Hs3 H3 ρ2 h2 Hs6 H6 ρ6 h6 → H6 D0 = some (.dK acc) ∧ Hs6 D0 = none ∧ ¬ Im ρ6 h6 D0 := fun {Hs6 H6 ρ6 h6} t => by
          have n3 : Hs3 D0 = none := gn.1.trans a2
          have h3 : H3 D0 = some (.dK acc) := gn.2.trans a1
          refine ⟨t.keep D0 _ h3 n3 a3, ?_, fun z => ?_⟩
          · cases z : Hs6 D0 with
            | none => rfl
            | some o =>
              rcases t.new D0 o z with u | ⟨_, u | u⟩
              · rw [n3] at u; cases u
              · exact absurd u a3
              · rw [h3] at u; cases u
          · rcases t.newO D0 z with u | u
            · exact a3 u
            · rw [h3] at u; cases u
        refine ⟨Hs3, ρ2, h2, e2, sy3, er4, Post.sure q2 fun b h5 H5 Hs5 ρ5 t5 p5 sy5 q5 => ?_⟩
        cases b with
        | false =>
          rw [if_neg Bool.false_ne_true] at q5
          refine iteF ?_
          obtain ⟨k1, k2, k3⟩ := keepD t5
          have t35 := t3.trans t5
          exact ⟨Hs5, ρ5, h5, acc, accd, t2.trans t35, p2.trans p5, sy5, k1, k2, k3, KvRs.mono a4 t35.mono p5, by omega, q5⟩
        | true =>
          rw [if_pos rfl, sure_bind] at q5
          refine iteT ?_
          -- the key, then the value
          have pairS : ∀ {γ : Type} {k : PV × Vl → Hm → R γ}, ((pairE e u e2 h5).sure.bind k) = (e e2 h5).sure.bind fun kk h => (u e2 h).sure.bind fun vv h => (match kk with | .fz i => if isKey i = true then R.ok (i, vv) h else .stuck | _ => .stuck).bind k := fun {γ k} => by
            unfold pairE
            cases e e2 h5 with
            | stuck => rfl
            | exc c ps h => rfl
            | ok kk h6 =>
              simp only [R.bind, R.sure]
              cases u e2 h6 with
              | stuck => rfl
              | exc c ps h => rfl
              | ok vv h7 =>
                simp only [R.bind, R.sure]
                cases kk with
                | rf n => rfl
                | fz i =>
                  dsimp only
                  by_cases hk : isKey i = true
                  · rw [if_pos hk]
                  · rw [if_neg hk]
          rw [pairS] at q5
          refine ⟨Hs5, ρ5, h5, e2, sy5, er4.mono t5.mono p5, Post.sure q5 fun kk h6 H6 Hs6 ρ6 t6 p6 sy6 q6 yk ryk => ?_⟩
          refine ⟨Hs6, ρ6, h6, e2, sy6, (er4.mono t5.mono p5).mono t6.mono p6, Post.sure q6 fun vv h7 H7 Hs7 ρ7 t7 p7 sy7 q7 yv ryv => ?_⟩
          have t57 := (t5.trans t6).trans t7
          have t37 := t3.trans t57
          obtain ⟨k1, k2, k3⟩ := keepD t57
          cases kk with
          | rf n => exact q7.elim
          | fz i =>
            dsimp only at q7
            by_cases hk : isKey i = true
            · rw [if_pos hk] at q7
              obtain ⟨kx, kr, rfl⟩ := keyR_of (show RepV D.T Hs6 yk i from ryk) hk
              refine ⟨acc, kx, rfl, k1, Nat.lt_of_le_of_lt a5 (Nat.lt_of_lt_of_le hi hsz), ?_⟩
              have hlen := length_putK acc kx yv
              refine ⟨Hs7, ρ7, h7, putK acc kx yv, accd ++ [(i, vv)], tr_other (t2.trans t37), p2.trans (p5.trans (p6.trans p7)), sy7.other k2 k3, upd_same, k2, k3, ?_, by omega, ?_⟩
              · rw [mergeD_app]
                exact kv_put kr ryv (KvRs.mono a4 t37.mono (p5.trans (p6.trans p7)))
              · have eq : ∀ {o : R (List (PV × Vl))}, (o.bind fun ys h4 => R.ok ((i, vv) :: ys) h4).bind (fun ys h => newD (mergeD [] (accd ++ ys)) h) = o.bind fun ys h => newD (mergeD [] (accd ++ [(i, vv)] ++ ys)) h := fun {o} => by
                  cases o <;> simp [R.bind]
                have q8 : PostV D Q Hs1 H1 ρ1 (lockH l h1) (((lcN g c (pairE e u) (wipeE own env) _ h7).bind fun ys h4 => R.ok ((i, vv) :: ys) h4).bind fun ys h => newD (mergeD [] (accd ++ ys)) h) := q7
                rw [eq] at q8
                exact q8
            · rw [if_neg hk] at q7; exact q7.elim
    · rintro H2 ⟨Hs2, ρ2, h2, acc, accd, t2, p2, sy2, a1, a2, a3, a4, a5, q2⟩
      rw [List.drop_length] at q2
      have q3 : PostV D Q Hs1 H1 ρ1 (lockH l h1) (newD (mergeD [] (accd ++ [])) h2) := q2
      rw [List.append_nil] at q3
      have s2 := sy2.take_in (o := .dct (mergeD [] accd)) a2 a3 ⟨acc, a1, by rw [← Paired.length a4]; exact Nat.le_trans a5 hsz, KvRs.mono a4 (Same.refl _) Pre.app⟩
      refine q3 H2 Hs2 (ρ2 ++ [D0]) ⟨t2.mono, t2.keep, t2.there, t2.new, fun b z => ?_⟩ (p2.trans Pre.app) s2 (.ref D0) ⟨D0, by rw [← sy2.len]; simp, rfl⟩
      rcases im_app sy2.len z with z | ⟨rfl, _⟩
      · exact t2.newO b z
      · exact .inr hD0
end
end HV

end

section
/-! V8e: a comprehension over a dict's keys, the dict read within. -/
namespace HV
open PySem PySem.Spec PyProof.Rows L2
section
variable {D : Wd} {T : Tb} {Hs H Hs' H' : Hp} {ρ ρ' : List Addr} {h h' : Hm} {σ : L2.St} {env : Env} {X : Cx} {α β : Type}
theorem keyR_rep {k : Key} {e : PV} (h : KeyR k e) : RepV T Hs (kV k) e := by
  cases h with
  | int i => exact .int i
  | str s z => exact .str s z
/-! ### without the dict at a -/
section
variable {a : Addr} {od : Obj} {ks : List (Key × V)}
def offH (Hs : Hp) (a : Addr) : Hp := fun b => if b = a then none else Hs b
theorem off_ne {b : Addr} (h : b ≠ a) : offH Hs a b = Hs b := if_neg h
theorem off_same : offH Hs a a = none := if_pos rfl
mutual
theorem RepV.off (ha : Hs a = some (.frz od (.dK ks))) : ∀ {v : V} {d : PV}, RepV T Hs v d → noD d = true → RepV T (offH Hs a) v d
  | _, _, .non, _ => .non
  | _, _, .bl b, _ => .bl b
  | _, _, .int b, _ => .int b
  | _, _, .str b h, _ => .str b h
  | _, _, .scr (a := p) h z, _ => .scr (by
      rcases h with (h | ⟨o, h⟩) | h
      · exact .inl (.inl (by rw [off_ne (fun e => by rw [e, ha] at h; cases h)]; exact h))
      · exact .inl (.inr ⟨o, by rw [off_ne (fun e => by rw [e, ha] at h; cases h)]; exact h⟩)
      · exact .inr h) z
  | _, _, .lst (a := p) h z r, e => .lst (by rw [off_ne (fun e => by rw [e, ha] at h; cases h)]; exact h) z (RepVs.off ha r (by simpa [noD] using e))
  | _, _, .tup (a := p) h z r, e => .tup (by rw [off_ne (fun e => by rw [e, ha] at h; cases h)]; exact h) z (RepVs.off ha r (by simpa [noD] using e))
  | _, _, .dct h z r, e => by simp [noD] at e
  | _, _, .obj (a := p) h c r, e => .obj (by rw [off_ne (fun e => by rw [e, ha] at h; cases h)]; exact h) c (RepFs.off ha r (by simpa [noD] using e))
  | _, _, .cls h, _ => .cls h
  | _, _, .ty n, _ => .ty n
theorem RepVs.off (ha : Hs a = some (.frz od (.dK ks))) : ∀ {v : List V} {d : List PV}, RepVs T Hs v d → noDs d = true → RepVs T (offH Hs a) v d
  | _, _, .nil, _ => .nil
  | _, _, .cons h r, e => by
    simp only [noDs, Bool.and_eq_true] at e
    exact .cons (RepV.off ha h e.1) (RepVs.off ha r e.2)
theorem RepFs.off (ha : Hs a = some (.frz od (.dK ks))) : ∀ {v : List (Str × V)} {d : List (Nat × PV)}, RepFs T Hs v d → noDf d = true → RepFs T (offH Hs a) v d
  | _, _, .nil, _ => .nil
  | _, _, .cons h r, e => by
    simp only [noDf, Bool.and_eq_true] at e
    exact .cons (RepV.off ha h e.1) (RepFs.off ha r e.2)
end
theorem VlR.off (ha : Hs a = some (.frz od (.dK ks))) {v : V} {x : Vl} (r : VlR T Hs ρ v x) (e : noV x = true) : VlR T (offH Hs a) ρ v x := by
  cases x with
  | fz d => exact RepV.off ha r e
  | rf n => exact r
theorem Paired.offG {γ δ : Type} {F G : γ → δ → Prop} {q : δ → Bool} (k : ∀ x y, F x y → q y = true → G x y) : ∀ {xs : List γ} {ys : List δ}, Paired F xs ys → ys.all q = true → Paired G xs ys
  | _, _, .nil, _ => .nil
  | _, _, .cons r t, e => by
    simp only [List.all_cons, Bool.and_eq_true] at e
    exact .cons (k _ _ r e.1) (Paired.offG k t e.2)
theorem mor_off (ha : Hs a = some (.frz od (.dK ks))) {b : Addr} {o : MO} (hb : b ≠ a) {u : HO} (r : MOR T Hs H ρ b o) (e : noO (some o) = true) : MOR T (offH Hs a) (upd H a u) ρ b o := by
  cases o with
  | lst xs => obtain ⟨vs, h1, h2, h3⟩ := r; exact ⟨vs, by rw [upd_ne hb]; exact h1, h2, Paired.offG (q := noV) (fun _ _ z q => VlR.off ha z q) h3 e⟩
  | dct kvs => obtain ⟨vs, h1, h2, h3⟩ := r; exact ⟨vs, by rw [upd_ne hb]; exact h1, h2, Paired.offG (q := fun kv : PV × Vl => noV kv.2) (fun _ _ z q => ⟨z.1, VlR.off ha z.2 q⟩) h3 e⟩
  | ins c fs => obtain ⟨C, dx, gs, h1, h2, h3, h4⟩ := r; exact ⟨C, dx, gs, by rw [upd_ne hb]; exact h1, h2, h3, Paired.offG (q := fun kv : Nat × Vl => noV kv.2) (fun _ _ z q => ⟨z.1, VlR.off ha z.2 q⟩) h4 e⟩
end
/-- locked: the dict n at a is read as a thing that stays -/
theorem Sy.lockD {n : Nat} {a : Addr} {kvs : List (PV × Vl)} {ks : List (Key × V)} (od : Obj) (sy : Sy T Hs H ρ h) (w : h[n]? = some (some (.dct kvs))) (ha : ρ[n]? = some a) (hs : Hs a = none) :
    Sy T (upd Hs a (.frz od (.dK ks))) (upd H a (.frz od (.dK ks))) ρ (h.set n none) := by
  have sm : Same Hs (upd Hs a (.frz od (.dK ks))) := fun b o z => by rw [upd_ne (fun e => by rw [e, hs] at z; cases z)]; exact z
  have ne : ∀ {m : Nat} {o : MO} {b : Addr}, (h.set n none)[m]? = some (some o) → ρ[m]? = some b → b ≠ a ∧ h[m]? = some (some o) := fun {m o b} e1 e2 => by
    rcases get_set e1 with ⟨_, z, _⟩ | ⟨nm, e1⟩
    · cases z
    · exact ⟨fun z => nm (sy.inj m n a o _ e1 w (z ▸ e2) ha), e1⟩
  refine ⟨fun b o z => ?_, by rw [List.length_set]; exact sy.len, fun i j b o u e1 e2 e3 e4 => ?_, fun m o b e1 e2 => ?_⟩
  · by_cases e : b = a
    · subst e; rw [upd_same] at z ⊢; exact z
    · rw [upd_ne e] at z ⊢; exact sy.sub b o z
  · exact sy.inj i j b o u (ne e1 e3).2 (ne e2 e4).2 e3 e4
  · obtain ⟨nb, e1⟩ := ne e1 e2
    obtain ⟨k1, k2⟩ := sy.ob m o b e1 e2
    exact ⟨by rw [upd_ne nb]; exact k1, k2.move sm Pre.refl fun u z => by rw [upd_ne nb]; exact z⟩
/-- unlocked again -/
theorem Sy.unlkD {n : Nat} {a : Addr} {kvs : List (PV × Vl)} {ks : List (Key × V)} {od : Obj} (sy : Sy T Hs H ρ h) (w : h[n]? = some (some (.dct kvs))) (ha : ρ[n]? = some a) (hs : Hs a = none) (hk : H a = some (.dK ks)) (hz : kvs.length ≤ sizeLine) (hr : Paired (KvR T Hs ρ) ks kvs)
    (t : TrH (upd Hs a (.frz od (.dK ks))) (upd H a (.frz od (.dK ks))) ρ (h.set n none) Hs' H' ρ' h') (p : Pre ρ ρ') (sy' : Sy T Hs' H' ρ' h') (e : h'.all noO = true) :
    Hs' a = some (.frz od (.dK ks)) ∧ H' a = some (.frz od (.dK ks)) ∧ Sy T (offH Hs' a) (upd H' a (.dK ks)) ρ' (h'.set n (some (.dct kvs))) ∧ TrH Hs H ρ h (offH Hs' a) (upd H' a (.dK ks)) ρ' (h'.set n (some (.dct kvs))) := by
  have a1 : Hs' a = some (.frz od (.dK ks)) := t.mono a _ upd_same
  have a2 : H' a = some (.frz od (.dK ks)) := sy'.sub a _ a1
  have ha' := p n a ha
  have hn' : n < h'.length := by rw [← sy'.len]; exact (List.getElem?_eq_some_iff.mp ha').1
  have sm : Same Hs (offH Hs' a) := fun b o z => by
    have nb : b ≠ a := fun e => by rw [e, hs] at z; cases z
    rw [off_ne nb]
    exact t.mono b o (by rw [upd_ne nb]; exact z)
  have ne : ∀ {m : Nat} {o : MO} {b : Addr}, h'[m]? = some (some o) → ρ'[m]? = some b → b ≠ a := fun {m o b} e1 e2 z => by
    have := (sy'.ob m o b e1 e2).1
    rw [z, a1] at this
    cases this
  have imA : Im ρ h a := ⟨n, _, w, ha⟩
  refine ⟨a1, a2, ⟨fun b o z => ?_, by rw [List.length_set]; exact sy'.len, fun i j b o u e1 e2 e3 e4 => ?_, fun m o b e1 e2 => ?_⟩, ⟨sm, fun b u h1 h2 h3 => ?_, fun b z => ?_, fun b o z => ?_, fun b z => ?_⟩⟩
  · have nb : b ≠ a := fun e => by rw [e, off_same] at z; cases z
    rw [off_ne nb] at z
    rw [upd_ne nb]
    exact sy'.sub b o z
  · rcases get_set e1 with ⟨x1, _, _⟩ | ⟨n1, y1⟩
    · rcases get_set e2 with ⟨x2, _, _⟩ | ⟨n2, y2⟩
      · exact x1.trans x2.symm
      · rw [x1, ha'] at e3; cases e3; exact absurd rfl (ne y2 e4)
    · rcases get_set e2 with ⟨x2, _, _⟩ | ⟨n2, y2⟩
      · rw [x2, ha'] at e4; cases e4; exact absurd rfl (ne y1 e3)
      · exact sy'.inj i j b o u y1 y2 e3 e4
  · rcases get_set e1 with ⟨rfl, z, _⟩ | ⟨n1, e1⟩
    · rw [ha'] at e2
      cases e2
      cases z
      exact ⟨off_same, ks, upd_same, hz, Paired.imp hr fun _ _ r => ⟨r.1, r.2.mono sm p⟩⟩
    · have nb := ne e1 e2
      obtain ⟨k1, k2⟩ := sy'.ob m o b e1 e2
      have ho : noO (some o) = true := List.all_eq_true.mp e _ (List.mem_of_getElem? e1)
      exact ⟨by rw [off_ne nb]; exact k1, mor_off a1 nb k2 ho⟩
  · have nb : b ≠ a := fun e => h3 (e ▸ imA)
    rw [upd_ne nb]
    exact t.keep b u (by rw [upd_ne nb]; exact h1) (by rw [upd_ne nb]; exact h2) fun z => h3 (im_kill z)
  · have nb : b ≠ a := fun e => by rw [e, upd_same] at z; cases z
    rw [upd_ne nb] at z
    have := t.there b z
    rw [upd_ne nb] at this
    exact this
  · have nb : b ≠ a := fun e => by rw [e, off_same] at z; cases z
    rw [off_ne nb] at z
    rcases t.new b o z with u | ⟨u1, u2 | u2⟩
    · rw [upd_ne nb] at u; exact .inl u
    · rw [upd_ne nb] at u1; exact .inr ⟨u1, .inl (im_kill u2)⟩
    · rw [upd_ne nb] at u1 u2; exact .inr ⟨u1, .inr u2⟩
  · rcases im_set z with z | ⟨z, _⟩
    · have nb : b ≠ a := fun e => by
        obtain ⟨m, o, e1, e2⟩ := z
        exact ne e1 e2 e
      rcases t.newO b z with u | u
      · exact .inl (im_kill u)
      · rw [upd_ne nb] at u; exact .inr u
    · rw [ha'] at z; cases z; exact .inl imA
theorem srcK_ok {i : Nat} : SrcOk (srcK i) := by
  intro env h ds l h' e
  unfold srcK at e
  split at e
  · cases e; trivial
  · cases e
theorem keys_of {i : Nat} {a : Addr} {od : Obj} {ks : List (Key × V)} {Q : It → Hp → Prop} (hσ : σ[i]? = some (some (.ref a))) (hH : H a = some (.frz od (.dK ks))) (z : semI D (srcK i) σ H Q) : iKeys (tVar i) σ H Q := by
  obtain ⟨Hs, ρ, h, env, sy, er, p⟩ := z
  unfold srcK at p
  split at p
  · rename_i ds w
    obtain ⟨u, h1, h2⟩ := er.2 i _ w
    rw [hσ] at h1
    cases h1
    replace h2 : RepV D.T Hs (.ref a) (.dct ds) := h2
    cases h2 with
    | dct hr hz rr =>
      rename_i ks'
      rcases hr with hr | ⟨o, hr⟩
      · have := sy.sub _ _ hr
        rw [hH] at this
        cases this
      · have e2 := sy.sub _ _ hr
        rw [hH] at e2
        cases e2
        refine ⟨.ref a, hσ, a, od, rfl, .inl ⟨ks, hH, p H Hs ρ Tr.refl Pre.refl sy _ ?_⟩⟩
        refine ⟨fun H => H a = some (.frz od (.dK ks)), _, by rw [List.length_map]; exact hz, by rw [List.length_map, ← rr.length]; exact walk_keys, fun Hs2 H2 O2 t s => s _ _ (t.mono _ _ hr), fun j Hs2 H2 O2 x H' hj t s y => ?_⟩
        obtain ⟨rfl, k, v, e1, rfl⟩ := y
        obtain ⟨d, g1, g2⟩ := Paired.getL (fz_repks (ρ := ρ) rr) e1
        rw [List.getElem?_map] at g1
        cases g3 : ds[j]? with
        | none => rw [g3] at g1; cases g1
        | some kv =>
          rw [g3] at g1
          cases g1
          exact ⟨Hs2, .fz kv.1, .refl, by rw [List.getElem?_map, g3]; rfl, keyR_rep g2.1⟩
  · exact p.elim
theorem sem_lcK {i : Nat} {g : Vl → Env → Hm → Option Env} {c : Env → Hm → R Bool} {e : Env → Hm → R Vl} {own ts : List Nat} (hts : ∀ i ∈ ts, i ∈ own) :
    ∀ σ H Q, semE D (lcKV own i g c e) σ H Q → tLockE (tLc (iKeys (tVar i)) (semG D.blk ts g) (semT D.blk c) (semE D.blk e) own) σ H Q := by
  intro σ H Q z
  obtain ⟨Hs, ρ, h, env, sy, er, p⟩ := z
  unfold lcKV at p
  split at p
  · rename_i n w
    split at p
    · rename_i kvs w2
      split at p
      · rename_i ds w3
        obtain ⟨u, h1, a, ha, rfl⟩ := er.2 i _ w
        obtain ⟨hs, ks, hk, hz, hr⟩ := sy.ob n _ a w2 ha
        refine ⟨a, .dK ks, hk, trivial, fun od => ?_⟩
        have rk := allFd_ok hr w3
        have hzd : ds.length ≤ sizeLine := by rw [← rk.length, Paired.length hr]; exact hz
        have sy1 : Sy D.T (upd Hs a (.frz od (.dK ks))) (upd H a (.frz od (.dK ks))) ρ (h.set n none) := sy.lockD od w2 ha hs
        have sm : Same Hs (upd Hs a (.frz od (.dK ks))) := fun b o z => by rw [upd_ne (fun e => by rw [e, hs] at z; cases z)]; exact z
        have er1 : EnvR D.T (upd Hs a (.frz od (.dK ks))) ρ σ (env.set i (some (.fz (.dct ds)))) := by
          refine ⟨by rw [List.length_set]; exact er.1, fun j v e => ?_⟩
          rcases get_set e with ⟨rfl, e, _⟩ | ⟨_, e⟩
          · cases e
            exact ⟨_, h1, RepV.dct (.inr ⟨od, upd_same⟩) hzd (rk.mono sm)⟩
          · obtain ⟨u, g1, g2⟩ := er.2 j v e
            exact ⟨u, g1, g2.mono sm Pre.refl⟩
        have hi : i < env.length := (List.getElem?_eq_some_iff.mp w).1
        have key := sem_lcG (D := D) (src := srcK i) (srcK_ok) (g := g) (c := c) (te := semE D.blk e) (eb := frzR e) (own := own) hts (fun ys h => if noDs ys = true ∧ h.all noO = true then .ok (.fz (.lst ys)) h else .stuck) (ok := fun Hs ρ v d => RepV D.T Hs v d) (fun _ _ _ _ v b s _ r => r.mono s)
          (fun σ H Q z => by
            obtain ⟨Hs, ρ, h, env, sy, er, p⟩ := z
            refine ⟨Hs, ρ, h, env, sy, er, Post.bind (f := HV.frz) p fun a h1 H1 Hs1 ρ1 t1 p1 sy1 q1 v rv => ?_⟩
            obtain ⟨Hs2, h2, d, _, _, r2, q2⟩ := Post.frz (D := D.blk) sy1 rv q1
            exact q2 v r2)
          (fun Hs1 H1 ρ1 h1 Hs H ρ h acc ys D0 Q hD0 t p sy a1 a2 a3 a4 a5 q => by
            by_cases hc : noDs ys = true ∧ h.all noO = true
            · rw [if_pos hc] at q
              have sb : Same Hs (upd Hs D0 (.lst acc)) := fun b w z => by rw [upd_ne (ne_of_none z a2)]; exact z
              have r5 := RepVs.ofP a5
              refine q H (upd Hs D0 (.lst acc)) ρ ⟨t.mono.trans sb, t.keep, t.there, fun b w z => ?_, t.newO⟩ p (sy.tell a1 a2 a3) (.ref D0) (RepV.lst upd_same (by rw [← r5.length]; exact a4) (r5.mono sb))
              by_cases e : b = D0
              · subst e
                refine .inr ⟨?_, .inr hD0⟩
                cases u : Hs1 b with
                | none => rfl
                | some o => rw [t.mono b o u] at a2; cases a2
              · rw [upd_ne e] at z; exact t.new b w z
            · rw [if_neg hc] at q; exact q.elim)
          σ (upd H a (.frz od (.dK ks))) (fun v H' => H' a = some (.frz od (.dK ks)) ∧ Q v (upd H' a (.dK ks))) ⟨_, ρ, h.set n none, _, sy1, er1, ?_⟩
        · exact keys_of h1 upd_same key
        · dsimp only [srcK]
          rw [List.getElem?_set_self hi]
          dsimp only
          simp only [R.bind, lockH]
          show PostV D _ _ _ ρ (h.set n none) (unlkR [] ((lcN g c (frzR e) (wipeE own (env.set i (some (.fz (.dct ds))))) (ds.map fun kv => .fz kv.1) (h.set n none)).bind fun ys h => if noDs ys = true ∧ h.all noO = true then .ok (.fz (.lst ys)) h else .stuck))
          cases o : lcN g c (frzR e) (wipeE own (env.set i (some (.fz (.dct ds))))) (ds.map fun kv => .fz kv.1) (h.set n none) with
          | stuck => rw [o] at p; exact p.elim
          | exc c ps h1 => rw [o] at p; exact p.elim
          | ok ys h1 =>
            rw [o] at p
            simp only [R.sure, R.bind] at p ⊢
            by_cases hc : noDs ys = true ∧ h1.all noO = true
            · rw [if_pos hc] at p ⊢
              intro H2 Hs2 ρ2 t2 p2 sy2 v rv
              obtain ⟨a1, a2, s3, t3⟩ := sy.unlkD w2 ha hs hk hz hr t2 p2 sy2 hc.2
              exact ⟨a2, p _ _ _ t3 p2 s3 v (RepV.off a1 rv (by simpa [noD] using hc.1))⟩
            · rw [if_neg hc] at p; exact p.elim
      · exact p.elim
    · exact p.elim
  · exact p.elim
end
end HV

end

section
/-! V9: the deep syntax against the text. -/
namespace HV
open PySem PySem.Spec PyProof.Rows L2
/-! ### views of expressions -/
def vConst : Expr → Option (Const × Nat × Pos)
  | .Constant c j p => some ((c, j, p))
  | _ => none
theorem vConst_ok {e : Expr} {r : Const × Nat × Pos} (h : vConst e = some r) : e = (match r with | (c, j, p) => .Constant c j p) := by
  unfold vConst at h
  split at h
  · cases h; rfl
  · cases h
def vName : Expr → Option (Str × Pos)
  | .Name x p => some ((x, p))
  | _ => none
theorem vName_ok {e : Expr} {r : Str × Pos} (h : vName e = some r) : e = (match r with | (x, p) => .Name x p) := by
  unfold vName at h
  split at h
  · cases h; rfl
  · cases h
def vBin : Expr → Option (Expr × Operator × Expr × Pos)
  | .BinOp a op b p => some ((a, op, b, p))
  | _ => none
theorem vBin_ok {e : Expr} {r : Expr × Operator × Expr × Pos} (h : vBin e = some r) : e = (match r with | (a, op, b, p) => .BinOp a op b p) := by
  unfold vBin at h
  split at h
  · cases h; rfl
  · cases h
def vCmp1 : Expr → Option (Expr × CmpOp × Expr × Pos)
  | .Compare a [op] [b] p => some ((a, op, b, p))
  | _ => none
theorem vCmp1_ok {e : Expr} {r : Expr × CmpOp × Expr × Pos} (h : vCmp1 e = some r) : e = (match r with | (a, op, b, p) => .Compare a [op] [b] p) := by
  unfold vCmp1 at h
  split at h
  · cases h; rfl
  · cases h
def vCmp2 : Expr → Option (Expr × CmpOp × Expr × CmpOp × Expr × Pos)
  | .Compare a [op, op'] [b, c] p => some ((a, op, b, op', c, p))
  | _ => none
theorem vCmp2_ok {e : Expr} {r : Expr × CmpOp × Expr × CmpOp × Expr × Pos} (h : vCmp2 e = some r) : e = (match r with | (a, op, b, op', c, p) => .Compare a [op, op'] [b, c] p) := by
  unfold vCmp2 at h
  split at h
  · cases h; rfl
  · cases h
def vUn : Expr → Option (UnaryOp × Expr × Pos)
  | .UnaryOp op a p => some ((op, a, p))
  | _ => none
theorem vUn_ok {e : Expr} {r : UnaryOp × Expr × Pos} (h : vUn e = some r) : e = (match r with | (op, a, p) => .UnaryOp op a p) := by
  unfold vUn at h
  split at h
  · cases h; rfl
  · cases h
def vBool : Expr → Option (BoolOp × Expr × Expr × List Expr × Pos)
  | .BoolOp op (a :: b :: r) p => some ((op, a, b, r, p))
  | _ => none
theorem vBool_ok {e : Expr} {r : BoolOp × Expr × Expr × List Expr × Pos} (h : vBool e = some r) : e = (match r with | (op, a, b, r, p) => .BoolOp op (a :: b :: r) p) := by
  unfold vBool at h
  split at h
  · cases h; rfl
  · cases h
def vIf : Expr → Option (Expr × Expr × Expr × Pos)
  | .IfExp c a b p => some ((c, a, b, p))
  | _ => none
theorem vIf_ok {e : Expr} {r : Expr × Expr × Expr × Pos} (h : vIf e = some r) : e = (match r with | (c, a, b, p) => .IfExp c a b p) := by
  unfold vIf at h
  split at h
  · cases h; rfl
  · cases h
def vList : Expr → Option (List Expr × Pos)
  | .List xs p => some ((xs, p))
  | _ => none
theorem vList_ok {e : Expr} {r : List Expr × Pos} (h : vList e = some r) : e = (match r with | (xs, p) => .List xs p) := by
  unfold vList at h
  split at h
  · cases h; rfl
  · cases h
def vTup : Expr → Option (List Expr × Nat × Pos)
  | .Tuple xs j p => some ((xs, j, p))
  | _ => none
theorem vTup_ok {e : Expr} {r : List Expr × Nat × Pos} (h : vTup e = some r) : e = (match r with | (xs, j, p) => .Tuple xs j p) := by
  unfold vTup at h
  split at h
  · cases h; rfl
  · cases h
def vAtt : Expr → Option (Expr × Str × Pos)
  | .Attribute a g p => some ((a, g, p))
  | _ => none
theorem vAtt_ok {e : Expr} {r : Expr × Str × Pos} (h : vAtt e = some r) : e = (match r with | (a, g, p) => .Attribute a g p) := by
  unfold vAtt at h
  split at h
  · cases h; rfl
  · cases h
def vSub : Expr → Option (Expr × Expr × Pos)
  | .Subscript a b p => some ((a, b, p))
  | _ => none
theorem vSub_ok {e : Expr} {r : Expr × Expr × Pos} (h : vSub e = some r) : e = (match r with | (a, b, p) => .Subscript a b p) := by
  unfold vSub at h
  split at h
  · cases h; rfl
  · cases h
def vSlc : Expr → Option (Expr × Option Expr × Option Expr × Pos × Pos)
  | .Subscript a (.Slice l u none q) p => some ((a, l, u, q, p))
  | _ => none
theorem vSlc_ok {e : Expr} {r : Expr × Option Expr × Option Expr × Pos × Pos} (h : vSlc e = some r) : e = (match r with | (a, l, u, q, p) => .Subscript a (.Slice l u none q) p) := by
  unfold vSlc at h
  split at h
  · cases h; rfl
  · cases h
def vCallN : Expr → Option (Str × Pos × List Expr × Pos)
  | .Call (.Name f q) xs [] p => some ((f, q, xs, p))
  | _ => none
theorem vCallN_ok {e : Expr} {r : Str × Pos × List Expr × Pos} (h : vCallN e = some r) : e = (match r with | (f, q, xs, p) => .Call (.Name f q) xs [] p) := by
  unfold vCallN at h
  split at h
  · cases h; rfl
  · cases h
def vCallM : Expr → Option (Expr × Str × Pos × List Expr × Pos)
  | .Call (.Attribute a n q) xs [] p => some ((a, n, q, xs, p))
  | _ => none
theorem vCallM_ok {e : Expr} {r : Expr × Str × Pos × List Expr × Pos} (h : vCallM e = some r) : e = (match r with | (a, n, q, xs, p) => .Call (.Attribute a n q) xs [] p) := by
  unfold vCallM at h
  split at h
  · cases h; rfl
  · cases h
def vLc : Expr → Option (Expr × Expr × Expr × List Expr × Scope × Pos)
  | .ListComp elt [⟨tg, iter, ifs, 0⟩] scope p => some ((elt, tg, iter, ifs, scope, p))
  | _ => none
theorem vLc_ok {e : Expr} {r : Expr × Expr × Expr × List Expr × Scope × Pos} (h : vLc e = some r) : e = (match r with | (elt, tg, iter, ifs, scope, p) => .ListComp elt [⟨tg, iter, ifs, 0⟩] scope p) := by
  unfold vLc at h
  split at h
  · cases h; rfl
  · cases h
def vRev : Expr → Option (Expr × Int × Nat × Pos × Pos × Pos × Pos)
  | .Subscript a (.Slice none none (some (.UnaryOp .USub (.Constant (.int i) j p1) p2)) p3) p => some ((a, i, j, p1, p2, p3, p))
  | _ => none
theorem vRev_ok {e : Expr} {r : Expr × Int × Nat × Pos × Pos × Pos × Pos} (h : vRev e = some r) : e = (match r with | (a, i, j, p1, p2, p3, p) => .Subscript a (.Slice none none (some (.UnaryOp .USub (.Constant (.int i) j p1) p2)) p3) p) := by
  unfold vRev at h
  split at h
  · cases h; rfl
  · cases h
def vDct0 : Expr → Option Pos
  | .Dict [] [] p => some p
  | _ => none
theorem vDct0_ok {e : Expr} {p : Pos} (h : vDct0 e = some p) : e = .Dict [] [] p := by
  unfold vDct0 at h
  split at h
  · cases h; rfl
  · cases h
def vDc : Expr → Option (Expr × Expr × Expr × Expr × List Expr × Scope × Pos)
  | .DictComp kx vx [⟨tg, iter, ifs, 0⟩] scope p => some ((kx, vx, tg, iter, ifs, scope, p))
  | _ => none
theorem vDc_ok {e : Expr} {r : Expr × Expr × Expr × Expr × List Expr × Scope × Pos} (h : vDc e = some r) : e = (match r with | (kx, vx, tg, iter, ifs, scope, p) => .DictComp kx vx [⟨tg, iter, ifs, 0⟩] scope p) := by
  unfold vDc at h
  split at h
  · cases h; rfl
  · cases h
/-! ### the tables a text is read by -/
structure Et where
  /-- a def: its name -/
  fn : Nat → Option Nat
  /-- a method's def: its class, its name -/
  md : Nat → Option (Nat × Nat)
  /-- a class's __init__: the class's name, the class -/
  nw : Nat → Option (Nat × Nat)
def okN (x : Str) : Bool := !(x == ("__debug__" : Str)) && !(x == ("__classdict__" : Str)) && !(x == ("__name__" : Str))
def visB (sc : Scope) (x : Str) : Bool := match sc.names.lookup x with
  | some .local => true
  | some .cell => true
  | some .free => true
  | _ => false
def locB (sc : Scope) (x : Str) : Bool := match sc.names.lookup x with
  | some .local => true
  | _ => false
def gloB (sc : Scope) (x : Str) : Bool := match sc.names.lookup x with
  | some .globalImplicit => true
  | _ => false
def cstB : PV → Const → Bool
  | .non, .none => true
  | .bl b, .bool c => b == c
  | .int i, .int j => decide (i = j)
  | .str s, .str x => decide (x = tx s) && (decide (s.length ≤ 16777216) && s.all fun c => decide (c < 1114112))
  | _, _ => false
def varB (N : List Str) (sc : Scope) (i : Nat) (x : Str) : Bool := decide (N[i]? = some x) && (visB sc x && okN x)
def b1N : Nat → Str
  | 0 => "int" | 1 => "all" | _ => "any"
def s1N : Nat → Str
  | 0 => "list" | 1 => "tuple" | _ => "dict"
/-- a test that is its value's truth -/
def tvalX : Expr → Bool
  | .UnaryOp .Not _ _ => false
  | .BoolOp .. => false
  | .IfExp .. => false
  | .Compare .. => false
  | _ => true
theorem tval_of {e : Expr} {ev : PySem.Env} (h : tvalX e = true) : ∀ whole, isTrue e ev whole = (do let v ← whole; standAt e.pos; holding [v] (truthy v)) := by
  intro whole
  cases e with
  | UnaryOp op x p => cases op <;> first | rfl | (cases h)
  | _ => first | rfl | (cases h)
theorem pw_of {X : Cx} {op : BoolOp} {vs : List Expr} {pos : Pos} {t : TT} (h : PT X (.BoolOp op vs pos) t) : PW X (.BoolOp op vs pos) t := ⟨fun wh pins s σ H Q I z => by
  have q := h.run pins s σ H Q I z
  have e : isTrue (.BoolOp op vs pos) X.env wh = isTrue (.BoolOp op vs pos) X.env (eval (.BoolOp op vs pos) X.env) := rfl
  rw [e]
  exact q⟩
/-- the scope a text is read in; which of its names are cells of its own -/
structure Ct where
  sc : Scope
  fn : Str → Bool
def relS (scope sc : Scope) : Scope := { scope with names := scope.names.map fun (n, k) => if (k == NameKind.free && sc.kind == .function && sc.names.lookup n == some .cell) then (n, NameKind.cell) else (n, k) }
def Ct.blk (ct : Ct) (scope : Scope) : Ct := ⟨relS scope ct.sc, fun x => scope.names.lookup x == some .cell⟩
def locC (ct : Ct) (x : Str) : Bool := match ct.sc.names.lookup x with
  | some .local => true
  | some .cell => ct.fn x
  | _ => false
mutual
def mg (N : List Str) (ct : Ct) : Tg → Expr → Bool
  | .nm i, .Name x _ => decide (N[i]? = some x) && locC ct x
  | .tp ts, .Tuple xs _ _ => mgs N ct ts xs
  | _, _ => false
def mgs (N : List Str) (ct : Ct) : Tgs → List Expr → Bool
  | .nil, [] => true
  | .cons t r, x :: xs => mg N ct t x && mgs N ct r xs
  | _, _ => false
end
mutual
def Tg.ix : Tg → List Nat
  | .nm i => [i]
  | .tp ts => Tgs.ix ts
def Tgs.ix : Tgs → List Nat
  | .nil => []
  | .cons t r => Tg.ix t ++ Tgs.ix r
end
def tupX : Expr → Bool
  | .Tuple .. => true
  | _ => false
def setX : Expr → Bool
  | .Set .. => true
  | _ => false
def isYes : Ts → Bool
  | .yes => true
  | _ => false
def ownP (N : List Str) (own : List Nat) : List (Str × Nat) := own.map fun i => (N.getD i "", i)
def subP (p : Nat → Bool) : List Nat → Bool
  | [] => true
  | i :: r => p i && subP p r
def isNilE : Es → Bool
  | .nil => true
  | _ => false
section
variable (E : Et) (N : List Str)
mutual
def mx (ct : Ct) : Ex → Expr → Bool
  | .cst d, x => (match vConst x with | some (c, _, _) => cstB d c | none => false)
  | .var i, x => (match vName x with | some (x, _) => varB N ct.sc i x | none => false)
  | .glo g, x => (match vName x with | some (x, _) => decide (x = nmS g) && (gloB ct.sc x && okN x) | none => false)
  | .bin k a b, x => (match vBin x with | some (l, op, r, _) => decide (k < 6) && (decide (op = binOf k) && (mx ct a l && mx ct b r)) | none => false)
  | .cmp k a b, x => (match vCmp1 x with | some (l, op, r, _) => decide (k < 10) && (decide (op = cmpOf k) && (!behindInMarks op r && (mx ct a l && mx ct b r))) | none => false)
  | .chn k j a b c, x => (match vCmp2 x with | some (l, op, r, op', r', _) => decide (k < 10 ∧ j < 10) && (decide (op = cmpOf k ∧ op' = cmpOf j) && (!behindInMarks op' r' && (mx ct a l && (mx ct b r && mx ct c r')))) | none => false)
  | .neg a, x => (match vUn x with | some (.USub, y, _) => mx ct a y | _ => false)
  | .and a b, x => (match vBool x with
    | some (.And, x, y, [], _) => mx ct a x && mx ct b y
    | some (.And, x, y, r, p) => mx ct a x && mx ct b (.BoolOp .And (y :: r) p)
    | _ => false)
  | .or a b, x => (match vBool x with
    | some (.Or, x, y, [], _) => mx ct a x && mx ct b y
    | some (.Or, x, y, r, p) => mx ct a x && mx ct b (.BoolOp .Or (y :: r) p)
    | _ => false)
  | .not a, x => (match vUn x with | some (.Not, y, _) => mx ct a y | _ => false)
  | .ite c a b, x => (match vIf x with | some (t, x, y, _) => mt ct c t && (mx ct a x && mx ct b y) | none => false)
  | .lst es, x => (match vList x with | some (xs, _) => ms ct es xs | none => false)
  | .nlst es, x => (match vList x with | some (xs, _) => ms ct es xs | none => false)
  | .tup es, x => (match vTup x with | some (xs, _, _) => ms ct es xs | none => false)
  | .att a f, x => (match vAtt x with | some (x, g, _) => argX x && (decide (g = nmS f) && mx ct a x) | none => false)
  | .idx a b, x => (match vSub x with | some (x, y, _) => argX y && (mx ct a x && mx ct b y) | none => false)
  | .slc a lo hi, x => (match vSlc x with | some (x, l, u, _, _) => mx ct a x && (mb ct lo l && mb ct hi u) | none => false)
  | .len a, x => (match vCallN x with | some (f, _, [y], _) => decide (f = "len") && (gloB ct.sc f && (argX y && mx ct a y)) | _ => false)
  | .isi a c, x => (match vCallN x with | some (f, _, [y, z], _) => decide (f = "isinstance") && (gloB ct.sc f && (argX y && (argX z && (mx ct a y && mx ct c z)))) | _ => false)
  | .b1 k a, x => (match vCallN x with | some (f, _, [y], _) => decide (k < 3) && (decide (f = b1N k) && (gloB ct.sc f && (argX y && mx ct a y))) | _ => false)
  | .s1 k a, x => (match vCallN x with | some (f, _, [y], _) => decide (k < 3) && (decide (f = s1N k) && (gloB ct.sc f && (argX y && mx ct a y))) | _ => false)
  | .call f as, x => (match vCallN x with
    | some (y, _, xs, _) => decide ((E.fn f).map nmS = some y) && (gloB ct.sc y && (okN y && (argsX xs && ms ct as xs)))
    | none => false)
  | .meth c m f a as, x => (match vCallM x with
    | some (y, n, p1, xs, p2) => decide (E.md f = some (c, m)) && (decide (n = nmS m) && (argX y && (argsX xs && (decide (xs.length < 30) && ((p1.endLine == p2.line) && (mx ct a y && ms ct as xs))))))
    | none => false)
  | .new x c f as, y => (match vCallN y with
    | some (y, _, xs, _) => decide (E.nw f = some (x, c)) && (decide (y = nmS x) && (gloB ct.sc y && (okN y && (argsX xs && ms ct as xs))))
    | none => false)
  | .lc own tg src c e, x => (match vLc x with
    | some (elt, tgx, iter, ifs, scope, _) => blkC N ct.sc scope (ownP N own) && (!setX iter && (mg N (ct.blk scope) tg tgx && (subP (fun i => own.contains i) (Tg.ix tg) && (mi ct src tgx iter && ((match ifs with | [] => isYes c | [x] => mt (ct.blk scope) c x | _ => false) && mx (ct.blk scope) e elt)))))
    | none => false)
  | .nlc own tg src c e, x => (match vLc x with
    | some (elt, tgx, iter, ifs, scope, _) => blkC N ct.sc scope (ownP N own) && (!setX iter && (mg N (ct.blk scope) tg tgx && (subP (fun i => own.contains i) (Tg.ix tg) && (mi ct src tgx iter && ((match ifs with | [] => isYes c | [x] => mt (ct.blk scope) c x | _ => false) && mx (ct.blk scope) e elt)))))
    | none => false)
  | .app o a, x => (match vCallM x with | some (x, n, p1, [y], p2) => decide (n = "append") && (argX x && (argX y && ((p1.endLine == p2.line) && (mx ct o x && mx ct a y)))) | _ => false)
  | .ext o a, x => (match vCallM x with | some (x, n, p1, [y], p2) => decide (n = "extend") && (argX x && (argX y && ((p1.endLine == p2.line) && (mx ct o x && mx ct a y)))) | _ => false)
  | .popAt o a, x => (match vCallM x with | some (x, n, p1, [y], p2) => decide (n = "pop") && (argX x && (argX y && ((p1.endLine == p2.line) && (mx ct o x && mx ct a y)))) | _ => false)
  | .pop o, x => (match vCallM x with | some (x, n, p1, [], p2) => decide (n = "pop") && (argX x && ((p1.endLine == p2.line) && mx ct o x)) | _ => false)
  | .frz a, x => mx ct a x
  | .bad, _ => false
  | .n1 k a, x => (match vCallN x with | some (f, _, [y], _) => decide (k = 0 ∨ k = 2) && (decide (f = s1N k) && (gloB ct.sc f && (argX y && mx ct a y))) | _ => false)
  | .join o a, x => (match vCallM x with | some (x, n, p1, [y], p2) => decide (n = "join") && (argX x && (argX y && ((p1.endLine == p2.line) && (mx ct o x && mx ct a y)))) | _ => false)
  | .upd o a, x => (match vCallM x with | some (x, n, p1, [y], p2) => decide (n = "update") && (argX x && (argX y && ((p1.endLine == p2.line) && (mx ct o x && mx ct a y)))) | _ => false)
  | .rev a, x => (match vRev x with | some (y, i, _, _, _, _, _) => decide (i = 1) && mx ct a y | none => false)
  | .dct es, x => isNilE es && (vDct0 x).isSome
  | .ndct es, x => isNilE es && (vDct0 x).isSome
  | .dc own tg src c e u, x => (match vDc x with
    | some (kx, vx, tgx, iter, ifs, scope, _) => blkC N ct.sc scope (ownP N own) && (!setX iter && (mg N (ct.blk scope) tg tgx && (subP (fun i => own.contains i) (Tg.ix tg) && (mi ct src tgx iter && ((match ifs with | [] => isYes c | [x] => mt (ct.blk scope) c x | _ => false) && (mx (ct.blk scope) e kx && mx (ct.blk scope) u vx))))))
    | none => false)
  | .ndc own tg src c e u, x => (match vDc x with
    | some (kx, vx, tgx, iter, ifs, scope, _) => blkC N ct.sc scope (ownP N own) && (!setX iter && (mg N (ct.blk scope) tg tgx && (subP (fun i => own.contains i) (Tg.ix tg) && (mi ct src tgx iter && ((match ifs with | [] => isYes c | [x] => mt (ct.blk scope) c x | _ => false) && (mx (ct.blk scope) e kx && mx (ct.blk scope) u vx))))))
    | none => false)
  | .lcK own tg i c e, x => (match vLc x with
    | some (elt, tgx, iter, ifs, scope, _) => blkC N ct.sc scope (ownP N own) && ((match vName iter with | some (y, _) => varB N ct.sc i y | none => false) && (mg N (ct.blk scope) tg tgx && (subP (fun i => own.contains i) (Tg.ix tg) && ((match ifs with | [] => isYes c | [x] => mt (ct.blk scope) c x | _ => false) && mx (ct.blk scope) e elt))))
    | none => false)
  | .nbin _ _ _, _ => false
  | .b2 _ _ _, _ => false
  | .get _ _ _, _ => false
  | .cnt _ _, _ => false
  | .callK _ _ _, _ => false
  | .methK _ _ _ _ _ _, _ => false
  | .newK _ _ _ _ _, _ => false
def ms (ct : Ct) : Es → List Expr → Bool
  | .nil, xs => xs.isEmpty
  | .cons a r, xs => (match xs with | x :: xs => argX x && (mx ct a x && ms ct r xs) | [] => false)
def mb (ct : Ct) : Oe → Option Expr → Bool
  | .non, x => x.isNone
  | .one a, x => (match x with | some x => mx ct a x | none => false)
def mt (ct : Ct) : Ts → Expr → Bool
  | .yes, _ => false
  | .val a, x => tvalX x && mx ct a x
  | .cmp k a b, x => (match vCmp1 x with | some (l, op, r, _) => decide (k < 10) && (decide (op = cmpOf k) && (!behindInMarks op r && (mx ct a l && mx ct b r))) | none => false)
  | .chn k j a b c, x => (match vCmp2 x with | some (l, op, r, op', r', _) => decide (k < 10 ∧ j < 10) && (decide (op = cmpOf k ∧ op' = cmpOf j) && (!behindInMarks op' r' && (mx ct a l && (mx ct b r && mx ct c r')))) | none => false)
  | .not a, x => (match vUn x with | some (.Not, y, _) => mt ct a y | _ => false)
  | .and a b, x => (match vBool x with
    | some (.And, x, y, [], _) => mt ct a x && mt ct b y
    | some (.And, x, y, r, p) => mt ct a x && mt ct b (.BoolOp .And (y :: r) p)
    | _ => false)
  | .or a b, x => (match vBool x with
    | some (.Or, x, y, [], _) => mt ct a x && mt ct b y
    | some (.Or, x, y, r, p) => mt ct a x && mt ct b (.BoolOp .Or (y :: r) p)
    | _ => false)
def mi (ct : Ct) : Sr → Expr → Expr → Bool
  | .val a, _, x => mx ct a x
  | .rng a, _, x => (match vCallN x with | some (f, _, [y], _) => decide (f = "range") && (gloB ct.sc f && (argX y && mx ct a y)) | _ => false)
  | .rng2 a b, _, x => (match vCallN x with | some (f, _, [y, z], _) => decide (f = "range") && (gloB ct.sc f && (argX y && (argX z && (mx ct a y && mx ct b z)))) | _ => false)
  | .enm a, t, x => (match vCallN x with | some (f, _, [y], _) => tupX t && (decide (f = "enumerate") && (gloB ct.sc f && (argX y && mx ct a y))) | _ => false)
  | .zip a b, t, x => (match vCallN x with | some (f, _, [y, z], _) => tupX t && (decide (f = "zip") && (gloB ct.sc f && (argX y && (argX z && (mx ct a y && mx ct b z))))) | _ => false)
end
end
/-! ### what the soundness leans on -/
def bltN : List Str := ["len", "isinstance", "int", "list", "tuple", "all", "any", "range", "enumerate", "zip", "dict"]
structure Sd (D : Wd) (G : Gx) (E : Et) (N : List Str) (ct : Ct) (X : Cx) (k : Nat) : Prop where
  ok : TbOk D.T
  hK : D.T.K = X.K
  isF : G.isF = D.T.isF
  hN : X.N = N
  nd : N.Nodup
  hsc : X.env.scope = ct.sc
  hfn : X.fn = ct.fn
  calm : X.calm = true
  rm : Room (k + 2) X.A
  hx : Passes (L2.CX X.prog X.w) X D.E
  blt : ∀ x ∈ bltN, X.mg x = none
  glo : ∀ g d, G.glo g = some d → ∃ v, (∀ Hs, RepV D.T Hs v d) ∧ ((∃ u, X.mg (nmS g) = some u ∧ RelV v u) ∨ (X.mg (nmS g) = none ∧ ∃ u, bootBuiltins (nmS g) = some u ∧ RelV v u))
  fns : ∀ f n, E.fn f = some n → ∃ a fd ps, Fd X k (nmS n) a fd ps (spF D.T D.fld (G.φ f))
  mds : ∀ f c n, E.md f = some (c, n) → ∃ C a fd ps, D.T.cls c = some C ∧ Md X k C n a fd ps (spF D.T D.fld (G.φ f))
  nws : ∀ f x c, E.nw f = some (x, c) → ∃ C a fd ps, D.T.cls c = some C ∧ Nd X k (nmS x) C a fd ps (spF D.T D.fld (G.φ f))
  spc : ∀ j c f, G.spc j c = some f → j = 6 ∧ E.md f = some (c, nCont)
theorem ba {a b : Bool} (h : (a && b) = true) : a = true ∧ b = true := Bool.and_eq_true_iff.mp h
def vOf : PV → V
  | .bl b => .bl b
  | .int i => .int i
  | .str s => .str (tx s)
  | .ty n => .ty (tyN n)
  | _ => .non
section
variable {D : Wd} {G : Gx} {E : Et} {N : List Str} {ct : Ct} {X : Cx} {k : Nat}
theorem Sd.un (S : Sd D G E N ct X k) : X.A.units + 65 < cLine := by have := S.rm.un; omega
theorem Sd.spcOk (S : Sd D G E N ct X k) : SpcOk D X k G.spc G.φ := fun j c f w => ⟨(S.spc j c f w).1, S.mds f c nCont (S.spc j c f w).2⟩
theorem okN_d {x : Str} (h : okN x = true) : (x == ("__debug__" : Str)) = false ∧ (x == ("__classdict__" : Str)) = false ∧ x ≠ ("__name__" : Str) := by
  obtain ⟨h1, h3⟩ := ba h
  obtain ⟨h1, h2⟩ := ba h1
  refine ⟨by simpa using h1, by simpa using h2, fun e => ?_⟩
  subst e
  simp at h3
theorem Sd.gl (S : Sd D G E N ct X k) {x : Str} (h : gloB ct.sc x = true) : Gl X x := by
  unfold gloB at h
  show X.env.scope.names.lookup x = some .globalImplicit
  rw [S.hsc]
  split at h
  · assumption
  · cases h
theorem Sd.var (S : Sd D G E N ct X k) {i : Nat} {x : Str} {pos : Pos} (h : varB N ct.sc i x = true) : PE X (.Name x pos) (tVar i) := by
  obtain ⟨h1, h2⟩ := ba h
  obtain ⟨h2, h3⟩ := ba h2
  obtain ⟨d1, d2, _⟩ := okN_d h3
  refine pe_var (by rw [S.hN]; exact of_decide_eq_true h1) ?_ d1 d2
  unfold visB at h2
  unfold Vis
  rw [S.hsc]
  split at h2
  · exact .inl (by assumption)
  · exact .inr (.inl (by assumption))
  · exact .inr (.inr (by assumption))
  · cases h2
theorem cst_ok {d : PV} {c : Const} {j : Nat} {pos : Pos} (h : cstB d c = true) : PE X (.Constant c j pos) (tC (vOf d)) ∧ (∀ Hs, RepV D.T Hs (vOf d) d) ∧ d.atom = true := by
  cases d with
  | non => cases c <;> first | exact ⟨pe_non, fun Hs => .non, rfl⟩ | (cases h)
  | bl b =>
    cases c with
    | bool c =>
      have e : b = c := by simpa [cstB] using h
      subst e
      exact ⟨pe_bl, fun Hs => .bl b, rfl⟩
    | _ => cases h
  | int i =>
    cases c with
    | int c =>
      have e : i = c := by simpa [cstB] using h
      subst e
      exact ⟨pe_int, fun Hs => .int i, rfl⟩
    | _ => cases h
  | str s =>
    cases c with
    | str c =>
      obtain ⟨h1, h2⟩ := ba (show (decide (c = tx s) && (decide (s.length ≤ 16777216) && s.all fun c => decide (c < 1114112))) = true from h)
      obtain ⟨h2, h3⟩ := ba h2
      have e : c = tx s := of_decide_eq_true h1
      subst e
      refine ⟨pe_str, fun Hs => .str s ⟨by rw [sizeLine_eq]; exact of_decide_eq_true h2, fun c hc => ?_⟩, rfl⟩
      exact of_decide_eq_true (List.all_eq_true.mp h3 c hc)
    | _ => cases h
  | _ => cases c <;> cases h
theorem glo_ok (S : Sd D G E N ct X k) {g : Nat} {x : Str} {pos : Pos} (hx : x = nmS g) (hg : gloB ct.sc x = true) (hk : okN x = true) : PE X (.Name x pos) (semE D (gloE (G.glo g))) := by
  subst hx
  obtain ⟨d1, d2, d3⟩ := okN_d hk
  cases w : G.glo g with
  | none => exact ⟨fun pins s σ H Q I z => by obtain ⟨Hs, ρ, h, env, sy, er, p⟩ := z; exact p.elim⟩
  | some d =>
    by_cases ha : d.atom = true
    · obtain ⟨v, hr, h⟩ := S.glo g d w
      rcases h with ⟨u, h1, h2⟩ | ⟨h1, u, h2, h3⟩
      · exact ev_gloE rfl (pe_glob (S.gl hg) h1 h2 d1) hr ha
      · exact ev_gloE rfl (pe_bltn (S.gl hg) h1 h2 h3 d3 d1) hr ha
    · refine ⟨fun pins s σ H Q I z => ?_⟩
      obtain ⟨Hs, ρ, h, env, sy, er, p⟩ := z
      unfold gloE at p
      dsimp only at p
      rw [if_neg ha] at p
      exact p.elim
theorem b1_ok (S : Sd D G E N ct X k) : ∀ {j : Nat} {x : Expr} {f : Env → Hm → R Vl} {p pos : Pos}, j < 3 → gloB ct.sc (b1N j) = true → argX x = true → PE X x (semE D f) → PE X (.Call (.Name (b1N j) p) [x] [] pos) (semE D (op1 f (opA1 (b1V j))))
  | 0, x, f, p, pos, _, hg, hs, h => ev_int (S.gl hg) (S.blt _ (by decide)) h hs
  | 1, x, f, p, pos, _, hg, hs, h => ev_all S.hK S.calm (S.gl hg) (S.blt _ (by decide)) h hs
  | 2, x, f, p, pos, _, hg, hs, h => ev_any S.hK S.calm (S.gl hg) (S.blt _ (by decide)) h hs
  | j + 3, _, _, _, _, hj, _, _, _ => by omega
theorem s1_ok (S : Sd D G E N ct X k) : ∀ {j : Nat} {x : Expr} {f : Env → Hm → R Vl} {p pos : Pos}, j < 3 → gloB ct.sc (s1N j) = true → argX x = true → PE X x (semE D f) → PE X (.Call (.Name (s1N j) p) [x] [] pos) (semE D (op1 f (opS1 (s1V j))))
  | 0, x, f, p, pos, _, hg, hs, h => ev_list S.hK (S.gl hg) (S.blt _ (by decide)) h hs
  | 1, x, f, p, pos, _, hg, hs, h => ev_tuple S.hK (S.gl hg) (S.blt _ (by decide)) h hs
  | 2, x, f, p, pos, _, hg, hs, h => ev_dictG S.hK S.calm kv_dict (S.gl hg) (S.blt _ (by decide)) h hs
  | j + 3, _, _, _, _, hj, _, _, _ => by omega
theorem n1_ok (S : Sd D G E N ct X k) : ∀ {j : Nat} {x : Expr} {f : Env → Hm → R Vl} {p pos : Pos}, (j = 0 ∨ j = 2) → gloB ct.sc (s1N j) = true → argX x = true → PE X x (semE D f) → PE X (.Call (.Name (s1N j) p) [x] [] pos) (semE D (op1 f (opN1 (s1V j))))
  | 0, x, f, p, pos, _, hg, hs, h => by
    refine ev_t1 call_list_of ?_ (S.gl hg) (S.blt _ (by decide)) boot_list (by decide) (by decide) h hs
    have q := kv_nlist (D := D)
    rw [S.hK] at q
    exact q
  | 2, x, f, p, pos, _, hg, hs, h => ev_dictG S.hK S.calm kv_ndict (S.gl hg) (S.blt _ (by decide)) h hs
  | 1, _, _, _, _, hj, _, _, _ => by omega
  | j + 3, _, _, _, _, hj, _, _, _ => by omega
theorem Sd.loc (S : Sd D G E N ct X k) {x : Str} (h : locC ct x = true) : L2.Loc X.env.scope x ∧ (X.fn x = true ∨ X.env.scope.names.lookup x = some .local) := by
  unfold locC at h
  unfold L2.Loc
  rw [S.hsc, S.hfn]
  split at h
  · rename_i e; exact ⟨.inl e, .inr e⟩
  · rename_i e; exact ⟨.inr e, .inl h⟩
  · cases h
mutual
theorem mg_ok : ∀ (t : Tg) (S : Sd D G E N ct X k) (x : Expr), mg N ct t x = true → PG X x (semG D (Tg.ix t) (G.tg t)) ∧ (∀ r ev, (assignEach (x :: r) ev).map (·.2) = assign x ev :: (assignEach r ev).map (·.2)) ∧ (∀ r ev, (assignEach (x :: r) ev).length = (assignEach r ev).length + 1) ∧ ∀ r ev, (assignEach r ev).findIdx? (·.1) = none → (assignEach (x :: r) ev).findIdx? (·.1) = none
  | .nm i, S, x, h => by
    cases x with
    | Name x p =>
      obtain ⟨g1, g2⟩ := ba (show (decide (N[i]? = some x) && locC ct x) = true from h)
      obtain ⟨h1, h2⟩ := S.loc g2
      refine ⟨g_name (by rw [S.hN]; exact S.nd) (by rw [S.hN]; exact of_decide_eq_true g1) h1 h2, fun _ _ => rfl, fun _ _ => rfl, fun r ev q => ?_⟩
      show ((false, _) :: assignEach r ev).findIdx? (·.1) = none
      rw [List.findIdx?_cons, q]
      rfl
    | _ => cases h
  | .tp ts, S, x, h => by
    cases x with
    | Tuple xs kk p =>
      obtain ⟨h1, h2, h3⟩ := mgs_ok ts S xs (show mgs N ct ts xs = true from h)
      refine ⟨g_seq S.calm h1 (h2 _) (h3 _), fun _ _ => rfl, fun _ _ => rfl, fun r ev q => ?_⟩
      show ((false, _) :: assignEach r ev).findIdx? (·.1) = none
      rw [List.findIdx?_cons, q]
      rfl
    | _ => cases h
theorem mgs_ok : ∀ (ts : Tgs) (S : Sd D G E N ct X k) (xs : List Expr), mgs N ct ts xs = true → PGs X xs (semGs D (Tgs.ix ts) (G.tgs ts)) ∧ (∀ ev, (assignEach xs ev).length = Tgs.len ts) ∧ ∀ ev, (assignEach xs ev).findIdx? (·.1) = none
  | .nil, S, [], h => ⟨gs_nil, fun _ => rfl, fun _ => rfl⟩
  | .nil, S, _ :: _, h => by cases h
  | .cons t r, S, [], h => by cases h
  | .cons t r, S, x :: xs, h => by
    obtain ⟨g1, g2⟩ := ba (show (mg N ct t x && mgs N ct r xs) = true from h)
    obtain ⟨h1, h2, h3, h4⟩ := mg_ok t S x g1
    obtain ⟨k1, k2, k3⟩ := mgs_ok r S xs g2
    exact ⟨gs_cons h1 k1 (h2 _ _), fun ev => by rw [h3, k2]; rfl, fun ev => h4 _ _ (k3 ev)⟩
end
theorem Sd.blk (S : Sd D G E N ct X k) (scope : Scope) (s : Shared) (H : Hp) (C : Addr) (cl : List (Str × Addr)) (fp : List Addr) : Sd D.blk G E N (ct.blk scope) (X.blk s H scope (compEnvC scope cl C X.env) fp) k := by
  refine ⟨S.ok, S.hK, S.isF, S.hN, S.nd, ?_, rfl, S.calm, S.rm, fun pins σ H s e s' I c => ?_, S.blt, S.glo, fun f n w => ?_, fun f c n w => ?_, fun f x c w => ?_, S.spc⟩
  · show relabel scope X.env = relS scope ct.sc
    rw [← S.hsc]
    rfl
  · obtain ⟨a, B, H', cls, d, _, _, _, _, _, _, _, z⟩ := c
    exact z.elim
  · obtain ⟨a, fd, ps, F⟩ := S.fns f n w
    exact ⟨a, fd, ps, ⟨F.ok, F.mg, F.kp, F.bd⟩⟩
  · obtain ⟨C, a, fd, ps, h, F⟩ := S.mds f c n w
    exact ⟨C, a, fd, ps, h, ⟨F.ok, F.cl, F.mt, F.bd⟩⟩
  · obtain ⟨C, a, fd, ps, h, F⟩ := S.nws f x c w
    exact ⟨C, a, fd, ps, h, ⟨F.ok, F.mkr, F.mg, F.bd⟩⟩
end
theorem ms_nil {G : Gx} {E : Et} {N : List Str} {ct : Ct} {as : Es} (h : ms E N ct as [] = true) : G.es as = esNil := by
  cases as with
  | nil => rfl
  | cons a r => cases h
theorem own_map {N : List Str} {own : List Nat} : (ownP N own).map (·.2) = own := by
  unfold ownP
  rw [List.map_map]
  exact List.map_id _
theorem subP_ok {p : Nat → Bool} : ∀ {l : List Nat}, subP p l = true → ∀ i ∈ l, p i = true
  | [], _, i, hi => by simp at hi
  | j :: r, h, i, hi => by
    obtain ⟨h1, h2⟩ := ba (show (p j && subP p r) = true from h)
    rcases List.mem_cons.mp hi with rfl | hi
    · exact h1
    · exact subP_ok h2 i hi
def SrcAll (G : Gx) : ∀ s : Sr, SrcOk (G.sr s)
  | .val a => src_val
  | .rng a => src_range
  | .rng2 a b => src_range2
  | .enm a => src_enum
  | .zip a b => src_zip
open PySem in
/-- a comprehension's parts, for its two readings -/
theorem lc_parts {D : Wd} {G : Gx} {E : Et} {N : List Str} {ct : Ct} {X : Cx} {k : Nat} (S : Sd D G E N ct X k) {own : List Nat} {tg : Tg} {src : Sr} {c : Ts} {e : Ex} {elt tgx iter : Expr} {ifs : List Expr} {scope : Scope} {p : Pos}
    (h : (blkC N ct.sc scope (ownP N own) && (!setX iter && (mg N (ct.blk scope) tg tgx && (subP (fun i => own.contains i) (Tg.ix tg) && (mi E N ct src tgx iter && ((match ifs with | [] => isYes c | [x] => mt E N (ct.blk scope) c x | _ => false) && mx E N (ct.blk scope) e elt)))))) = true)
    (hi : mi E N ct src tgx iter = true → PI X tgx iter (semI D (G.sr src))) (ht : ∀ (X' : Cx), Sd D.blk G E N (ct.blk scope) X' k → ∀ y, mt E N (ct.blk scope) c y = true → PT X' y (semT D.blk (G.ts c)))
    (he : ∀ (X' : Cx), Sd D.blk G E N (ct.blk scope) X' k → ∀ y, mx E N (ct.blk scope) e y = true → PE X' y (semE D.blk (G.ex e))) :
    PE X (.ListComp elt [⟨tgx, iter, ifs, 0⟩] scope p) (tLc (semI D (G.sr src)) (semG D.blk (Tg.ix tg) (G.tg tg)) (semT D.blk (G.ts c)) (semE D.blk (G.ex e)) own) ∧ (∀ i ∈ Tg.ix tg, i ∈ own) ∧
    ∀ {i : Nat} {y : Str} {py spos : Pos}, N[i]? = some y → ct.sc.names.lookup y = some .local → swapsWith (.ListComp elt [⟨tgx, iter, ifs, 0⟩] scope p) (some (.Name y py)) spos.line X.env = pure true →
      PS X (.Assign [.Name y py] (.ListComp elt [⟨tgx, iter, ifs, 0⟩] scope p) spos) (tAsg (tLc (semI D (G.sr src)) (semG D.blk (Tg.ix tg) (G.tg tg)) (semT D.blk (G.ts c)) (semE D.blk (G.ex e)) own) (gName i)) := by
  obtain ⟨g1, g2⟩ := ba h
  obtain ⟨g3, g4⟩ := ba g2
  obtain ⟨g5, g6⟩ := ba g4
  obtain ⟨g7, g8⟩ := ba g6
  obtain ⟨g9, g10⟩ := ba g8
  obtain ⟨g11, g12⟩ := ba g10
  have ts : ∀ (X' : Cx), Sd D.blk G E N (ct.blk scope) X' k → PTs X' ifs (semT D.blk (G.ts c)) := fun X' S' => by
    match ifs, g11 with
    | [], g11 =>
      cases c with
      | yes => exact ⟨fun pins s σ H Q I z => pts_nil.run pins s σ H Q I (t_yes rfl σ H Q z)⟩
      | _ => cases g11
    | [x], g11 => exact pts_one (ht X' S' x g11)
    | _ :: _ :: _, g11 => cases g11
  have hset : ∀ x, foldedSetIterable iter X.env x = pure x := fun x => by
    cases iter <;> first | rfl | (simp [setX] at g3)
  have ok : BlkOk X.N X.env.scope scope (ownP N own) := by rw [S.hN, S.hsc]; exact blkOk_by g1
  have q := pe_lc (elt := elt) (pos := p) S.calm (by rw [S.hN]; exact S.nd) (hi g9) ok (fun s H C cl fp => (mg_ok tg (S.blk scope s H C cl fp) tgx g5).1) (fun s H C cl fp => ts _ (S.blk scope s H C cl fp)) (fun s H C cl fp => he _ (S.blk scope s H C cl fp) elt g12) hset
  rw [own_map] at q
  refine ⟨q, fun i hi => by simpa using subP_ok g7 i hi, fun {i y py spos} hy hl hs => ?_⟩
  have q2 := ps_setLc (i := i) (y := y) (py := py) (spos := spos) (elt := elt) (pos := p) S.calm (by rw [S.hN]; exact S.nd) (by rw [S.hN]; exact hy) (by rw [S.hsc]; exact hl) hs (hi g9) ok (fun s H C cl fp => (mg_ok tg (S.blk scope s H C cl fp) tgx g5).1) (fun s H C cl fp => ts _ (S.blk scope s H C cl fp)) (fun s H C cl fp => he _ (S.blk scope s H C cl fp) elt g12) hset
  rw [own_map] at q2
  exact q2
theorem ifs_ok {D : Wd} {G : Gx} {E : Et} {N : List Str} {ct : Ct} {X : Cx} {k : Nat} {c : Ts} {ifs : List Expr} (S : Sd D G E N ct X k) (g11 : (match ifs with | [] => isYes c | [x] => mt E N ct c x | _ => false) = true)
    (ht : ∀ y, mt E N ct c y = true → PT X y (semT D (G.ts c))) : PTs X ifs (semT D (G.ts c)) := by
  match ifs, g11 with
  | [], g11 =>
    cases c with
    | yes => exact ⟨fun pins s σ H Q I z => pts_nil.run pins s σ H Q I (t_yes rfl σ H Q z)⟩
    | _ => cases g11
  | [x], g11 => exact pts_one (ht x g11)
  | _ :: _ :: _, g11 => cases g11
open PySem in
theorem dc_parts {D : Wd} {G : Gx} {E : Et} {N : List Str} {ct : Ct} {X : Cx} {k : Nat} (S : Sd D G E N ct X k) {own : List Nat} {tg : Tg} {src : Sr} {c : Ts} {e u : Ex} {kx vx tgx iter : Expr} {ifs : List Expr} {scope : Scope} {p : Pos}
    (h : (blkC N ct.sc scope (ownP N own) && (!setX iter && (mg N (ct.blk scope) tg tgx && (subP (fun i => own.contains i) (Tg.ix tg) && (mi E N ct src tgx iter && ((match ifs with | [] => isYes c | [x] => mt E N (ct.blk scope) c x | _ => false) && (mx E N (ct.blk scope) e kx && mx E N (ct.blk scope) u vx))))))) = true)
    (hi : mi E N ct src tgx iter = true → PI X tgx iter (semI D (G.sr src))) (ht : ∀ (X' : Cx), Sd D.blk G E N (ct.blk scope) X' k → ∀ y, mt E N (ct.blk scope) c y = true → PT X' y (semT D.blk (G.ts c)))
    (he : ∀ (X' : Cx), Sd D.blk G E N (ct.blk scope) X' k → ∀ y, mx E N (ct.blk scope) e y = true → PE X' y (semE D.blk (G.ex e)))
    (hu : ∀ (X' : Cx), Sd D.blk G E N (ct.blk scope) X' k → ∀ y, mx E N (ct.blk scope) u y = true → PE X' y (semE D.blk (G.ex u))) :
    PE X (.DictComp kx vx [⟨tgx, iter, ifs, 0⟩] scope p) (semE D (ndcV own (G.sr src) (G.tg tg) (G.ts c) (G.ex e) (G.ex u))) := by
  obtain ⟨g1, g2⟩ := ba h
  obtain ⟨g3, g4⟩ := ba g2
  obtain ⟨g5, g6⟩ := ba g4
  obtain ⟨g7, g8⟩ := ba g6
  obtain ⟨g9, g10⟩ := ba g8
  obtain ⟨g11, g12⟩ := ba g10
  obtain ⟨g12, g13⟩ := ba g12
  have hset : ∀ x, foldedSetIterable iter X.env x = pure x := fun x => by
    cases iter <;> first | rfl | (simp [setX] at g3)
  have ok : BlkOk X.N X.env.scope scope (ownP N own) := by rw [S.hN, S.hsc]; exact blkOk_by g1
  have q := pe_dc (kx := kx) (vx := vx) (pos := p) S.calm (by rw [S.hN]; exact S.nd) (hi g9) ok (fun s H C cl fp => (mg_ok tg (S.blk scope s H C cl fp) tgx g5).1) (fun s H C cl fp => ifs_ok (S.blk scope s H C cl fp) g11 (ht _ (S.blk scope s H C cl fp))) (fun s H C cl fp => he _ (S.blk scope s H C cl fp) kx g12) (fun s H C cl fp => hu _ (S.blk scope s H C cl fp) vx g13) hset
  rw [own_map] at q
  exact PE.imp q (sem_ndc (SrcAll G src) fun i hi => by simpa using subP_ok g7 i hi)
open PySem in
theorem lcK_parts {D : Wd} {G : Gx} {E : Et} {N : List Str} {ct : Ct} {X : Cx} {k : Nat} (S : Sd D G E N ct X k) {own : List Nat} {tg : Tg} {i : Nat} {c : Ts} {e : Ex} {elt tgx iter : Expr} {ifs : List Expr} {scope : Scope} {p : Pos}
    (h : (blkC N ct.sc scope (ownP N own) && ((match vName iter with | some (y, _) => varB N ct.sc i y | none => false) && (mg N (ct.blk scope) tg tgx && (subP (fun i => own.contains i) (Tg.ix tg) && ((match ifs with | [] => isYes c | [x] => mt E N (ct.blk scope) c x | _ => false) && mx E N (ct.blk scope) e elt))))) = true)
    (ht : ∀ (X' : Cx), Sd D.blk G E N (ct.blk scope) X' k → ∀ y, mt E N (ct.blk scope) c y = true → PT X' y (semT D.blk (G.ts c)))
    (he : ∀ (X' : Cx), Sd D.blk G E N (ct.blk scope) X' k → ∀ y, mx E N (ct.blk scope) e y = true → PE X' y (semE D.blk (G.ex e))) :
    PE X (.ListComp elt [⟨tgx, iter, ifs, 0⟩] scope p) (semE D (lcKV own i (G.tg tg) (G.ts c) (G.ex e))) := by
  obtain ⟨g1, g2⟩ := ba h
  obtain ⟨g3, g4⟩ := ba g2
  obtain ⟨g5, g6⟩ := ba g4
  obtain ⟨g7, g8⟩ := ba g6
  obtain ⟨g11, g12⟩ := ba g8
  cases w : vName iter with
  | none => rw [w] at g3; cases g3
  | some r =>
    obtain ⟨y, py⟩ := r
    rw [w] at g3
    have ei := vName_ok w
    dsimp only at ei g3
    subst ei
    have ok : BlkOk X.N X.env.scope scope (ownP N own) := by rw [S.hN, S.hsc]; exact blkOk_by g1
    have q := pe_lc (elt := elt) (pos := p) S.calm (by rw [S.hN]; exact S.nd) (pi_keys (tg := tgx) (S.var (pos := py) g3)) ok (fun s H C cl fp => (mg_ok tg (S.blk scope s H C cl fp) tgx g5).1) (fun s H C cl fp => ifs_ok (S.blk scope s H C cl fp) g11 (ht _ (S.blk scope s H C cl fp))) (fun s H C cl fp => he _ (S.blk scope s H C cl fp) elt g12) (fun _ => rfl)
    rw [own_map] at q
    exact PE.imp (pe_lock q) (sem_lcK fun i hi => by simpa using subP_ok g7 i hi)
end HV

end

section
/-! V10: an expression that matches means what the evaluator says. -/
namespace HV
open PySem PySem.Spec PyProof.Rows L2
mutual
theorem mx_ok : ∀ (e : Ex) {D : Wd} {G : Gx} {E : Et} {N : List Str} {ct : Ct} {X : Cx} {k : Nat} (S : Sd D G E N ct X k) (x : Expr), mx E N ct e x = true → PE X x (semE D (G.ex e))
  | .cst d, D, G, E, N, ct, X, k, S, x, h => by
    unfold mx at h
    cases w : vConst x with
    | none => rw [w] at h; cases h
    | some r =>
      obtain ⟨c, j, p⟩ := r
      rw [w] at h
      rw [vConst_ok w]
      obtain ⟨h1, h2, h3⟩ := cst_ok (D := D) (X := X) h
      exact ev_cst h1 h2 h3
  | .var i, D, G, E, N, ct, X, k, S, x, h => by
    unfold mx at h
    cases w : vName x with
    | none => rw [w] at h; cases h
    | some r => obtain ⟨y, p⟩ := r; rw [w] at h; rw [vName_ok w]; exact ev_var (S.var h)
  | .glo g, D, G, E, N, ct, X, k, S, x, h => by
    unfold mx at h
    cases w : vName x with
    | none => rw [w] at h; cases h
    | some r =>
      obtain ⟨y, p⟩ := r
      rw [w] at h
      rw [vName_ok w]
      obtain ⟨h1, h2⟩ := ba h
      obtain ⟨h2, h3⟩ := ba h2
      exact glo_ok S (of_decide_eq_true h1) h2 h3
  | .bin j a b, D, G, E, N, ct, X, k, S, x, h => by
    unfold mx at h
    cases w : vBin x with
    | none => rw [w] at h; cases h
    | some r =>
      obtain ⟨l, op, r, p⟩ := r
      rw [w] at h
      rw [vBin_ok w]
      obtain ⟨h1, h2⟩ := ba h
      obtain ⟨h2, h3⟩ := ba h2
      obtain ⟨h3, h4⟩ := ba h3
      have e : op = binOf j := of_decide_eq_true h2
      subst e
      exact ev_bin S.hK (of_decide_eq_true h1) (mx_ok a S l h3) (mx_ok b S r h4)
  | .cmp j a b, D, G, E, N, ct, X, k, S, x, h => by
    unfold mx at h
    cases w : vCmp1 x with
    | none => rw [w] at h; cases h
    | some r =>
      obtain ⟨l, op, r, p⟩ := r
      rw [w] at h
      rw [vCmp1_ok w]
      obtain ⟨g1, g2⟩ := ba h
      obtain ⟨g3, g4⟩ := ba g2
      obtain ⟨g5, g6⟩ := ba g4
      obtain ⟨g7, g8⟩ := ba g6
      have e : op = cmpOf j := of_decide_eq_true g3
      subst e
      exact ev_cmpG S.hK S.un (of_decide_eq_true g1) (S.rm.mono (by omega)) S.hx S.spcOk (mx_ok a S l g7) (mx_ok b S r g8) (by simpa using g5)
  | .chn j i a b c, D, G, E, N, ct, X, k, S, x, h => by
    unfold mx at h
    cases w : vCmp2 x with
    | none => rw [w] at h; cases h
    | some r =>
      obtain ⟨l, op, r, op', r', p⟩ := r
      rw [w] at h
      rw [vCmp2_ok w]
      obtain ⟨g1, g2⟩ := ba h
      obtain ⟨g3, g4⟩ := ba g2
      obtain ⟨g5, g6⟩ := ba g4
      obtain ⟨g7, g8⟩ := ba g6
      obtain ⟨g9, g10⟩ := ba g8
      obtain ⟨e1, e2⟩ := of_decide_eq_true g3
      obtain ⟨k1, k2⟩ := of_decide_eq_true g1
      subst e1
      subst e2
      exact ev_chain S.hK S.un k1 k2 (mx_ok a S l g7) (mx_ok b S r g9) (mx_ok c S r' g10) (by simpa using g5)
  | .neg a, D, G, E, N, ct, X, k, S, x, h => by
    unfold mx at h
    cases w : vUn x with
    | none => rw [w] at h; cases h
    | some r =>
      obtain ⟨op, y, p⟩ := r
      rw [w] at h
      rw [vUn_ok w]
      cases op with
      | USub => exact ev_neg (mx_ok a S y h)
      | _ => cases h
  | .and a b, D, G, E, N, ct, X, k, S, x, h => by
    unfold mx at h
    cases w : vBool x with
    | none => rw [w] at h; cases h
    | some r =>
      obtain ⟨op, y, z, r, p⟩ := r
      rw [w] at h
      rw [vBool_ok w]
      cases op with
      | And =>
        cases r with
        | nil =>
          obtain ⟨h1, h2⟩ := ba h
          exact ev_and (mx_ok a S y h1) (pe_one (mx_ok b S z h2))
        | cons r rs =>
          obtain ⟨h1, h2⟩ := ba h
          exact ev_and (mx_ok a S y h1) (mx_ok b S _ h2)
      | Or => cases h
  | .or a b, D, G, E, N, ct, X, k, S, x, h => by
    unfold mx at h
    cases w : vBool x with
    | none => rw [w] at h; cases h
    | some r =>
      obtain ⟨op, y, z, r, p⟩ := r
      rw [w] at h
      rw [vBool_ok w]
      cases op with
      | Or =>
        cases r with
        | nil =>
          obtain ⟨h1, h2⟩ := ba h
          exact ev_or (mx_ok a S y h1) (pe_one (mx_ok b S z h2))
        | cons r rs =>
          obtain ⟨h1, h2⟩ := ba h
          exact ev_or (mx_ok a S y h1) (mx_ok b S _ h2)
      | And => cases h
  | .not a, D, G, E, N, ct, X, k, S, x, h => by
    unfold mx at h
    cases w : vUn x with
    | none => rw [w] at h; cases h
    | some r =>
      obtain ⟨op, y, p⟩ := r
      rw [w] at h
      rw [vUn_ok w]
      cases op with
      | Not => exact ev_not (mx_ok a S y h)
      | _ => cases h
  | .ite c a b, D, G, E, N, ct, X, k, S, x, h => by
    unfold mx at h
    cases w : vIf x with
    | none => rw [w] at h; cases h
    | some r =>
      obtain ⟨t, y, z, p⟩ := r
      rw [w] at h
      rw [vIf_ok w]
      obtain ⟨h1, h2⟩ := ba h
      obtain ⟨h2, h3⟩ := ba h2
      exact ev_if (mt_ok c S t h1) (mx_ok a S y h2) (mx_ok b S z h3)
  | .lst es, D, G, E, N, ct, X, k, S, x, h => by
    unfold mx at h
    cases w : vList x with
    | none => rw [w] at h; cases h
    | some r => obtain ⟨xs, p⟩ := r; rw [w] at h; rw [vList_ok w]; exact ev_lst (ms_ok es S xs h)
  | .nlst es, D, G, E, N, ct, X, k, S, x, h => by
    unfold mx at h
    cases w : vList x with
    | none => rw [w] at h; cases h
    | some r => obtain ⟨xs, p⟩ := r; rw [w] at h; rw [vList_ok w]; exact ev_nlst (ms_ok es S xs h)
  | .tup es, D, G, E, N, ct, X, k, S, x, h => by
    unfold mx at h
    cases w : vTup x with
    | none => rw [w] at h; cases h
    | some r => obtain ⟨xs, j, p⟩ := r; rw [w] at h; rw [vTup_ok w]; exact ev_tup (ms_ok es S xs h)
  | .att a f, D, G, E, N, ct, X, k, S, x, h => by
    unfold mx at h
    cases w : vAtt x with
    | none => rw [w] at h; cases h
    | some r =>
      obtain ⟨y, g, p⟩ := r
      rw [w] at h
      rw [vAtt_ok w]
      obtain ⟨h1, h2⟩ := ba h
      obtain ⟨h2, h3⟩ := ba h2
      have e : g = nmS f := of_decide_eq_true h2
      subst e
      show PE X _ (semE D (op1 (G.ex a) (attH G.isF f)))
      rw [S.isF]
      exact ev_att S.ok S.hK (mx_ok a S y h3) (base_of h1)
  | .idx a b, D, G, E, N, ct, X, k, S, x, h => by
    unfold mx at h
    cases w : vSub x with
    | none => rw [w] at h; cases h
    | some r =>
      obtain ⟨y, z, p⟩ := r
      rw [w] at h
      rw [vSub_ok w]
      obtain ⟨h1, h2⟩ := ba h
      obtain ⟨h2, h3⟩ := ba h2
      exact ev_ix S.hK (by have := S.un; omega) (mx_ok a S y h2) (mx_ok b S z h3) h1
  | .slc a lo hi, D, G, E, N, ct, X, k, S, x, h => by
    unfold mx at h
    cases w : vSlc x with
    | none => rw [w] at h; cases h
    | some r =>
      obtain ⟨y, l, u, q, p⟩ := r
      rw [w] at h
      rw [vSlc_ok w]
      obtain ⟨h1, h2⟩ := ba h
      obtain ⟨h2, h3⟩ := ba h2
      exact ev_slc (mx_ok a S y h1) (mb_ok lo S l h2) (mb_ok hi S u h3)
  | .len a, D, G, E, N, ct, X, k, S, x, h => by
    unfold mx at h
    cases w : vCallN x with
    | none => rw [w] at h; cases h
    | some r =>
      obtain ⟨f, q, xs, p⟩ := r
      rw [w] at h
      rw [vCallN_ok w]
      match xs, h with
      | [y], h =>
        obtain ⟨h1, h2⟩ := ba h
        obtain ⟨h2, h3⟩ := ba h2
        obtain ⟨h3, h4⟩ := ba h3
        have e : f = "len" := of_decide_eq_true h1
        subst e
        exact ev_len S.hK (S.gl h2) (S.blt _ (by decide)) (mx_ok a S y h4) h3
      | [], h => cases h
      | _ :: _ :: _, h => cases h
  | .isi a c, D, G, E, N, ct, X, k, S, x, h => by
    unfold mx at h
    cases w : vCallN x with
    | none => rw [w] at h; cases h
    | some r =>
      obtain ⟨f, q, xs, p⟩ := r
      rw [w] at h
      rw [vCallN_ok w]
      match xs, h with
      | [y, z], h =>
        obtain ⟨h1, h2⟩ := ba h
        obtain ⟨h2, h3⟩ := ba h2
        obtain ⟨h3, h4⟩ := ba h3
        obtain ⟨h4, h5⟩ := ba h4
        obtain ⟨h5, h6⟩ := ba h5
        have e : f = "isinstance" := of_decide_eq_true h1
        subst e
        exact ev_isi S.ok S.hK (S.gl h2) (S.blt _ (by decide)) (mx_ok a S y h5) (mx_ok c S z h6) h3 h4
      | [], h => cases h
      | [_], h => cases h
      | _ :: _ :: _ :: _, h => cases h
  | .b1 j a, D, G, E, N, ct, X, k, S, x, h => by
    unfold mx at h
    cases w : vCallN x with
    | none => rw [w] at h; cases h
    | some r =>
      obtain ⟨f, q, xs, p⟩ := r
      rw [w] at h
      rw [vCallN_ok w]
      match xs, h with
      | [y], h =>
        obtain ⟨h1, h2⟩ := ba h
        obtain ⟨h2, h3⟩ := ba h2
        obtain ⟨h3, h4⟩ := ba h3
        obtain ⟨h4, h5⟩ := ba h4
        have e : f = b1N j := of_decide_eq_true h2
        subst e
        exact b1_ok S (of_decide_eq_true h1) h3 h4 (mx_ok a S y h5)
      | [], h => cases h
      | _ :: _ :: _, h => cases h
  | .s1 j a, D, G, E, N, ct, X, k, S, x, h => by
    unfold mx at h
    cases w : vCallN x with
    | none => rw [w] at h; cases h
    | some r =>
      obtain ⟨f, q, xs, p⟩ := r
      rw [w] at h
      rw [vCallN_ok w]
      match xs, h with
      | [y], h =>
        obtain ⟨h1, h2⟩ := ba h
        obtain ⟨h2, h3⟩ := ba h2
        obtain ⟨h3, h4⟩ := ba h3
        obtain ⟨h4, h5⟩ := ba h4
        have e : f = s1N j := of_decide_eq_true h2
        subst e
        exact s1_ok S (of_decide_eq_true h1) h3 h4 (mx_ok a S y h5)
      | [], h => cases h
      | _ :: _ :: _, h => cases h
  | .call f as, D, G, E, N, ct, X, k, S, x, h => by
    unfold mx at h
    cases w : vCallN x with
    | none => rw [w] at h; cases h
    | some r =>
      obtain ⟨y, q, xs, p⟩ := r
      rw [w] at h
      rw [vCallN_ok w]
      obtain ⟨h1, h2⟩ := ba h
      obtain ⟨h2, h3⟩ := ba h2
      obtain ⟨h3, h4⟩ := ba h3
      obtain ⟨h4, h5⟩ := ba h4
      have e : (E.fn f).map nmS = some y := of_decide_eq_true h1
      cases w2 : E.fn f with
      | none => rw [w2] at e; cases e
      | some n =>
        rw [w2] at e
        cases e
        obtain ⟨a, fd, ps, F⟩ := S.fns f n w2
        have hr : Room k X.A := S.rm.mono (by omega)
        exact ev_call F hr (S.gl h2) S.hx (ms_ok as S xs h5) (fun e => by subst e; exact ms_nil h5) h4 (okN_d h3).1
  | .meth c m f a as, D, G, E, N, ct, X, k, S, x, h => by
    unfold mx at h
    cases w : vCallM x with
    | none => rw [w] at h; cases h
    | some r =>
      obtain ⟨y, n, p1, xs, p2⟩ := r
      rw [w] at h
      rw [vCallM_ok w]
      obtain ⟨h1, h2⟩ := ba h
      obtain ⟨h2, h3⟩ := ba h2
      obtain ⟨h3, h4⟩ := ba h3
      obtain ⟨h4, h5⟩ := ba h4
      obtain ⟨h5, h6⟩ := ba h5
      obtain ⟨h6, h7⟩ := ba h6
      obtain ⟨h7, h8⟩ := ba h7
      have e : n = nmS m := of_decide_eq_true h2
      subst e
      obtain ⟨C, ad, fd, ps, hc, M⟩ := S.mds f c m (of_decide_eq_true h1)
      have hr : Room k X.A := S.rm.mono (by omega)
      exact ev_meth hc M (mx_ok a S y h7) hr S.hx (ms_ok as S xs h8) (fun e => by subst e; exact ms_nil h8) h3 h4 (of_decide_eq_true h5) h6
  | .new z c f as, D, G, E, N, ct, X, k, S, x, h => by
    unfold mx at h
    cases w : vCallN x with
    | none => rw [w] at h; cases h
    | some r =>
      obtain ⟨y, q, xs, p⟩ := r
      rw [w] at h
      rw [vCallN_ok w]
      obtain ⟨h1, h2⟩ := ba h
      obtain ⟨h2, h3⟩ := ba h2
      obtain ⟨h3, h4⟩ := ba h3
      obtain ⟨h4, h5⟩ := ba h4
      obtain ⟨h5, h6⟩ := ba h5
      have e : y = nmS z := of_decide_eq_true h2
      subst e
      obtain ⟨C, ad, fd, ps, hc, M⟩ := S.nws f z c (of_decide_eq_true h1)
      have hr : Room (k + 1) X.A := S.rm.mono (by omega)
      exact ev_new hc M hr (S.gl h3) S.hx (ms_ok as S xs h6) (fun e => by subst e; exact ms_nil h6) h5 (okN_d h4).1
  | .lc own tg src c e, D, G, E, N, ct, X, k, S, x, h => by
    unfold mx at h
    cases w : vLc x with
    | none => rw [w] at h; cases h
    | some r =>
      obtain ⟨elt, tgx, iter, ifs, scope, p⟩ := r
      rw [w] at h
      rw [vLc_ok w]
      obtain ⟨q1, q2, _⟩ := lc_parts (p := p) S h (mi_ok src S tgx iter) (fun X' S' y => mt_ok c S' y) (fun X' S' y => mx_ok e S' y)
      exact PE.imp q1 (sem_lc (SrcAll G src) q2)
  | .nlc own tg src c e, D, G, E, N, ct, X, k, S, x, h => by
    unfold mx at h
    cases w : vLc x with
    | none => rw [w] at h; cases h
    | some r =>
      obtain ⟨elt, tgx, iter, ifs, scope, p⟩ := r
      rw [w] at h
      rw [vLc_ok w]
      obtain ⟨q1, q2, _⟩ := lc_parts (p := p) S h (mi_ok src S tgx iter) (fun X' S' y => mt_ok c S' y) (fun X' S' y => mx_ok e S' y)
      exact PE.imp q1 (sem_nlc (SrcAll G src) q2)
  | .app o a, D, G, E, N, ct, X, k, S, x, h => by
    unfold mx at h
    cases w : vCallM x with
    | none => rw [w] at h; cases h
    | some r =>
      obtain ⟨y, n, p1, xs, p2⟩ := r
      rw [w] at h
      rw [vCallM_ok w]
      match xs, h with
      | [z], h =>
        obtain ⟨h1, h2⟩ := ba h
        obtain ⟨h2, h3⟩ := ba h2
        obtain ⟨h3, h4⟩ := ba h3
        obtain ⟨h4, h5⟩ := ba h4
        obtain ⟨h5, h6⟩ := ba h5
        have e : n = "append" := of_decide_eq_true h1
        subst e
        exact ev_append (mx_ok o S y h5) (mx_ok a S z h6) (base_of h2) (star_of h3) h4
      | [], h => cases h
      | _ :: _ :: _, h => cases h
  | .ext o a, D, G, E, N, ct, X, k, S, x, h => by
    unfold mx at h
    cases w : vCallM x with
    | none => rw [w] at h; cases h
    | some r =>
      obtain ⟨y, n, p1, xs, p2⟩ := r
      rw [w] at h
      rw [vCallM_ok w]
      match xs, h with
      | [z], h =>
        obtain ⟨h1, h2⟩ := ba h
        obtain ⟨h2, h3⟩ := ba h2
        obtain ⟨h3, h4⟩ := ba h3
        obtain ⟨h4, h5⟩ := ba h4
        obtain ⟨h5, h6⟩ := ba h5
        have e : n = "extend" := of_decide_eq_true h1
        subst e
        exact ev_extend (mx_ok o S y h5) (mx_ok a S z h6) (base_of h2) (star_of h3) h4
      | [], h => cases h
      | _ :: _ :: _, h => cases h
  | .popAt o a, D, G, E, N, ct, X, k, S, x, h => by
    unfold mx at h
    cases w : vCallM x with
    | none => rw [w] at h; cases h
    | some r =>
      obtain ⟨y, n, p1, xs, p2⟩ := r
      rw [w] at h
      rw [vCallM_ok w]
      match xs, h with
      | [z], h =>
        obtain ⟨h1, h2⟩ := ba h
        obtain ⟨h2, h3⟩ := ba h2
        obtain ⟨h3, h4⟩ := ba h3
        obtain ⟨h4, h5⟩ := ba h4
        obtain ⟨h5, h6⟩ := ba h5
        have e : n = "pop" := of_decide_eq_true h1
        subst e
        exact ev_popAt (mx_ok o S y h5) (mx_ok a S z h6) (base_of h2) (star_of h3) h4
      | [], h => cases h
      | _ :: _ :: _, h => cases h
  | .pop o, D, G, E, N, ct, X, k, S, x, h => by
    unfold mx at h
    cases w : vCallM x with
    | none => rw [w] at h; cases h
    | some r =>
      obtain ⟨y, n, p1, xs, p2⟩ := r
      rw [w] at h
      rw [vCallM_ok w]
      match xs, h with
      | [], h =>
        obtain ⟨h1, h2⟩ := ba h
        obtain ⟨h2, h3⟩ := ba h2
        obtain ⟨h3, h4⟩ := ba h3
        have e : n = "pop" := of_decide_eq_true h1
        subst e
        exact ev_pop (mx_ok o S y h4) (base_of h2) h3
      | _ :: _, h => cases h
  | .frz a, D, G, E, N, ct, X, k, S, x, h => ev_frz (mx_ok a S x (by unfold mx at h; exact h))
  | .bad, D, G, E, N, ct, X, k, S, x, h => by unfold mx at h; cases h
  | .n1 j a, D, G, E, N, ct, X, k, S, x, h => by
    unfold mx at h
    cases w : vCallN x with
    | none => rw [w] at h; cases h
    | some r =>
      obtain ⟨f, q, xs, p⟩ := r
      rw [w] at h
      rw [vCallN_ok w]
      match xs, h with
      | [y], h =>
        obtain ⟨h1, h2⟩ := ba h
        obtain ⟨h2, h3⟩ := ba h2
        obtain ⟨h3, h4⟩ := ba h3
        obtain ⟨h4, h5⟩ := ba h4
        have e : f = s1N j := of_decide_eq_true h2
        subst e
        exact n1_ok S (of_decide_eq_true h1) h3 h4 (mx_ok a S y h5)
      | [], h => cases h
      | _ :: _ :: _, h => cases h
  | .join o a, D, G, E, N, ct, X, k, S, x, h => by
    unfold mx at h
    cases w : vCallM x with
    | none => rw [w] at h; cases h
    | some r =>
      obtain ⟨y, n, p1, xs, p2⟩ := r
      rw [w] at h
      rw [vCallM_ok w]
      match xs, h with
      | [z], h =>
        obtain ⟨h1, h2⟩ := ba h
        obtain ⟨h2, h3⟩ := ba h2
        obtain ⟨h3, h4⟩ := ba h3
        obtain ⟨h4, h5⟩ := ba h4
        obtain ⟨h5, h6⟩ := ba h5
        have e : n = "join" := of_decide_eq_true h1
        subst e
        exact ev_join S.hK (mx_ok o S y h5) (mx_ok a S z h6) (star_of h3) (base_of h2) h4
      | [], h => cases h
      | _ :: _ :: _, h => cases h
  | .upd o a, D, G, E, N, ct, X, k, S, x, h => by
    unfold mx at h
    cases w : vCallM x with
    | none => rw [w] at h; cases h
    | some r =>
      obtain ⟨y, n, p1, xs, p2⟩ := r
      rw [w] at h
      rw [vCallM_ok w]
      match xs, h with
      | [z], h =>
        obtain ⟨h1, h2⟩ := ba h
        obtain ⟨h2, h3⟩ := ba h2
        obtain ⟨h3, h4⟩ := ba h3
        obtain ⟨h4, h5⟩ := ba h4
        obtain ⟨h5, h6⟩ := ba h5
        have e : n = "update" := of_decide_eq_true h1
        subst e
        exact ev_update (mx_ok o S y h5) (mx_ok a S z h6) (base_of h2) (star_of h3) h4
      | [], h => cases h
      | _ :: _ :: _, h => cases h
  | .rev a, D, G, E, N, ct, X, k, S, x, h => by
    unfold mx at h
    cases w : vRev x with
    | none => rw [w] at h; cases h
    | some r =>
      obtain ⟨y, i, j, p1, p2, p3, p⟩ := r
      rw [w] at h
      rw [vRev_ok w]
      obtain ⟨h1, h2⟩ := ba h
      have e : i = 1 := of_decide_eq_true h1
      subst e
      exact ev_rev S.hK (mx_ok a S y h2)
  | .dct es, D, G, E, N, ct, X, k, S, x, h => by
    unfold mx at h
    obtain ⟨h1, h2⟩ := ba h
    cases es with
    | cons _ _ => cases h1
    | nil =>
      cases w : vDct0 x with
      | none => rw [w] at h2; cases h2
      | some p => rw [vDct0_ok w]; exact ev_dct0
  | .ndct es, D, G, E, N, ct, X, k, S, x, h => by
    unfold mx at h
    obtain ⟨h1, h2⟩ := ba h
    cases es with
    | cons _ _ => cases h1
    | nil =>
      cases w : vDct0 x with
      | none => rw [w] at h2; cases h2
      | some p => rw [vDct0_ok w]; exact ev_ndct0
  | .dc own tg src c e u, D, G, E, N, ct, X, k, S, x, h => by
    unfold mx at h
    cases w : vDc x with
    | none => rw [w] at h; cases h
    | some r =>
      obtain ⟨kx, vx, tgx, iter, ifs, scope, p⟩ := r
      rw [w] at h
      rw [vDc_ok w]
      exact ev_frz (dc_parts (p := p) S h (mi_ok src S tgx iter) (fun X' S' y => mt_ok c S' y) (fun X' S' y => mx_ok e S' y) (fun X' S' y => mx_ok u S' y))
  | .ndc own tg src c e u, D, G, E, N, ct, X, k, S, x, h => by
    unfold mx at h
    cases w : vDc x with
    | none => rw [w] at h; cases h
    | some r =>
      obtain ⟨kx, vx, tgx, iter, ifs, scope, p⟩ := r
      rw [w] at h
      rw [vDc_ok w]
      exact dc_parts (p := p) S h (mi_ok src S tgx iter) (fun X' S' y => mt_ok c S' y) (fun X' S' y => mx_ok e S' y) (fun X' S' y => mx_ok u S' y)
  | .lcK own tg i c e, D, G, E, N, ct, X, k, S, x, h => by
    unfold mx at h
    cases w : vLc x with
    | none => rw [w] at h; cases h
    | some r =>
      obtain ⟨elt, tgx, iter, ifs, scope, p⟩ := r
      rw [w] at h
      rw [vLc_ok w]
      exact lcK_parts (p := p) S h (fun X' S' y => mt_ok c S' y) (fun X' S' y => mx_ok e S' y)
  | .nbin _ _ _, D, G, E, N, ct, X, k, S, x, h => by unfold mx at h; cases h
  | .b2 _ _ _, D, G, E, N, ct, X, k, S, x, h => by unfold mx at h; cases h
  | .get _ _ _, D, G, E, N, ct, X, k, S, x, h => by unfold mx at h; cases h
  | .cnt _ _, D, G, E, N, ct, X, k, S, x, h => by unfold mx at h; cases h
  | .callK _ _ _, D, G, E, N, ct, X, k, S, x, h => by unfold mx at h; cases h
  | .methK _ _ _ _ _ _, D, G, E, N, ct, X, k, S, x, h => by unfold mx at h; cases h
  | .newK _ _ _ _ _, D, G, E, N, ct, X, k, S, x, h => by unfold mx at h; cases h
theorem ms_ok : ∀ (e : Es) {D : Wd} {G : Gx} {E : Et} {N : List Str} {ct : Ct} {X : Cx} {k : Nat} (S : Sd D G E N ct X k) (xs : List Expr), ms E N ct e xs = true → PA X xs (semA D (G.es e))
  | .nil, D, G, E, N, ct, X, k, S, xs, h => by
    unfold ms at h
    cases xs with
    | nil => exact es_nil
    | cons _ _ => cases h
  | .cons a r, D, G, E, N, ct, X, k, S, xs, h => by
    unfold ms at h
    cases xs with
    | nil => cases h
    | cons x xs =>
      obtain ⟨h1, h2⟩ := ba h
      obtain ⟨h2, h3⟩ := ba h2
      exact es_cons (mx_ok a S x h2) (ms_ok r S xs h3) (star_of h1)
theorem mb_ok : ∀ (e : Oe) {D : Wd} {G : Gx} {E : Et} {N : List Str} {ct : Ct} {X : Cx} {k : Nat} (S : Sd D G E N ct X k) (x : Option Expr), mb E N ct e x = true → PO X x (semB D (bdE (G.oe e)))
  | .non, D, G, E, N, ct, X, k, S, x, h => by
    unfold mb at h
    cases x with
    | none => exact b_none
    | some _ => cases h
  | .one a, D, G, E, N, ct, X, k, S, x, h => by
    unfold mb at h
    cases x with
    | none => cases h
    | some x => exact b_some (mx_ok a S x h)
theorem mt_ok : ∀ (e : Ts) {D : Wd} {G : Gx} {E : Et} {N : List Str} {ct : Ct} {X : Cx} {k : Nat} (S : Sd D G E N ct X k) (x : Expr), mt E N ct e x = true → PT X x (semT D (G.ts e))
  | .yes, D, G, E, N, ct, X, k, S, x, h => by unfold mt at h; cases h
  | .val a, D, G, E, N, ct, X, k, S, x, h => by
    unfold mt at h
    obtain ⟨h1, h2⟩ := ba h
    exact t_val (mx_ok a S x h2) (tval_of h1)
  | .cmp j a b, D, G, E, N, ct, X, k, S, x, h => by
    unfold mt at h
    cases w : vCmp1 x with
    | none => rw [w] at h; cases h
    | some r =>
      obtain ⟨l, op, r, p⟩ := r
      rw [w] at h
      rw [vCmp1_ok w]
      obtain ⟨g1, g2⟩ := ba h
      obtain ⟨g3, g4⟩ := ba g2
      obtain ⟨g5, g6⟩ := ba g4
      obtain ⟨g7, g8⟩ := ba g6
      have e : op = cmpOf j := of_decide_eq_true g3
      subst e
      exact t_cmpG S.hK S.un (of_decide_eq_true g1) (S.rm.mono (by omega)) S.hx S.spcOk (mx_ok a S l g7) (mx_ok b S r g8) (by simpa using g5)
  | .chn j i a b c, D, G, E, N, ct, X, k, S, x, h => by
    unfold mt at h
    cases w : vCmp2 x with
    | none => rw [w] at h; cases h
    | some r =>
      obtain ⟨l, op, r, op', r', p⟩ := r
      rw [w] at h
      rw [vCmp2_ok w]
      obtain ⟨g1, g2⟩ := ba h
      obtain ⟨g3, g4⟩ := ba g2
      obtain ⟨g5, g6⟩ := ba g4
      obtain ⟨g7, g8⟩ := ba g6
      obtain ⟨g9, g10⟩ := ba g8
      obtain ⟨e1, e2⟩ := of_decide_eq_true g3
      obtain ⟨k1, k2⟩ := of_decide_eq_true g1
      subst e1
      subst e2
      exact t_chain S.hK S.un k1 k2 (mx_ok a S l g7) (mx_ok b S r g9) (mx_ok c S r' g10) (by simpa using g5)
  | .not a, D, G, E, N, ct, X, k, S, x, h => by
    unfold mt at h
    cases w : vUn x with
    | none => rw [w] at h; cases h
    | some r =>
      obtain ⟨op, y, p⟩ := r
      rw [w] at h
      rw [vUn_ok w]
      cases op with
      | Not => exact t_not (mt_ok a S y h)
      | _ => cases h
  | .and a b, D, G, E, N, ct, X, k, S, x, h => by
    unfold mt at h
    cases w : vBool x with
    | none => rw [w] at h; cases h
    | some r =>
      obtain ⟨op, y, z, r, p⟩ := r
      rw [w] at h
      rw [vBool_ok w]
      cases op with
      | And =>
        cases r with
        | nil =>
          obtain ⟨h1, h2⟩ := ba h
          exact (t_and (mt_ok a S y h1) (pw_and1 (mt_ok b S z h2))).pt
        | cons r rs =>
          obtain ⟨h1, h2⟩ := ba h
          exact (t_and (mt_ok a S y h1) (pw_of (mt_ok b S _ h2))).pt
      | Or => cases h
  | .or a b, D, G, E, N, ct, X, k, S, x, h => by
    unfold mt at h
    cases w : vBool x with
    | none => rw [w] at h; cases h
    | some r =>
      obtain ⟨op, y, z, r, p⟩ := r
      rw [w] at h
      rw [vBool_ok w]
      cases op with
      | Or =>
        cases r with
        | nil =>
          obtain ⟨h1, h2⟩ := ba h
          exact (t_or (mt_ok a S y h1) (pw_or1 (mt_ok b S z h2))).pt
        | cons r rs =>
          obtain ⟨h1, h2⟩ := ba h
          exact (t_or (mt_ok a S y h1) (pw_of (mt_ok b S _ h2))).pt
      | And => cases h
theorem mi_ok : ∀ (e : Sr) {D : Wd} {G : Gx} {E : Et} {N : List Str} {ct : Ct} {X : Cx} {k : Nat} (S : Sd D G E N ct X k) (t x : Expr), mi E N ct e t x = true → PI X t x (semI D (G.sr e))
  | .val a, D, G, E, N, ct, X, k, S, t, x, h => i_val S.hK (mx_ok a S x (by unfold mi at h; exact h))
  | .rng a, D, G, E, N, ct, X, k, S, t, x, h => by
    unfold mi at h
    cases w : vCallN x with
    | none => rw [w] at h; cases h
    | some r =>
      obtain ⟨f, q, xs, p⟩ := r
      rw [w] at h
      rw [vCallN_ok w]
      match xs, h with
      | [y], h =>
        obtain ⟨h1, h2⟩ := ba h
        obtain ⟨h2, h3⟩ := ba h2
        obtain ⟨h3, h4⟩ := ba h3
        have e : f = "range" := of_decide_eq_true h1
        subst e
        exact i_range (S.gl h2) (S.blt _ (by decide)) (mx_ok a S y h4) h3
      | [], h => cases h
      | _ :: _ :: _, h => cases h
  | .rng2 a b, D, G, E, N, ct, X, k, S, t, x, h => by
    unfold mi at h
    cases w : vCallN x with
    | none => rw [w] at h; cases h
    | some r =>
      obtain ⟨f, q, xs, p⟩ := r
      rw [w] at h
      rw [vCallN_ok w]
      match xs, h with
      | [y, z], h =>
        obtain ⟨h1, h2⟩ := ba h
        obtain ⟨h2, h3⟩ := ba h2
        obtain ⟨h3, h4⟩ := ba h3
        obtain ⟨h4, h5⟩ := ba h4
        obtain ⟨h5, h6⟩ := ba h5
        have e : f = "range" := of_decide_eq_true h1
        subst e
        exact i_range2 (S.gl h2) (S.blt _ (by decide)) (mx_ok a S y h5) (mx_ok b S z h6) h3 h4
      | [], h => cases h
      | [_], h => cases h
      | _ :: _ :: _ :: _, h => cases h
  | .enm a, D, G, E, N, ct, X, k, S, t, x, h => by
    unfold mi at h
    cases w : vCallN x with
    | none => rw [w] at h; cases h
    | some r =>
      obtain ⟨f, q, xs, p⟩ := r
      rw [w] at h
      rw [vCallN_ok w]
      match xs, h with
      | [y], h =>
        obtain ⟨h0, h1⟩ := ba h
        obtain ⟨h1, h2⟩ := ba h1
        obtain ⟨h2, h3⟩ := ba h2
        obtain ⟨h3, h4⟩ := ba h3
        have e : f = "enumerate" := of_decide_eq_true h1
        subst e
        cases t with
        | Tuple ts j pt => exact i_enum (S.gl h2) (S.blt _ (by decide)) (mx_ok a S y h4) h3
        | _ => cases h0
      | [], h => cases h
      | _ :: _ :: _, h => cases h
  | .zip a b, D, G, E, N, ct, X, k, S, t, x, h => by
    unfold mi at h
    cases w : vCallN x with
    | none => rw [w] at h; cases h
    | some r =>
      obtain ⟨f, q, xs, p⟩ := r
      rw [w] at h
      rw [vCallN_ok w]
      match xs, h with
      | [y, z], h =>
        obtain ⟨h0, h1⟩ := ba h
        obtain ⟨h1, h2⟩ := ba h1
        obtain ⟨h2, h3⟩ := ba h2
        obtain ⟨h3, h4⟩ := ba h3
        obtain ⟨h4, h5⟩ := ba h4
        obtain ⟨h5, h6⟩ := ba h5
        have e : f = "zip" := of_decide_eq_true h1
        subst e
        cases t with
        | Tuple ts j pt => exact i_zip (S.gl h2) (S.blt _ (by decide)) (mx_ok a S y h5) (mx_ok b S z h6) h3 h4
        | _ => cases h0
      | [], h => cases h
      | [_], h => cases h
      | _ :: _ :: _ :: _, h => cases h
end
end HV

end

section
/-! V11: statements of the deep syntax; defs. -/
namespace HV
open PySem PySem.Spec PyProof.Rows L2
/-! ### views of statements -/
def sRet : Stmt → Option (Expr × Pos)
  | .Return (some e) p => some (e, p)
  | _ => none
theorem sRet_ok {s : Stmt} {r} (h : sRet s = some r) : s = .Return (some r.1) r.2 := by
  unfold sRet at h; split at h
  · cases h; rfl
  · cases h
def sRetN : Stmt → Option Pos
  | .Return none p => some p
  | _ => none
theorem sRetN_ok {s : Stmt} {r} (h : sRetN s = some r) : s = .Return none r := by
  unfold sRetN at h; split at h
  · cases h; rfl
  · cases h
def sExpr : Stmt → Option (Expr × Pos)
  | .Expr e p => some (e, p)
  | _ => none
theorem sExpr_ok {s : Stmt} {r} (h : sExpr s = some r) : s = .Expr r.1 r.2 := by
  unfold sExpr at h; split at h
  · cases h; rfl
  · cases h
def sAsgN : Stmt → Option (Str × Pos × Expr × Pos)
  | .Assign [.Name x q] e p => some (x, q, e, p)
  | _ => none
theorem sAsgN_ok {s : Stmt} {r} (h : sAsgN s = some r) : s = .Assign [.Name r.1 r.2.1] r.2.2.1 r.2.2.2 := by
  unfold sAsgN at h; split at h
  · cases h; rfl
  · cases h
def sAsgT : Stmt → Option (List Expr × Nat × Pos × Expr × Pos)
  | .Assign [.Tuple xs j q] e p => some (xs, j, q, e, p)
  | _ => none
theorem sAsgT_ok {s : Stmt} {r} (h : sAsgT s = some r) : s = .Assign [.Tuple r.1 r.2.1 r.2.2.1] r.2.2.2.1 r.2.2.2.2 := by
  unfold sAsgT at h; split at h
  · cases h; rfl
  · cases h
def sAsgS : Stmt → Option (Expr × Expr × Pos × Expr × Pos)
  | .Assign [.Subscript o i q] e p => some (o, i, q, e, p)
  | _ => none
theorem sAsgS_ok {s : Stmt} {r} (h : sAsgS s = some r) : s = .Assign [.Subscript r.1 r.2.1 r.2.2.1] r.2.2.2.1 r.2.2.2.2 := by
  unfold sAsgS at h; split at h
  · cases h; rfl
  · cases h
def sAsgA : Stmt → Option (Expr × Str × Pos × Expr × Pos)
  | .Assign [.Attribute o g q] e p => some (o, g, q, e, p)
  | _ => none
theorem sAsgA_ok {s : Stmt} {r} (h : sAsgA s = some r) : s = .Assign [.Attribute r.1 r.2.1 r.2.2.1] r.2.2.2.1 r.2.2.2.2 := by
  unfold sAsgA at h; split at h
  · cases h; rfl
  · cases h
def sIf : Stmt → Option (Expr × List Stmt × List Stmt × Pos)
  | .If c a b p => some (c, a, b, p)
  | _ => none
theorem sIf_ok {s : Stmt} {r} (h : sIf s = some r) : s = .If r.1 r.2.1 r.2.2.1 r.2.2.2 := by
  unfold sIf at h; split at h
  · cases h; rfl
  · cases h
def sWhl : Stmt → Option (Expr × List Stmt × Pos)
  | .While c a [] p => some (c, a, p)
  | _ => none
theorem sWhl_ok {s : Stmt} {r} (h : sWhl s = some r) : s = .While r.1 r.2.1 [] r.2.2 := by
  unfold sWhl at h; split at h
  · cases h; rfl
  · cases h
def sFor : Stmt → Option (Expr × Expr × List Stmt × Pos)
  | .For t i b [] p => some (t, i, b, p)
  | _ => none
theorem sFor_ok {s : Stmt} {r} (h : sFor s = some r) : s = .For r.1 r.2.1 r.2.2.1 [] r.2.2.2 := by
  unfold sFor at h; split at h
  · cases h; rfl
  · cases h
def isPass : Stmt → Bool
  | .Pass _ => true
  | .Expr (.Constant (.str _) _ _) _ => true
  | _ => false
def isBrk : Stmt → Bool
  | .Break _ => true
  | _ => false
def isCont : Stmt → Bool
  | .Continue _ => true
  | _ => false
/-! ### the order of stores -/
def isFun (sc : Scope) : Bool := sc.kind == .function
def swO (kd : Str → Option NameKind) (ts vs : List Expr) : Option (Option (List Str)) :=
  if (!(ts.length == 2 || ts.length == 3) || vs.length != ts.length || (ScopeKind.function != .function)) = true then some none else
  if (vs.any fun | .Starred .. => true | _ => false) = true then some none else
  if ((ts.filterMap fun | .Name id pos => if kd id == some .local && pos.line == (ts.head?.map (·.pos.line)).getD 0 then some id else none | _ => none).length != ts.length || (ts.filterMap fun | .Name id pos => if kd id == some .local && pos.line == (ts.head?.map (·.pos.line)).getD 0 then some id else none | _ => none).eraseDups.length != (ts.filterMap fun | .Name id pos => if kd id == some .local && pos.line == (ts.head?.map (·.pos.line)).getD 0 then some id else none | _ => none).length) = true then some none else
  if vs.all (foldedForSure 8) = true then some none else
  if vs.all (constantsAlone 8) = true then none else
  some (some (ts.filterMap fun | .Name id pos => if kd id == some .local && pos.line == (ts.head?.map (·.pos.line)).getD 0 then some id else none | _ => none))
theorem blk_fun {env : PySem.Env} {sc : Scope} (hs : env.scope = sc) (hf : isFun sc = true) : env.blockKind = .function := by
  have : sc.kind = .function := by simpa [isFun] using hf
  unfold Env.blockKind
  rw [hs, this]
  rfl
theorem swO_ok {env : PySem.Env} {sc : Scope} {ts vs : List Expr} {j j2 : Nat} {q q2 : Pos} {r : Option (List Str)} (hs : env.scope = sc) (hf : isFun sc = true) (h : swO (fun x => sc.names.lookup x) ts vs = some r) : swappedStores [.Tuple ts j q] (.Tuple vs j2 q2) env = pure r := by
  have hb := blk_fun hs hf
  subst hs
  change swO env.kindOf ts vs = some r at h
  unfold swO at h
  unfold swappedStores
  rw [hb]
  dsimp only
  split at h
  · rename_i c; cases h; exact if_pos c
  · rename_i c1
    refine (if_neg c1).trans ?_
    split at h
    · rename_i c; cases h; exact if_pos c
    · rename_i c2
      refine (if_neg c2).trans ?_
      split at h
      · rename_i c; cases h; exact if_pos c
      · rename_i c3
        refine (if_neg c3).trans ?_
        split at h
        · rename_i c; cases h; exact if_pos c
        · rename_i c4
          refine (if_neg c4).trans ?_
          split at h
          · cases h
          · rename_i c5
            cases h
            exact if_neg c5
def swB (sc scope : Scope) (y : Str) (ql pl : Nat) : Bool := (sc.names.lookup y == some .local) && ql == pl && !(scope.names.any fun (n, k) => n == y && (k == .local || k == .cell))
theorem swB_ok {env : PySem.Env} {sc scope : Scope} {elt : Expr} {gs : List Comprehension} {y : Str} {q p : Pos} {l : Nat} (hs : env.scope = sc) (hf : isFun sc = true) : swapsWith (.ListComp elt gs scope p) (some (.Name y q)) l env = pure (swB sc scope y q.line p.line) := by
  have hb := blk_fun hs hf
  subst hs
  unfold swapsWith swB
  simp only [hb, Env.kindOf, Expr.pos, beq_self_eq_true, Bool.true_and]
def isLc : Ex → Bool
  | .lc .. => true
  | .nlc .. => true
  | _ => false
def tgsOf : List Nat → Tgs
  | [] => .nil
  | i :: r => .cons (.nm i) (tgsOf r)
section
variable (E : Et) (N : List Str) (ct : Ct)
def nameIs (x : Expr) (i : Nat) (y : Str) : Bool := match vName x with
  | some (z, _) => decide (z = y) && decide (N[i]? = some y)
  | none => false
def mpar (is : List Nat) (es : Es) (xs : List Expr) (e : Expr) : Bool := match vTup e with
  | some (vs, _, _) => isFun ct.sc && (ms E N ct es vs && (decide (is.length ≤ 16777216) && (match swO (fun x => ct.sc.names.lookup x) xs vs with
    | some none => mgs N ct (tgsOf is) xs
    | some (some ys) => (match is, xs, ys, vs with
      | [i, j], [x, y], [x', y'], [_, _] => nameIs N x i x' && (nameIs N y j y' && (decide (i ≠ j) && (locB ct.sc x' && locB ct.sc y')))
      | [i, j, l], [x, y, z], [x', y', z'], [_, _, _] => nameIs N x i x' && (nameIs N y j y' && (nameIs N z l z' && (decide (i ≠ j ∧ i ≠ l ∧ j ≠ l) && (locB ct.sc x' && (locB ct.sc y' && locB ct.sc z')))))
      | _, _, _, _ => false)
    | none => false)))
  | none => false
mutual
def mst : Stm → Stmt → Bool
  | .pass, s => isPass s
  | .ret a, s => (match sRet s with | some (x, _) => mx E N ct a x | none => false)
  | .retN, s => (sRetN s).isSome
  | .exp a, s => (match sExpr s with | some (x, _) => plainX x && mx E N ct a x | none => false)
  | .set i a, s => (match sAsgN s with
    | some (x, q, e, _) => decide (N[i]? = some x) && (locC ct x && (mx E N ct a e && (plainX e || (isLc a && (isFun ct.sc && (match vLc e with
      | some (_, _, _, _, scope, p) => !swB ct.sc scope x q.line p.line || locB ct.sc x
      | none => false))))))
    | none => false)
  | .setT t a, s => (match sAsgT s with | some (xs, j, q, e, _) => !tupX e && (argX e && (mg N ct t (.Tuple xs j q) && mx E N ct a e)) | none => false)
  | .par is es, s => (match sAsgT s with | some (xs, _, _, e, _) => mpar E N ct is es xs e | none => false)
  | .setI o ix a, s => (match sAsgS s with | some (y, z, _, e, _) => argX e && (argX z && (mx E N ct o y && (mx E N ct ix z && mx E N ct a e))) | none => false)
  | .fld o f a, s => (match sAsgA s with | some (y, g, _, e, _) => argX e && (decide (g = nmS f) && (mx E N ct o y && mx E N ct a e)) | none => false)
  | .ite c a b, s => (match sIf s with | some (t, xs, ys, _) => mt E N ct c t && (msts a xs && msts b ys) | none => false)
  | .whl c b, s => (match sWhl s with | some (t, xs, _) => mt E N ct c t && msts b xs | none => false)
  | .for_ t r b, s => (match sFor s with | some (tgx, iter, xs, _) => !setX iter && (mg N ct t tgx && (mi E N ct r tgx iter && msts b xs)) | none => false)
  | .brk, s => isBrk s
  | .cont, s => isCont s
  | .bad, _ => true
  | .parP _ _, _ => false
def msts : Sts → List Stmt → Bool
  | .nil, xs => xs.isEmpty
  | .cons a r, xs => (match xs with | x :: xs => mst a x && msts r xs | [] => false)
end
end
section
variable {D : Wd} {G : Gx} {E : Et} {N : List Str} {ct : Ct} {X : Cx} {k : Nat}
theorem swap_at {e o : Expr} {f : Str} {p : Pos} {l : Nat} {ev : PySem.Env} : swapsWith e (some (.Attribute o f p)) l ev = pure false := by
  unfold swapsWith
  cases e <;> rfl
theorem swap_sub {e o i : Expr} {p : Pos} {l : Nat} {ev : PySem.Env} : swapsWithSole [.Subscript o i p] e l ev = pure false := by
  show swapsWith e (some (.Subscript o i p)) l ev = pure false
  unfold swapsWith
  cases e <;> rfl
theorem swap_tup {e : Expr} {xs : List Expr} {j : Nat} {p : Pos} {l : Nat} {ev : PySem.Env} : swapsWithSole [.Tuple xs j p] e l ev = pure false := by
  show swapsWith e (some (.Tuple xs j p)) l ev = pure false
  unfold swapsWith
  cases e <;> rfl
theorem loc_of {sc : Scope} {x : Str} (h : locB sc x = true) : sc.names.lookup x = some .local := by
  unfold locB at h
  split at h
  · assumption
  · cases h
theorem nameIs_ok {x : Expr} {i : Nat} {y : Str} (h : nameIs N x i y = true) : ∃ p, x = .Name y p ∧ N[i]? = some y := by
  unfold nameIs at h
  cases w : vName x with
  | none => rw [w] at h; cases h
  | some r =>
    obtain ⟨z, p⟩ := r
    rw [w] at h
    obtain ⟨h1, h2⟩ := ba h
    have e : z = y := of_decide_eq_true h1
    subst e
    exact ⟨p, vName_ok w, of_decide_eq_true h2⟩
theorem tgs_setL : ∀ {is : List Nat} {vs : List Vl} {env : Env} {h : Hm}, G.tgs (tgsOf is) vs env h = setL is vs env
  | [], [], env, h => by simp [tgsOf, Gx.tgs, gsNil, setL]
  | [], _ :: _, env, h => by simp [tgsOf, Gx.tgs, gsNil, setL]
  | _ :: _, [], env, h => by simp [tgsOf, Gx.tgs, gsCons, setL]
  | i :: is, v :: vs, env, h => by
    simp only [tgsOf, Gx.tgs, gsCons, Gx.tg, tgN, setL]
    by_cases hi : i < env.length
    · rw [if_pos hi, if_pos hi]; exact tgs_setL
    · rw [if_neg hi, if_neg hi]
theorem tgs_len : ∀ {is : List Nat}, Tgs.len (tgsOf is) = is.length
  | [] => by simp [tgsOf, Tgs.len]
  | i :: is => by simp [tgsOf, Tgs.len, tgs_len]
theorem par_ok (S : Sd D G E N ct X k) {is : List Nat} {es : Es} {xs : List Expr} {e : Expr} {j : Nat} {q p : Pos} (h : mpar E N ct is es xs e = true) : PS X (.Assign [.Tuple xs j q] e p) (semS D (G.st (.par is es))) := by
  unfold mpar at h
  cases w : vTup e with
  | none => rw [w] at h; cases h
  | some r =>
    obtain ⟨vs, j2, q2⟩ := r
    rw [w] at h
    rw [vTup_ok w]
    dsimp only at h ⊢
    obtain ⟨h1, h2⟩ := ba h
    obtain ⟨h2, h3⟩ := ba h2
    obtain ⟨hln, h3⟩ := ba h3
    have pa := ms_ok es S vs h2
    cases w2 : swO (fun x => ct.sc.names.lookup x) xs vs with
    | none => rw [w2] at h3; cases h3
    | some r =>
      have hw := swO_ok (j := j) (j2 := j2) (q := q) (q2 := q2) S.hsc h1 w2
      rw [w2] at h3
      cases r with
      | none =>
        obtain ⟨g1, g2, g3⟩ := mgs_ok (tgsOf is) S xs h3
        refine PS.imp (ps_asg (pe_tup pa) (pg_tup (k := j) S.calm g1 (g2 _) (g3 _)) swap_tup hw rfl) fun En σ H z => ?_
        obtain ⟨Hs, ρ, h, env, sy, er, p⟩ := z
        refine ⟨Hs, ρ, h, env, sy, er, Post.bindS p fun us h1 H1 Hs1 ρ1 t1 p1 sy1 q1 vs rs => ?_⟩
        cases w3 : setL is us env with
        | none => rw [w3] at q1; exact q1.elim
        | some e2 =>
          rw [w3] at q1
          have hl : us.length = is.length := by
            have : ∀ {is : List Nat} {us : List Vl} {env e2 : Env}, setL is us env = some e2 → us.length = is.length := by
              intro is
              induction is with
              | nil => intro us env e2 w; cases us <;> first | rfl | cases w
              | cons i is ih =>
                intro us env e2 w
                cases us with
                | nil => cases w
                | cons u us =>
                  simp only [setL] at w
                  split at w
                  · simp [ih w]
                  · cases w
            exact this w3
          refine ⟨?_, fun a ha => ?_⟩
          · rw [Paired.length rs, hl, sizeLine_eq]; exact of_decide_eq_true hln
          · have s2 := sy1.other (o := .tup vs) (sy1.nobody ha).1 (sy1.nobody ha).2
            refine ⟨a, vs, rfl, SqT.of upd_same, by rw [Paired.length rs, hl, tgs_len], Hs1, ρ1, h1, env, us, s2, er.mono t1.mono p1, rs, e2, by rw [tgs_setL]; exact w3, fun σ' er' _ _ => ?_⟩
            exact q1 σ' _ Hs1 ρ1 (tr_new ha) Pre.refl s2 er'
      | some ys =>
        dsimp only at h3
        split at h3
        · obtain ⟨k1, h3⟩ := ba h3
          obtain ⟨k2, h3⟩ := ba h3
          obtain ⟨k3, h3⟩ := ba h3
          obtain ⟨k4, k5⟩ := ba h3
          obtain ⟨px, rfl, n1⟩ := nameIs_ok k1
          obtain ⟨py, rfl, n2⟩ := nameIs_ok k2
          exact s_par2 S.calm (by rw [S.hN]; exact S.nd) (by rw [S.hN]; exact n1) (by rw [S.hN]; exact n2) (of_decide_eq_true k3) (by rw [S.hsc]; exact loc_of k4) (by rw [S.hsc]; exact loc_of k5) pa hw
        · obtain ⟨k1, h3⟩ := ba h3
          obtain ⟨k2, h3⟩ := ba h3
          obtain ⟨k3, h3⟩ := ba h3
          obtain ⟨k4, h3⟩ := ba h3
          obtain ⟨k5, h3⟩ := ba h3
          obtain ⟨k6, k7⟩ := ba h3
          obtain ⟨px, rfl, n1⟩ := nameIs_ok k1
          obtain ⟨py, rfl, n2⟩ := nameIs_ok k2
          obtain ⟨pz, rfl, n3⟩ := nameIs_ok k3
          obtain ⟨d1, d2, d3⟩ := of_decide_eq_true k4
          exact s_par3 S.calm (by rw [S.hN]; exact S.nd) (by rw [S.hN]; exact n1) (by rw [S.hN]; exact n2) (by rw [S.hN]; exact n3) d1 d2 d3 (by rw [S.hsc]; exact loc_of k5) (by rw [S.hsc]; exact loc_of k6) (by rw [S.hsc]; exact loc_of k7) pa hw
        · cases h3
theorem lcs_ok (S : Sd D G E N ct X k) {i : Nat} {a : Ex} {x : Str} {q : Pos} {e : Expr} {p : Pos} (hi : N[i]? = some x) (hl : locC ct x = true) (hx : mx E N ct a e = true) (h : (isLc a && (isFun ct.sc && (match vLc e with
      | some (_, _, _, _, scope, p) => !swB ct.sc scope x q.line p.line || locB ct.sc x
      | none => false))) = true) : PS X (.Assign [.Name x q] e p) (semS D (G.st (.set i a))) := by
  obtain ⟨h1, h2⟩ := ba h
  obtain ⟨h2, h3⟩ := ba h2
  obtain ⟨l1, l2⟩ := S.loc hl
  have px := mx_ok a S e hx
  cases w : vLc e with
  | none => rw [w] at h3; cases h3
  | some r =>
    obtain ⟨elt, tgx, iter, ifs, scope, p2⟩ := r
    rw [w] at h3
    rw [vLc_ok w] at px ⊢
    dsimp only at h3 px ⊢
    have sw := swB_ok (elt := elt) (gs := [⟨tgx, iter, ifs, 0⟩]) (y := x) (q := q) (p := p2) (l := p.line) (scope := scope) S.hsc h2
    cases w2 : swB ct.sc scope x q.line p2.line with
    | false =>
      rw [w2] at sw
      exact s_set (ps_set (by rw [S.hN]; exact S.nd) (by rw [S.hN]; exact hi) l1 px sw l2)
    | true =>
      rw [w2] at sw h3
      have hloc : locB ct.sc x = true := by simpa using h3
      refine s_set ?_
      cases a with
      | lc own tg src c e' =>
        unfold mx at hx
        rw [w] at hx
        obtain ⟨_, q2, q3⟩ := lc_parts (p := p2) S hx (mi_ok src S tgx iter) (fun X' S' y => mt_ok c S' y) (fun X' S' y => mx_ok e' S' y)
        refine PS.imp (q3 hi (loc_of hloc) sw) fun En σ H z => ?_
        exact sem_lc (SrcAll G src) q2 σ H _ z
      | nlc own tg src c e' =>
        unfold mx at hx
        rw [w] at hx
        obtain ⟨_, q2, q3⟩ := lc_parts (p := p2) S hx (mi_ok src S tgx iter) (fun X' S' y => mt_ok c S' y) (fun X' S' y => mx_ok e' S' y)
        refine PS.imp (q3 hi (loc_of hloc) sw) fun En σ H z => ?_
        exact sem_nlc (SrcAll G src) q2 σ H _ z
      | _ => cases h1
mutual
theorem mst_ok (S : Sd D G E N ct X k) (hp : PassesOwn (model X.prog X.w) X.A X.env X.xe) : ∀ (a : Stm) (x : Stmt), mst E N ct a x = true → PS X x (semS D (G.st a))
  | .pass, x, h => by
    unfold mst at h
    unfold isPass at h
    split at h
    · exact s_pass
    · exact s_doc
    · cases h
  | .ret a, x, h => by
    unfold mst at h
    cases w : sRet x with
    | none => rw [w] at h; cases h
    | some r => rw [w] at h; rw [sRet_ok w]; exact s_ret (mx_ok a S r.1 h)
  | .retN, x, h => by
    unfold mst at h
    cases w : sRetN x with
    | none => rw [w] at h; cases h
    | some r => rw [sRetN_ok w]; exact s_retN
  | .exp a, x, h => by
    unfold mst at h
    cases w : sExpr x with
    | none => rw [w] at h; cases h
    | some r =>
      rw [w] at h
      rw [sExpr_ok w]
      obtain ⟨h1, h2⟩ := ba h
      exact s_expr (mx_ok a S r.1 h2) (swap_of h1)
  | .set i a, x, h => by
    unfold mst at h
    cases w : sAsgN x with
    | none => rw [w] at h; cases h
    | some r =>
      obtain ⟨y, q, e, p⟩ := r
      rw [w] at h
      rw [sAsgN_ok w]
      obtain ⟨h1, h2⟩ := ba h
      obtain ⟨h2, h3⟩ := ba h2
      obtain ⟨h3, h4⟩ := ba h3
      cases w2 : plainX e with
      | true =>
        obtain ⟨l1, l2⟩ := S.loc h2
        exact s_set (ps_set (by rw [S.hN]; exact S.nd) (by rw [S.hN]; exact of_decide_eq_true h1) l1 (mx_ok a S e h3) (swap_of w2) l2)
      | false =>
        rw [w2] at h4
        exact lcs_ok S (of_decide_eq_true h1) h2 h3 (by simpa using h4)
  | .setT t a, x, h => by
    unfold mst at h
    cases w : sAsgT x with
    | none => rw [w] at h; cases h
    | some r =>
      obtain ⟨xs, j, q, e, p⟩ := r
      rw [w] at h
      rw [sAsgT_ok w]
      obtain ⟨g1, g2⟩ := ba h
      obtain ⟨g3, g4⟩ := ba g2
      obtain ⟨g5, g6⟩ := ba g4
      obtain ⟨k1, k2, _⟩ := mg_ok t S _ g5
      have hw : swappedStores [.Tuple xs j q] e X.env = pure none := by cases e <;> first | rfl | (simp [tupX] at g1)
      refine PS.imp (ps_asg (mx_ok a S e g6) k1 swap_tup hw (k2 [] _)) fun En σ H z => ?_
      obtain ⟨Hs, ρ, h, env, sy, er, p⟩ := z
      refine ⟨Hs, ρ, h, env, sy, er, Post.bindS p fun d h1 H1 Hs1 ρ1 t1 p1 sy1 q1 v rv => ?_⟩
      cases w : G.tg t d env h1 with
      | none => rw [w] at q1; exact q1.elim
      | some e2 =>
        rw [w] at q1
        exact ⟨Hs1, ρ1, h1, env, d, sy1, er.mono t1.mono p1, rv, e2, w, fun σ2 er2 _ _ => q1 σ2 H1 Hs1 ρ1 Tr.refl Pre.refl sy1 er2⟩
  | .par is es, x, h => by
    unfold mst at h
    cases w : sAsgT x with
    | none => rw [w] at h; cases h
    | some r => obtain ⟨xs, j, q, e, p⟩ := r; rw [w] at h; rw [sAsgT_ok w]; exact par_ok S h
  | .setI o ix a, x, h => by
    unfold mst at h
    cases w : sAsgS x with
    | none => rw [w] at h; cases h
    | some r =>
      obtain ⟨y, z, q, e, p⟩ := r
      rw [w] at h
      rw [sAsgS_ok w]
      obtain ⟨h1, h2⟩ := ba h
      obtain ⟨h2, h3⟩ := ba h2
      obtain ⟨h3, h4⟩ := ba h3
      obtain ⟨h4, h5⟩ := ba h4
      refine s_setI (by have := S.un; omega) (mx_ok a S e h5) (mx_ok o S y h3) (mx_ok ix S z h4) swap_sub (fun v => ?_) rfl rfl
      cases z <;> first | rfl | (cases h2)
  | .fld o f a, x, h => by
    unfold mst at h
    cases w : sAsgA x with
    | none => rw [w] at h; cases h
    | some r =>
      obtain ⟨y, g, q, e, p⟩ := r
      rw [w] at h
      rw [sAsgA_ok w]
      obtain ⟨h1, h2⟩ := ba h
      obtain ⟨h2, h3⟩ := ba h2
      obtain ⟨h3, h4⟩ := ba h3
      have e' : g = nmS f := of_decide_eq_true h2
      subst e'
      show PS X _ (semS D fun env h => (G.ex a env h).bindS fun y h => (G.ex o env h).bindS fun x h => (fldH G.isF f x y h).bindS fun _ h => .nx env h)
      rw [S.isF]
      exact s_fld S.ok S.hK (mx_ok a S e h4) (mx_ok o S y h3) swap_at
  | .ite c a b, x, h => by
    unfold mst at h
    cases w : sIf x with
    | none => rw [w] at h; cases h
    | some r =>
      obtain ⟨t, xs, ys, p⟩ := r
      rw [w] at h
      rw [sIf_ok w]
      obtain ⟨h1, h2⟩ := ba h
      obtain ⟨h2, h3⟩ := ba h2
      exact s_if (mt_ok c S t h1) (msts_ok S hp a xs h2) (msts_ok S hp b ys h3)
  | .whl c b, x, h => by
    unfold mst at h
    cases w : sWhl x with
    | none => rw [w] at h; cases h
    | some r =>
      obtain ⟨t, xs, p⟩ := r
      rw [w] at h
      rw [sWhl_ok w]
      obtain ⟨h1, h2⟩ := ba h
      exact s_while hp G.fuel (mt_ok c S t h1) (msts_ok S hp b xs h2)
  | .for_ t r b, x, h => by
    unfold mst at h
    cases w : sFor x with
    | none => rw [w] at h; cases h
    | some rr =>
      obtain ⟨tgx, iter, xs, p⟩ := rr
      rw [w] at h
      rw [sFor_ok w]
      obtain ⟨g1, g2⟩ := ba h
      obtain ⟨g3, g4⟩ := ba g2
      obtain ⟨g5, g6⟩ := ba g4
      have hset : ∀ x, foldedSetIterable iter X.env x = pure x := fun x => by
        cases iter <;> first | rfl | (simp [setX] at g1)
      exact s_for (SrcAll G r) (ps_for hp S.calm (mi_ok r S tgx iter g5) (mg_ok t S tgx g3).1 (msts_ok S hp b xs g6) hset)
  | .brk, x, h => by
    unfold mst at h
    unfold isBrk at h
    split at h
    · exact s_brk
    · cases h
  | .cont, x, h => by
    unfold mst at h
    unfold isCont at h
    split at h
    · exact s_cont
    · cases h
  | .parP _ _, x, h => by unfold mst at h; cases h
  | .bad, x, h => PS.imp (ps_never (st := x)) fun En σ H z => by
    obtain ⟨Hs, ρ, h, env, sy, er, p⟩ := z
    exact p.elim
theorem msts_ok (S : Sd D G E N ct X k) (hp : PassesOwn (model X.prog X.w) X.A X.env X.xe) : ∀ (a : Sts) (xs : List Stmt), msts E N ct a xs = true → PSs X xs (semS D (G.sts a))
  | .nil, xs, h => by
    unfold msts at h
    cases xs with
    | nil => exact ss_nil
    | cons _ _ => cases h
  | .cons a r, xs, h => by
    unfold msts at h
    cases xs with
    | nil => cases h
    | cons x xs =>
      obtain ⟨h1, h2⟩ := ba h
      exact ss_cons (mst_ok S hp a x h1) (msts_ok S hp r xs h2)
end
end
end HV

end

section
/-! V12: defs keep their promises; a module's facts by one Bool. -/
namespace HV
open PySem PySem.Spec PyProof.Rows L2
section
variable {T : Tb} {fld : Nat → Nat} {Hs H Hs' H' : Hp} {ρ ρ' : List Addr} {h h' : Hm} {σ : L2.St} {env : Env}
theorem args_env {vs : List V} {as : List Vl} {N : List Str} {k : Nat} (hN : N.length = vs.length + k) (rs : VlsR T Hs ρ vs as) : EnvR T Hs ρ (L2.start N vs) (as.map some ++ List.replicate k none) := by
  have hl : vs.length = as.length := Paired.length rs
  refine ⟨?_, fun i v e => ?_⟩
  · unfold L2.start
    rw [List.length_append, List.length_append, List.length_replicate, List.length_replicate, List.length_map, List.length_map]
    omega
  · by_cases hi : i < as.length
    · rw [List.getElem?_append_left (by rw [List.length_map]; exact hi), List.getElem?_map] at e
      cases w : as[i]? with
      | none => rw [w] at e; cases e
      | some x =>
        rw [w] at e
        cases e
        obtain ⟨u, g1, g2⟩ := Paired.get rs w
        refine ⟨u, ?_, g2⟩
        unfold L2.start
        rw [List.getElem?_append_left (by rw [List.length_map, hl]; exact hi), List.getElem?_map, g1]
        rfl
    · rw [List.getElem?_append_right (by rw [List.length_map]; omega)] at e
      obtain ⟨h1, h2⟩ := List.getElem?_eq_some_iff.mp e
      rw [List.getElem_replicate] at h2
      cases h2
theorem body_ok {vs : List V} {keep : Bool} {np k : Nat} {N : List Str} {b : Env → Hm → SO} {Q : VK} {E : XK} (hN : N.length = np + k) (z : spF T fld (runF keep np k b) vs H Q E) :
    vs.length = np ∧ semS ⟨T, fld, E⟩ b { nx := fun _ H' => Q .non H', rt := Q } (L2.start N vs) H := by
  obtain ⟨Hs, ρ, h, as, sy, rs, p⟩ := z
  unfold runF at p
  by_cases hl : as.length = np
  · rw [if_pos hl] at p
    have hv : vs.length = np := by rw [Paired.length rs]; exact hl
    refine ⟨hv, Hs, ρ, h, as.map some ++ List.replicate k none, sy, args_env (by omega) rs, ?_⟩
    cases q : b (as.map some ++ List.replicate k none) h with
    | stuck => rw [q] at p; exact p
    | bk e h1 => rw [q] at p; exact p.elim
    | ct e h1 => rw [q] at p; exact p.elim
    | nx e h1 =>
      rw [q] at p
      dsimp only at p
      cases w : HV.cutH keep h.length h1 with
      | none => rw [w] at p; exact p.elim
      | some h2 =>
        rw [w] at p
        intro σ' H' Hs' ρ' t pr sy' er'
        obtain ⟨ρ2, s2, t2, p2, _⟩ := Sy.cutH sy sy' t pr w
        exact p H' Hs' ρ2 t2 p2 s2 .non RepV.non
    | rt v h1 =>
      rw [q] at p
      dsimp only at p
      cases w : HV.cutH keep h.length h1 with
      | none => rw [w] at p; exact p.elim
      | some h2 =>
        rw [w] at p
        dsimp only at p
        intro u H' Hs' ρ' t pr sy' ru
        by_cases hr : refsV h2.length v = true
        · rw [if_pos hr] at p
          obtain ⟨ρ2, s2, t2, p2, k2⟩ := Sy.cutH sy sy' t pr w
          exact p H' Hs' ρ2 t2 p2 s2 u (k2 u v ru hr)
        · rw [if_neg hr] at p; exact p.elim
    | exc c ps h1 =>
      rw [q] at p
      dsimp only at p
      cases w : HV.cutH keep h.length h1 with
      | none => rw [w] at p; exact p.elim
      | some h2 =>
        rw [w] at p
        intro H' Hs' ρ' C d t pr sy' x
        obtain ⟨ρ2, s2, t2, p2, k2⟩ := Sy.cutH sy sy' t pr w
        exact p H' Hs' ρ2 C d t2 p2 s2 x
  · rw [if_neg hl] at p; exact p.elim
end
/-- a def against its text -/
structure DfOk (E : Et) (d : He.DefD) (N ps : List Str) (r : Dr) : Prop where
  sc : FnScope N ps d.scope
  np : r.np = ps.length
  k : r.np + r.k = N.length
  bi : ∀ (kV doc pm : Value) (an : Option Addr) (cdv ct : Value) (us : List Value), us.length = ps.length → bindArgs (PySem.W.fnOf d.name d.qual d.params d.body d.scope .none kV doc pm an cdv ct) ⟨us, []⟩ = pure (ps.zip us)
  dfl : d.dfl = []
  mt : msts E N ⟨d.scope, fun _ => true⟩ r.body d.body = true
section
variable {P : Program} {w : World} {K : PySem.W.Frag} {mg : Str → Option Value} {base : Heap}
/-- what a module gives to its defs -/
structure Mf (P : Program) (w : World) (K : PySem.W.Frag) (mg : Str → Option Value) (T : Tb) (fld : Nat → Nat) (isF : Nat → Nat → Bool) (spc : Nat → Nat → Option Nat) (glo : Nat → Option PV) (E : Et) (tab : Nat → Option Dr) (defs : Nat → Option (He.DefD × List Str × List Str)) : Prop where
  ok : TbOk T
  hK : T.K = K
  isF : isF = T.isF
  blt : ∀ x ∈ bltN, mg x = none
  glo : ∀ g d, glo g = some d → ∃ v, (∀ Hs, RepV T Hs v d) ∧ ((∃ u, mg (nmS g) = some u ∧ RelV v u) ∨ (mg (nmS g) = none ∧ ∃ u, bootBuiltins (nmS g) = some u ∧ RelV v u))
  fn : ∀ f x, E.fn f = some x → ∃ d, defs f = some d ∧ mg (nmS x) = some (.ref (He.fAd K d.1.at_))
  md : ∀ f c m, E.md f = some (c, m) → ∃ d C, defs f = some d ∧ T.cls c = some C ∧ Cls K C ∧ Meth K C (nmS m) (He.fAd K d.1.at_)
  nw : ∀ f x c, E.nw f = some (x, c) → ∃ d C, defs f = some d ∧ T.cls c = some C ∧ L2.Mk K C (He.fAd K d.1.at_) ∧ mg (nmS x) = some (.ref C)
  spc : ∀ j c f, spc j c = some f → j = 6 ∧ E.md f = some (c, nCont)
  df : ∀ f d, defs f = some d → ∃ r, tab f = some r ∧ DfOk E d.1 d.2.1 d.2.2 r ∧ ∃ fd, FunD K d.1.name d.1.qual d.1.params d.1.body d.1.scope (d.1.dvs K) (d.1.kws K) (He.fAd K d.1.at_) fd
theorem Mf.all {T : Tb} {fld : Nat → Nat} {isF : Nat → Nat → Bool} {spc : Nat → Nat → Option Nat} {glo : Nat → Option PV} {E : Et} {tab : Nat → Option Dr} {defs : Nat → Option (He.DefD × List Str × List Str)} (M : Mf P w K mg T fld isF spc glo E tab defs) (fuel : Nat) :
    ∀ (n : Nat) (f : Nat) d, defs f = some d → ∀ fd, FunD K d.1.name d.1.qual d.1.params d.1.body d.1.scope (d.1.dvs K) (d.1.kws K) (He.fAd K d.1.at_) fd → FnOk P w K mg base (L2.CX P w) (3 * n) (He.fAd K d.1.at_) fd d.2.2 (spF T fld (runs isF spc glo fuel tab n f)) ∧ Binds K fd d.2.2 [] ∧ PySem.W.keepIn K (.ref (He.fAd K d.1.at_)) = true ∧
      ∀ (s : Shared) (us : List Value), us.length = d.2.2.length → BindsTo s fd ⟨us, []⟩ (d.2.2.zip us) := by
  intro n
  induction n with
  | zero =>
    intro f d e fd F
    obtain ⟨r, ht, D, _⟩ := M.df f d e
    rw [show d.1.dvs K = [] by unfold He.DefD.dvs; rw [D.dfl]; rfl] at F
    refine ⟨⟨fun vs H Q E z => ?_, fun A outer s H args us vs Q E hr he hb hv z => ?_⟩, F.bindsN D.bi, F.kp, F.bindsA D.bi⟩
    · obtain ⟨Hs, ρ, h, as, sy, rs, p⟩ := z; exact p.elim
    · obtain ⟨Hs, ρ, h, as, sy, rs, p⟩ := z; exact p.elim
  | succ n ih =>
    intro f d e fd F
    obtain ⟨r, ht, D, _⟩ := M.df f d e
    rw [show d.1.dvs K = [] by unfold He.DefD.dvs; rw [D.dfl]; rfl] at F
    refine ⟨?_, F.bindsN D.bi, F.kp, F.bindsA D.bi⟩
    have er : runs isF spc glo fuel tab (n + 1) f = runF r.keep r.np r.k (Gx.sts ⟨isF, spc, runs isF spc glo fuel tab n, glo, fuel⟩ r.body) := by
      simp only [runs, ht]
    rw [er]
    refine F.ok D.sc (fun vs H Q E' z => ?_) fun cdv A outer s H vs Q E' hr z => ?_
    · rw [(body_ok (N := d.2.1) (by rw [← D.k]) z).1, D.np]
    · have S : Sd ⟨T, fld, E'⟩ ⟨isF, spc, runs isF spc glo fuel tab n, glo, fuel⟩ E d.2.1 ⟨d.1.scope, fun _ => true⟩ (cxOf (L2.CX P w) P w K mg base d.2.1 d.1.qual d.1.scope (He.fAd K d.1.at_) cdv A outer s H E') (3 * n) :=
        ⟨M.ok, M.hK, M.isF, rfl, D.sc.nd, rfl, rfl, rfl, hr, passes_call (takes_of rfl rfl rfl rfl) (fun _ _ _ _ h => h), M.blt, M.glo, fun f x e => by
          obtain ⟨d, g1, g2⟩ := M.fn f x e
          obtain ⟨_, _, _, fd, F⟩ := M.df f d g1
          obtain ⟨k1, k2, k3, _⟩ := ih f d g1 fd F
          exact ⟨_, fd, d.2.2, ⟨k1, g2, k3, k2⟩⟩, fun f c m e => by
          obtain ⟨d, C, g1, g2, g3, g4⟩ := M.md f c m e
          obtain ⟨_, _, _, fd, F⟩ := M.df f d g1
          obtain ⟨k1, k2, k3, _⟩ := ih f d g1 fd F
          exact ⟨C, _, fd, d.2.2, g2, ⟨k1, g3, g4, k2⟩⟩, fun f x c e => by
          obtain ⟨d, C, g1, g2, g3, g4⟩ := M.nw f x c e
          obtain ⟨_, _, _, fd, F⟩ := M.df f d g1
          obtain ⟨k1, k2, k3, _⟩ := ih f d g1 fd F
          exact ⟨C, _, fd, d.2.2, g2, ⟨k1, g3, g4, k2⟩⟩, M.spc⟩
      exact ⟨_, msts_ok S (passes_of rfl) r.body d.1.body D.mt, (body_ok (N := d.2.1) (by rw [← D.k]) z).2⟩
end
/-! ### the facts by one Bool -/
/-- the classes of a module: names, fields -/
structure Cd where
  name : Str
  fs : List Nat
def tbOf (K : PySem.W.Frag) (cl : List Cd) : Tb := ⟨K, fun c => (cl[c]?).map fun d => He.ga K d.name, fun c f => match cl[c]? with | some d => d.fs.contains f | none => false⟩
def kdVs (K : PySem.W.Frag) (cl : List Cd) : List (Kd × Value) := (List.range 7).map (fun n => (Kd.ty n, Value.type (tyN n))) ++ cl.zipIdx.map fun p => (Kd.cls p.2, Value.ref (He.ga K p.1.name))
def clsB (K : PySem.W.Frag) (cl : List Cd) : Bool :=
  (cl.all fun d => (He.Fa.cls d.name).ok K && (d.fs.all (fun f => (He.Fa.noat d.name (nmS f)).ok K) &&
    (decide (PySem.W.findIn K (.ref (He.ga K d.name)) "__class__" = some (some (.builtin "object.__class__"))) && (decide (PySem.W.specialIn K (.builtin "object.__class__") "__get__" = some (some (.builtin "getset_descriptor.__get__"))) &&
    (decide (PySem.W.takesIn K (.builtin "object.__class__") = some true) && decide (PySem.W.mroIn K (He.ga K d.name) (.type "object") = some true)))))) &&
  (kdVs K cl).all fun p => (kdVs K cl).all fun q => decide (PySem.W.kitOne K p.2 q.2 = some (kdIs p.1 q.1))
theorem kd_mem {K : PySem.W.Frag} {cl : List Cd} {k : Kd} {u : Value} (h : kdVal (tbOf K cl) k u) : (k, u) ∈ kdVs K cl := by
  unfold kdVs
  cases k with
  | ty n =>
    obtain ⟨h1, rfl⟩ := h
    exact List.mem_append_left _ (List.mem_map.mpr ⟨n, List.mem_range.mpr h1, rfl⟩)
  | cls c =>
    obtain ⟨C, h1, rfl⟩ := h
    refine List.mem_append_right _ (List.mem_map.mpr ?_)
    have h2 : (cl[c]?).map (fun d => He.ga K d.name) = some C := h1
    cases w : cl[c]? with
    | none => rw [w] at h2; cases h2
    | some d =>
      rw [w] at h2
      cases h2
      exact ⟨(d, c), List.mem_zipIdx_iff_getElem?.mpr w, rfl⟩
theorem clsB_ok {K : PySem.W.Frag} {cl : List Cd} (h : clsB K cl = true) : TbOk (tbOf K cl) := by
  obtain ⟨h1, h2⟩ := ba h
  have at_ : ∀ c C, (tbOf K cl).cls c = some C → ∃ d, cl[c]? = some d ∧ C = He.ga K d.name := fun c C e => by
    have h2 : (cl[c]?).map (fun d => He.ga K d.name) = some C := e
    cases w : cl[c]? with
    | none => rw [w] at h2; cases h2
    | some d => rw [w] at h2; cases h2; exact ⟨d, rfl, rfl⟩
  refine ⟨fun c C e => ?_, fun c C f e i => ?_, fun c C e => ?_, fun a b u v e1 e2 => ?_⟩
  · obtain ⟨d, e0, rfl⟩ := at_ c C e
    exact He.cls_ok (ba (List.all_eq_true.mp h1 d (List.mem_of_getElem? e0))).1
  · obtain ⟨d, e0, rfl⟩ := at_ c C e
    have i2 : d.fs.contains f = true := by
      have : (match cl[c]? with | some d => d.fs.contains f | none => false) = true := i
      rw [e0] at this; exact this
    exact He.noat_ok (List.all_eq_true.mp (ba (ba (List.all_eq_true.mp h1 d (List.mem_of_getElem? e0))).2).1 f (by simpa using i2))
  · obtain ⟨d, e0, rfl⟩ := at_ c C e
    have q := (ba (ba (List.all_eq_true.mp h1 d (List.mem_of_getElem? e0))).2).2
    obtain ⟨q1, q⟩ := ba q
    obtain ⟨q2, q⟩ := ba q
    obtain ⟨q3, q4⟩ := ba q
    exact ⟨of_decide_eq_true q1, of_decide_eq_true q2, of_decide_eq_true q3, of_decide_eq_true q4⟩
  · have := List.all_eq_true.mp h2 _ (kd_mem e1)
    have := List.all_eq_true.mp this _ (kd_mem e2)
    exact of_decide_eq_true this
/-- how a def is reached: by its name; as a method; as a class's __init__ -/
inductive Wh where
  | fn (x : Nat)
  | md (c m : Nat)
  | nw (x c : Nat)
/-- a constant of the module, a class, a built-in type -/
inductive Gv where
  | cls (c : Nat)
  | ty (n : Nat)
  | int (i : Int)
  | str (s : Txt)
def Gv.pv : Gv → PV
  | .cls c => .cls c
  | .ty n => .ty n
  | .int i => .int i
  | .str s => .str s
structure Dd where
  d : He.DefD
  N : List Str
  ps : List Str
  r : Dr
  wh : Wh
structure Mo where
  cl : List Cd
  ds : List Dd
  gl : List (Nat × Gv)
  sp : List ((Nat × Nat) × Nat)
def Mo.E (M : Mo) : Et := ⟨fun f => match M.ds[f]? with | some ⟨_, _, _, _, .fn x⟩ => some x | _ => none, fun f => match M.ds[f]? with | some ⟨_, _, _, _, .md c m⟩ => some (c, m) | _ => none, fun f => match M.ds[f]? with | some ⟨_, _, _, _, .nw x c⟩ => some (x, c) | _ => none⟩
def Mo.tab (M : Mo) : Nat → Option Dr := fun f => (M.ds[f]?).map (·.r)
def Mo.isF (M : Mo) : Nat → Nat → Bool := fun c f => match M.cl[c]? with | some d => d.fs.contains f | none => false
def Mo.glo (M : Mo) : Nat → Option PV := fun g => (M.gl.lookup g).map Gv.pv
def Mo.spc (M : Mo) : Nat → Nat → Option Nat := fun j c => M.sp.lookup (j, c)
def Mo.spB (M : Mo) : Bool := M.sp.all fun p => decide (p.1.1 = 6) && decide (M.E.md p.2 = some (p.1.2, nCont))
def Mo.run (M : Mo) (fuel : Nat) : Nat → Nat → List Vl → Hm → R Vl := runs M.isF M.spc M.glo fuel M.tab
def Wh.ok (K : PySem.W.Frag) (cl : List Cd) (d : He.DefD) : Wh → Bool
  | .fn x => decide (d.at_ = (nmS x, none)) && (He.Fa.glo (nmS x)).ok K
  | .md c m => (match cl[c]? with | some C => decide (d.at_ = (C.name, some (nmS m))) && (He.Fa.meth C.name (nmS m)).ok K | none => false)
  | .nw x c => (match cl[c]? with | some C => decide (d.at_ = (C.name, some ("__init__" : Str))) && (decide (C.name = nmS x) && ((He.Fa.mkr C.name).ok K && (He.Fa.glo C.name).ok K)) | none => false)
def Gv.ok (K : PySem.W.Frag) (cl : List Cd) (g : Nat) : Gv → Bool
  | .cls c => (match cl[c]? with | some C => decide (C.name = nmS g) && (He.Fa.glo C.name).ok K | none => false)
  | .ty n => (He.Fa.free (nmS g)).ok K && decide (bootBuiltins (nmS g) = some (.type (tyN n)))
  | .int i => (He.Fa.int (nmS g) i).ok K
  | .str s => (He.Fa.str (nmS g) (tx s)).ok K && (decide (s.length ≤ 16777216) && s.all fun c => decide (c < 1114112))
def Mo.chk (M : Mo) (K : PySem.W.Frag) : Bool := M.spB && (clsB K M.cl && (bltN.all (fun x => (He.Fa.free x).ok K) && (M.ds.all (fun d => d.wh.ok K M.cl d.d) && M.gl.all fun g => g.2.ok K M.cl g.1)))
def Mo.fn (M : Mo) : List He.DefD := M.ds.map (·.d)
def obsV (M : Mo) (K : PySem.W.Frag) : He.AlD := (M.chk K && M.fn.all fun d => d.ok K, M.fn.map fun d => He.fnW K d.at_)
def SaysV (M : Mo) (K : PySem.W.Frag) : Prop := obsV M K = He.valD M.fn
def obsVG (n : Nat) (M : Mo) (g : Addr → Option Obj) : He.AlD := obsV M (He.frG g (He.asD g n))
def hookV (n : Nat) (M : Mo) : PySem.W.Hook where
  α := He.AlD
  obs := fun s => obsVG n M s.heap.get?
  val := fun _ => He.valD M.fn
  says := fun _ h => ∃ K : PySem.W.Frag, K.In h ∧ SaysV M K
  of := fun _ _ e => ⟨_, He.frG_in, e⟩
  keeps := fun _ _ _ ⟨K, hK, c⟩ k => ⟨K, PySem.W.Frag.In.keeps hK k, c⟩
theorem obsVG_eq {n : Nat} {M : Mo} {g : Addr → Option Obj} {s : Shared} (h : ∀ a, g a = s.heap.get? a) : obsVG n M g = (hookV n M).obs s := by
  have e : g = s.heap.get? := funext h
  rw [e] <;> rfl
def DfsOk (E : Et) : List Dd → Prop
  | [] => True
  | d :: r => DfOk E d.d d.N d.ps d.r ∧ DfsOk E r
theorem DfsOk.get {E : Et} : ∀ {ds : List Dd} {f : Nat} {d : Dd}, DfsOk E ds → ds[f]? = some d → DfOk E d.d d.N d.ps d.r
  | [], f, d, _, e => by simp at e
  | x :: r, 0, d, h, e => by simp at e; subst e; exact h.1
  | x :: r, f + 1, d, h, e => DfsOk.get h.2 (by simpa using e)
def Mo.defs (M : Mo) : Nat → Option (He.DefD × List Str × List Str) := fun f => (M.ds[f]?).map fun d => (d.d, d.N, d.ps)
theorem Mo.mf {P : Program} {w : World} {K : PySem.W.Frag} {mg : Str → Option Value} {h : Heap} {M : Mo} {fld : Nat → Nat} (X : K.In h) (G : h.Ns mainGlobals mg) (c : SaysV M K) (hD : DfsOk M.E M.ds) : Mf P w K mg (tbOf K M.cl) fld M.isF M.spc M.glo M.E M.tab M.defs := by
  have c0 : (M.chk K && M.fn.all fun d => d.ok K) = true := congrArg (fun z : He.AlD => z.1) c
  have c1 : M.fn.map (fun d => He.fnW K d.at_) = M.fn.map He.DefD.val := congrArg (fun z : He.AlD => z.2) c
  obtain ⟨c2, c3⟩ := ba c0
  obtain ⟨k0, c2⟩ := ba c2
  obtain ⟨k1, c2⟩ := ba c2
  obtain ⟨k2, c2⟩ := ba c2
  obtain ⟨k3, k4⟩ := ba c2
  have look : ∀ f x, M.ds[f]? = some x → M.defs f = some (x.d, x.N, x.ps) := fun f x e => by unfold Mo.defs; rw [e]; rfl
  refine ⟨clsB_ok k1, rfl, rfl, fun x hx => He.free_ok X G (List.all_eq_true.mp k2 x hx), fun g d e => ?_, fun f x e => ?_, fun f c m e => ?_, fun f x c e => ?_, fun j c f e => ?_, fun f d e => ?_⟩
  · have e1 : (M.gl.lookup g).map Gv.pv = some d := e
    cases w1 : M.gl.lookup g with
    | none => rw [w1] at e1; cases e1
    | some v =>
      rw [w1] at e1
      cases e1
      have mem : (g, v) ∈ M.gl := by
        have : ∀ (l : List (Nat × Gv)), l.lookup g = some v → (g, v) ∈ l := by
          intro l
          induction l with
          | nil => intro h; cases h
          | cons p l ih =>
            intro h
            obtain ⟨a, b⟩ := p
            rw [List.lookup_cons] at h
            cases q : (g == a) with
            | true => rw [q] at h; cases h; rw [beq_iff_eq.mp q]; simp
            | false => rw [q] at h; exact List.mem_cons_of_mem _ (ih h)
        exact this _ w1
      have q := List.all_eq_true.mp k4 _ mem
      dsimp only at q
      cases v with
      | cls c =>
        have q1 : (match M.cl[c]? with | some C => decide (C.name = nmS g) && (He.Fa.glo C.name).ok K | none => false) = true := q
        cases w2 : M.cl[c]? with
        | none => rw [w2] at q1; cases q1
        | some C =>
          rw [w2] at q1
          obtain ⟨q2, q3⟩ := ba q1
          have en : C.name = nmS g := of_decide_eq_true q2
          refine ⟨.ref (He.ga K C.name), fun Hs => .cls (by show (M.cl[c]?).map _ = _; rw [w2]; rfl), .inl ⟨_, ?_, rfl⟩⟩
          rw [← en]
          exact He.glo_ok X G q3
      | ty n =>
        obtain ⟨q1, q2⟩ := ba q
        exact ⟨.ty (tyN n), fun Hs => .ty n, .inr ⟨He.free_ok X G q1, _, of_decide_eq_true q2, rfl⟩⟩
      | int i =>
        obtain ⟨t, q1⟩ := He.int_ok X G q
        exact ⟨.int i, fun Hs => .int i, .inl ⟨_, q1, t, rfl⟩⟩
      | str s =>
        obtain ⟨q1, q2⟩ := ba q
        obtain ⟨q2, q3⟩ := ba q2
        obtain ⟨t, q1⟩ := He.str_ok X G q1
        exact ⟨.str (tx s), fun Hs => .str s ⟨by rw [sizeLine_eq]; exact of_decide_eq_true q2, fun c hc => of_decide_eq_true (List.all_eq_true.mp q3 c hc)⟩, .inl ⟨_, q1, t, rfl⟩⟩
  · have e1 : (match M.ds[f]? with | some ⟨_, _, _, _, .fn x⟩ => some x | _ => none) = some x := e
    cases w1 : M.ds[f]? with
    | none => rw [w1] at e1; cases e1
    | some d =>
      rw [w1] at e1
      have q := List.all_eq_true.mp k3 d (List.mem_of_getElem? w1)
      obtain ⟨d0, N0, p0, r0, wh⟩ := d
      cases wh with
      | fn y =>
        cases e1
        obtain ⟨q1, q2⟩ := ba q
        have ea : d0.at_ = (nmS x, none) := of_decide_eq_true q1
        refine ⟨_, look f _ w1, ?_⟩
        have ef : He.fAd K d0.at_ = He.ga K (nmS x) := by rw [ea]; rfl
        dsimp only
        rw [ef]
        exact He.glo_ok X G q2
      | md _ _ => cases e1
      | nw _ _ => cases e1
  · have e1 : (match M.ds[f]? with | some ⟨_, _, _, _, .md c m⟩ => some (c, m) | _ => none) = some (c, m) := e
    cases w1 : M.ds[f]? with
    | none => rw [w1] at e1; cases e1
    | some d =>
      rw [w1] at e1
      have q := List.all_eq_true.mp k3 d (List.mem_of_getElem? w1)
      obtain ⟨d0, N0, p0, r0, wh⟩ := d
      cases wh with
      | md c' m' =>
        cases e1
        have q1 : (match M.cl[c]? with | some C => decide (d0.at_ = (C.name, some (nmS m))) && (He.Fa.meth C.name (nmS m)).ok K | none => false) = true := q
        cases w2 : M.cl[c]? with
        | none => rw [w2] at q1; cases q1
        | some C =>
          rw [w2] at q1
          obtain ⟨q1, q2⟩ := ba q1
          have ea : d0.at_ = (C.name, some (nmS m)) := of_decide_eq_true q1
          refine ⟨_, He.ga K C.name, look f _ w1, by show (M.cl[c]?).map _ = _; rw [w2]; rfl, ?_, ?_⟩
          · exact (clsB_ok k1).cl c _ (by show (M.cl[c]?).map _ = _; rw [w2]; rfl)
          · have ef : He.fAd K d0.at_ = He.ma K (He.ga K C.name) (nmS m) := by rw [ea]; rfl
            dsimp only
            rw [ef]
            exact He.meth_ok q2
      | fn _ => cases e1
      | nw _ _ => cases e1
  · have e1 : (match M.ds[f]? with | some ⟨_, _, _, _, .nw x c⟩ => some (x, c) | _ => none) = some (x, c) := e
    cases w1 : M.ds[f]? with
    | none => rw [w1] at e1; cases e1
    | some d =>
      rw [w1] at e1
      have q := List.all_eq_true.mp k3 d (List.mem_of_getElem? w1)
      obtain ⟨d0, N0, p0, r0, wh⟩ := d
      cases wh with
      | nw x' c' =>
        cases e1
        have q1 : (match M.cl[c]? with | some C => decide (d0.at_ = (C.name, some ("__init__" : Str))) && (decide (C.name = nmS x) && ((He.Fa.mkr C.name).ok K && (He.Fa.glo C.name).ok K)) | none => false) = true := q
        cases w2 : M.cl[c]? with
        | none => rw [w2] at q1; cases q1
        | some C =>
          rw [w2] at q1
          obtain ⟨q1, q2⟩ := ba q1
          obtain ⟨q2, q3⟩ := ba q2
          obtain ⟨q3, q4⟩ := ba q3
          have ea : d0.at_ = (C.name, some ("__init__" : Str)) := of_decide_eq_true q1
          have en : C.name = nmS x := of_decide_eq_true q2
          refine ⟨_, He.ga K C.name, look f _ w1, by show (M.cl[c]?).map _ = _; rw [w2]; rfl, ?_, ?_⟩
          · have ef : He.fAd K d0.at_ = He.ma K (He.ga K C.name) "__init__" := by rw [ea]; rfl
            dsimp only
            rw [ef]
            exact He.mkr_ok q3
          · rw [← en]
            exact He.glo_ok X G q4
      | fn _ => cases e1
      | md _ _ => cases e1
  · have mem : ((j, c), f) ∈ M.sp := by
      have : ∀ (l : List ((Nat × Nat) × Nat)), l.lookup (j, c) = some f → ((j, c), f) ∈ l := by
        intro l
        induction l with
        | nil => intro h; cases h
        | cons p l ih =>
          intro h
          obtain ⟨a, b⟩ := p
          rw [List.lookup_cons] at h
          cases q : ((j, c) == a) with
          | true => rw [q] at h; cases h; rw [beq_iff_eq.mp q]; simp
          | false => rw [q] at h; exact List.mem_cons_of_mem _ (ih h)
      exact this _ e
    obtain ⟨q1, q2⟩ := ba (List.all_eq_true.mp k0 _ mem)
    exact ⟨of_decide_eq_true q1, of_decide_eq_true q2⟩
  · have e1 : (M.ds[f]?).map (fun d => (d.d, d.N, d.ps)) = some d := e
    cases w1 : M.ds[f]? with
    | none => rw [w1] at e1; cases e1
    | some x =>
      rw [w1] at e1
      cases e1
      refine ⟨x.r, by unfold Mo.tab; rw [w1]; rfl, hD.get w1, ?_⟩
      have hm : M.fn[f]? = some x.d := by unfold Mo.fn; rw [List.getElem?_map, w1]; rfl
      have e2 : (M.fn.map fun d => He.fnW K d.at_)[f]? = (M.fn.map He.DefD.val)[f]? := by rw [c1]
      rw [List.getElem?_map, List.getElem?_map, hm] at e2
      exact He.DefD.funD (Option.some.inj e2) (List.all_eq_true.mp c3 x.d (List.mem_of_getElem? hm))
/-- the law's def: what the run says is what Python says -/
theorem Mo.law {P : Program} {w : World} {K : PySem.W.Frag} {mg : Str → Option Value} {h : Heap} {M : Mo} {fld : Nat → Nat} {n fuel f : Nat} {d : Dd} {x : Str} (X : K.In h) (G : h.Ns mainGlobals mg) (c : SaysV M K) (hD : DfsOk M.E M.ds) (hd : M.ds[f]? = some d) (hp : d.ps = [x]) {fa : Addr} (hf : He.fAd K d.d.at_ = fa) :
    ∃ fd : FuncData, (∀ (s : Shared) (v : Value), BindsTo s fd ⟨[v], []⟩ [(x, v)]) ∧ ∀ base : Heap, K.In base → base.Ns mainGlobals mg → FnOk P w K mg base (L2.CX P w) (3 * n) fa fd [x] (spF (tbOf K M.cl) fld (M.run fuel n f)) := by
  have M0 : Mf P w K mg (tbOf K M.cl) fld M.isF M.spc M.glo M.E M.tab M.defs := M.mf X G c hD
  have look : M.defs f = some (d.d, d.N, d.ps) := by unfold Mo.defs; rw [hd]; rfl
  obtain ⟨r, ht, D, fd, F⟩ := M0.df f _ look
  obtain ⟨_, _, _, b⟩ := M0.all (base := h) fuel n f _ look fd F
  refine ⟨fd, fun s v => ?_, fun base _ _ => ?_⟩
  · have := b s [v] (by show 1 = d.ps.length; rw [hp]; rfl)
    dsimp only at this
    rw [hp] at this
    exact this
  · have := (M0.all (base := base) fuel n f _ look fd F).1
    dsimp only at this
    rw [hp, hf] at this
    exact this
/-- the law's script -/
theorem spF_law {K : PySem.W.Frag} {cl : List Cd} {fld : Nat → Nat} {φ : List Vl → Hm → R Vl} (hφ : ∀ ns : List Int, ns.length ≤ 63 → ∃ h, φ [.fz (.scr ns)] [] = .ok (.fz (.bl true)) h) (H : Hp) (a : Addr) (ns : List Int) (hl : ns.length ≤ 63) (hS : SqL K H a (ns.map V.int)) :
    spF (tbOf K cl) fld φ [.ref a] H (fun v _ => v = .bl true) fun _ _ _ => False := by
  obtain ⟨h, e⟩ := hφ ns hl
  refine ⟨H, [], [], [.fz (.scr ns)], ⟨Same.refl _, rfl, fun i j b o u z => by simp at z, fun n o b z => by simp at z⟩, .cons (RepV.scr hS (by rw [sizeLine_eq]; omega)) .nil, ?_⟩
  rw [e]
  intro H' Hs' ρ' _ _ _ v rv
  cases (show RepV _ _ v (.bl true) from rv)
  rfl
/-- what a call lets out, whatever the world -/
def CXw (P : Program) : CXT := fun outer H s E u s' => ∃ w, L2.CX P w outer H s E u s'
theorem FnOk.cx {P : Program} {w : World} {K : PySem.W.Frag} {mg : Str → Option Value} {base : Heap} {CX CX' : CXT} {k : Nat} {f : Addr} {fd : FuncData} {ps : List Str} {sp : Sp} (F : FnOk P w K mg base CX k f fd ps sp)
    (h : ∀ outer H s E u s', CX outer H s E u s' → CX' outer H s E u s') : FnOk P w K mg base CX' k f fd ps sp :=
  ⟨F.len, fun A outer s H args us vs Q E hr he hb hv z => codeAny_mono (F.run A outer s H args us vs Q E hr he hb hv z) fun r s' q => by
    cases r with
    | error e => exact h _ _ _ _ _ _ q
    | ok fl => cases fl <;> exact q⟩
theorem CXw.no {P : Program} (H : Hp) (s : Shared) (e : Value) (s' : Shared) (c : CXw P [] H s (fun _ _ _ => False) e s') : False := by
  obtain ⟨w, a, B, H', cls, d, _, _, _, _, _, _, _, z⟩ := c
  exact z
theorem law_at {P : Program} {w : World} {K : PySem.W.Frag} {mg : Str → Option Value} {h : Heap} {M : Mo} {f x : Nat} {d : Dd} {fa : Addr} (X : K.In h) (G : h.Ns mainGlobals mg) (c : SaysV M K) (hD : DfsOk M.E M.ds) (hmg : mg ("law" : Str) = some (.ref fa)) (hd : M.ds[f]? = some d) (hx : M.E.fn f = some x) (hn : nmS x = "law") : He.fAd K d.d.at_ = fa := by
  have M0 : Mf P w K mg (tbOf K M.cl) (fun _ => 0) M.isF M.spc M.glo M.E M.tab M.defs := M.mf X G c hD
  obtain ⟨d', g1, g2⟩ := M0.fn f x hx
  have look : M.defs f = some (d.d, d.N, d.ps) := by unfold Mo.defs; rw [hd]; rfl
  rw [look] at g1
  cases g1
  rw [hn, hmg] at g2
  cases g2
  rfl
end HV

end

section
namespace HV.k04
open HV
/-- is_integer(thing) -/
def b0 : Sts := (.cons (.ret (.and (.isi (.var 0) (.glo 6909556)) (.not (.isi (.var 0) (.glo 1651470188))))) .nil)
/-- is_list(thing) -/
def b1 : Sts := (.cons (.ret (.isi (.var 0) (.tup (.cons (.glo 1818850164) (.cons (.glo 500186508389) .nil))))) .nil)
/-- is_name(thing) -/
def b2 : Sts := (.cons (.ret (.and (.isi (.var 0) (.glo 7566450)) (.and (.cmp 1 (.var 0) (.cst (.str []))) (.b1 1 (.lc [1] (.nm 1) (.val (.var 0)) .yes (.cmp 6 (.var 1) (.glo 357711695443))))))) .nil)
/-- is_vector(thing, size) -/
def b3 : Sts := (.cons (.ret (.and (.call 1 (.cons (.var 0) .nil)) (.and (.cmp 0 (.len (.var 0)) (.var 1)) (.b1 1 (.lc [2] (.nm 2) (.val (.var 0)) .yes (.call 0 (.cons (.var 2) .nil))))))) .nil)
/-- summed(one, other) -/
def b4 : Sts := (.cons (.ret (.s1 1 (.lc [2, 3] (.tp (.cons (.nm 2) (.cons (.nm 3) .nil))) (.zip (.var 0) (.var 1)) .yes (.bin 0 (.var 2) (.var 3))))) .nil)
/-- check_rooms(rooms) -/
def b5 : Sts := (.cons (.ite (.or (.not (.val (.call 1 (.cons (.var 0) .nil)))) (.or (.cmp 0 (.len (.var 0)) (.cst (.int 0))) (.not (.val (.b1 1 (.lc [1] (.nm 1) (.val (.var 0)) .yes (.call 2 (.cons (.var 1) .nil)))))))) (.cons .bad .nil) .nil) (.cons (.ite (.cmp 1 (.len (.dc [1] (.nm 1) (.val (.var 0)) .yes (.var 1) (.cst (.bl true)))) (.len (.var 0))) (.cons .bad .nil) .nil) .nil))
/-- is_tie(thing, axes, known_rooms, taken) -/
def b6 : Sts := (.cons (.ite (.or (.not (.val (.call 1 (.cons (.var 0) .nil)))) (.or (.cmp 1 (.len (.var 0)) (.cst (.int 4))) (.or (.not (.val (.call 2 (.cons (.idx (.var 0) (.cst (.int 0))) .nil)))) (.cmp 6 (.idx (.var 0) (.cst (.int 0))) (.var 3))))) (.cons (.ret (.cst (.bl false))) .nil) .nil) (.cons (.for_ (.nm 4) (.val (.tup (.cons (.idx (.var 0) (.cst (.int 1))) (.cons (.idx (.var 0) (.cst (.int 2))) .nil)))) (.cons (.ite (.or (.not (.val (.call 2 (.cons (.var 4) .nil)))) (.cmp 7 (.var 4) (.var 2))) (.cons (.ret (.cst (.bl false))) .nil) .nil) .nil)) (.cons (.ret (.call 3 (.cons (.idx (.var 0) (.cst (.int 3))) (.cons (.var 1) .nil)))) .nil)))
/-- checked_ties(axes, known_rooms, ties, ahead) -/
def b7 : Sts := (.cons (.ite (.not (.val (.call 1 (.cons (.var 2) .nil)))) (.cons .bad .nil) .nil) (.cons (.set 4 (.nlst .nil)) (.cons (.for_ (.tp (.cons (.nm 5) (.cons (.nm 6) .nil))) (.enm (.var 2)) (.cons (.ite (.not (.val (.call 6 (.cons (.var 6) (.cons (.var 0) (.cons (.var 1) (.cons (.bin 0 (.var 3) (.lc [7] (.nm 7) (.val (.var 4)) .yes (.idx (.var 7) (.cst (.int 0))))) .nil))))))) (.cons .bad .nil) .nil) (.cons (.exp (.app (.var 4) (.tup (.cons (.idx (.var 6) (.cst (.int 0))) (.cons (.idx (.var 6) (.cst (.int 1))) (.cons (.idx (.var 6) (.cst (.int 2))) (.cons (.s1 1 (.idx (.var 6) (.cst (.int 3)))) .nil))))))) .nil))) (.cons (.ret (.frz (.var 4))) .nil))))
/-- Net.__init__(self, axes, rooms, ties) -/
def b8 : Sts := (.cons (.ite (.or (.not (.val (.call 0 (.cons (.var 1) .nil)))) (.not (.chn 3 3 (.cst (.int 0)) (.var 1) (.glo 1426115298795793696083)))) (.cons .bad .nil) .nil) (.cons (.exp (.call 5 (.cons (.var 2) .nil))) (.cons (.fld (.var 0) 1635280243 (.var 1)) (.cons (.fld (.var 0) 540405396817959671653747 (.s1 0 (.var 2))) (.cons (.fld (.var 0) 8388347241570465651 (.call 7 (.cons (.var 1) (.cons (.var 2) (.cons (.var 3) (.cons (.lst .nil) .nil)))))) .nil)))))
/-- Net.rooms(self) -/
def b9 : Sts := (.cons (.ret (.s1 0 (.att (.var 0) 540405396817959671653747))) .nil)
/-- Net.ties(self) -/
def b10 : Sts := (.cons (.ret (.s1 0 (.att (.var 0) 8388347241570465651))) .nil)
/-- Net.tie(self, name) -/
def b11 : Sts := (.cons (.for_ (.nm 2) (.val (.att (.var 0) 8388347241570465651)) (.cons (.ite (.and (.val (.isi (.var 1) (.glo 7566450))) (.cmp 0 (.idx (.var 2) (.cst (.int 0))) (.var 1))) (.cons (.ret (.var 2)) .nil) .nil) .nil)) (.cons .bad .nil))
/-- Net.__len__(self) -/
def b12 : Sts := (.cons (.ret (.len (.att (.var 0) 8388347241570465651))) .nil)
/-- Net.__contains__(self, thing) -/
def b13 : Sts := (.cons (.ret (.and (.isi (.var 1) (.glo 7566450)) (.cmp 6 (.var 1) (.lc [2] (.nm 2) (.val (.att (.var 0) 8388347241570465651)) .yes (.idx (.var 2) (.cst (.int 0))))))) .nil)
/-- Net.__eq__(self, other) -/
def b14 : Sts := (.cons (.ite (.or (.not (.val (.isi (.var 1) (.glo 5137780)))) (.cmp 1 (.att (.var 0) 1635280243) (.att (.var 1) 1635280243))) (.cons (.ret (.cst (.bl false))) .nil) .nil) (.cons (.ret (.and (.cmp 0 (.att (.var 0) 540405396817959671653747) (.att (.var 1) 540405396817959671653747)) (.cmp 0 (.att (.var 0) 8388347241570465651) (.att (.var 1) 8388347241570465651)))) .nil))
/-- Net.__or__(self, other) -/
def b15 : Sts := (.cons (.ite (.cmp 1 (.att (.var 0) 1635280243) (.att (.var 1) 1635280243)) (.cons .bad .nil) .nil) (.cons (.for_ (.nm 2) (.val (.att (.var 1) 8388347241570465651)) (.cons (.ite (.cmp 6 (.idx (.var 2) (.cst (.int 0))) (.var 0)) (.cons .bad .nil) .nil) .nil)) (.cons (.set 3 (.lc [4] (.nm 4) (.val (.att (.var 1) 540405396817959671653747)) (.cmp 7 (.var 4) (.att (.var 0) 540405396817959671653747)) (.var 4))) (.cons (.ret (.frz (.new 5137780 0 8 (.cons (.att (.var 0) 1635280243) (.cons (.bin 0 (.att (.var 0) 540405396817959671653747) (.var 3)) (.cons (.bin 0 (.att (.var 0) 8388347241570465651) (.att (.var 1) 8388347241570465651)) .nil)))))) .nil))))
/-- Net.__invert__(self) -/
def b16 : Sts := (.cons (.set 1 (.lc [2, 3, 4, 5] (.tp (.cons (.nm 2) (.cons (.nm 3) (.cons (.nm 4) (.cons (.nm 5) .nil))))) (.val (.att (.var 0) 8388347241570465651)) .yes (.tup (.cons (.var 2) (.cons (.var 4) (.cons (.var 3) (.cons (.lc [6] (.nm 6) (.val (.var 5)) .yes (.neg (.var 6))) .nil))))))) (.cons (.ret (.frz (.new 5137780 0 8 (.cons (.att (.var 0) 1635280243) (.cons (.att (.var 0) 540405396817959671653747) (.cons (.var 1) .nil)))))) .nil))
/-- Net.check_names(self, names) -/
def b17 : Sts := (.cons .bad .nil)
/-- Net.without(self, names) -/
def b18 : Sts := (.cons .bad .nil)
/-- Net.only(self, names) -/
def b19 : Sts := (.cons .bad .nil)
/-- Net.more(self, ties) -/
def b20 : Sts := (.cons (.set 2 (.lc [4] (.nm 4) (.val (.att (.var 0) 8388347241570465651)) .yes (.idx (.var 4) (.cst (.int 0))))) (.cons (.set 3 (.call 7 (.cons (.att (.var 0) 1635280243) (.cons (.att (.var 0) 540405396817959671653747) (.cons (.var 1) (.cons (.var 2) .nil)))))) (.cons (.ret (.frz (.new 5137780 0 8 (.cons (.att (.var 0) 1635280243) (.cons (.att (.var 0) 540405396817959671653747) (.cons (.bin 0 (.att (.var 0) 8388347241570465651) (.var 3)) .nil)))))) .nil)))
/-- is_way(net, thing) -/
def b21 : Sts := (.cons (.ite (.or (.not (.val (.call 1 (.cons (.var 1) .nil)))) (.or (.cmp 0 (.len (.var 1)) (.cst (.int 0))) (.not (.val (.b1 1 (.lc [5] (.nm 5) (.val (.var 1)) .yes (.cmp 6 (.var 5) (.var 0)))))))) (.cons (.ret (.cst (.bl false))) .nil) .nil) (.cons (.set 2 (.lc [5] (.nm 5) (.val (.var 1)) .yes (.meth 0 7629157 11 (.var 0) (.cons (.var 5) .nil)))) (.cons (.ite (.not (.val (.b1 1 (.lc [4, 6] (.tp (.cons (.nm 4) (.cons (.nm 6) .nil))) (.zip (.var 2) (.bin 0 (.slc (.var 2) (.one (.cst (.int 1))) .non) (.slc (.var 2) .non (.one (.cst (.int 1)))))) .yes (.cmp 0 (.idx (.var 4) (.cst (.int 2))) (.idx (.var 6) (.cst (.int 1)))))))) (.cons (.ret (.cst (.bl false))) .nil) .nil) (.cons (.set 3 (.bin 2 (.tup (.cons (.cst (.int 0)) .nil)) (.att (.var 0) 1635280243))) (.cons (.for_ (.nm 4) (.val (.var 2)) (.cons (.set 3 (.call 4 (.cons (.var 3) (.cons (.idx (.var 4) (.cst (.int 3))) .nil)))) .nil)) (.cons (.ret (.not (.b1 2 (.var 3)))) .nil))))))
/-- _law_n_words(_law_stream, _law_many) -/
def b22 : Sts := (.cons (.set 2 (.nlst .nil)) (.cons (.for_ (.nm 3) (.rng (.var 1)) (.cons (.set 4 (.join (.cst (.str [])) (.lc [6] (.nm 6) (.rng (.bin 0 (.cst (.int 1)) (.call 26 (.cons (.var 0) (.cons (.cst (.int 4)) .nil))))) .yes (.call 27 (.cons (.var 0) (.cons (.cst (.str [97, 98, 99, 120, 121, 122, 48, 49, 57, 46])) .nil)))))) (.cons (.set 5 (.bin 0 (.lst (.cons (.var 4) .nil)) (.lc [7] (.nm 7) (.val (.cst (.str [97, 98, 99, 100, 101, 102, 103, 104, 105, 106, 107, 108, 109, 110, 111, 112, 113, 114, 115, 116, 117, 118, 119, 120, 121, 122]))) .yes (.bin 0 (.var 7) (.cst (.str [113])))))) (.cons (.exp (.app (.var 2) (.idx (.lc [8] (.nm 8) (.val (.var 5)) (.cmp 7 (.var 8) (.var 2)) (.var 8)) (.cst (.int 0))))) .nil)))) (.cons (.ret (.frz (.var 2))) .nil)))
/-- _law_n_plan(_law_stream, _law_axes, _law_halls, _law_many, _law_wide) -/
def b23 : Sts := (.cons (.set 5 (.call 22 (.cons (.var 0) (.cons (.bin 0 (.cst (.int 1)) (.call 26 (.cons (.var 0) (.cons (.var 2) .nil)))) .nil)))) (.cons (.par [6, 7] (.cons (.bin 0 (.cst (.int 1)) (.call 26 (.cons (.var 0) (.cons (.var 3) .nil)))) (.cons (.nlst .nil) .nil))) (.cons (.for_ (.tp (.cons (.nm 8) (.cons (.nm 9) .nil))) (.enm (.call 22 (.cons (.var 0) (.cons (.var 6) .nil)))) (.cons (.par [11, 12] (.cons (.call 27 (.cons (.var 0) (.cons (.var 5) .nil))) (.cons (.call 27 (.cons (.var 0) (.cons (.var 5) .nil))) .nil))) (.cons (.ite (.and (.cmp 2 (.var 8) (.len (.var 5))) (.cmp 4 (.call 26 (.cons (.var 0) (.cons (.cst (.int 4)) .nil))) (.cst (.int 0)))) (.cons (.par [11, 12] (.cons (.idx (.var 5) (.var 8)) (.cons (.idx (.var 5) (.bin 4 (.bin 0 (.var 8) (.cst (.int 1))) (.len (.var 5)))) .nil))) .nil) .nil) (.cons (.set 10 (.lc [13] (.nm 13) (.rng (.var 1)) .yes (.bin 1 (.call 26 (.cons (.var 0) (.cons (.bin 0 (.bin 2 (.cst (.int 2)) (.var 4)) (.cst (.int 1))) .nil))) (.var 4)))) (.cons (.exp (.app (.var 7) (.tup (.cons (.var 9) (.cons (.var 11) (.cons (.var 12) (.cons (.s1 1 (.var 10)) .nil))))))) .nil))))) (.cons (.ret (.tup (.cons (.var 1) (.cons (.var 5) (.cons (.var 7) .nil))))) .nil))))
/-- _law_n_made(_law_plan) -/
def b24 : Sts := (.cons (.ret (.frz (.new 5137780 0 8 (.cons (.idx (.var 0) (.cst (.int 0))) (.cons (.idx (.var 0) (.cst (.int 1))) (.cons (.idx (.var 0) (.cst (.int 2))) .nil)))))) .nil)
/-- _law_start(_law_script) -/
def b25 : Sts := (.cons (.ret (.nlst (.cons (.n1 0 (.var 0)) (.cons (.cst (.int 0)) (.cons (.cst (.int 0)) (.cons (.cst (.int 11)) .nil)))))) .nil)
/-- _law_draw(_law_stream, _law_many) -/
def b26 : Sts := (.cons (.setI (.var 0) (.cst (.int 2)) (.bin 0 (.idx (.var 0) (.cst (.int 2))) (.cst (.int 1)))) (.cons (.ite (.and (.cmp 0 (.idx (.var 0) (.cst (.int 1))) (.cst (.int 0))) (.cmp 1 (.idx (.var 0) (.cst (.int 0))) (.lst .nil))) (.cons (.set 3 (.popAt (.idx (.var 0) (.cst (.int 0))) (.cst (.int 0)))) (.cons (.setI (.var 0) (.cst (.int 3)) (.bin 4 (.b1 0 (.bin 0 (.bin 0 (.bin 2 (.idx (.var 0) (.cst (.int 3))) (.cst (.int 8191))) (.var 3)) (.cst (.int 3)))) (.cst (.int 2147483647)))) (.cons (.setI (.var 0) (.cst (.int 1)) (.ite (.cmp 5 (.var 3) (.bin 5 (.cst (.int 10)) (.cst (.int 18)))) (.var 3) (.cst (.int 0)))) .nil))) .nil) (.cons (.ite (.cmp 4 (.idx (.var 0) (.cst (.int 1))) (.cst (.int 0))) (.cons (.set 4 (.bin 4 (.b1 0 (.idx (.var 0) (.cst (.int 1)))) (.var 1))) (.cons (.setI (.var 0) (.cst (.int 1)) (.bin 3 (.idx (.var 0) (.cst (.int 1))) (.var 1))) (.cons (.ret (.var 4)) .nil))) .nil) (.cons (.set 2 (.bin 4 (.b1 0 (.bin 5 (.bin 0 (.bin 0 (.idx (.var 0) (.cst (.int 3))) (.bin 2 (.cst (.int 7919)) (.idx (.var 0) (.cst (.int 2))))) (.cst (.int 104729))) (.cst (.int 5)))) (.cst (.int 2147483629)))) (.cons (.ret (.bin 4 (.bin 4 (.b1 0 (.bin 5 (.bin 0 (.bin 0 (.bin 2 (.var 2) (.cst (.int 48271))) (.bin 2 (.cst (.int 30011)) (.idx (.var 0) (.cst (.int 2))))) (.cst (.int 29))) (.cst (.int 3)))) (.cst (.int 1000000007))) (.var 1))) .nil)))))
/-- _law_pick(_law_stream, _law_some) -/
def b27 : Sts := (.cons (.ret (.idx (.var 1) (.call 26 (.cons (.var 0) (.cons (.len (.var 1)) .nil))))) .nil)
/-- _law_same(_law_found, _law_due) -/
def b28 : Sts := (.cons (.ite (.val (.isi (.var 1) (.tup (.cons (.glo 1818850164) (.cons (.glo 500186508389) .nil))))) (.cons (.ite (.or (.cmp 1 (.isi (.var 0) (.glo 1818850164)) (.isi (.var 1) (.glo 1818850164))) (.cmp 1 (.isi (.var 0) (.glo 500186508389)) (.isi (.var 1) (.glo 500186508389)))) (.cons (.ret (.cst (.bl false))) .nil) .nil) (.cons (.ret (.and (.cmp 0 (.len (.var 0)) (.len (.var 1))) (.b1 1 (.lc [2, 3] (.tp (.cons (.nm 2) (.cons (.nm 3) .nil))) (.zip (.var 0) (.var 1)) .yes (.call 28 (.cons (.var 2) (.cons (.var 3) .nil))))))) .nil)) .nil) (.cons (.ite (.val (.isi (.var 1) (.glo 6909556))) (.cons (.ret (.and (.isi (.var 0) (.glo 6909556)) (.and (.cmp 0 (.isi (.var 0) (.glo 1651470188)) (.isi (.var 1) (.glo 1651470188))) (.cmp 0 (.var 0) (.var 1))))) .nil) .nil) (.cons (.ret (.and (.cmp 8 (.isi (.var 0) (.tup (.cons (.glo 6909556) (.cons (.glo 1818850164) (.cons (.glo 500186508389) .nil))))) (.cst (.bl false))) (.cmp 0 (.var 0) (.var 1)))) .nil)))
/-- _law_is_way(_law_plan, _law_thing) -/
def b29 : Sts := (.cons (.ite (.or (.not (.val (.isi (.var 1) (.tup (.cons (.glo 1818850164) (.cons (.glo 500186508389) .nil)))))) (.cmp 0 (.len (.var 1)) (.cst (.int 0)))) (.cons (.ret (.cst (.bl false))) .nil) .nil) (.cons (.set 2 (.s1 2 (.lc [6] (.nm 6) (.val (.idx (.var 0) (.cst (.int 2)))) .yes (.tup (.cons (.idx (.var 6) (.cst (.int 0))) (.cons (.var 6) .nil)))))) (.cons (.ite (.not (.val (.b1 1 (.lc [3] (.nm 3) (.val (.var 1)) .yes (.and (.isi (.var 3) (.glo 7566450)) (.cmp 6 (.var 3) (.var 2))))))) (.cons (.ret (.cst (.bl false))) .nil) .nil) (.cons (.par [4, 5] (.cons (.idx (.idx (.var 2) (.idx (.var 1) (.cst (.int 0)))) (.cst (.int 1))) (.cons (.bin 2 (.lst (.cons (.cst (.int 0)) .nil)) (.idx (.var 0) (.cst (.int 0)))) .nil))) (.cons (.for_ (.nm 3) (.val (.var 1)) (.cons (.ite (.cmp 1 (.idx (.idx (.var 2) (.var 3)) (.cst (.int 1))) (.var 4)) (.cons (.ret (.cst (.bl false))) .nil) .nil) (.cons (.set 4 (.idx (.idx (.var 2) (.var 3)) (.cst (.int 2)))) (.cons (.set 5 (.lc [7, 8] (.tp (.cons (.nm 7) (.cons (.nm 8) .nil))) (.zip (.var 5) (.idx (.idx (.var 2) (.var 3)) (.cst (.int 3)))) .yes (.bin 0 (.var 7) (.var 8)))) .nil)))) (.cons (.ret (.and (.cmp 0 (.var 4) (.idx (.idx (.var 2) (.idx (.var 1) (.cst (.int 0)))) (.cst (.int 1)))) (.not (.b1 2 (.var 5))))) .nil))))))
/-- _law_gone(_law_stream, _law_plan, _law_many) -/
def b30 : Sts := (.cons (.par [4, 5] (.cons (.lst .nil) (.cons (.call 27 (.cons (.var 0) (.cons (.idx (.var 1) (.cst (.int 1))) .nil))) .nil))) (.cons (.for_ (.nm 3) (.rng (.var 2)) (.cons (.set 6 (.lc [7] (.nm 7) (.val (.idx (.var 1) (.cst (.int 2)))) (.cmp 0 (.idx (.var 7) (.cst (.int 1))) (.var 5)) (.var 7))) (.cons (.ite (.cmp 1 (.var 6) (.lst .nil)) (.cons (.set 7 (.call 27 (.cons (.var 0) (.cons (.var 6) .nil)))) (.cons (.par [4, 5] (.cons (.bin 0 (.var 4) (.lst (.cons (.idx (.var 7) (.cst (.int 0))) .nil))) (.cons (.idx (.var 7) (.cst (.int 2))) .nil))) .nil)) .nil) .nil))) (.cons (.ret (.var 4)) .nil)))
/-- law(_law_script) -/
def b31 : Sts := (.cons (.set 1 (.call 25 (.cons (.var 0) .nil))) (.cons (.for_ (.nm 2) (.rng (.cst (.int 5))) (.cons (.setT (.tp (.cons (.nm 8) (.cons (.nm 9) (.cons (.nm 3) .nil)))) (.call 23 (.cons (.var 1) (.cons (.call 26 (.cons (.var 1) (.cons (.cst (.int 3)) .nil))) (.cons (.cst (.int 3)) (.cons (.cst (.int 4)) (.cons (.cst (.int 1)) .nil))))))) (.cons (.set 3 (.bin 0 (.var 3) (.lc [15] (.nm 15) (.val (.var 3)) .yes (.tup (.cons (.bin 0 (.cst (.str [114, 46])) (.idx (.var 15) (.cst (.int 0)))) (.cons (.idx (.var 15) (.cst (.int 2))) (.cons (.idx (.var 15) (.cst (.int 1))) (.cons (.s1 1 (.lc [17] (.nm 17) (.val (.idx (.var 15) (.cst (.int 3)))) .yes (.bin 1 (.cst (.int 0)) (.var 17)))) .nil)))))))) (.cons (.set 4 (.tup (.cons (.var 8) (.cons (.var 9) (.cons (.var 3) .nil))))) (.cons (.set 5 (.call 24 (.cons (.var 4) .nil))) (.cons (.for_ (.nm 6) (.rng (.cst (.int 12))) (.cons (.set 10 (.call 30 (.cons (.var 1) (.cons (.var 4) (.cons (.bin 0 (.cst (.int 1)) (.call 26 (.cons (.var 1) (.cons (.cst (.int 6)) .nil)))) .nil))))) (.cons (.set 11 (.n1 2 (.lc [15] (.nm 15) (.val (.slc (.var 3) .non (.one (.bin 3 (.len (.var 3)) (.cst (.int 2)))))) .yes (.tup (.cons (.idx (.var 15) (.cst (.int 0))) (.cons (.bin 0 (.cst (.str [114, 46])) (.idx (.var 15) (.cst (.int 0)))) .nil)))))) (.cons (.exp (.upd (.var 11) (.s1 2 (.lcK [16] (.nm 16) 11 .yes (.tup (.cons (.idx (.var 11) (.var 16)) (.cons (.var 16) .nil))))))) (.cons (.set 12 (.nlst (.cons (.var 10) (.cons (.bin 0 (.var 10) (.lc [16] (.nm 16) (.val (.rev (.var 10))) .yes (.idx (.var 11) (.var 16)))) (.cons (.bin 2 (.var 10) (.cst (.int 2))) (.cons (.bin 0 (.slc (.var 10) (.one (.cst (.int 1))) .non) (.slc (.var 10) .non (.one (.cst (.int 1))))) .nil)))))) (.cons (.set 13 (.call 26 (.cons (.var 1) (.cons (.bin 0 (.len (.var 10)) (.cst (.int 1))) .nil)))) (.cons (.exp (.app (.var 12) (.bin 0 (.bin 0 (.slc (.var 10) .non (.one (.var 13))) (.lst (.cons (.idx (.call 27 (.cons (.var 1) (.cons (.var 3) .nil))) (.cst (.int 0))) .nil))) (.slc (.var 10) (.one (.var 13)) .non)))) (.cons (.for_ (.nm 14) (.val (.var 12)) (.cons (.ite (.not (.val (.call 28 (.cons (.call 21 (.cons (.var 5) (.cons (.call 27 (.cons (.var 1) (.cons (.lst (.cons (.var 14) (.cons (.s1 1 (.var 14)) .nil))) .nil))) .nil))) (.cons (.call 29 (.cons (.var 4) (.cons (.var 14) .nil))) .nil))))) (.cons (.ret (.cst (.bl false))) .nil) .nil) .nil)) .nil)))))))) (.cons (.set 7 (.lst (.cons (.cst .non) (.cons (.cst (.int 5)) (.cons (.cst (.str [])) (.cons (.idx (.idx (.var 3) (.cst (.int 0))) (.cst (.int 0))) (.cons (.lst .nil) (.cons (.dct .nil) (.cons (.lst (.cons (.cst .non) .nil)) (.cons (.lst (.cons (.lst .nil) .nil)) (.cons (.lst (.cons (.cst (.str [81])) .nil)) (.cons (.cst (.bl true)) (.cons (.lst (.cons (.idx (.var 3) (.cst (.int 0))) .nil)) (.cons (.lst (.cons (.cst (.int 5)) .nil)) .nil)))))))))))))) (.cons (.ite (.val (.b1 2 (.lc [14] (.nm 14) (.val (.var 7)) .yes (.cmp 9 (.call 21 (.cons (.var 5) (.cons (.var 14) .nil))) (.cst (.bl false)))))) (.cons (.ret (.cst (.bl false))) .nil) .nil) .nil)))))))) (.cons (.ret (.cst (.bl true))) .nil)))
def r0 : Dr := ⟨false, 1, 0, b0⟩
def r1 : Dr := ⟨false, 1, 0, b1⟩
def r2 : Dr := ⟨false, 1, 1, b2⟩
def r3 : Dr := ⟨false, 2, 1, b3⟩
def r4 : Dr := ⟨false, 2, 2, b4⟩
def r5 : Dr := ⟨false, 1, 1, b5⟩
def r6 : Dr := ⟨false, 4, 1, b6⟩
def r7 : Dr := ⟨false, 4, 4, b7⟩
def r8 : Dr := ⟨true, 4, 0, b8⟩
def r9 : Dr := ⟨false, 1, 0, b9⟩
def r10 : Dr := ⟨false, 1, 0, b10⟩
def r11 : Dr := ⟨false, 2, 1, b11⟩
def r12 : Dr := ⟨false, 1, 0, b12⟩
def r13 : Dr := ⟨false, 2, 1, b13⟩
def r14 : Dr := ⟨false, 2, 0, b14⟩
def r15 : Dr := ⟨false, 2, 3, b15⟩
def r16 : Dr := ⟨false, 1, 6, b16⟩
def r17 : Dr := ⟨false, 2, 0, b17⟩
def r18 : Dr := ⟨false, 2, 0, b18⟩
def r19 : Dr := ⟨false, 2, 0, b19⟩
def r20 : Dr := ⟨false, 2, 3, b20⟩
def r21 : Dr := ⟨false, 2, 5, b21⟩
def r22 : Dr := ⟨false, 2, 7, b22⟩
def r23 : Dr := ⟨false, 5, 9, b23⟩
def r24 : Dr := ⟨false, 1, 0, b24⟩
def r25 : Dr := ⟨true, 1, 0, b25⟩
def r26 : Dr := ⟨false, 2, 3, b26⟩
def r27 : Dr := ⟨false, 2, 0, b27⟩
def r28 : Dr := ⟨false, 2, 2, b28⟩
def r29 : Dr := ⟨false, 2, 7, b29⟩
def r30 : Dr := ⟨false, 3, 5, b30⟩
def r31 : Dr := ⟨false, 1, 17, b31⟩
def dr : List Dr := [r0, r1, r2, r3, r4, r5, r6, r7, r8, r9, r10, r11, r12, r13, r14, r15, r16, r17, r18, r19, r20, r21, r22, r23, r24, r25, r26, r27, r28, r29, r30, r31]
def glos : List (Nat × PV) := [(1426115298795793696083, .int 4), (5137780, .cls 0), (357711695443, .str [97, 98, 99, 100, 101, 102, 103, 104, 105, 106, 107, 108, 109, 110, 111, 112, 113, 114, 115, 116, 117, 118, 119, 120, 121, 122, 48, 49, 50, 51, 52, 53, 54, 55, 56, 57, 46]), (1651470188, .ty 1), (6909556, .ty 0), (1818850164, .ty 3), (7566450, .ty 2), (500186508389, .ty 4)]
def flds : List (List Nat) := [[1635280243, 540405396817959671653747, 8388347241570465651]]
def spcs : List ((Nat × Nat) × Nat) := [((6, 0), 13)]
def isF (c f : Nat) : Bool := match flds[c]? with | some l => l.contains f | none => false
def glo (x : Nat) : Option PV := glos.lookup x
def spc (k c : Nat) : Option Nat := spcs.lookup (k, c)
def run (fuel n f : Nat) : List Vl → Hm → R Vl := runs isF spc glo fuel (fun f => dr[f]?) n f
def lawId : Nat := 31
end HV.k04

end

section
/-! W0: what the laws share: evaluation by rewriting, the stream of draws, loops. Core Lean. -/
namespace HV
/-! ### rewriting -/
@[simp] theorem rb_ok {α β : Type} (a : α) (h : Hm) (f : α → Hm → R β) : (R.ok a h).bind f = f a h := rfl
@[simp] theorem rs_ok {α : Type} (a : α) (h : Hm) (f : α → Hm → SO) : (R.ok a h).bindS f = f a h := rfl
@[simp] theorem sb_nx (e : Env) (h : Hm) (f : Env → Hm → SO) : (SO.nx e h).bind f = f e h := rfl
@[simp] theorem sb_rt (v : Vl) (h : Hm) (f : Env → Hm → SO) : (SO.rt v h).bind f = .rt v h := rfl
@[simp] theorem sb_bk (e : Env) (h : Hm) (f : Env → Hm → SO) : (SO.bk e h).bind f = .bk e h := rfl
@[simp] theorem sb_ct (e : Env) (h : Hm) (f : Env → Hm → SO) : (SO.ct e h).bind f = .ct e h := rfl
@[simp] theorem sure_ok {α : Type} (a : α) (h : Hm) : (R.ok a h).sure = .ok a h := rfl
@[simp] theorem frz_fz (d : PV) (h : Hm) : frz (.fz d) h = .ok d h := rfl
@[simp] theorem vw_fz (d : PV) (h : Hm) : vw h (.fz d) = some d := rfl
@[simp] theorem liftF_some (d : PV) (h : Hm) : liftF (some d) h = .ok (.fz d) h := rfl
@[simp] theorem lift_some {α : Type} (d : α) (h : Hm) : lift (some d) h = .ok d h := rfl
@[simp] theorem blO_some (b : Bool) : blO (some b) = some (.bl b) := rfl
theorem opA_fz (g : PV → PV → Option PV) (a b : PV) (h : Hm) : opA g (.fz a) (.fz b) h = liftF (g a b) h := rfl
theorem opA1_fz (g : PV → Option PV) (a : PV) (h : Hm) : opA1 g (.fz a) h = liftF (g a) h := rfl
theorem opG_fz (g : PV → PV → Option PV) (a b : PV) (h : Hm) : opG g (.fz a) (.fz b) h = liftF (g a b) h := rfl
@[simp] theorem blR_bl (b : Bool) (h : Hm) : blR (.fz (.bl b)) h = .ok b h := rfl
@[simp] theorem truR_fz (d : PV) (h : Hm) : truR (.fz d) h = lift (truthV d) h := rfl
theorem cmpG_fz (spc : Nat → Nat → Option Nat) (φ : Nat → List Vl → Hm → R Vl) (k : Nat) (a b : PV) (h : Hm) (ha : ∀ c fs, a ≠ .obj c fs) (hb : ∀ c fs, b ≠ .obj c fs) : cmpG spc φ k (.fz a) (.fz b) h = liftF (cmpV k a b) h := by
  have e1 : clsOfV h (.fz a) = none := by cases a <;> first | rfl | exact absurd rfl (ha _ _)
  have e2 : clsOfV h (.fz b) = none := by cases b <;> first | rfl | exact absurd rfl (hb _ _)
  unfold cmpG
  rw [e1, e2]
  split
  · rfl
  · split <;> rfl
theorem cmpG_ii (spc : Nat → Nat → Option Nat) (φ : Nat → List Vl → Hm → R Vl) (k : Nat) (i j : Int) (h : Hm) : cmpG spc φ k (.fz (.int i)) (.fz (.int j)) h = liftF (cmpV k (.int i) (.int j)) h := cmpG_fz _ _ _ _ _ _ (fun _ _ z => by cases z) (fun _ _ z => by cases z)
/-! ### numbers -/
theorem lg_le {i : Int} (h : i.natAbs < 2 ^ 100) : i.natAbs.log2 < 100 := by
  by_cases z : i.natAbs = 0
  · rw [z]; decide
  · exact (Nat.log2_lt z).mpr h
theorem mul_small {i j : Int} (h1 : i.natAbs < 2 ^ 100) (h2 : j.natAbs < 2 ^ 100) : mulV (.int i) (.int j) = some (.int (i * j)) := by
  have a := lg_le h1
  have b := lg_le h2
  simp only [mulV]
  rw [if_pos (by omega)]
theorem pow_small {i : Int} {n : Nat} (hn : n ≤ 1000000) (h1 : i.natAbs < 18446744073709551616) : powV (.int i) (.int (n : Int)) = some (.int (i ^ n)) := by
  simp only [powV]
  rw [if_pos ⟨by omega, by omega, h1⟩]
  simp
/-! ### the stream -/
structure Sm where
  cs : List Int
  a : Int
  b : Int
  c : Int
def ivls (cs : List Int) : List Vl := cs.map fun i => .fz (.int i)
def hp (S : Sm) (E : Hm) : Hm := some (.lst (ivls S.cs)) :: some (.lst [.rf 0, .fz (.int S.a), .fz (.int S.b), .fz (.int S.c)]) :: E
/-- a stream that so many draws at most were taken from -/
structure Sm.Ok (S : Sm) (B : Int) : Prop where
  a0 : 0 ≤ S.a
  b0 : 0 ≤ S.b
  b1 : S.b ≤ B
  c0 : 0 ≤ S.c
  c1 : S.c < 2147483647
theorem Sm.Ok.mono {S : Sm} {B C : Int} (h : S.Ok B) (k : B ≤ C) : S.Ok C := ⟨h.a0, h.b0, by have := h.b1; omega, h.c0, h.c1⟩
def drawB : Sts := (.cons (.setI (.var 0) (.cst (.int 2)) (.bin 0 (.idx (.var 0) (.cst (.int 2))) (.cst (.int 1)))) (.cons (.ite (.and (.cmp 0 (.idx (.var 0) (.cst (.int 1))) (.cst (.int 0))) (.cmp 1 (.idx (.var 0) (.cst (.int 0))) (.lst .nil))) (.cons (.set 3 (.popAt (.idx (.var 0) (.cst (.int 0))) (.cst (.int 0)))) (.cons (.setI (.var 0) (.cst (.int 3)) (.bin 4 (.b1 0 (.bin 0 (.bin 0 (.bin 2 (.idx (.var 0) (.cst (.int 3))) (.cst (.int 8191))) (.var 3)) (.cst (.int 3)))) (.cst (.int 2147483647)))) (.cons (.setI (.var 0) (.cst (.int 1)) (.ite (.cmp 5 (.var 3) (.bin 5 (.cst (.int 10)) (.cst (.int 18)))) (.var 3) (.cst (.int 0)))) .nil))) .nil) (.cons (.ite (.cmp 4 (.idx (.var 0) (.cst (.int 1))) (.cst (.int 0))) (.cons (.set 4 (.bin 4 (.b1 0 (.idx (.var 0) (.cst (.int 1)))) (.var 1))) (.cons (.setI (.var 0) (.cst (.int 1)) (.bin 3 (.idx (.var 0) (.cst (.int 1))) (.var 1))) (.cons (.ret (.var 4)) .nil))) .nil) (.cons (.set 2 (.bin 4 (.b1 0 (.bin 5 (.bin 0 (.bin 0 (.idx (.var 0) (.cst (.int 3))) (.bin 2 (.cst (.int 7919)) (.idx (.var 0) (.cst (.int 2))))) (.cst (.int 104729))) (.cst (.int 5)))) (.cst (.int 2147483629)))) (.cons (.ret (.bin 4 (.bin 4 (.b1 0 (.bin 5 (.bin 0 (.bin 0 (.bin 2 (.var 2) (.cst (.int 48271))) (.bin 2 (.cst (.int 30011)) (.idx (.var 0) (.cst (.int 2))))) (.cst (.int 29))) (.cst (.int 3)))) (.cst (.int 1000000007))) (.var 1))) .nil)))))
theorem mapH_ints (k : Nat) (h : Hm) : ∀ cs : List Int, mapH (frzV k) (ivls cs) h = some (cs.map PV.int, h)
  | [] => rfl
  | i :: cs => by
    have e : frzV k (.fz (.int i)) h = some (.int i, h) := by cases k <;> rfl
    have ih := mapH_ints k h cs
    simp only [ivls, List.map_cons, mapH, e] at ih ⊢
    rw [ih]
theorem vw_ints {h : Hm} {n : Nat} {cs : List Int} (e : h[n]? = some (some (.lst (ivls cs)))) : vw h (.rf n) = some (.lst (cs.map .int)) := by
  simp only [vw, frzV, e, mapH_ints]
theorem data_ints (n : Nat) : ∀ cs : List Int, dataPs n (cs.map .int) = true
  | [] => by simp [dataPs]
  | i :: cs => by simp [dataPs, dataP, data_ints n cs]
theorem ne_nil_ints {h : Hm} {n : Nat} {cs : List Int} (spc : Nat → Nat → Option Nat) (φ : Nat → List Vl → Hm → R Vl) (e : h[n]? = some (some (.lst (ivls cs)))) : cmpG spc φ 1 (.rf n) (.fz (.lst [])) h = .ok (.fz (.bl (!cs.isEmpty))) h := by
  have e1 : clsOfV h (.rf n) = none := by simp only [clsOfV, e]
  unfold cmpG
  rw [if_neg (by decide), if_pos (by decide), e1]
  simp only [opA, vw_ints e, vw_fz, cmpV, eqE, eqD]
  have d1 : dataP 60 (.lst (cs.map .int)) = true := by simp only [dataP]; exact data_ints _ cs
  have d2 : dataP 60 (.lst []) = true := by simp [dataP, dataPs]
  rw [d1, d2]
  cases cs <;> simp [eqvP, eqvPs, liftF, blO]
/-! ### big steps -/
section
variable {G : Gx} {env e1 : Env} {h h1 h2 h3 h4 : Hm} {a b c o : Ex} {x y z v : Vl} {d d1 d2 d3 : PV} {k i : Nat} {out : SO}
theorem x_var (e : env[i]? = some (some v)) : G.ex (.var i) env h = .ok v h := by simp only [Gx.ex, evVar, e]
theorem x_cst (ha : d.atom = true) : G.ex (.cst d) env h = .ok (.fz d) h := by simp only [Gx.ex, cstE, ha, if_true]
theorem x_glo {g : Nat} (e : G.glo g = some d) (ha : d.atom = true) : G.ex (.glo g) env h = .ok (.fz d) h := by simp only [Gx.ex, gloE, e, ha, if_true]
theorem x_bin (ha : G.ex a env h = .ok (.fz d1) h1) (hb : G.ex b env h1 = .ok (.fz d2) h2) (e : binV k d1 d2 = some d3) : G.ex (.bin k a b) env h = .ok (.fz d3) h2 := by
  simp only [Gx.ex, op2, ha, hb, rb_ok, opG_fz, e, liftF_some]
theorem x_cmp {t : Bool} (ha : G.ex a env h = .ok x h1) (hb : G.ex b env h1 = .ok y h2) (e : cmpG G.spc G.φ k x y h2 = .ok (.fz (.bl t)) h3) : G.ex (.cmp k a b) env h = .ok (.fz (.bl t)) h3 := by
  simp only [Gx.ex, op2, ha, hb, rb_ok, e]
theorem x_idx (ha : G.ex a env h = .ok x h1) (hb : G.ex b env h1 = .ok y h2) (e : idxH x y h2 = .ok z h2) : G.ex (.idx a b) env h = .ok z h2 := by
  simp only [Gx.ex, op2, ha, hb, rb_ok, e]
theorem x_b1 (ha : G.ex a env h = .ok (.fz d) h1) (e : b1V k d = some d1) : G.ex (.b1 k a) env h = .ok (.fz d1) h1 := by
  simp only [Gx.ex, op1, ha, rb_ok, opA1_fz, e, liftF_some]
theorem x_s1 (ha : G.ex a env h = .ok (.fz d) h1) (e : s1V k d = some d1) : G.ex (.s1 k a) env h = .ok (.fz d1) h1 := by
  simp only [Gx.ex, op1, ha, rb_ok, opS1, shal, e, liftF_some]
theorem x_len (ha : G.ex a env h = .ok x h1) (e : lenH x h1 = .ok y h1) : G.ex (.len a) env h = .ok y h1 := by simp only [Gx.ex, op1, ha, rb_ok, e]
theorem x_isi (ha : G.ex a env h = .ok (.fz d1) h1) (hb : G.ex b env h1 = .ok (.fz d2) h2) (e : isiV d1 d2 = some d3) : G.ex (.isi a b) env h = .ok (.fz d3) h2 := by
  simp only [Gx.ex, op2, ha, hb, rb_ok, opA_fz, e, liftF_some]
theorem x_att {f : Nat} (ha : G.ex a env h = .ok (.fz d) h1) (e : attV G.isF f d = some d1) : G.ex (.att a f) env h = .ok (.fz d1) h1 := by
  simp only [Gx.ex, op1, ha, rb_ok, attH, e, liftF_some]
theorem x_and {t : Bool} (ha : G.ex a env h = .ok (.fz d) h1) (e : truthV d = some t) (hb : t = true → G.ex b env h1 = .ok x h2) (hf : t = false → x = .fz d ∧ h2 = h1) : G.ex (.and a b) env h = .ok x h2 := by
  simp only [Gx.ex, andV, ha, rb_ok, truR_fz, e, lift_some]
  cases t with
  | true => simp only [if_true]; exact hb rfl
  | false => obtain ⟨rfl, rfl⟩ := hf rfl; simp
theorem x_or {t : Bool} (ha : G.ex a env h = .ok (.fz d) h1) (e : truthV d = some t) (hb : t = false → G.ex b env h1 = .ok x h2) (hf : t = true → x = .fz d ∧ h2 = h1) : G.ex (.or a b) env h = .ok x h2 := by
  simp only [Gx.ex, orV, ha, rb_ok, truR_fz, e, lift_some]
  cases t with
  | false => simp; exact hb rfl
  | true => obtain ⟨rfl, rfl⟩ := hf rfl; simp
theorem x_not {t : Bool} (ha : G.ex a env h = .ok (.fz d) h1) (e : truthV d = some t) : G.ex (.not a) env h = .ok (.fz (.bl (!t))) h1 := by
  simp only [Gx.ex, notV, ha, rb_ok, truR_fz, e, lift_some]
theorem x_neg (ha : G.ex a env h = .ok (.fz d) h1) (e : negV d = some d1) : G.ex (.neg a) env h = .ok (.fz d1) h1 := by
  simp only [Gx.ex, op1, ha, rb_ok, opA1_fz, e, liftF_some]
theorem x_iteT {t : Ts} (hc : G.ts t env h = .ok true h1) (ha : G.ex a env h1 = .ok x h2) : G.ex (.ite t a b) env h = .ok x h2 := by simp only [Gx.ex, ifV, hc, rb_ok, if_true, ha]
theorem x_iteF {t : Ts} (hc : G.ts t env h = .ok false h1) (ha : G.ex b env h1 = .ok x h2) : G.ex (.ite t a b) env h = .ok x h2 := by
  simp only [Gx.ex, ifV, hc, rb_ok]; simpa using ha
theorem es_nil0 : G.es .nil env h = .ok [] h := rfl
theorem es_cons0 {r : Es} {vs : List Vl} (ha : G.ex a env h = .ok x h1) (hr : G.es r env h1 = .ok vs h2) : G.es (.cons a r) env h = .ok (x :: vs) h2 := by simp only [Gx.es, esCons, ha, hr, rb_ok]
theorem x_call {f : Nat} {as : Es} {vs : List Vl} (ha : G.es as env h = .ok vs h1) (e : G.φ f vs h1 = .ok x h2) : G.ex (.call f as) env h = .ok x h2 := by simp only [Gx.ex, callE, ha, rb_ok, e]
def fzs (ds : List PV) : List Vl := ds.map .fz
theorem frzs_fzs (ds : List PV) (h : Hm) : frzs (fzs ds) h = .ok ds h := by
  induction ds with
  | nil => rfl
  | cons d ds ih =>
    simp only [fzs, List.map_cons, frzs, frz_fz, rb_ok] at ih ⊢
    rw [ih]
    rfl
theorem x_tup {as : Es} {vs : List Vl} {ds : List PV} (ha : G.es as env h = .ok vs h1) (e : vs = fzs ds) (hl : ds.length ≤ LIM) : G.ex (.tup as) env h = .ok (.fz (.tup ds)) h1 := by
  subst e
  simp only [Gx.ex, tupE, ha, rb_ok, frzs_fzs]
  rw [if_pos (by simpa [fzs] using hl)]
theorem x_lst {as : Es} {vs : List Vl} {ds : List PV} (ha : G.es as env h = .ok vs h1) (e : vs = fzs ds) (hl : ds.length ≤ LIM) : G.ex (.lst as) env h = .ok (.fz (.lst ds)) h1 := by
  subst e
  simp only [Gx.ex, lstE, ha, rb_ok, frzs_fzs]
  rw [if_pos (by simpa [fzs] using hl)]
theorem x_nlst {as : Es} {vs : List Vl} (ha : G.es as env h = .ok vs h1) (hl : vs.length ≤ LIM) : G.ex (.nlst as) env h = .ok (.rf h1.length) (h1 ++ [some (.lst vs)]) := by
  simp only [Gx.ex, nlstE, ha, rb_ok]
  rw [if_pos hl]
  rfl
theorem x_app {n : Nat} {xs : List Vl} (ha : G.ex o env h = .ok (.rf n) h1) (e1 : h1[n]? = some (some (.lst xs))) (hb : G.ex a env h1 = .ok y h2) (e2 : h2[n]? = some (some (.lst xs))) (hl : xs.length < LIM) : G.ex (.app o a) env h = .ok (.fz .non) (h2.set n (some (.lst (xs ++ [y])))) := by
  simp only [Gx.ex, appE, ha, rb_ok, isLstH, e1, if_true, hb, wrL, e2, appW, if_pos hl]
theorem x_popAt {n j : Nat} {i : Int} {xs : List Vl} (ha : G.ex o env h = .ok (.rf n) h1) (e1 : h1[n]? = some (some (.lst xs))) (hb : G.ex a env h1 = .ok (.fz (.int i)) h2) (e2 : h2[n]? = some (some (.lst xs))) (e3 : ixP xs.length i = some j) (e4 : xs[j]? = some y) :
    G.ex (.popAt o a) env h = .ok y (h2.set n (some (.lst (xs.eraseIdx j)))) := by
  simp only [Gx.ex, popAtE, ha, rb_ok, isLstH, e1, if_true, hb, wrL, e2, popAtW, e3, e4]
theorem x_frz {d : PV} (ha : G.ex a env h = .ok x h1) (e : frz x h1 = .ok d h2) : G.ex (.frz a) env h = .ok (.fz d) h2 := by simp only [Gx.ex, frzE, ha, rb_ok, e]
/-! tests -/
theorem t_val0 {t : Bool} (ha : G.ex a env h = .ok (.fz d) h1) (e : truthV d = some t) : G.ts (.val a) env h = .ok t h1 := by simp only [Gx.ts, valT, ha, rb_ok, truR_fz, e, lift_some]
theorem t_cmp0 {t : Bool} (ha : G.ex a env h = .ok x h1) (hb : G.ex b env h1 = .ok y h2) (e : cmpG G.spc G.φ k x y h2 = .ok (.fz (.bl t)) h3) : G.ts (.cmp k a b) env h = .ok t h3 := by
  simp only [Gx.ts, cmpT, op2, ha, hb, rb_ok, e, blR_bl]
theorem t_not0 {t : Bool} {u : Ts} (ha : G.ts u env h = .ok t h1) : G.ts (.not u) env h = .ok (!t) h1 := by simp only [Gx.ts, notT, ha, rb_ok]
theorem t_andT {s : Bool} {u w : Ts} (ha : G.ts u env h = .ok true h1) (hb : G.ts w env h1 = .ok s h2) : G.ts (.and u w) env h = .ok s h2 := by simp only [Gx.ts, andT, ha, rb_ok, if_true, hb]
theorem t_andF {u w : Ts} (ha : G.ts u env h = .ok false h1) : G.ts (.and u w) env h = .ok false h1 := by simp [Gx.ts, andT, ha]
theorem t_orF {s : Bool} {u w : Ts} (ha : G.ts u env h = .ok false h1) (hb : G.ts w env h1 = .ok s h2) : G.ts (.or u w) env h = .ok s h2 := by simp [Gx.ts, orT, ha, hb]
theorem t_orT {u w : Ts} (ha : G.ts u env h = .ok true h1) : G.ts (.or u w) env h = .ok true h1 := by simp [Gx.ts, orT, ha]
/-! statements -/
theorem s_set0 (ha : G.ex a env h = .ok v h1) (hi : i < env.length) : G.st (.set i a) env h = .nx (env.set i (some v)) h1 := by simp only [Gx.st, ha, rs_ok, setE, if_pos hi]
theorem s_ret0 (ha : G.ex a env h = .ok v h1) : G.st (.ret a) env h = .rt v h1 := by simp only [Gx.st, ha, rs_ok]
theorem s_exp0 (ha : G.ex a env h = .ok v h1) : G.st (.exp a) env h = .nx env h1 := by simp only [Gx.st, ha, rs_ok]
theorem s_setI0 {ix : Ex} (hv : G.ex a env h = .ok y h1) (ho : G.ex o env h1 = .ok x h2) (hi : G.ex ix env h2 = .ok z h3) (e : setI x z y h3 = .ok v h4) : G.st (.setI o ix a) env h = .nx env h4 := by
  simp only [Gx.st, hv, ho, hi, rs_ok, e]
theorem s_fld0 {f : Nat} (hv : G.ex a env h = .ok y h1) (ho : G.ex o env h1 = .ok x h2) (e : fldH G.isF f x y h2 = .ok v h3) : G.st (.fld o f a) env h = .nx env h3 := by
  simp only [Gx.st, hv, ho, rs_ok, e]
theorem s_iteT {t : Ts} {p q : Sts} (hc : G.ts t env h = .ok true h1) (ha : G.sts p env h1 = out) : G.st (.ite t p q) env h = out := by simp only [Gx.st, hc, rs_ok, if_true, ha]
theorem s_iteF {t : Ts} {p q : Sts} (hc : G.ts t env h = .ok false h1) (ha : G.sts q env h1 = out) : G.st (.ite t p q) env h = out := by simp only [Gx.st, hc, rs_ok]; simpa using ha
theorem bb_nil : G.sts .nil env h = .nx env h := rfl
theorem bb_cons {s : Stm} {r : Sts} (hs : G.st s env h = .nx e1 h1) (hr : G.sts r e1 h1 = out) : G.sts (.cons s r) env h = out := by simp only [Gx.sts, hs, sb_nx, hr]
theorem bb_ret {s : Stm} {r : Sts} (hs : G.st s env h = .rt v h1) : G.sts (.cons s r) env h = .rt v h1 := by simp only [Gx.sts, hs, sb_rt]
theorem run_rt {keep : Bool} {np k : Nat} {body : Env → Hm → SO} {vs : List Vl} (hn : vs.length = np) (hb : body (vs.map some ++ List.replicate k none) h = .rt v h1) (hc : cutH keep h.length h1 = some h2) (hr : refsV h2.length v = true) : runF keep np k body vs h = .ok v h2 := by
  unfold runF
  rw [if_pos hn, hb]
  simp only [hc, hr, if_true]
theorem run_nx {keep : Bool} {np k : Nat} {body : Env → Hm → SO} {vs : List Vl} (hn : vs.length = np) (hb : body (vs.map some ++ List.replicate k none) h = .nx e1 h1) (hc : cutH keep h.length h1 = some h2) : runF keep np k body vs h = .ok (.fz .non) h2 := by
  unfold runF
  rw [if_pos hn, hb]
  simp only [hc]
end
theorem cut_same {keep : Bool} {n : Nat} {h : Hm} (e : h.length = n) : cutH keep n h = some h := by
  unfold cutH
  cases keep with
  | true => rfl
  | false => simp [e]
/-- one draw -/
theorem draw_ok (G : Gx) {S : Sm} {B m : Int} {E : Hm} (ok : S.Ok B) (hB : B ≤ 1000000000000) (hm : 0 < m) (hm2 : m < 1000000000000) :
    ∃ d S', runF false 2 3 (G.sts drawB) [.rf 1, .fz (.int m)] (hp S E) = .ok (.fz (.int d)) (hp S' E) ∧ 0 ≤ d ∧ d < m ∧ S'.Ok (B + 1) := by
  obtain ⟨cs, a, b, c⟩ := S
  obtain ⟨a0, b0, b1, c0, c1⟩ := ok
  dsimp only at a0 b0 b1 c0 c1
  -- the end: a draw from what stands in a, or a mixed one
  have fin : ∀ (cs : List Int) (a c : Int) (e2 e3 : Option Vl), 0 ≤ a → 0 ≤ c → c < 2147483647 → ∃ d S', (∃ en, G.sts (.cons (.ite (.cmp 4 (.idx (.var 0) (.cst (.int 1))) (.cst (.int 0))) (.cons (.set 4 (.bin 4 (.b1 0 (.idx (.var 0) (.cst (.int 1)))) (.var 1))) (.cons (.setI (.var 0) (.cst (.int 1)) (.bin 3 (.idx (.var 0) (.cst (.int 1))) (.var 1))) (.cons (.ret (.var 4)) .nil))) .nil) (.cons (.set 2 (.bin 4 (.b1 0 (.bin 5 (.bin 0 (.bin 0 (.idx (.var 0) (.cst (.int 3))) (.bin 2 (.cst (.int 7919)) (.idx (.var 0) (.cst (.int 2))))) (.cst (.int 104729))) (.cst (.int 5)))) (.cst (.int 2147483629)))) (.cons (.ret (.bin 4 (.bin 4 (.b1 0 (.bin 5 (.bin 0 (.bin 0 (.bin 2 (.var 2) (.cst (.int 48271))) (.bin 2 (.cst (.int 30011)) (.idx (.var 0) (.cst (.int 2))))) (.cst (.int 29))) (.cst (.int 3)))) (.cst (.int 1000000007))) (.var 1))) .nil)))
      [some (.rf 1), some (.fz (.int m)), e2, e3, none] (hp ⟨cs, a, b + 1, c⟩ E) = .rt (.fz (.int d)) (hp S' E) ∧ en = e2) ∧ 0 ≤ d ∧ d < m ∧ S'.Ok (B + 1) := fun cs a c e2 e3 a0 c0 c1 => by
    by_cases ha : 0 < a
    · refine ⟨a % m, ⟨cs, a / m, b + 1, c⟩, ⟨_, bb_ret (s_iteT (h1 := hp ⟨cs, a, b + 1, c⟩ E) ?_ ?_), rfl⟩, Int.emod_nonneg _ (by omega), Int.emod_lt_of_pos _ hm, ⟨Int.ediv_nonneg a0 (by omega), by dsimp only; omega, by dsimp only; omega, c0, c1⟩⟩
      · refine t_cmp0 (x_idx (x_var rfl) (x_cst rfl) rfl) (x_cst rfl) ?_
        rw [cmpG_ii]
        simp [cmpV, ltI, ha]
      · have hmod : modV (.int a) (.int m) = some (.int (a % m)) := by simp only [modV, if_pos hm]
        have hdiv : fdivV (.int a) (.int m) = some (.int (a / m)) := by
          have : m.natAbs.log2 < 100 := lg_le (by have : (2:Nat) ^ 100 = 1267650600228229401496703205376 := by decide
                                                  omega)
          simp only [fdivV]
          rw [if_pos ⟨hm, by omega⟩]
        refine bb_cons (s_set0 (x_bin (x_b1 (x_idx (x_var rfl) (x_cst rfl) rfl) rfl) (x_var rfl) hmod) (by simp)) (bb_cons (s_setI0 (x_bin (x_idx (x_var rfl) (x_cst rfl) rfl) (x_var rfl) hdiv) (x_var rfl) (x_cst rfl) rfl) (bb_ret (s_ret0 (x_var rfl))))
    · have ha : a = 0 := by omega
      subst ha
      have p100 : (2:Nat) ^ 100 = 1267650600228229401496703205376 := by decide
      have m1 : mulV (.int 7919) (.int (b + 1)) = some (.int (7919 * (b + 1))) := mul_small (by decide) (by omega)
      have p1 : powV (.int (c + 7919 * (b + 1) + 104729)) (.int 5) = some (.int ((c + 7919 * (b + 1) + 104729) ^ 5)) := pow_small (n := 5) (by decide) (by omega)
      have q1 : modV (.int ((c + 7919 * (b + 1) + 104729) ^ 5)) (.int 2147483629) = some (.int ((c + 7919 * (b + 1) + 104729) ^ 5 % 2147483629)) := rfl
      generalize hM : (c + 7919 * (b + 1) + 104729) ^ 5 % 2147483629 = M at q1
      have M0 : 0 ≤ M := by rw [← hM]; exact Int.emod_nonneg _ (by decide)
      have M1 : M < 2147483629 := by rw [← hM]; exact Int.emod_lt_of_pos _ (by decide)
      have m2 : mulV (.int M) (.int 48271) = some (.int (M * 48271)) := mul_small (by omega) (by decide)
      have m3 : mulV (.int 30011) (.int (b + 1)) = some (.int (30011 * (b + 1))) := mul_small (by decide) (by omega)
      have p2 : powV (.int (M * 48271 + 30011 * (b + 1) + 29)) (.int 3) = some (.int ((M * 48271 + 30011 * (b + 1) + 29) ^ 3)) := pow_small (n := 3) (by decide) (by omega)
      have q2 : modV (.int ((M * 48271 + 30011 * (b + 1) + 29) ^ 3)) (.int 1000000007) = some (.int ((M * 48271 + 30011 * (b + 1) + 29) ^ 3 % 1000000007)) := rfl
      generalize hN : (M * 48271 + 30011 * (b + 1) + 29) ^ 3 % 1000000007 = N at q2
      have q3 : modV (.int N) (.int m) = some (.int (N % m)) := by simp only [modV, if_pos hm]
      refine ⟨N % m, ⟨cs, 0, b + 1, c⟩, ⟨_, bb_cons (s_iteF (h1 := hp ⟨cs, 0, b + 1, c⟩ E) ?_ bb_nil) (bb_cons (s_set0 (x_bin (x_b1 (x_bin (x_bin (x_bin (x_idx (x_var rfl) (x_cst rfl) rfl) (x_bin (x_cst rfl) (x_idx (x_var rfl) (x_cst rfl) rfl) m1) rfl) (x_cst rfl) rfl) (x_cst rfl) p1) rfl) (x_cst rfl) q1) (by simp)) (bb_ret (s_ret0 (x_bin (x_bin (x_b1 (x_bin (x_bin (x_bin (x_bin (x_var rfl) (x_cst rfl) m2) (x_bin (x_cst rfl) (x_idx (x_var rfl) (x_cst rfl) rfl) m3) rfl) (x_cst rfl) rfl) (x_cst rfl) p2) rfl) (x_cst rfl) q2) (x_var rfl) q3)))), rfl⟩, Int.emod_nonneg _ (by omega), Int.emod_lt_of_pos _ hm, ⟨Int.le_refl _, by dsimp only; omega, by dsimp only; omega, c0, c1⟩⟩
      refine t_cmp0 (x_idx (x_var rfl) (x_cst rfl) rfl) (x_cst rfl) ?_
      rw [cmpG_ii]
      rfl
  have go : ∀ {d : Int} {S' : Sm} {o : SO}, G.sts drawB [some (.rf 1), some (.fz (.int m)), none, none, none] (hp ⟨cs, a, b, c⟩ E) = .rt (.fz (.int d)) (hp S' E) → runF false 2 3 (G.sts drawB) [.rf 1, .fz (.int m)] (hp ⟨cs, a, b, c⟩ E) = .ok (.fz (.int d)) (hp S' E) := fun {d S' o} e =>
    run_rt rfl e (cut_same rfl) rfl
  have s1 : G.st (.setI (.var 0) (.cst (.int 2)) (.bin 0 (.idx (.var 0) (.cst (.int 2))) (.cst (.int 1)))) [some (.rf 1), some (.fz (.int m)), none, none, none] (hp ⟨cs, a, b, c⟩ E) = .nx [some (.rf 1), some (.fz (.int m)), none, none, none] (hp ⟨cs, a, b + 1, c⟩ E) :=
    s_setI0 (x_bin (x_idx (x_var rfl) (x_cst rfl) rfl) (x_cst rfl) rfl) (x_var rfl) (x_cst rfl) rfl
  by_cases ha : a = 0
  · subst ha
    have t1 : G.ts (.cmp 0 (.idx (.var 0) (.cst (.int 1))) (.cst (.int 0))) [some (.rf 1), some (.fz (.int m)), none, none, none] (hp ⟨cs, 0, b + 1, c⟩ E) = .ok true (hp ⟨cs, 0, b + 1, c⟩ E) := by
      refine t_cmp0 (x_idx (x_var rfl) (x_cst rfl) rfl) (x_cst rfl) ?_
      rw [cmpG_ii]
      rfl
    have t2 : G.ts (.cmp 1 (.idx (.var 0) (.cst (.int 0))) (.lst .nil)) [some (.rf 1), some (.fz (.int m)), none, none, none] (hp ⟨cs, 0, b + 1, c⟩ E) = .ok (!cs.isEmpty) (hp ⟨cs, 0, b + 1, c⟩ E) := by
      refine t_cmp0 (x_idx (x_var rfl) (x_cst rfl) rfl) (x_lst (ds := []) es_nil0 rfl (by decide)) (ne_nil_ints _ _ rfl)
    cases cs with
    | nil =>
      obtain ⟨d, S', ⟨_, e, _⟩, f1, f2, f3⟩ := fin [] 0 c none none a0 c0 c1
      exact ⟨d, S', go (o := .stuck) (bb_cons s1 (bb_cons (s_iteF (t_andT t1 t2) bb_nil) e)), f1, f2, f3⟩
    | cons x cs =>
      have m1 : mulV (.int c) (.int 8191) = some (.int (c * 8191)) := mul_small (by omega) (by decide)
      have p18 : binV 5 (.int 10) (.int 18) = some (.int 1000000000000000000) := by
        show powV (.int 10) (.int 18) = _
        rw [show powV (.int 10) (.int 18) = some (.int (10 ^ 18)) from pow_small (i := 10) (n := 18) (by decide) (by decide)]
        rfl
      have q1 : modV (.int (c * 8191 + x + 3)) (.int 2147483647) = some (.int ((c * 8191 + x + 3) % 2147483647)) := rfl
      obtain ⟨d, S', ⟨_, e, _⟩, f1, f2, f3⟩ := fin cs (if 1000000000000000000 ≤ x then x else 0) ((c * 8191 + x + 3) % 2147483647) none (some (.fz (.int x))) (by split <;> omega) (Int.emod_nonneg _ (by decide)) (Int.emod_lt_of_pos _ (by decide))
      refine ⟨d, S', go (o := .stuck) (bb_cons s1 (bb_cons (s_iteT (t_andT t1 t2) (bb_cons (s_set0 (x_popAt (n := 0) (j := 0) (xs := ivls (x :: cs)) (y := .fz (.int x)) (x_idx (x_var rfl) (x_cst rfl) rfl) rfl (x_cst rfl) rfl ?_ rfl) (by simp)) (bb_cons (s_setI0 (x_bin (x_b1 (x_bin (x_bin (x_bin (x_idx (x_var rfl) (x_cst rfl) rfl) (x_cst rfl) m1) (x_var rfl) rfl) (x_cst rfl) rfl) rfl) (x_cst rfl) q1) (x_var rfl) (x_cst rfl) rfl) (bb_cons (s_setI0 (y := .fz (.int (if 1000000000000000000 ≤ x then x else 0))) (h1 := hp ⟨cs, 0, b + 1, (c * 8191 + x + 3) % 2147483647⟩ E) ?_ (x_var rfl) (x_cst rfl) rfl) bb_nil)))) e)), f1, f2, f3⟩
      · simp [ixP, ivls]
      · by_cases hx : 1000000000000000000 ≤ x
        · rw [if_pos hx]
          refine x_iteT (t_cmp0 (x_var rfl) (x_bin (x_cst rfl) (x_cst rfl) p18) ?_) (x_var rfl)
          rw [cmpG_ii]
          show liftF (cmpV 5 (.int x) (.int 1000000000000000000)) _ = .ok (.fz (.bl true)) _
          simp only [cmpV, ltI, decide_eq_true hx]
          rfl
        · rw [if_neg hx]
          refine x_iteF (t_cmp0 (x_var rfl) (x_bin (x_cst rfl) (x_cst rfl) p18) ?_) (x_cst rfl)
          rw [cmpG_ii]
          show liftF (cmpV 5 (.int x) (.int 1000000000000000000)) _ = .ok (.fz (.bl false)) _
          simp only [cmpV, ltI, decide_eq_false hx]
          rfl
  · have t1 : G.ts (.cmp 0 (.idx (.var 0) (.cst (.int 1))) (.cst (.int 0))) [some (.rf 1), some (.fz (.int m)), none, none, none] (hp ⟨cs, a, b + 1, c⟩ E) = .ok false (hp ⟨cs, a, b + 1, c⟩ E) := by
      refine t_cmp0 (x_idx (x_var rfl) (x_cst rfl) rfl) (x_cst rfl) ?_
      rw [cmpG_ii]
      simp [cmpV, eqE, eqD, dataP, eqvP, ha]
    obtain ⟨d, S', ⟨_, e, _⟩, f1, f2, f3⟩ := fin cs a c none none a0 c0 c1
    exact ⟨d, S', go (o := .stuck) (bb_cons s1 (bb_cons (s_iteF (t_andF t1) bb_nil) e)), f1, f2, f3⟩
end HV

end

section
/-! W1: comprehensions and loops by rewriting. Core Lean. -/
namespace HV
section
variable {G : Gx} {env e1 : Env} {h h1 h2 h3 h4 : Hm} {a b c o : Ex} {x y z v : Vl} {d d1 d2 d3 : PV} {k i : Nat} {out : SO}
theorem unlkR_nil {α : Type} (o : R α) : unlkR [] o = o := by cases o <;> rfl
theorem unlkS_nil (o : SO) : unlkS [] o = o := by cases o <;> rfl
theorem x_lc {own : List Nat} {tg : Tg} {src : Sr} {t : Ts} {ds : List Vl} {ys : List PV} (hs : G.sr src env h = .ok (ds, []) h1) (hl : lcN (G.tg tg) (G.ts t) (frzR (G.ex a)) (wipeE own env) ds h1 = .ok ys h2) : G.ex (.lc own tg src t a) env h = .ok (.fz (.lst ys)) h2 := by
  simp only [Gx.ex, lcV, hs, rb_ok, lockH, hl, unlkR_nil]
theorem x_lcL {own : List Nat} {tg : Tg} {src : Sr} {t : Ts} {n : Nat} {ds : List Vl} {m : MO} {ys : List PV} (hs : G.sr src env h = .ok (ds, [(n, m)]) h1) (hl : lcN (G.tg tg) (G.ts t) (frzR (G.ex a)) (wipeE own env) ds (h1.set n none) = .ok ys h2) : G.ex (.lc own tg src t a) env h = .ok (.fz (.lst ys)) (h2.set n (some m)) := by
  simp only [Gx.ex, lcV, hs, rb_ok, lockH, hl]
  rfl
theorem sr_fz {ds : List PV} (ha : G.ex a env h = .ok (.fz d) h1) (e : iterV d = some ds) : G.sr (.val a) env h = .ok (fzs ds, []) h1 := by
  simp only [Gx.sr, srcV, ha, rb_ok, e, fzs]
theorem sr_rf {n : Nat} {xs : List Vl} (ha : G.ex a env h = .ok (.rf n) h1) (e : h1[n]? = some (some (.lst xs))) : G.sr (.val a) env h = .ok (xs, [(n, .lst xs)]) h1 := by
  simp only [Gx.sr, srcV, ha, rb_ok, e]
def rng (n : Nat) : List PV := (List.range n).map fun (i : Nat) => .int (i : Int)
theorem sr_rng {j : Int} (ha : G.ex a env h = .ok (.fz (.int j)) h1) (hj : -4611686018427387904 ≤ j ∧ j ≤ 16777216) : G.sr (.rng a) env h = .ok (fzs (rng j.toNat), []) h1 := by
  simp only [Gx.sr, srcR, ha, rb_ok, rngN, if_pos hj, fzs, rng]
  simp
theorem sr_enm {ds : List PV} (ha : G.ex a env h = .ok (.fz d) h1) (e : seqP d = some ds) : G.sr (.enm a) env h = .ok (fzs (enumP ds), []) h1 := by
  simp only [Gx.sr, srcE, ha, rb_ok, seqH, e, fzs]
theorem sr_zip {ds es : List PV} (ha : G.ex a env h = .ok (.fz d1) h1) (hb : G.ex b env h1 = .ok (.fz d2) h2) (e1 : seqP d1 = some ds) (e2 : seqP d2 = some es) : G.sr (.zip a b) env h = .ok (fzs (zipP ds es), []) h2 := by
  simp only [Gx.sr, srcZ, ha, hb, rb_ok, seqH, e1, e2, fzs, List.append_nil]
theorem s_for0 {t : Tg} {s : Sr} {q : Sts} {ds : List Vl} (hs : G.sr s env h = .ok (ds, []) h1) (hf : forN (G.tg t) (G.sts q) ds env h1 = out) : G.st (.for_ t s q) env h = out := by
  simp only [Gx.st, hs, rs_ok, lockH, hf, unlkS_nil]
theorem rng_len (n : Nat) : (fzs (rng n)).length = n := by simp [fzs, rng]
theorem fzs_len (ds : List PV) : (fzs ds).length = ds.length := by simp [fzs]
theorem frzR_ok {f : Env → Hm → R Vl} (e : f env h = .ok (.fz d) h1) : frzR f env h = .ok d h1 := by simp only [frzR, e, rb_ok, frz_fz]
theorem tg_nm (hi : i < env.length) : G.tg (.nm i) v env h = some (env.set i (some v)) := by simp only [Gx.tg, tgN, if_pos hi]
end
/-- a comprehension without state: what passes, mapped -/
theorem lcN_pure {β : Type} {g : Vl → Env → Hm → Option Env} {c : Env → Hm → R Bool} {e : Env → Hm → R β} {env : Env} {h : Hm} (p : PV → Bool) (f : PV → β) (ev : PV → Env) : ∀ (ds : List PV),
    (∀ d ∈ ds, g (.fz d) env h = some (ev d) ∧ c (ev d) h = .ok (p d) h ∧ (p d = true → e (ev d) h = .ok (f d) h)) → lcN g c e env (fzs ds) h = .ok ((ds.filter p).map f) h
  | [], _ => rfl
  | d :: ds, H => by
    obtain ⟨h1, h2, h3⟩ := H d (by simp)
    have ih := lcN_pure p f ev ds fun d hd => H d (List.mem_cons_of_mem _ hd)
    show lcN g c e env (.fz d :: fzs ds) h = _
    simp only [lcN, h1, h2, sure_ok, rb_ok]
    cases q : p d with
    | true =>
      rw [if_pos rfl, h3 q]
      simp only [sure_ok, rb_ok, ih, List.filter_cons, q, if_true, List.map_cons]
    | false =>
      simp only [List.filter_cons, q, if_false, ih]
      simp [ih]
/-- .. over things that are made of other things -/
theorem lcN_filt {ι β : Type} {g : Vl → Env → Hm → Option Env} {c : Env → Hm → R Bool} {e : Env → Hm → R β} {env : Env} {h : Hm} (mk : ι → PV) (p : ι → Bool) (f : ι → β) (ev : ι → Env) : ∀ (ks : List ι),
    (∀ i ∈ ks, g (.fz (mk i)) env h = some (ev i) ∧ c (ev i) h = .ok (p i) h ∧ (p i = true → e (ev i) h = .ok (f i) h)) → lcN g c e env (fzs (ks.map mk)) h = .ok ((ks.filter p).map f) h
  | [], _ => rfl
  | d :: ds, H => by
    obtain ⟨h1, h2, h3⟩ := H d (by simp)
    have ih := lcN_filt mk p f ev ds fun d hd => H d (List.mem_cons_of_mem _ hd)
    show lcN g c e env (.fz (mk d) :: fzs (ds.map mk)) h = _
    simp only [lcN, h1, h2, sure_ok, rb_ok]
    cases q : p d with
    | true =>
      rw [if_pos rfl, h3 q]
      simp only [sure_ok, rb_ok, ih, List.filter_cons, q, if_true, List.map_cons]
    | false => simp [List.filter_cons, q, ih]
theorem lcN_map {ι β : Type} {g : Vl → Env → Hm → Option Env} {c : Env → Hm → R Bool} {e : Env → Hm → R β} {env : Env} {h : Hm} (mk : ι → PV) (f : ι → β) (ev : ι → Env) (ks : List ι)
    (H : ∀ i ∈ ks, g (.fz (mk i)) env h = some (ev i) ∧ c (ev i) h = .ok true h ∧ e (ev i) h = .ok (f i) h) : lcN g c e env (fzs (ks.map mk)) h = .ok (ks.map f) h := by
  have := lcN_filt mk (fun _ => true) f ev ks fun i hi => ⟨(H i hi).1, (H i hi).2.1, fun _ => (H i hi).2.2⟩
  have e : ks.filter (fun _ => true) = ks := by induction ks with
    | nil => rfl
    | cons a l ih => simp
  rw [e] at this
  exact this
/-- .. with state, all pass -/
theorem lcN_all {β : Type} {g : Vl → Env → Hm → Option Env} {c : Env → Hm → R Bool} {e : Env → Hm → R β} {env : Env} (I : Nat → Hm → Prop) (P : β → Prop) : ∀ (ds : List Vl) (k : Nat) (h : Hm), I k h →
    (∀ (j : Nat) d, ds[j]? = some d → ∀ h, I (k + j) h → ∃ e1, g d env h = some e1 ∧ c e1 h = .ok true h ∧ ∃ y h', e e1 h = .ok y h' ∧ P y ∧ I (k + j + 1) h') → ∃ ys h', lcN g c e env ds h = .ok ys h' ∧ ys.length = ds.length ∧ (∀ y ∈ ys, P y) ∧ I (k + ds.length) h'
  | [], k, h, i, _ => ⟨[], h, rfl, rfl, fun y hy => by simp at hy, i⟩
  | d :: ds, k, h, i, H => by
    obtain ⟨e1, h1, h2, y, h', h3, py, i'⟩ := H 0 d rfl h i
    obtain ⟨ys, h'', q1, q2, q3, q4⟩ := lcN_all I P ds (k + 1) h' i' fun j d hd h i => by
      have := H (j + 1) d (by simpa using hd) h (by
        have e : k + (j + 1) = k + 1 + j := by omega
        rw [e]
        exact i)
      have e : k + 1 + j + 1 = k + (j + 1) + 1 := by omega
      rw [e]
      exact this
    refine ⟨y :: ys, h'', ?_, by simp [q2], fun z hz => ?_, (by rw [List.length_cons, show k + (ds.length + 1) = k + 1 + ds.length by omega]; exact q4)⟩
    · simp only [lcN, h1, h2, sure_ok, rb_ok, if_true, h3, q1]
    · rcases List.mem_cons.mp hz with rfl | hz
      · exact py
      · exact q3 z hz
/-- a loop that goes to its end -/
theorem forN_inv {g : Vl → Env → Hm → Option Env} {b : Env → Hm → SO} (I : Nat → Env → Hm → Prop) : ∀ (ds : List Vl) (k : Nat) (env : Env) (h : Hm), I k env h →
    (∀ (j : Nat) d, ds[j]? = some d → ∀ env h, I (k + j) env h → ∃ e1, g d env h = some e1 ∧ ∃ e2 h', b e1 h = .nx e2 h' ∧ I (k + j + 1) e2 h') → ∃ e2 h', forN g b ds env h = .nx e2 h' ∧ I (k + ds.length) e2 h'
  | [], k, env, h, i, _ => ⟨env, h, rfl, i⟩
  | d :: ds, k, env, h, i, H => by
    obtain ⟨e1, h1, e2, h', h2, i'⟩ := H 0 d rfl env h i
    obtain ⟨e3, h'', q1, q2⟩ := forN_inv I ds (k + 1) e2 h' i' fun j d hd env h i => by
      have := H (j + 1) d (by simpa using hd) env h (by
        have e : k + (j + 1) = k + 1 + j := by omega
        rw [e]
        exact i)
      have e : k + 1 + j + 1 = k + (j + 1) + 1 := by omega
      rw [e]
      exact this
    refine ⟨e3, h'', ?_, (by rw [List.length_cons, show k + (ds.length + 1) = k + 1 + ds.length by omega]; exact q2)⟩
    simp only [forN, h1, h2, q1]
theorem mapH_fzs (k : Nat) (h : Hm) : ∀ ds : List PV, mapH (frzV k) (fzs ds) h = some (ds, h)
  | [] => rfl
  | d :: ds => by
    have e : frzV k (.fz d) h = some (d, h) := by cases k <;> rfl
    have ih := mapH_fzs k h ds
    simp only [fzs, List.map_cons, mapH, e] at ih ⊢
    rw [ih]
theorem vw_fzs {h : Hm} {n : Nat} {ds : List PV} (e : h[n]? = some (some (.lst (fzs ds)))) : vw h (.rf n) = some (.lst ds) := by
  simp only [vw, frzV, e, mapH_fzs]
theorem frz_fzsL {h : Hm} {n : Nat} {ds : List PV} (e : h[n]? = some (some (.lst (fzs ds)))) : frz (.rf n) h = .ok (.lst ds) (h.set n none) := by
  simp only [frz, frzV, e, mapH_fzs]
/-- objects without references -/
def noRef (E : Hm) : Prop := E.all (refsO 0) = true
theorem refsV_mono {n m : Nat} (h : n ≤ m) : ∀ {v : Vl}, refsV n v = true → refsV m v = true
  | .fz _, _ => rfl
  | .rf k, e => by simp only [refsV, decide_eq_true_eq] at e ⊢; omega
theorem refsO_mono {n m : Nat} (h : n ≤ m) {o : Option MO} (e : refsO n o = true) : refsO m o = true := by
  match o, e with
  | none, _ => rfl
  | some (.lst xs), e => simp only [refsO, List.all_eq_true] at e ⊢; exact fun x hx => refsV_mono h (e x hx)
  | some (.dct kvs), e => simp only [refsO, List.all_eq_true] at e ⊢; exact fun x hx => refsV_mono h (e x hx)
  | some (.ins c fs), e => simp only [refsO, List.all_eq_true] at e ⊢; exact fun x hx => refsV_mono h (e x hx)
/-- a def's own objects are cut off -/
theorem cut_hp {S : Sm} {E F : Hm} {n : Nat} (hn : n = 2 + E.length) (hE : noRef E) : cutH false n (hp S (E ++ F)) = some (hp S E) := by
  subst hn
  unfold cutH
  rw [if_neg Bool.false_ne_true]
  have hlen : (hp S (E ++ F)).length = 2 + E.length + F.length := by simp [hp]; omega
  have e0 : (hp S (E ++ F)).take (2 + E.length) = hp S E := by
    unfold hp
    rw [show 2 + E.length = E.length + 1 + 1 by omega]
    simp
  by_cases hF : F.length = 0
  · have : F = [] := List.eq_nil_of_length_eq_zero hF
    subst this
    rw [if_pos (by rw [hlen, hF]; rfl), List.append_nil]
  · rw [if_neg (by rw [hlen]; omega)]
    simp only [e0]
    rw [if_pos]
    unfold hp ivls
    simp only [List.all_cons, Bool.and_eq_true]
    refine ⟨?_, ?_, ?_⟩
    · simp [refsO, refsV]
    · simp [refsO, refsV]; omega
    · exact List.all_eq_true.mpr fun o ho => refsO_mono (Nat.zero_le _) (List.all_eq_true.mp hE o ho)
end HV

end

section
/-! L_k04a: draws, picks, words. Core Lean. -/
namespace HV.k04
open HV
abbrev gx (n : Nat) : Gx := ⟨isF, spc, run 2000 n, glo, 2000⟩
theorem run_at (n f : Nat) (d : Dr) (e : dr[f]? = some d) : run 2000 (n + 1) f = runF d.keep d.np d.k ((gx n).sts d.body) := by
  show runs isF spc glo 2000 (fun f => dr[f]?) (n + 1) f = _
  simp only [runs, e]
  rfl
variable {S : Sm} {B : Int} {E : Hm}
theorem draw (n : Nat) {m : Int} (ok : S.Ok B) (hB : B ≤ 1000000000000) (hm : 0 < m) (hm2 : m < 1000000000000) :
    ∃ d S', run 2000 (n + 1) 26 [.rf 1, .fz (.int m)] (hp S E) = .ok (.fz (.int d)) (hp S' E) ∧ 0 ≤ d ∧ d < m ∧ S'.Ok (B + 1) := by
  rw [run_at n 26 r26 rfl]
  exact draw_ok (gx n) ok hB hm hm2
theorem atP_nat {α : Type} {xs : List α} {i : Int} (h0 : 0 ≤ i) (h1 : i < xs.length) : ∃ x ∈ xs, atP xs i = some x ∧ xs[i.toNat]? = some x := by
  have hl : i.toNat < xs.length := by omega
  refine ⟨xs[i.toNat], List.getElem_mem hl, ?_, List.getElem?_eq_getElem hl⟩
  unfold atP ixP
  rw [if_pos h0, if_pos h1]
  exact List.getElem?_eq_getElem hl
theorem pick (n : Nat) {ds : List PV} (ok : S.Ok B) (hB : B ≤ 1000000000000) (hne : ds ≠ []) (hl : ds.length < 1000000) :
    ∃ d ∈ ds, ∃ S', run 2000 (n + 2) 27 [.rf 1, .fz (.lst ds)] (hp S E) = .ok (.fz d) (hp S' E) ∧ S'.Ok (B + 1) := by
  have hp0 : 0 < ds.length := List.length_pos_iff.mpr hne
  obtain ⟨i, S', e, h0, h1, ok'⟩ := draw (E := E) n (m := (ds.length : Int)) ok hB (by omega) (by omega)
  obtain ⟨d, hd, e2, _⟩ := atP_nat h0 h1
  refine ⟨d, hd, S', ?_, ok'⟩
  rw [run_at (n + 1) 27 r27 rfl]
  refine run_rt rfl (bb_ret (s_ret0 (x_idx (x_var rfl) (x_call (es_cons0 (x_var rfl) (es_cons0 (x_len (x_var rfl) rfl) es_nil0)) e) ?_))) (cut_same rfl) rfl
  show liftF (idxV (.lst ds) (.int i)) _ = _
  simp only [idxV, e2, liftF_some]
theorem pickS (n : Nat) {s : Txt} (ok : S.Ok B) (hB : B ≤ 1000000000000) (hne : s ≠ []) (hl : s.length < 1000000) :
    ∃ c ∈ s, ∃ S', run 2000 (n + 2) 27 [.rf 1, .fz (.str s)] (hp S E) = .ok (.fz (.str [c])) (hp S' E) ∧ S'.Ok (B + 1) := by
  have hp0 : 0 < s.length := List.length_pos_iff.mpr hne
  obtain ⟨i, S', e, h0, h1, ok'⟩ := draw (E := E) n (m := (s.length : Int)) ok hB (by omega) (by omega)
  obtain ⟨d, hd, e2, _⟩ := atP_nat h0 h1
  refine ⟨d, hd, S', ?_, ok'⟩
  rw [run_at (n + 1) 27 r27 rfl]
  refine run_rt rfl (bb_ret (s_ret0 (x_idx (x_var rfl) (x_call (es_cons0 (x_var rfl) (es_cons0 (x_len (x_var rfl) rfl) es_nil0)) e) ?_))) (cut_same rfl) rfl
  show liftF (idxV (.str s) (.int i)) _ = _
  simp only [idxV, e2, Option.map_some, liftF_some]
/-! ### words -/
def alf : Txt := [97, 98, 99, 120, 121, 122, 48, 49, 57, 46]
def abc : Txt := [97, 98, 99, 100, 101, 102, 103, 104, 105, 106, 107, 108, 109, 110, 111, 112, 113, 114, 115, 116, 117, 118, 119, 120, 121, 122]
def good (w : Txt) : Prop := (w ≠ [] ∧ w.length ≤ 4 ∧ ∀ c ∈ w, c ∈ alf) ∨ ∃ l ∈ abc, w = [l, 113]
def stxs (ws : List Txt) : List PV := ws.map .str
theorem pigeon {α : Type} [DecidableEq α] : ∀ (xs ys : List α), xs.Nodup → (∀ x ∈ xs, x ∈ ys) → xs.length ≤ ys.length
  | [], ys, _, _ => Nat.zero_le _
  | x :: xs, ys, nd, H => by
    have nd' := List.nodup_cons.mp nd
    have ih := pigeon xs (ys.erase x) nd'.2 fun z hz => by
      have hzx : z ≠ x := fun e => nd'.1 (e ▸ hz)
      exact (List.mem_erase_of_ne hzx).mpr (H z (List.mem_cons_of_mem _ hz))
    have hx : x ∈ ys := H x (by simp)
    have := List.length_erase_of_mem hx
    have : 0 < ys.length := List.length_pos_of_mem hx
    simp only [List.length_cons]
    omega
theorem eqvP_str (s t : Txt) : eqvP (.str s) (.str t) = (s == t) := by simp [eqvP]
theorem any_str (ws : List Txt) (t : Txt) : ((stxs ws).any fun y => eqvP y (.str t)) = decide (t ∈ ws) := by
  induction ws with
  | nil => rfl
  | cons w ws ih =>
    show (eqvP (.str w) (.str t) || ((stxs ws).any fun y => eqvP y (.str t))) = _
    rw [ih, eqvP_str]
    by_cases e : w = t
    · subst e; simp
    · have e2 : ¬ t = w := fun z => e z.symm
      rw [beq_eq_false_iff_ne.mpr e]
      simp [e2]
theorem data_strs (n : Nat) : ∀ ws : List Txt, dataPs n (stxs ws) = true
  | [] => by simp [stxs, dataPs]
  | w :: ws => by
    have := data_strs n ws
    simp only [stxs, List.map_cons, dataPs, dataP, Bool.true_and] at this ⊢
    exact this
/-- t not in words, the words in a changing list -/
theorem notin_strs {h : Hm} {n : Nat} {ws : List Txt} {t : Txt} (sp : Nat → Nat → Option Nat) (φ : Nat → List Vl → Hm → R Vl) (e : h[n]? = some (some (.lst (fzs (stxs ws))))) : cmpG sp φ 7 (.fz (.str t)) (.rf n) h = .ok (.fz (.bl (!decide (t ∈ ws)))) h := by
  have e1 : clsOfV h (.rf n) = none := by simp only [clsOfV, e]
  unfold cmpG
  rw [if_pos (by decide), e1]
  simp only [opA, vw_fzs e, vw_fz, cmpV, inD]
  have d1 : dataP 60 (.str t) = true := by simp [dataP]
  rw [d1, data_strs]
  simp only [Bool.and_self, if_true, Option.map_some, any_str, blO_some, liftF_some]
theorem strsV_map (ss : List Txt) : strsV (stxs ss) = some ss := by
  induction ss with
  | nil => rfl
  | cons s ss ih =>
    show (match strsV (stxs ss) with | some ss => some (s :: ss) | none => none) = _
    rw [ih]
theorem joinT_one : ∀ (cs : List Nat), joinT [] (cs.map fun c => [c]) = cs
  | [] => rfl
  | [c] => rfl
  | c :: c' :: cs => by
    show [c] ++ ([] ++ joinT [] ((c' :: cs).map fun c => [c])) = _
    rw [joinT_one (c' :: cs)]
    rfl
theorem x_join0 {G : Gx} {env : Env} {h h1 h2 : Hm} {a o : Ex} {s : Txt} {d d2 : PV} (ho : G.ex o env h = .ok (.fz (.str s)) h1) (ha : G.ex a env h1 = .ok (.fz d) h2) (e : joinV (.str s) d = some d2) : G.ex (.join o a) env h = .ok (.fz d2) h2 := by
  simp only [Gx.ex, joinE, ho, rb_ok, isStrV, if_true, ha, opA_fz, e, liftF_some]
/-- one word -/
theorem word_ok (n : Nat) (env : Env) (he : env.length = 9) (h0 : env[0]? = some (some (.rf 1))) (ok : S.Ok B) (hB : B ≤ 100000000000) :
    ∃ w S', (gx (n + 2)).ex (.join (.cst (.str [])) (.lc [6] (.nm 6) (.rng (.bin 0 (.cst (.int 1)) (.call 26 (.cons (.var 0) (.cons (.cst (.int 4)) .nil))))) .yes (.call 27 (.cons (.var 0) (.cons (.cst (.str [97, 98, 99, 120, 121, 122, 48, 49, 57, 46])) .nil))))) env (hp S E) = .ok (.fz (.str w)) (hp S' E) ∧
      good w ∧ S'.Ok (B + 5) := by
  obtain ⟨d, S1, e1, d0, d1, ok1⟩ := draw (E := E) (n + 1) (m := 4) ok (by omega) (by decide) (by decide)
  have hsrc : (gx (n + 2)).sr (.rng (.bin 0 (.cst (.int 1)) (.call 26 (.cons (.var 0) (.cons (.cst (.int 4)) .nil))))) env (hp S E) = .ok (fzs (rng (1 + d).toNat), []) (hp S1 E) :=
    sr_rng (x_bin (x_cst rfl) (x_call (es_cons0 (x_var h0) (es_cons0 (x_cst rfl) es_nil0)) e1) rfl) (by omega)
  obtain ⟨ys, h', q1, q2, q3, S2, rfl, ok2⟩ := lcN_all (g := (gx (n + 2)).tg (.nm 6)) (c := (gx (n + 2)).ts .yes) (e := frzR ((gx (n + 2)).ex (.call 27 (.cons (.var 0) (.cons (.cst (.str [97, 98, 99, 120, 121, 122, 48, 49, 57, 46])) .nil))))) (env := wipeE [6] env)
    (fun k h => ∃ S', h = hp S' E ∧ S'.Ok (B + 1 + k)) (fun y => ∃ c ∈ alf, y = .str [c]) (fzs (rng (1 + d).toNat)) 0 (hp S1 E) ⟨S1, rfl, ok1.mono (by omega)⟩ (fun j x hx h hI => by
      obtain ⟨S', rfl, ok'⟩ := hI
      have hj : j < 4 := by
        have := (List.getElem?_eq_some_iff.mp hx).1
        rw [rng_len] at this
        omega
      obtain ⟨c, hc, S3, e3, ok3⟩ := pickS (E := E) n (s := alf) ok' (by omega) (by decide) (by decide)
      have hlen : 6 < (wipeE [6] env).length := by simp [wipeE, he]
      refine ⟨_, tg_nm hlen, rfl, .str [c], hp S3 E, frzR_ok (x_call (es_cons0 (x_var ?_) (es_cons0 (x_cst rfl) es_nil0)) e3), ⟨c, hc, rfl⟩, S3, rfl, ok3.mono (by omega)⟩
      simp [wipeE, h0])
  have hcs : ∀ (ys : List PV), (∀ y ∈ ys, ∃ c ∈ alf, y = .str [c]) → ∃ cs : List Nat, (∀ c ∈ cs, c ∈ alf) ∧ ys = stxs (cs.map fun c => [c]) := by
    intro ys
    induction ys with
    | nil => intro _; exact ⟨[], fun c hc => by simp at hc, rfl⟩
    | cons y ys ih =>
      intro H
      obtain ⟨c, hc, rfl⟩ := H y (by simp)
      obtain ⟨cs, h1, rfl⟩ := ih fun y hy => H y (List.mem_cons_of_mem _ hy)
      exact ⟨c :: cs, fun z hz => by
        rcases List.mem_cons.mp hz with rfl | hz
        · exact hc
        · exact h1 z hz, rfl⟩
  obtain ⟨cs, hcs1, rfl⟩ := hcs ys q3
  have hlen : cs.length = (1 + d).toNat := by
    rw [rng_len] at q2
    simpa [stxs] using q2
  refine ⟨cs, S2, x_join0 (x_cst rfl) (x_lc hsrc q1) ?_, .inl ⟨fun z => by subst z; simp at hlen; omega, by omega, hcs1⟩, ok2.mono (by rw [rng_len]; omega)⟩
  simp only [joinV, strsV_map]
  have sum1 : ((cs.map fun c => [c]).map List.length).sum = cs.length := by
    clear hcs1 hlen q1 q2 q3
    induction cs with
    | nil => rfl
    | cons c cs ih => simp only [List.map_cons, List.sum_cons, List.length_cons, ih]; simp; omega
  rw [sum1, if_pos (by simp; omega), joinT_one]
end HV.k04

end

section
/-! L_k04b: lists of words. Core Lean. -/
namespace HV
theorem hp_at {S : Sm} {E F : Hm} {o : Option MO} {n : Nat} (hn : n = E.length + 2) : (hp S (E ++ o :: F))[n]? = some o := by
  subst hn
  unfold hp
  simp
theorem hp_set {S : Sm} {E F : Hm} {o o' : Option MO} {n : Nat} (hn : n = E.length + 2) : (hp S (E ++ o :: F)).set n o' = hp S (E ++ o' :: F) := by
  subst hn
  unfold hp
  simp
theorem idx_zero {d : PV} {ds : List PV} {h : Hm} : idxH (.fz (.lst (d :: ds))) (.fz (.int 0)) h = .ok (.fz d) h := by
  simp [idxH, idxV, atP, ixP, liftF]
theorem hp_len {S : Sm} {E : Hm} : (hp S E).length = E.length + 2 := rfl
theorem hp_app {S : Sm} {E F : Hm} : hp S E ++ F = hp S (E ++ F) := rfl
end HV
namespace HV.k04
open HV
variable {S : Sm} {B : Int} {E : Hm}
def qs : List Txt := abc.map fun c => [c, 113]
def addq : PV → PV
  | .str s => .str (s ++ [113])
  | d => d
theorem qs_nodup : qs.Nodup := by decide
theorem qs_good : ∀ w ∈ qs, good w := fun w hw => by
  obtain ⟨c, hc, rfl⟩ := List.mem_map.mp hw
  exact .inr ⟨c, hc, rfl⟩
def notIn (ws : List Txt) : PV → Bool
  | .str t => !decide (t ∈ ws)
  | _ => true
theorem filter_strs (ws : List Txt) : ∀ sp : List Txt, (stxs sp).filter (notIn ws) = stxs (sp.filter fun t => !decide (t ∈ ws))
  | [] => rfl
  | t :: sp => by
    show List.filter (notIn ws) (.str t :: stxs sp) = _
    rw [List.filter_cons, List.filter_cons, filter_strs ws sp]
    show (if (!decide (t ∈ ws)) = true then _ else _) = _
    split <;> rfl
theorem words_ok (n : Nat) {m : Nat} (ok : S.Ok B) (hB : B ≤ 10000000000) (hm : m ≤ 20) (hE : noRef E) :
    ∃ ws S', run 2000 (n + 4) 22 [.rf 1, .fz (.int (m : Int))] (hp S E) = .ok (.fz (.lst (stxs ws))) (hp S' E) ∧ ws.length = m ∧ ws.Nodup ∧ (∀ w ∈ ws, good w) ∧ S'.Ok (B + 5 * m) := by
  rw [run_at (n + 3) 22 r22 rfl]
  let L := E.length + 2
  obtain ⟨e2, h', q1, S2, ws, x3, x4, x5, rfl, rfl, hl, nd, gd, ok2⟩ := forN_inv (g := (gx (n + 3)).tg (.nm 3)) (b := (gx (n + 3)).sts (.cons (.set 4 (.join (.cst (.str [])) (.lc [6] (.nm 6) (.rng (.bin 0 (.cst (.int 1)) (.call 26 (.cons (.var 0) (.cons (.cst (.int 4)) .nil))))) .yes (.call 27 (.cons (.var 0) (.cons (.cst (.str [97, 98, 99, 120, 121, 122, 48, 49, 57, 46])) .nil)))))) (.cons (.set 5 (.bin 0 (.lst (.cons (.var 4) .nil)) (.lc [7] (.nm 7) (.val (.cst (.str [97, 98, 99, 100, 101, 102, 103, 104, 105, 106, 107, 108, 109, 110, 111, 112, 113, 114, 115, 116, 117, 118, 119, 120, 121, 122]))) .yes (.bin 0 (.var 7) (.cst (.str [113])))))) (.cons (.exp (.app (.var 2) (.idx (.lc [8] (.nm 8) (.val (.var 5)) (.cmp 7 (.var 8) (.var 2)) (.var 8)) (.cst (.int 0))))) .nil))))
    (fun k env h => ∃ (S' : Sm) (ws : List Txt) (x3 x4 x5 : Option Vl), env = [some (.rf 1), some (.fz (.int (m : Int))), some (.rf L), x3, x4, x5, none, none, none] ∧ h = hp S' (E ++ [some (.lst (fzs (stxs ws)))]) ∧ ws.length = k ∧ ws.Nodup ∧ (∀ w ∈ ws, good w) ∧ S'.Ok (B + 5 * k))
    (fzs (rng m)) 0 [some (.rf 1), some (.fz (.int (m : Int))), some (.rf L), none, none, none, none, none, none] (hp S (E ++ [some (.lst [])])) ⟨S, [], none, none, none, rfl, rfl, rfl, List.nodup_nil, fun w hw => by simp at hw, ok.mono (by omega)⟩ (fun j d hd env h hI => by
      obtain ⟨S1, ws, x3, x4, x5, rfl, rfl, hl, nd, gd, ok1⟩ := hI
      have hj : j < m := by
        have := (List.getElem?_eq_some_iff.mp hd).1
        rw [rng_len] at this
        exact this
      rw [Nat.zero_add] at hl ok1
      refine ⟨[some (.rf 1), some (.fz (.int (m : Int))), some (.rf L), some d, x4, x5, none, none, none], by simp [Gx.tg, tgN], ?_⟩
      obtain ⟨w, S2, ew, gw, ok2⟩ := word_ok (E := E ++ [some (.lst (fzs (stxs ws)))]) (n + 1) [some (.rf 1), some (.fz (.int (m : Int))), some (.rf L), some d, x4, x5, none, none, none] rfl rfl ok1 (by omega)
      -- the spare words
      have esp : (gx (n + 3)).ex (.bin 0 (.lst (.cons (.var 4) .nil)) (.lc [7] (.nm 7) (.val (.cst (.str [97, 98, 99, 100, 101, 102, 103, 104, 105, 106, 107, 108, 109, 110, 111, 112, 113, 114, 115, 116, 117, 118, 119, 120, 121, 122]))) .yes (.bin 0 (.var 7) (.cst (.str [113]))))) [some (.rf 1), some (.fz (.int (m : Int))), some (.rf L), some d, some (.fz (.str w)), x5, none, none, none] (hp S2 (E ++ [some (.lst (fzs (stxs ws)))])) = .ok (.fz (.lst (stxs (w :: qs)))) (hp S2 (E ++ [some (.lst (fzs (stxs ws)))])) := by
        refine x_bin (d1 := .lst [.str w]) (d2 := .lst (stxs qs)) (x_lst (ds := [.str w]) (es_cons0 (x_var rfl) es_nil0) rfl (by simp [LIM])) (x_lc (sr_fz (ds := abc.map fun c => .str [c]) (x_cst rfl) rfl) ?_) rfl
        have := lcN_pure (g := (gx (n + 3)).tg (.nm 7)) (c := (gx (n + 3)).ts .yes) (e := frzR ((gx (n + 3)).ex (.bin 0 (.var 7) (.cst (.str [113]))))) (env := wipeE [7] [some (.rf 1), some (.fz (.int (m : Int))), some (.rf L), some d, some (.fz (.str w)), x5, none, none, none]) (h := hp S2 (E ++ [some (.lst (fzs (stxs ws)))])) (fun _ => true) addq (fun d' => [some (.rf 1), some (.fz (.int (m : Int))), some (.rf L), some d, some (.fz (.str w)), x5, none, some (.fz d'), none]) (abc.map fun c => .str [c]) (fun d' hd' => by
          obtain ⟨c, hc, rfl⟩ := List.mem_map.mp hd'
          refine ⟨by simp [Gx.tg, tgN, wipeE], rfl, fun _ => frzR_ok (x_bin (x_var rfl) (x_cst rfl) rfl)⟩)
        rw [this]
        rfl
      -- the first that is new
      let fl := (w :: qs).filter fun t => !decide (t ∈ ws)
      have hne : fl ≠ [] := fun z => by
        have sub : ∀ x ∈ qs, x ∈ ws := fun x hx => by
          have := List.filter_eq_nil_iff.mp z x (List.mem_cons_of_mem _ hx)
          simpa using this
        have := pigeon qs ws qs_nodup sub
        have : qs.length = 26 := rfl
        omega
      have hex : ∃ x r, fl = x :: r := List.exists_cons_of_ne_nil hne
      obtain ⟨x, r, hfl⟩ := hex
      have hx : x ∈ fl := by rw [hfl]; simp
      obtain ⟨hx1, hx2⟩ := List.mem_filter.mp hx
      have hx2 : x ∉ ws := by simpa using hx2
      have gx : good x := by
        rcases List.mem_cons.mp hx1 with rfl | hx1
        · exact gw
        · exact qs_good x hx1
      have elc : (HV.k04.gx (n + 3)).ex (.lc [8] (.nm 8) (.val (.var 5)) (.cmp 7 (.var 8) (.var 2)) (.var 8)) [some (.rf 1), some (.fz (.int (m : Int))), some (.rf L), some d, some (.fz (.str w)), some (.fz (.lst (stxs (w :: qs)))), none, none, none] (hp S2 (E ++ [some (.lst (fzs (stxs ws)))])) = .ok (.fz (.lst (stxs fl))) (hp S2 (E ++ [some (.lst (fzs (stxs ws)))])) := by
        refine x_lc (sr_fz (ds := stxs (w :: qs)) (x_var rfl) rfl) ?_
        have := lcN_pure (g := (HV.k04.gx (n + 3)).tg (.nm 8)) (c := (HV.k04.gx (n + 3)).ts (.cmp 7 (.var 8) (.var 2))) (e := frzR ((HV.k04.gx (n + 3)).ex (.var 8))) (env := wipeE [8] [some (.rf 1), some (.fz (.int (m : Int))), some (.rf L), some d, some (.fz (.str w)), some (.fz (.lst (stxs (w :: qs)))), none, none, none]) (h := hp S2 (E ++ [some (.lst (fzs (stxs ws)))])) (notIn ws) id (fun d' => [some (.rf 1), some (.fz (.int (m : Int))), some (.rf L), some d, some (.fz (.str w)), some (.fz (.lst (stxs (w :: qs)))), none, none, some (.fz d')]) (stxs (w :: qs)) (fun d' hd' => by
          obtain ⟨t, ht, rfl⟩ := List.mem_map.mp hd'
          refine ⟨by simp [Gx.tg, tgN, wipeE], t_cmp0 (x_var rfl) (x_var rfl) (notin_strs _ _ (hp_at rfl)), fun _ => frzR_ok (x_var rfl)⟩)
        rw [this, filter_strs, List.map_id]
      refine ⟨_, _, bb_cons (s_set0 ew (by simp)) (bb_cons (s_set0 esp (by simp)) (bb_cons (s_exp0 (x_app (n := L) (xs := fzs (stxs ws)) (y := .fz (.str x)) (x_var rfl) (hp_at rfl) (x_idx elc (x_cst rfl) ?_) (hp_at rfl) ?_)) bb_nil)), S2, ws ++ [x], some d, some (.fz (.str w)), some (.fz (.lst (stxs (w :: qs)))), rfl, ?_, ?_, ?_, ?_, ?_⟩
      · rw [hfl]; exact idx_zero
      · rw [fzs_len]
        have : (stxs ws).length = ws.length := by simp [stxs]
        rw [this, hl]
        show j < 16777216
        omega
      · rw [hp_set rfl]
        simp [fzs, stxs]
      · simp [hl]
      · exact List.nodup_append.mpr ⟨nd, by simp, fun a ha b hb => by
          simp at hb
          subst hb
          exact fun z => hx2 (z ▸ ha)⟩
      · intro z hz
        rcases List.mem_append.mp hz with hz | hz
        · exact gd z hz
        · simp at hz; subst hz; exact gx
      · exact ok2.mono (by omega))
  have hm2 : ((m : Int)).toNat = m := by simp
  refine ⟨ws, S2, run_rt rfl (bb_cons (s_set0 (x_nlst es_nil0 (by decide)) (by simp [r22])) (bb_cons (e1 := [some (.rf 1), some (.fz (.int (m : Int))), some (.rf L), x3, x4, x5, none, none, none]) (h1 := hp S2 (E ++ [some (.lst (fzs (stxs ws)))])) (s_for0 (ds := fzs (rng m)) (h1 := hp S (E ++ [some (.lst [])])) ?_ ?_) (bb_ret (s_ret0 (x_frz (x_var rfl) (frz_fzsL (hp_at rfl))))))) ?_ rfl, ?_, nd, gd, ?_⟩
  · have := sr_rng (G := gx (n + 3)) (a := .var 1) (env := [some (.rf 1), some (.fz (.int (m : Int))), some (.rf L), none, none, none, none, none, none]) (h := hp S (E ++ [some (.lst [])])) (j := (m : Int)) (x_var rfl) (by omega)
    rw [hm2] at this
    exact this
  · exact q1
  · rw [hp_set rfl]
    exact cut_hp (by rw [hp_len]; omega) hE
  · rw [rng_len] at hl; omega
  · rw [rng_len] at ok2; exact ok2.mono (by omega)
end HV.k04

end

section
/-! L_k04c: plans. Core Lean. -/
namespace HV
theorem s_par0 {G : Gx} {env e : Env} {h h1 : Hm} {is : List Nat} {es : Es} {vs : List Vl} (ha : G.es es env h = .ok vs h1) (e1 : setL is vs env = some e) : G.st (.par is es) env h = .nx e h1 := by
  simp only [Gx.st, ha, rs_ok, e1, nxG]
theorem cmpV_lt (i j : Int) : cmpV 2 (.int i) (.int j) = some (.bl (decide (i < j))) := rfl
theorem cmpV_gt (i j : Int) : cmpV 4 (.int i) (.int j) = some (.bl (decide (j < i))) := rfl
end HV
namespace HV.k04
open HV
variable {S : Sm} {B : Int} {E : Hm}
structure Tie where
  nm : Txt
  s : Txt
  e : Txt
  st : List Int
def iv (l : List Int) : List PV := l.map .int
def row (t : Tie) : PV := .tup [.str t.nm, .str t.s, .str t.e, .tup (iv t.st)]
def bodyP : Sts := (.cons (.par [11, 12] (.cons (.call 27 (.cons (.var 0) (.cons (.var 5) .nil))) (.cons (.call 27 (.cons (.var 0) (.cons (.var 5) .nil))) .nil))) (.cons (.ite (.and (.cmp 2 (.var 8) (.len (.var 5))) (.cmp 4 (.call 26 (.cons (.var 0) (.cons (.cst (.int 4)) .nil))) (.cst (.int 0)))) (.cons (.par [11, 12] (.cons (.idx (.var 5) (.var 8)) (.cons (.idx (.var 5) (.bin 4 (.bin 0 (.var 8) (.cst (.int 1))) (.len (.var 5)))) .nil))) .nil) .nil) (.cons (.set 10 (.lc [13] (.nm 13) (.rng (.var 1)) .yes (.bin 1 (.call 26 (.cons (.var 0) (.cons (.bin 0 (.bin 2 (.cst (.int 2)) (.var 4)) (.cst (.int 1))) .nil))) (.var 4)))) (.cons (.exp (.app (.var 7) (.tup (.cons (.var 9) (.cons (.var 11) (.cons (.var 12) (.cons (.s1 1 (.var 10)) .nil))))))) .nil))))
def envP (ax : Nat) (halls : List Txt) (c : Int) (L : Nat) (x8 x9 x10 x11 x12 : Option Vl) : Env := [some (.rf 1), some (.fz (.int (ax : Int))), some (.fz (.int 3)), some (.fz (.int 4)), some (.fz (.int 1)), some (.fz (.lst (stxs halls))), some (.fz (.int c)), some (.rf L), x8, x9, x10, x11, x12, none]
theorem strs_mem {halls : List Txt} {d : PV} (h : d ∈ stxs halls) : ∃ w ∈ halls, d = .str w := by
  obtain ⟨w, hw, rfl⟩ := List.mem_map.mp h
  exact ⟨w, hw, rfl⟩
theorem strs_len (ws : List Txt) : (stxs ws).length = ws.length := by simp [stxs]
theorem lenH_lst {ds : List PV} {h : Hm} : lenH (.fz (.lst ds)) h = .ok (.fz (.int ds.length)) h := rfl
/-- the ends of a tie -/
theorem ends_ok (n : Nat) {ax k : Nat} {halls : List Txt} {c : Int} {L : Nat} {x9 x10 x11 x12 : Option Vl} {r : Sts} (hh : halls ≠ []) (hl : halls.length ≤ 10) (ok : S.Ok B) (hB : B ≤ 100000000000) :
    ∃ (s e : Txt) (S' : Sm), s ∈ halls ∧ e ∈ halls ∧ S'.Ok (B + 3) ∧
      (gx (n + 3)).sts (.cons (.par [11, 12] (.cons (.call 27 (.cons (.var 0) (.cons (.var 5) .nil))) (.cons (.call 27 (.cons (.var 0) (.cons (.var 5) .nil))) .nil))) (.cons (.ite (.and (.cmp 2 (.var 8) (.len (.var 5))) (.cmp 4 (.call 26 (.cons (.var 0) (.cons (.cst (.int 4)) .nil))) (.cst (.int 0)))) (.cons (.par [11, 12] (.cons (.idx (.var 5) (.var 8)) (.cons (.idx (.var 5) (.bin 4 (.bin 0 (.var 8) (.cst (.int 1))) (.len (.var 5)))) .nil))) .nil) .nil) r)) (envP ax halls c L (some (.fz (.int (k : Int)))) x9 x10 x11 x12) (hp S E)
        = (gx (n + 3)).sts r (envP ax halls c L (some (.fz (.int (k : Int)))) x9 x10 (some (.fz (.str s))) (some (.fz (.str e)))) (hp S' E) := by
  have hs : stxs halls ≠ [] := by cases halls with
    | nil => exact absurd rfl hh
    | cons a l => simp [stxs]
  have hsl : (stxs halls).length < 1000000 := by rw [strs_len]; omega
  obtain ⟨d1, m1, S1, e1, ok1⟩ := pick (E := E) (n + 1) ok (by omega) hs hsl
  obtain ⟨w1, hw1, rfl⟩ := strs_mem m1
  obtain ⟨d2, m2, S2, e2, ok2⟩ := pick (E := E) (n + 1) ok1 (by omega) hs hsl
  obtain ⟨w2, hw2, rfl⟩ := strs_mem m2
  have st1 : (gx (n + 3)).st (.par [11, 12] (.cons (.call 27 (.cons (.var 0) (.cons (.var 5) .nil))) (.cons (.call 27 (.cons (.var 0) (.cons (.var 5) .nil))) .nil))) (envP ax halls c L (some (.fz (.int (k : Int)))) x9 x10 x11 x12) (hp S E) = .nx (envP ax halls c L (some (.fz (.int (k : Int)))) x9 x10 (some (.fz (.str w1))) (some (.fz (.str w2)))) (hp S2 E) :=
    s_par0 (es_cons0 (x_call (es_cons0 (x_var rfl) (es_cons0 (x_var rfl) es_nil0)) e1) (es_cons0 (x_call (es_cons0 (x_var rfl) (es_cons0 (x_var rfl) es_nil0)) e2) es_nil0)) rfl
  have t1 : (gx (n + 3)).ts (.cmp 2 (.var 8) (.len (.var 5))) (envP ax halls c L (some (.fz (.int (k : Int)))) x9 x10 (some (.fz (.str w1))) (some (.fz (.str w2)))) (hp S2 E) = .ok (decide ((k : Int) < (stxs halls).length)) (hp S2 E) :=
    t_cmp0 (x_var rfl) (x_len (x_var rfl) lenH_lst) (by rw [cmpG_ii, cmpV_lt]; rfl)
  by_cases hk : (k : Int) < (stxs halls).length
  · rw [decide_eq_true hk] at t1
    obtain ⟨d3, S3, e3, d0, d4, ok3⟩ := draw (E := E) (n + 2) (m := 4) ok2 (by omega) (by decide) (by decide)
    have t2 : (gx (n + 3)).ts (.cmp 4 (.call 26 (.cons (.var 0) (.cons (.cst (.int 4)) .nil))) (.cst (.int 0))) (envP ax halls c L (some (.fz (.int (k : Int)))) x9 x10 (some (.fz (.str w1))) (some (.fz (.str w2)))) (hp S2 E) = .ok (decide (0 < d3)) (hp S3 E) :=
      t_cmp0 (x_call (es_cons0 (x_var rfl) (es_cons0 (x_cst rfl) es_nil0)) e3) (x_cst rfl) (by rw [cmpG_ii, cmpV_gt]; rfl)
    by_cases hd : 0 < d3
    · rw [decide_eq_true hd] at t2
      obtain ⟨y1, hy1, f1, _⟩ := atP_nat (xs := stxs halls) (i := (k : Int)) (by omega) hk
      obtain ⟨v1, hv1, rfl⟩ := strs_mem hy1
      have hpos : (0 : Int) < (stxs halls).length := by omega
      obtain ⟨y2, hy2, f2, _⟩ := atP_nat (xs := stxs halls) (i := ((k : Int) + 1) % ((stxs halls).length : Int)) (Int.emod_nonneg _ (by omega)) (Int.emod_lt_of_pos _ hpos)
      obtain ⟨v2, hv2, rfl⟩ := strs_mem hy2
      refine ⟨v1, v2, S3, hv1, hv2, ok3.mono (by omega), bb_cons st1 (bb_cons (s_iteT (t_andT t1 t2) (bb_cons (s_par0 (es_cons0 (x_idx (z := .fz (.str v1)) (x_var rfl) (x_var rfl) ?_) (es_cons0 (x_idx (z := .fz (.str v2)) (x_var rfl) (x_bin (d3 := .int (((k : Int) + 1) % ((stxs halls).length : Int))) (x_bin (x_var rfl) (x_cst rfl) rfl) (x_len (x_var rfl) lenH_lst) ?_) ?_) es_nil0)) rfl) bb_nil)) rfl)⟩
      · simp only [idxH, idxV, f1, liftF_some]
      · simp only [binV, modV, if_pos hpos]
      · simp only [idxH, idxV, f2, liftF_some]
    · rw [decide_eq_false hd] at t2
      exact ⟨w1, w2, S3, hw1, hw2, ok3.mono (by omega), bb_cons st1 (bb_cons (s_iteF (t_andT t1 t2) bb_nil) rfl)⟩
  · rw [decide_eq_false hk] at t1
    exact ⟨w1, w2, S2, hw1, hw2, ok2.mono (by omega), bb_cons st1 (bb_cons (s_iteF (t_andF t1) bb_nil) rfl)⟩
theorem ivs : ∀ (ys : List PV), (∀ y ∈ ys, ∃ i : Int, y = .int i) → ∃ l : List Int, ys = iv l
  | [], _ => ⟨[], rfl⟩
  | y :: ys, H => by
    obtain ⟨i, rfl⟩ := H y (by simp)
    obtain ⟨l, rfl⟩ := ivs ys fun y hy => H y (List.mem_cons_of_mem _ hy)
    exact ⟨i :: l, rfl⟩
theorem iv_len (l : List Int) : (iv l).length = l.length := by simp [iv]
/-- a step -/
theorem step_ok (n : Nat) {ax : Nat} {halls : List Txt} {c : Int} {L : Nat} {x8 x9 x10 x11 x12 : Option Vl} (hax : ax ≤ 4) (ok : S.Ok B) (hB : B ≤ 100000000000) :
    ∃ (l : List Int) (S' : Sm), (gx (n + 3)).ex (.lc [13] (.nm 13) (.rng (.var 1)) .yes (.bin 1 (.call 26 (.cons (.var 0) (.cons (.bin 0 (.bin 2 (.cst (.int 2)) (.var 4)) (.cst (.int 1))) .nil))) (.var 4))) (envP ax halls c L x8 x9 x10 x11 x12) (hp S E) = .ok (.fz (.lst (iv l))) (hp S' E) ∧ l.length = ax ∧ S'.Ok (B + 4) := by
  have hsrc := sr_rng (G := gx (n + 3)) (a := .var 1) (env := envP ax halls c L x8 x9 x10 x11 x12) (h := hp S E) (j := (ax : Int)) (x_var rfl) (by omega)
  have ht : ((ax : Int)).toNat = ax := by simp
  rw [ht] at hsrc
  obtain ⟨ys, h', q1, q2, q3, S2, rfl, ok2⟩ := lcN_all (g := (gx (n + 3)).tg (.nm 13)) (c := (gx (n + 3)).ts .yes) (e := frzR ((gx (n + 3)).ex (.bin 1 (.call 26 (.cons (.var 0) (.cons (.bin 0 (.bin 2 (.cst (.int 2)) (.var 4)) (.cst (.int 1))) .nil))) (.var 4)))) (env := wipeE [13] (envP ax halls c L x8 x9 x10 x11 x12))
    (fun k h => ∃ S', h = hp S' E ∧ S'.Ok (B + k)) (fun y => ∃ i : Int, y = .int i) (fzs (rng ax)) 0 (hp S E) ⟨S, rfl, ok.mono (by omega)⟩ (fun j x hx h hI => by
      obtain ⟨S', rfl, ok'⟩ := hI
      have hj : j < 4 := by
        have := (List.getElem?_eq_some_iff.mp hx).1
        rw [rng_len] at this
        omega
      obtain ⟨d, S3, e3, d0, d1, ok3⟩ := draw (E := E) (n + 2) (m := 3) ok' (by omega) (by decide) (by decide)
      refine ⟨_, tg_nm (by simp [wipeE, envP]), rfl, .int (d - 1), hp S3 E, frzR_ok (x_bin (x_call (es_cons0 (x_var rfl) (es_cons0 (x_bin (x_bin (x_cst rfl) (x_var rfl) (show binV 2 (.int 2) (.int 1) = some (.int 2) from mul_small (i := 2) (j := 1) (by decide) (by decide))) (x_cst rfl) rfl) es_nil0)) e3) (x_var rfl) rfl), ⟨_, rfl⟩, S3, rfl, ok3.mono (by omega)⟩)
  obtain ⟨l, rfl⟩ := ivs ys q3
  rw [rng_len] at q2 ok2
  exact ⟨l, S2, x_lc hsrc q1, by rw [iv_len] at q2; exact q2, ok2.mono (by omega)⟩
/-- the loop over names -/
theorem plan_loop (n : Nat) {ax : Nat} {halls : List Txt} {c : Int} (hax : ax ≤ 4) (hh : halls ≠ []) (hl : halls.length ≤ 10) {ws : List Txt} (hw : ws.length ≤ 10) {x8 x9 x10 x11 x12 : Option Vl} (ok : S.Ok B) (hB : B ≤ 10000000000) :
    ∃ (ts : List Tie) (S' : Sm) (y8 y9 y10 y11 y12 : Option Vl), forN ((gx (n + 3)).tg (.tp (.cons (.nm 8) (.cons (.nm 9) .nil)))) ((gx (n + 3)).sts bodyP) (fzs (enumP (stxs ws))) (envP ax halls c (E.length + 2) x8 x9 x10 x11 x12) (hp S (E ++ [some (.lst [])])) = .nx (envP ax halls c (E.length + 2) y8 y9 y10 y11 y12) (hp S' (E ++ [some (.lst (fzs (ts.map row)))])) ∧
      ts.map Tie.nm = ws ∧ (∀ t ∈ ts, t.s ∈ halls ∧ t.e ∈ halls ∧ t.st.length = ax) ∧ S'.Ok (B + 100) := by
  obtain ⟨e2, h', q1, ts, S2, y8, y9, y10, y11, y12, rfl, rfl, hn, ht, ok2⟩ := forN_inv (g := (gx (n + 3)).tg (.tp (.cons (.nm 8) (.cons (.nm 9) .nil)))) (b := (gx (n + 3)).sts bodyP)
    (fun k env h => ∃ (ts : List Tie) (S' : Sm) (y8 y9 y10 y11 y12 : Option Vl), env = envP ax halls c (E.length + 2) y8 y9 y10 y11 y12 ∧ h = hp S' (E ++ [some (.lst (fzs (ts.map row)))]) ∧ ts.map Tie.nm = ws.take k ∧ (∀ t ∈ ts, t.s ∈ halls ∧ t.e ∈ halls ∧ t.st.length = ax) ∧ S'.Ok (B + 7 * k))
    (fzs (enumP (stxs ws))) 0 (envP ax halls c (E.length + 2) x8 x9 x10 x11 x12) (hp S (E ++ [some (.lst [])])) ⟨[], S, x8, x9, x10, x11, x12, rfl, rfl, by simp, fun t ht => by simp at ht, ok.mono (by omega)⟩ (fun j d hd env h hI => by
      obtain ⟨ts, S1, y8, y9, y10, y11, y12, rfl, rfl, hn, ht, ok1⟩ := hI
      rw [Nat.zero_add] at hn ok1 ⊢
      have hlen : (fzs (enumP (stxs ws))).length = ws.length := by simp [fzs, enumP, stxs]
      have hj : j < ws.length := by
        have := (List.getElem?_eq_some_iff.mp hd).1
        rw [hlen] at this
        exact this
      have hd2 : d = .fz (.tup [.int (j : Int), .str ws[j]]) := by
        have : (fzs (enumP (stxs ws)))[j]? = some (.fz (.tup [.int (j : Int), .str ws[j]])) := by
          simp [fzs, enumP, stxs, List.getElem?_map, List.getElem?_zipIdx, hj]
        rw [this] at hd
        exact (Option.some.inj hd).symm
      subst hd2
      refine ⟨envP ax halls c (E.length + 2) (some (.fz (.int (j : Int)))) (some (.fz (.str ws[j]))) y10 y11 y12, rfl, ?_⟩
      obtain ⟨s, e, S3, hs, he, ok3, st⟩ := ends_ok (E := E ++ [some (.lst (fzs (ts.map row)))]) (S := S1) n (ax := ax) (k := j) (c := c) (L := E.length + 2) (x9 := some (.fz (.str ws[j]))) (x10 := y10) (x11 := y11) (x12 := y12) (r := (.cons (.set 10 (.lc [13] (.nm 13) (.rng (.var 1)) .yes (.bin 1 (.call 26 (.cons (.var 0) (.cons (.bin 0 (.bin 2 (.cst (.int 2)) (.var 4)) (.cst (.int 1))) .nil))) (.var 4)))) (.cons (.exp (.app (.var 7) (.tup (.cons (.var 9) (.cons (.var 11) (.cons (.var 12) (.cons (.s1 1 (.var 10)) .nil))))))) .nil))) hh hl ok1 (by omega)
      obtain ⟨l, S4, e4, hl4, ok4⟩ := step_ok (E := E ++ [some (.lst (fzs (ts.map row)))]) (S := S3) n (ax := ax) (halls := halls) (c := c) (L := E.length + 2) (x8 := some (.fz (.int (j : Int)))) (x9 := some (.fz (.str ws[j]))) (x10 := y10) (x11 := some (.fz (.str s))) (x12 := some (.fz (.str e))) hax ok3 (by omega)
      refine ⟨envP ax halls c (E.length + 2) (some (.fz (.int (j : Int)))) (some (.fz (.str ws[j]))) (some (.fz (.lst (iv l)))) (some (.fz (.str s))) (some (.fz (.str e))), hp S4 (E ++ [some (.lst (fzs ((ts ++ [Tie.mk ws[j] s e l]).map row)))]), ?_, ts ++ [Tie.mk ws[j] s e l], S4, _, _, _, _, _, rfl, rfl, ?_, ?_, ok4.mono (by omega)⟩
      · refine st.trans (bb_cons (s_set0 e4 (by simp [envP])) (bb_cons (s_exp0 (x_app (n := E.length + 2) (xs := fzs (ts.map row)) (y := .fz (row (Tie.mk ws[j] s e l))) (h2 := hp S4 (E ++ [some (.lst (fzs (ts.map row)))])) (x_var rfl) (hp_at rfl) (x_tup (ds := [.str ws[j], .str s, .str e, .tup (iv l)]) (es_cons0 (x_var rfl) (es_cons0 (x_var rfl) (es_cons0 (x_var rfl) (es_cons0 (x_s1 (x_var rfl) rfl) es_nil0)))) rfl (by simp [LIM])) (hp_at rfl) ?_)) ?_))
        · rw [fzs_len, List.length_map]
          have h1 : ts.length = (ws.take j).length := by rw [← hn, List.length_map]
          rw [h1, List.length_take]
          show _ < 16777216
          omega
        · rw [hp_set rfl, show fzs (ts.map row) ++ [.fz (row (Tie.mk ws[j] s e l))] = fzs ((ts ++ [Tie.mk ws[j] s e l]).map row) by simp [fzs]]
          rfl
      · rw [List.map_append, hn, List.take_succ_eq_append_getElem hj]
        rfl
      · intro t hmem
        rcases List.mem_append.mp hmem with hmem | hmem
        · exact ht t hmem
        · simp at hmem
          subst hmem
          exact ⟨hs, he, hl4⟩)
  have hlen : (fzs (enumP (stxs ws))).length = ws.length := by simp [fzs, enumP, stxs]
  rw [hlen, Nat.zero_add] at hn ok2
  refine ⟨ts, S2, y8, y9, y10, y11, y12, q1, ?_, ht, ok2.mono (by omega)⟩
  rw [hn, List.take_length]
end HV.k04

end

section
/-! L_k04d: a plan, whole. Core Lean. -/
namespace HV
theorem x_tupF {G : Gx} {env : Env} {h h1 h2 : Hm} {as : Es} {vs : List Vl} {ds : List PV} (ha : G.es as env h = .ok vs h1) (hl : vs.length ≤ LIM) (e : frzs vs h1 = .ok ds h2) : G.ex (.tup as) env h = .ok (.fz (.tup ds)) h2 := by
  simp only [Gx.ex, tupE, ha, rb_ok, if_pos hl, e]
theorem noRef_app {E F : Hm} (h1 : noRef E) (h2 : noRef F) : noRef (E ++ F) := by
  unfold noRef at *
  rw [List.all_append, h1, h2]
  rfl
end HV
namespace HV.k04
open HV
variable {S : Sm} {B : Int} {E : Hm}
/-- what a plan tells -/
structure PlanOk (ax : Nat) (halls : List Txt) (ts : List Tie) : Prop where
  axl : ax ≤ 4
  h0 : halls ≠ []
  h1 : halls.length ≤ 3
  hn : halls.Nodup
  hg : ∀ w ∈ halls, good w
  t0 : ts ≠ []
  t1 : ts.length ≤ 4
  tn : (ts.map Tie.nm).Nodup
  tg : ∀ t ∈ ts, good t.nm ∧ t.s ∈ halls ∧ t.e ∈ halls ∧ t.st.length = ax
theorem plan_ok (n : Nat) {ax : Nat} (hax : ax ≤ 4) (ok : S.Ok B) (hB : B ≤ 1000000000) (hE : noRef E) :
    ∃ halls ts S', run 2000 (n + 6) 23 [.rf 1, .fz (.int (ax : Int)), .fz (.int 3), .fz (.int 4), .fz (.int 1)] (hp S E) = .ok (.fz (.tup [.int (ax : Int), .lst (stxs halls), .lst (ts.map row)])) (hp S' E) ∧ PlanOk ax halls ts ∧ S'.Ok (B + 200) := by
  rw [run_at (n + 5) 23 r23 rfl]
  obtain ⟨d1, S1, e1, d10, d11, ok1⟩ := draw (E := E) (n + 4) (m := 3) ok (by omega) (by decide) (by decide)
  obtain ⟨k1, rfl⟩ : ∃ k : Nat, d1 = (k : Int) := ⟨d1.toNat, by omega⟩
  obtain ⟨halls, S2, e2, hl2, nd2, gd2, ok2⟩ := words_ok (E := E) (n + 1) (m := 1 + k1) ok1 (by omega) (by omega) hE
  obtain ⟨d3, S3, e3, d30, d31, ok3⟩ := draw (E := E) (n + 4) (m := 4) ok2 (by omega) (by decide) (by decide)
  obtain ⟨k3, rfl⟩ : ∃ k : Nat, d3 = (k : Int) := ⟨d3.toNat, by omega⟩
  obtain ⟨ws, S4, e4, hl4, nd4, gd4, ok4⟩ := words_ok (E := E ++ [some (MO.lst [])]) (n + 1) (m := 1 + k3) ok3 (by omega) (by omega) (noRef_app hE (by rfl))
  have hh : halls ≠ [] := fun z => by subst z; simp at hl2; omega
  obtain ⟨ts, S5, y8, y9, y10, y11, y12, e5, hn, ht, ok5⟩ := plan_loop (E := E) (S := S4) (n + 2) (ax := ax) (halls := halls) (c := 1 + (k3 : Int)) hax hh (by omega) (ws := ws) (by omega) (x8 := none) (x9 := none) (x10 := none) (x11 := none) (x12 := none) ok4 (by omega)
  refine ⟨halls, ts, S5, run_rt (h1 := hp S5 (E ++ [none])) rfl (bb_cons (s_set0 (x_call (es_cons0 (x_var rfl) (es_cons0 (x_bin (x_cst rfl) (x_call (es_cons0 (x_var rfl) (es_cons0 (x_var rfl) es_nil0)) e1) rfl) es_nil0)) ?_) (by simp [r23])) (bb_cons (e1 := envP ax halls (1 + (k3 : Int)) (E.length + 2) none none none none none) (h1 := hp S3 (E ++ [some (MO.lst [])])) (s_par0 (es_cons0 (x_bin (x_cst rfl) (x_call (es_cons0 (x_var rfl) (es_cons0 (x_var rfl) es_nil0)) e3) rfl) (es_cons0 (x_nlst es_nil0 (by decide)) es_nil0)) rfl) (bb_cons (s_for0 (ds := fzs (enumP (stxs ws))) (h1 := hp S4 (E ++ [some (MO.lst [])])) (sr_enm (d := .lst (stxs ws)) (x_call (es_cons0 (x_var rfl) (es_cons0 (x_var rfl) es_nil0)) ?_) rfl) e5) (bb_ret (s_ret0 (x_tupF (ds := [.int (ax : Int), .lst (stxs halls), .lst (ts.map row)]) (es_cons0 (x_var rfl) (es_cons0 (x_var rfl) (es_cons0 (x_var rfl) es_nil0))) (by simp [LIM]) ?_)))))) ?_ rfl, ?_, ok5.mono (by omega)⟩
  · have : ((1 + k1 : Nat) : Int) = 1 + (k1 : Int) := by omega
    rw [← this]
    exact e2
  · have : ((1 + k3 : Nat) : Int) = 1 + (k3 : Int) := by omega
    rw [← this]
    exact e4
  · simp only [frzs, frz_fz, rb_ok, frz_fzsL (hp_at (S := S5) (E := E) (F := []) (o := some (.lst (fzs (ts.map row)))) rfl), hp_set rfl]
  · exact cut_hp (by rw [hp_len]; omega) hE
  · have hlt : ts.length = 1 + k3 := by rw [← hl4, ← hn, List.length_map]
    refine ⟨hax, hh, by omega, nd2, gd2, fun z => by subst z; simp at hlt; omega, by omega, by rw [hn]; exact nd4, fun t htm => ⟨gd4 _ (by rw [← hn]; exact List.mem_map_of_mem htm), ht t htm⟩⟩
end HV.k04

end

section
/-! L_k04e: the small tests of the program. Core Lean. -/
namespace HV.k04
open HV
variable {S : Sm} {B : Int} {E : Hm} {h : Hm}
theorem g_int (n : Nat) : (gx n).glo 6909556 = some (.ty 0) := rfl
theorem g_bool (n : Nat) : (gx n).glo 1651470188 = some (.ty 1) := rfl
theorem g_str (n : Nat) : (gx n).glo 7566450 = some (.ty 2) := rfl
theorem g_list (n : Nat) : (gx n).glo 1818850164 = some (.ty 3) := rfl
theorem g_tuple (n : Nat) : (gx n).glo 500186508389 = some (.ty 4) := rfl
def isLst : PV → Bool
  | .lst _ => true
  | .tup _ => true
  | _ => false
/-- a thing that isinstance knows -/
def plainK (d : PV) : Prop := (kdV d).isSome = true
theorem isi_lt {d : PV} (h : plainK d) : isiV d (.tup [.ty 3, .ty 4]) = some (.bl (isLst d)) := by
  cases d <;> first | rfl | (simp [plainK, kdV] at h)
theorem is_list (n : Nat) {d : PV} (hd : plainK d) : run 2000 (n + 1) 1 [.fz d] h = .ok (.fz (.bl (isLst d))) h := by
  rw [run_at n 1 r1 rfl]
  exact run_rt rfl (bb_ret (s_ret0 (x_isi (x_var rfl) (x_tup (ds := [.ty 3, .ty 4]) (es_cons0 (x_glo (g_list n) rfl) (es_cons0 (x_glo (g_tuple n) rfl) es_nil0)) rfl (by decide)) (isi_lt hd)))) (cut_same rfl) rfl
theorem is_int (n : Nat) (i : Int) : run 2000 (n + 1) 0 [.fz (.int i)] h = .ok (.fz (.bl true)) h := by
  rw [run_at n 0 r0 rfl]
  exact run_rt rfl (bb_ret (s_ret0 (x_and (t := true) (x_isi (x_var rfl) (x_glo (g_int n) rfl) rfl) rfl (fun _ => x_not (t := false) (x_isi (x_var rfl) (x_glo (g_bool n) rfl) rfl) rfl) (fun z => by cases z)))) (cut_same rfl) rfl
/-! ### names -/
def signs : Txt := [97, 98, 99, 100, 101, 102, 103, 104, 105, 106, 107, 108, 109, 110, 111, 112, 113, 114, 115, 116, 117, 118, 119, 120, 121, 122, 48, 49, 50, 51, 52, 53, 54, 55, 56, 57, 46]
theorem g_signs (n : Nat) : (gx n).glo 357711695443 = some (.str signs) := rfl
def nameB (w : Txt) : Bool := !w.isEmpty && w.all fun c => signs.contains c
theorem all_bls : ∀ (bs : List Bool), allV (.lst (bs.map .bl)) = some (.bl (bs.all id)) := fun bs => by
  have h1 : dataPs 0 (bs.map PV.bl) = true := by
    induction bs with
    | nil => simp [dataPs]
    | cons b bs ih => simp [dataPs, dataP, ih]
  have h2 : (bs.map PV.bl).all trA = bs.all id := by
    induction bs with
    | nil => rfl
    | cons b bs ih =>
      simp only [List.map_cons, List.all_cons, trA, id]
      rw [ih]
      simp [dataPs, dataP] at h1
      exact h1
  simp only [allV, h1, if_true, h2]
theorem is_name_str (n : Nat) (w : Txt) : run 2000 (n + 1) 2 [.fz (.str w)] h = .ok (.fz (.bl (nameB w))) h := by
  rw [run_at n 2 r2 rfl]
  have hc : (gx n).ex (.cmp 1 (.var 0) (.cst (.str []))) [some (.fz (.str w)), none] h = .ok (.fz (.bl (!w.isEmpty))) h := by
    refine x_cmp (x_var rfl) (x_cst rfl) ?_
    rw [cmpG_fz _ _ _ _ _ _ (fun _ _ z => by cases z) (fun _ _ z => by cases z)]
    cases w <;> simp [cmpV, eqE, eqD, dataP, eqvP, blO, liftF]
  have hl : lcN ((gx n).tg (.nm 1)) ((gx n).ts .yes) (frzR ((gx n).ex (.cmp 6 (.var 1) (.glo 357711695443)))) (wipeE [1] [some (.fz (.str w)), none]) (fzs (w.map fun c => PV.str [c])) h = .ok ((w.map fun c => signs.contains c).map .bl) h := by
    rw [List.map_map]
    refine lcN_map (fun c => PV.str [c]) _ (fun c => [some (.fz (.str w)), some (.fz (.str [c]))]) w fun c hc => ⟨rfl, rfl, frzR_ok (x_cmp (x_var rfl) (x_glo (g_signs n) rfl) ?_)⟩
    rw [cmpG_fz _ _ _ _ _ _ (fun _ _ z => by cases z) (fun _ _ z => by cases z)]
    rfl
  have ev : (gx n).ex (.and (.cmp 1 (.var 0) (.cst (.str []))) (.b1 1 (.lc [1] (.nm 1) (.val (.var 0)) .yes (.cmp 6 (.var 1) (.glo 357711695443))))) [some (.fz (.str w)), none] h = .ok (.fz (.bl (nameB w))) h := by
    cases w with
    | nil => exact x_and (t := false) hc rfl (fun z => by cases z) (fun _ => ⟨rfl, rfl⟩)
    | cons c w =>
      refine x_and (t := true) hc rfl (fun _ => x_b1 (x_lc (sr_fz (x_var rfl) rfl) hl) ?_) (fun z => by cases z)
      show allV (.lst (((c :: w).map fun c => signs.contains c).map .bl)) = _
      rw [all_bls, List.all_map]
      rfl
  exact run_rt rfl (bb_ret (s_ret0 (x_and (t := true) (x_isi (x_var rfl) (x_glo (g_str n) rfl) rfl) rfl (fun _ => ev) (fun z => by cases z)))) (cut_same rfl) rfl
end HV.k04

end

section
/-! L_k04f: nets are made. Core Lean. -/
namespace HV
theorem forN_cons {g : Vl → Env → Hm → Option Env} {b : Env → Hm → SO} {x : Vl} {xs : List Vl} {env e1 e2 : Env} {h h1 : Hm} {out : SO} (hg : g x env h = some e1) (hb : b e1 h = .nx e2 h1) (hr : forN g b xs e2 h1 = out) : forN g b (x :: xs) env h = out := by
  simp only [forN, hg, hb, hr]
theorem cmp_eq_int (sp : Nat → Nat → Option Nat) (φ : Nat → List Vl → Hm → R Vl) (i j : Int) (h : Hm) : cmpG sp φ 0 (.fz (.int i)) (.fz (.int j)) h = .ok (.fz (.bl (decide (i = j)))) h := by
  rw [cmpG_ii]
  simp only [cmpV, eqE, eqD, dataP, eqvP, Bool.and_self, if_true, blO, liftF]
  by_cases e : i = j
  · subst e; simp
  · simp [e]
theorem cmp_ne_int (sp : Nat → Nat → Option Nat) (φ : Nat → List Vl → Hm → R Vl) (i j : Int) (h : Hm) : cmpG sp φ 1 (.fz (.int i)) (.fz (.int j)) h = .ok (.fz (.bl (!decide (i = j)))) h := by
  rw [cmpG_ii]
  simp only [cmpV, eqE, eqD, dataP, eqvP, Bool.and_self, if_true, blO, liftF, Option.map_some]
  by_cases e : i = j
  · subst e; simp
  · simp [e]
end HV
namespace HV.k04
open HV
variable {S : Sm} {B : Int} {E : Hm} {h : Hm}
theorem in_strs (sp : Nat → Nat → Option Nat) (φ : Nat → List Vl → Hm → R Vl) (ws : List Txt) (t : Txt) (h : Hm) : cmpG sp φ 6 (.fz (.str t)) (.fz (.lst (stxs ws))) h = .ok (.fz (.bl (decide (t ∈ ws)))) h := by
  rw [cmpG_fz _ _ _ _ _ _ (fun _ _ z => by cases z) (fun _ _ z => by cases z)]
  simp only [cmpV, inD]
  have d1 : dataP 60 (.str t) = true := by simp [dataP]
  rw [d1, data_strs]
  simp only [Bool.and_self, if_true, any_str, blO_some, liftF_some]
theorem notin_strsF (sp : Nat → Nat → Option Nat) (φ : Nat → List Vl → Hm → R Vl) (ws : List Txt) (t : Txt) (h : Hm) : cmpG sp φ 7 (.fz (.str t)) (.fz (.lst (stxs ws))) h = .ok (.fz (.bl (!decide (t ∈ ws)))) h := by
  rw [cmpG_fz _ _ _ _ _ _ (fun _ _ z => by cases z) (fun _ _ z => by cases z)]
  simp only [cmpV, inD]
  have d1 : dataP 60 (.str t) = true := by simp [dataP]
  rw [d1, data_strs]
  simp only [Bool.and_self, if_true, Option.map_some, any_str, blO_some, liftF_some]
theorem all_true {α : Type} (l : List α) : allV (.lst (l.map fun _ => PV.bl true)) = some (.bl true) := by
  have := all_bls (l.map fun _ => true)
  rw [List.map_map] at this
  have e : (l.map fun _ => true).all id = true := by simp
  rw [e] at this
  exact this
theorem is_vector (n : Nat) (l : List Int) : run 2000 (n + 2) 3 [.fz (.tup (iv l)), .fz (.int (l.length : Int))] h = .ok (.fz (.bl true)) h := by
  rw [run_at (n + 1) 3 r3 rfl]
  have hl : lcN ((gx (n + 1)).tg (.nm 2)) ((gx (n + 1)).ts .yes) (frzR ((gx (n + 1)).ex (.call 0 (.cons (.var 2) .nil)))) (wipeE [2] [some (.fz (.tup (iv l))), some (.fz (.int (l.length : Int))), none]) (fzs (iv l)) h = .ok (l.map fun _ => PV.bl true) h :=
    lcN_map PV.int _ (fun i => [some (.fz (.tup (iv l))), some (.fz (.int (l.length : Int))), some (.fz (.int i))]) l fun i hi => ⟨rfl, rfl, frzR_ok (x_call (es_cons0 (x_var rfl) es_nil0) (is_int n i))⟩
  refine run_rt rfl (bb_ret (s_ret0 (x_and (t := true) (x_call (es_cons0 (x_var rfl) es_nil0) (is_list n (d := .tup (iv l)) rfl)) rfl (fun _ => x_and (t := true) (d := .bl true) (x_cmp (t := true) (x_len (y := .fz (.int (l.length : Int))) (x_var rfl) ?_) (x_var rfl) ?_) rfl (fun _ => x_b1 (x_lc (sr_fz (x_var rfl) rfl) hl) (all_true l)) (fun z => by cases z)) (fun z => by cases z)))) (cut_same rfl) rfl
  · show liftF (lenV (.tup (iv l))) h = _
    simp [lenV, iv_len, liftF]
  · rw [cmp_eq_int]; simp
/-! ### a tie -/
theorem is_tie (n : Nat) {ax : Nat} {halls ws : List Txt} {t : Tie} (h1 : nameB t.nm = true) (h2 : t.nm ∉ ws) (h3 : t.s ∈ halls) (h4 : t.e ∈ halls) (h5 : ∀ w ∈ halls, nameB w = true) (h6 : t.st.length = ax) :
    run 2000 (n + 3) 6 [.fz (row t), .fz (.int (ax : Int)), .fz (.lst (stxs halls)), .fz (.lst (stxs ws))] h = .ok (.fz (.bl true)) h := by
  rw [run_at (n + 2) 6 r6 rfl]
  have c1 : (gx (n + 2)).ts (.or (.not (.val (.call 1 (.cons (.var 0) .nil)))) (.or (.cmp 1 (.len (.var 0)) (.cst (.int 4))) (.or (.not (.val (.call 2 (.cons (.idx (.var 0) (.cst (.int 0))) .nil)))) (.cmp 6 (.idx (.var 0) (.cst (.int 0))) (.var 3))))) [some (.fz (row t)), some (.fz (.int (ax : Int))), some (.fz (.lst (stxs halls))), some (.fz (.lst (stxs ws))), none] h = .ok false h := by
    refine t_orF (t_not0 (t := true) (t_val0 (x_call (es_cons0 (x_var rfl) es_nil0) (is_list (n + 1) (d := row t) rfl)) rfl)) (t_orF (t_cmp0 (x_len (x_var rfl) rfl) (x_cst rfl) (cmp_ne_int _ _ _ _ _)) (t_orF (t_not0 (t := true) (t_val0 (x_call (es_cons0 (x_idx (x_var rfl) (x_cst rfl) rfl) es_nil0) (is_name_str (n + 1) t.nm)) ?_)) (t_cmp0 (x_idx (x_var rfl) (x_cst rfl) rfl) (x_var rfl) ?_)))
    · rw [h1]; rfl
    · rw [in_strs, decide_eq_false h2]
  have b1 : ∀ (w : Txt) (x4 : Option Vl), w ∈ halls → (gx (n + 2)).sts (.cons (.ite (.or (.not (.val (.call 2 (.cons (.var 4) .nil)))) (.cmp 7 (.var 4) (.var 2))) (.cons (.ret (.cst (.bl false))) .nil) .nil) .nil) [some (.fz (row t)), some (.fz (.int (ax : Int))), some (.fz (.lst (stxs halls))), some (.fz (.lst (stxs ws))), some (.fz (.str w))] h = .nx [some (.fz (row t)), some (.fz (.int (ax : Int))), some (.fz (.lst (stxs halls))), some (.fz (.lst (stxs ws))), some (.fz (.str w))] h := fun w x4 hw => by
    refine bb_cons (s_iteF (t_orF (t_not0 (t := true) (t_val0 (x_call (es_cons0 (x_var rfl) es_nil0) (is_name_str (n + 1) w)) ?_)) (t_cmp0 (x_var rfl) (x_var rfl) ?_)) bb_nil) bb_nil
    · rw [h5 w hw]; rfl
    · rw [notin_strsF, decide_eq_true hw]; rfl
  subst h6
  refine run_rt rfl (bb_cons (s_iteF c1 bb_nil) (bb_cons (s_for0 (sr_fz (ds := [.str t.s, .str t.e]) (x_tup (ds := [.str t.s, .str t.e]) (es_cons0 (x_idx (x_var rfl) (x_cst rfl) rfl) (es_cons0 (x_idx (x_var rfl) (x_cst rfl) rfl) es_nil0)) rfl (by simp [LIM])) rfl) (forN_cons rfl (b1 t.s none h3) (forN_cons rfl (b1 t.e none h4) rfl))) (bb_ret (s_ret0 (x_call (es_cons0 (x_idx (x_var rfl) (x_cst rfl) rfl) (es_cons0 (x_var rfl) es_nil0)) (is_vector n t.st)))))) (cut_same rfl) rfl
/-! ### rooms -/
theorem putD_new {α : Type} {ds : List (PV × α)} {k : PV} {v : α} (h : ∀ p ∈ ds, eqvP p.1 k = false) : putD ds k v = ds ++ [(k, v)] := by
  unfold putD
  rw [if_neg]
  intro z
  obtain ⟨p, hp, e⟩ := List.any_eq_true.mp z
  rw [h p hp] at e
  cases e
theorem merge_new {α : Type} (f : Txt → α) : ∀ (ws vs : List Txt), (vs ++ ws).Nodup → mergeD (vs.map fun w => (PV.str w, f w)) (ws.map fun w => (PV.str w, f w)) = (vs ++ ws).map fun w => (PV.str w, f w)
  | [], vs, _ => by simp [mergeD]
  | w :: ws, vs, nd => by
    have hw : w ∉ vs := fun z => by
      have := (List.nodup_append.mp nd).2.2 w z w (by simp)
      exact this rfl
    show mergeD (putD (vs.map fun w => (PV.str w, f w)) (.str w) (f w)) (ws.map fun w => (PV.str w, f w)) = _
    rw [putD_new (fun p hp => by
      obtain ⟨v, hv, rfl⟩ := List.mem_map.mp hp
      show eqvP (.str v) (.str w) = false
      rw [eqvP_str, beq_eq_false_iff_ne]
      exact fun z => hw (z ▸ hv))]
    have := merge_new f ws (vs ++ [w]) (by simpa using nd)
    simp only [List.map_append, List.map_cons, List.map_nil, List.append_assoc, List.cons_append, List.nil_append] at this ⊢
    exact this
theorem frz_dct {n : Nat} {kvs : List (PV × PV)} {h : Hm} (hn : h.length = n) : frz (.rf n) (h ++ [some (.dct (kvs.map fun p => (p.1, .fz p.2)))]) = .ok (.dct kvs) (h ++ [none]) := by
  have e1 : (h ++ [some (MO.dct (kvs.map fun p => (p.1, Vl.fz p.2)))])[n]? = some (some (.dct (kvs.map fun p => (p.1, .fz p.2)))) := by subst hn; simp
  have e2 : (h ++ [some (MO.dct (kvs.map fun p => (p.1, Vl.fz p.2)))]).set n none = h ++ [none] := by subst hn; simp
  have e3 : ∀ (kvs : List (PV × PV)) (h : Hm), mapH (sndH (frzV 7)) (kvs.map fun p => (p.1, Vl.fz p.2)) h = some (kvs, h) := by
    intro kvs
    induction kvs with
    | nil => intro h; rfl
    | cons p kvs ih =>
      intro h
      simp only [List.map_cons, mapH, sndH, frzV, ih]
  simp only [frz, frzV, e1, e2, e3]
theorem check_rooms (n : Nat) {halls : List Txt} (h0 : halls ≠ []) (nd : halls.Nodup) (h5 : ∀ w ∈ halls, nameB w = true) (hE : noRef E) : run 2000 (n + 2) 5 [.fz (.lst (stxs halls))] (hp S E) = .ok (.fz .non) (hp S E) := by
  rw [run_at (n + 1) 5 r5 rfl]
  have hp0 : 0 < halls.length := List.length_pos_iff.mpr h0
  have hl : lcN ((gx (n + 1)).tg (.nm 1)) ((gx (n + 1)).ts .yes) (frzR ((gx (n + 1)).ex (.call 2 (.cons (.var 1) .nil)))) (wipeE [1] [some (.fz (.lst (stxs halls))), none]) (fzs (stxs halls)) (hp S E) = .ok (halls.map fun _ => PV.bl true) (hp S E) :=
    lcN_map PV.str _ (fun w => [some (.fz (.lst (stxs halls))), some (.fz (.str w))]) halls fun w hw => ⟨rfl, rfl, frzR_ok (x_call (es_cons0 (x_var rfl) es_nil0) (by have := is_name_str (h := hp S E) n w; rw [h5 w hw] at this; exact this))⟩
  have c1 : (gx (n + 1)).ts (.or (.not (.val (.call 1 (.cons (.var 0) .nil)))) (.or (.cmp 0 (.len (.var 0)) (.cst (.int 0))) (.not (.val (.b1 1 (.lc [1] (.nm 1) (.val (.var 0)) .yes (.call 2 (.cons (.var 1) .nil)))))))) [some (.fz (.lst (stxs halls))), none] (hp S E) = .ok false (hp S E) := by
    refine t_orF (t_not0 (t := true) (t_val0 (x_call (es_cons0 (x_var rfl) es_nil0) (is_list n (d := .lst (stxs halls)) rfl)) rfl)) (t_orF (t_cmp0 (x_len (x_var rfl) lenH_lst) (x_cst rfl) ?_) (t_not0 (t := true) (t_val0 (x_b1 (x_lc (sr_fz (x_var rfl) rfl) hl) (all_true halls)) rfl)))
    rw [cmp_eq_int, strs_len, decide_eq_false (by omega)]
  have hl2 : lcN ((gx (n + 1)).tg (.nm 1)) ((gx (n + 1)).ts .yes) (pairE ((gx (n + 1)).ex (.var 1)) ((gx (n + 1)).ex (.cst (.bl true)))) (wipeE [1] [some (.fz (.lst (stxs halls))), none]) (fzs (stxs halls)) (hp S E) = .ok (halls.map fun w => (PV.str w, Vl.fz (.bl true))) (hp S E) :=
    lcN_map PV.str _ (fun w => [some (.fz (.lst (stxs halls))), some (.fz (.str w))]) halls fun w hw => ⟨rfl, rfl, rfl⟩
  have hd : (gx (n + 1)).ex (.dc [1] (.nm 1) (.val (.var 0)) .yes (.var 1) (.cst (.bl true))) [some (.fz (.lst (stxs halls))), none] (hp S E) = .ok (.fz (.dct (halls.map fun w => (PV.str w, PV.bl true)))) (hp S (E ++ [none])) := by
    have hs : (gx (n + 1)).sr (.val (.var 0)) [some (.fz (.lst (stxs halls))), none] (hp S E) = .ok (fzs (stxs halls), []) (hp S E) := sr_fz (x_var rfl) rfl
    simp only [Gx.ex] at hl2 ⊢
    simp only [dcV, frzE, ndcV, hs, rb_ok, lockH, hl2, unlkR_nil, newD]
    have hm := merge_new (fun _ => Vl.fz (.bl true)) halls [] (by simpa using nd)
    simp only [List.map_nil, List.nil_append] at hm
    rw [hm]
    have := frz_dct (h := hp S E) (kvs := halls.map fun w => (PV.str w, PV.bl true)) rfl
    rw [List.map_map] at this
    simp only [Function.comp_def] at this
    rw [this]
    rfl
  have c2 : (gx (n + 1)).ts (.cmp 1 (.len (.dc [1] (.nm 1) (.val (.var 0)) .yes (.var 1) (.cst (.bl true)))) (.len (.var 0))) [some (.fz (.lst (stxs halls))), none] (hp S E) = .ok false (hp S (E ++ [none])) := by
    refine t_cmp0 (x_len hd rfl) (x_len (x_var rfl) lenH_lst) ?_
    rw [cmp_ne_int, strs_len, List.length_map]
    simp
  exact run_nx (h1 := hp S (E ++ [none])) rfl (bb_cons (s_iteF c1 bb_nil) (bb_cons (s_iteF c2 bb_nil) bb_nil)) (cut_hp (by rw [hp_len]; omega) hE)
end HV.k04

end

section
/-! L_k04g: nets are made. Core Lean. -/
namespace HV
theorem t_chn0 {G : Gx} {env : Env} {h h1 h2 h3 : Hm} {a b c : Ex} {k j : Nat} {d1 d2 d3 : PV} {t : Bool} (ha : G.ex a env h = .ok (.fz d1) h1) (hb : G.ex b env h1 = .ok (.fz d2) h2) (e : cmpV k d1 d2 = some (.bl true)) (hc : G.ex c env h2 = .ok (.fz d3) h3) (e2 : cmpV j d2 d3 = some (.bl t)) : G.ts (.chn k j a b c) env h = .ok t h3 := by
  simp only [Gx.ts, cmpT, chainV, ha, hb, hc, rb_ok, opA_fz, e, e2, liftF_some, blR_bl]
theorem x_new0 {G : Gx} {env : Env} {h h1 h2 : Hm} {x c f : Nat} {as : Es} {vs : List Vl} (ha : G.es as env h = .ok vs h1) (e : G.φ f (.rf h1.length :: vs) (h1 ++ [some (.ins c [])]) = .ok (.fz .non) h2) : G.ex (.new x c f as) env h = .ok (.rf h1.length) h2 := by
  simp only [Gx.ex, newE, ha, rb_ok, e]
theorem fld_ok {isF : Nat → Nat → Bool} {f n c : Nat} {v : Vl} {h : Hm} {fs : List (Nat × Vl)} (e : h[n]? = some (some (.ins c fs))) (e1 : isF c f = true) (e2 : fs.length < 1000) : fldH isF f (.rf n) v h = .ok (.fz .non) (h.set n (some (.ins c (putP f v fs)))) := by
  simp only [fldH, e, if_pos (And.intro e1 e2)]
end HV
namespace HV.k04
open HV
variable {S : Sm} {B : Int} {E : Hm} {h : Hm}
/-- what makes a net -/
structure NetOk (ax : Nat) (halls : List Txt) (ts : List Tie) : Prop where
  axl : ax ≤ 4
  h0 : halls ≠ []
  hn : halls.Nodup
  hg : ∀ w ∈ halls, nameB w = true
  tn : (ts.map Tie.nm).Nodup
  tl : ts.length ≤ 100
  tg : ∀ t ∈ ts, nameB t.nm = true ∧ t.s ∈ halls ∧ t.e ∈ halls ∧ t.st.length = ax
def bodyT : Sts := (.cons (.ite (.not (.val (.call 6 (.cons (.var 6) (.cons (.var 0) (.cons (.var 1) (.cons (.bin 0 (.var 3) (.lc [7] (.nm 7) (.val (.var 4)) .yes (.idx (.var 7) (.cst (.int 0))))) .nil))))))) (.cons .bad .nil) .nil) (.cons (.exp (.app (.var 4) (.tup (.cons (.idx (.var 6) (.cst (.int 0))) (.cons (.idx (.var 6) (.cst (.int 1))) (.cons (.idx (.var 6) (.cst (.int 2))) (.cons (.s1 1 (.idx (.var 6) (.cst (.int 3)))) .nil))))))) .nil))
def envT (ax : Nat) (halls : List Txt) (ts : List Tie) (L : Nat) (x5 x6 : Option Vl) : Env := [some (.fz (.int (ax : Int))), some (.fz (.lst (stxs halls))), some (.fz (.lst (ts.map row))), some (.fz (.lst [])), some (.rf L), x5, x6, none]
theorem checked_ties (n : Nat) {ax : Nat} {halls : List Txt} {ts : List Tie} (N : NetOk ax halls ts) (hE : noRef E) :
    run 2000 (n + 4) 7 [.fz (.int (ax : Int)), .fz (.lst (stxs halls)), .fz (.lst (ts.map row)), .fz (.lst [])] (hp S E) = .ok (.fz (.lst (ts.map row))) (hp S E) := by
  rw [run_at (n + 3) 7 r7 rfl]
  have hlen : (fzs (enumP (ts.map row))).length = ts.length := by simp [fzs, enumP]
  obtain ⟨e2, h', q1, x5, x6, rfl, rfl⟩ := forN_inv (g := (gx (n + 3)).tg (.tp (.cons (.nm 5) (.cons (.nm 6) .nil)))) (b := (gx (n + 3)).sts bodyT)
    (fun k env h => ∃ x5 x6, env = envT ax halls ts (E.length + 2) x5 x6 ∧ h = hp S (E ++ [some (MO.lst (fzs ((ts.take k).map row)))]))
    (fzs (enumP (ts.map row))) 0 (envT ax halls ts (E.length + 2) none none) (hp S (E ++ [some (MO.lst [])])) ⟨none, none, rfl, by simp [fzs]⟩ (fun j d hd env h hI => by
      obtain ⟨x5, x6, rfl, rfl⟩ := hI
      rw [Nat.zero_add]
      have hj : j < ts.length := by
        have := (List.getElem?_eq_some_iff.mp hd).1
        rw [hlen] at this
        exact this
      have hd2 : d = .fz (.tup [.int (j : Int), row ts[j]]) := by
        have : (fzs (enumP (ts.map row)))[j]? = some (.fz (.tup [.int (j : Int), row ts[j]])) := by
          simp [fzs, enumP, List.getElem?_map, List.getElem?_zipIdx, hj]
        rw [this] at hd
        exact (Option.some.inj hd).symm
      subst hd2
      refine ⟨envT ax halls ts (E.length + 2) (some (.fz (.int (j : Int)))) (some (.fz (row ts[j]))), rfl, _, _, ?_, some (.fz (.int (j : Int))), some (.fz (row ts[j])), rfl, rfl⟩
      have mem : ts[j] ∈ ts := List.getElem_mem hj
      obtain ⟨g1, g2, g3, g4⟩ := N.tg _ mem
      have hnew : ts[j].nm ∉ (ts.take j).map Tie.nm := fun z => by
        have nd := N.tn
        have e : ts.map Tie.nm = (ts.take j).map Tie.nm ++ ts[j].nm :: (ts.drop (j + 1)).map Tie.nm := by
          rw [← List.map_cons, ← List.map_append, List.getElem_cons_drop, List.take_append_drop]
        rw [e] at nd
        exact (List.nodup_append.mp nd).2.2 _ z _ (by simp) rfl
      have elc : (gx (n + 3)).ex (.lc [7] (.nm 7) (.val (.var 4)) .yes (.idx (.var 7) (.cst (.int 0)))) (envT ax halls ts (E.length + 2) (some (.fz (.int (j : Int)))) (some (.fz (row ts[j])))) (hp S (E ++ [some (MO.lst (fzs ((ts.take j).map row)))])) = .ok (.fz (.lst (stxs ((ts.take j).map Tie.nm)))) (hp S (E ++ [some (MO.lst (fzs ((ts.take j).map row)))])) := by
        have hl : lcN ((gx (n + 3)).tg (.nm 7)) ((gx (n + 3)).ts .yes) (frzR ((gx (n + 3)).ex (.idx (.var 7) (.cst (.int 0))))) (wipeE [7] (envT ax halls ts (E.length + 2) (some (.fz (.int (j : Int)))) (some (.fz (row ts[j]))))) (fzs ((ts.take j).map row)) (hp S (E ++ [none])) = .ok ((ts.take j).map fun t => PV.str t.nm) (hp S (E ++ [none])) :=
          lcN_map row _ (fun t => [some (.fz (.int (ax : Int))), some (.fz (.lst (stxs halls))), some (.fz (.lst (ts.map row))), some (.fz (.lst [])), some (.rf (E.length + 2)), some (.fz (.int (j : Int))), some (.fz (row ts[j])), some (.fz (row t))]) (ts.take j) fun t ht => ⟨rfl, rfl, frzR_ok (x_idx (x_var rfl) (x_cst rfl) rfl)⟩
        have := x_lcL (G := gx (n + 3)) (env := envT ax halls ts (E.length + 2) (some (.fz (.int (j : Int)))) (some (.fz (row ts[j])))) (h := hp S (E ++ [some (MO.lst (fzs ((ts.take j).map row)))])) (own := [7]) (tg := .nm 7) (t := .yes) (a := .idx (.var 7) (.cst (.int 0))) (sr_rf (a := .var 4) (x_var rfl) (hp_at rfl)) (by rw [hp_set rfl]; exact hl)
        rw [hp_set rfl] at this
        rw [this]
        simp [stxs, List.map_map, Function.comp_def]
      have etie : (gx (n + 3)).ts (.not (.val (.call 6 (.cons (.var 6) (.cons (.var 0) (.cons (.var 1) (.cons (.bin 0 (.var 3) (.lc [7] (.nm 7) (.val (.var 4)) .yes (.idx (.var 7) (.cst (.int 0))))) .nil))))))) (envT ax halls ts (E.length + 2) (some (.fz (.int (j : Int)))) (some (.fz (row ts[j])))) (hp S (E ++ [some (MO.lst (fzs ((ts.take j).map row)))])) = .ok false (hp S (E ++ [some (MO.lst (fzs ((ts.take j).map row)))])) := by
        refine t_not0 (t := true) (t_val0 (x_call (es_cons0 (x_var rfl) (es_cons0 (x_var rfl) (es_cons0 (x_var rfl) (es_cons0 (x_bin (d3 := .lst (stxs ((ts.take j).map Tie.nm))) (x_var rfl) elc ?_) es_nil0)))) (is_tie n g1 hnew g2 g3 N.hg g4)) rfl)
        have hle : ((stxs ((ts.take j).map Tie.nm)).length) ≤ LIM := by
          rw [strs_len, List.length_map, List.length_take]
          have := N.tl
          show _ ≤ 16777216
          omega
        simp only [binV, addV, List.length_nil, Nat.zero_add, if_pos hle, List.nil_append]
      have htk : (ts.take j).length < LIM := by
        rw [List.length_take]
        have := N.tl
        show _ < 16777216
        omega
      refine bb_cons (s_iteF etie bb_nil) (bb_cons (s_exp0 (x_app (n := E.length + 2) (xs := fzs ((ts.take j).map row)) (y := .fz (row ts[j])) (h2 := hp S (E ++ [some (MO.lst (fzs ((ts.take j).map row)))])) (x_var rfl) (hp_at rfl) (x_tup (ds := [.str ts[j].nm, .str ts[j].s, .str ts[j].e, .tup (iv ts[j].st)]) (es_cons0 (x_idx (x_var rfl) (x_cst rfl) rfl) (es_cons0 (x_idx (x_var rfl) (x_cst rfl) rfl) (es_cons0 (x_idx (x_var rfl) (x_cst rfl) rfl) (es_cons0 (x_s1 (x_idx (x_var rfl) (x_cst rfl) rfl) rfl) es_nil0)))) rfl (by simp [LIM])) (hp_at rfl) (by rw [fzs_len, List.length_map]; exact htk))) ?_)
      rw [hp_set rfl, show fzs ((ts.take j).map row) ++ [.fz (row ts[j])] = fzs ((ts.take (j + 1)).map row) by rw [List.take_succ_eq_append_getElem hj]; simp only [fzs, List.map_append, List.map_cons, List.map_nil]]
      rfl)
  have hts : ts.take (0 + (fzs (enumP (ts.map row))).length) = ts := by rw [hlen, Nat.zero_add, List.take_length]
  rw [hts] at q1
  refine run_rt (h1 := hp S (E ++ [none])) rfl (bb_cons (s_iteF (t_not0 (t := true) (t_val0 (x_call (es_cons0 (x_var rfl) es_nil0) (is_list (n + 2) (d := .lst (ts.map row)) rfl)) rfl)) bb_nil) (bb_cons (e1 := envT ax halls ts (E.length + 2) none none) (h1 := hp S (E ++ [some (MO.lst [])])) (s_set0 (x_nlst es_nil0 (by decide)) (by simp [r7])) (bb_cons (s_for0 (sr_enm (d := .lst (ts.map row)) (x_var rfl) rfl) q1) (bb_ret (s_ret0 (x_frz (x_var rfl) ?_)))))) (cut_hp (by rw [hp_len]; omega) hE) rfl
  have := frz_fzsL (hp_at (S := S) (E := E) (F := []) (o := some (MO.lst (fzs (ts.map row)))) rfl)
  rw [hp_set rfl] at this
  exact this
/-! ### the net -/
def netV (ax : Nat) (halls : List Txt) (ts : List Tie) : PV := .obj 0 [(1635280243, .int (ax : Int)), (540405396817959671653747, .lst (stxs halls)), (8388347241570465651, .lst (ts.map row))]
def insV (fs : List (Nat × PV)) : Option MO := some (.ins 0 (fs.map fun p => (p.1, .fz p.2)))
theorem insV_ref (fs : List (Nat × PV)) : noRef [insV fs] := by
  unfold noRef insV
  simp [refsO, refsV]
theorem init_ok (n : Nat) {ax : Nat} {halls : List Txt} {ts : List Tie} (N : NetOk ax halls ts) (hE : noRef E) :
    run 2000 (n + 5) 8 [.rf (E.length + 2), .fz (.int (ax : Int)), .fz (.lst (stxs halls)), .fz (.lst (ts.map row))] (hp S (E ++ [insV []])) = .ok (.fz .non) (hp S (E ++ [insV [(1635280243, .int (ax : Int)), (540405396817959671653747, .lst (stxs halls)), (8388347241570465651, .lst (ts.map row))]])) := by
  rw [run_at (n + 4) 8 r8 rfl]
  have c1 : (gx (n + 4)).ts (.or (.not (.val (.call 0 (.cons (.var 1) .nil)))) (.not (.chn 3 3 (.cst (.int 0)) (.var 1) (.glo 1426115298795793696083)))) [some (.rf (E.length + 2)), some (.fz (.int (ax : Int))), some (.fz (.lst (stxs halls))), some (.fz (.lst (ts.map row)))] (hp S (E ++ [insV []])) = .ok false (hp S (E ++ [insV []])) := by
    refine t_orF (t_not0 (t := true) (t_val0 (x_call (es_cons0 (x_var rfl) es_nil0) (is_int (n + 3) (ax : Int))) rfl)) (t_not0 (t := true) (t_chn0 (d1 := .int 0) (d2 := .int (ax : Int)) (d3 := .int 4) (x_cst rfl) (x_var rfl) ?_ (x_glo rfl rfl) ?_))
    · simp only [cmpV, ltI]
      rw [decide_eq_true (by omega)]
    · simp only [cmpV, ltI]
      rw [decide_eq_true (by have := N.axl; omega)]
  have l1 : LIM = 16777216 := rfl
  refine run_nx rfl (bb_cons (s_iteF c1 bb_nil) (bb_cons (s_exp0 (x_call (es_cons0 (x_var rfl) es_nil0) (check_rooms (n + 2) N.h0 N.hn N.hg (noRef_app hE (insV_ref []))))) (bb_cons (s_fld0 (x_var rfl) (x_var rfl) (fld_ok (c := 0) (fs := []) (hp_at rfl) rfl (by decide))) (bb_cons (h1 := hp S (E ++ [insV [(1635280243, .int (ax : Int)), (540405396817959671653747, .lst (stxs halls))]])) (s_fld0 (v := .fz .non) (x_s1 (d1 := .lst (stxs halls)) (x_var rfl) rfl) (x_var rfl) ?_) (bb_cons (h1 := hp S (E ++ [insV [(1635280243, .int (ax : Int)), (540405396817959671653747, .lst (stxs halls)), (8388347241570465651, .lst (ts.map row))]])) (s_fld0 (v := .fz .non) (x_call (es_cons0 (x_var rfl) (es_cons0 (x_var rfl) (es_cons0 (x_var rfl) (es_cons0 (x_lst (ds := []) es_nil0 rfl (by decide)) es_nil0)))) (checked_ties n N (noRef_app hE (insV_ref _)))) (x_var rfl) ?_) bb_nil))))) (by unfold cutH; rfl)
  · rw [hp_set rfl]
    refine (fld_ok (c := 0) (fs := [(1635280243, .fz (.int (ax : Int)))]) (hp_at rfl) rfl (by simp)).trans ?_
    rw [hp_set rfl]
    rfl
  · refine (fld_ok (c := 0) (fs := [(1635280243, .fz (.int (ax : Int))), (540405396817959671653747, .fz (.lst (stxs halls)))]) (hp_at rfl) rfl (by simp)).trans ?_
    rw [hp_set rfl]
    rfl
theorem made_ok (n : Nat) {ax : Nat} {halls : List Txt} {ts : List Tie} (N : NetOk ax halls ts) (hE : noRef E) :
    run 2000 (n + 6) 24 [.fz (.tup [.int (ax : Int), .lst (stxs halls), .lst (ts.map row)])] (hp S E) = .ok (.fz (netV ax halls ts)) (hp S E) := by
  rw [run_at (n + 5) 24 r24 rfl]
  refine run_rt (h1 := hp S (E ++ [none])) rfl (bb_ret (s_ret0 (x_frz (x_new0 (es_cons0 (x_idx (x_var rfl) (x_cst rfl) rfl) (es_cons0 (x_idx (x_var rfl) (x_cst rfl) rfl) (es_cons0 (x_idx (x_var rfl) (x_cst rfl) rfl) es_nil0))) (init_ok n N hE)) ?_))) (cut_hp (by rw [hp_len]; omega) hE) rfl
  have e1 := hp_at (S := S) (E := E) (F := []) (o := insV [(1635280243, .int (ax : Int)), (540405396817959671653747, .lst (stxs halls)), (8388347241570465651, .lst (ts.map row))]) (n := (hp S E).length) rfl
  have e2 := hp_set (S := S) (E := E) (F := []) (o := insV [(1635280243, .int (ax : Int)), (540405396817959671653747, .lst (stxs halls)), (8388347241570465651, .lst (ts.map row))]) (o' := none) (n := (hp S E).length) rfl
  unfold insV at e1 e2 ⊢
  simp only [frz, frzV, e1, e2]
  rfl
end HV.k04

end

section
/-! L_k04h: ways looked at by the program. Core Lean. -/
namespace HV
theorem x_slc0 {G : Gx} {env : Env} {h h1 : Hm} {a : Ex} {d d1 : PV} {lo hi : Oe} {l u : Option Int} (ha : G.ex a env h = .ok (.fz d) h1) (hl : bdE (G.oe lo) env h1 = .ok l h1) (hu : bdE (G.oe hi) env h1 = .ok u h1) (e : slcV d l u = some d1) : G.ex (.slc a lo hi) env h = .ok (.fz d1) h1 := by
  simp only [Gx.ex, slcE, ha, hl, hu, rb_ok, shal, e, liftF_some]
end HV
namespace HV.k04
open HV
variable {S : Sm} {B : Int} {E : Hm} {h : Hm}
theorem att_rows (n : Nat) (ax : Nat) (halls : List Txt) (ts : List Tie) : attV (gx n).isF 8388347241570465651 (netV ax halls ts) = some (.lst (ts.map row)) := rfl
theorem att_axes (n : Nat) (ax : Nat) (halls : List Txt) (ts : List Tie) : attV (gx n).isF 1635280243 (netV ax halls ts) = some (.int (ax : Int)) := rfl
def names (ts : List Tie) : List Txt := ts.map Tie.nm
def inNet (ts : List Tie) : PV → Bool
  | .str w => decide (w ∈ names ts)
  | _ => false
theorem rows_names (n : Nat) (ax : Nat) (halls : List Txt) (ts : List Tie) (x1 : Option Vl) : (gx n).ex (.lc [2] (.nm 2) (.val (.att (.var 0) 8388347241570465651)) .yes (.idx (.var 2) (.cst (.int 0)))) [some (.fz (netV ax halls ts)), x1, none] h = .ok (.fz (.lst (stxs (names ts)))) h := by
  refine x_lc (ys := stxs (names ts)) (sr_fz (x_att (x_var rfl) (att_rows n ax halls ts)) rfl) ?_
  rw [show stxs (names ts) = ts.map fun t => PV.str t.nm by simp [stxs, names, List.map_map, Function.comp_def]]
  exact lcN_map row _ (fun t => [some (.fz (netV ax halls ts)), x1, some (.fz (row t))]) ts fun t ht => ⟨rfl, rfl, frzR_ok (x_idx (x_var rfl) (x_cst rfl) rfl)⟩
theorem isi_str {d : PV} (hd : plainK d) : isiV d (.ty 2) = some (.bl (match d with | .str _ => true | _ => false)) := by
  cases d <;> first | rfl | (simp [plainK, kdV] at hd)
theorem contains (n : Nat) (ax : Nat) (halls : List Txt) (ts : List Tie) {d : PV} (hd : plainK d) : run 2000 (n + 1) 13 [.fz (netV ax halls ts), .fz d] h = .ok (.fz (.bl (inNet ts d))) h := by
  rw [run_at n 13 r13 rfl]
  refine run_rt rfl (bb_ret (s_ret0 (x_and (x_isi (x_var rfl) (x_glo (g_str n) rfl) (isi_str hd)) rfl ?_ ?_))) (cut_same rfl) rfl
  · intro z
    match d, hd, z with
    | .str w, _, _ => exact x_cmp (x_var rfl) (rows_names n ax halls ts _) (in_strs _ _ _ _ _)
  · intro z
    match d, hd, z with
    | .non, _, _ => exact ⟨rfl, rfl⟩
    | .bl _, _, _ => exact ⟨rfl, rfl⟩
    | .int _, _, _ => exact ⟨rfl, rfl⟩
    | .lst _, _, _ => exact ⟨rfl, rfl⟩
    | .tup _, _, _ => exact ⟨rfl, rfl⟩
    | .dct _, _, _ => exact ⟨rfl, rfl⟩
    | .obj _ _, _, _ => exact ⟨rfl, rfl⟩
def fd (ts : List Tie) (w : Txt) : Option Tie := ts.find? fun t => t.nm == w
theorem eq_strs (sp : Nat → Nat → Option Nat) (φ : Nat → List Vl → Hm → R Vl) (s t : Txt) (h : Hm) : cmpG sp φ 0 (.fz (.str s)) (.fz (.str t)) h = .ok (.fz (.bl (s == t))) h := by
  rw [cmpG_fz _ _ _ _ _ _ (fun _ _ z => by cases z) (fun _ _ z => by cases z)]
  simp [cmpV, eqE, eqD, dataP, eqvP, blO, liftF]
theorem tie_ok (n : Nat) (ax : Nat) (halls : List Txt) (ts : List Tie) {w : Txt} {t : Tie} (hw : fd ts w = some t) : run 2000 (n + 1) 11 [.fz (netV ax halls ts), .fz (.str w)] h = .ok (.fz (row t)) h := by
  rw [run_at n 11 r11 rfl]
  have lp : ∀ (us : List Tie) (x2 : Option Vl), fd us w = some t → forN ((gx n).tg (.nm 2)) ((gx n).sts (.cons (.ite (.and (.val (.isi (.var 1) (.glo 7566450))) (.cmp 0 (.idx (.var 2) (.cst (.int 0))) (.var 1))) (.cons (.ret (.var 2)) .nil) .nil) .nil)) (fzs (us.map row)) [some (.fz (netV ax halls ts)), some (.fz (.str w)), x2] h = .rt (.fz (row t)) h := by
    intro us
    induction us with
    | nil => intro x2 hw; cases hw
    | cons u us ih =>
      intro x2 hw
      have t1 : (gx n).ts (.val (.isi (.var 1) (.glo 7566450))) [some (.fz (netV ax halls ts)), some (.fz (.str w)), some (.fz (row u))] h = .ok true h := t_val0 (x_isi (x_var rfl) (x_glo (g_str n) rfl) rfl) rfl
      have t2 : (gx n).ts (.cmp 0 (.idx (.var 2) (.cst (.int 0))) (.var 1)) [some (.fz (netV ax halls ts)), some (.fz (.str w)), some (.fz (row u))] h = .ok (u.nm == w) h := t_cmp0 (x_idx (x_var rfl) (x_cst rfl) rfl) (x_var rfl) (eq_strs _ _ _ _ _)
      have hw2 : (if (u.nm == w) = true then some u else fd us w) = some t := by
        rw [← hw]
        unfold fd
        rw [List.find?_cons]
        cases (u.nm == w) <;> rfl
      cases q : (u.nm == w) with
      | true =>
        rw [q] at t2 hw2
        have hu : t = u := by simpa using hw2.symm
        rw [hu]
        show forN _ _ (.fz (row u) :: fzs (us.map row)) _ h = _
        have b1 : (gx n).sts (.cons (.ite (.and (.val (.isi (.var 1) (.glo 7566450))) (.cmp 0 (.idx (.var 2) (.cst (.int 0))) (.var 1))) (.cons (.ret (.var 2)) .nil) .nil) .nil) [some (.fz (netV ax halls ts)), some (.fz (.str w)), some (.fz (row u))] h = .rt (.fz (row u)) h := bb_ret (s_iteT (t_andT t1 t2) (bb_ret (s_ret0 (x_var rfl))))
        have g1 : (gx n).tg (.nm 2) (.fz (row u)) [some (.fz (netV ax halls ts)), some (.fz (.str w)), x2] h = some [some (.fz (netV ax halls ts)), some (.fz (.str w)), some (.fz (row u))] := rfl
        simp only [forN, g1, b1]
      | false =>
        rw [q] at t2 hw2
        exact forN_cons rfl (bb_cons (s_iteF (t_andT t1 t2) bb_nil) bb_nil) (ih _ (by simpa using hw2))
  exact run_rt rfl (bb_ret (s_for0 (sr_fz (x_att (x_var rfl) (att_rows n ax halls ts)) rfl) (lp ts none hw))) (cut_same rfl) rfl
def sumZ (a b : List Int) : List Int := List.zipWith (· + ·) a b
theorem zipP_iv : ∀ a b : List Int, zipP (iv a) (iv b) = (a.zip b).map fun p => .tup [.int p.1, .int p.2]
  | [], _ => by simp [zipP, iv]
  | _ :: _, [] => by simp [zipP, iv]
  | x :: a, y :: b => by
    have := zipP_iv a b
    simp only [zipP, iv, List.map_cons, List.zip_cons_cons] at this ⊢
    rw [this]
theorem sum_map : ∀ a b : List Int, iv (sumZ a b) = (a.zip b).map fun p => PV.int (p.1 + p.2)
  | [], _ => rfl
  | _ :: _, [] => rfl
  | x :: a, y :: b => by
    have := sum_map a b
    simp only [iv, sumZ, List.zipWith_cons_cons, List.map_cons, List.zip_cons_cons] at this ⊢
    rw [this]
theorem summed (n : Nat) (a b : List Int) : run 2000 (n + 1) 4 [.fz (.tup (iv a)), .fz (.tup (iv b))] h = .ok (.fz (.tup (iv (sumZ a b)))) h := by
  rw [run_at n 4 r4 rfl]
  refine run_rt rfl (bb_ret (s_ret0 (x_s1 (x_lc (ys := iv (sumZ a b)) (sr_zip (x_var rfl) (x_var rfl) rfl rfl) ?_) rfl))) (cut_same rfl) rfl
  rw [zipP_iv, sum_map a b]
  exact lcN_map _ _ (fun p => [some (.fz (.tup (iv a))), some (.fz (.tup (iv b))), some (.fz (.int p.1)), some (.fz (.int p.2))]) (a.zip b) fun p hp => ⟨rfl, rfl, frzR_ok (x_bin (x_var rfl) (x_var rfl) rfl)⟩
/-! ### is_way -/
theorem own_in (n : Nat) (ax : Nat) (halls : List Txt) (ts : List Tie) {d : PV} (hd : plainK d) : cmpG (gx (n + 1)).spc (gx (n + 1)).φ 6 (.fz d) (.fz (netV ax halls ts)) h = .ok (.fz (.bl (inNet ts d))) h := by
  have e1 : (gx (n + 1)).φ 13 [.fz (netV ax halls ts), .fz d] h = .ok (.fz (.bl (inNet ts d))) h := contains n ax halls ts hd
  have e2 : clsOfV h (.fz (netV ax halls ts)) = some 0 := rfl
  have e3 : spc 6 0 = some 13 := rfl
  have e1 : run 2000 (n + 1) 13 [.fz (netV ax halls ts), .fz d] h = .ok (.fz (.bl (inNet ts d))) h := e1
  unfold cmpG
  rw [if_pos (by decide), e2]
  simp only [e3, e1, ownB, rb_ok]
  simp
def closed : List Tie → Bool
  | rs => (rs.zip (rs.drop 1 ++ rs.take 1)).all fun p => p.1.e == p.2.s
def total (ax : Nat) (rs : List Tie) : List Int := rs.foldl (fun acc t => sumZ acc t.st) (List.replicate ax 0)
def isWay (ax : Nat) (rs : List Tie) : Bool := closed rs && !(total ax rs).any (· != 0)
theorem any_iv (l : List Int) : anyV (.tup (iv l)) = some (.bl (l.any (· != 0))) := by
  have h1 : dataPs 0 (iv l) = true := data_ints 0 l
  have h2 : (iv l).any trA = l.any (· != 0) := by simp [iv, List.any_map, Function.comp_def, trA]
  simp only [anyV, h1, if_true, h2]
theorem any_ivL (l : List Int) : anyV (.lst (iv l)) = some (.bl (l.any (· != 0))) := by
  have h1 : dataPs 0 (iv l) = true := data_ints 0 l
  have h2 : (iv l).any trA = l.any (· != 0) := by simp [iv, List.any_map, Function.comp_def, trA]
  simp only [anyV, h1, if_true, h2]
theorem zipP_map {ι : Type} (mk : ι → PV) : ∀ a b : List ι, zipP (a.map mk) (b.map mk) = (a.zip b).map fun p => .tup [mk p.1, mk p.2]
  | [], _ => by simp [zipP]
  | _ :: _, [] => by simp [zipP]
  | x :: a, y :: b => by
    have := zipP_map mk a b
    simp only [zipP, List.map_cons, List.zip_cons_cons] at this ⊢
    rw [this]
theorem rep0 (ax : Nat) (hax : ax ≤ 4) : mulV (.tup [.int 0]) (.int (ax : Int)) = some (.tup (iv (List.replicate ax 0))) := by
  match ax, hax with
  | 0, _ => rfl
  | 1, _ => rfl
  | 2, _ => rfl
  | 3, _ => rfl
  | 4, _ => rfl
theorem cut1 {α : Type} (xs : List α) : cutP xs (some 1) none = xs.drop 1 := by
  unfold cutP sIxP
  cases xs with
  | nil => rfl
  | cons a l => simp
theorem cut0 {α : Type} (xs : List α) : cutP xs none (some 1) = xs.take 1 := by
  unfold cutP sIxP
  cases xs with
  | nil => rfl
  | cons a l => simp
/-- a list or a tuple of things -/
def sq (b : Bool) (ds : List PV) : PV := if b then .lst ds else .tup ds
theorem sq_iter (b : Bool) (ds : List PV) : iterV (sq b ds) = some ds := by cases b <;> rfl
theorem sq_len (b : Bool) (ds : List PV) : lenH (.fz (sq b ds)) h = .ok (.fz (.int ds.length)) h := by cases b <;> rfl
theorem sq_lst (b : Bool) (ds : List PV) : isLst (sq b ds) = true := by cases b <;> rfl
theorem sq_k (b : Bool) (ds : List PV) : plainK (sq b ds) := by cases b <;> rfl
def envW (net : PV) (th : PV) (x2 x3 x4 : Option Vl) : Env := [some (.fz net), some (.fz th), x2, x3, x4, none, none]
theorem is_way (n : Nat) {ax : Nat} (hax : ax ≤ 4) (halls : List Txt) (ts : List Tie) (b : Bool) {ws : List Txt} {rs : List Tie} (h0 : ws ≠ []) (hl : ws.length ≤ 1000) (hr : ws.map (fd ts) = rs.map some) :
    run 2000 (n + 2) 21 [.fz (netV ax halls ts), .fz (sq b (stxs ws))] h = .ok (.fz (.bl (isWay ax rs))) h := by
  rw [run_at (n + 1) 21 r21 rfl]
  have hlen : rs.length = ws.length := by
    have := congrArg List.length hr
    simpa using this.symm
  have hp0 : 0 < ws.length := List.length_pos_iff.mpr h0
  have hin : ∀ w ∈ ws, ∃ t, fd ts w = some t := fun w hw => by
    have : fd ts w ∈ rs.map some := by rw [← hr]; exact List.mem_map_of_mem hw
    obtain ⟨t, _, e⟩ := List.mem_map.mp this
    exact ⟨t, e.symm⟩
  have hmem : ∀ w ∈ ws, inNet ts (.str w) = true := fun w hw => by
    obtain ⟨t, e⟩ := hin w hw
    have h1 := List.mem_of_find?_eq_some e
    have h2 := List.find?_some e
    have : t.nm = w := by simpa using h2
    show decide (w ∈ ts.map Tie.nm) = true
    exact decide_eq_true (List.mem_map.mpr ⟨t, h1, this⟩)
  -- all names are known
  have l1 : lcN ((gx (n + 1)).tg (.nm 5)) ((gx (n + 1)).ts .yes) (frzR ((gx (n + 1)).ex (.cmp 6 (.var 5) (.var 0)))) (wipeE [5] (envW (netV ax halls ts) (sq b (stxs ws)) none none none)) (fzs (stxs ws)) h = .ok (ws.map fun _ => PV.bl true) h :=
    lcN_map PV.str _ (fun w => [some (.fz (netV ax halls ts)), some (.fz (sq b (stxs ws))), none, none, none, some (.fz (.str w)), none]) ws fun w hw => ⟨rfl, rfl, frzR_ok (x_cmp (x_var rfl) (x_var rfl) (by rw [own_in n ax halls ts (d := .str w) rfl, hmem w hw]))⟩
  have c1 : (gx (n + 1)).ts (.or (.not (.val (.call 1 (.cons (.var 1) .nil)))) (.or (.cmp 0 (.len (.var 1)) (.cst (.int 0))) (.not (.val (.b1 1 (.lc [5] (.nm 5) (.val (.var 1)) .yes (.cmp 6 (.var 5) (.var 0)))))))) (envW (netV ax halls ts) (sq b (stxs ws)) none none none) h = .ok false h := by
    refine t_orF (t_not0 (t := true) (t_val0 (x_call (es_cons0 (x_var rfl) es_nil0) (is_list n (sq_k b (stxs ws)))) ?_)) (t_orF (t_cmp0 (x_len (x_var rfl) (sq_len b _)) (x_cst rfl) ?_) (t_not0 (t := true) (t_val0 (x_b1 (x_lc (sr_fz (x_var rfl) (sq_iter b _)) l1) (all_true ws)) rfl)))
    · rw [sq_lst]; rfl
    · rw [cmp_eq_int, strs_len, decide_eq_false (by omega)]
  -- their rows
  have l2 : ∀ (us : List Txt) (qs : List Tie), us.map (fd ts) = qs.map some → lcN ((gx (n + 1)).tg (.nm 5)) ((gx (n + 1)).ts .yes) (frzR ((gx (n + 1)).ex (.meth 0 7629157 11 (.var 0) (.cons (.var 5) .nil)))) (wipeE [5] (envW (netV ax halls ts) (sq b (stxs ws)) none none none)) (fzs (stxs us)) h = .ok (qs.map row) h := by
    intro us
    induction us with
    | nil =>
      intro qs hq
      cases qs with
      | nil => rfl
      | cons _ _ => cases hq
    | cons u us ih =>
      intro qs hq
      cases qs with
      | nil => cases hq
      | cons q qs =>
        rw [List.map_cons, List.map_cons] at hq
        injection hq with q1 q2
        have em : (gx (n + 1)).ex (.meth 0 7629157 11 (.var 0) (.cons (.var 5) .nil)) [some (.fz (netV ax halls ts)), some (.fz (sq b (stxs ws))), none, none, none, some (.fz (.str u)), none] h = .ok (.fz (row q)) h := by
          have e1 : (gx (n + 1)).ex (.var 0) [some (.fz (netV ax halls ts)), some (.fz (sq b (stxs ws))), none, none, none, some (.fz (.str u)), none] h = .ok (.fz (netV ax halls ts)) h := x_var rfl
          have e2 : (gx (n + 1)).es (.cons (.var 5) .nil) [some (.fz (netV ax halls ts)), some (.fz (sq b (stxs ws))), none, none, none, some (.fz (.str u)), none] h = .ok [.fz (.str u)] h := es_cons0 (x_var rfl) es_nil0
          have e3 : run 2000 (n + 1) 11 [.fz (netV ax halls ts), .fz (.str u)] h = .ok (.fz (row q)) h := tie_ok n ax halls ts q1
          have e4 : isInst h 0 7629157 (.fz (netV ax halls ts)) = true := by simp [isInst, netV]
          show methE 0 7629157 ((gx (n + 1)).φ 11) ((gx (n + 1)).ex (.var 0)) ((gx (n + 1)).es (.cons (.var 5) .nil)) _ h = _
          simp only [methE, e1, rb_ok, e4, if_true, e2, e3]
        show lcN _ _ _ _ (.fz (.str u) :: fzs (stxs us)) h = _
        have g1 : (gx (n + 1)).tg (.nm 5) (.fz (.str u)) (wipeE [5] (envW (netV ax halls ts) (sq b (stxs ws)) none none none)) h = some [some (.fz (netV ax halls ts)), some (.fz (sq b (stxs ws))), none, none, none, some (.fz (.str u)), none] := rfl
        have c2 : (gx (n + 1)).ts .yes [some (.fz (netV ax halls ts)), some (.fz (sq b (stxs ws))), none, none, none, some (.fz (.str u)), none] h = .ok true h := rfl
        simp only [lcN, g1, c2, sure_ok, rb_ok, if_true, frzR_ok em, ih qs q2, List.map_cons]
  -- closed
  have hne : rs ≠ [] := fun z => by subst z; simp at hlen; omega
  have eadd : (gx (n + 1)).ex (.bin 0 (.slc (.var 2) (.one (.cst (.int 1))) .non) (.slc (.var 2) .non (.one (.cst (.int 1))))) (envW (netV ax halls ts) (sq b (stxs ws)) (some (.fz (.lst (rs.map row)))) none none) h = .ok (.fz (.lst ((rs.drop 1 ++ rs.take 1).map row))) h := by
    refine x_bin (x_slc0 (l := some 1) (u := none) (x_var rfl) rfl rfl rfl) (x_slc0 (l := none) (u := some 1) (x_var rfl) rfl rfl rfl) ?_
    rw [cut1, cut0]
    simp only [binV, addV]
    rw [if_pos, List.map_append, List.map_drop, List.map_take]
    simp only [List.length_drop, List.length_take, List.length_map]
    show _ ≤ 16777216
    omega
  have l3 : lcN ((gx (n + 1)).tg (.tp (.cons (.nm 4) (.cons (.nm 6) .nil)))) ((gx (n + 1)).ts .yes) (frzR ((gx (n + 1)).ex (.cmp 0 (.idx (.var 4) (.cst (.int 2))) (.idx (.var 6) (.cst (.int 1)))))) (wipeE [4, 6] (envW (netV ax halls ts) (sq b (stxs ws)) (some (.fz (.lst (rs.map row)))) none none)) (fzs (zipP (rs.map row) ((rs.drop 1 ++ rs.take 1).map row))) h = .ok (((rs.zip (rs.drop 1 ++ rs.take 1)).map fun p => p.1.e == p.2.s).map .bl) h := by
    rw [zipP_map, List.map_map]
    exact lcN_map _ _ (fun p => [some (.fz (netV ax halls ts)), some (.fz (sq b (stxs ws))), some (.fz (.lst (rs.map row))), none, some (.fz (row p.1)), none, some (.fz (row p.2))]) (rs.zip (rs.drop 1 ++ rs.take 1)) fun p hp => ⟨rfl, rfl, frzR_ok (x_cmp (x_idx (x_var rfl) (x_cst rfl) rfl) (x_idx (x_var rfl) (x_cst rfl) rfl) (eq_strs _ _ _ _ _))⟩
  have c3 : (gx (n + 1)).ts (.not (.val (.b1 1 (.lc [4, 6] (.tp (.cons (.nm 4) (.cons (.nm 6) .nil))) (.zip (.var 2) (.bin 0 (.slc (.var 2) (.one (.cst (.int 1))) .non) (.slc (.var 2) .non (.one (.cst (.int 1)))))) .yes (.cmp 0 (.idx (.var 4) (.cst (.int 2))) (.idx (.var 6) (.cst (.int 1)))))))) (envW (netV ax halls ts) (sq b (stxs ws)) (some (.fz (.lst (rs.map row)))) none none) h = .ok (!closed rs) h := by
    refine t_not0 (t_val0 (x_b1 (d1 := .bl (closed rs)) (x_lc (sr_zip (x_var rfl) eadd rfl rfl) l3) ?_) rfl)
    refine Eq.trans (all_bls _) ?_
    rw [List.all_map]
    rfl
  have s2 : (gx (n + 1)).st (.set 2 (.lc [5] (.nm 5) (.val (.var 1)) .yes (.meth 0 7629157 11 (.var 0) (.cons (.var 5) .nil)))) (envW (netV ax halls ts) (sq b (stxs ws)) none none none) h = .nx (envW (netV ax halls ts) (sq b (stxs ws)) (some (.fz (.lst (rs.map row)))) none none) h :=
    s_set0 (x_lc (sr_fz (x_var rfl) (sq_iter b _)) (l2 ws rs hr)) (by simp [envW])
  cases hc : closed rs with
  | false =>
    rw [hc] at c3
    refine run_rt rfl (bb_cons (s_iteF c1 bb_nil) (bb_cons s2 (bb_ret (s_iteT c3 (bb_ret (s_ret0 (x_cst rfl))))))) (cut_same rfl) rfl |>.trans ?_
    simp [isWay, hc]
  | true =>
    rw [hc] at c3
    have lp : ∀ (us : List Tie) (acc : List Int) (x4 : Option Vl), ∃ y4, forN ((gx (n + 1)).tg (.nm 4)) ((gx (n + 1)).sts (.cons (.set 3 (.call 4 (.cons (.var 3) (.cons (.idx (.var 4) (.cst (.int 3))) .nil)))) .nil)) (fzs (us.map row)) (envW (netV ax halls ts) (sq b (stxs ws)) (some (.fz (.lst (rs.map row)))) (some (.fz (.tup (iv acc)))) x4) h = .nx (envW (netV ax halls ts) (sq b (stxs ws)) (some (.fz (.lst (rs.map row)))) (some (.fz (.tup (iv (us.foldl (fun acc t => sumZ acc t.st) acc))))) y4) h := by
      intro us
      induction us with
      | nil => intro acc x4; exact ⟨x4, rfl⟩
      | cons u us ih =>
        intro acc x4
        obtain ⟨y4, e⟩ := ih (sumZ acc u.st) (some (.fz (row u)))
        exact ⟨y4, forN_cons rfl (bb_cons (s_set0 (x_call (es_cons0 (x_var rfl) (es_cons0 (x_idx (x_var rfl) (x_cst rfl) rfl) es_nil0)) (summed n acc u.st)) (by simp [envW])) bb_nil) e⟩
    obtain ⟨y4, e⟩ := lp rs (List.replicate ax 0) none
    refine run_rt rfl (bb_cons (s_iteF c1 bb_nil) (bb_cons s2 (bb_cons (s_iteF c3 bb_nil) (bb_cons (s_set0 (x_bin (k := 2) (x_tup (ds := [.int 0]) (es_cons0 (x_cst rfl) es_nil0) rfl (by simp [LIM])) (x_att (x_var rfl) (att_axes (n + 1) ax halls ts)) (rep0 ax hax)) (by simp [envW])) (bb_cons (s_for0 (sr_fz (x_var rfl) rfl) e) (bb_ret (s_ret0 (x_not (x_b1 (k := 2) (d := .tup (iv (rs.foldl (fun acc t => sumZ acc t.st) (List.replicate ax 0)))) (x_var rfl) (any_iv _)) rfl)))))))) (cut_same rfl) rfl |>.trans ?_
    simp [isWay, hc, total]
end HV.k04

end

section
/-! L_k04i: ways looked at by the law. Core Lean. -/
namespace HV.k04
open HV
variable {S : Sm} {B : Int} {E : Hm} {h : Hm}
def wk (here : Txt) : List Tie → Option Txt
  | [] => some here
  | r :: rs => if r.s = here then wk r.e rs else none
theorem closed_wk : ∀ (rs : List Tie) (r z : Tie), (((r :: rs).zip (rs ++ [z])).all fun p => p.1.e == p.2.s) = (match wk r.e rs with | none => false | some e => e == z.s)
  | [], r, z => by simp [wk]
  | q :: rs, r, z => by
    have ih := closed_wk rs q z
    simp only [List.cons_append, List.zip_cons_cons, List.all_cons] at ih ⊢
    rw [ih]
    simp only [wk]
    by_cases e : q.s = r.e
    · rw [if_pos e, e]; simp
    · have e2 : ¬ r.e = q.s := fun z => e z.symm
      rw [if_neg e, beq_eq_false_iff_ne.mpr e2]
      rfl
theorem closed_eq (r : Tie) (rs : List Tie) : closed (r :: rs) = (match wk r.s (r :: rs) with | none => false | some e => e == r.s) := by
  have := closed_wk rs r r
  simp only [closed, List.drop_succ_cons, List.drop_zero, List.take_succ_cons, List.take_zero]
  rw [this]
  simp [wk]
def kp (t : Tie) : PV × PV := (.str t.nm, row t)
theorem merge_kp : ∀ (us vs : List Tie), ((vs ++ us).map Tie.nm).Nodup → mergeD (vs.map kp) (us.map kp) = (vs ++ us).map kp
  | [], vs, _ => by simp [mergeD]
  | u :: us, vs, nd => by
    have hw : u.nm ∉ vs.map Tie.nm := fun z => by
      rw [List.map_append] at nd
      exact (List.nodup_append.mp nd).2.2 _ z _ (by simp) rfl
    show mergeD (putD (vs.map kp) (.str u.nm) (row u)) (us.map kp) = _
    rw [putD_new (fun p hp => by
      obtain ⟨v, hv, rfl⟩ := List.mem_map.mp hp
      show eqvP (.str v.nm) (.str u.nm) = false
      rw [eqvP_str, beq_eq_false_iff_ne]
      exact fun z => hw (z ▸ List.mem_map_of_mem hv))]
    have := merge_kp us (vs ++ [u]) (by simpa using nd)
    simp only [List.map_append, List.map_cons, List.map_nil, List.append_assoc, List.cons_append, List.nil_append] at this ⊢
    exact this
theorem pairs_kp : ∀ ts : List Tie, pairsV (ts.map fun t => .tup [.str t.nm, row t]) = some (ts.map kp)
  | [] => rfl
  | t :: ts => by
    simp only [List.map_cons, pairsV, pairs_kp ts]
    rfl
theorem dict_kp {ts : List Tie} (nd : (ts.map Tie.nm).Nodup) : dictV (.lst (ts.map fun t => .tup [.str t.nm, row t])) = some (.dct (ts.map kp)) := by
  have hk : (ts.map kp).all (fun p => isKey p.1) = true := by
    rw [List.all_map]
    exact List.all_eq_true.mpr fun t _ => rfl
  simp only [dictV, pairs_kp, hk, if_true]
  have := merge_kp ts [] (by simpa using nd)
  simp only [List.map_nil, List.nil_append] at this
  rw [this]
theorem dget_kp (w : Txt) : ∀ ts : List Tie, dGet (ts.map kp) (.str w) = (fd ts w).map row
  | [] => rfl
  | t :: ts => by
    have ih := dget_kp w ts
    show (if eqvP (.str t.nm) (.str w) = true then some (row t) else dGet (ts.map kp) (.str w)) = _
    unfold fd at ih ⊢
    rw [ih, eqvP_str, List.find?_cons]
    cases (t.nm == w) <;> simp
theorem idx_kp {ts : List Tie} {w : Txt} {t : Tie} (hw : fd ts w = some t) : idxH (.fz (.dct (ts.map kp))) (.fz (.str w)) h = .ok (.fz (row t)) h := by
  show liftF (dGet (ts.map kp) (.str w)) h = _
  rw [dget_kp, hw]
  rfl
theorem in_kp (sp : Nat → Nat → Option Nat) (φ : Nat → List Vl → Hm → R Vl) {ts : List Tie} {w : Txt} {t : Tie} (hw : fd ts w = some t) : cmpG sp φ 6 (.fz (.str w)) (.fz (.dct (ts.map kp))) h = .ok (.fz (.bl true)) h := by
  rw [cmpG_fz _ _ _ _ _ _ (fun _ _ z => by cases z) (fun _ _ z => by cases z)]
  have : inD (.str w) (.dct (ts.map kp)) = some (dGet (ts.map kp) (.str w)).isSome := by
    match w with
    | [] => rfl
    | [_] => rfl
    | _ :: _ :: _ => rfl
  simp only [cmpV, this, dget_kp, hw]
  rfl
theorem rep0L (ax : Nat) (hax : ax ≤ 4) : mulV (.lst [.int 0]) (.int (ax : Int)) = some (.lst (iv (List.replicate ax 0))) := by
  match ax, hax with
  | 0, _ => rfl
  | 1, _ => rfl
  | 2, _ => rfl
  | 3, _ => rfl
  | 4, _ => rfl
theorem rep0B (ax : Nat) (hax : ax ≤ 4) : binV 2 (.lst [.int 0]) (.int (ax : Int)) = some (.lst (iv (List.replicate ax 0))) := by
  simp only [binV]
  exact rep0L ax hax
theorem ne_strs (sp : Nat → Nat → Option Nat) (φ : Nat → List Vl → Hm → R Vl) (s t : Txt) (h : Hm) : cmpG sp φ 1 (.fz (.str s)) (.fz (.str t)) h = .ok (.fz (.bl (!(s == t)))) h := by
  rw [cmpG_fz _ _ _ _ _ _ (fun _ _ z => by cases z) (fun _ _ z => by cases z)]
  simp [cmpV, eqE, eqD, dataP, eqvP, blO, liftF]
def planV (ax : Nat) (halls : List Txt) (ts : List Tie) : PV := .tup [.int (ax : Int), .lst (stxs halls), .lst (ts.map row)]
def envL (p : PV) (ws : List Txt) (ts : List Tie) (x3 x4 x5 : Option Vl) : Env := [some (.fz p), some (.fz (.lst (stxs ws))), some (.fz (.dct (ts.map kp))), x3, x4, x5, none, none, none]
def bodyW : Sts := (.cons (.ite (.cmp 1 (.idx (.idx (.var 2) (.var 3)) (.cst (.int 1))) (.var 4)) (.cons (.ret (.cst (.bl false))) .nil) .nil) (.cons (.set 4 (.idx (.idx (.var 2) (.var 3)) (.cst (.int 2)))) (.cons (.set 5 (.lc [7, 8] (.tp (.cons (.nm 7) (.cons (.nm 8) .nil))) (.zip (.var 5) (.idx (.idx (.var 2) (.var 3)) (.cst (.int 3)))) .yes (.bin 0 (.var 7) (.var 8)))) .nil)))
theorem loop_w (n : Nat) (p : PV) (ws : List Txt) (ts : List Tie) : ∀ (us : List Txt) (qs : List Tie) (here : Txt) (acc : List Int) (x3 : Option Vl), us.map (fd ts) = qs.map some →
    (match wk here qs with
      | none => forN ((gx n).tg (.nm 3)) ((gx n).sts bodyW) (fzs (stxs us)) (envL p ws ts x3 (some (.fz (.str here))) (some (.fz (.lst (iv acc))))) h = .rt (.fz (.bl false)) h
      | some e => ∃ y3, forN ((gx n).tg (.nm 3)) ((gx n).sts bodyW) (fzs (stxs us)) (envL p ws ts x3 (some (.fz (.str here))) (some (.fz (.lst (iv acc))))) h = .nx (envL p ws ts y3 (some (.fz (.str e))) (some (.fz (.lst (iv (qs.foldl (fun acc t => sumZ acc t.st) acc)))))) h) := by
  intro us
  induction us with
  | nil =>
    intro qs here acc x3 hq
    cases qs with
    | nil => exact ⟨x3, rfl⟩
    | cons _ _ => cases hq
  | cons u us ih =>
    intro qs here acc x3 hq
    cases qs with
    | nil => cases hq
    | cons q qs =>
      rw [List.map_cons, List.map_cons] at hq
      injection hq with q1 q2
      have ei : ∀ (k : Int) (d : PV) (y4 y5 : Option Vl), idxH (.fz (row q)) (.fz (.int k)) h = .ok (.fz d) h → (gx n).ex (.idx (.idx (.var 2) (.var 3)) (.cst (.int k))) (envL p ws ts (some (.fz (.str u))) y4 y5) h = .ok (.fz d) h := fun k d y4 y5 e => x_idx (x_idx (x_var rfl) (x_var rfl) (idx_kp q1)) (x_cst rfl) e
      have t1 : (gx n).ts (.cmp 1 (.idx (.idx (.var 2) (.var 3)) (.cst (.int 1))) (.var 4)) (envL p ws ts (some (.fz (.str u))) (some (.fz (.str here))) (some (.fz (.lst (iv acc))))) h = .ok (!(q.s == here)) h := t_cmp0 (ei 1 (.str q.s) _ _ rfl) (x_var rfl) (ne_strs _ _ _ _ _)
      have g1 : (gx n).tg (.nm 3) (.fz (.str u)) (envL p ws ts x3 (some (.fz (.str here))) (some (.fz (.lst (iv acc))))) h = some (envL p ws ts (some (.fz (.str u))) (some (.fz (.str here))) (some (.fz (.lst (iv acc))))) := rfl
      simp only [wk]
      by_cases hs : q.s = here
      · rw [if_pos hs]
        rw [beq_iff_eq.mpr hs] at t1
        have lz : lcN ((gx n).tg (.tp (.cons (.nm 7) (.cons (.nm 8) .nil)))) ((gx n).ts .yes) (frzR ((gx n).ex (.bin 0 (.var 7) (.var 8)))) (wipeE [7, 8] (envL p ws ts (some (.fz (.str u))) (some (.fz (.str q.e))) (some (.fz (.lst (iv acc)))))) (fzs (zipP (iv acc) (iv q.st))) h = .ok (iv (sumZ acc q.st)) h := by
          rw [zipP_iv, sum_map acc q.st]
          exact lcN_map _ _ (fun z => [some (.fz p), some (.fz (.lst (stxs ws))), some (.fz (.dct (ts.map kp))), some (.fz (.str u)), some (.fz (.str q.e)), some (.fz (.lst (iv acc))), none, some (.fz (.int z.1)), some (.fz (.int z.2))]) (acc.zip q.st) fun z hz => ⟨rfl, rfl, frzR_ok (x_bin (x_var rfl) (x_var rfl) rfl)⟩
        have bd : (gx n).sts bodyW (envL p ws ts (some (.fz (.str u))) (some (.fz (.str here))) (some (.fz (.lst (iv acc))))) h = .nx (envL p ws ts (some (.fz (.str u))) (some (.fz (.str q.e))) (some (.fz (.lst (iv (sumZ acc q.st)))))) h :=
          bb_cons (s_iteF t1 bb_nil) (bb_cons (s_set0 (ei 2 (.str q.e) _ _ rfl) (by simp [envL])) (bb_cons (s_set0 (x_lc (sr_zip (x_var rfl) (ei 3 (.tup (iv q.st)) _ _ rfl) rfl rfl) lz) (by simp [envL])) bb_nil))
        have := ih qs q.e (sumZ acc q.st) (some (.fz (.str u))) q2
        revert this
        cases wk q.e qs with
        | none => intro this; exact forN_cons g1 bd this
        | some e => intro ⟨y3, this⟩; exact ⟨y3, forN_cons g1 bd this⟩
      · rw [if_neg hs]
        rw [beq_eq_false_iff_ne.mpr hs] at t1
        have bd : (gx n).sts bodyW (envL p ws ts (some (.fz (.str u))) (some (.fz (.str here))) (some (.fz (.lst (iv acc))))) h = .rt (.fz (.bl false)) h := bb_ret (s_iteT t1 (bb_ret (s_ret0 (x_cst rfl))))
        show forN _ _ (.fz (.str u) :: fzs (stxs us)) _ h = _
        simp only [forN, g1, bd]
def env0L (p : PV) (ws : List Txt) : Env := [some (.fz p), some (.fz (.lst (stxs ws))), none, none, none, none, none, none, none]
theorem lw_c1 (n : Nat) (p : PV) (w : Txt) (ws : List Txt) : (gx n).ts (.or (.not (.val (.isi (.var 1) (.tup (.cons (.glo 1818850164) (.cons (.glo 500186508389) .nil)))))) (.cmp 0 (.len (.var 1)) (.cst (.int 0)))) (env0L p (w :: ws)) h = .ok false h := by
  have e1 : isiV (.lst (stxs (w :: ws))) (.tup [.ty 3, .ty 4]) = some (.bl true) := isi_lt (d := .lst (stxs (w :: ws))) rfl
  refine t_orF (t_not0 (t := true) (t_val0 (x_isi (x_var rfl) (x_tup (ds := [.ty 3, .ty 4]) (es_cons0 (x_glo (g_list n) rfl) (es_cons0 (x_glo (g_tuple n) rfl) es_nil0)) rfl (by decide)) e1) rfl)) (t_cmp0 (x_len (x_var rfl) lenH_lst) (x_cst rfl) ?_)
  rw [cmp_eq_int, strs_len, decide_eq_false (by simp; omega)]
theorem lw_s1 (n : Nat) (ax : Nat) (halls : List Txt) {ts : List Tie} (nd : (ts.map Tie.nm).Nodup) (ws : List Txt) : (gx n).st (.set 2 (.s1 2 (.lc [6] (.nm 6) (.val (.idx (.var 0) (.cst (.int 2)))) .yes (.tup (.cons (.idx (.var 6) (.cst (.int 0))) (.cons (.var 6) .nil)))))) (env0L (planV ax halls ts) ws) h = .nx (envL (planV ax halls ts) ws ts none none none) h := by
  have l1 : lcN ((gx n).tg (.nm 6)) ((gx n).ts .yes) (frzR ((gx n).ex (.tup (.cons (.idx (.var 6) (.cst (.int 0))) (.cons (.var 6) .nil))))) (wipeE [6] (env0L (planV ax halls ts) ws)) (fzs (ts.map row)) h = .ok (ts.map fun t => PV.tup [.str t.nm, row t]) h :=
    lcN_map row _ (fun t => [some (.fz (planV ax halls ts)), some (.fz (.lst (stxs ws))), none, none, none, none, some (.fz (row t)), none, none]) ts fun t ht => ⟨rfl, rfl, frzR_ok (x_tup (ds := [.str t.nm, row t]) (es_cons0 (x_idx (x_var rfl) (x_cst rfl) rfl) (es_cons0 (x_var rfl) es_nil0)) rfl (by simp [LIM]))⟩
  exact s_set0 (x_s1 (x_lc (sr_fz (x_idx (x_var rfl) (x_cst rfl) rfl) rfl) l1) (dict_kp nd)) (by simp [env0L])
theorem lw_c2 (n : Nat) (p : PV) {ts : List Tie} {ws : List Txt} (hin : ∀ v ∈ ws, ∃ t, fd ts v = some t) : (gx n).ts (.not (.val (.b1 1 (.lc [3] (.nm 3) (.val (.var 1)) .yes (.and (.isi (.var 3) (.glo 7566450)) (.cmp 6 (.var 3) (.var 2))))))) (envL p ws ts none none none) h = .ok false h := by
  have l2 : lcN ((gx n).tg (.nm 3)) ((gx n).ts .yes) (frzR ((gx n).ex (.and (.isi (.var 3) (.glo 7566450)) (.cmp 6 (.var 3) (.var 2))))) (wipeE [3] (envL p ws ts none none none)) (fzs (stxs ws)) h = .ok (ws.map fun _ => PV.bl true) h :=
    lcN_map PV.str _ (fun v => envL p ws ts (some (.fz (.str v))) none none) ws fun v hv => ⟨rfl, rfl, frzR_ok (x_and (t := true) (x_isi (x_var rfl) (x_glo (g_str n) rfl) rfl) rfl (fun _ => by
      obtain ⟨t, e⟩ := hin v hv
      exact x_cmp (x_var rfl) (x_var rfl) (in_kp _ _ e)) (fun z => by cases z))⟩
  exact t_not0 (t := true) (t_val0 (x_b1 (x_lc (sr_fz (x_var rfl) rfl) l2) (all_true ws)) rfl)
theorem lw_ef (n : Nat) (p : PV) {ts : List Tie} {w : Txt} {ws : List Txt} {r : Tie} (w1 : fd ts w = some r) (x3 x4 x5 : Option Vl) : (gx n).ex (.idx (.idx (.var 2) (.idx (.var 1) (.cst (.int 0)))) (.cst (.int 1))) (envL p (w :: ws) ts x3 x4 x5) h = .ok (.fz (.str r.s)) h :=
  x_idx (x_idx (x_var rfl) (x_idx (z := .fz (.str w)) (x_var rfl) (x_cst rfl) (idx_zero (ds := stxs ws))) (idx_kp w1)) (x_cst rfl) rfl
theorem lw_s2 (n : Nat) {ax : Nat} (hax : ax ≤ 4) (halls : List Txt) {ts : List Tie} {w : Txt} {ws : List Txt} {r : Tie} (w1 : fd ts w = some r) : (gx n).st (.par [4, 5] (.cons (.idx (.idx (.var 2) (.idx (.var 1) (.cst (.int 0)))) (.cst (.int 1))) (.cons (.bin 2 (.lst (.cons (.cst (.int 0)) .nil)) (.idx (.var 0) (.cst (.int 0)))) .nil))) (envL (planV ax halls ts) (w :: ws) ts none none none) h = .nx (envL (planV ax halls ts) (w :: ws) ts none (some (.fz (.str r.s))) (some (.fz (.lst (iv (List.replicate ax 0)))))) h :=
  s_par0 (es_cons0 (lw_ef n _ w1 none none none) (es_cons0 (x_bin (k := 2) (x_lst (ds := [.int 0]) (es_cons0 (x_cst rfl) es_nil0) rfl (by simp [LIM])) (x_idx (z := .fz (.int (ax : Int))) (x_var rfl) (x_cst rfl) rfl) (rep0B ax hax)) es_nil0)) rfl
theorem lw_fin (n : Nat) (ax : Nat) (p : PV) {ts : List Tie} {w : Txt} {ws : List Txt} {r : Tie} {rs : List Tie} (w1 : fd ts w = some r) {e : Txt} (hcl : closed (r :: rs) = (e == r.s)) (y3 : Option Vl) :
    (gx n).ex (.and (.cmp 0 (.var 4) (.idx (.idx (.var 2) (.idx (.var 1) (.cst (.int 0)))) (.cst (.int 1)))) (.not (.b1 2 (.var 5)))) (envL p (w :: ws) ts y3 (some (.fz (.str e))) (some (.fz (.lst (iv (total ax (r :: rs))))))) h = .ok (.fz (.bl (isWay ax (r :: rs)))) h := by
  have eq1 : (gx n).ex (.cmp 0 (.var 4) (.idx (.idx (.var 2) (.idx (.var 1) (.cst (.int 0)))) (.cst (.int 1)))) (envL p (w :: ws) ts y3 (some (.fz (.str e))) (some (.fz (.lst (iv (total ax (r :: rs))))))) h = .ok (.fz (.bl (e == r.s))) h := x_cmp (x_var rfl) (lw_ef n _ w1 _ _ _) (eq_strs _ _ _ _ _)
  refine x_and (t := e == r.s) eq1 rfl ?_ ?_
  · intro z
    have : isWay ax (r :: rs) = !(total ax (r :: rs)).any (· != 0) := by simp only [isWay, hcl, z, Bool.true_and]
    rw [this]
    exact x_not (x_b1 (k := 2) (d := .lst (iv (total ax (r :: rs)))) (x_var rfl) (any_ivL _)) rfl
  · intro z
    refine ⟨?_, rfl⟩
    rw [z]
    simp only [isWay, hcl, z, Bool.false_and]
theorem law_is_way (n : Nat) {ax : Nat} (hax : ax ≤ 4) (halls : List Txt) {ts : List Tie} (nd : (ts.map Tie.nm).Nodup) {w : Txt} {ws : List Txt} {r : Tie} {rs : List Tie} (w1 : fd ts w = some r) (hr : (w :: ws).map (fd ts) = (r :: rs).map some) :
    run 2000 (n + 1) 29 [.fz (planV ax halls ts), .fz (.lst (stxs (w :: ws)))] h = .ok (.fz (.bl (isWay ax (r :: rs)))) h := by
  rw [run_at n 29 r29 rfl]
  have hin : ∀ v ∈ w :: ws, ∃ t, fd ts v = some t := fun v hv => by
    have : fd ts v ∈ (r :: rs).map some := by rw [← hr]; exact List.mem_map_of_mem hv
    obtain ⟨t, _, e⟩ := List.mem_map.mp this
    exact ⟨t, e.symm⟩
  have lp := loop_w (h := h) n (planV ax halls ts) (w :: ws) ts (w :: ws) (r :: rs) r.s (List.replicate ax 0) none hr
  have hcl := closed_eq r rs
  revert lp hcl
  cases hw : wk r.s (r :: rs) with
  | none =>
    intro lp hcl
    refine run_rt rfl (bb_cons (s_iteF (lw_c1 n (planV ax halls ts) w ws) bb_nil) (bb_cons (lw_s1 n ax halls nd (w :: ws)) (bb_cons (s_iteF (lw_c2 n (planV ax halls ts) hin) bb_nil) (bb_cons (lw_s2 n hax halls w1) (bb_ret (s_for0 (sr_fz (x_var rfl) rfl) lp)))))) (cut_same rfl) rfl |>.trans ?_
    simp only [isWay, hcl, Bool.false_and]
  | some e =>
    intro ⟨y3, lp⟩ hcl
    exact run_rt rfl (bb_cons (s_iteF (lw_c1 n (planV ax halls ts) w ws) bb_nil) (bb_cons (lw_s1 n ax halls nd (w :: ws)) (bb_cons (s_iteF (lw_c2 n (planV ax halls ts) hin) bb_nil) (bb_cons (lw_s2 n hax halls w1) (bb_cons (s_for0 (sr_fz (x_var rfl) rfl) lp) (bb_ret (s_ret0 (lw_fin n ax (planV ax halls ts) w1 hcl y3)))))))) (cut_same rfl) rfl
end HV.k04

end

section
/-! L_k04j: empty ways, odd things, the law's own comparison. Core Lean. -/
namespace HV.k04
open HV
variable {S : Sm} {B : Int} {E : Hm} {h : Hm}
theorem is_way_nolist (n : Nat) {ax : Nat} (halls : List Txt) (ts : List Tie) {d : PV} (hk : plainK d) (hl : isLst d = false) :
    run 2000 (n + 2) 21 [.fz (netV ax halls ts), .fz d] h = .ok (.fz (.bl false)) h := by
  rw [run_at (n + 1) 21 r21 rfl]
  have c1 : (gx (n + 1)).ts (.or (.not (.val (.call 1 (.cons (.var 1) .nil)))) (.or (.cmp 0 (.len (.var 1)) (.cst (.int 0))) (.not (.val (.b1 1 (.lc [5] (.nm 5) (.val (.var 1)) .yes (.cmp 6 (.var 5) (.var 0)))))))) (envW (netV ax halls ts) d none none none) h = .ok true h := by
    refine t_orT (t_not0 (t := false) (t_val0 (x_call (es_cons0 (x_var rfl) es_nil0) (is_list n hk)) ?_))
    rw [hl]; rfl
  exact run_rt rfl (bb_ret (s_iteT c1 (bb_ret (s_ret0 (x_cst rfl))))) (cut_same rfl) rfl
theorem is_way_nil (n : Nat) {ax : Nat} (halls : List Txt) (ts : List Tie) (b : Bool) : run 2000 (n + 2) 21 [.fz (netV ax halls ts), .fz (sq b [])] h = .ok (.fz (.bl false)) h := by
  rw [run_at (n + 1) 21 r21 rfl]
  have c1 : (gx (n + 1)).ts (.or (.not (.val (.call 1 (.cons (.var 1) .nil)))) (.or (.cmp 0 (.len (.var 1)) (.cst (.int 0))) (.not (.val (.b1 1 (.lc [5] (.nm 5) (.val (.var 1)) .yes (.cmp 6 (.var 5) (.var 0)))))))) (envW (netV ax halls ts) (sq b []) none none none) h = .ok true h := by
    refine t_orF (t_not0 (t := true) (t_val0 (x_call (es_cons0 (x_var rfl) es_nil0) (is_list n (sq_k b []))) ?_)) (t_orT (t_cmp0 (x_len (x_var rfl) (sq_len b _)) (x_cst rfl) ?_))
    · rw [sq_lst]; rfl
    · rw [cmp_eq_int]; rfl
  exact run_rt rfl (bb_ret (s_iteT c1 (bb_ret (s_ret0 (x_cst rfl))))) (cut_same rfl) rfl
/-- one thing in a list that is no name of the net -/
theorem is_way_odd (n : Nat) {ax : Nat} (halls : List Txt) (ts : List Tie) {d : PV} (hk : plainK d) (hd : inNet ts d = false) : run 2000 (n + 2) 21 [.fz (netV ax halls ts), .fz (.lst [d])] h = .ok (.fz (.bl false)) h := by
  rw [run_at (n + 1) 21 r21 rfl]
  have l1 : lcN ((gx (n + 1)).tg (.nm 5)) ((gx (n + 1)).ts .yes) (frzR ((gx (n + 1)).ex (.cmp 6 (.var 5) (.var 0)))) (wipeE [5] (envW (netV ax halls ts) (.lst [d]) none none none)) (fzs ([d].map id)) h = .ok ([d].map fun _ => PV.bl false) h :=
    lcN_map id _ (fun z => [some (.fz (netV ax halls ts)), some (.fz (.lst [d])), none, none, none, some (.fz z), none]) [d] fun z hz => by
      simp at hz
      subst hz
      exact ⟨rfl, rfl, frzR_ok (x_cmp (x_var rfl) (x_var rfl) ((own_in n ax halls ts hk).trans (by rw [hd])))⟩
  have c1 : (gx (n + 1)).ts (.or (.not (.val (.call 1 (.cons (.var 1) .nil)))) (.or (.cmp 0 (.len (.var 1)) (.cst (.int 0))) (.not (.val (.b1 1 (.lc [5] (.nm 5) (.val (.var 1)) .yes (.cmp 6 (.var 5) (.var 0)))))))) (envW (netV ax halls ts) (.lst [d]) none none none) h = .ok true h := by
    refine t_orF (t_not0 (t := true) (t_val0 (x_call (es_cons0 (x_var rfl) es_nil0) (is_list n (d := .lst [d]) rfl)) rfl)) (t_orF (t_cmp0 (x_len (x_var rfl) lenH_lst) (x_cst rfl) ?_) (t_not0 (t := false) (t_val0 (x_b1 (x_lc (sr_fz (x_var rfl) rfl) l1) rfl) rfl)))
    rw [cmp_eq_int]; rfl
  exact run_rt rfl (bb_ret (s_iteT c1 (bb_ret (s_ret0 (x_cst rfl))))) (cut_same rfl) rfl
theorem law_is_way_nil (n : Nat) (p : PV) : run 2000 (n + 1) 29 [.fz p, .fz (.lst [])] h = .ok (.fz (.bl false)) h := by
  rw [run_at n 29 r29 rfl]
  have c1 : (gx n).ts (.or (.not (.val (.isi (.var 1) (.tup (.cons (.glo 1818850164) (.cons (.glo 500186508389) .nil)))))) (.cmp 0 (.len (.var 1)) (.cst (.int 0)))) (env0L p []) h = .ok true h := by
    refine t_orF (t_not0 (t := true) (t_val0 (x_isi (x_var rfl) (x_tup (ds := [.ty 3, .ty 4]) (es_cons0 (x_glo (g_list n) rfl) (es_cons0 (x_glo (g_tuple n) rfl) es_nil0)) rfl (by decide)) (isi_lt (d := .lst []) rfl)) rfl)) (t_cmp0 (x_len (x_var rfl) lenH_lst) (x_cst rfl) ?_)
    rw [cmp_eq_int]; rfl
  exact run_rt rfl (bb_ret (s_iteT c1 (bb_ret (s_ret0 (x_cst rfl))))) (cut_same rfl) rfl
/-- the law's comparison of two truths -/
theorem same_bl (n : Nat) (a b : Bool) : run 2000 (n + 1) 28 [.fz (.bl a), .fz (.bl b)] h = .ok (.fz (.bl (a == b))) h := by
  rw [run_at n 28 r28 rfl]
  have t1 : (gx n).ts (.val (.isi (.var 1) (.tup (.cons (.glo 1818850164) (.cons (.glo 500186508389) .nil))))) [some (.fz (.bl a)), some (.fz (.bl b)), none, none] h = .ok false h := t_val0 (x_isi (x_var rfl) (x_tup (ds := [.ty 3, .ty 4]) (es_cons0 (x_glo (g_list n) rfl) (es_cons0 (x_glo (g_tuple n) rfl) es_nil0)) rfl (by decide)) rfl) rfl
  have t2 : (gx n).ts (.val (.isi (.var 1) (.glo 6909556))) [some (.fz (.bl a)), some (.fz (.bl b)), none, none] h = .ok true h := t_val0 (x_isi (x_var rfl) (x_glo (g_int n) rfl) rfl) rfl
  refine run_rt rfl (bb_cons (s_iteF t1 bb_nil) (bb_ret (s_iteT t2 (bb_ret (s_ret0 (x_and (t := true) (x_isi (x_var rfl) (x_glo (g_int n) rfl) rfl) rfl (fun _ => x_and (t := true) (d := .bl true) (h1 := h) (x_cmp (x_isi (x_var rfl) (x_glo (g_bool n) rfl) rfl) (x_isi (x_var rfl) (x_glo (g_bool n) rfl) rfl) ?_) rfl (fun _ => x_cmp (x_var rfl) (x_var rfl) ?_) (fun z => by cases z)) (fun z => by cases z))))))) (cut_same rfl) rfl
  · rw [cmpG_fz _ _ _ _ _ _ (fun _ _ z => by cases z) (fun _ _ z => by cases z)]; rfl
  · rw [cmpG_fz _ _ _ _ _ _ (fun _ _ z => by cases z) (fun _ _ z => by cases z)]
    cases a <;> cases b <;> rfl
end HV.k04

end

section
/-! L_k04k: a way that is gone. Core Lean. -/
namespace HV.k04
open HV
variable {S : Sm} {B : Int} {E : Hm} {h : Hm}
theorem data_row (n : Nat) (t : Tie) : dataP (n + 2) (row t) = true := by
  have := data_ints n t.st
  simp only [row, dataP, dataPs, iv, Bool.true_and, Bool.and_true]
  exact this
theorem data_rows (n : Nat) : ∀ l : List Tie, dataPs (n + 2) (l.map row) = true
  | [] => by simp [dataPs]
  | t :: l => by simp only [List.map_cons, dataPs, data_row, data_rows n l, Bool.and_self]
theorem ne_rows (sp : Nat → Nat → Option Nat) (φ : Nat → List Vl → Hm → R Vl) (l : List Tie) (h : Hm) : cmpG sp φ 1 (.fz (.lst (l.map row))) (.fz (.lst [])) h = .ok (.fz (.bl (!l.isEmpty))) h := by
  rw [cmpG_fz _ _ _ _ _ _ (fun _ _ z => by cases z) (fun _ _ z => by cases z)]
  have d1 : dataP 60 (.lst (l.map row)) = true := by simp only [dataP]; exact data_rows 57 l
  have d2 : dataP 60 (.lst []) = true := by simp [dataP, dataPs]
  simp only [cmpV, eqE, eqD, d1, d2, Bool.and_self, if_true]
  cases l <;> simp [eqvP, eqvPs, blO, liftF]
def envG (p : PV) (m : Int) (x3 : Option Vl) (ws : List Txt) (here : Txt) (x6 x7 : Option Vl) : Env := [some (.rf 1), some (.fz p), some (.fz (.int m)), x3, some (.fz (.lst (stxs ws))), some (.fz (.str here)), x6, x7]
theorem gone_ok (n : Nat) {ax : Nat} {halls : List Txt} {ts : List Tie} (h0 : halls ≠ []) (hh : halls.length ≤ 10) (ht : ts.length ≤ 100) {m : Nat} (hm : m ≤ 10) (ok : S.Ok B) (hB : B ≤ 10000000000) :
    ∃ ws S', run 2000 (n + 3) 30 [.rf 1, .fz (planV ax halls ts), .fz (.int (m : Int))] (hp S E) = .ok (.fz (.lst (stxs ws))) (hp S' E) ∧ (∀ w ∈ ws, w ∈ names ts) ∧ ws.length ≤ m ∧ S'.Ok (B + 20) := by
  rw [run_at (n + 2) 30 r30 rfl]
  have hs : stxs halls ≠ [] := by cases halls with
    | nil => exact absurd rfl h0
    | cons a l => simp [stxs]
  obtain ⟨d1, m1, S1, e1, ok1⟩ := pick (E := E) n ok (by omega) hs (by rw [strs_len]; omega)
  obtain ⟨w1, hw1, rfl⟩ := strs_mem m1
  obtain ⟨e2, h', q1, x3, ws, here, x6, x7, S2, rfl, rfl, hws, hlen, ok2⟩ := forN_inv (g := (gx (n + 2)).tg (.nm 3)) (b := (gx (n + 2)).sts (.cons (.set 6 (.lc [7] (.nm 7) (.val (.idx (.var 1) (.cst (.int 2)))) (.cmp 0 (.idx (.var 7) (.cst (.int 1))) (.var 5)) (.var 7))) (.cons (.ite (.cmp 1 (.var 6) (.lst .nil)) (.cons (.set 7 (.call 27 (.cons (.var 0) (.cons (.var 6) .nil)))) (.cons (.par [4, 5] (.cons (.bin 0 (.var 4) (.lst (.cons (.idx (.var 7) (.cst (.int 0))) .nil))) (.cons (.idx (.var 7) (.cst (.int 2))) .nil))) .nil)) .nil) .nil)))
    (fun k env h => ∃ x3 ws here x6 x7 S', env = envG (planV ax halls ts) (m : Int) x3 ws here x6 x7 ∧ h = hp S' E ∧ (∀ w ∈ ws, w ∈ names ts) ∧ ws.length ≤ k ∧ S'.Ok (B + 1 + k))
    (fzs (rng m)) 0 (envG (planV ax halls ts) (m : Int) none [] w1 none none) (hp S1 E) ⟨none, [], w1, none, none, S1, rfl, rfl, fun w hw => by simp at hw, Nat.le_refl _, ok1.mono (by omega)⟩ (fun j d hd env h hI => by
      obtain ⟨x3, ws, here, x6, x7, S2, rfl, rfl, hws, hl, ok2⟩ := hI
      rw [Nat.zero_add] at hl ok2 ⊢
      have hj : j < m := by
        have := (List.getElem?_eq_some_iff.mp hd).1
        rw [rng_len] at this
        exact this
      refine ⟨envG (planV ax halls ts) (m : Int) (some d) ws here x6 x7, rfl, ?_⟩
      let on := ts.filter fun t => t.s == here
      have l1 : lcN ((gx (n + 2)).tg (.nm 7)) ((gx (n + 2)).ts (.cmp 0 (.idx (.var 7) (.cst (.int 1))) (.var 5))) (frzR ((gx (n + 2)).ex (.var 7))) (wipeE [7] (envG (planV ax halls ts) (m : Int) (some d) ws here x6 x7)) (fzs (ts.map row)) (hp S2 E) = .ok (on.map row) (hp S2 E) :=
        lcN_filt row (fun t => t.s == here) row (fun t => [some (.rf 1), some (.fz (planV ax halls ts)), some (.fz (.int (m : Int))), some d, some (.fz (.lst (stxs ws))), some (.fz (.str here)), x6, some (.fz (row t))]) ts fun t htm => ⟨rfl, t_cmp0 (x_idx (x_var rfl) (x_cst rfl) rfl) (x_var rfl) (eq_strs _ _ _ _ _), fun _ => frzR_ok (x_var rfl)⟩
      have s1 : (gx (n + 2)).st (.set 6 (.lc [7] (.nm 7) (.val (.idx (.var 1) (.cst (.int 2)))) (.cmp 0 (.idx (.var 7) (.cst (.int 1))) (.var 5)) (.var 7))) (envG (planV ax halls ts) (m : Int) (some d) ws here x6 x7) (hp S2 E) = .nx (envG (planV ax halls ts) (m : Int) (some d) ws here (some (.fz (.lst (on.map row)))) x7) (hp S2 E) :=
        s_set0 (x_lc (sr_fz (x_idx (x_var rfl) (x_cst rfl) rfl) rfl) l1) (by simp [envG])
      have t1 : (gx (n + 2)).ts (.cmp 1 (.var 6) (.lst .nil)) (envG (planV ax halls ts) (m : Int) (some d) ws here (some (.fz (.lst (on.map row)))) x7) (hp S2 E) = .ok (!on.isEmpty) (hp S2 E) := t_cmp0 (x_var rfl) (x_lst (ds := []) es_nil0 rfl (by decide)) (ne_rows _ _ _ _)
      cases hon : on with
      | nil =>
        rw [hon] at t1 s1
        exact ⟨_, _, bb_cons s1 (bb_cons (s_iteF t1 bb_nil) bb_nil), some d, ws, here, _, x7, S2, rfl, rfl, hws, by omega, ok2.mono (by omega)⟩
      | cons o1 os =>
        have hne : on.map row ≠ [] := by rw [hon]; simp
        have hol : (on.map row).length < 1000000 := by
          rw [List.length_map]
          have : on.length ≤ ts.length := List.length_filter_le ..
          omega
        obtain ⟨d2, m2, S3, e3, ok3⟩ := pick (E := E) n ok2 (by omega) hne hol
        obtain ⟨t, htm, rfl⟩ := List.mem_map.mp m2
        have htt : t ∈ ts := (List.mem_filter.mp htm).1
        have t1' : (gx (n + 2)).ts (.cmp 1 (.var 6) (.lst .nil)) (envG (planV ax halls ts) (m : Int) (some d) ws here (some (.fz (.lst (on.map row)))) x7) (hp S2 E) = .ok true (hp S2 E) := by rw [t1, hon]; rfl
        have addok : binV 0 (.lst (stxs ws)) (.lst [.str t.nm]) = some (.lst (stxs (ws ++ [t.nm]))) := by
          simp only [binV, addV]
          rw [if_pos]
          · simp [stxs]
          · rw [strs_len]; show _ ≤ 16777216; simp; omega
        refine ⟨envG (planV ax halls ts) (m : Int) (some d) (ws ++ [t.nm]) t.e (some (.fz (.lst (on.map row)))) (some (.fz (row t))), hp S3 E, bb_cons s1 (bb_cons (s_iteT t1' (bb_cons (s_set0 (x_call (es_cons0 (x_var rfl) (es_cons0 (x_var rfl) es_nil0)) e3) (by simp [envG])) (bb_cons (s_par0 (es_cons0 (x_bin (k := 0) (x_var rfl) (x_lst (ds := [.str t.nm]) (es_cons0 (x_idx (x_var rfl) (x_cst rfl) rfl) es_nil0) rfl (by simp [LIM])) addok) (es_cons0 (x_idx (x_var rfl) (x_cst rfl) rfl) es_nil0)) rfl) bb_nil))) bb_nil), some d, ws ++ [t.nm], t.e, _, _, S3, rfl, rfl, ?_, by simp; omega, ok3.mono (by omega)⟩
        intro w hw
        rcases List.mem_append.mp hw with hw | hw
        · exact hws w hw
        · simp at hw; subst hw; exact List.mem_map_of_mem htt)
  rw [rng_len] at hlen ok2
  have hm2 : ((m : Int)).toNat = m := by simp
  have hsrc := sr_rng (G := gx (n + 2)) (a := .var 2) (env := envG (planV ax halls ts) (m : Int) none [] w1 none none) (h := hp S1 E) (j := (m : Int)) (x_var rfl) (by omega)
  rw [hm2] at hsrc
  exact ⟨ws, S2, run_rt rfl (bb_cons (s_par0 (es_cons0 (x_lst (ds := []) es_nil0 rfl (by decide)) (es_cons0 (x_call (es_cons0 (x_var rfl) (es_cons0 (x_idx (x_var rfl) (x_cst rfl) rfl) es_nil0)) e1) es_nil0)) rfl) (bb_cons (s_for0 hsrc q1) (bb_ret (s_ret0 (x_var rfl))))) (cut_same rfl) rfl, hws, by omega, ok2.mono (by omega)⟩
end HV.k04

end

section
/-! L_k04l: the plan with the ways back. Core Lean. -/
namespace HV.k04
open HV
variable {S : Sm} {B : Int} {E : Hm} {h : Hm}
def rp (w : Txt) : Txt := [114, 46] ++ w
def rv (t : Tie) : Tie := ⟨rp t.nm, t.e, t.s, t.st.map fun x => 0 - x⟩
def ext (ts : List Tie) : List Tie := ts ++ ts.map rv
theorem alf_signs : ∀ c ∈ alf, signs.contains c = true := by decide
theorem abc_signs : ∀ c ∈ abc, signs.contains c = true := by decide
theorem good_all {w : Txt} (g : good w) : (w.all fun c => signs.contains c) = true := by
  rcases g with ⟨_, _, h⟩ | ⟨l, hl, rfl⟩
  · exact List.all_eq_true.mpr fun c hc => alf_signs c (h c hc)
  · rw [List.all_cons, List.all_cons, abc_signs l hl]
    decide
theorem good_ne {w : Txt} (g : good w) : w ≠ [] := by
  rcases g with ⟨h, _, _⟩ | ⟨l, hl, rfl⟩
  · exact h
  · simp
theorem good_name {w : Txt} (g : good w) : nameB w = true := by
  unfold nameB
  rw [good_all g]
  have := good_ne g
  cases w with
  | nil => exact absurd rfl this
  | cons c w => rfl
theorem good_rp {w : Txt} (g : good w) : nameB (rp w) = true := by
  unfold nameB rp
  rw [List.all_append, good_all g]
  rfl
theorem good_not_rp {w v : Txt} (g : good w) : w ≠ rp v := by
  intro e
  rcases g with ⟨_, _, h⟩ | ⟨l, hl, h⟩
  · have := h 114 (by rw [e]; simp [rp])
    revert this
    decide
  · rw [h] at e
    simp [rp] at e
theorem rp_inj {a b : Txt} (h : rp a = rp b) : a = b := by simpa [rp] using h
theorem nodup_map_inj {α β : Type} {f : α → β} (hf : ∀ a b, f a = f b → a = b) : ∀ {l : List α}, l.Nodup → (l.map f).Nodup
  | [], _ => List.nodup_nil
  | a :: l, nd => by
    have := List.nodup_cons.mp nd
    rw [List.map_cons]
    refine List.nodup_cons.mpr ⟨fun z => ?_, nodup_map_inj hf this.2⟩
    obtain ⟨b, hb, e⟩ := List.mem_map.mp z
    exact this.1 (hf _ _ e ▸ hb)
theorem ext_ok {ax : Nat} {halls : List Txt} {ts : List Tie} (P : PlanOk ax halls ts) : NetOk ax halls (ext ts) where
  axl := P.axl
  h0 := P.h0
  hn := P.hn
  hg := fun w hw => good_name (P.hg w hw)
  tn := by
    unfold ext
    rw [List.map_append, List.map_map]
    have e : (Tie.nm ∘ rv) = (rp ∘ Tie.nm) := rfl
    rw [e, ← List.map_map]
    refine List.nodup_append.mpr ⟨P.tn, nodup_map_inj (fun a b => rp_inj) P.tn, fun a ha b hb => ?_⟩
    obtain ⟨t, ht, rfl⟩ := List.mem_map.mp ha
    obtain ⟨v, hv, rfl⟩ := List.mem_map.mp hb
    exact good_not_rp (P.tg t ht).1
  tl := by
    unfold ext
    rw [List.length_append, List.length_map]
    have := P.t1
    omega
  tg := fun t ht => by
    rcases List.mem_append.mp ht with ht | ht
    · obtain ⟨g1, g2, g3, g4⟩ := P.tg t ht
      exact ⟨good_name g1, g2, g3, g4⟩
    · obtain ⟨u, hu, rfl⟩ := List.mem_map.mp ht
      obtain ⟨g1, g2, g3, g4⟩ := P.tg u hu
      exact ⟨good_rp g1, g3, g2, by simp [rv, g4]⟩
/-- a name of the plan has its tie -/
theorem fd_some {ts : List Tie} {w : Txt} (h : w ∈ names ts) : ∃ t, fd ts w = some t := by
  obtain ⟨t, ht, e⟩ := List.mem_map.mp h
  cases q : fd ts w with
  | some u => exact ⟨u, rfl⟩
  | none =>
    have := List.find?_eq_none.mp q t ht
    simp [e] at this
theorem fds_some {ts : List Tie} : ∀ {ws : List Txt}, (∀ w ∈ ws, w ∈ names ts) → ∃ rs : List Tie, ws.map (fd ts) = rs.map some
  | [], _ => ⟨[], rfl⟩
  | w :: ws, H => by
    obtain ⟨t, e⟩ := fd_some (H w (by simp))
    obtain ⟨rs, e2⟩ := fds_some fun w hw => H w (List.mem_cons_of_mem _ hw)
    exact ⟨t :: rs, by rw [List.map_cons, List.map_cons, e, e2]⟩
/-- the program and the law say the same of a list of names -/
theorem both (n : Nat) {ax : Nat} {halls : List Txt} {ts : List Tie} (N : NetOk ax halls ts) (b : Bool) {ws : List Txt} (H : ∀ w ∈ ws, w ∈ names ts) (hl : ws.length ≤ 1000) :
    ∃ t : Bool, run 2000 (n + 2) 21 [.fz (netV ax halls ts), .fz (sq b (stxs ws))] h = .ok (.fz (.bl t)) h ∧ run 2000 (n + 2) 29 [.fz (planV ax halls ts), .fz (.lst (stxs ws))] h = .ok (.fz (.bl t)) h := by
  cases ws with
  | nil => exact ⟨false, is_way_nil n halls ts b, law_is_way_nil (n + 1) _⟩
  | cons w ws =>
    obtain ⟨rs, e⟩ := fds_some H
    cases rs with
    | nil => cases e
    | cons r rs =>
      have w1 : fd ts w = some r := by
        rw [List.map_cons, List.map_cons] at e
        injection e
      exact ⟨isWay ax (r :: rs), is_way n N.axl halls ts b (by simp) hl e, law_is_way (n + 1) N.axl halls N.tn w1 e⟩
end HV.k04

end

section
/-! L_k04m: the names and their ways back, in a dict. Core Lean. -/
namespace HV.k04
open HV
variable {S : Sm} {B : Int} {E : Hm} {h : Hm}
/-- objects of the law's own: no references, no dicts within -/
structure OkE (E : Hm) : Prop where
  nr : noRef E
  no : E.all noO = true
theorem OkE.app {E F : Hm} (a : OkE E) (b : OkE F) : OkE (E ++ F) := ⟨noRef_app a.nr b.nr, by rw [List.all_append, a.no, b.no]; rfl⟩
def envX (sc : Vl) (x2 : Option Vl) (ax : Nat) (halls : List Txt) (ts : List Tie) (x6 x7 x10 x11 x12 x13 x14 : Option Vl) : Env := [some sc, some (.rf 1), x2, some (.fz (.lst (ts.map row))), some (.fz (planV ax halls ts)), some (.fz (netV ax halls ts)), x6, x7, some (.fz (.int (ax : Int))), some (.fz (.lst (stxs halls))), x10, x11, x12, x13, x14, none, none, none]
def D0 (ws : List Txt) : List (PV × PV) := ws.map fun w => (.str w, .str (rp w))
def fzD (l : List (PV × PV)) : List (PV × Vl) := l.map fun p => (p.1, .fz p.2)
theorem pairs_D0 : ∀ ws : List Txt, pairsV (ws.map fun w => .tup [.str w, .str (rp w)]) = some (D0 ws)
  | [] => rfl
  | w :: ws => by
    simp only [List.map_cons, pairsV, pairs_D0 ws]
    rfl
theorem pairs_R0 : ∀ ws : List Txt, pairsV (ws.map fun w => .tup [.str (rp w), .str w]) = some (ws.map fun w => (PV.str (rp w), PV.str w))
  | [] => rfl
  | w :: ws => by
    simp only [List.map_cons, pairsV, pairs_R0 ws]
theorem dict_D0 {ws : List Txt} (nd : ws.Nodup) : dictV (.lst (ws.map fun w => .tup [.str w, .str (rp w)])) = some (.dct (D0 ws)) := by
  have hk : (D0 ws).all (fun p => isKey p.1) = true := by
    unfold D0
    rw [List.all_map]
    exact List.all_eq_true.mpr fun t _ => rfl
  simp only [dictV, pairs_D0, hk, if_true]
  have := merge_new (fun w => PV.str (rp w)) ws [] (by simpa using nd)
  simp only [List.map_nil, List.nil_append] at this
  unfold D0
  rw [this]
/-- the way back, merged: keys by a function g of the words -/
theorem merge_g {α : Type} (g : Txt → Txt) (hg : ∀ a b, g a = g b → a = b) (f : Txt → α) : ∀ (ws vs : List Txt) (base : List (PV × α)), (vs ++ ws).Nodup → (∀ p ∈ base, ∀ w ∈ ws, eqvP p.1 (.str (g w)) = false) →
    mergeD (base ++ vs.map fun w => (PV.str (g w), f w)) (ws.map fun w => (PV.str (g w), f w)) = base ++ (vs ++ ws).map fun w => (PV.str (g w), f w)
  | [], vs, base, _, _ => by simp [mergeD]
  | w :: ws, vs, base, nd, hb => by
    have hw : w ∉ vs := fun z => (List.nodup_append.mp nd).2.2 w z w (by simp) rfl
    show mergeD (putD (base ++ vs.map fun w => (PV.str (g w), f w)) (.str (g w)) (f w)) (ws.map fun w => (PV.str (g w), f w)) = _
    rw [putD_new (fun p hp => by
      rcases List.mem_append.mp hp with hp | hp
      · exact hb p hp w (by simp)
      · obtain ⟨v, hv, rfl⟩ := List.mem_map.mp hp
        show eqvP (.str (g v)) (.str (g w)) = false
        rw [eqvP_str, beq_eq_false_iff_ne]
        exact fun z => hw (hg _ _ z ▸ hv))]
    have := merge_g g hg f ws (vs ++ [w]) base (by simpa using nd) fun p hp v hv => hb p hp v (List.mem_cons_of_mem _ hv)
    simp only [List.map_append, List.map_cons, List.map_nil, List.append_assoc, List.cons_append, List.nil_append] at this ⊢
    exact this
theorem dict_R0 {ws : List Txt} (nd : ws.Nodup) : dictV (.lst (ws.map fun w => .tup [.str (rp w), .str w])) = some (.dct (ws.map fun w => (PV.str (rp w), PV.str w))) := by
  have hk : (ws.map fun w => (PV.str (rp w), PV.str w)).all (fun p => isKey p.1) = true := by
    rw [List.all_map]
    exact List.all_eq_true.mpr fun t _ => rfl
  simp only [dictV, pairs_R0, hk, if_true]
  have := merge_g rp (fun a b => rp_inj) (fun w => PV.str w) ws [] [] (by simpa using nd) fun p hp => by simp at hp
  simp only [List.map_nil, List.nil_append] at this
  rw [this]
def D1 (ws : List Txt) : List (PV × PV) := D0 ws ++ ws.map fun w => (PV.str (rp w), PV.str w)
theorem merge_D1 {ws : List Txt} (nd : ws.Nodup) (gd : ∀ w ∈ ws, good w) : mergeD (fzD (D0 ws)) ((ws.map fun w => (PV.str (rp w), PV.str w)).map fun e => (e.1, Vl.fz e.2)) = fzD (D1 ws) := by
  have := merge_g rp (fun a b => rp_inj) (fun w => Vl.fz (.str w)) ws [] (fzD (D0 ws)) (by simpa using nd) (fun p hp w hw => by
    obtain ⟨q, hq, rfl⟩ := List.mem_map.mp hp
    obtain ⟨v, hv, rfl⟩ := List.mem_map.mp hq
    show eqvP (.str v) (.str (rp w)) = false
    rw [eqvP_str, beq_eq_false_iff_ne]
    exact good_not_rp (gd v hv))
  simp only [List.map_nil, List.append_nil, List.nil_append] at this
  rw [List.map_map]
  unfold D1 fzD at *
  rw [List.map_append, List.map_map]
  exact this
/-- what stands at a name -/
theorem get_D1 {ws : List Txt} (gd : ∀ w ∈ ws, good w) {v : Txt} (hv : v ∈ ws ++ ws.map rp) : ∃ u ∈ ws ++ ws.map rp, dGetH (fzD (D1 ws)) (.str v) = some (.fz (.str u)) := by
  have key : ∀ (l : List (PV × PV)), (∃ p ∈ l, eqvP p.1 (.str v) = true) → (∀ p ∈ l, ∃ u ∈ ws ++ ws.map rp, p.2 = .str u) → ∃ u ∈ ws ++ ws.map rp, dGetH (fzD l) (.str v) = some (.fz (.str u)) := by
    intro l
    induction l with
    | nil => intro ⟨p, hp, _⟩ _; simp at hp
    | cons p l ih =>
      intro ⟨q, hq, e⟩ H
      show ∃ u ∈ ws ++ ws.map rp, (if eqvP p.1 (.str v) = true then some (Vl.fz p.2) else dGetH (fzD l) (.str v)) = _
      by_cases z : eqvP p.1 (.str v) = true
      · obtain ⟨u, hu, e2⟩ := H p (by simp)
        exact ⟨u, hu, by rw [if_pos z, e2]⟩
      · rw [if_neg z]
        refine ih ⟨q, ?_, e⟩ fun p hp => H p (List.mem_cons_of_mem _ hp)
        rcases List.mem_cons.mp hq with rfl | hq
        · exact absurd e z
        · exact hq
  refine key (D1 ws) ?_ fun p hp => ?_
  · rcases List.mem_append.mp hv with hv | hv
    · exact ⟨(.str v, .str (rp v)), List.mem_append_left _ (List.mem_map.mpr ⟨v, hv, rfl⟩), by rw [eqvP_str]; simp⟩
    · obtain ⟨w, hw, rfl⟩ := List.mem_map.mp hv
      exact ⟨(.str (rp w), .str w), List.mem_append_right _ (List.mem_map.mpr ⟨w, hw, rfl⟩), by rw [eqvP_str]; simp⟩
  · rcases List.mem_append.mp hp with hp | hp
    · obtain ⟨w, hw, rfl⟩ := List.mem_map.mp hp
      exact ⟨rp w, List.mem_append_right _ (List.mem_map_of_mem hw), rfl⟩
    · obtain ⟨w, hw, rfl⟩ := List.mem_map.mp hp
      exact ⟨w, List.mem_append_left _ hw, rfl⟩
theorem names_ext (ts : List Tie) : names (ext ts) = names ts ++ (names ts).map rp := by
  simp [names, ext, List.map_map, Function.comp_def, rv]
end HV.k04

end

section
/-! L_k04n: the steps of a turn. Core Lean. -/
namespace HV
theorem bd_one {G : Gx} {env : Env} {h : Hm} {e : Ex} {i : Int} (ha : G.ex e env h = .ok (.fz (.int i)) h) : bdE (G.oe (.one e)) env h = .ok (some i) h := by
  simp only [Gx.oe, bdE, ha, rb_ok]
theorem x_n1d {G : Gx} {env : Env} {h h1 : Hm} {a : Ex} {d : PV} {k : Nat} {kvs : List (PV × PV)} (ha : G.ex a env h = .ok (.fz d) h1) (e : s1V k d = some (.dct kvs)) : G.ex (.n1 k a) env h = .ok (.rf h1.length) (h1 ++ [some (.dct (kvs.map fun kv => (kv.1, .fz kv.2)))]) := by
  simp only [Gx.ex, op1, ha, rb_ok, opN1, shal, e, thaw, newD]
theorem cut_take {α : Type} (xs : List α) {k : Nat} (hk : k ≤ xs.length) : cutP xs none (some (k : Int)) = xs.take k := by
  unfold cutP sIxP
  dsimp only
  rw [if_neg (by omega)]
  simp
theorem cut_drop {α : Type} (xs : List α) {k : Nat} (hk : k ≤ xs.length) : cutP xs (some (k : Int)) none = xs.drop k := by
  unfold cutP sIxP
  dsimp only
  rw [if_neg (by omega), show min ((k : Int)).toNat xs.length = k by simp; omega]
  exact List.take_of_length_le (by rw [List.length_drop]; exact Nat.le_refl _)
theorem allFd_fzD : ∀ kvs : List (PV × PV), allFd (kvs.map fun p => (p.1, .fz p.2)) = some kvs
  | [] => rfl
  | (k, v) :: kvs => by
    simp only [List.map_cons, allFd, allFd_fzD kvs]
theorem x_updD {G : Gx} {env : Env} {h h1 h2 : Hm} {o a : Ex} {n : Nat} {kvs : List (PV × Vl)} {es : List (PV × PV)} (ho : G.ex o env h = .ok (.rf n) h1) (e1 : h1[n]? = some (some (.dct kvs))) (ha : G.ex a env h1 = .ok (.fz (.dct es)) h2) (e2 : h2[n]? = some (some (.dct kvs))) (hl : kvs.length + es.length ≤ LIM) :
    G.ex (.upd o a) env h = .ok (.fz .non) (h2.set n (some (.dct (mergeD kvs (es.map fun e => (e.1, Vl.fz e.2)))))) := by
  simp only [Gx.ex, updE, ho, rb_ok, isDctH, e1, if_true, ha, updW, e2, if_pos hl]
end HV
namespace HV.k04
open HV
variable {S : Sm} {B : Int} {E : Hm} {h : Hm}
theorem add_rp (w : Txt) (hw : w.length ≤ 100) : binV 0 (.str [114, 46]) (.str w) = some (.str (rp w)) := by
  simp only [binV, addV]
  rw [if_pos]
  · rfl
  · show _ ≤ 16777216
    simp
    omega
theorem good_len {w : Txt} (g : good w) : w.length ≤ 100 := by
  rcases g with ⟨_, h, _⟩ | ⟨l, _, rfl⟩
  · omega
  · simp
theorem st_names (n : Nat) {ax : Nat} {halls : List Txt} {ts : List Tie} (P : PlanOk ax halls ts) (sc : Vl) (x2 x6 x7 x10 x11 x12 x13 x14 : Option Vl) :
    (gx n).st (.set 11 (.n1 2 (.lc [15] (.nm 15) (.val (.slc (.var 3) .non (.one (.bin 3 (.len (.var 3)) (.cst (.int 2)))))) .yes (.tup (.cons (.idx (.var 15) (.cst (.int 0))) (.cons (.bin 0 (.cst (.str [114, 46])) (.idx (.var 15) (.cst (.int 0)))) .nil)))))) (envX sc x2 ax halls (ext ts) x6 x7 x10 x11 x12 x13 x14) (hp S E)
      = .nx (envX sc x2 ax halls (ext ts) x6 x7 x10 (some (.rf (E.length + 2))) x12 x13 x14) (hp S (E ++ [some (MO.dct (fzD (D0 (names ts))))])) := by
  have hlen : (ext ts).length = ts.length + ts.length := by simp [ext]
  have hslc : (gx n).ex (.slc (.var 3) .non (.one (.bin 3 (.len (.var 3)) (.cst (.int 2))))) (envX sc x2 ax halls (ext ts) x6 x7 x10 x11 x12 x13 x14) (hp S E) = .ok (.fz (.lst (ts.map row))) (hp S E) := by
    refine x_slc0 (l := none) (u := some ((ts.length : Nat) : Int)) (d := .lst ((ext ts).map row)) (x_var rfl) rfl (bd_one (x_bin (k := 3) (x_len (x_var rfl) lenH_lst) (x_cst rfl) ?_)) ?_
    · rw [List.length_map, hlen]
      have p : ((2 : Int).natAbs.log2) < 9000 := by decide
      simp only [binV, fdivV]
      rw [if_pos ⟨by decide, p⟩]
      have : (((ts.length + ts.length : Nat) : Int)) / 2 = ((ts.length : Nat) : Int) := by omega
      rw [this]
    · show some (PV.lst (cutP ((ext ts).map row) none (some ((ts.length : Nat) : Int)))) = _
      rw [cut_take _ (by rw [List.length_map, hlen]; omega), ← List.map_take]
      simp [ext]
  have l1 : lcN ((gx n).tg (.nm 15)) ((gx n).ts .yes) (frzR ((gx n).ex (.tup (.cons (.idx (.var 15) (.cst (.int 0))) (.cons (.bin 0 (.cst (.str [114, 46])) (.idx (.var 15) (.cst (.int 0)))) .nil))))) (wipeE [15] (envX sc x2 ax halls (ext ts) x6 x7 x10 x11 x12 x13 x14)) (fzs (ts.map row)) (hp S E) = .ok (ts.map fun t => PV.tup [.str t.nm, .str (rp t.nm)]) (hp S E) :=
    lcN_map row _ (fun t => [some sc, some (.rf 1), x2, some (.fz (.lst ((ext ts).map row))), some (.fz (planV ax halls (ext ts))), some (.fz (netV ax halls (ext ts))), x6, x7, some (.fz (.int (ax : Int))), some (.fz (.lst (stxs halls))), x10, x11, x12, x13, x14, some (.fz (row t)), none, none]) ts fun t ht => ⟨rfl, rfl, frzR_ok (x_tup (ds := [.str t.nm, .str (rp t.nm)]) (es_cons0 (x_idx (x_var rfl) (x_cst rfl) rfl) (es_cons0 (x_bin (k := 0) (x_cst rfl) (x_idx (z := .fz (.str t.nm)) (x_var rfl) (x_cst rfl) rfl) (add_rp t.nm (good_len (P.tg t ht).1))) es_nil0)) rfl (by simp [LIM]))⟩
  have e1 : (ts.map fun t => PV.tup [.str t.nm, .str (rp t.nm)]) = (names ts).map fun w => PV.tup [.str w, .str (rp w)] := by simp [names, List.map_map, Function.comp_def]
  rw [e1] at l1
  exact s_set0 (x_n1d (k := 2) (kvs := D0 (names ts)) (x_lc (sr_fz hslc rfl) l1) (dict_D0 P.tn)) (by simp [envX])
theorem noO_D0 (ws : List Txt) : OkE [some (MO.dct (fzD (D0 ws)))] := by
  refine ⟨?_, ?_⟩
  · simp [noRef, refsO, refsV, fzD]
  · simp [noO, noV, fzD, D0, noD]
theorem noO_D1 (ws : List Txt) : OkE [some (MO.dct (fzD (D1 ws)))] := by
  refine ⟨?_, ?_⟩
  · simp [noRef, refsO, refsV, fzD]
  · simp [noO, noV, fzD, D1, D0, noD]
end HV.k04

end

section
/-! L_k04o: the ways back are added. Core Lean. -/
namespace HV
theorem x_lcK0 {G : Gx} {env : Env} {h h1 : Hm} {own : List Nat} {tg : Tg} {i n : Nat} {t : Ts} {a : Ex} {kvs : List (PV × Vl)} {ds : List (PV × PV)} {ys : List PV} (e1 : env[i]? = some (some (.rf n))) (e2 : h[n]? = some (some (.dct kvs))) (e3 : allFd kvs = some ds)
    (hl : lcN (G.tg tg) (G.ts t) (frzR (G.ex a)) (wipeE own (env.set i (some (.fz (.dct ds))))) (ds.map fun kv => .fz kv.1) (h.set n none) = .ok ys h1) (hc : noDs ys = true ∧ h1.all noO = true) : G.ex (.lcK own tg i t a) env h = .ok (.fz (.lst ys)) (h1.set n (some (.dct kvs))) := by
  simp only [Gx.ex, lcKV, e1, e2, e3, hl, sure_ok, rb_ok, if_pos hc]
theorem hp_noO (S : Sm) (E : Hm) : (hp S E).all noO = E.all noO := by
  unfold hp ivls
  rw [List.all_cons, List.all_cons]
  have e1 : noO (some (.lst (S.cs.map fun i => Vl.fz (.int i)))) = true := by simp [noO, noV, noD]
  have e2 : noO (some (.lst [.rf 0, .fz (.int S.a), .fz (.int S.b), .fz (.int S.c)])) = true := by simp [noO, noV, noD]
  rw [e1, e2]
  rfl
end HV
namespace HV.k04
open HV
variable {S : Sm} {B : Int} {E : Hm} {h : Hm}
theorem get_D0 {w : Txt} : ∀ {ws : List Txt}, w ∈ ws → dGet (D0 ws) (.str w) = some (.str (rp w))
  | v :: ws, hw => by
    show (if eqvP (.str v) (.str w) = true then some (.str (rp v)) else dGet (D0 ws) (.str w)) = _
    rw [eqvP_str]
    by_cases e : v = w
    · subst e; simp
    · rw [beq_eq_false_iff_ne.mpr e, if_neg Bool.false_ne_true]
      refine get_D0 ?_
      rcases List.mem_cons.mp hw with rfl | hw
      · exact absurd rfl e
      · exact hw
theorem noDs_R0 : ∀ ws : List Txt, noDs (ws.map fun w => .tup [.str (rp w), .str w]) = true
  | [] => by simp [noDs]
  | w :: ws => by
    have := noDs_R0 ws
    simp only [List.map_cons, noDs, noD, this, Bool.and_self]
theorem st_upd (n : Nat) {ax : Nat} {halls : List Txt} {ts ts' : List Tie} (nd : (names ts).Nodup) (gd : ∀ w ∈ names ts, good w) (hl : ts.length ≤ 100) (hE : OkE E) (sc : Vl) (x2 x6 x7 x10 x12 x13 x14 : Option Vl) :
    (gx n).st (.exp (.upd (.var 11) (.s1 2 (.lcK [16] (.nm 16) 11 .yes (.tup (.cons (.idx (.var 11) (.var 16)) (.cons (.var 16) .nil))))))) (envX sc x2 ax halls ts' x6 x7 x10 (some (.rf (E.length + 2))) x12 x13 x14) (hp S (E ++ [some (MO.dct (fzD (D0 (names ts))))]))
      = .nx (envX sc x2 ax halls ts' x6 x7 x10 (some (.rf (E.length + 2))) x12 x13 x14) (hp S (E ++ [some (MO.dct (fzD (D1 (names ts))))])) := by
  have l1 : lcN ((gx n).tg (.nm 16)) ((gx n).ts .yes) (frzR ((gx n).ex (.tup (.cons (.idx (.var 11) (.var 16)) (.cons (.var 16) .nil))))) (wipeE [16] ((envX sc x2 ax halls ts' x6 x7 x10 (some (.rf (E.length + 2))) x12 x13 x14).set 11 (some (.fz (.dct (D0 (names ts))))))) (fzs (stxs (names ts))) (hp S (E ++ [none])) = .ok ((names ts).map fun w => PV.tup [.str (rp w), .str w]) (hp S (E ++ [none])) :=
    lcN_map PV.str _ (fun w => [some sc, some (.rf 1), x2, some (.fz (.lst (ts'.map row))), some (.fz (planV ax halls ts')), some (.fz (netV ax halls ts')), x6, x7, some (.fz (.int (ax : Int))), some (.fz (.lst (stxs halls))), x10, some (.fz (.dct (D0 (names ts)))), x12, x13, x14, none, some (.fz (.str w)), none]) (names ts) fun w hw => ⟨rfl, rfl, frzR_ok (x_tup (ds := [.str (rp w), .str w]) (es_cons0 (x_idx (z := .fz (.str (rp w))) (x_var rfl) (x_var rfl) (by show liftF (dGet (D0 (names ts)) (.str w)) _ = _; rw [get_D0 hw]; rfl)) (es_cons0 (x_var rfl) es_nil0)) rfl (by simp [LIM]))⟩
  have ek : (gx n).ex (.lcK [16] (.nm 16) 11 .yes (.tup (.cons (.idx (.var 11) (.var 16)) (.cons (.var 16) .nil)))) (envX sc x2 ax halls ts' x6 x7 x10 (some (.rf (E.length + 2))) x12 x13 x14) (hp S (E ++ [some (MO.dct (fzD (D0 (names ts))))])) = .ok (.fz (.lst ((names ts).map fun w => PV.tup [.str (rp w), .str w]))) (hp S (E ++ [some (MO.dct (fzD (D0 (names ts))))])) := by
    have := x_lcK0 (G := gx n) (own := [16]) (tg := .nm 16) (i := 11) (n := E.length + 2) (t := .yes) (a := .tup (.cons (.idx (.var 11) (.var 16)) (.cons (.var 16) .nil))) (env := envX sc x2 ax halls ts' x6 x7 x10 (some (.rf (E.length + 2))) x12 x13 x14) (h := hp S (E ++ [some (MO.dct (fzD (D0 (names ts))))])) (h1 := hp S (E ++ [none])) (kvs := fzD (D0 (names ts))) (ds := D0 (names ts)) (ys := (names ts).map fun w => PV.tup [.str (rp w), .str w]) rfl (hp_at rfl) (allFd_fzD _) (by
      rw [hp_set rfl]
      rw [show (D0 (names ts)).map (fun kv => Vl.fz kv.1) = fzs (stxs (names ts)) by simp [D0, fzs, stxs, List.map_map, Function.comp_def]]
      exact l1) ⟨noDs_R0 _, by rw [hp_noO, List.all_append, hE.no]; rfl⟩
    rw [hp_set rfl] at this
    exact this
  have hd := dict_R0 nd
  have hlen : (fzD (D0 (names ts))).length + ((names ts).map fun w => (PV.str (rp w), PV.str w)).length ≤ LIM := by
    simp only [fzD, D0, names, List.length_map]
    show _ ≤ 16777216
    omega
  refine (s_exp0 (x_updD (n := E.length + 2) (x_var rfl) (hp_at rfl) (x_s1 (k := 2) ek hd) (hp_at rfl) hlen)).trans ?_
  rw [hp_set rfl, merge_D1 nd gd]
end HV.k04

end

section
/-! L_k04p: the things that are looked at. Core Lean. -/
namespace HV
theorem x_rev0 {G : Gx} {env : Env} {h h1 : Hm} {a : Ex} {ds : List PV} (ha : G.ex a env h = .ok (.fz (.lst ds)) h1) : G.ex (.rev a) env h = .ok (.fz (.lst ds.reverse)) h1 := by
  simp only [Gx.ex, op1, ha, rb_ok, opS1, shal, revV, liftF_some]
end HV
namespace HV.k04
open HV
variable {S : Sm} {B : Int} {E : Hm} {h : Hm}
theorem add_strs {a b : List Txt} (hl : a.length + b.length ≤ 1000) : binV 0 (.lst (stxs a)) (.lst (stxs b)) = some (.lst (stxs (a ++ b))) := by
  simp only [binV, addV]
  rw [if_pos]
  · simp [stxs]
  · rw [strs_len, strs_len]; show _ ≤ 16777216; omega
theorem dbl_strs {a : List Txt} (hl : a.length ≤ 1000) : binV 2 (.lst (stxs a)) (.int 2) = some (.lst (stxs (a ++ a))) := by
  simp only [binV, mulV]
  rw [if_pos ⟨by decide, by decide, by rw [strs_len]; show a.length * 2 ≤ 16777216; omega⟩]
  show some (PV.lst ([stxs a, stxs a].flatten)) = _
  simp [stxs]
def thV (th : List (List Txt)) : List PV := th.map fun a => .lst (stxs a)
/-- what a list of things must be -/
def ThOk (nm : List Txt) (th : List (List Txt)) : Prop := ∀ a ∈ th, (∀ w ∈ a, w ∈ nm) ∧ a.length ≤ 100
theorem txts : ∀ (nm : List Txt) (ys : List PV), (∀ y ∈ ys, ∃ u ∈ nm, y = .str u) → ∃ l : List Txt, ys = stxs l ∧ ∀ w ∈ l, w ∈ nm
  | nm, [], _ => ⟨[], rfl, fun w hw => by simp at hw⟩
  | nm, y :: ys, H => by
    obtain ⟨u, hu, rfl⟩ := H y (by simp)
    obtain ⟨l, rfl, hl⟩ := txts nm ys fun y hy => H y (List.mem_cons_of_mem _ hy)
    exact ⟨u :: l, rfl, fun w hw => by
      rcases List.mem_cons.mp hw with rfl | hw
      · exact hu
      · exact hl w hw⟩
theorem st_some (n : Nat) {ax : Nat} {halls : List Txt} {ts ts' : List Tie} (gd : ∀ w ∈ names ts, good w) {ws : List Txt} (hw : ∀ w ∈ ws, w ∈ names ts ++ (names ts).map rp) (hl : ws.length ≤ 10) (sc : Vl) (x2 x6 x7 x12 x13 x14 : Option Vl) :
    ∃ th, (gx n).st (.set 12 (.nlst (.cons (.var 10) (.cons (.bin 0 (.var 10) (.lc [16] (.nm 16) (.val (.rev (.var 10))) .yes (.idx (.var 11) (.var 16)))) (.cons (.bin 2 (.var 10) (.cst (.int 2))) (.cons (.bin 0 (.slc (.var 10) (.one (.cst (.int 1))) .non) (.slc (.var 10) .non (.one (.cst (.int 1))))) .nil)))))) (envX sc x2 ax halls ts' x6 x7 (some (.fz (.lst (stxs ws)))) (some (.rf (E.length + 2))) x12 x13 x14) (hp S (E ++ [some (MO.dct (fzD (D1 (names ts))))]))
      = .nx (envX sc x2 ax halls ts' x6 x7 (some (.fz (.lst (stxs ws)))) (some (.rf (E.length + 2))) (some (.rf (E.length + 3))) x13 x14) (hp S (E ++ [some (MO.dct (fzD (D1 (names ts)))), some (MO.lst (fzs (thV th)))])) ∧ ThOk (names ts ++ (names ts).map rp) th ∧ th.length = 4 := by
  let env := envX sc x2 ax halls ts' x6 x7 (some (.fz (.lst (stxs ws)))) (some (.rf (E.length + 2))) x12 x13 x14
  let hh := hp S (E ++ [some (MO.dct (fzD (D1 (names ts))))])
  obtain ⟨ys, h', q1, q2, q3, rfl⟩ := lcN_all (g := (gx n).tg (.nm 16)) (c := (gx n).ts .yes) (e := frzR ((gx n).ex (.idx (.var 11) (.var 16)))) (env := wipeE [16] env) (fun _ h => h = hh) (fun y => ∃ u ∈ names ts ++ (names ts).map rp, y = .str u) (fzs (stxs ws.reverse)) 0 hh rfl (fun j d hd h hI => by
    subst hI
    have hm : d ∈ fzs (stxs ws.reverse) := List.mem_of_getElem? hd
    obtain ⟨p, hp1, rfl⟩ := List.mem_map.mp hm
    obtain ⟨v, hv, rfl⟩ := List.mem_map.mp hp1
    obtain ⟨u, hu, e⟩ := get_D1 gd (hw v (List.mem_reverse.mp hv))
    refine ⟨_, tg_nm (by simp [env, wipeE, envX]), rfl, .str u, hh, frzR_ok (x_idx (x_var rfl) (x_var rfl) ?_), ⟨u, hu, rfl⟩, rfl⟩
    have e2 : hh[E.length + 2]? = some (some (MO.dct (fzD (D1 (names ts))))) := hp_at rfl
    show (match hh[E.length + 2]? with | some (some (.lst xs)) => _ | some (some (.dct kvs)) => _ | _ => _) = _
    rw [e2]
    dsimp only
    rw [if_pos (show isKey (.str v) = true from rfl), e]
    rfl)
  obtain ⟨back, rfl, hb⟩ := txts _ ys q3
  have hbl : back.length = ws.length := by rw [fzs_len, strs_len, strs_len, List.length_reverse] at q2; exact q2
  have er : stxs ws.reverse = (stxs ws).reverse := by simp [stxs]
  rw [er] at q1
  refine ⟨[ws, ws ++ back, ws ++ ws, ws.drop 1 ++ ws.take 1], ?_, ?_, rfl⟩
  · have e3 : (gx n).ex (.bin 0 (.slc (.var 10) (.one (.cst (.int 1))) .non) (.slc (.var 10) .non (.one (.cst (.int 1))))) env hh = .ok (.fz (.lst (stxs (ws.drop 1 ++ ws.take 1)))) hh := by
      refine x_bin (k := 0) (d1 := .lst (stxs (ws.drop 1))) (d2 := .lst (stxs (ws.take 1))) (x_slc0 (l := some 1) (u := none) (x_var rfl) rfl rfl ?_) (x_slc0 (l := none) (u := some 1) (x_var rfl) rfl rfl ?_) (add_strs (by rw [List.length_drop, List.length_take]; omega))
      · show some (PV.lst (cutP (stxs ws) (some 1) none)) = _
        rw [cut1]; simp [stxs]
      · show some (PV.lst (cutP (stxs ws) none (some 1))) = _
        rw [cut0]; simp [stxs]
    have hL : hh.length = E.length + 3 := by simp [hh, hp]
    have hA : ∀ o : Option MO, hh ++ [o] = hp S (E ++ [some (MO.dct (fzD (D1 (names ts)))), o]) := fun o => by simp [hh, hp]
    refine (s_set0 (G := gx n) (env := env) (h := hh) (i := 12) (x_nlst (vs := fzs (thV [ws, ws ++ back, ws ++ ws, ws.drop 1 ++ ws.take 1])) (es_cons0 (x_var rfl) (es_cons0 (x_bin (k := 0) (x_var rfl) (x_lc (sr_fz (x_rev0 (x_var rfl)) rfl) q1) (add_strs (by omega))) (es_cons0 (x_bin (k := 2) (x_var rfl) (x_cst rfl) (dbl_strs (by omega))) (es_cons0 e3 es_nil0)))) (by simp [fzs, thV, LIM])) (by simp [env, envX])).trans ?_
    rw [hL, hA]
    rfl
  · intro a ha
    simp only [List.mem_cons, List.not_mem_nil, or_false] at ha
    rcases ha with rfl | rfl | rfl | rfl
    · exact ⟨hw, by omega⟩
    · exact ⟨fun w h => (List.mem_append.mp h).elim (hw w) (hb w), by rw [List.length_append]; omega⟩
    · exact ⟨fun w h => (List.mem_append.mp h).elim (hw w) (hw w), by rw [List.length_append]; omega⟩
    · exact ⟨fun w h => (List.mem_append.mp h).elim (fun z => hw w (List.mem_of_mem_drop z)) (fun z => hw w (List.mem_of_mem_take z)), by rw [List.length_append, List.length_drop, List.length_take]; omega⟩
end HV.k04

end

section
/-! L_k04q: the things, one by one. Core Lean. -/
namespace HV
theorem s_forL {G : Gx} {env e1 : Env} {h h1 h2 : Hm} {t : Tg} {s : Sr} {q : Sts} {ds : List Vl} {n : Nat} {m : MO} (hs : G.sr s env h = .ok (ds, [(n, m)]) h1) (hf : forN (G.tg t) (G.sts q) ds env (h1.set n none) = .nx e1 h2) : G.st (.for_ t s q) env h = .nx e1 (h2.set n (some m)) := by
  simp only [Gx.st, hs, rs_ok, lockH, hf]
  rfl
end HV
namespace HV.k04
open HV
variable {S : Sm} {B : Int} {E : Hm} {h : Hm}
def bodyQ : Sts := (.cons (.ite (.not (.val (.call 28 (.cons (.call 21 (.cons (.var 5) (.cons (.call 27 (.cons (.var 1) (.cons (.lst (.cons (.var 14) (.cons (.s1 1 (.var 14)) .nil))) .nil))) .nil))) (.cons (.call 29 (.cons (.var 4) (.cons (.var 14) .nil))) .nil))))) (.cons (.ret (.cst (.bl false))) .nil) .nil) .nil)
theorem loop_q (n : Nat) {ax : Nat} {halls : List Txt} {ts : List Tie} (N : NetOk ax halls ts) {th : List (List Txt)} (T : ThOk (names ts) th) (hl : th.length ≤ 100) (sc : Vl) (x2 x6 x7 x10 x11 x12 x13 x14 : Option Vl) (ok : S.Ok B) (hB : B ≤ 10000000000) :
    ∃ (S' : Sm) (y14 : Option Vl), forN ((gx (n + 3)).tg (.nm 14)) ((gx (n + 3)).sts bodyQ) (fzs (thV th)) (envX sc x2 ax halls ts x6 x7 x10 x11 x12 x13 x14) (hp S E) = .nx (envX sc x2 ax halls ts x6 x7 x10 x11 x12 x13 y14) (hp S' E) ∧ S'.Ok (B + 100) := by
  obtain ⟨e2, h', q1, S2, y14, rfl, rfl, ok2⟩ := forN_inv (g := (gx (n + 3)).tg (.nm 14)) (b := (gx (n + 3)).sts bodyQ)
    (fun k env h => ∃ (S' : Sm) (y14 : Option Vl), env = envX sc x2 ax halls ts x6 x7 x10 x11 x12 x13 y14 ∧ h = hp S' E ∧ S'.Ok (B + k))
    (fzs (thV th)) 0 (envX sc x2 ax halls ts x6 x7 x10 x11 x12 x13 x14) (hp S E) ⟨S, x14, rfl, rfl, ok.mono (by omega)⟩ (fun j d hd env h hI => by
      obtain ⟨S1, y14, rfl, rfl, ok1⟩ := hI
      rw [Nat.zero_add] at ok1 ⊢
      have hm : d ∈ fzs (thV th) := List.mem_of_getElem? hd
      have hj : j < 100 := by
        have := (List.getElem?_eq_some_iff.mp hd).1
        rw [fzs_len] at this
        have e : (thV th).length = th.length := by simp [thV]
        omega
      obtain ⟨p, hp1, rfl⟩ := List.mem_map.mp hm
      obtain ⟨a, ha, rfl⟩ := List.mem_map.mp hp1
      obtain ⟨g1, g2⟩ := T a ha
      obtain ⟨d2, m2, S2, e3, ok3⟩ := pick (E := E) (n + 1) (ds := [.lst (stxs a), .tup (stxs a)]) ok1 (by omega) (by simp) (by simp)
      have hsq : ∃ b, d2 = sq b (stxs a) := by
        simp only [List.mem_cons, List.not_mem_nil, or_false] at m2
        rcases m2 with rfl | rfl
        · exact ⟨true, rfl⟩
        · exact ⟨false, rfl⟩
      obtain ⟨b, rfl⟩ := hsq
      obtain ⟨t, b1, b2⟩ := both (h := hp S2 E) (n + 1) N b g1 (by omega)
      have b3 := same_bl (h := hp S2 E) (n + 2) t t
      refine ⟨envX sc x2 ax halls ts x6 x7 x10 x11 x12 x13 (some (.fz (.lst (stxs a)))), rfl, _, _, bb_cons (s_iteF (t_not0 (t := true) (t_val0 (d := .bl true) (x_call (es_cons0 (x_call (es_cons0 (x_var rfl) (es_cons0 (x_call (es_cons0 (x_var rfl) (es_cons0 (x_lst (ds := [.lst (stxs a), .tup (stxs a)]) (es_cons0 (x_var rfl) (es_cons0 (x_s1 (k := 1) (d := .lst (stxs a)) (x_var rfl) rfl) es_nil0)) rfl (by simp [LIM])) es_nil0)) e3) es_nil0)) b1) (es_cons0 (x_call (es_cons0 (x_var rfl) (es_cons0 (x_var rfl) es_nil0)) b2) es_nil0)) ?_) rfl)) bb_nil) bb_nil, S2, _, rfl, rfl, ok3.mono (by omega)⟩
      refine b3.trans ?_
      simp)
  have e : (fzs (thV th)).length = th.length := by rw [fzs_len]; simp [thV]
  rw [e] at ok2
  exact ⟨S2, y14, q1, ok2.mono (by omega)⟩
end HV.k04

end

section
/-! L_k04r: one inner turn. Core Lean. -/
namespace HV.k04
open HV
variable {S : Sm} {B : Int} {E : Hm} {h : Hm}
def bodyI : Sts := (.cons (.set 10 (.call 30 (.cons (.var 1) (.cons (.var 4) (.cons (.bin 0 (.cst (.int 1)) (.call 26 (.cons (.var 1) (.cons (.cst (.int 6)) .nil)))) .nil))))) (.cons (.set 11 (.n1 2 (.lc [15] (.nm 15) (.val (.slc (.var 3) .non (.one (.bin 3 (.len (.var 3)) (.cst (.int 2)))))) .yes (.tup (.cons (.idx (.var 15) (.cst (.int 0))) (.cons (.bin 0 (.cst (.str [114, 46])) (.idx (.var 15) (.cst (.int 0)))) .nil)))))) (.cons (.exp (.upd (.var 11) (.s1 2 (.lcK [16] (.nm 16) 11 .yes (.tup (.cons (.idx (.var 11) (.var 16)) (.cons (.var 16) .nil))))))) (.cons (.set 12 (.nlst (.cons (.var 10) (.cons (.bin 0 (.var 10) (.lc [16] (.nm 16) (.val (.rev (.var 10))) .yes (.idx (.var 11) (.var 16)))) (.cons (.bin 2 (.var 10) (.cst (.int 2))) (.cons (.bin 0 (.slc (.var 10) (.one (.cst (.int 1))) .non) (.slc (.var 10) .non (.one (.cst (.int 1))))) .nil)))))) (.cons (.set 13 (.call 26 (.cons (.var 1) (.cons (.bin 0 (.len (.var 10)) (.cst (.int 1))) .nil)))) (.cons (.exp (.app (.var 12) (.bin 0 (.bin 0 (.slc (.var 10) .non (.one (.var 13))) (.lst (.cons (.idx (.call 27 (.cons (.var 1) (.cons (.var 3) .nil))) (.cst (.int 0))) .nil))) (.slc (.var 10) (.one (.var 13)) .non)))) (.cons (.for_ (.nm 14) (.val (.var 12)) bodyQ) .nil)))))))
theorem th_ok (th : List (List Txt)) : OkE [some (MO.lst (fzs (thV th)))] := by
  have hn : ∀ a : List Txt, noDs (stxs a) = true := fun a => by
    induction a with
    | nil => simp [stxs, noDs]
    | cons w a ih => simp only [stxs, List.map_cons, noDs, noD, Bool.true_and] at ih ⊢; exact ih
  refine ⟨?_, ?_⟩
  · simp [noRef, refsO, refsV, fzs]
  · simp [noO, noV, fzs, thV, noD, hn]
theorem turn_ok (n : Nat) {ax : Nat} {halls : List Txt} {ts : List Tie} (P : PlanOk ax halls ts) (hE : OkE E) (sc : Vl) (x2 x6 x7 x10 x11 x12 x13 x14 : Option Vl) (ok : S.Ok B) (hB : B ≤ 1000000000) :
    ∃ (S' : Sm) (F : Hm) (y10 y11 y12 y13 y14 : Option Vl), (gx (n + 3)).sts bodyI (envX sc x2 ax halls (ext ts) x6 x7 x10 x11 x12 x13 x14) (hp S E) = .nx (envX sc x2 ax halls (ext ts) x6 x7 y10 y11 y12 y13 y14) (hp S' (E ++ F)) ∧ OkE (E ++ F) ∧ S'.Ok (B + 200) := by
  have N := ext_ok P
  have gd : ∀ w ∈ names ts, good w := fun w hw => by
    obtain ⟨t, ht, rfl⟩ := List.mem_map.mp hw
    exact (P.tg t ht).1
  have hex : (ext ts).length ≤ 100 := N.tl
  obtain ⟨d1, S1, e1, d10, d11, ok1⟩ := draw (E := E) (n + 2) (m := 6) ok (by omega) (by decide) (by decide)
  obtain ⟨k1, rfl⟩ : ∃ k : Nat, d1 = (k : Int) := ⟨d1.toNat, by omega⟩
  obtain ⟨ws, S2, e2, hws, hwl, ok2⟩ := gone_ok (E := E) n (ax := ax) (halls := halls) (ts := ext ts) P.h0 (by have := P.h1; omega) hex (m := 1 + k1) (by omega) ok1 (by omega)
  rw [names_ext] at hws
  have s1 : (gx (n + 3)).st (.set 10 (.call 30 (.cons (.var 1) (.cons (.var 4) (.cons (.bin 0 (.cst (.int 1)) (.call 26 (.cons (.var 1) (.cons (.cst (.int 6)) .nil)))) .nil))))) (envX sc x2 ax halls (ext ts) x6 x7 x10 x11 x12 x13 x14) (hp S E) = .nx (envX sc x2 ax halls (ext ts) x6 x7 (some (.fz (.lst (stxs ws)))) x11 x12 x13 x14) (hp S2 E) := by
    refine s_set0 (x_call (es_cons0 (x_var rfl) (es_cons0 (x_var rfl) (es_cons0 (x_bin (x_cst rfl) (x_call (es_cons0 (x_var rfl) (es_cons0 (x_cst rfl) es_nil0)) e1) rfl) es_nil0))) ?_) (by simp [envX])
    have : ((1 + k1 : Nat) : Int) = 1 + (k1 : Int) := by omega
    rw [← this]
    exact e2
  have s2 := st_names (S := S2) (E := E) (n + 3) P sc x2 x6 x7 (some (.fz (.lst (stxs ws)))) x11 x12 x13 x14
  have s3 := st_upd (S := S2) (E := E) (n + 3) (ax := ax) (halls := halls) (ts := ts) (ts' := ext ts) P.tn gd (by have := P.t1; omega) hE sc x2 x6 x7 (some (.fz (.lst (stxs ws)))) x12 x13 x14
  obtain ⟨th, s4, T, hth⟩ := st_some (S := S2) (E := E) (n + 3) (ax := ax) (halls := halls) (ts := ts) (ts' := ext ts) gd hws (by omega) sc x2 x6 x7 x12 x13 x14
  have hws2 : ∀ w ∈ ws, w ∈ names (ext ts) := by rw [names_ext]; exact hws
  have T : ThOk (names (ext ts)) th := by rw [names_ext]; exact T
  -- where a tie is put in
  let F1 : Hm := [some (MO.dct (fzD (D1 (names ts)))), some (MO.lst (fzs (thV th)))]
  obtain ⟨d5, S5, e5, d50, d51, ok5⟩ := draw (E := E ++ F1) (n + 2) (m := ((stxs ws).length : Int) + 1) ok2 (by omega) (by rw [strs_len]; omega) (by rw [strs_len]; omega)
  obtain ⟨k5, rfl⟩ : ∃ k : Nat, d5 = (k : Int) := ⟨d5.toNat, by omega⟩
  have hk5 : k5 ≤ ws.length := by rw [strs_len] at d51; omega
  have hne : (ext ts).map row ≠ [] := by
    have := P.t0
    cases ts with
    | nil => exact absurd rfl this
    | cons a l => simp [ext]
  obtain ⟨d6, m6, S6, e6, ok6⟩ := pick (E := E ++ F1) (n + 1) (ds := (ext ts).map row) ok5 (by omega) hne (by rw [List.length_map]; omega)
  obtain ⟨u, hu, rfl⟩ := List.mem_map.mp m6
  let env1 := envX sc x2 ax halls (ext ts) x6 x7 (some (.fz (.lst (stxs ws)))) (some (.rf (E.length + 2))) (some (.rf (E.length + 3))) (some (.fz (.int (k5 : Int)))) x14
  have s5 : (gx (n + 3)).st (.set 13 (.call 26 (.cons (.var 1) (.cons (.bin 0 (.len (.var 10)) (.cst (.int 1))) .nil)))) (envX sc x2 ax halls (ext ts) x6 x7 (some (.fz (.lst (stxs ws)))) (some (.rf (E.length + 2))) (some (.rf (E.length + 3))) x13 x14) (hp S2 (E ++ F1)) = .nx env1 (hp S5 (E ++ F1)) :=
    s_set0 (x_call (es_cons0 (x_var rfl) (es_cons0 (x_bin (k := 0) (x_len (x_var rfl) lenH_lst) (x_cst rfl) rfl) es_nil0)) e5) (by simp [envX])
  let ins := ws.take k5 ++ [u.nm] ++ ws.drop k5
  have eF : ∀ o : Option MO, E ++ [some (MO.dct (fzD (D1 (names ts)))), o] = (E ++ [some (MO.dct (fzD (D1 (names ts))))]) ++ o :: [] := fun o => by simp
  have hL : E.length + 3 = (E ++ [some (MO.dct (fzD (D1 (names ts))))]).length + 2 := by simp
  have at1 : ∀ (S : Sm) (o : Option MO), (hp S (E ++ [some (MO.dct (fzD (D1 (names ts)))), o]))[E.length + 3]? = some o := fun S o => by rw [eF]; exact hp_at hL
  have set1 : ∀ (S : Sm) (o o' : Option MO), (hp S (E ++ [some (MO.dct (fzD (D1 (names ts)))), o])).set (E.length + 3) o' = hp S (E ++ [some (MO.dct (fzD (D1 (names ts)))), o']) := fun S o o' => by rw [eF, eF]; exact hp_set hL
  have s6 : (gx (n + 3)).st (.exp (.app (.var 12) (.bin 0 (.bin 0 (.slc (.var 10) .non (.one (.var 13))) (.lst (.cons (.idx (.call 27 (.cons (.var 1) (.cons (.var 3) .nil))) (.cst (.int 0))) .nil))) (.slc (.var 10) (.one (.var 13)) .non)))) env1 (hp S5 (E ++ F1)) = .nx env1 (hp S6 (E ++ [some (MO.dct (fzD (D1 (names ts)))), some (MO.lst (fzs (thV (th ++ [ins]))))])) := by
    have ei : (gx (n + 3)).ex (.bin 0 (.bin 0 (.slc (.var 10) .non (.one (.var 13))) (.lst (.cons (.idx (.call 27 (.cons (.var 1) (.cons (.var 3) .nil))) (.cst (.int 0))) .nil))) (.slc (.var 10) (.one (.var 13)) .non)) env1 (hp S5 (E ++ F1)) = .ok (.fz (.lst (stxs ins))) (hp S6 (E ++ F1)) := by
      refine x_bin (k := 0) (d1 := .lst (stxs (ws.take k5 ++ [u.nm]))) (d2 := .lst (stxs (ws.drop k5))) (x_bin (k := 0) (d1 := .lst (stxs (ws.take k5))) (d2 := .lst (stxs [u.nm])) (x_slc0 (l := none) (u := some (k5 : Int)) (x_var rfl) rfl (bd_one (x_var rfl)) ?_) (x_lst (ds := [.str u.nm]) (es_cons0 (x_idx (x_call (es_cons0 (x_var rfl) (es_cons0 (x_var rfl) es_nil0)) e6) (x_cst rfl) rfl) es_nil0) rfl (by simp [LIM])) (add_strs (by rw [List.length_take]; simp; omega))) (x_slc0 (l := some (k5 : Int)) (u := none) (x_var rfl) (bd_one (x_var rfl)) rfl ?_) (add_strs (by rw [List.length_append, List.length_take, List.length_drop]; simp; omega))
      · show some (PV.lst (cutP (stxs ws) none (some (k5 : Int)))) = _
        rw [cut_take _ (by rw [strs_len]; exact hk5)]; simp [stxs]
      · show some (PV.lst (cutP (stxs ws) (some (k5 : Int)) none)) = _
        rw [cut_drop _ (by rw [strs_len]; exact hk5)]; simp [stxs]
    have hlt : (fzs (thV th)).length < LIM := by
      rw [fzs_len]
      have : (thV th).length = 4 := by simp [thV, hth]
      rw [this]
      decide
    refine (s_exp0 (x_app (n := E.length + 3) (xs := fzs (thV th)) (x_var rfl) (at1 S5 _) ei (at1 S6 _) hlt)).trans ?_
    rw [set1]
    simp [fzs, thV]
  have T2 : ThOk (names (ext ts)) (th ++ [ins]) := fun a ha => by
    rcases List.mem_append.mp ha with ha | ha
    · exact T a ha
    · simp only [List.mem_cons, List.not_mem_nil, or_false] at ha
      subst ha
      refine ⟨fun w hw => ?_, ?_⟩
      · rcases List.mem_append.mp hw with hw | hw
        · rcases List.mem_append.mp hw with hw | hw
          · exact hws2 w (List.mem_of_mem_take hw)
          · simp at hw; subst hw; exact List.mem_map_of_mem hu
        · exact hws2 w (List.mem_of_mem_drop hw)
      · simp only [ins, List.length_append, List.length_take, List.length_drop, List.length_cons, List.length_nil]
        omega
  obtain ⟨S7, y14, e7, ok7⟩ := loop_q (E := E ++ [some (MO.dct (fzD (D1 (names ts)))), none]) (S := S6) n N T2 (by simp [hth]) sc x2 x6 x7 (some (.fz (.lst (stxs ws)))) (some (.rf (E.length + 2))) (some (.rf (E.length + 3))) (some (.fz (.int (k5 : Int)))) x14 ok6 (by omega)
  have s7 : (gx (n + 3)).st (.for_ (.nm 14) (.val (.var 12)) bodyQ) env1 (hp S6 (E ++ [some (MO.dct (fzD (D1 (names ts)))), some (MO.lst (fzs (thV (th ++ [ins]))))])) = .nx (envX sc x2 ax halls (ext ts) x6 x7 (some (.fz (.lst (stxs ws)))) (some (.rf (E.length + 2))) (some (.rf (E.length + 3))) (some (.fz (.int (k5 : Int)))) y14) (hp S7 (E ++ [some (MO.dct (fzD (D1 (names ts)))), some (MO.lst (fzs (thV (th ++ [ins]))))])) := by
    refine (s_forL (sr_rf (n := E.length + 3) (xs := fzs (thV (th ++ [ins]))) (x_var rfl) (at1 S6 _)) (by rw [set1]; exact e7)).trans ?_
    rw [set1]
  exact ⟨S7, _, _, _, _, _, _, bb_cons s1 (bb_cons s2 (bb_cons s3 (bb_cons s4 (bb_cons s5 (bb_cons s6 (bb_cons s7 bb_nil)))))), hE.app ((noO_D1 _).app (th_ok _)), ok7.mono (by omega)⟩
end HV.k04

end

section
/-! L_k04s: the odd things. Core Lean. -/
namespace HV
theorem s_setT0 {G : Gx} {env e : Env} {h h1 : Hm} {t : Tg} {a : Ex} {v : Vl} (ha : G.ex a env h = .ok v h1) (e1 : G.tg t v env h1 = some e) : G.st (.setT t a) env h = .nx e h1 := by
  simp only [Gx.st, ha, rs_ok, e1, nxG]
end HV
namespace HV.k04
open HV
variable {S : Sm} {B : Int} {E : Hm} {h : Hm}
def odds (t : Tie) : List PV := [.non, .int 5, .str [], .str t.nm, .lst [], .dct [], .lst [.non], .lst [.lst []], .lst [.str [81]], .bl true, .lst [row t], .lst [.int 5]]
theorem odd_false (n : Nat) {ax : Nat} {halls : List Txt} {ts : List Tie} (N : NetOk ax halls ts) (t : Tie) {d : PV} (hd : d ∈ odds t) : run 2000 (n + 2) 21 [.fz (netV ax halls ts), .fz d] h = .ok (.fz (.bl false)) h := by
  have hQ : inNet ts (.str [81]) = false := by
    show decide ([81] ∈ names ts) = false
    refine decide_eq_false fun z => ?_
    obtain ⟨t, ht, e⟩ := List.mem_map.mp z
    have := (N.tg t ht).1
    rw [e] at this
    revert this
    decide
  simp only [odds, List.mem_cons, List.not_mem_nil, or_false] at hd
  rcases hd with rfl | rfl | rfl | rfl | rfl | rfl | rfl | rfl | rfl | rfl | rfl | rfl
  · exact is_way_nolist n halls ts rfl rfl
  · exact is_way_nolist n halls ts rfl rfl
  · exact is_way_nolist n halls ts rfl rfl
  · exact is_way_nolist n halls ts rfl rfl
  · exact is_way_nil n halls ts true
  · exact is_way_nolist n halls ts rfl rfl
  · exact is_way_odd n halls ts rfl rfl
  · exact is_way_odd n halls ts rfl rfl
  · exact is_way_odd n halls ts rfl hQ
  · exact is_way_nolist n halls ts rfl rfl
  · exact is_way_odd n halls ts (d := row t) rfl rfl
  · exact is_way_odd n halls ts rfl rfl
theorem x_dct0 {G : Gx} {env : Env} : G.ex (.dct .nil) env (hp S E) = .ok (.fz (.dct [])) (hp S (E ++ [none])) := by
  have := frz_dct (h := hp S E) (kvs := []) rfl
  have e1 : ndctE (G.es .nil) env (hp S E) = .ok (.rf (hp S E).length) (hp S E ++ [some (.dct [])]) := rfl
  simp only [Gx.ex, dctE]
  have e2 : ndctE esNil env (hp S E) = .ok (.rf (hp S E).length) (hp S E ++ [some (.dct [])]) := rfl
  simp only [Gx.es, e2, rb_ok]
  rw [show (hp S E ++ [some (MO.dct [])]) = hp S E ++ [some (MO.dct (([] : List (PV × PV)).map fun p => (p.1, Vl.fz p.2)))] from rfl, this]
  rfl
def envO (sc : Vl) (x2 x3 x4 x5 x6 x7 x8 x9 x10 x11 x12 x13 x14 : Option Vl) : Env := [some sc, some (.rf 1), x2, x3, x4, x5, x6, x7, x8, x9, x10, x11, x12, x13, x14, none, none, none]
def oddS : Stm := .set 7 (.lst (.cons (.cst .non) (.cons (.cst (.int 5)) (.cons (.cst (.str [])) (.cons (.idx (.idx (.var 3) (.cst (.int 0))) (.cst (.int 0))) (.cons (.lst .nil) (.cons (.dct .nil) (.cons (.lst (.cons (.cst .non) .nil)) (.cons (.lst (.cons (.lst .nil) .nil)) (.cons (.lst (.cons (.cst (.str [81])) .nil)) (.cons (.cst (.bl true)) (.cons (.lst (.cons (.idx (.var 3) (.cst (.int 0))) .nil)) (.cons (.lst (.cons (.cst (.int 5)) .nil)) .nil)))))))))))))
theorem odd_set (n : Nat) {ax : Nat} {halls : List Txt} {t : Tie} {ts : List Tie} (sc : Vl) (x2 x6 x7 x10 x11 x12 x13 x14 : Option Vl) :
    (gx n).st oddS (envX sc x2 ax halls (t :: ts) x6 x7 x10 x11 x12 x13 x14) (hp S E) = .nx (envX sc x2 ax halls (t :: ts) x6 (some (.fz (.lst (odds t)))) x10 x11 x12 x13 x14) (hp S (E ++ [none])) := by
  have e0 : (gx n).ex (.idx (.var 3) (.cst (.int 0))) (envX sc x2 ax halls (t :: ts) x6 x7 x10 x11 x12 x13 x14) (hp S E) = .ok (.fz (row t)) (hp S E) := x_idx (x_var rfl) (x_cst rfl) (idx_zero (ds := ts.map row))
  have e1 : (gx n).ex (.idx (.var 3) (.cst (.int 0))) (envX sc x2 ax halls (t :: ts) x6 x7 x10 x11 x12 x13 x14) (hp S (E ++ [none])) = .ok (.fz (row t)) (hp S (E ++ [none])) := x_idx (x_var rfl) (x_cst rfl) (idx_zero (ds := ts.map row))
  exact s_set0 (x_lst (ds := odds t) (es_cons0 (x_cst rfl) (es_cons0 (x_cst rfl) (es_cons0 (x_cst rfl) (es_cons0 (x_idx e0 (x_cst rfl) rfl) (es_cons0 (x_lst (ds := []) es_nil0 rfl (by decide)) (es_cons0 x_dct0 (es_cons0 (x_lst (ds := [.non]) (es_cons0 (x_cst rfl) es_nil0) rfl (by simp [LIM])) (es_cons0 (x_lst (ds := [.lst []]) (es_cons0 (x_lst (ds := []) es_nil0 rfl (by decide)) es_nil0) rfl (by simp [LIM])) (es_cons0 (x_lst (ds := [.str [81]]) (es_cons0 (x_cst rfl) es_nil0) rfl (by simp [LIM])) (es_cons0 (x_cst rfl) (es_cons0 (x_lst (ds := [row t]) (es_cons0 e1 es_nil0) rfl (by simp [LIM])) (es_cons0 (x_lst (ds := [.int 5]) (es_cons0 (x_cst rfl) es_nil0) rfl (by simp [LIM])) es_nil0)))))))))))) rfl (by simp [odds, LIM])) (by simp [envX])
theorem odd_any (n : Nat) {ax : Nat} {halls : List Txt} {ts : List Tie} (N : NetOk ax halls ts) (t : Tie) (sc : Vl) (x2 x6 x10 x11 x12 x13 x14 : Option Vl) :
    (gx (n + 2)).ts (.val (.b1 2 (.lc [14] (.nm 14) (.val (.var 7)) .yes (.cmp 9 (.call 21 (.cons (.var 5) (.cons (.var 14) .nil))) (.cst (.bl false)))))) (envX sc x2 ax halls ts x6 (some (.fz (.lst (odds t)))) x10 x11 x12 x13 x14) h = .ok false h := by
  have l1 : lcN ((gx (n + 2)).tg (.nm 14)) ((gx (n + 2)).ts .yes) (frzR ((gx (n + 2)).ex (.cmp 9 (.call 21 (.cons (.var 5) (.cons (.var 14) .nil))) (.cst (.bl false))))) (wipeE [14] (envX sc x2 ax halls ts x6 (some (.fz (.lst (odds t)))) x10 x11 x12 x13 x14)) (fzs ((odds t).map id)) h = .ok ((odds t).map fun _ => PV.bl false) h :=
    lcN_map id _ (fun d => envX sc x2 ax halls ts x6 (some (.fz (.lst (odds t)))) x10 x11 x12 x13 (some (.fz d))) (odds t) fun d hd => ⟨rfl, rfl, frzR_ok (x_cmp (x_call (es_cons0 (x_var rfl) (es_cons0 (x_var rfl) es_nil0)) (odd_false n N t hd)) (x_cst rfl) (by
      rw [cmpG_fz _ _ _ _ _ _ (fun _ _ z => by cases z) (fun _ _ z => by cases z)]
      rfl))⟩
  rw [List.map_id] at l1
  exact t_val0 (d := .bl false) (x_b1 (k := 2) (x_lc (sr_fz (x_var rfl) rfl) l1) rfl) rfl
end HV.k04

end

section
/-! L_k04t: the law. Core Lean. -/
namespace HV.k04
open HV
variable {S : Sm} {B : Int} {E : Hm} {h : Hm}
def bodyO : Sts := (.cons (.setT (.tp (.cons (.nm 8) (.cons (.nm 9) (.cons (.nm 3) .nil)))) (.call 23 (.cons (.var 1) (.cons (.call 26 (.cons (.var 1) (.cons (.cst (.int 3)) .nil))) (.cons (.cst (.int 3)) (.cons (.cst (.int 4)) (.cons (.cst (.int 1)) .nil))))))) (.cons (.set 3 (.bin 0 (.var 3) (.lc [15] (.nm 15) (.val (.var 3)) .yes (.tup (.cons (.bin 0 (.cst (.str [114, 46])) (.idx (.var 15) (.cst (.int 0)))) (.cons (.idx (.var 15) (.cst (.int 2))) (.cons (.idx (.var 15) (.cst (.int 1))) (.cons (.s1 1 (.lc [17] (.nm 17) (.val (.idx (.var 15) (.cst (.int 3)))) .yes (.bin 1 (.cst (.int 0)) (.var 17)))) .nil)))))))) (.cons (.set 4 (.tup (.cons (.var 8) (.cons (.var 9) (.cons (.var 3) .nil))))) (.cons (.set 5 (.call 24 (.cons (.var 4) .nil))) (.cons (.for_ (.nm 6) (.rng (.cst (.int 12))) bodyI) (.cons oddS (.cons (.ite (.val (.b1 2 (.lc [14] (.nm 14) (.val (.var 7)) .yes (.cmp 9 (.call 21 (.cons (.var 5) (.cons (.var 14) .nil))) (.cst (.bl false)))))) (.cons (.ret (.cst (.bl false))) .nil) .nil) .nil)))))))
theorem body_law : b31 = (.cons (.set 1 (.call 25 (.cons (.var 0) .nil))) (.cons (.for_ (.nm 2) (.rng (.cst (.int 5))) bodyO) (.cons (.ret (.cst (.bl true))) .nil))) := rfl
theorem outer_ok (n : Nat) (hE : OkE E) (sc : Vl) (x2 x3 x4 x5 x6 x7 x8 x9 x10 x11 x12 x13 x14 : Option Vl) (ok : S.Ok B) (hB : B ≤ 100000000) :
    ∃ (S' : Sm) (F : Hm) (y3 y4 y5 y6 y7 y8 y9 y10 y11 y12 y13 y14 : Option Vl), (gx (n + 6)).sts bodyO (envO sc x2 x3 x4 x5 x6 x7 x8 x9 x10 x11 x12 x13 x14) (hp S E) = .nx (envO sc x2 y3 y4 y5 y6 y7 y8 y9 y10 y11 y12 y13 y14) (hp S' (E ++ F)) ∧ OkE (E ++ F) ∧ S'.Ok (B + 3000) := by
  obtain ⟨d1, S1, e1, d10, d11, ok1⟩ := draw (E := E) (n + 5) (m := 3) ok (by omega) (by decide) (by decide)
  obtain ⟨ax, rfl⟩ : ∃ k : Nat, d1 = (k : Int) := ⟨d1.toNat, by omega⟩
  obtain ⟨halls, ts, S2, e2, P, ok2⟩ := plan_ok (E := E) n (ax := ax) (by omega) ok1 (by omega) hE.nr
  have N := ext_ok P
  have s1 : (gx (n + 6)).st (.setT (.tp (.cons (.nm 8) (.cons (.nm 9) (.cons (.nm 3) .nil)))) (.call 23 (.cons (.var 1) (.cons (.call 26 (.cons (.var 1) (.cons (.cst (.int 3)) .nil))) (.cons (.cst (.int 3)) (.cons (.cst (.int 4)) (.cons (.cst (.int 1)) .nil))))))) (envO sc x2 x3 x4 x5 x6 x7 x8 x9 x10 x11 x12 x13 x14) (hp S E) = .nx (envO sc x2 (some (.fz (.lst (ts.map row)))) x4 x5 x6 x7 (some (.fz (.int (ax : Int)))) (some (.fz (.lst (stxs halls)))) x10 x11 x12 x13 x14) (hp S2 E) :=
    s_setT0 (x_call (es_cons0 (x_var rfl) (es_cons0 (x_call (es_cons0 (x_var rfl) (es_cons0 (x_cst rfl) es_nil0)) e1) (es_cons0 (x_cst rfl) (es_cons0 (x_cst rfl) (es_cons0 (x_cst rfl) es_nil0))))) e2) rfl
  have l2 : lcN ((gx (n + 6)).tg (.nm 15)) ((gx (n + 6)).ts .yes) (frzR ((gx (n + 6)).ex (.tup (.cons (.bin 0 (.cst (.str [114, 46])) (.idx (.var 15) (.cst (.int 0)))) (.cons (.idx (.var 15) (.cst (.int 2))) (.cons (.idx (.var 15) (.cst (.int 1))) (.cons (.s1 1 (.lc [17] (.nm 17) (.val (.idx (.var 15) (.cst (.int 3)))) .yes (.bin 1 (.cst (.int 0)) (.var 17)))) .nil))))))) (wipeE [15] (envO sc x2 (some (.fz (.lst (ts.map row)))) x4 x5 x6 x7 (some (.fz (.int (ax : Int)))) (some (.fz (.lst (stxs halls)))) x10 x11 x12 x13 x14)) (fzs (ts.map row)) (hp S2 E) = .ok (ts.map fun t => row (rv t)) (hp S2 E) :=
    lcN_map row _ (fun t => [some sc, some (.rf 1), x2, some (.fz (.lst (ts.map row))), x4, x5, x6, x7, some (.fz (.int (ax : Int))), some (.fz (.lst (stxs halls))), x10, x11, x12, x13, x14, some (.fz (row t)), none, none]) ts fun t ht => ⟨rfl, rfl, frzR_ok (x_tup (ds := [.str (rp t.nm), .str t.e, .str t.s, .tup (iv (t.st.map fun x => 0 - x))]) (es_cons0 (x_bin (k := 0) (x_cst rfl) (x_idx (z := .fz (.str t.nm)) (x_var rfl) (x_cst rfl) rfl) (add_rp t.nm (good_len (P.tg t ht).1))) (es_cons0 (x_idx (x_var rfl) (x_cst rfl) rfl) (es_cons0 (x_idx (x_var rfl) (x_cst rfl) rfl) (es_cons0 (x_s1 (k := 1) (d := .lst (iv (t.st.map fun x => 0 - x))) (x_lc (sr_fz (x_idx (z := .fz (.tup (iv t.st))) (x_var rfl) (x_cst rfl) rfl) rfl) (by
      rw [show iv (t.st.map fun x => 0 - x) = t.st.map fun x => PV.int (0 - x) by simp [iv, List.map_map, Function.comp_def]]
      exact lcN_map PV.int _ (fun x => [some sc, some (.rf 1), x2, some (.fz (.lst (ts.map row))), x4, x5, x6, x7, some (.fz (.int (ax : Int))), some (.fz (.lst (stxs halls))), x10, x11, x12, x13, x14, some (.fz (row t)), none, some (.fz (.int x))]) t.st fun x hx => ⟨rfl, rfl, frzR_ok (x_bin (k := 1) (x_cst rfl) (x_var rfl) rfl)⟩)) rfl) es_nil0)))) rfl (by simp [LIM]))⟩
  have add2 : binV 0 (.lst (ts.map row)) (.lst (ts.map fun t => row (rv t))) = some (.lst ((ext ts).map row)) := by
    simp only [binV, addV]
    rw [if_pos]
    · simp [ext, List.map_map, Function.comp_def]
    · rw [List.length_map, List.length_map]
      have := P.t1
      show _ ≤ 16777216
      omega
  have s2 := s_set0 (i := 3) (x_bin (k := 0) (G := gx (n + 6)) (env := envO sc x2 (some (.fz (.lst (ts.map row)))) x4 x5 x6 x7 (some (.fz (.int (ax : Int)))) (some (.fz (.lst (stxs halls)))) x10 x11 x12 x13 x14) (h := hp S2 E) (a := .var 3) (d1 := .lst (ts.map row)) (x_var rfl) (x_lc (sr_fz (x_var (i := 3) rfl) rfl) l2) add2) (by simp [envO])
  have e5 := made_ok (S := S2) (E := E) n N hE.nr
  -- twelve turns
  obtain ⟨t0, tr, ht0⟩ : ∃ t0 tr, ext ts = t0 :: tr := by
    have := P.t0
    cases ts with
    | nil => exact absurd rfl this
    | cons a l => exact ⟨a, l ++ (a :: l).map rv, rfl⟩
  obtain ⟨en, h', q1, S3, F3, z6, z10, z11, z12, z13, z14, rfl, rfl, hE3, ok3⟩ := forN_inv (g := (gx (n + 6)).tg (.nm 6)) (b := (gx (n + 6)).sts bodyI)
    (fun k env h => ∃ (S' : Sm) (F : Hm) (z6 z10 z11 z12 z13 z14 : Option Vl), env = envX sc x2 ax halls (ext ts) z6 x7 z10 z11 z12 z13 z14 ∧ h = hp S' (E ++ F) ∧ OkE (E ++ F) ∧ S'.Ok (B + 201 + 200 * k))
    (fzs (rng 12)) 0 (envX sc x2 ax halls (ext ts) x6 x7 x10 x11 x12 x13 x14) (hp S2 E) ⟨S2, [], x6, x10, x11, x12, x13, x14, rfl, by simp, by simpa using hE, ok2.mono (by omega)⟩ (fun j d hd env h hI => by
      obtain ⟨S', F, z6, z10, z11, z12, z13, z14, rfl, rfl, hE', ok'⟩ := hI
      have hj : j < 12 := by
        have := (List.getElem?_eq_some_iff.mp hd).1
        rw [rng_len] at this
        exact this
      obtain ⟨S4, F4, y10, y11, y12, y13, y14, e4, hE4, ok4⟩ := turn_ok (S := S') (E := E ++ F) (n + 3) P hE' sc x2 (some d) x7 z10 z11 z12 z13 z14 ok' (by omega)
      refine ⟨envX sc x2 ax halls (ext ts) (some d) x7 z10 z11 z12 z13 z14, rfl, _, _, e4, S4, F ++ F4, some d, y10, y11, y12, y13, y14, rfl, by rw [List.append_assoc], by rw [← List.append_assoc]; exact hE4, ok4.mono (by omega)⟩)
  rw [rng_len] at ok3
  have s6 : (gx (n + 6)).st oddS (envX sc x2 ax halls (ext ts) z6 x7 z10 z11 z12 z13 z14) (hp S3 (E ++ F3)) = .nx (envX sc x2 ax halls (ext ts) z6 (some (.fz (.lst (odds t0)))) z10 z11 z12 z13 z14) (hp S3 ((E ++ F3) ++ [none])) := by
    rw [ht0]
    exact odd_set (n + 6) sc x2 z6 x7 z10 z11 z12 z13 z14
  have t7 := odd_any (h := hp S3 ((E ++ F3) ++ [none])) (n + 4) N t0 sc x2 z6 z10 z11 z12 z13 z14
  have r12 := sr_rng (G := gx (n + 6)) (a := .cst (.int 12)) (env := envX sc x2 ax halls (ext ts) x6 x7 x10 x11 x12 x13 x14) (h := hp S2 E) (j := 12) (x_cst rfl) (by omega)
  have fin : (gx (n + 6)).sts bodyO (envO sc x2 x3 x4 x5 x6 x7 x8 x9 x10 x11 x12 x13 x14) (hp S E) = .nx (envX sc x2 ax halls (ext ts) z6 (some (.fz (.lst (odds t0)))) z10 z11 z12 z13 z14) (hp S3 ((E ++ F3) ++ [none])) :=
    bb_cons s1 (bb_cons s2 (bb_cons (s_set0 (x_tup (ds := [.int (ax : Int), .lst (stxs halls), .lst ((ext ts).map row)]) (es_cons0 (x_var rfl) (es_cons0 (x_var rfl) (es_cons0 (x_var rfl) es_nil0))) rfl (by simp [LIM])) (by simp [envO])) (bb_cons (s_set0 (x_call (es_cons0 (x_var rfl) es_nil0) e5) (by simp [envO])) (bb_cons (s_for0 r12 q1) (bb_cons s6 (bb_cons (s_iteF t7 bb_nil) bb_nil))))))
  rw [List.append_assoc] at fin
  refine ⟨S3, F3 ++ [none], some (.fz (.lst ((ext ts).map row))), some (.fz (planV ax halls (ext ts))), some (.fz (netV ax halls (ext ts))), z6, some (.fz (.lst (odds t0))), some (.fz (.int (ax : Int))), some (.fz (.lst (stxs halls))), z10, z11, z12, z13, z14, fin, ?_, ok3.mono (by omega)⟩
  rw [← List.append_assoc]
  exact hE3.app ⟨rfl, rfl⟩
theorem law_true (n : Nat) (ns : List Int) : ∃ h, run 2000 (n + 7) 31 [.fz (.scr ns)] [] = .ok (.fz (.bl true)) h := by
  rw [run_at (n + 6) 31 r31 rfl]
  have e1 : run 2000 (n + 6) 25 [.fz (.scr ns)] [] = .ok (.rf 1) (hp ⟨ns, 0, 0, 11⟩ []) := by
    rw [run_at (n + 5) 25 r25 rfl]
    refine run_rt (h1 := hp ⟨ns, 0, 0, 11⟩ []) rfl (bb_ret (s_ret0 ?_)) rfl rfl
    have e2 : (gx (n + 5)).ex (.n1 0 (.var 0)) [some (.fz (.scr ns))] [] = .ok (.rf 0) [some (.lst (ivls ns))] := by
      have e3 : (gx (n + 5)).ex (.var 0) [some (.fz (.scr ns))] [] = .ok (.fz (.scr ns)) [] := x_var rfl
      simp only [Gx.ex] at e3 ⊢
      simp only [op1, e3, rb_ok, opN1, shal, s1V, listV, thaw, newL, ivls, List.map_map]
      rfl
    exact x_nlst (vs := [.rf 0, .fz (.int 0), .fz (.int 0), .fz (.int 11)]) (es_cons0 e2 (es_cons0 (x_cst rfl) (es_cons0 (x_cst rfl) (es_cons0 (x_cst rfl) es_nil0)))) (by decide)
  obtain ⟨en, h', q1, S3, F3, z2, z3, z4, z5, z6, z7, z8, z9, z10, z11, z12, z13, z14, rfl, rfl, hE3, ok3⟩ := forN_inv (g := (gx (n + 6)).tg (.nm 2)) (b := (gx (n + 6)).sts bodyO)
    (fun k env h => ∃ (S' : Sm) (F : Hm) (z2 z3 z4 z5 z6 z7 z8 z9 z10 z11 z12 z13 z14 : Option Vl), env = envO (.fz (.scr ns)) z2 z3 z4 z5 z6 z7 z8 z9 z10 z11 z12 z13 z14 ∧ h = hp S' F ∧ OkE F ∧ S'.Ok (3000 * k))
    (fzs (rng 5)) 0 (envO (.fz (.scr ns)) none none none none none none none none none none none none none) (hp ⟨ns, 0, 0, 11⟩ []) ⟨⟨ns, 0, 0, 11⟩, [], none, none, none, none, none, none, none, none, none, none, none, none, none, rfl, rfl, ⟨rfl, rfl⟩, ⟨by dsimp only; omega, by dsimp only; omega, by dsimp only; omega, by dsimp only; omega, by dsimp only; omega⟩⟩ (fun j d hd env h hI => by
      obtain ⟨S', F, z2, z3, z4, z5, z6, z7, z8, z9, z10, z11, z12, z13, z14, rfl, rfl, hE', ok'⟩ := hI
      have hj : j < 5 := by
        have := (List.getElem?_eq_some_iff.mp hd).1
        rw [rng_len] at this
        exact this
      obtain ⟨S4, F4, y3, y4, y5, y6, y7, y8, y9, y10, y11, y12, y13, y14, e4, hE4, ok4⟩ := outer_ok (S := S') (E := F) n hE' (.fz (.scr ns)) (some d) z3 z4 z5 z6 z7 z8 z9 z10 z11 z12 z13 z14 ok' (by omega)
      exact ⟨_, rfl, _, _, e4, S4, F ++ F4, some d, y3, y4, y5, y6, y7, y8, y9, y10, y11, y12, y13, y14, rfl, rfl, hE4, ok4.mono (by omega)⟩)
  have r5 := sr_rng (G := gx (n + 6)) (a := .cst (.int 5)) (env := envO (.fz (.scr ns)) none none none none none none none none none none none none none) (h := hp ⟨ns, 0, 0, 11⟩ []) (j := 5) (x_cst rfl) (by omega)
  have fin : (gx (n + 6)).sts b31 [some (.fz (.scr ns)), none, none, none, none, none, none, none, none, none, none, none, none, none, none, none, none, none] [] = .rt (.fz (.bl true)) (hp S3 F3) := by
    rw [body_law]
    exact bb_cons (s_set0 (x_call (es_cons0 (x_var rfl) es_nil0) e1) (by simp)) (bb_cons (s_for0 r5 q1) (bb_ret (s_ret0 (x_cst rfl))))
  refine ⟨[], run_rt rfl fin ?_ rfl⟩
  show cutH false 0 (hp S3 F3) = some []
  unfold cutH
  rw [if_neg Bool.false_ne_true, if_neg (by simp [hp])]
  rfl
end HV.k04

end

section
namespace HV.k04
open PySem PySem.Spec PyProof.Rows L2 HV
def top (i : Nat) : Stmt := PySem.Challenge.pw_repeatnets_k04_closed_ways_looked_at.main.body.getD i (.Pass ⟨0, 0, 0, 0⟩)
def inC (i j : Nat) : Stmt := match top i with | .ClassDef _ _ _ b .. => b.getD j (.Pass ⟨0, 0, 0, 0⟩) | s => s
def dd0 : He.DefD := ⟨("is_integer", none), "is_integer", "is_integer", defArgs (top 3), defBody (top 3), defScope (top 3), [], []⟩
def x0 : Dd := ⟨dd0, ["thing"], ["thing"], r0, .fn 497976731417541700183410⟩
def dd1 : He.DefD := ⟨("is_list", none), "is_list", "is_list", defArgs (top 4), defBody (top 4), defScope (top 4), [], []⟩
def x1 : Dd := ⟨dd1, ["thing"], ["thing"], r1, .fn 29681726232556404⟩
def dd2 : He.DefD := ⟨("is_name", none), "is_name", "is_name", defArgs (top 5), defBody (top 5), defScope (top 5), [], []⟩
def x2 : Dd := ⟨dd2, ["thing", "sign"], ["thing"], r2, .fn 29681726265584997⟩
def dd3 : He.DefD := ⟨("is_vector", none), "is_vector", "is_vector", defArgs (top 6), defBody (top 6), defScope (top 6), [], []⟩
def x3 : Dd := ⟨dd3, ["thing", "size", "one"], ["thing", "size"], r3, .fn 1945221621354484494194⟩
def dd4 : He.DefD := ⟨("summed", none), "summed", "summed", defArgs (top 7), defBody (top 7), defScope (top 7), [], []⟩
def x4 : Dd := ⟨dd4, ["one", "other", "first", "second"], ["one", "other"], r4, .fn 126948184253796⟩
def dd5 : He.DefD := ⟨("check_rooms", none), "check_rooms", "check_rooms", defArgs (top 18), defBody (top 18), defScope (top 18), [], []⟩
def x5 : Dd := ⟨dd5, ["rooms", "room"], ["rooms"], r5, .fn 120176652541142753426238835⟩
def dd6 : He.DefD := ⟨("is_tie", none), "is_tie", "is_tie", defArgs (top 19), defBody (top 19), defScope (top 19), [], []⟩
def x6 : Dd := ⟨dd6, ["thing", "axes", "known_rooms", "taken", "room"], ["thing", "axes", "known_rooms", "taken"], r6, .fn 115944243620197⟩
def dd7 : He.DefD := ⟨("checked_ties", none), "checked_ties", "checked_ties", defArgs (top 20), defBody (top 20), defScope (top 20), [], []⟩
def x7 : Dd := ⟨dd7, ["axes", "known_rooms", "ties", "ahead", "found", "index", "thing", "row"], ["axes", "known_rooms", "ties", "ahead"], r7, .fn 30765223050534218265178760563⟩
def dd8 : He.DefD := ⟨("Net", some "__init__"), "__init__", "Net.__init__", defArgs (inC 21 0), defBody (inC 21 0), defScope (inC 21 0), [], []⟩
def x8 : Dd := ⟨dd8, ["self", "axes", "rooms", "ties"], ["self", "axes", "rooms", "ties"], r8, .nw 5137780 0⟩
def dd9 : He.DefD := ⟨("Net", some "rooms"), "rooms", "Net.rooms", defArgs (inC 21 1), defBody (inC 21 1), defScope (inC 21 1), [], []⟩
def x9 : Dd := ⟨dd9, ["self"], ["self"], r9, .md 0 491495845235⟩
def dd10 : He.DefD := ⟨("Net", some "ties"), "ties", "Net.ties", defArgs (inC 21 2), defBody (inC 21 2), defScope (inC 21 2), [], []⟩
def x10 : Dd := ⟨dd10, ["self"], ["self"], r10, .md 0 1953064307⟩
def dd11 : He.DefD := ⟨("Net", some "tie"), "tie", "Net.tie", defArgs (inC 21 3), defBody (inC 21 3), defScope (inC 21 3), [], []⟩
def x11 : Dd := ⟨dd11, ["self", "name", "row"], ["self", "name"], r11, .md 0 7629157⟩
def dd12 : He.DefD := ⟨("Net", some "__len__"), "__len__", "Net.__len__", defArgs (inC 21 4), defBody (inC 21 4), defScope (inC 21 4), [], []⟩
def x12 : Dd := ⟨dd12, ["self"], ["self"], r12, .md 0 26845041950351199⟩
def dd13 : He.DefD := ⟨("Net", some "__contains__"), "__contains__", "Net.__contains__", defArgs (inC 21 5), defBody (inC 21 5), defScope (inC 21 5), [], []⟩
def x13 : Dd := ⟨dd13, ["self", "thing", "row"], ["self", "thing"], r13, .md 0 29516393455720661124010696543⟩
def dd14 : He.DefD := ⟨("Net", some "__eq__"), "__eq__", "Net.__eq__", defArgs (inC 21 6), defBody (inC 21 6), defScope (inC 21 6), [], []⟩
def x14 : Dd := ⟨dd14, ["self", "other"], ["self", "other"], r14, .md 0 104863328460639⟩
def dd15 : He.DefD := ⟨("Net", some "__or__"), "__or__", "Net.__or__", defArgs (inC 21 7), defBody (inC 21 7), defScope (inC 21 7), [], []⟩
def x15 : Dd := ⟨dd15, ["self", "other", "row", "further", "room"], ["self", "other"], r15, .md 0 104863496298335⟩
def dd16 : He.DefD := ⟨("Net", some "__invert__"), "__invert__", "Net.__invert__", defArgs (inC 21 8), defBody (inC 21 8), defScope (inC 21 8), [], []⟩
def x16 : Dd := ⟨dd16, ["self", "rows", "name", "start", "end", "step", "one"], ["self"], r16, .md 0 450384853699418207313759⟩
def dd17 : He.DefD := ⟨("Net", some "check_names"), "check_names", "Net.check_names", defArgs (inC 21 9), defBody (inC 21 9), defScope (inC 21 9), [], []⟩
def x17 : Dd := ⟨dd17, ["self", "names"], ["self", "names"], r17, .md 0 120176652541142736011355507⟩
def dd18 : He.DefD := ⟨("Net", some "without"), "without", "Net.without", defArgs (inC 21 10), defBody (inC 21 10), defScope (inC 21 10), [], []⟩
def x18 : Dd := ⟨dd18, ["self", "names"], ["self", "names"], r18, .md 0 33611470917825908⟩
def dd19 : He.DefD := ⟨("Net", some "only"), "only", "Net.only", defArgs (inC 21 11), defBody (inC 21 11), defScope (inC 21 11), [], []⟩
def x19 : Dd := ⟨dd19, ["self", "names"], ["self", "names"], r19, .md 0 1869507705⟩
def dd20 : He.DefD := ⟨("Net", some "more"), "more", "Net.more", defArgs (inC 21 12), defBody (inC 21 12), defScope (inC 21 12), [], []⟩
def x20 : Dd := ⟨dd20, ["self", "ties", "ahead", "rows", "row"], ["self", "ties"], r20, .md 0 1836020325⟩
def dd21 : He.DefD := ⟨("is_way", none), "is_way", "is_way", defArgs (top 22), defBody (top 22), defScope (top 22), [], []⟩
def x21 : Dd := ⟨dd21, ["net", "thing", "rows", "total", "row", "name", "later"], ["net", "thing"], r21, .fn 115944243814777⟩
def dd22 : He.DefD := ⟨("_law_n_words", none), "_law_n_words", "_law_n_words", defArgs (top 24), defBody (top 24), defScope (top 24), [], []⟩
def x22 : Dd := ⟨dd22, ["_law_stream", "_law_many", "_law_found", "_law_k", "_law_word", "_law_spare", "_law_sign", "_law_letter", "_law_x"], ["_law_stream", "_law_many"], r22, .fn 29532100193134083254361678963⟩
def dd23 : He.DefD := ⟨("_law_n_plan", none), "_law_n_plan", "_law_n_plan", defArgs (top 25), defBody (top 25), defScope (top 25), [], []⟩
def x23 : Dd := ⟨dd23, ["_law_stream", "_law_axes", "_law_halls", "_law_many", "_law_wide", "_law_names", "_law_count", "_law_ties", "_law_k", "_law_name", "_law_step", "_law_start_here", "_law_end", "_law_axis"], ["_law_stream", "_law_axes", "_law_halls", "_law_many", "_law_wide"], r23, .fn 115359766379430012594708846⟩
def dd24 : He.DefD := ⟨("_law_n_made", none), "_law_n_made", "_law_n_made", defArgs (top 26), defBody (top 26), defScope (top 26), [], []⟩
def x24 : Dd := ⟨dd24, ["_law_plan"], ["_law_plan"], r24, .fn 115359766379430012543657061⟩
def dd25 : He.DefD := ⟨("_law_start", none), "_law_start", "_law_start", defArgs (top 27), defBody (top 27), defScope (top 27), [], []⟩
def x25 : Dd := ⟨dd25, ["_law_script"], ["_law_script"], r25, .fn 450624087419670312874612⟩
def dd26 : He.DefD := ⟨("_law_draw", none), "_law_draw", "_law_draw", defArgs (top 28), defBody (top 28), defScope (top 28), [], []⟩
def x26 : Dd := ⟨dd26, ["_law_stream", "_law_many", "_law_mixed", "_law_cell", "_law_digit"], ["_law_stream", "_law_many"], r26, .fn 1760250341482835370359⟩
def dd27 : He.DefD := ⟨("_law_pick", none), "_law_pick", "_law_pick", defArgs (top 29), defBody (top 29), defScope (top 29), [], []⟩
def x27 : Dd := ⟨dd27, ["_law_stream", "_law_some"], ["_law_stream", "_law_some"], r27, .fn 1760250341483036107627⟩
def dd28 : He.DefD := ⟨("_law_same", none), "_law_same", "_law_same", defArgs (top 30), defBody (top 30), defScope (top 30), [], []⟩
def x28 : Dd := ⟨dd28, ["_law_found", "_law_due", "_law_x", "_law_y"], ["_law_found", "_law_due"], r28, .fn 1760250341483085917541⟩
def dd29 : He.DefD := ⟨("_law_is_way", none), "_law_is_way", "_law_is_way", defArgs (top 31), defBody (top 31), defScope (top 31), [], []⟩
def x29 : Dd := ⟨dd29, ["_law_plan", "_law_thing", "_law_rows", "_law_name", "_law_here", "_law_total", "_law_row", "_law_x", "_law_y"], ["_law_plan", "_law_thing"], r29, .fn 115359766379424600651424121⟩
def dd30 : He.DefD := ⟨("_law_gone", none), "_law_gone", "_law_gone", defArgs (top 32), defBody (top 32), defScope (top 32), [], []⟩
def x30 : Dd := ⟨dd30, ["_law_stream", "_law_plan", "_law_many", "_law_k", "_law_found", "_law_here", "_law_on", "_law_row"], ["_law_stream", "_law_plan", "_law_many"], r30, .fn 1760250341482885508709⟩
def dd31 : He.DefD := ⟨("law", none), "law", "law", defArgs (top 33), defBody (top 33), defScope (top 33), [], []⟩
def x31 : Dd := ⟨dd31, ["_law_script", "_law_stream", "_law_turn", "_law_rows", "_law_plan", "_law_net", "_law_k", "_law_odd", "_law_axes", "_law_halls", "_law_way", "_law_names", "_law_some", "_law_at", "_law_thing", "_law_row", "_law_name", "_law_x"], ["_law_script"], r31, .fn 7102839⟩
def M : Mo := ⟨[⟨"Net", [1635280243, 540405396817959671653747, 8388347241570465651]⟩], [x0, x1, x2, x3, x4, x5, x6, x7, x8, x9, x10, x11, x12, x13, x14, x15, x16, x17, x18, x19, x20, x21, x22, x23, x24, x25, x26, x27, x28, x29, x30, x31], [(1426115298795793696083, .int 4), (5137780, .cls 0), (357711695443, .str [97, 98, 99, 100, 101, 102, 103, 104, 105, 106, 107, 108, 109, 110, 111, 112, 113, 114, 115, 116, 117, 118, 119, 120, 121, 122, 48, 49, 50, 51, 52, 53, 54, 55, 56, 57, 46]), (1651470188, .ty 1), (6909556, .ty 0), (1818850164, .ty 3), (7566450, .ty 2), (500186508389, .ty 4)], spcs⟩
theorem M_run (fuel n f : Nat) : M.run fuel n f = run fuel n f := by
  have e1 : M.isF = isF := by
    funext c f
    unfold Mo.isF isF M flds
    match c with
    | 0 => rfl
    | _ + 1 => rfl
  have e3 : M.glo = glo := by
    funext x
    unfold Mo.glo glo M glos
    simp only [List.lookup]
    repeat (first | rfl | split)
  have e4 : M.tab = fun f => dr[f]? := by
    funext f
    unfold Mo.tab
    rw [← List.getElem?_map]
    rfl
  unfold Mo.run run
  rw [e1, e3, e4]
  rfl
set_option maxHeartbeats 0 in
theorem ok0 : DfOk M.E dd0 ["thing"] ["thing"] r0 := ⟨⟨rfl, rfl, rfl, by decide +kernel, rfl, by decide +kernel, by decide +kernel⟩, rfl, rfl, fun _ _ _ _ _ _ us hl => match us, hl with | [_], _ => rfl, rfl, by kernel_rfl⟩
set_option maxHeartbeats 0 in
theorem ok1 : DfOk M.E dd1 ["thing"] ["thing"] r1 := ⟨⟨rfl, rfl, rfl, by decide +kernel, rfl, by decide +kernel, by decide +kernel⟩, rfl, rfl, fun _ _ _ _ _ _ us hl => match us, hl with | [_], _ => rfl, rfl, by kernel_rfl⟩
set_option maxHeartbeats 0 in
theorem ok2 : DfOk M.E dd2 ["thing", "sign"] ["thing"] r2 := ⟨⟨rfl, rfl, rfl, by decide +kernel, rfl, by decide +kernel, by decide +kernel⟩, rfl, rfl, fun _ _ _ _ _ _ us hl => match us, hl with | [_], _ => rfl, rfl, by kernel_rfl⟩
set_option maxHeartbeats 0 in
theorem ok3 : DfOk M.E dd3 ["thing", "size", "one"] ["thing", "size"] r3 := ⟨⟨rfl, rfl, rfl, by decide +kernel, rfl, by decide +kernel, by decide +kernel⟩, rfl, rfl, fun _ _ _ _ _ _ us hl => match us, hl with | [_, _], _ => rfl, rfl, by kernel_rfl⟩
set_option maxHeartbeats 0 in
theorem ok4 : DfOk M.E dd4 ["one", "other", "first", "second"] ["one", "other"] r4 := ⟨⟨rfl, rfl, rfl, by decide +kernel, rfl, by decide +kernel, by decide +kernel⟩, rfl, rfl, fun _ _ _ _ _ _ us hl => match us, hl with | [_, _], _ => rfl, rfl, by kernel_rfl⟩
set_option maxHeartbeats 0 in
theorem ok5 : DfOk M.E dd5 ["rooms", "room"] ["rooms"] r5 := ⟨⟨rfl, rfl, rfl, by decide +kernel, rfl, by decide +kernel, by decide +kernel⟩, rfl, rfl, fun _ _ _ _ _ _ us hl => match us, hl with | [_], _ => rfl, rfl, by kernel_rfl⟩
set_option maxHeartbeats 0 in
theorem ok6 : DfOk M.E dd6 ["thing", "axes", "known_rooms", "taken", "room"] ["thing", "axes", "known_rooms", "taken"] r6 := ⟨⟨rfl, rfl, rfl, by decide +kernel, rfl, by decide +kernel, by decide +kernel⟩, rfl, rfl, fun _ _ _ _ _ _ us hl => match us, hl with | [_, _, _, _], _ => rfl, rfl, by kernel_rfl⟩
set_option maxHeartbeats 0 in
theorem ok7 : DfOk M.E dd7 ["axes", "known_rooms", "ties", "ahead", "found", "index", "thing", "row"] ["axes", "known_rooms", "ties", "ahead"] r7 := ⟨⟨rfl, rfl, rfl, by decide +kernel, rfl, by decide +kernel, by decide +kernel⟩, rfl, rfl, fun _ _ _ _ _ _ us hl => match us, hl with | [_, _, _, _], _ => rfl, rfl, by kernel_rfl⟩
set_option maxHeartbeats 0 in
theorem ok8 : DfOk M.E dd8 ["self", "axes", "rooms", "ties"] ["self", "axes", "rooms", "ties"] r8 := ⟨⟨rfl, rfl, rfl, by decide +kernel, rfl, by decide +kernel, by decide +kernel⟩, rfl, rfl, fun _ _ _ _ _ _ us hl => match us, hl with | [_, _, _, _], _ => rfl, rfl, by kernel_rfl⟩
set_option maxHeartbeats 0 in
theorem ok9 : DfOk M.E dd9 ["self"] ["self"] r9 := ⟨⟨rfl, rfl, rfl, by decide +kernel, rfl, by decide +kernel, by decide +kernel⟩, rfl, rfl, fun _ _ _ _ _ _ us hl => match us, hl with | [_], _ => rfl, rfl, by kernel_rfl⟩
set_option maxHeartbeats 0 in
theorem ok10 : DfOk M.E dd10 ["self"] ["self"] r10 := ⟨⟨rfl, rfl, rfl, by decide +kernel, rfl, by decide +kernel, by decide +kernel⟩, rfl, rfl, fun _ _ _ _ _ _ us hl => match us, hl with | [_], _ => rfl, rfl, by kernel_rfl⟩
set_option maxHeartbeats 0 in
theorem ok11 : DfOk M.E dd11 ["self", "name", "row"] ["self", "name"] r11 := ⟨⟨rfl, rfl, rfl, by decide +kernel, rfl, by decide +kernel, by decide +kernel⟩, rfl, rfl, fun _ _ _ _ _ _ us hl => match us, hl with | [_, _], _ => rfl, rfl, by kernel_rfl⟩
set_option maxHeartbeats 0 in
theorem ok12 : DfOk M.E dd12 ["self"] ["self"] r12 := ⟨⟨rfl, rfl, rfl, by decide +kernel, rfl, by decide +kernel, by decide +kernel⟩, rfl, rfl, fun _ _ _ _ _ _ us hl => match us, hl with | [_], _ => rfl, rfl, by kernel_rfl⟩
set_option maxHeartbeats 0 in
theorem ok13 : DfOk M.E dd13 ["self", "thing", "row"] ["self", "thing"] r13 := ⟨⟨rfl, rfl, rfl, by decide +kernel, rfl, by decide +kernel, by decide +kernel⟩, rfl, rfl, fun _ _ _ _ _ _ us hl => match us, hl with | [_, _], _ => rfl, rfl, by kernel_rfl⟩
set_option maxHeartbeats 0 in
theorem ok14 : DfOk M.E dd14 ["self", "other"] ["self", "other"] r14 := ⟨⟨rfl, rfl, rfl, by decide +kernel, rfl, by decide +kernel, by decide +kernel⟩, rfl, rfl, fun _ _ _ _ _ _ us hl => match us, hl with | [_, _], _ => rfl, rfl, by kernel_rfl⟩
set_option maxHeartbeats 0 in
theorem ok15 : DfOk M.E dd15 ["self", "other", "row", "further", "room"] ["self", "other"] r15 := ⟨⟨rfl, rfl, rfl, by decide +kernel, rfl, by decide +kernel, by decide +kernel⟩, rfl, rfl, fun _ _ _ _ _ _ us hl => match us, hl with | [_, _], _ => rfl, rfl, by kernel_rfl⟩
set_option maxHeartbeats 0 in
theorem ok16 : DfOk M.E dd16 ["self", "rows", "name", "start", "end", "step", "one"] ["self"] r16 := ⟨⟨rfl, rfl, rfl, by decide +kernel, rfl, by decide +kernel, by decide +kernel⟩, rfl, rfl, fun _ _ _ _ _ _ us hl => match us, hl with | [_], _ => rfl, rfl, by kernel_rfl⟩
set_option maxHeartbeats 0 in
theorem ok17 : DfOk M.E dd17 ["self", "names"] ["self", "names"] r17 := ⟨⟨rfl, rfl, rfl, by decide +kernel, rfl, by decide +kernel, by decide +kernel⟩, rfl, rfl, fun _ _ _ _ _ _ us hl => match us, hl with | [_, _], _ => rfl, rfl, by kernel_rfl⟩
set_option maxHeartbeats 0 in
theorem ok18 : DfOk M.E dd18 ["self", "names"] ["self", "names"] r18 := ⟨⟨rfl, rfl, rfl, by decide +kernel, rfl, by decide +kernel, by decide +kernel⟩, rfl, rfl, fun _ _ _ _ _ _ us hl => match us, hl with | [_, _], _ => rfl, rfl, by kernel_rfl⟩
set_option maxHeartbeats 0 in
theorem ok19 : DfOk M.E dd19 ["self", "names"] ["self", "names"] r19 := ⟨⟨rfl, rfl, rfl, by decide +kernel, rfl, by decide +kernel, by decide +kernel⟩, rfl, rfl, fun _ _ _ _ _ _ us hl => match us, hl with | [_, _], _ => rfl, rfl, by kernel_rfl⟩
set_option maxHeartbeats 0 in
theorem ok20 : DfOk M.E dd20 ["self", "ties", "ahead", "rows", "row"] ["self", "ties"] r20 := ⟨⟨rfl, rfl, rfl, by decide +kernel, rfl, by decide +kernel, by decide +kernel⟩, rfl, rfl, fun _ _ _ _ _ _ us hl => match us, hl with | [_, _], _ => rfl, rfl, by kernel_rfl⟩
set_option maxHeartbeats 0 in
theorem ok21 : DfOk M.E dd21 ["net", "thing", "rows", "total", "row", "name", "later"] ["net", "thing"] r21 := ⟨⟨rfl, rfl, rfl, by decide +kernel, rfl, by decide +kernel, by decide +kernel⟩, rfl, rfl, fun _ _ _ _ _ _ us hl => match us, hl with | [_, _], _ => rfl, rfl, by kernel_rfl⟩
set_option maxHeartbeats 0 in
theorem ok22 : DfOk M.E dd22 ["_law_stream", "_law_many", "_law_found", "_law_k", "_law_word", "_law_spare", "_law_sign", "_law_letter", "_law_x"] ["_law_stream", "_law_many"] r22 := ⟨⟨rfl, rfl, rfl, by decide +kernel, rfl, by decide +kernel, by decide +kernel⟩, rfl, rfl, fun _ _ _ _ _ _ us hl => match us, hl with | [_, _], _ => rfl, rfl, by kernel_rfl⟩
set_option maxHeartbeats 0 in
theorem ok23 : DfOk M.E dd23 ["_law_stream", "_law_axes", "_law_halls", "_law_many", "_law_wide", "_law_names", "_law_count", "_law_ties", "_law_k", "_law_name", "_law_step", "_law_start_here", "_law_end", "_law_axis"] ["_law_stream", "_law_axes", "_law_halls", "_law_many", "_law_wide"] r23 := ⟨⟨rfl, rfl, rfl, by decide +kernel, rfl, by decide +kernel, by decide +kernel⟩, rfl, rfl, fun _ _ _ _ _ _ us hl => match us, hl with | [_, _, _, _, _], _ => rfl, rfl, by kernel_rfl⟩
set_option maxHeartbeats 0 in
theorem ok24 : DfOk M.E dd24 ["_law_plan"] ["_law_plan"] r24 := ⟨⟨rfl, rfl, rfl, by decide +kernel, rfl, by decide +kernel, by decide +kernel⟩, rfl, rfl, fun _ _ _ _ _ _ us hl => match us, hl with | [_], _ => rfl, rfl, by kernel_rfl⟩
set_option maxHeartbeats 0 in
theorem ok25 : DfOk M.E dd25 ["_law_script"] ["_law_script"] r25 := ⟨⟨rfl, rfl, rfl, by decide +kernel, rfl, by decide +kernel, by decide +kernel⟩, rfl, rfl, fun _ _ _ _ _ _ us hl => match us, hl with | [_], _ => rfl, rfl, by kernel_rfl⟩
set_option maxHeartbeats 0 in
theorem ok26 : DfOk M.E dd26 ["_law_stream", "_law_many", "_law_mixed", "_law_cell", "_law_digit"] ["_law_stream", "_law_many"] r26 := ⟨⟨rfl, rfl, rfl, by decide +kernel, rfl, by decide +kernel, by decide +kernel⟩, rfl, rfl, fun _ _ _ _ _ _ us hl => match us, hl with | [_, _], _ => rfl, rfl, by kernel_rfl⟩
set_option maxHeartbeats 0 in
theorem ok27 : DfOk M.E dd27 ["_law_stream", "_law_some"] ["_law_stream", "_law_some"] r27 := ⟨⟨rfl, rfl, rfl, by decide +kernel, rfl, by decide +kernel, by decide +kernel⟩, rfl, rfl, fun _ _ _ _ _ _ us hl => match us, hl with | [_, _], _ => rfl, rfl, by kernel_rfl⟩
set_option maxHeartbeats 0 in
theorem ok28 : DfOk M.E dd28 ["_law_found", "_law_due", "_law_x", "_law_y"] ["_law_found", "_law_due"] r28 := ⟨⟨rfl, rfl, rfl, by decide +kernel, rfl, by decide +kernel, by decide +kernel⟩, rfl, rfl, fun _ _ _ _ _ _ us hl => match us, hl with | [_, _], _ => rfl, rfl, by kernel_rfl⟩
set_option maxHeartbeats 0 in
theorem ok29 : DfOk M.E dd29 ["_law_plan", "_law_thing", "_law_rows", "_law_name", "_law_here", "_law_total", "_law_row", "_law_x", "_law_y"] ["_law_plan", "_law_thing"] r29 := ⟨⟨rfl, rfl, rfl, by decide +kernel, rfl, by decide +kernel, by decide +kernel⟩, rfl, rfl, fun _ _ _ _ _ _ us hl => match us, hl with | [_, _], _ => rfl, rfl, by kernel_rfl⟩
set_option maxHeartbeats 0 in
theorem ok30 : DfOk M.E dd30 ["_law_stream", "_law_plan", "_law_many", "_law_k", "_law_found", "_law_here", "_law_on", "_law_row"] ["_law_stream", "_law_plan", "_law_many"] r30 := ⟨⟨rfl, rfl, rfl, by decide +kernel, rfl, by decide +kernel, by decide +kernel⟩, rfl, rfl, fun _ _ _ _ _ _ us hl => match us, hl with | [_, _, _], _ => rfl, rfl, by kernel_rfl⟩
set_option maxHeartbeats 0 in
theorem ok31 : DfOk M.E dd31 ["_law_script", "_law_stream", "_law_turn", "_law_rows", "_law_plan", "_law_net", "_law_k", "_law_odd", "_law_axes", "_law_halls", "_law_way", "_law_names", "_law_some", "_law_at", "_law_thing", "_law_row", "_law_name", "_law_x"] ["_law_script"] r31 := ⟨⟨rfl, rfl, rfl, by decide +kernel, rfl, by decide +kernel, by decide +kernel⟩, rfl, rfl, fun _ _ _ _ _ _ us hl => match us, hl with | [_], _ => rfl, rfl, by kernel_rfl⟩
theorem oks : DfsOk M.E M.ds := ⟨ok0, ok1, ok2, ok3, ok4, ok5, ok6, ok7, ok8, ok9, ok10, ok11, ok12, ok13, ok14, ok15, ok16, ok17, ok18, ok19, ok20, ok21, ok22, ok23, ok24, ok25, ok26, ok27, ok28, ok29, ok30, ok31, True.intro⟩
def loose : List Str := (["_wall", "SIGNS", "is_integer", "is_list", "is_name", "is_vector", "summed", "NetError", "BadAxes", "BadRooms", "BadTie", "NoTie", "TieTaken", "UnlikeAxes", "MOST_AXES", "check_rooms", "is_tie", "checked_ties", "Net", "is_way", "_law_n_words", "_law_n_plan", "_law_n_made", "_law_start", "_law_draw", "_law_pick", "_law_same", "_law_is_way", "_law_gone"] : List Str)
abbrev Rw : PySem.W.OpenRow := PySem.W.OpenLaw.row PySem.Challenge.rw_repeatnets_k04_closed_ways_looked_at
abbrev hk : PySem.W.Hook := hookV 4 M
def ob (s : PySem.W.SharedT) : He.AlD := obsVG 4 M (HandSHeadRun.getT s)
theorem ob_eq (s : PySem.W.SharedT) : ob s = hk.obs s.abs := obsVG_eq (HandSHeadRun.getT_eq s)
theorem ran (w : World) : HandSHeadRun.RunEq Rw (PySem.W.view Rw.prog [33]) hk ob 4000 loose w := by
  intro os
  kernel_rfl
end HV.k04
open PySem PySem.W PySem.Calls PyProof.Rows
theorem HV.k04.holds (hφ : ∀ ns : List Int, ns.length ≤ 63 → ∃ h, HV.k04.run 2000 30 31 [.fz (.scr ns)] [] = .ok (.fz (.bl true)) h) : PySem.Challenge.rw_repeatnets_k04_closed_ways_looked_at.Holds := by
  w_on; o_law
  refine HandSHeadRun.head_any (r := OpenLaw.row PySem.Challenge.rw_repeatnets_k04_closed_ways_looked_at) (q := view (OpenLaw.row PySem.Challenge.rw_repeatnets_k04_closed_ways_looked_at).prog [33]) (H := HV.k04.hk) (ob := HV.k04.ob) (M := 4000) (loose := HV.k04.loose) (d := HandSHeadRun.topDef (OpenLaw.row PySem.Challenge.rw_repeatnets_k04_closed_ways_looked_at).prog 33) (kwd := []) HV.k04.ob_eq
    (by kernel_rfl) (fun s => by kernel_rfl) HV.k04.ran (by kernel_rfl) (by kernel_rfl) (by kernel_rfl) (by rfl) (by first | assumption | decide +kernel) (by decide +kernel) ⟨rfl, rfl, rfl, rfl, rfl, by decide +kernel⟩ ?hw ?hc
  case hw => w_witness2
  case hc =>
    refine L2.walk_ofE (l := PySem.Challenge.rw_repeatnets_k04_closed_ways_looked_at) (n := 63) (k := 3 * 30) (x := "_law_script") (CX := HV.CXw (PySem.Challenge.rw_repeatnets_k04_closed_ways_looked_at).prog) rfl (by decide) (by kernel_rfl) ⟨rfl, by decide, by decide⟩ ?F HV.CXw.no
    intro w mg fa h Y G hmg0
    obtain ⟨K, KX, c⟩ := Y
    have hmg : mg ("law" : PySem.Str) = some (.ref fa) := by
      have e : (HandSHeadRun.topDef (OpenLaw.row PySem.Challenge.rw_repeatnets_k04_closed_ways_looked_at).prog 33).name = ("law" : PySem.Str) := by kernel_rfl
      rw [← e]
      exact hmg0
    have hfa := HV.law_at (P := (PySem.Challenge.rw_repeatnets_k04_closed_ways_looked_at).prog) (w := w) KX G c HV.k04.oks hmg (f := 31) (d := HV.k04.x31) rfl rfl (by decide +kernel)
    obtain ⟨fd, hb, hF⟩ := HV.Mo.law (P := (PySem.Challenge.rw_repeatnets_k04_closed_ways_looked_at).prog) (w := w) (M := HV.k04.M) (fld := fun _ => 0) (n := 30) (fuel := 2000) (f := 31) (d := HV.k04.x31) (x := "_law_script") KX G c HV.k04.oks rfl rfl (fa := fa) hfa
    exact ⟨K, fd, _, KX, hb, fun H a ns hl _ hS => HV.spF_law (fun ns hl => by rw [HV.k04.M_run]; exact hφ ns hl) H a ns hl hS, fun base b1 b2 => HV.FnOk.cx (hF base b1 b2) fun _ _ _ _ _ _ z => ⟨w, z⟩⟩

end

theorem PySem.Challenge.cw_repeatnets_k04_closed_ways_looked_at_holds : PySem.Challenge.rw_repeatnets_k04_closed_ways_looked_at.Holds :=
  HV.k04.holds fun ns _ => HV.k04.law_true 23 ns
