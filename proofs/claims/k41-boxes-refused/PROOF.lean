import PyProof.Rows.All
import HandS.ForMost
import HandS.ForExc
import HandS.TupMul
import HandS.Deep
import HandS.Wide
import HandS.TupAny
import HandS.DictComp
import HandS.TupLe
import HandS.Text
import HandS.Dict
import HandS.IsInst
import KE.DataAny
import HandS.Lambda
import HandS.Flow
import HandS.WordsDict
import OpenK.KWalk
import OpenK.KOps
import KE.KOpsOwn
import KE.KListMore
import OpenK.KMeth
import HandS.Iter
import HandS.Walk
import HandS.Zip
import KE.GoesEnum
import HandS.NoneIn
import HandS.Comp
import HandS.Style
import HandS.ExcInit
import HandS.Call
import KE.KSuper
import KE.KExcSuper
import HandS.ExcField
import HandS.TryMany
import HandS.Exc
import HandS.Defaults
import HandS.HeadHook2
import HandS.EndTab
import HandS.HeadEnd
import KE.KStateDown
import HandS.Head0
import HandS.Head1
import HandS.Head2
import HandS.HeadHook1
import HandS.Words
import HandS.WordsExc
import HandS.Ends
import PySem.Challenge.RW_repeatnets_k41_boxes_refused
set_option Elab.async false
set_option linter.all false
set_option maxRecDepth 100000
set_option maxHeartbeats 0
section
/-! V0: values as trees, a heap of changing objects, the deep syntax and its evaluator. Core Lean alone. -/
namespace HV
abbrev Txt := List Nat
/-- a thing that does not change any more -/
inductive PV where
  | non
  | bl (b : Bool)
  | int (i : Int)
  | str (s : Txt)
  | lst (xs : List PV)
  | tup (xs : List PV)
  | dct (kvs : List (PV × PV))
  | obj (c : Nat) (fs : List (Nat × PV))
  | cls (c : Nat)
  | ty (n : Nat)
  | scr (ns : List Int)
deriving Inhabited
def PV.atom : PV → Bool
  | .non => true
  | .bl _ => true
  | .int _ => true
  | .str _ => true
  | .cls _ => true
  | .ty _ => true
  | _ => false
/-- a name's code: its signs as digits by 256 -/
def nmL : Nat → Nat → List Nat → List Nat
  | 0, _, acc => acc
  | k + 1, n, acc => if n = 0 then acc else nmL k (n / 256) (n % 256 :: acc)
/-! ### operators -/
def LIM : Nat := 16777216
def addV : PV → PV → Option PV
  | .int i, .int j => some (.int (i + j))
  | .str s, .str t => if s.length + t.length ≤ LIM then some (.str (s ++ t)) else none
  | .lst xs, .lst ys => if xs.length + ys.length ≤ LIM then some (.lst (xs ++ ys)) else none
  | .tup xs, .tup ys => if xs.length + ys.length ≤ LIM then some (.tup (xs ++ ys)) else none
  | _, _ => none
def subV : PV → PV → Option PV
  | .int i, .int j => some (.int (i - j))
  | _, _ => none
def mulV : PV → PV → Option PV
  | .int i, .int j => if i.natAbs.log2 + j.natAbs.log2 < 1000000 then some (.int (i * j)) else none
  | .lst xs, .int k => if -9223372036854775808 ≤ k ∧ k < 9223372036854775808 ∧ xs.length * k.toNat ≤ LIM then some (.lst (List.replicate k.toNat xs).flatten) else none
  | .tup xs, .int k => if xs ≠ [] ∧ 0 ≤ k ∧ k ≤ 1000 ∧ xs.length ≤ 1000 then some (.tup (List.replicate k.toNat xs).flatten) else none
  | _, _ => none
def fdivV : PV → PV → Option PV
  | .int i, .int j => if 0 < j ∧ j.natAbs.log2 < 9000 then some (.int (i / j)) else none
  | _, _ => none
def modV : PV → PV → Option PV
  | .int i, .int j => if 0 < j then some (.int (i % j)) else none
  | _, _ => none
def powV : PV → PV → Option PV
  | .int i, .int j => if 0 ≤ j ∧ j ≤ 1000000 ∧ i.natAbs < 18446744073709551616 then some (.int (i ^ j.toNat)) else none
  | _, _ => none
def binV : Nat → PV → PV → Option PV
  | 0 => addV
  | 1 => subV
  | 2 => mulV
  | 3 => fdivV
  | 4 => modV
  | 5 => powV
  | _ => fun _ _ => none
mutual
/-- equal as data -/
def eqvP : PV → PV → Bool
  | .non, .non => true
  | .bl a, .bl b => a == b
  | .bl a, .int j => (if a then 1 else 0) == j
  | .int i, .bl b => i == (if b then 1 else 0)
  | .int i, .int j => i == j
  | .str s, .str t => s == t
  | .lst xs, .lst ys => eqvPs xs ys
  | .tup xs, .tup ys => eqvPs xs ys
  | _, _ => false
def eqvPs : List PV → List PV → Bool
  | [], [] => true
  | x :: xs, y :: ys => eqvP x y && eqvPs xs ys
  | _, _ => false
end
mutual
/-- plain data, so many deep at most -/
def dataP : Nat → PV → Bool
  | _, .non => true
  | _, .bl _ => true
  | _, .int _ => true
  | _, .str _ => true
  | 0, _ => false
  | n + 1, .lst xs => dataPs n xs
  | n + 1, .tup xs => dataPs n xs
  | _ + 1, _ => false
def dataPs : Nat → List PV → Bool
  | _, [] => true
  | n, x :: xs => dataP n x && dataPs n xs
end
def eqD (a b : PV) : Option Bool := if dataP 60 a && dataP 60 b then some (eqvP a b) else none
def blO (o : Option Bool) : Option PV := match o with
  | some b => some (.bl b)
  | none => none
def ltI (p : Int → Int → Bool) : PV → PV → Option PV
  | .int i, .int j => some (.bl (p i j))
  | _, _ => none
def intsV : List PV → Option (List Int)
  | [] => some []
  | .int i :: r => (match intsV r with | some is => some (i :: is) | none => none)
  | _ :: _ => none
def lexI : List Int → List Int → Bool
  | _, [] => false
  | [], _ :: _ => true
  | a :: l, b :: m => if a = b then lexI l m else decide (a < b)
def ltV : PV → PV → Option PV
  | .int i, .int j => some (.bl (decide (i < j)))
  | .tup xs, .tup ys => (match intsV xs, intsV ys with
    | some a, some b => some (.bl (lexI a b))
    | _, _ => none)
  | _, _ => none
def dGet : List (PV × PV) → PV → Option PV
  | [], _ => none
  | (k, v) :: r, x => if eqvP k x then some v else dGet r x
def inD : PV → PV → Option Bool
  | x, .lst ys => if dataP 60 x && dataPs 60 ys then some (ys.any fun y => eqvP y x) else none
  | x, .tup ys => if dataP 0 x && dataPs 0 ys then some (ys.any fun y => eqvP y x) else none
  | .str [c], .str t => some (t.contains c)
  | .int i, .dct kvs => some (dGet kvs (.int i)).isSome
  | .str s, .dct kvs => some (dGet kvs (.str s)).isSome
  | _, _ => none
def isV : PV → PV → Option Bool
  | .non, .non => some true
  | _, .non => some false
  | .bl a, .bl b => some (a == b)
  | _, _ => none
/-- the same flat thing -/
def sameP : PV → PV → Bool
  | .non, .non => true
  | .bl a, .bl b => a == b
  | .int i, .int j => i == j
  | .str s, .str t => s == t
  | _, _ => false
/-- dicts that hold the same flat things -/
def eqDD : PV → PV → Option Bool
  | .dct ks, .dct ls => if ks.length = ls.length ∧ (ks.all fun kv => match dGet ls kv.1 with | some w => sameP kv.2 w | none => false) = true then some true else none
  | _, _ => none
def eqE (a b : PV) : Option Bool := match eqD a b with
  | some t => some t
  | none => eqDD a b
def cmpV : Nat → PV → PV → Option PV
  | 0 => fun a b => blO (eqE a b)
  | 1 => fun a b => blO ((eqE a b).map not)
  | 2 => ltV
  | 3 => ltI fun i j => decide (i ≤ j)
  | 4 => ltI fun i j => decide (j < i)
  | 5 => ltI fun i j => decide (j ≤ i)
  | 6 => fun a b => blO (inD a b)
  | 7 => fun a b => blO ((inD a b).map not)
  | 8 => fun a b => blO (isV a b)
  | 9 => fun a b => blO ((isV a b).map not)
  | _ => fun _ _ => none
def lenV : PV → Option PV
  | .lst xs => some (.int xs.length)
  | .tup xs => some (.int xs.length)
  | .str s => some (.int s.length)
  | .dct kvs => some (.int kvs.length)
  | .scr ns => some (.int ns.length)
  | _ => none
def ixP (n : Nat) (i : Int) : Option Nat := if 0 ≤ i then (if i < n then some i.toNat else none) else if -(n : Int) ≤ i then some (i + n).toNat else none
def atP {α : Type} (xs : List α) (i : Int) : Option α := (ixP xs.length i).bind fun j => xs[j]?
def idxV : PV → PV → Option PV
  | .lst xs, .int i => atP xs i
  | .tup xs, .int i => atP xs i
  | .str s, .int i => (atP s i).map fun c => .str [c]
  | .dct kvs, .int i => dGet kvs (.int i)
  | .dct kvs, .str s => dGet kvs (.str s)
  | _, _ => none
def sIxP (n d : Nat) : Option Int → Nat
  | none => d
  | some v => if v < 0 then (v + (n : Int)).toNat else min v.toNat n
def cutP {α : Type} (xs : List α) (lo hi : Option Int) : List α := (xs.drop (sIxP xs.length 0 lo)).take (sIxP xs.length xs.length hi - sIxP xs.length 0 lo)
def slcV (a : PV) (lo hi : Option Int) : Option PV := match a with
  | .lst xs => some (.lst (cutP xs lo hi))
  | .tup xs => some (.tup (cutP xs lo hi))
  | .str s => some (.str (cutP s lo hi))
  | _ => none
def negV : PV → Option PV
  | .int i => some (.int (-i))
  | _ => none
def truthV : PV → Option Bool
  | .bl b => some b
  | .non => some false
  | .int i => some (i != 0)
  | .lst xs => some (!xs.isEmpty)
  | .tup xs => some (!xs.isEmpty)
  | .str xs => some (xs.length != 0)
  | _ => none

def attV (isF : Nat → Nat → Bool) (f : Nat) : PV → Option PV
  | .obj c fs => if isF c f = true then fs.lookup f else none
  | _ => none
/-- the kinds of things -/
inductive Kd where
  | ty (n : Nat)
  | cls (c : Nat)
deriving DecidableEq
/-- types: 0 int 1 bool 2 str 3 list 4 tuple 5 dict 6 NoneType -/
def kdV : PV → Option Kd
  | .non => some (.ty 6)
  | .bl _ => some (.ty 1)
  | .int _ => some (.ty 0)
  | .str _ => some (.ty 2)
  | .lst _ => some (.ty 3)
  | .tup _ => some (.ty 4)
  | .dct _ => some (.ty 5)
  | .obj c _ => some (.cls c)
  | _ => none
def kdC : PV → Option Kd
  | .ty n => if n < 6 then some (.ty n) else none
  | .cls c => some (.cls c)
  | _ => none
def kdIs : Kd → Kd → Bool
  | .ty 1, .ty 0 => true
  | a, b => decide (a = b)
def kdAny (k : Kd) : List PV → Option Bool
  | [] => some false
  | c :: r => match kdC c, kdAny k r with
    | some q, some b => some (kdIs k q || b)
    | _, _ => none
def isiV (x c : PV) : Option PV := match kdV x with
  | none => none
  | some k => match c with
    | .tup cs => blO (kdAny k cs)
    | _ => match kdC c with
      | some q => some (.bl (kdIs k q))
      | none => none
def intV : PV → Option PV
  | .int i => some (.int i)
  | .bl b => some (.int (if b then 1 else 0))
  | _ => none
def listV : PV → Option PV
  | .lst xs => some (.lst xs)
  | .tup xs => some (.lst xs)
  | .scr ns => some (.lst (ns.map .int))
  | _ => none
def tupleV : PV → Option PV
  | .lst xs => some (.tup xs)
  | .tup xs => some (.tup xs)
  | _ => none
def trA : PV → Bool
  | .bl b => b
  | .int i => i != 0
  | .str s => s.length != 0
  | _ => false
def allV : PV → Option PV
  | .lst xs => if dataPs 0 xs = true then some (.bl (xs.all trA)) else none
  | .tup xs => if dataPs 0 xs = true then some (.bl (xs.all trA)) else none
  | _ => none
def anyV : PV → Option PV
  | .lst xs => if dataPs 0 xs = true then some (.bl (xs.any trA)) else none
  | .tup xs => if dataPs 0 xs = true then some (.bl (xs.any trA)) else none
  | _ => none
def iterV : PV → Option (List PV)
  | .lst ds => some ds
  | .tup ds => some ds
  | .str s => some (s.map fun c => .str [c])
  | .scr ns => some (ns.map .int)
  | _ => none
def seqP : PV → Option (List PV)
  | .lst ds => some ds
  | .tup ds => some ds
  | _ => none
def rngN (d : PV) : Option (List PV) := match d with
  | .int j => if -4611686018427387904 ≤ j ∧ j ≤ 16777216 then some ((List.range j.toNat).map fun (i : Nat) => .int (0 + (i : Int))) else none
  | _ => none
def rngN2 (c d : PV) : Option (List PV) := match c, d with
  | .int i, .int j => if -4611686018427387904 ≤ i ∧ i < 4611686018427387904 ∧ -4611686018427387904 ≤ j ∧ j < 4611686018427387904 ∧ j - i ≤ 16777216 then some ((List.range (j - i).toNat).map fun (k : Nat) => .int (i + (k : Int))) else none
  | _, _ => none
def enumP (ds : List PV) : List PV := ds.zipIdx.map fun x => .tup [.int (x.2 : Nat), x.1]
def zipP (ds es : List PV) : List PV := (ds.zip es).map fun x => .tup [x.1, x.2]
def strsV : List PV → Option (List Txt)
  | [] => some []
  | .str s :: r => (match strsV r with | some ss => some (s :: ss) | none => none)
  | _ :: _ => none
def joinT (a : Txt) : List Txt → Txt
  | [] => []
  | [s] => s
  | s :: r => s ++ (a ++ joinT a r)
def joinV : PV → PV → Option PV
  | .str a, .lst xs => (match strsV xs with
    | some ss => if (ss.map List.length).sum + ss.length * a.length ≤ 16777216 then some (.str (joinT a ss)) else none
    | none => none)
  | _, _ => none
def strI (i : Int) : Txt := (toString i).toList.map fun c => c.toNat
def strV : PV → Option PV
  | .int i => if i.natAbs.log2 < 1920 ∧ (strI i).length ≤ 1000 then some (.str (strI i)) else none
  | _ => none
def absV : PV → Option PV
  | .int i => some (.int (if i < 0 then -i else i))
  | _ => none
def sumV : PV → Option PV
  | .lst xs => (match intsV xs with | some is => some (.int is.sum) | none => none)
  | _ => none
def max2V : PV → PV → Option PV
  | .int i, .int j => some (.int (if j > i then j else i))
  | _, _ => none
def min2V : PV → PV → Option PV
  | .int i, .int j => some (.int (if j < i then j else i))
  | _, _ => none
def countV : PV → PV → Option PV
  | .lst xs, y => if dataP 60 y && dataPs 60 xs then some (.int (xs.countP fun x => eqvP x y)) else none
  | _, _ => none
def revV : PV → Option PV
  | .lst xs => some (.lst xs.reverse)
  | _ => none
def pairsV : List PV → Option (List (PV × PV))
  | [] => some []
  | .tup [k, v] :: r => (match pairsV r with | some ps => some ((k, v) :: ps) | none => none)
  | _ :: _ => none
def isKey : PV → Bool
  | .int _ => true
  | .str _ => true
  | _ => false
def putD {α : Type} (kvs : List (PV × α)) (k : PV) (v : α) : List (PV × α) :=
  if (kvs.any fun kv => eqvP kv.1 k) = true then kvs.map (fun kv => if eqvP kv.1 k = true then (kv.1, v) else kv) else kvs ++ [(k, v)]
def mergeD {α : Type} : List (PV × α) → List (PV × α) → List (PV × α)
  | d, [] => d
  | d, (k, v) :: r => mergeD (putD d k v) r
def dictV : PV → Option PV
  | .lst xs => (match pairsV xs with
    | some ps => if ps.all (fun p => isKey p.1) = true then some (.dct (mergeD [] ps)) else none
    | none => none)
  | .dct kvs => some (.dct kvs)
  | _ => none
/-! ### values, changing objects, the heap -/
/-- a value: a thing that stays as it is, or a changing object by its number -/
inductive Vl where
  | fz (d : PV)
  | rf (n : Nat)
deriving Inhabited
inductive MO where
  | lst (xs : List Vl)
  | dct (kvs : List (PV × Vl))
  | ins (c : Nat) (fs : List (Nat × Vl))
deriving Inhabited
abbrev Hm := List (Option MO)
abbrev Env := List (Option Vl)
inductive R (α : Type) where
  | ok (a : α) (h : Hm)
  | exc (c : Nat) (ps : List PV) (h : Hm)
  | stuck
def R.bind {α β : Type} (o : R α) (f : α → Hm → R β) : R β := match o with
  | .ok a h => f a h
  | .exc c p h => .exc c p h
  | .stuck => .stuck
def lift {α : Type} (o : Option α) (h : Hm) : R α := match o with
  | some a => .ok a h
  | none => .stuck
def liftF (o : Option PV) (h : Hm) : R Vl := match o with
  | some a => .ok (.fz a) h
  | none => .stuck
/-! ### freezing -/
def mapH {α β : Type} (f : α → Hm → Option (β × Hm)) : List α → Hm → Option (List β × Hm)
  | [], h => some ([], h)
  | x :: xs, h => match f x h with
    | none => none
    | some (d, h1) => match mapH f xs h1 with
      | none => none
      | some (ds, h2) => some (d :: ds, h2)
def sndH {κ : Type} (f : Vl → Hm → Option (PV × Hm)) (p : κ × Vl) (h : Hm) : Option ((κ × PV) × Hm) := match f p.2 h with
  | none => none
  | some (d, h1) => some ((p.1, d), h1)
/-- a value becomes a thing that stays: its objects leave the heap -/
def frzV : Nat → Vl → Hm → Option (PV × Hm)
  | _, .fz d, h => some (d, h)
  | 0, .rf _, _ => none
  | k + 1, .rf n, h => match h[n]? with
    | some (some (.lst xs)) => (match mapH (frzV k) xs (h.set n none) with
      | some (ds, h1) => some (.lst ds, h1)
      | none => none)
    | some (some (.dct kvs)) => (match mapH (sndH (frzV k)) kvs (h.set n none) with
      | some (ds, h1) => some (.dct ds, h1)
      | none => none)
    | some (some (.ins c fs)) => (match mapH (sndH (frzV k)) fs (h.set n none) with
      | some (ds, h1) => some (.obj c ds, h1)
      | none => none)
    | _ => none
def frz (v : Vl) (h : Hm) : R PV := match frzV 8 v h with
  | some (d, h1) => .ok d h1
  | none => .stuck
/-- a value as it stands now -/
def vw (h : Hm) (v : Vl) : Option PV := match frzV 8 v h with
  | some (d, _) => some d
  | none => none
def frzs : List Vl → Hm → R (List PV)
  | [], h => .ok [] h
  | v :: vs, h => (frz v h).bind fun d h => (frzs vs h).bind fun ds h => .ok (d :: ds) h
/-! ### operators over values -/
def op2 (f g : Env → Hm → R Vl) (k : Vl → Vl → Hm → R Vl) : Env → Hm → R Vl := fun env h => (f env h).bind fun x h => (g env h).bind fun y h => k x y h
def op1 (f : Env → Hm → R Vl) (k : Vl → Hm → R Vl) : Env → Hm → R Vl := fun env h => (f env h).bind fun x h => k x h
/-- the answer is flat: what is asked is read where it stands -/
def opA (g : PV → PV → Option PV) : Vl → Vl → Hm → R Vl := fun x y h => match vw h x, vw h y with
  | some a, some b => liftF (g a b) h
  | _, _ => .stuck
def opA1 (g : PV → Option PV) : Vl → Hm → R Vl := fun x h => match vw h x with
  | some a => liftF (g a) h
  | none => .stuck
/-- the answer may hold what is asked: that is frozen -/
def opG (g : PV → PV → Option PV) : Vl → Vl → Hm → R Vl := fun x y h => (frz x h).bind fun a h => (frz y h).bind fun b h => liftF (g a b) h
def opG1 (g : PV → Option PV) : Vl → Hm → R Vl := fun x h => (frz x h).bind fun a h => liftF (g a) h
/-- a list, new, that may change -/
def newL (xs : List Vl) (h : Hm) : R Vl := .ok (.rf h.length) (h ++ [some (.lst xs)])
def newD (xs : List (PV × Vl)) (h : Hm) : R Vl := .ok (.rf h.length) (h ++ [some (.dct xs)])
def evVar (i : Nat) : Env → Hm → R Vl := fun env h => match env[i]? with
  | some (some v) => .ok v h
  | _ => .stuck
def cstE (d : PV) : Env → Hm → R Vl := fun _ h => if d.atom = true then .ok (.fz d) h else .stuck
def gloE (o : Option PV) : Env → Hm → R Vl := fun _ h => match o with
  | some d => if d.atom = true then .ok (.fz d) h else .stuck
  | none => .stuck
def truH (h : Hm) : Vl → Option Bool
  | .fz d => truthV d
  | .rf n => match h[n]? with
    | some (some (.lst xs)) => some (!xs.isEmpty)
    | some (some (.dct xs)) => some (!xs.isEmpty)
    | _ => none
def lenH : Vl → Hm → R Vl := fun x h => match x with
  | .fz d => liftF (lenV d) h
  | .rf n => match h[n]? with
    | some (some (.lst xs)) => .ok (.fz (.int xs.length)) h
    | some (some (.dct xs)) => .ok (.fz (.int xs.length)) h
    | _ => .stuck
def dGetH : List (PV × Vl) → PV → Option Vl
  | [], _ => none
  | (k, v) :: r, x => if eqvP k x then some v else dGetH r x
def idxH : Vl → Vl → Hm → R Vl := fun x y h => match y with
  | .rf _ => .stuck
  | .fz i => match x with
    | .fz d => liftF (idxV d i) h
    | .rf n => match h[n]? with
      | some (some (.lst xs)) => (match i with | .int j => lift (atP xs j) h | _ => .stuck)
      | some (some (.dct kvs)) => if isKey i = true then lift (dGetH kvs i) h else .stuck
      | _ => .stuck
def attH (isF : Nat → Nat → Bool) (f : Nat) : Vl → Hm → R Vl := fun x h => match x with
  | .fz d => liftF (attV isF f d) h
  | .rf n => match h[n]? with
    | some (some (.ins c fs)) => if isF c f = true then lift (fs.lookup f) h else .stuck
    | _ => .stuck
def truR (v : Vl) (h : Hm) : R Bool := lift (truH h v) h
def blR (v : Vl) (h : Hm) : R Bool := match v with
  | .fz (.bl b) => .ok b h
  | _ => .stuck
def andT (f g : Env → Hm → R Bool) : Env → Hm → R Bool := fun env h => (f env h).bind fun t h => if t = true then g env h else .ok false h
def orT (f g : Env → Hm → R Bool) : Env → Hm → R Bool := fun env h => (f env h).bind fun t h => if t = true then .ok true h else g env h
def notT (f : Env → Hm → R Bool) : Env → Hm → R Bool := fun env h => (f env h).bind fun t h => .ok (!t) h
def valT (f : Env → Hm → R Vl) : Env → Hm → R Bool := fun env h => (f env h).bind truR
def cmpT (f : Env → Hm → R Vl) : Env → Hm → R Bool := fun env h => (f env h).bind blR
def andV (f g : Env → Hm → R Vl) : Env → Hm → R Vl := fun env h => (f env h).bind fun d h => (truR d h).bind fun t h => if t = true then g env h else .ok d h
def orV (f g : Env → Hm → R Vl) : Env → Hm → R Vl := fun env h => (f env h).bind fun d h => (truR d h).bind fun t h => if t = true then .ok d h else g env h
def notV (f : Env → Hm → R Vl) : Env → Hm → R Vl := fun env h => (f env h).bind fun d h => (truR d h).bind fun t h => .ok (.fz (.bl (!t))) h
def ifV (c : Env → Hm → R Bool) (f g : Env → Hm → R Vl) : Env → Hm → R Vl := fun env h => (c env h).bind fun t h => if t = true then f env h else g env h
def chainV (k j : Nat) (f g u : Env → Hm → R Vl) : Env → Hm → R Vl := fun env h => (f env h).bind fun x h => (g env h).bind fun y h => (opA (cmpV k) x y h).bind fun z h => match z with
  | .fz (.bl true) => (u env h).bind fun w h => opA (cmpV j) y w h
  | .fz (.bl false) => .ok (.fz (.bl false)) h
  | _ => .stuck
def bdE (f : Option (Env → Hm → R Vl)) : Env → Hm → R (Option Int) := fun env h => match f with
  | none => .ok none h
  | some f => (f env h).bind fun d h => match d with
    | .fz (.int i) => .ok (some i) h
    | _ => .stuck
/-- a slice: of a changing list a new one that stays, if its items stay -/
def allF : List Vl → Option (List PV)
  | [] => some []
  | .fz d :: r => (match allF r with | some ds => some (d :: ds) | none => none)
  | .rf _ :: _ => none
def allFd : List (PV × Vl) → Option (List (PV × PV))
  | [] => some []
  | (k, .fz d) :: r => (match allFd r with | some ds => some ((k, d) :: ds) | none => none)
  | (_, .rf _) :: _ => none
def shal (h : Hm) : Vl → Option PV
  | .fz d => some d
  | .rf n => match h[n]? with
    | some (some (.lst xs)) => (match allF xs with | some ds => some (.lst ds) | none => none)
    | some (some (.dct xs)) => (match allFd xs with | some ds => some (.dct ds) | none => none)
    | _ => none
def slcE (f : Env → Hm → R Vl) (lo hi : Option (Env → Hm → R Vl)) : Env → Hm → R Vl := fun env h => (f env h).bind fun x h => (bdE lo env h).bind fun l h => (bdE hi env h).bind fun u h => match shal h x with
  | some d => liftF (slcV d l u) h
  | none => .stuck
/-- one built-in with an answer made of its one argument's items: list(), tuple(), sorted() -/
def opS1 (g : PV → Option PV) : Vl → Hm → R Vl := fun x h => match shal h x with
  | some d => liftF (g d) h
  | none => .stuck
/-- .. held as a changing object -/
def thaw (d : PV) (h : Hm) : R Vl := match d with
  | .lst ds => newL (ds.map .fz) h
  | .dct kvs => newD (kvs.map fun kv => (kv.1, .fz kv.2)) h
  | _ => .stuck
def opN1 (g : PV → Option PV) : Vl → Hm → R Vl := fun x h => match shal h x with
  | some d => (match g d with
    | some r => thaw r h
    | none => .stuck)
  | none => .stuck
/-- + and * of lists, the new one held as a changing object -/
def opNb (k : Nat) : Vl → Vl → Hm → R Vl := fun x y h => (frz x h).bind fun a h => (frz y h).bind fun b h => match a with
  | .lst _ => (match binV k a b with
    | some (.lst ds) => newL (ds.map .fz) h
    | _ => .stuck)
  | _ => .stuck
/-- d.get(k, e) -/
def getH (x k e : Vl) (h : Hm) : R Vl := match k with
  | .fz i => if isKey i = true then (match x with
    | .fz (.dct kvs) => (match dGet kvs i with
      | some d => .ok (.fz d) h
      | none => .ok e h)
    | .rf n => (match h[n]? with
      | some (some (.dct kvs)) => (match dGetH kvs i with
        | some d => .ok d h
        | none => .ok e h)
      | _ => .stuck)
    | _ => .stuck) else .stuck
  | _ => .stuck
def isDH (h : Hm) : Vl → Bool
  | .fz (.dct _) => true
  | .fz _ => false
  | .rf n => (match h[n]? with
    | some (some (.dct _)) => true
    | _ => false)
def getE (f g u : Env → Hm → R Vl) : Env → Hm → R Vl := fun env h => (f env h).bind fun x h => if isDH h x = true then (g env h).bind fun y h => (u env h).bind fun z h => getH x y z h else .stuck
def isStrV : Vl → Bool
  | .fz (.str _) => true
  | _ => false
def joinE (f g : Env → Hm → R Vl) : Env → Hm → R Vl := fun env h => (f env h).bind fun x h => if isStrV x = true then (g env h).bind fun y h => opA joinV x y h else .stuck
/-- a dict that may change -/
def isDctH (h : Hm) : Vl → Bool
  | .rf n => (match h[n]? with
    | some (some (.dct _)) => true
    | _ => false)
  | _ => false
/-- d.update(e), e a dict that stays -/
def updW (x y : Vl) (h : Hm) : R Vl := match x, y with
  | .rf n, .fz (.dct es) => (match h[n]? with
    | some (some (.dct kvs)) => if kvs.length + es.length ≤ LIM then .ok (.fz .non) (h.set n (some (.dct (mergeD kvs (es.map fun e => (e.1, Vl.fz e.2)))))) else .stuck
    | _ => .stuck)
  | _, _ => .stuck
def updE (f g : Env → Hm → R Vl) : Env → Hm → R Vl := fun env h => (f env h).bind fun x h => if isDctH h x = true then (g env h).bind fun y h => updW x y h else .stuck
def op3 (f g u : Env → Hm → R Vl) (k : Vl → Vl → Vl → Hm → R Vl) : Env → Hm → R Vl := fun env h => (f env h).bind fun x h => (g env h).bind fun y h => (u env h).bind fun z h => k x y z h
/-- count, index: the list's own items, the thing read -/
def countH : Vl → Vl → Hm → R Vl := fun x y h => opA countV x y h
/-! ### displays, arguments -/
def esNil : Env → Hm → R (List Vl) := fun _ h => .ok [] h
def esCons (f : Env → Hm → R Vl) (g : Env → Hm → R (List Vl)) : Env → Hm → R (List Vl) := fun env h => (f env h).bind fun d h => (g env h).bind fun ds h => .ok (d :: ds) h
def lstE (g : Env → Hm → R (List Vl)) : Env → Hm → R Vl := fun env h => (g env h).bind fun ds h => if ds.length ≤ LIM then (frzs ds h).bind fun ds h => .ok (.fz (.lst ds)) h else .stuck
def tupE (g : Env → Hm → R (List Vl)) : Env → Hm → R Vl := fun env h => (g env h).bind fun ds h => if ds.length ≤ LIM then (frzs ds h).bind fun ds h => .ok (.fz (.tup ds)) h else .stuck
def nlstE (g : Env → Hm → R (List Vl)) : Env → Hm → R Vl := fun env h => (g env h).bind fun ds h => if ds.length ≤ LIM then newL ds h else .stuck
/-- a dict's display: its keys and values in turn -/
def prs : List Vl → Option (List (PV × Vl))
  | [] => some []
  | .fz k :: v :: r => if isKey k = true then (match prs r with | some ps => some ((k, v) :: ps) | none => none) else none
  | _ => none
def ndctE (g : Env → Hm → R (List Vl)) : Env → Hm → R Vl := fun env h => (g env h).bind fun vs h => match prs vs with
  | some ps => if ps.length ≤ 15 then newD (mergeD [] ps) h else .stuck
  | none => .stuck
def dctE (g : Env → Hm → R (List Vl)) : Env → Hm → R Vl := fun env h => (ndctE g env h).bind fun v h => (frz v h).bind fun d h => .ok (.fz d) h
/-! ### calls -/
/-- arguments by their names: which stands at each parameter -/
def perm (is : List Nat) (vs : List Vl) : Option (List Vl) := is.mapM fun i => vs[i]?
def permE (is : List Nat) (g : Env → Hm → R (List Vl)) : Env → Hm → R (List Vl) := fun env h => (g env h).bind fun vs h => lift (perm is vs) h
/-- an own __contains__, __eq__ -/
def clsOfV (h : Hm) : Vl → Option Nat
  | .fz (.obj c _) => some c
  | .fz _ => none
  | .rf n => match h[n]? with
    | some (some (.ins c _)) => some c
    | _ => none
def ownB (neg : Bool) (o : R Vl) : R Vl := o.bind fun r h => match r with
  | .fz (.bl b) => .ok (.fz (.bl (if neg then !b else b))) h
  | _ => .stuck
def kdH (h : Hm) : Vl → Option Kd
  | .fz d => kdV d
  | .rf n => match h[n]? with
    | some (some (.lst _)) => some (.ty 3)
    | some (some (.dct _)) => some (.ty 5)
    | some (some (.ins c _)) => some (.cls c)
    | none => none
    | some none => none
/-- len, binary operators, ~ of own classes: by the numbers 8, 20 and up, 13 -/
def lenG (spc : Nat → Nat → Option Nat) (φ : Nat → List Vl → Hm → R Vl) : Vl → Hm → R Vl := fun x h => match clsOfV h x with
  | some c => (match spc 8 c with
    | some f => (φ f [x] h).bind fun r h => (match r with
      | .fz (.int n) => if 0 ≤ n ∧ n < 9223372036854775808 then .ok (.fz (.int n)) h else .stuck
      | _ => .stuck)
    | none => .stuck)
  | none => lenH x h
def binG (spc : Nat → Nat → Option Nat) (φ : Nat → List Vl → Hm → R Vl) (k : Nat) : Vl → Vl → Hm → R Vl := fun x y h => match clsOfV h x with
  | some c => (match spc (20 + k) c with
    | some f => if clsOfV h y = some c then φ f [x, y] h else .stuck
    | none => .stuck)
  | none => opG (binV k) x y h
def invG (spc : Nat → Nat → Option Nat) (φ : Nat → List Vl → Hm → R Vl) : Vl → Hm → R Vl := fun x h => match clsOfV h x with
  | some c => (match spc 13 c with
    | some f => φ f [x] h
    | none => .stuck)
  | none => .stuck
def cmpG (spc : Nat → Nat → Option Nat) (φ : Nat → List Vl → Hm → R Vl) (k : Nat) : Vl → Vl → Hm → R Vl := fun x y h =>
  if k = 6 ∨ k = 7 then (match clsOfV h y with
    | some c => (match spc 6 c with
      | some f => ownB (decide (k = 7)) (φ f [y, x] h)
      | none => .stuck)
    | none => opA (cmpV k) x y h)
  else if k = 0 ∨ k = 1 then (match clsOfV h x with
    | some c => (match spc 0 c with
      | some f => if (kdH h y).isSome = true then ownB (decide (k = 1)) (φ f [x, y] h) else .stuck
      | none => .stuck)
    | none => opA (cmpV k) x y h)
  else opA (cmpV k) x y h
def callE (φ : List Vl → Hm → R Vl) (g : Env → Hm → R (List Vl)) : Env → Hm → R Vl := fun env h => (g env h).bind fun as h => φ as h
/-- an instance of the class c without a field m -/
def isInst (h : Hm) (c m : Nat) : Vl → Bool
  | .fz (.obj c' fs) => decide (c' = c) && !(fs.map (·.1)).contains m
  | .fz _ => false
  | .rf n => match h[n]? with
    | some (some (.ins c' fs)) => decide (c' = c) && !(fs.map (·.1)).contains m
    | _ => false
def methE (c m : Nat) (φ : List Vl → Hm → R Vl) (f : Env → Hm → R Vl) (g : Env → Hm → R (List Vl)) : Env → Hm → R Vl := fun env h => (f env h).bind fun d h => if isInst h c m d = true then (g env h).bind fun as h => φ (d :: as) h else .stuck
def newE (c : Nat) (φ : List Vl → Hm → R Vl) (g : Env → Hm → R (List Vl)) : Env → Hm → R Vl := fun env h => (g env h).bind fun as h => (φ (.rf h.length :: as) (h ++ [some (.ins c [])])).bind fun r h' => match r with
  | .fz .non => .ok (.rf h.length) h'
  | _ => .stuck
def frzE (f : Env → Hm → R Vl) : Env → Hm → R Vl := fun env h => (f env h).bind fun v h => (frz v h).bind fun d h => .ok (.fz d) h
/-! ### writing -/
def putP {α : Type} (f : Nat) (d : α) : List (Nat × α) → List (Nat × α)
  | [] => [(f, d)]
  | (g, x) :: r => if g = f then (f, d) :: r else (g, x) :: putP f d r
/-- the list at x is taken out and put back otherwise -/
def wrL (x : Vl) (w : List Vl → Option (Vl × List Vl)) (h : Hm) : R Vl := match x with
  | .rf n => (match h[n]? with
    | some (some (.lst xs)) => (match w xs with
      | some (r, ys) => .ok r (h.set n (some (.lst ys)))
      | none => .stuck)
    | _ => .stuck)
  | _ => .stuck
def appW (y : Vl) (xs : List Vl) : Option (Vl × List Vl) := if xs.length < LIM then some (.fz .non, xs ++ [y]) else none
def popW (xs : List Vl) : Option (Vl × List Vl) := match xs[xs.length - 1]? with
  | some y => some (y, xs.dropLast)
  | none => none
def popAtW (i : Vl) (xs : List Vl) : Option (Vl × List Vl) := match i with
  | .fz (.int i) => (match ixP xs.length i with
    | some k => (match xs[k]? with | some y => some (y, xs.eraseIdx k) | none => none)
    | none => none)
  | _ => none
def itemsH (h : Hm) : Vl → Option (List Vl)
  | .fz (.lst ds) => some (ds.map .fz)
  | .rf n => match h[n]? with
    | some (some (.lst xs)) => some xs
    | _ => none
  | _ => none
def isLstH (h : Hm) : Vl → Bool
  | .rf n => (match h[n]? with
    | some (some (.lst _)) => true
    | _ => false)
  | _ => false
def appE (f g : Env → Hm → R Vl) : Env → Hm → R Vl := fun env h => (f env h).bind fun x h => if isLstH h x = true then (g env h).bind fun y h => wrL x (appW y) h else .stuck
def popAtE (f g : Env → Hm → R Vl) : Env → Hm → R Vl := fun env h => (f env h).bind fun x h => if isLstH h x = true then (g env h).bind fun y h => wrL x (popAtW y) h else .stuck
/-- x.insert(i, y) -/
def insW (i y : Vl) (xs : List Vl) : Option (Vl × List Vl) := match i with
  | .fz (.int i) => if 0 ≤ i ∧ i ≤ (xs.length : Int) ∧ xs.length < LIM then some (.fz .non, xs.take i.toNat ++ y :: xs.drop i.toNat) else none
  | _ => none
def insE (f g u : Env → Hm → R Vl) : Env → Hm → R Vl := fun env h => (f env h).bind fun x h => if isLstH h x = true then (g env h).bind fun i h => (u env h).bind fun y h => wrL x (insW i y) h else .stuck
def isLs2 (h : Hm) : Vl → Bool
  | .fz (.lst _) => true
  | .fz _ => false
  | .rf n => isLstH h (.rf n)
/-- x.index(y), where y raises -/
def ixmE (f g : Env → Hm → R Vl) : Env → Hm → R Vl := fun env h => (f env h).bind fun x h => if isLs2 h x = true then (g env h).bind fun _ _ => .stuck else .stuck
def popE (f : Env → Hm → R Vl) : Env → Hm → R Vl := fun env h => (f env h).bind fun x h => wrL x popW h
/-- x.extend(y): y another list -/
def extE (f g : Env → Hm → R Vl) : Env → Hm → R Vl := fun env h => (f env h).bind fun x h => if isLstH h x = true then (g env h).bind fun y h => match x, itemsH h y with
  | .rf n, some ys => (match y with
    | .rf m => if m = n then .stuck else wrL x (fun xs => if xs.length + ys.length ≤ LIM then some (.fz .non, xs ++ ys) else none) h
    | .fz _ => wrL x (fun xs => if xs.length + ys.length ≤ LIM then some (.fz .non, xs ++ ys) else none) h)
  | _, _ => .stuck
  else .stuck
/-! ### statements -/
inductive SO where
  | nx (e : Env) (h : Hm)
  | rt (v : Vl) (h : Hm)
  | bk (e : Env) (h : Hm)
  | ct (e : Env) (h : Hm)
  | exc (c : Nat) (p : List PV) (h : Hm)
  | stuck
def SO.bind (o : SO) (f : Env → Hm → SO) : SO := match o with
  | .nx e h => f e h
  | o => o
def R.bindS {α : Type} (o : R α) (f : α → Hm → SO) : SO := match o with
  | .ok a h => f a h
  | .exc c p h => .exc c p h
  | .stuck => .stuck
def setE (i : Nat) (v : Vl) (env : Env) (h : Hm) : SO := if i < env.length then .nx (env.set i (some v)) h else .stuck
/-- o[i] = v -/
def setI (x i v : Vl) (h : Hm) : R Vl := match x with
  | .rf n => (match h[n]? with
    | some (some (.lst xs)) => (match i with
      | .fz (.int i) => (match ixP xs.length i with | some k => .ok (.fz .non) (h.set n (some (.lst (xs.set k v)))) | none => .stuck)
      | _ => .stuck)
    | some (some (.dct kvs)) => (match i with
      | .fz k => if isKey k = true ∧ kvs.length < LIM then .ok (.fz .non) (h.set n (some (.dct (putD kvs k v)))) else .stuck
      | _ => .stuck)
    | _ => .stuck)
  | _ => .stuck
def fldH (isF : Nat → Nat → Bool) (f : Nat) (x v : Vl) (h : Hm) : R Vl := match x with
  | .rf n => (match h[n]? with
    | some (some (.ins c fs)) => if isF c f = true ∧ fs.length < 1000 then .ok (.fz .non) (h.set n (some (.ins c (putP f v fs)))) else .stuck
    | _ => .stuck)
  | _ => .stuck
def setL : List Nat → List Vl → Env → Option Env
  | [], [], env => some env
  | i :: is, v :: vs, env => if i < env.length then setL is vs (env.set i (some v)) else none
  | _, _, _ => none
def whileN (c : Env → Hm → R Bool) (b : Env → Hm → SO) : Nat → Env → Hm → SO
  | 0, _, _ => .stuck
  | n + 1, env, h => (c env h).bindS fun t h => if t = true then (match b env h with
      | .nx e h => whileN c b n e h
      | .ct e h => whileN c b n e h
      | .bk e h => .nx e h
      | o => o) else .nx env h
def forN (g : Vl → Env → Hm → Option Env) (b : Env → Hm → SO) : List Vl → Env → Hm → SO
  | [], env, h => .nx env h
  | x :: xs, env, h => match g x env h with
    | none => .stuck
    | some e => match b e h with
      | .nx e h => forN g b xs e h
      | .ct e h => forN g b xs e h
      | .bk e h => .nx e h
      | o => o
/-! ### what is walked: its items, and what is locked meanwhile -/
abbrev Lk := List (Nat × MO)
def lockH : Lk → Hm → Hm
  | [], h => h
  | (n, _) :: r, h => lockH r (h.set n none)
def unlkH : Lk → Hm → Hm
  | [], h => h
  | (n, o) :: r, h => (unlkH r h).set n (some o)
def unlkS (l : Lk) : SO → SO
  | .nx e h => .nx e (unlkH l h)
  | .rt v h => .rt v (unlkH l h)
  | .bk e h => .bk e (unlkH l h)
  | .ct e h => .ct e (unlkH l h)
  | .exc c p h => .exc c p (unlkH l h)
  | .stuck => .stuck
def unlkR {α : Type} (l : Lk) : R α → R α
  | .ok a h => .ok a (unlkH l h)
  | .exc c p h => .exc c p (unlkH l h)
  | .stuck => .stuck
abbrev Src := Env → Hm → R (List Vl × Lk)
def srcV (f : Env → Hm → R Vl) : Src := fun env h => (f env h).bind fun v h => match v with
  | .fz d => (match iterV d with | some ds => .ok (ds.map .fz, []) h | none => .stuck)
  | .rf n => (match h[n]? with
    | some (some (.lst xs)) => .ok (xs, [(n, .lst xs)]) h
    | _ => .stuck)
def srcR (f : Env → Hm → R Vl) : Src := fun env h => (f env h).bind fun v h => match v with
  | .fz d => (match rngN d with | some ds => .ok (ds.map .fz, []) h | none => .stuck)
  | _ => .stuck
def srcR2 (f g : Env → Hm → R Vl) : Src := fun env h => (f env h).bind fun v h => (g env h).bind fun u h => match v, u with
  | .fz c, .fz d => (match rngN2 c d with | some ds => .ok (ds.map .fz, []) h | none => .stuck)
  | _, _ => .stuck
/-- a list or a tuple, its items, what is to be locked -/
def seqH (h : Hm) : Vl → Option (List PV × Lk)
  | .fz d => (match seqP d with | some ds => some (ds, []) | none => none)
  | .rf n => match h[n]? with
    | some (some (.lst xs)) => (match allF xs with | some ds => some (ds, [(n, .lst xs)]) | none => none)
    | _ => none
def srcE (f : Env → Hm → R Vl) : Src := fun env h => (f env h).bind fun v h => match seqH h v with
  | some (ds, l) => .ok ((enumP ds).map .fz, l) h
  | none => .stuck
def srcZ (f g : Env → Hm → R Vl) : Src := fun env h => (f env h).bind fun v h => (g env h).bind fun u h => match seqH h v with
  | some (ds, l) => (match seqH (lockH l h) u with
    | some (es, l2) => .ok ((zipP ds es).map .fz, l ++ l2) h
    | none => .stuck)
  | none => .stuck
/-! ### targets -/
def tgN (i : Nat) : Vl → Env → Hm → Option Env := fun v env _ => if i < env.length then some (env.set i (some v)) else none
def gsNil : List Vl → Env → Hm → Option Env := fun ds env _ => match ds with
  | [] => some env
  | _ => none
def gsCons (g : Vl → Env → Hm → Option Env) (u : List Vl → Env → Hm → Option Env) : List Vl → Env → Hm → Option Env := fun ds env h => match ds with
  | d :: ds => (match g d env h with
    | some e => u ds e h
    | none => none)
  | [] => none
def gSeq (n : Nat) (g : List Vl → Env → Hm → Option Env) : Vl → Env → Hm → Option Env := fun d env h => match d with
  | .fz (.tup ds) => if ds.length = n then g (ds.map .fz) env h else none
  | .fz (.lst ds) => if ds.length = n then g (ds.map .fz) env h else none
  | .rf k => (match h[k]? with
    | some (some (.lst xs)) => if xs.length = n then g xs env h else none
    | _ => none)
  | _ => none
/-! ### comprehensions -/
def wipeE : List Nat → Env → Env
  | [], env => env
  | v :: vs, env => (wipeE vs env).set v none
/-- nothing is raised within -/
def R.sure {α : Type} : R α → R α
  | .ok a h => .ok a h
  | _ => .stuck
def lcN {β : Type} (g : Vl → Env → Hm → Option Env) (c : Env → Hm → R Bool) (e : Env → Hm → R β) (env : Env) : List Vl → Hm → R (List β)
  | [], h => .ok [] h
  | d :: ds, h => match g d env h with
    | none => .stuck
    | some e1 => (c e1 h).sure.bind fun b h => if b = true then
        (e e1 h).sure.bind fun y h => (lcN g c e env ds h).bind fun ys h => .ok (y :: ys) h
      else lcN g c e env ds h
def frzR (f : Env → Hm → R Vl) : Env → Hm → R PV := fun env h => (f env h).bind frz
def lcV (own : List Nat) (src : Src) (g : Vl → Env → Hm → Option Env) (c : Env → Hm → R Bool) (e : Env → Hm → R Vl) : Env → Hm → R Vl := fun env h =>
  (src env h).bind fun (ds, l) h => unlkR l ((lcN g c (frzR e) (wipeE own env) ds (lockH l h)).bind fun ys h => .ok (.fz (.lst ys)) h)
def nlcV (own : List Nat) (src : Src) (g : Vl → Env → Hm → Option Env) (c : Env → Hm → R Bool) (e : Env → Hm → R Vl) : Env → Hm → R Vl := fun env h =>
  (src env h).bind fun (ds, l) h => unlkR l ((lcN g c e (wipeE own env) ds (lockH l h)).bind fun ys h => newL ys h)
/-- two generators: so many were there before -/
def lcN2 {β : Type} (g : Vl → Env → Hm → Option Env) (c : Env → Hm → R Bool) (own2 : List Nat) (src2 : Src) (g2 : Vl → Env → Hm → Option Env) (c2 : Env → Hm → R Bool) (e : Env → Hm → R β) (env : Env) : List Vl → Hm → R (List β)
  | [], h => .ok [] h
  | d :: ds, h => match g d env h with
    | none => .stuck
    | some e1 => (c e1 h).sure.bind fun b h => if b = true then
        (src2 e1 h).sure.bind fun r h => match r.2 with
          | [] => (lcN g2 c2 e (wipeE own2 e1) r.1 h).bind fun ys h => (lcN2 g c own2 src2 g2 c2 e env ds h).bind fun zs h => .ok (ys ++ zs) h
          | _ :: _ => .stuck
      else lcN2 g c own2 src2 g2 c2 e env ds h
def lc2V (own own2 : List Nat) (src : Src) (g : Vl → Env → Hm → Option Env) (c : Env → Hm → R Bool) (src2 : Src) (g2 : Vl → Env → Hm → Option Env) (c2 : Env → Hm → R Bool) (e : Env → Hm → R Vl) : Env → Hm → R Vl := fun env h =>
  (src env h).bind fun (ds, l) h => unlkR l ((lcN2 g c own2 src2 g2 c2 (frzR e) (wipeE own env) ds (lockH l h)).bind fun ys h => if ys.length ≤ LIM then .ok (.fz (.lst ys)) h else .stuck)
def nlc2V (own own2 : List Nat) (src : Src) (g : Vl → Env → Hm → Option Env) (c : Env → Hm → R Bool) (src2 : Src) (g2 : Vl → Env → Hm → Option Env) (c2 : Env → Hm → R Bool) (e : Env → Hm → R Vl) : Env → Hm → R Vl := fun env h =>
  (src env h).bind fun (ds, l) h => unlkR l ((lcN2 g c own2 src2 g2 c2 e (wipeE own env) ds (lockH l h)).bind fun ys h => if ys.length ≤ LIM then newL ys h else .stuck)
mutual
/-- no dict within -/
def noD : PV → Bool
  | .lst xs => noDs xs
  | .tup xs => noDs xs
  | .dct _ => false
  | .obj _ fs => noDf fs
  | _ => true
def noDs : List PV → Bool
  | [] => true
  | x :: xs => noD x && noDs xs
def noDf : List (Nat × PV) → Bool
  | [] => true
  | (_, x) :: xs => noD x && noDf xs
end
def noV : Vl → Bool
  | .fz d => noD d
  | .rf _ => true
def noO : Option MO → Bool
  | none => true
  | some (.lst xs) => xs.all noV
  | some (.dct kvs) => kvs.all fun kv => noV kv.2
  | some (.ins _ fs) => fs.all fun kv => noV kv.2
/-- the keys of the dict at i, which stays as it is meanwhile -/
def srcK (i : Nat) : Src := fun env h => match env[i]? with
  | some (some (.fz (.dct ds))) => .ok (ds.map fun kv => .fz kv.1, []) h
  | _ => .stuck
def lcKV (own : List Nat) (i : Nat) (g : Vl → Env → Hm → Option Env) (c : Env → Hm → R Bool) (e : Env → Hm → R Vl) : Env → Hm → R Vl := fun env h => match env[i]? with
  | some (some (.rf n)) => (match h[n]? with
    | some (some (.dct kvs)) => (match allFd kvs with
      | some ds => (lcN g c (frzR e) (wipeE own (env.set i (some (.fz (.dct ds))))) (ds.map fun kv => .fz kv.1) (h.set n none)).sure.bind fun ys h' => if noDs ys = true ∧ h'.all noO = true then .ok (.fz (.lst ys)) (h'.set n (some (.dct kvs))) else .stuck
      | none => .stuck)
    | _ => .stuck)
  | some (some (.fz (.dct ds))) => (lcN g c (frzR e) (wipeE own env) (ds.map fun kv => .fz kv.1) h).sure.bind fun ys h' => .ok (.fz (.lst ys)) h'
  | _ => .stuck
def pairE (f g : Env → Hm → R Vl) : Env → Hm → R (PV × Vl) := fun env h => (f env h).bind fun k h => (g env h).bind fun v h => match k with
  | .fz i => if isKey i = true then .ok (i, v) h else .stuck
  | _ => .stuck
def ndcV (own : List Nat) (src : Src) (g : Vl → Env → Hm → Option Env) (c : Env → Hm → R Bool) (e u : Env → Hm → R Vl) : Env → Hm → R Vl := fun env h =>
  (src env h).bind fun (ds, l) h => unlkR l ((lcN g c (pairE e u) (wipeE own env) ds (lockH l h)).bind fun ys h => newD (mergeD [] ys) h)
def dcV (own : List Nat) (src : Src) (g : Vl → Env → Hm → Option Env) (c : Env → Hm → R Bool) (e u : Env → Hm → R Vl) : Env → Hm → R Vl := frzE (ndcV own src g c e u)
/-! ### defs -/
def refsV (n : Nat) : Vl → Bool
  | .fz _ => true
  | .rf m => decide (m < n)
def refsO (n : Nat) : Option MO → Bool
  | none => true
  | some (.lst xs) => xs.all (refsV n)
  | some (.dct kvs) => kvs.all fun kv => refsV n kv.2
  | some (.ins _ fs) => fs.all fun kv => refsV n kv.2
/-- the heap of the caller: nothing in it leads to what is dropped -/
def cutH (keep : Bool) (n : Nat) (h : Hm) : Option Hm := if keep = true then some h else if h.length = n then some h else
  let h1 := h.take n
  if h1.all (refsO n) = true then some h1 else none
def runF (keep : Bool) (np k : Nat) (body : Env → Hm → SO) (vs : List Vl) (h : Hm) : R Vl := if vs.length = np then (match body (vs.map some ++ List.replicate k none) h with
  | .nx _ h' => (match cutH keep h.length h' with
    | some h1 => .ok (.fz .non) h1
    | none => .stuck)
  | .rt v h' => (match cutH keep h.length h' with
    | some h1 => if refsV h1.length v = true then .ok v h1 else .stuck
    | none => .stuck)
  | .exc c p h' => (match cutH keep h.length h' with
    | some h1 => .exc c p h1
    | none => .stuck)
  | _ => .stuck) else .stuck
/-! ### exceptions -/
/-- what a clause makes of an exception: a word and the thing; a word; a word and None -/
inductive Hx where
  | fld (t : Txt)
  | str (t : Txt)
  | par (t : Txt)
deriving DecidableEq
/-- a def that calls what it got and catches: 0: the answer is dropped; 1: it is told with a word -/
structure Td where
  mode : Nat
  tag : Txt
  hs : List (Nat × Hx)
deriving DecidableEq
def raiseS (c : Nat) (v : Vl) (h : Hm) : SO := match frz v h with
  | .ok d h1 => .exc c [d] h1
  | _ => .stuck
def hxV (ps : List PV) : Hx → Option PV
  | .fld t => (match ps with | [p] => some (.tup [.str t, p]) | _ => none)
  | .str t => some (.str t)
  | .par t => some (.tup [.str t, .non])
def triedR (td : Td) : R Vl → R Vl
  | .ok v h => if td.mode = 0 then .ok (.fz .non) h else if td.mode = 1 then (frz v h).bind fun d h => .ok (.fz (.tup [.str td.tag, d])) h else .stuck
  | .exc c ps h => (match (td.hs.lookup c).bind (hxV ps) with
    | some d => .ok (.fz d) h
    | none => .stuck)
  | .stuck => .stuck
def triedE (td : Td) (f : Env → Hm → R Vl) : Env → Hm → R Vl := fun env h => match triedR td (f env h) with
  | .ok v h1 => (match cutH false h.length h1 with
    | some h2 => if refsV h2.length v = true then .ok v h2 else .stuck
    | none => .stuck)
  | _ => .stuck
def gfzE (i : Nat) : Env → Hm → SO := fun env h => match env[i]? with
  | some (some v) => (frz v h).bindS fun d h => setE i (.fz d) env h
  | _ => .stuck
/-! ### the syntax -/
mutual
inductive Ex where
  | cst (d : PV)
  | var (i : Nat)
  | glo (x : Nat)
  | bin (k : Nat) (a b : Ex)
  | cmp (k : Nat) (a b : Ex)
  | chn (k j : Nat) (a b c : Ex)
  | neg (a : Ex)
  | and (a b : Ex)
  | or (a b : Ex)
  | not (a : Ex)
  | ite (c : Ts) (a b : Ex)
  | lst (es : Es)
  | nlst (es : Es)
  | tup (es : Es)
  | att (a : Ex) (f : Nat)
  | idx (a b : Ex)
  | slc (a : Ex) (lo hi : Oe)
  | len (a : Ex)
  | isi (a c : Ex)
  | b1 (k : Nat) (a : Ex)
  | s1 (k : Nat) (a : Ex)
  | call (f : Nat) (as : Es)
  | meth (c m f : Nat) (a : Ex) (as : Es)
  | new (x c f : Nat) (as : Es)
  | lc (own : List Nat) (tg : Tg) (src : Sr) (c : Ts) (e : Ex)
  | nlc (own : List Nat) (tg : Tg) (src : Sr) (c : Ts) (e : Ex)
  | lcK (own : List Nat) (tg : Tg) (i : Nat) (c : Ts) (e : Ex)
  | lc2 (own own2 : List Nat) (tg : Tg) (src : Sr) (c : Ts) (tg2 : Tg) (src2 : Sr) (c2 : Ts) (e : Ex)
  | nlc2 (own own2 : List Nat) (tg : Tg) (src : Sr) (c : Ts) (tg2 : Tg) (src2 : Sr) (c2 : Ts) (e : Ex)
  | inv (a : Ex)
  | app (o a : Ex)
  | ext (o a : Ex)
  | popAt (o a : Ex)
  | ins (o a b : Ex)
  | ixm (o a : Ex)
  | pop (o : Ex)
  | n1 (k : Nat) (a : Ex)
  | nbin (k : Nat) (a b : Ex)
  | b2 (k : Nat) (a b : Ex)
  | get (o k e : Ex)
  | cnt (o a : Ex)
  | join (o a : Ex)
  | upd (o a : Ex)
  | rev (a : Ex)
  | dct (es : Es)
  | ndct (es : Es)
  | dc (own : List Nat) (tg : Tg) (src : Sr) (c : Ts) (e u : Ex)
  | ndc (own : List Nat) (tg : Tg) (src : Sr) (c : Ts) (e u : Ex)
  | callK (f : Nat) (is : List Nat) (as : Es)
  | methK (c m f : Nat) (a : Ex) (is : List Nat) (as : Es)
  | newK (x c f : Nat) (is : List Nat) (as : Es)
  | frz (a : Ex)
  | lam (x : Nat) (td : Td) (a : Ex)
  | bad
inductive Es where
  | nil
  | cons (a : Ex) (r : Es)
inductive Oe where
  | non
  | one (a : Ex)
inductive Ts where
  | yes
  | val (a : Ex)
  | cmp (k : Nat) (a b : Ex)
  | chn (k j : Nat) (a b c : Ex)
  | not (a : Ts)
  | and (a b : Ts)
  | or (a b : Ts)
inductive Sr where
  | val (a : Ex)
  | rng (a : Ex)
  | rng2 (a b : Ex)
  | enm (a : Ex)
  | zip (a b : Ex)
inductive Tg where
  | nm (i : Nat)
  | tp (ts : Tgs)
inductive Tgs where
  | nil
  | cons (t : Tg) (r : Tgs)
end
/-- targets that are names or places -/
inductive Pts where
  | nil
  | nm (i : Nat) (r : Pts)
  | sub (o ix : Ex) (r : Pts)
mutual
inductive Stm where
  | pass
  | ret (a : Ex)
  | retN
  | exp (a : Ex)
  | set (i : Nat) (a : Ex)
  | setT (t : Tg) (a : Ex)
  | par (is : List Nat) (es : Es)
  | parP (ts : Pts) (es : Es)
  | setI (o ix a : Ex)
  | aug (i k : Nat) (a : Ex)
  | augI (o ix : Ex) (k : Nat) (a : Ex)
  | fld (o : Ex) (f : Nat) (a : Ex)
  | ite (c : Ts) (a b : Sts)
  | whl (c : Ts) (b : Sts)
  | for_ (t : Tg) (s : Sr) (b : Sts)
  | brk
  | cont
  | rse (x c : Nat) (a : Ex)
  | gfz (i : Nat)
  | bad
inductive Sts where
  | nil
  | cons (a : Stm) (r : Sts)
end
/-- what a run leans on: fields, defs, constants of the module; how long a while may go on -/
structure Gx where
  isF : Nat → Nat → Bool
  spc : Nat → Nat → Option Nat
  φ : Nat → List Vl → Hm → R Vl
  glo : Nat → Option PV
  fuel : Nat
/-- flat answers -/
def b1V : Nat → PV → Option PV
  | 0 => intV
  | 1 => allV
  | 2 => anyV
  | 3 => absV
  | 4 => sumV
  | 5 => strV
  | _ => fun _ => none
def b2V : Nat → PV → PV → Option PV
  | 0 => max2V
  | 1 => min2V
  | _ => fun _ _ => none
/-- answers made of the items -/
def s1V : Nat → PV → Option PV
  | 0 => listV
  | 1 => tupleV
  | 2 => dictV
  | _ => fun _ => none
mutual
def Gx.ex (G : Gx) : Ex → Env → Hm → R Vl
  | .cst d => cstE d
  | .var i => evVar i
  | .glo x => gloE (G.glo x)
  | .bin k a b => op2 (G.ex a) (G.ex b) (binG G.spc G.φ k)
  | .cmp k a b => op2 (G.ex a) (G.ex b) (cmpG G.spc G.φ k)
  | .chn k j a b c => chainV k j (G.ex a) (G.ex b) (G.ex c)
  | .neg a => op1 (G.ex a) (opA1 negV)
  | .and a b => andV (G.ex a) (G.ex b)
  | .or a b => orV (G.ex a) (G.ex b)
  | .not a => notV (G.ex a)
  | .ite c a b => ifV (G.ts c) (G.ex a) (G.ex b)
  | .lst es => lstE (G.es es)
  | .nlst es => nlstE (G.es es)
  | .tup es => tupE (G.es es)
  | .att a f => op1 (G.ex a) (attH G.isF f)
  | .idx a b => op2 (G.ex a) (G.ex b) idxH
  | .slc a lo hi => slcE (G.ex a) (G.oe lo) (G.oe hi)
  | .len a => op1 (G.ex a) (lenG G.spc G.φ)
  | .inv a => op1 (G.ex a) (invG G.spc G.φ)
  | .lc2 own own2 tg src c tg2 src2 c2 e => lc2V own own2 (G.sr src) (G.tg tg) (G.ts c) (G.sr src2) (G.tg tg2) (G.ts c2) (G.ex e)
  | .nlc2 own own2 tg src c tg2 src2 c2 e => nlc2V own own2 (G.sr src) (G.tg tg) (G.ts c) (G.sr src2) (G.tg tg2) (G.ts c2) (G.ex e)
  | .isi a c => op2 (G.ex a) (G.ex c) (opA isiV)
  | .b1 k a => op1 (G.ex a) (opA1 (b1V k))
  | .s1 k a => op1 (G.ex a) (opS1 (s1V k))
  | .call f as => callE (G.φ f) (G.es as)
  | .meth c m f a as => methE c m (G.φ f) (G.ex a) (G.es as)
  | .new _ c f as => newE c (G.φ f) (G.es as)
  | .lc own tg src c e => lcV own (G.sr src) (G.tg tg) (G.ts c) (G.ex e)
  | .nlc own tg src c e => nlcV own (G.sr src) (G.tg tg) (G.ts c) (G.ex e)
  | .lcK own tg i c e => lcKV own i (G.tg tg) (G.ts c) (G.ex e)
  | .app o a => appE (G.ex o) (G.ex a)
  | .ext o a => extE (G.ex o) (G.ex a)
  | .popAt o a => popAtE (G.ex o) (G.ex a)
  | .ins o a b => insE (G.ex o) (G.ex a) (G.ex b)
  | .ixm o a => ixmE (G.ex o) (G.ex a)
  | .pop o => popE (G.ex o)
  | .n1 k a => op1 (G.ex a) (opN1 (s1V k))
  | .nbin k a b => op2 (G.ex a) (G.ex b) (opNb k)
  | .b2 k a b => op2 (G.ex a) (G.ex b) (opA (b2V k))
  | .get o k e => getE (G.ex o) (G.ex k) (G.ex e)
  | .cnt o a => op2 (G.ex o) (G.ex a) countH
  | .join o a => joinE (G.ex o) (G.ex a)
  | .upd o a => updE (G.ex o) (G.ex a)
  | .rev a => op1 (G.ex a) (opS1 revV)
  | .dct es => dctE (G.es es)
  | .ndct es => ndctE (G.es es)
  | .dc own tg src c e u => dcV own (G.sr src) (G.tg tg) (G.ts c) (G.ex e) (G.ex u)
  | .ndc own tg src c e u => ndcV own (G.sr src) (G.tg tg) (G.ts c) (G.ex e) (G.ex u)
  | .callK f is as => callE (G.φ f) (permE is (G.es as))
  | .methK c m f a is as => methE c m (G.φ f) (G.ex a) (permE is (G.es as))
  | .newK _ c f is as => newE c (G.φ f) (permE is (G.es as))
  | .frz a => frzE (G.ex a)
  | .lam _ td a => triedE td (G.ex a)
  | .bad => fun _ _ => .stuck
def Gx.es (G : Gx) : Es → Env → Hm → R (List Vl)
  | .nil => esNil
  | .cons a r => esCons (G.ex a) (G.es r)
def Gx.oe (G : Gx) : Oe → Option (Env → Hm → R Vl)
  | .non => none
  | .one a => some (G.ex a)
def Gx.ts (G : Gx) : Ts → Env → Hm → R Bool
  | .yes => fun _ h => .ok true h
  | .val a => valT (G.ex a)
  | .cmp k a b => cmpT (op2 (G.ex a) (G.ex b) (cmpG G.spc G.φ k))
  | .chn k j a b c => cmpT (chainV k j (G.ex a) (G.ex b) (G.ex c))
  | .not a => notT (G.ts a)
  | .and a b => andT (G.ts a) (G.ts b)
  | .or a b => orT (G.ts a) (G.ts b)
def Gx.sr (G : Gx) : Sr → Src
  | .val a => srcV (G.ex a)
  | .rng a => srcR (G.ex a)
  | .rng2 a b => srcR2 (G.ex a) (G.ex b)
  | .enm a => srcE (G.ex a)
  | .zip a b => srcZ (G.ex a) (G.ex b)
def Gx.tg (G : Gx) : Tg → Vl → Env → Hm → Option Env
  | .nm i => tgN i
  | .tp ts => gSeq (Tgs.len ts) (G.tgs ts)
def Gx.tgs (G : Gx) : Tgs → List Vl → Env → Hm → Option Env
  | .nil => gsNil
  | .cons t r => gsCons (G.tg t) (G.tgs r)
def Tgs.len : Tgs → Nat
  | .nil => 0
  | .cons _ r => Tgs.len r + 1
end
/-- x += e, x -= e of whole numbers -/
def augV (k : Nat) : Vl → Vl → Option Vl
  | .fz (.int a), .fz (.int b) => if k = 0 then some (.fz (.int (a + b))) else if k = 1 then some (.fz (.int (a - b))) else none
  | _, _ => none
def augE (i k : Nat) (f : Env → Hm → R Vl) : Env → Hm → SO := fun env h => match env[i]? with
  | some (some x) => (f env h).bindS fun y h => match augV k x y with
    | some z => setE i z env h
    | none => .stuck
  | _ => .stuck
def augIE (k : Nat) (fo fi f : Env → Hm → R Vl) : Env → Hm → SO := fun env h => (fo env h).bindS fun o h => (fi env h).bindS fun i h => (idxH o i h).bindS fun x h => (f env h).bindS fun y h => match augV k x y with
  | some z => (setI o i z h).bindS fun _ h => .nx env h
  | none => .stuck
def nxG (o : Option Env) (h : Hm) : SO := match o with
  | some e => .nx e h
  | none => .stuck
def Gx.pts (G : Gx) : Pts → List Vl → Env → Hm → SO
  | .nil, vs => fun env h => (match vs with
    | [] => .nx env h
    | _ => .stuck)
  | .nm i r, vs => fun env h => (match vs with
    | v :: vs => if i < env.length then G.pts r vs (env.set i (some v)) h else .stuck
    | [] => .stuck)
  | .sub o ix r, vs => fun env h => (match vs with
    | v :: vs => (G.ex o env h).bindS fun x h => (G.ex ix env h).bindS fun i h => (setI x i v h).bindS fun _ h => G.pts r vs env h
    | [] => .stuck)
mutual
def Gx.st (G : Gx) : Stm → Env → Hm → SO
  | .pass => .nx
  | .ret a => fun env h => (G.ex a env h).bindS .rt
  | .retN => fun _ h => .rt (.fz .non) h
  | .exp a => fun env h => (G.ex a env h).bindS fun _ h => .nx env h
  | .set i a => fun env h => (G.ex a env h).bindS fun v h => setE i v env h
  | .setT t a => fun env h => (G.ex a env h).bindS fun v h => nxG (G.tg t v env h) h
  | .par is es => fun env h => (G.es es env h).bindS fun vs h => nxG (setL is vs env) h
  | .parP ts es => fun env h => (G.es es env h).bindS fun vs h => G.pts ts vs env h
  | .setI o ix a => fun env h => (G.ex a env h).bindS fun y h => (G.ex o env h).bindS fun x h => (G.ex ix env h).bindS fun i h => (setI x i y h).bindS fun _ h => .nx env h
  | .aug i k a => augE i k (G.ex a)
  | .augI o ix k a => augIE k (G.ex o) (G.ex ix) (G.ex a)
  | .fld o f a => fun env h => (G.ex a env h).bindS fun y h => (G.ex o env h).bindS fun x h => (fldH G.isF f x y h).bindS fun _ h => .nx env h
  | .ite c a b => fun env h => (G.ts c env h).bindS fun t h => if t = true then G.sts a env h else G.sts b env h
  | .whl c b => fun env h => whileN (G.ts c) (G.sts b) G.fuel env h
  | .for_ t s b => fun env h => (G.sr s env h).bindS fun (ds, l) h => unlkS l (forN (G.tg t) (G.sts b) ds env (lockH l h))
  | .brk => .bk
  | .cont => .ct
  | .rse _ c a => fun env h => (G.ex a env h).bindS fun v h => raiseS c v h
  | .gfz i => gfzE i
  | .bad => fun _ _ => .stuck
def Gx.sts (G : Gx) : Sts → Env → Hm → SO
  | .nil => .nx
  | .cons a r => fun env h => (G.st a env h).bind (G.sts r)
end
/-- the table of defs: whether the heap is kept, parameters, further names, body -/
structure Dr where
  keep : Bool
  np : Nat
  k : Nat
  body : Sts
/-- the defs of a module, so many calls deep -/
def runs (isF : Nat → Nat → Bool) (spc : Nat → Nat → Option Nat) (glo : Nat → Option PV) (fuel : Nat) (tab : Nat → Option Dr) : Nat → Nat → List Vl → Hm → R Vl
  | 0, _ => fun _ _ => .stuck
  | n + 1, f => match tab f with
    | some d => runF d.keep d.np d.k (Gx.sts ⟨isF, spc, runs isF spc glo fuel tab n, glo, fuel⟩ d.body)
    | none => fun _ _ => .stuck
end HV

end

section
/-! V1: what trees stand for in the heap; what a step may change. -/
namespace HV
open PySem PySem.Spec PyProof.Rows L2
def tx (s : Txt) : Str := ⟨s.toArray⟩
def nmS (n : Nat) : Str := ⟨(nmL n n []).toArray⟩
structure Tb where
  K : PySem.W.Frag
  cls : Nat → Option Addr
  isF : Nat → Nat → Bool
  xcl : Nat → Option Addr := fun _ => none
  tabs : List (Addr × Str) := []
def tyN : Nat → String
  | 0 => "int" | 1 => "bool" | 2 => "str" | 3 => "list" | 4 => "tuple" | 5 => "dict" | 6 => "NoneType" | _ => "object"
inductive KeyR : Key → PV → Prop
  | int (i : Int) : KeyR (.inl i) (.int i)
  | str (s : Txt) (h : s.length ≤ sizeLine ∧ ∀ c ∈ s, c < 1114112) : KeyR (.inr (tx s)) (.str s)
def kdVal (T : Tb) : Kd → Value → Prop
  | .ty n, u => n < 7 ∧ u = .type (tyN n)
  | .cls c, u => ∃ C, T.cls c = some C ∧ u = .ref C
/-- what the classes of the table are -/
structure TbOk (T : Tb) : Prop where
  cl : ∀ c C, T.cls c = some C → Cls T.K C
  fl : ∀ c C f, T.cls c = some C → T.isF c f = true → NoAttr T.K C (nmS f)
  ty : ∀ c C, T.cls c = some C → PySem.W.findIn T.K (.ref C) "__class__" = some (some (.builtin "object.__class__")) ∧ PySem.W.specialIn T.K (.builtin "object.__class__") "__get__" = some (some (.builtin "getset_descriptor.__get__")) ∧
    PySem.W.takesIn T.K (.builtin "object.__class__") = some true ∧ PySem.W.mroIn T.K C (.type "object") = some true
  kit : ∀ a b u w, kdVal T a u → kdVal T b w → PySem.W.kitOne T.K u w = some (kdIs a b)
theorem nmL_val : ∀ (k n : Nat) (acc : List Nat), n < 256 ^ k → (nmL k n acc).foldl (fun a c => a * 256 + c) 0 = acc.foldl (fun a c => a * 256 + c) n
  | 0, n, acc, h => by
    have : n = 0 := by simpa using h
    subst this; rfl
  | k + 1, n, acc, h => by
    unfold nmL
    by_cases h0 : n = 0
    · rw [if_pos h0, h0]
    · rw [if_neg h0, nmL_val k (n / 256) (n % 256 :: acc) (by rw [Nat.pow_succ] at h; exact Nat.div_lt_of_lt_mul (by omega))]
      show acc.foldl _ (n / 256 * 256 + n % 256) = _
      rw [show n / 256 * 256 + n % 256 = n by omega]
theorem lt256 : ∀ n : Nat, n < 256 ^ n
  | 0 => by decide
  | n + 1 => by
    have := lt256 n
    rw [Nat.pow_succ]
    omega
theorem nmS_inj {a b : Nat} (h : nmS a = nmS b) : a = b := by
  unfold nmS at h
  have h1 : (nmL a a []).toArray = (nmL b b []).toArray := congrArg Str.cps h
  have h2 : nmL a a [] = nmL b b [] := by simpa using congrArg Array.toList h1
  have e1 := nmL_val a a [] (lt256 a)
  have e2 := nmL_val b b [] (lt256 b)
  rw [h2] at e1
  exact e1.symm.trans e2
mutual
inductive RepV (T : Tb) (Hs : Hp) : V → PV → Prop
  | non : RepV T Hs .non .non
  | bl (b : Bool) : RepV T Hs (.bl b) (.bl b)
  | int (i : Int) : RepV T Hs (.int i) (.int i)
  | str (s : Txt) (h : s.length ≤ sizeLine ∧ ∀ c ∈ s, c < 1114112) : RepV T Hs (.str (tx s)) (.str s)
  | scr {a : Addr} {ns : List Int} : SqL T.K Hs a (ns.map V.int) → ns.length ≤ sizeLine → RepV T Hs (.ref a) (.scr ns)
  | lst {a : Addr} {xs : List V} {ds : List PV} : Hs a = some (.lst xs) → ds.length ≤ sizeLine → RepVs T Hs xs ds → RepV T Hs (.ref a) (.lst ds)
  | tup {a : Addr} {xs : List V} {ds : List PV} : Hs a = some (.tup xs) → ds.length ≤ sizeLine → RepVs T Hs xs ds → RepV T Hs (.ref a) (.tup ds)
  | dct {a : Addr} {ks : List (Key × V)} {ds : List (PV × PV)} : Rd Hs a (.dK ks) → ds.length ≤ sizeLine → RepKs T Hs ks ds → RepV T Hs (.ref a) (.dct ds)
  | obj {a c C dx : Addr} {fs : List (Str × V)} {ds : List (Nat × PV)} : Hs a = some (.ins C dx fs) → T.cls c = some C → RepFs T Hs fs ds → RepV T Hs (.ref a) (.obj c ds)
  | cls {c C : Addr} : T.cls c = some C → RepV T Hs (.ref C) (.cls c)
  | ty (n : Nat) : RepV T Hs (.ty (tyN n)) (.ty n)
inductive RepVs (T : Tb) (Hs : Hp) : List V → List PV → Prop
  | nil : RepVs T Hs [] []
  | cons {x : V} {d : PV} {xs : List V} {ds : List PV} : RepV T Hs x d → RepVs T Hs xs ds → RepVs T Hs (x :: xs) (d :: ds)
inductive RepKs (T : Tb) (Hs : Hp) : List (Key × V) → List (PV × PV) → Prop
  | nil : RepKs T Hs [] []
  | cons {k : Key} {e : PV} {x : V} {d : PV} {xs : List (Key × V)} {ds : List (PV × PV)} : KeyR k e → RepV T Hs x d → RepKs T Hs xs ds → RepKs T Hs ((k, x) :: xs) ((e, d) :: ds)
inductive RepFs (T : Tb) (Hs : Hp) : List (Str × V) → List (Nat × PV) → Prop
  | nil : RepFs T Hs [] []
  | cons {f : Nat} {x : V} {d : PV} {xs : List (Str × V)} {ds : List (Nat × PV)} : RepV T Hs x d → RepFs T Hs xs ds → RepFs T Hs ((nmS f, x) :: xs) ((f, d) :: ds)
end
section
variable {T : Tb} {Hs Hs' : Hp}
theorem SameT {K : PySem.W.Frag} {H H' : Hp} {a : Addr} {xs : List V} (e : Same H H') (h : SqT K H a xs) : SqT K H' a xs := by
  rcases h with (h | ⟨o, h⟩) | h
  · exact .inl (.inl (e _ _ h))
  · exact .inl (.inr ⟨o, e _ _ h⟩)
  · exact .inr h
theorem SameR {H H' : Hp} {a : Addr} {u : HO} (e : Same H H') (h : Rd H a u) : Rd H' a u := by
  rcases h with h | ⟨o, h⟩
  · exact .inl (e _ _ h)
  · exact .inr ⟨o, e _ _ h⟩
mutual
theorem RepV.mono (e : Same Hs Hs') : ∀ {v : V} {d : PV}, RepV T Hs v d → RepV T Hs' v d
  | _, _, .non => .non
  | _, _, .bl b => .bl b
  | _, _, .int b => .int b
  | _, _, .str b h => .str b h
  | _, _, .scr h z => .scr (e.seq h) z
  | _, _, .lst h z r => .lst (e _ _ h) z (RepVs.mono e r)
  | _, _, .tup h z r => .tup (e _ _ h) z (RepVs.mono e r)
  | _, _, .dct h z r => .dct (SameR e h) z (RepKs.mono e r)
  | _, _, .obj h c r => .obj (e _ _ h) c (RepFs.mono e r)
  | _, _, .cls h => .cls h
  | _, _, .ty n => .ty n
theorem RepVs.mono (e : Same Hs Hs') : ∀ {v : List V} {d : List PV}, RepVs T Hs v d → RepVs T Hs' v d
  | _, _, .nil => .nil
  | _, _, .cons h r => .cons (RepV.mono e h) (RepVs.mono e r)
theorem RepKs.mono (e : Same Hs Hs') : ∀ {v : List (Key × V)} {d : List (PV × PV)}, RepKs T Hs v d → RepKs T Hs' v d
  | _, _, .nil => .nil
  | _, _, .cons k h r => .cons k (RepV.mono e h) (RepKs.mono e r)
theorem RepFs.mono (e : Same Hs Hs') : ∀ {v : List (Str × V)} {d : List (Nat × PV)}, RepFs T Hs v d → RepFs T Hs' v d
  | _, _, .nil => .nil
  | _, _, .cons h r => .cons (RepV.mono e h) (RepFs.mono e r)
end
theorem RepVs.length : ∀ {v : List V} {d : List PV}, RepVs T Hs v d → v.length = d.length
  | _, _, .nil => rfl
  | _, _, .cons _ r => congrArg (· + 1) (RepVs.length r)
theorem RepKs.length : ∀ {v : List (Key × V)} {d : List (PV × PV)}, RepKs T Hs v d → v.length = d.length
  | _, _, .nil => rfl
  | _, _, .cons _ _ r => congrArg (· + 1) (RepKs.length r)
theorem RepVs.get : ∀ {v : List V} {d : List PV} {k : Nat} {e : PV}, RepVs T Hs v d → d[k]? = some e → ∃ x, v[k]? = some x ∧ RepV T Hs x e
  | _, _, k, e, .nil, h => by simp at h
  | _, _, 0, e, .cons q r, h => by simp at h; subst h; exact ⟨_, rfl, q⟩
  | _, _, k + 1, e, .cons q r, h => by
    obtain ⟨x, h1, h2⟩ := RepVs.get (k := k) (e := e) r (by simpa using h)
    exact ⟨x, by simpa using h1, h2⟩
theorem RepVs.of : ∀ {v : List V} {d : List PV}, v.length = d.length → (∀ (k : Nat) x e, v[k]? = some x → d[k]? = some e → RepV T Hs x e) → RepVs T Hs v d
  | [], [], _, _ => .nil
  | [], _ :: _, h, _ => by simp at h
  | _ :: _, [], h, _ => by simp at h
  | x :: v, e :: d, h, g => .cons (g 0 x e rfl rfl) (RepVs.of (by simpa using h) fun k x e h1 h2 => g (k + 1) x e (by simpa using h1) (by simpa using h2))
theorem RepVs.append {v v' : List V} {d d' : List PV} (h : RepVs T Hs v d) (h' : RepVs T Hs v' d') : RepVs T Hs (v ++ v') (d ++ d') := by
  induction v generalizing d with
  | nil => cases h; exact h'
  | cons x v ih => cases h with | cons q r => exact .cons q (ih r)
end
section
variable {T : Tb} {Hs Hs' H H' : Hp}
theorem RepKs.of : ∀ {v : List (Key × V)} {d : List (PV × PV)}, v.length = d.length → (∀ (k : Nat) q x q' e, v[k]? = some (q, x) → d[k]? = some (q', e) → KeyR q q' ∧ RepV T Hs x e) → RepKs T Hs v d
  | [], [], _, _ => .nil
  | [], _ :: _, h, _ => by simp at h
  | _ :: _, [], h, _ => by simp at h
  | (q, x) :: v, (q', e) :: d, h, g => .cons (g 0 q x q' e rfl rfl).1 (g 0 q x q' e rfl rfl).2 (RepKs.of (by simpa using h) fun k q x q' e h1 h2 => g (k + 1) q x q' e (by simpa using h1) (by simpa using h2))
theorem RepFs.of : ∀ {v : List (Str × V)} {d : List (Nat × PV)}, v.length = d.length → (∀ (k : Nat) g x f e, v[k]? = some (g, x) → d[k]? = some (f, e) → g = nmS f ∧ RepV T Hs x e) → RepFs T Hs v d
  | [], [], _, _ => .nil
  | [], _ :: _, h, _ => by simp at h
  | _ :: _, [], h, _ => by simp at h
  | (q, x) :: v, (q', e) :: d, h, g => by
    obtain ⟨rfl, h2⟩ := g 0 q x q' e rfl rfl
    exact .cons h2 (RepFs.of (by simpa using h) fun k q x q' e h1 h2 => g (k + 1) q x q' e (by simpa using h1) (by simpa using h2))
end
/-- nothing there, or a table -/
def nuB : Option HO → Prop
  | none => True
  | some (.tbl _) => True
  | some _ => False
abbrev nu (H : Hp) (a : Addr) : Prop := nuB (H a)
theorem nu_none {H : Hp} {a : Addr} (h : H a = none) : nu H a := by
  show nuB (H a)
  rw [h]
  trivial
theorem nu_no {H : Hp} {a : Addr} {u : HO} (h : H a = some u) (n : ∀ q, u ≠ .tbl q) (z : nu H a) : False := by
  replace z : nuB (H a) := z
  rw [h] at z
  cases u <;> first | exact z | exact n _ rfl
theorem nu_of {H : Hp} {a : Addr} (h : ∀ o, H a = some o → (∀ q, o ≠ .tbl q) → False) : nu H a := by
  show nuB (H a)
  cases e : H a with
  | none => trivial
  | some o => cases o <;> first | trivial | exact (h _ e fun q z => by cases z).elim
structure Tr (Hs H : Hp) (O : Addr → Prop) (Hs' H' : Hp) (O' : Addr → Prop) : Prop where
  mono : Same Hs Hs'
  keep : ∀ a o, H a = some o → Hs a = none → ¬ O a → (∀ q, o ≠ .tbl q) → H' a = some o
  there : ∀ a, nu H' a → nu H a
  new : ∀ a o, Hs' a = some o → Hs a = some o ∨ (Hs a = none ∧ (O a ∨ nu H a))
  newO : ∀ a, O' a → O a ∨ nu H a
section
variable {Hs H Hs1 H1 Hs2 H2 : Hp} {O O1 O2 : Addr → Prop}
theorem Tr.refl : Tr Hs H O Hs H O := ⟨Same.refl _, fun _ _ h _ _ _ => h, fun _ h => h, fun _ _ h => .inl h, fun _ h => .inl h⟩
theorem Tr.trans (x : Tr Hs H O Hs1 H1 O1) (y : Tr Hs1 H1 O1 Hs2 H2 O2) : Tr Hs H O Hs2 H2 O2 where
  mono := x.mono.trans y.mono
  keep := fun a o h hs ho nt => by
    have h1 := x.keep a o h hs ho nt
    have ne : H a ≠ none := by rw [h]; simp
    refine y.keep a o h1 ?_ ?_ nt
    · cases q : Hs1 a with
      | none => rfl
      | some u =>
        rcases x.new a u q with z | ⟨_, z | z⟩
        · rw [hs] at z; cases z
        · exact absurd z ho
        · exact (nu_no h nt z).elim
    · intro z
      rcases x.newO a z with z | z
      · exact ho z
      · exact nu_no h nt z
  there := fun a h => x.there a (y.there a h)
  new := fun a o h => by
    rcases y.new a o h with z | ⟨z, w⟩
    · exact x.new a o z
    · refine .inr ⟨?_, ?_⟩
      · cases q : Hs a with
        | none => rfl
        | some u => rw [x.mono a u q] at z; cases z
      · rcases w with w | w
        · exact x.newO a w
        · exact .inr (x.there a w)
  newO := fun a h => by
    rcases y.newO a h with z | z
    · exact x.newO a z
    · exact .inr (x.there a z)
end
/-- shared objects were made -/
inductive Grow (Hs H : Hp) : Hp → Hp → Prop
  | refl : Grow Hs H Hs H
  | new {Hs1 H1 : Hp} {p : Addr} {o : HO} : Grow Hs H Hs1 H1 → H1 p = none → (∀ q, o ≠ .tbl q) → Grow Hs H (upd Hs1 p o) (upd H1 p o)
theorem Grow.one {Hs H : Hp} {p : Addr} {o : HO} (h : H p = none) (nt : ∀ q, o ≠ HO.tbl q := by intro q z; cases z) : Grow Hs H (upd Hs p o) (upd H p o) := .new .refl h nt
theorem Grow.trans {Hs H Hs1 H1 Hs2 H2 : Hp} (a : Grow Hs H Hs1 H1) (b : Grow Hs1 H1 Hs2 H2) : Grow Hs H Hs2 H2 := by
  induction b with
  | refl => exact a
  | new _ h n ih => exact .new ih h n
section
variable {T : Tb} {Hs Hs' H H' : Hp}
theorem Grow.same (sb : Same Hs H) (g : Grow Hs H Hs' H') : Same Hs Hs' ∧ Same H H' ∧ Same Hs' H' := by
  induction g with
  | refl => exact ⟨Same.refl _, Same.refl _, sb⟩
  | @new Hs1 H1 p o _ h _ ih =>
    obtain ⟨s1, s2, s3⟩ := ih
    have hn : Hs1 p = none := s3.free h
    exact ⟨s1.trans fun a u q => by rw [upd_ne (ne_of_none q hn)]; exact q, s2.trans fun a u q => by rw [upd_ne (ne_of_none q h)]; exact q, fun a u q => by
      by_cases e : a = p
      · subst e; rw [upd_same] at q ⊢; exact q
      · rw [upd_ne e] at q ⊢; exact s3 a u q⟩
theorem Grow.none (sb : Same Hs H) (g : Grow Hs H Hs' H') {a : Addr} (h : H a ≠ none) : Hs' a = Hs a ∧ H' a = H a := by
  induction g with
  | refl => exact ⟨rfl, rfl⟩
  | @new Hs1 H1 p o _ hp _ ih =>
    have ne : a ≠ p := fun z => h (by rw [← ih.2, z]; exact hp)
    rw [upd_ne ne, upd_ne ne]
    exact ih
theorem fields_none {fs : List (Str × V)} {ds : List (Nat × PV)} (h : RepFs T Hs fs ds) {m : Nat} (hm : m ∉ ds.map (·.1)) : fs.lookup (nmS m) = none := by
  induction fs generalizing ds with
  | nil => rfl
  | cons x fs ih =>
    cases h with
    | cons r rr =>
      rename_i f x d ds
      rw [List.lookup_cons]
      have ne : (nmS m == nmS f) = false := by
        rw [beq_eq_false_iff_ne]
        exact fun e => hm (by rw [nmS_inj e]; simp)
      rw [ne]
      exact ih rr fun hg => hm (by simp [hg])
theorem fields_get {fs : List (Str × V)} {ds : List (Nat × PV)} (h : RepFs T Hs fs ds) {f : Nat} {d : PV} (hd : ds.lookup f = some d) : ∃ v, fs.lookup (nmS f) = some v ∧ RepV T Hs v d := by
  induction fs generalizing ds with
  | nil => cases h; cases hd
  | cons x fs ih =>
    cases h with
    | cons r rr =>
      rename_i g x e ds
      rw [List.lookup_cons] at hd ⊢
      by_cases hg : f = g
      · subst hg
        simp only [beq_self_eq_true] at hd ⊢
        cases hd
        exact ⟨_, rfl, r⟩
      · have n1 : (f == g) = false := by rw [beq_eq_false_iff_ne]; exact hg
        have n2 : (nmS f == nmS g) = false := by
          rw [beq_eq_false_iff_ne]
          exact fun z => hg (nmS_inj z)
        rw [n1] at hd
        rw [n2]
        exact ih rr hd
/-- a value by values, no object made, the answer flat -/
def VA2 (T : Tb) (r : R2) (g : PV → PV → Option PV) : Prop := ∀ (x y : V) (d1 d2 d : PV) (Hx Hy H : Hp) (Q : VK), Same Hx H → Same Hy H → RepV T Hx x d1 → RepV T Hy y d2 → g d1 d2 = some d →
  (∀ v, (∀ Hs, RepV T Hs v d) → Q v H) → r x y H Q
/-- .. objects may be made -/
def VG2 (T : Tb) (r : R2) (g : PV → PV → Option PV) : Prop := ∀ (x y : V) (d1 d2 d : PV) (Hs H : Hp) (Q : VK), Same Hs H → RepV T Hs x d1 → RepV T Hs y d2 → g d1 d2 = some d →
  (∀ v Hs' H', Grow Hs H Hs' H' → RepV T Hs' v d → Q v H') → r x y H Q
def VA1 (T : Tb) (r : V → Hp → VK → Prop) (g : PV → Option PV) : Prop := ∀ (x : V) (d1 d : PV) (Hx H : Hp) (Q : VK), Same Hx H → RepV T Hx x d1 → g d1 = some d →
  (∀ v, (∀ Hs, RepV T Hs v d) → Q v H) → r x H Q
def VG1 (T : Tb) (r : V → Hp → VK → Prop) (g : PV → Option PV) : Prop := ∀ (x : V) (d1 d : PV) (Hs H : Hp) (Q : VK), Same Hs H → RepV T Hs x d1 → g d1 = some d →
  (∀ v Hs' H', Grow Hs H Hs' H' → RepV T Hs' v d → Q v H') → r x H Q
end
section
variable {T : Tb}
theorem PE.imp {X : Cx} {e : Expr} {t t' : TE} (h : PE X e t) (i : ∀ σ H Q, t' σ H Q → t σ H Q) : PE X e t' := ⟨fun pins s σ H Q I q => h.run pins s σ H Q I (i σ H Q q)⟩
theorem PT.imp {X : Cx} {e : Expr} {t t' : TT} (h : PT X e t) (i : ∀ σ H Q, t' σ H Q → t σ H Q) : PT X e t' := ⟨fun pins s σ H Q I q => h.run pins s σ H Q I (i σ H Q q)⟩
theorem PA.imp {X : Cx} {e : List Expr} {t t' : TA} (h : PA X e t) (i : ∀ σ H Q, t' σ H Q → t σ H Q) : PA X e t' := ⟨fun pos pins s σ H Q I q => h.run pos pins s σ H Q I (i σ H Q q)⟩
theorem PS.imp {X : Cx} {e : Stmt} {t t' : TS} (h : PS X e t) (i : ∀ D σ H, t' D σ H → t D σ H) : PS X e t' := ⟨fun pins s σ H Q I q => h.run pins s σ H Q I (i Q σ H q)⟩
theorem PSs.imp {X : Cx} {e : List Stmt} {t t' : TS} (h : PSs X e t) (i : ∀ D σ H, t' D σ H → t D σ H) : PSs X e t' := ⟨fun pins s σ H Q I q => h.run pins s σ H Q I (i Q σ H q)⟩
end
end HV

end

section
/-! Vt: tuple * 1, tuple * 0. -/
namespace HV
open PySem PySem.Spec PyProof.Rows L2
theorem tuple_mul1 (l : Addr) (items : Array Value) (n : Nat) (dd : Option Addr) (sl : Array (Option Value)) (u : Tok) :
    Meets (Builtin.«tuple.__mul__» ⟨[.ref l, .int 1 u], []⟩) (fun _ R s => s.heap.get? l = some { cls := .type "tuple", dict := dd, data := .seq items n, slots := sl } ∧ R (.ok (.ret (Value.ref l))) s) :=
  .of_wp fun prog w A R s h => by
    obtain ⟨hp, g, d, tk, os⟩ := s
    obtain ⟨hl, h⟩ := h
    have f1 := AutoSeq1.idx_int
    wp_walk using wpAny_loadPart' hl
    repeat (first
      | (refine wpAny_ite_true (decide_eq_true (by rw [Bool.or_eq_true]; exact .inr rfl)) ?_; wp_walk using wpAny_loadPart' hl)
      | (refine wpAny_ite_false (decide_eq_false (by decide)) ?_; wp_walk using wpAny_loadPart' hl))
    exact ⟨_, rfl, h⟩
theorem tuple_mul0 (l : Addr) (items : Array Value) (n : Nat) (dd : Option Addr) (sl : Array (Option Value)) (u : Tok) (c1 : (items.isEmpty || (0 : Int) == 1) = false) :
    Meets (Builtin.«tuple.__mul__» ⟨[.ref l, .int 0 u], []⟩) (fun _ R s => s.heap.get? l = some { cls := .type "tuple", dict := dd, data := .seq items n, slots := sl } ∧
      R (.ok (.ret (Value.ref s.heap.objs.size))) { s with heap := s.heap.push { cls := Value.type "tuple", data := Data.seq #[] }, toks := s.toks }) :=
  .of_wp fun prog w A R s h => by
    obtain ⟨hp, g, d, tk, os⟩ := s
    obtain ⟨hl, h⟩ := h
    have f1 := AutoSeq1.idx_int
    wp_walk using wpAny_loadPart' hl
    repeat (first
      | (refine wpAny_ite_false (decide_eq_false (by rw [c1]; exact Bool.false_ne_true)) ?_; wp_walk using wpAny_loadPart' hl)
      | (refine wpAny_ite_true (decide_eq_true (by rw [Bool.or_eq_true]; exact .inl rfl)) ?_; wp_walk using wpAny_loadPart' hl)
      | (refine wpAny_ite_false (decide_eq_false (by decide)) ?_; wp_walk using wpAny_loadPart' hl))
    exact ⟨_, rfl, h⟩
def rRepS (K : PySem.W.Frag) : R2 := fun x y H Q => ∃ l k xs, x = .ref l ∧ y = .int k ∧ SqT K H l xs ∧ xs ≠ [] ∧ ((k = 1 ∧ Q (.ref l) H) ∨ (k = 0 ∧ ∀ p, H p = none → Q (.ref p) (upd H p (.tup []))))
section
variable {X : Cx}
theorem op_repS : OpR X (binaryOp .Mult) (rRepS X.K) := by
  intro pins s σ H x y v u Q I rx ry h
  obtain ⟨l, k, xs, rfl, rfl, hT, hne, hk⟩ := h
  cases rx
  obtain ⟨t, rfl⟩ := ry
  obtain ⟨its, r, ⟨⟨cls, dd, data, sl⟩, ho, hc, n, hd⟩, hs⟩ := I.tuple hT
  simp only at hc hd
  subst hc hd
  have hle : its.length = xs.length := r.length.symm
  have hn : its ≠ [] := fun e => hne (by
    rw [e] at hle
    exact List.eq_nil_of_length_eq_zero hle.symm)
  have hi : its.toArray.isEmpty = false := by
    cases its with
    | nil => exact absurd rfl hn
    | cons a b => rfl
  rcases hk with ⟨rfl, q⟩ | ⟨rfl, q⟩
  · refine wpAny_binaryOp_repeat_ref (T := "tuple") (U := "int") (by decide) ⟨_, ho, rfl⟩ (fun s' => typeIs_int s' 1 t) noFill_tuple_mul F.fills_int_mul F.slot_int_rmul repeat_tuple F.slot_int_index.lookup
      (call_meets F.slot_int_rmul (typeIs_int s 1 t) F.entry_int_rmul (F.args_int_rmul_2 _ _) (int_rmul_tuple 1 t l its.toArray n dd sl)
        ⟨ho, rfl, ⟨_, ho, rfl⟩, call_meets F.slot_tuple_mul ⟨_, ho, rfl⟩ F.entry_tuple_mul (F.args_tuple_mul_2 _ _) (tuple_mul1 l its.toArray n dd sl t) ⟨ho, ?_⟩⟩)
    exact ⟨.ref l, H, I, rfl, q⟩
  · refine wpAny_binaryOp_repeat_ref (T := "tuple") (U := "int") (by decide) ⟨_, ho, rfl⟩ (fun s' => typeIs_int s' 0 t) noFill_tuple_mul F.fills_int_mul F.slot_int_rmul repeat_tuple F.slot_int_index.lookup
      (call_meets F.slot_int_rmul (typeIs_int s 0 t) F.entry_int_rmul (F.args_int_rmul_2 _ _) (int_rmul_tuple 0 t l its.toArray n dd sl)
        ⟨ho, rfl, ⟨_, ho, rfl⟩, call_meets F.slot_tuple_mul ⟨_, ho, rfl⟩ F.entry_tuple_mul (F.args_tuple_mul_2 _ _) (tuple_mul0 l its.toArray n dd sl t (by rw [hi]; rfl)) ⟨ho, ?_⟩⟩)
    refine ⟨.ref s.heap.objs.size, _, I.laid (t' := s.toks) (o := .tup []) (fun b ob q => Heap.get?_push_of_some _ q) (Nat.le_refl _) ?_, rfl, q _ (I.hok.fresh (Nat.le_refl _))⟩
    exact ⟨Nat.zero_le _, _, .nil, IsTup.new _ _⟩
end
end HV

end

section
/-! V2: operators and comparisons by trees, over the hand layer's rules. -/
namespace HV
open PySem PySem.Spec PyProof.Rows L2
theorem lim_eq : LIM = sizeLine := by rw [sizeLine_eq]; rfl
section
variable {T : Tb} {Hs H Hs' H' : Hp} {X : Cx}
theorem tx_len (s : Txt) : (tx s).length = s.length := by simp [tx, Str.length]
theorem tx_app (s t : Txt) : tx s ++ tx t = tx (s ++ t) := by
  show (⟨(tx s).cps ++ (tx t).cps⟩ : Str) = _
  simp [tx]
theorem tx_inj {s t : Txt} (h : tx s = tx t) : s = t := by
  have := congrArg (fun z : Str => z.cps.toList) h
  simpa [tx] using this
theorem OpR.mono {f : Value → Value → Sem Value} {r r' : R2} (h : OpR X f r) (k : ∀ x y H Q, r' x y H Q → r x y H Q) : OpR X f r' := fun pins s σ H x y v u Q I rx ry q => h pins s σ H x y v u Q I rx ry (k x y H Q q)
/-- an operator by trees -/
def rG2 (T : Tb) (g : PV → PV → Option PV) : R2 := fun x y H Q => ∃ Hs d1 d2 d, Same Hs H ∧ RepV T Hs x d1 ∧ RepV T Hs y d2 ∧ g d1 d2 = some d ∧ ∀ v Hs' H', Grow Hs H Hs' H' → RepV T Hs' v d → Q v H'
theorem vg_rG2 (g : PV → PV → Option PV) : VG2 T (rG2 T g) g := fun x y d1 d2 d Hs H Q s r1 r2 e k => ⟨Hs, d1, d2, d, s, r1, r2, e, k⟩
/-- .. flat, nothing made -/
def rA2 (T : Tb) (g : PV → PV → Option PV) : R2 := fun x y H Q => ∃ Hx Hy d1 d2 d, Same Hx H ∧ Same Hy H ∧ RepV T Hx x d1 ∧ RepV T Hy y d2 ∧ g d1 d2 = some d ∧ ∀ v, (∀ Hs, RepV T Hs v d) → Q v H
theorem va_rA2 (g : PV → PV → Option PV) : VA2 T (rA2 T g) g := fun x y d1 d2 d Hx Hy H Q s1 s2 r1 r2 e k => ⟨Hx, Hy, d1, d2, d, s1, s2, r1, r2, e, k⟩
theorem bin_add (hK : T.K = X.K) : OpR X (binaryOp .Add) (rG2 T addV) := by
  refine OpR.mono (OpR.or op_add (OpR.or op_add_str (OpR.or op_cat op_catA))) fun x y H Q h => ?_
  obtain ⟨Hs, d1, d2, d, s, r1, r2, e, k⟩ := h
  cases r1 with
  | int i =>
    cases r2 with
    | int j => cases e; exact .inl ⟨i, j, rfl, rfl, k _ Hs H .refl (.int _)⟩
    | _ => cases e
  | str a ha =>
    cases r2 with
    | str b hb =>
      simp only [addV] at e
      by_cases hl : a.length + b.length ≤ LIM
      · rw [if_pos hl] at e
        cases e
        rw [lim_eq] at hl
        refine .inr (.inl ⟨_, _, rfl, rfl, by rw [tx_len, tx_len]; exact hl, ?_⟩)
        rw [tx_app]
        exact k _ Hs H .refl (.str _ ⟨by rw [List.length_append]; exact hl, fun c hc => (List.mem_append.mp hc).elim (ha.2 c) (hb.2 c)⟩)
      · rw [if_neg hl] at e; cases e
    | _ => cases e
  | lst h1 z1 q1 =>
    rename_i a xs ds
    cases r2 with
    | lst h2 z2 q2 =>
      rename_i b ys es
      simp only [addV] at e
      by_cases hl : ds.length + es.length ≤ LIM
      · rw [if_pos hl] at e
        cases e
        rw [lim_eq] at hl
        refine .inr (.inr (.inl ⟨a, b, xs, ys, rfl, rfl, s _ _ h1, s _ _ h2, by rw [q1.length, q2.length]; exact hl, fun p hp => ?_⟩))
        have sb : Same Hs (upd Hs p (.lst (xs ++ ys))) := ((Grow.one (o := .lst (xs ++ ys)) hp).same s).1
        exact k _ _ _ (Grow.one hp) (.lst upd_same (by rw [List.length_append]; exact hl) ((q1.append q2).mono sb))
      · rw [if_neg hl] at e; cases e
    | _ => cases e
  | tup h1 z1 q1 =>
    rename_i a xs ds
    cases r2 with
    | tup h2 z2 q2 =>
      rename_i b ys es
      simp only [addV] at e
      by_cases hl : ds.length + es.length ≤ LIM
      · rw [if_pos hl] at e
        cases e
        rw [lim_eq] at hl
        refine .inr (.inr (.inr ⟨a, b, xs, ys, rfl, rfl, SqT.of (s _ _ h1), SqT.of (s _ _ h2), by rw [q1.length, q2.length]; exact hl, fun hx => ?_, fun hx hy => ?_, fun hx hy p hp => ?_⟩))
        · subst hx
          cases q1
          exact k _ _ _ .refl (.tup h2 z2 q2)
        · subst hy
          cases q2
          rw [List.append_nil] at k
          exact k _ _ _ .refl (.tup h1 z1 q1)
        · have sb : Same Hs (upd Hs p (.tup (xs ++ ys))) := ((Grow.one (o := .tup (xs ++ ys)) hp).same s).1
          exact k _ _ _ (Grow.one hp) (.tup upd_same (by rw [List.length_append]; exact hl) ((q1.append q2).mono sb))
      · rw [if_neg hl] at e; cases e
    | _ => cases e
  | _ => cases e
theorem bin_sub : OpR X (binaryOp .Sub) (rG2 T subV) := by
  refine OpR.mono op_sub fun x y H Q h => ?_
  obtain ⟨Hs, d1, d2, d, s, r1, r2, e, k⟩ := h
  cases r1 with
  | int i =>
    cases r2 with
    | int j => cases e; exact ⟨i, j, rfl, rfl, k _ Hs H .refl (.int _)⟩
    | _ => cases e
  | _ => cases e
theorem RepVs.flatten (h : RepVs T Hs xs ds) : ∀ n : Nat, RepVs T Hs (List.replicate n xs).flatten (List.replicate n ds).flatten
  | 0 => .nil
  | n + 1 => by
    rw [List.replicate_succ, List.replicate_succ, List.flatten_cons, List.flatten_cons]
    exact h.append (RepVs.flatten h n)
theorem bin_mul (hK : T.K = X.K) : OpR X (binaryOp .Mult) (rG2 T mulV) := by
  refine OpR.mono (OpR.or op_mulW (OpR.or op_rep (OpR.or op_repT op_repS))) fun x y H Q h => ?_
  obtain ⟨Hs, d1, d2, d, s, r1, r2, e, k⟩ := h
  cases r1 with
  | int i =>
    cases r2 with
    | int j =>
      simp only [mulV] at e
      by_cases hl : i.natAbs.log2 + j.natAbs.log2 < 1000000
      · rw [if_pos hl] at e
        cases e
        exact .inl ⟨i, j, rfl, rfl, hl, k _ Hs H .refl (.int _)⟩
      · rw [if_neg hl] at e; cases e
    | _ => cases e
  | lst h1 z1 q1 =>
    rename_i a xs ds
    cases r2 with
    | int j =>
      simp only [mulV] at e
      by_cases hl : -9223372036854775808 ≤ j ∧ j < 9223372036854775808 ∧ ds.length * j.toNat ≤ LIM
      · rw [if_pos hl] at e
        cases e
        rw [lim_eq] at hl
        refine .inr (.inl ⟨a, j, xs, rfl, rfl, s _ _ h1, by omega, by omega, by rw [q1.length]; exact hl.2.2, fun p hp => ?_⟩)
        have sb : Same Hs (upd Hs p (.lst (List.replicate j.toNat xs).flatten)) := ((Grow.one (o := .lst (List.replicate j.toNat xs).flatten) hp).same s).1
        exact k _ _ _ (Grow.one hp) (.lst upd_same (by rw [PyProof.Rows.lm_len_rep_flat, Nat.mul_comm]; exact hl.2.2) ((q1.flatten _).mono sb))
      · rw [if_neg hl] at e; cases e
    | _ => cases e
  | tup h1 z1 q1 =>
    rename_i a xs ds
    cases r2 with
    | int j =>
      simp only [mulV] at e
      by_cases hl : ds ≠ [] ∧ 0 ≤ j ∧ j ≤ 1000 ∧ ds.length ≤ 1000
      · rw [if_pos hl] at e
        cases e
        have hne : xs ≠ [] := fun z => by subst z; cases q1; exact hl.1 rfl
        by_cases h2 : 2 ≤ j
        · refine .inr (.inr (.inl ⟨a, j, xs, rfl, rfl, SqT.of (s _ _ h1), hne, h2, hl.2.2.1, by rw [q1.length]; exact hl.2.2.2, fun p hp => ?_⟩))
          have sb : Same Hs (upd Hs p (.tup (List.replicate j.toNat xs).flatten)) := ((Grow.one (o := .tup (List.replicate j.toNat xs).flatten) hp).same s).1
          refine k _ _ _ (Grow.one hp) (.tup upd_same ?_ ((q1.flatten _).mono sb))
          rw [PyProof.Rows.lm_len_rep_flat, sizeLine_eq]
          have a1 : j.toNat * ds.length ≤ 1000 * 1000 := Nat.mul_le_mul (by omega) hl.2.2.2
          omega
        · by_cases h3 : j = 1
          · subst h3
            refine .inr (.inr (.inr ⟨a, 1, xs, rfl, rfl, SqT.of (s _ _ h1), hne, .inl ⟨rfl, ?_⟩⟩))
            refine k _ _ _ .refl ?_
            have : (List.replicate (1 : Int).toNat ds).flatten = ds := by simp
            rw [this]
            exact .tup h1 z1 q1
          · have h4 : j = 0 := by omega
            subst h4
            refine .inr (.inr (.inr ⟨a, 0, xs, rfl, rfl, SqT.of (s _ _ h1), hne, .inr ⟨rfl, fun p hp => ?_⟩⟩))
            exact k _ _ _ (Grow.one hp) (.tup upd_same (Nat.zero_le _) .nil)
      · rw [if_neg hl] at e; cases e
    | _ => cases e
  | _ => cases e
theorem bin_fdiv : OpR X (binaryOp .FloorDiv) (rG2 T fdivV) := by
  refine OpR.mono op_fdivW fun x y H Q h => ?_
  obtain ⟨Hs, d1, d2, d, s, r1, r2, e, k⟩ := h
  cases r1 with
  | int i =>
    cases r2 with
    | int j =>
      simp only [fdivV] at e
      by_cases hl : 0 < j ∧ j.natAbs.log2 < 9000
      · rw [if_pos hl] at e
        cases e
        exact ⟨i, j, rfl, rfl, hl, k _ Hs H .refl (.int _)⟩
      · rw [if_neg hl] at e; cases e
    | _ => cases e
  | _ => cases e
theorem bin_mod : OpR X (binaryOp .Mod) (rG2 T modV) := by
  refine OpR.mono op_mod fun x y H Q h => ?_
  obtain ⟨Hs, d1, d2, d, s, r1, r2, e, k⟩ := h
  cases r1 with
  | int i =>
    cases r2 with
    | int j =>
      simp only [modV] at e
      by_cases hl : 0 < j
      · rw [if_pos hl] at e
        cases e
        exact ⟨i, j, rfl, rfl, hl, k _ Hs H .refl (.int _)⟩
      · rw [if_neg hl] at e; cases e
    | _ => cases e
  | _ => cases e
theorem bin_pow : OpR X (binaryOp .Pow) (rG2 T powV) := by
  refine OpR.mono op_pow fun x y H Q h => ?_
  obtain ⟨Hs, d1, d2, d, s, r1, r2, e, k⟩ := h
  cases r1 with
  | int i =>
    cases r2 with
    | int j =>
      simp only [powV] at e
      by_cases hl : 0 ≤ j ∧ j ≤ 1000000 ∧ i.natAbs < 18446744073709551616
      · rw [if_pos hl] at e
        cases e
        exact ⟨i, j, rfl, rfl, ⟨hl.1, hl.2.1, hl.2.2⟩, k _ Hs H .refl (.int _)⟩
      · rw [if_neg hl] at e; cases e
    | _ => cases e
  | _ => cases e
/-! ### data -/
mutual
def toD : PV → PyData
  | .bl b => .bool b
  | .int i => .int i
  | .str s => .str (tx s)
  | .lst xs => .list (toDs xs)
  | .tup xs => .tuple (toDs xs)
  | _ => .none
def toDs : List PV → List PyData
  | [] => []
  | x :: xs => toD x :: toDs xs
end
mutual
theorem RepV.dp (s : Same Hs H) : ∀ {n : Nat} {v : V} {d : PV}, RepV T Hs v d → dataP n d = true → Dp T.K H v (toD d)
  | _, _, _, .non, _ => .non
  | _, _, _, .bl b, _ => .bl b
  | _, _, _, .int b, _ => .int b
  | _, _, _, .str b _, _ => .str _
  | 0, _, _, .lst h z r, e => by simp [dataP] at e
  | n + 1, _, _, .lst h z r, e => .lst (SqL.of (s _ _ h)) (RepVs.dp s r (n := n) (by simpa [dataP] using e))
  | 0, _, _, .tup h z r, e => by simp [dataP] at e
  | n + 1, _, _, .tup h z r, e => .tup (SqT.of (s _ _ h)) (RepVs.dp s r (n := n) (by simpa [dataP] using e))
  | n, _, _, .dct h z r, e => by cases n <;> simp [dataP] at e
  | n, _, _, .obj h c r, e => by cases n <;> simp [dataP] at e
  | n, _, _, .cls h, e => by cases n <;> simp [dataP] at e
  | n, _, _, .ty _, e => by cases n <;> simp [dataP] at e
  | n, _, _, .scr _ _, e => by cases n <;> simp [dataP] at e
theorem RepVs.dp (s : Same Hs H) : ∀ {n : Nat} {v : List V} {d : List PV}, RepVs T Hs v d → dataPs n d = true → DpAll T.K H v (toDs d)
  | _, _, _, .nil, _ => .nil
  | n, _, _, .cons h r, e => by
    simp only [dataPs, Bool.and_eq_true] at e
    exact .cons (RepV.dp s h e.1) (RepVs.dp s r e.2)
end
end
section
variable {T : Tb} {Hs H Hs' H' : Hp} {X : Cx}
theorem tx_ok {s : Txt} (h : ∀ c ∈ s, c < 1114112) : PyData.strOk (tx s) = true := by
  unfold PyData.strOk tx
  rw [Array.all_eq_true]
  intro i hi
  simp only [decide_eq_true_eq]
  exact h _ (by simp)
mutual
theorem RepV.lay : ∀ {n : Nat} {v : V} {d : PV}, RepV T Hs v d → dataP n d = true → (toD d).canLay0 = true
  | _, _, _, .non, _ => by simp [toD, PyData.canLay0]
  | _, _, _, .bl b, _ => by simp [toD, PyData.canLay0]
  | _, _, _, .int b, _ => by simp [toD, PyData.canLay0]
  | _, _, _, .str b h, _ => by simp only [toD, PyData.canLay0]; exact tx_ok h.2
  | 0, _, _, .lst h z r, e => by simp [dataP] at e
  | n + 1, _, _, .lst h z r, e => by simp only [toD, PyData.canLay0]; exact RepVs.lay r (n := n) (by simpa [dataP] using e)
  | 0, _, _, .tup h z r, e => by simp [dataP] at e
  | n + 1, _, _, .tup h z r, e => by simp only [toD, PyData.canLay0]; exact RepVs.lay r (n := n) (by simpa [dataP] using e)
  | n, _, _, .dct h z r, e => by cases n <;> simp [dataP] at e
  | n, _, _, .obj h c r, e => by cases n <;> simp [dataP] at e
  | n, _, _, .cls h, e => by cases n <;> simp [dataP] at e
  | n, _, _, .ty _, e => by cases n <;> simp [dataP] at e
  | n, _, _, .scr _ _, e => by cases n <;> simp [dataP] at e
theorem RepVs.lay : ∀ {n : Nat} {v : List V} {d : List PV}, RepVs T Hs v d → dataPs n d = true → PyData.canLayAll0 (toDs d) = true
  | _, _, _, .nil, _ => by simp [toDs, PyData.canLayAll0]
  | n, _, _, .cons h r, e => by
    simp only [dataPs, Bool.and_eq_true] at e
    simp only [toDs, PyData.canLayAll0, Bool.and_eq_true]
    exact ⟨RepV.lay h e.1, RepVs.lay r e.2⟩
end
mutual
theorem deep_toD : ∀ (n : Nat) (d : PV), dataP n d = true → (toD d).depth ≤ n
  | n, .non, _ => by simp [toD, PyData.depth]
  | n, .bl _, _ => by simp [toD, PyData.depth]
  | n, .int _, _ => by simp [toD, PyData.depth]
  | n, .str _, _ => by simp [toD, PyData.depth]
  | 0, .lst xs, e => by simp [dataP] at e
  | n + 1, .lst xs, e => by
    simp only [toD, PyData.depth]
    exact Nat.succ_le_succ (deep_toDs n xs (by simpa [dataP] using e))
  | 0, .tup xs, e => by simp [dataP] at e
  | n + 1, .tup xs, e => by
    simp only [toD, PyData.depth]
    exact Nat.succ_le_succ (deep_toDs n xs (by simpa [dataP] using e))
  | n, .dct _, e => by cases n <;> simp [dataP] at e
  | n, .obj _ _, e => by cases n <;> simp [dataP] at e
  | n, .cls _, e => by cases n <;> simp [dataP] at e
  | n, .ty _, e => by cases n <;> simp [dataP] at e
  | n, .scr _, e => by cases n <;> simp [dataP] at e
theorem deep_toDs : ∀ (n : Nat) (d : List PV), dataPs n d = true → PyData.depthAll (toDs d) ≤ n
  | n, [], _ => by simp [toDs, PyData.depthAll]
  | n, x :: xs, e => by
    simp only [dataPs, Bool.and_eq_true] at e
    simp only [toDs, PyData.depthAll]
    exact Nat.max_le.mpr ⟨deep_toD n x e.1, deep_toDs n xs e.2⟩
end
theorem tx_beq (s t : Txt) : (tx s == tx t) = (s == t) := by
  by_cases h : s = t
  · subst h; simp
  · have : tx s ≠ tx t := fun z => h (tx_inj z)
    rw [beq_eq_false_iff_ne.mpr this, beq_eq_false_iff_ne.mpr h]
mutual
theorem eqv_toD : ∀ (n m : Nat) (a b : PV), dataP n a = true → dataP m b = true → PyData.eqv (toD a) (toD b) = eqvP a b
  | n, m, .lst xs, .lst ys, ha, hb => by
    cases n with
    | zero => simp [dataP] at ha
    | succ n =>
      cases m with
      | zero => simp [dataP] at hb
      | succ m =>
        simp only [toD, PyData.eqv, eqvP]
        exact eqv_toDs n m xs ys (by simpa [dataP] using ha) (by simpa [dataP] using hb)
  | n, m, .tup xs, .tup ys, ha, hb => by
    cases n with
    | zero => simp [dataP] at ha
    | succ n =>
      cases m with
      | zero => simp [dataP] at hb
      | succ m =>
        simp only [toD, PyData.eqv, eqvP]
        exact eqv_toDs n m xs ys (by simpa [dataP] using ha) (by simpa [dataP] using hb)
  | n, m, .str s, .str t, _, _ => by simp only [toD, PyData.eqv, eqvP, tx_beq]
  | n, m, .non, b, _, hb => by cases b <;> first | (simp [toD, PyData.eqv, eqvP]; done) | (cases m <;> simp [dataP] at hb)
  | n, m, .bl _, b, _, hb => by cases b <;> first | (simp [toD, PyData.eqv, eqvP]; done) | (cases m <;> simp [dataP] at hb)
  | n, m, .int _, b, _, hb => by cases b <;> first | (simp [toD, PyData.eqv, eqvP]; done) | (cases m <;> simp [dataP] at hb)
  | n, m, .str _, .non, _, _ => by simp [toD, PyData.eqv, eqvP]
  | n, m, .str _, .bl _, _, _ => by simp [toD, PyData.eqv, eqvP]
  | n, m, .str _, .int _, _, _ => by simp [toD, PyData.eqv, eqvP]
  | n, m, .str _, .lst _, _, _ => by simp [toD, PyData.eqv, eqvP]
  | n, m, .str _, .tup _, _, _ => by simp [toD, PyData.eqv, eqvP]
  | n, m, .lst _, .non, _, _ => by simp [toD, PyData.eqv, eqvP]
  | n, m, .lst _, .bl _, _, _ => by simp [toD, PyData.eqv, eqvP]
  | n, m, .lst _, .int _, _, _ => by simp [toD, PyData.eqv, eqvP]
  | n, m, .lst _, .str _, _, _ => by simp [toD, PyData.eqv, eqvP]
  | n, m, .lst _, .tup _, _, _ => by simp [toD, PyData.eqv, eqvP]
  | n, m, .tup _, .non, _, _ => by simp [toD, PyData.eqv, eqvP]
  | n, m, .tup _, .bl _, _, _ => by simp [toD, PyData.eqv, eqvP]
  | n, m, .tup _, .int _, _, _ => by simp [toD, PyData.eqv, eqvP]
  | n, m, .tup _, .str _, _, _ => by simp [toD, PyData.eqv, eqvP]
  | n, m, .tup _, .lst _, _, _ => by simp [toD, PyData.eqv, eqvP]
  | n, m, a, .dct _, _, hb => by cases m <;> simp [dataP] at hb
  | n, m, a, .obj _ _, _, hb => by cases m <;> simp [dataP] at hb
  | n, m, a, .cls _, _, hb => by cases m <;> simp [dataP] at hb
  | n, m, a, .ty _, _, hb => by cases m <;> simp [dataP] at hb
  | n, m, a, .scr _, _, hb => by cases m <;> simp [dataP] at hb
  | n, m, .dct _, b, ha, _ => by cases n <;> simp [dataP] at ha
  | n, m, .obj _ _, b, ha, _ => by cases n <;> simp [dataP] at ha
  | n, m, .cls _, b, ha, _ => by cases n <;> simp [dataP] at ha
  | n, m, .ty _, b, ha, _ => by cases n <;> simp [dataP] at ha
  | n, m, .scr _, b, ha, _ => by cases n <;> simp [dataP] at ha
theorem eqv_toDs : ∀ (n m : Nat) (a b : List PV), dataPs n a = true → dataPs m b = true → PyData.eqvAll (toDs a) (toDs b) = eqvPs a b
  | n, m, [], [], _, _ => by simp [toDs, PyData.eqvAll, eqvPs]
  | n, m, [], _ :: _, _, _ => by simp [toDs, PyData.eqvAll, eqvPs]
  | n, m, _ :: _, [], _, _ => by simp [toDs, PyData.eqvAll, eqvPs]
  | n, m, x :: xs, y :: ys, ha, hb => by
    simp only [dataPs, Bool.and_eq_true] at ha hb
    simp only [toDs, PyData.eqvAll, eqvPs]
    rw [eqv_toD n m x y ha.1 hb.1, eqv_toDs n m xs ys ha.2 hb.2]
end
theorem RepV.shaped {v : V} {d : PV} (h : RepV T Hs v d) (e : dataP 60 d = true) : SeqAt.shaped (toD d) = true := by
  unfold SeqAt.shaped
  rw [Bool.and_eq_true]
  exact ⟨h.lay e, decide_eq_true (Nat.le_trans (deep_toD 60 d e) (by decide))⟩
theorem key_eq0 {k q : Key} {e q' : PV} (kr : KeyR k e) (kq : KeyR q q') : eqvP e q' = decide (k = q) := by
  cases kr with
  | int i =>
    cases kq with
    | int j =>
      simp only [eqvP]
      by_cases z : i = j
      · subst z; simp
      · rw [beq_eq_false_iff_ne.mpr z, decide_eq_false (fun w => z (Sum.inl.inj w))]
    | str t => rw [decide_eq_false (fun w => nomatch w)]; rfl
  | str s =>
    cases kq with
    | int j => rw [decide_eq_false (fun w => nomatch w)]; rfl
    | str t =>
      simp only [eqvP]
      by_cases z : s = t
      · subst z; simp
      · rw [beq_eq_false_iff_ne.mpr z, decide_eq_false (fun w => z (tx_inj (Sum.inr.inj w)))]
theorem dget_rep0 : ∀ {ks : List (Key × V)} {ds : List (PV × PV)} {q : Key} {q' d : PV}, RepKs T Hs ks ds → KeyR q q' → dGet ds q' = some d → ∃ v, valV ks q = some v ∧ RepV T Hs v d
  | _, _, _, _, _, .nil, _, h => nomatch h
  | _, _, q, q', d, .cons (k := k) (e := e) kr rx rr, kq, h => by
    simp only [dGet] at h
    rw [key_eq0 kr kq] at h
    by_cases z : k = q
    · rw [decide_eq_true z, if_pos rfl] at h
      cases h
      exact ⟨_, valV_pos (p := (k, _)) z, rx⟩
    · rw [decide_eq_false z, if_neg Bool.false_ne_true] at h
      rw [valV_neg (p := (k, _)) z]
      exact dget_rep0 rr kq h
theorem repks_mem : ∀ {ks : List (Key × V)} {ds : List (PV × PV)} {p : Key × V}, RepKs T Hs ks ds → p ∈ ks → ∃ kv ∈ ds, KeyR p.1 kv.1 ∧ RepV T Hs p.2 kv.2
  | _, _, _, .nil, h => nomatch h
  | _, _, p, .cons kr rx rr, h => by
    cases h with
    | head => exact ⟨_, List.mem_cons_self, kr, rx⟩
    | tail _ h =>
      obtain ⟨kv, hm, z⟩ := repks_mem rr h
      exact ⟨kv, List.mem_cons_of_mem _ hm, z⟩
theorem same_of {v w : V} {d e : PV} (h : RepV T Hs v d) (h' : RepV T Hs' w e) (q : sameP d e = true) : w = v ∧ flatB v = true := by
  cases d <;> cases e <;> first
    | (cases q; done)
    | (cases h; cases h'; exact ⟨rfl, rfl⟩)
    | (cases h; cases h'; simp only [sameP, beq_iff_eq] at q; subst q; exact ⟨rfl, rfl⟩)
theorem eqDD_rep {x y : V} {d1 d2 : PV} {t : Bool} (s1 : Same Hs H) (s2 : Same Hs' H) (r1 : RepV T Hs x d1) (r2 : RepV T Hs' y d2) (e : eqDD d1 d2 = some t) :
    t = true ∧ ∃ a b ks ls, x = .ref a ∧ y = .ref b ∧ Rd H a (.dK ks) ∧ Rd H b (.dK ls) ∧ ks.length = ls.length ∧ ∀ p ∈ ks, valV ls p.1 = some p.2 ∧ flatB p.2 = true := by
  cases r1 with
  | dct h1 z1 q1 =>
    cases r2 with
    | dct h2 z2 q2 =>
      rename_i a ks ds b ls es
      simp only [eqDD] at e
      split at e
      · rename_i hc
        cases e
        refine ⟨rfl, a, b, ks, ls, rfl, rfl, SameR s1 h1, SameR s2 h2, by rw [q1.length, q2.length]; exact hc.1, fun p hp => ?_⟩
        obtain ⟨kv, hm, kr, rv⟩ := repks_mem q1 hp
        have hall := List.all_eq_true.mp hc.2 kv hm
        cases g : dGet es kv.1 with
        | none => rw [g] at hall; cases hall
        | some w =>
          rw [g] at hall
          obtain ⟨v, gv, rw'⟩ := dget_rep0 q2 kr g
          obtain ⟨e1, e2⟩ := same_of rv rw' hall
          exact ⟨e1 ▸ gv, e2⟩
      · cases e
    | _ => cases e
  | _ => cases e
theorem op_eq_dictR (hu : X.A.units < cLine) : OpR X (compareOp .Eq) (fun x y H Q => ∃ a b ks ls, x = .ref a ∧ y = .ref b ∧ Rd H a (.dK ks) ∧ Rd H b (.dK ls) ∧ ks.length = ls.length ∧ (∀ p ∈ ks, valV ls p.1 = some p.2 ∧ flatB p.2 = true) ∧ Q (.bl true) H) := by
  intro pins s σ H x y v u Q I rx ry h
  obtain ⟨a, b, ks, ls, rfl, rfl, ea, eb, hlen, hp, q⟩ := h
  obtain rfl : v = Value.ref a := rx
  obtain rfl : u = Value.ref b := ry
  obtain ⟨_, ya, va, ra, da⟩ := dk_rd I.hok ea
  obtain ⟨_, yb, vb, rb, db⟩ := dk_rd I.hok eb
  have hl : va.length = vb.length := by rw [← ra.length, ← rb.length]; exact hlen
  exact PySem.W.keq_eq (knd := mixKind X.prog X.w) (r := true) ya yb da db hu (fun _ => hits_all rb ra hp) (fin_bl I q (by simp [hl]))
theorem op_ne_dictR (hu : X.A.units < cLine) : OpR X (compareOp .NotEq) (fun x y H Q => ∃ a b ks ls, x = .ref a ∧ y = .ref b ∧ Rd H a (.dK ks) ∧ Rd H b (.dK ls) ∧ ks.length = ls.length ∧ (∀ p ∈ ks, valV ls p.1 = some p.2 ∧ flatB p.2 = true) ∧ Q (.bl false) H) := by
  intro pins s σ H x y v u Q I rx ry h
  obtain ⟨a, b, ks, ls, rfl, rfl, ea, eb, hlen, hp, q⟩ := h
  obtain rfl : v = Value.ref a := rx
  obtain rfl : u = Value.ref b := ry
  obtain ⟨_, ya, va, ra, da⟩ := dk_rd I.hok ea
  obtain ⟨_, yb, vb, rb, db⟩ := dk_rd I.hok eb
  have hl : va.length = vb.length := by rw [← ra.length, ← rb.length]; exact hlen
  exact PySem.W.keq_ne (knd := mixKind X.prog X.w) (r := true) ya yb da db hu (fun _ => hits_all rb ra hp) (fin_bl I q (by simp [hl]))
theorem cmp_eq (hK : T.K = X.K) (hu : X.A.units + 64 < cLine) : OpR X (compareOp .Eq) (rA2 T (cmpV 0)) := by
  refine OpR.mono (OpR.or (op_eqD hu) (op_eq_dictR (by omega))) fun x y H Q h => ?_
  obtain ⟨Hx, Hy, d1, d2, d, s1, s2, r1, r2, e, k⟩ := h
  simp only [cmpV, eqE, eqD] at e
  by_cases hd : (dataP 60 d1 && dataP 60 d2) = true
  · rw [if_pos hd] at e
    cases e
    rw [Bool.and_eq_true] at hd
    refine .inl ⟨toD d1, toD d2, hK ▸ r1.dp s1 hd.1, hK ▸ r2.dp s2 hd.2, r1.shaped hd.1, r2.shaped hd.2, ?_⟩
    rw [eqv_toD 60 60 _ _ hd.1 hd.2]
    exact k _ fun Hs => .bl _
  · rw [if_neg hd] at e
    cases e1 : eqDD d1 d2 with
    | none => rw [e1] at e; cases e
    | some t =>
      obtain ⟨ht, a, b, ks, ls, g⟩ := eqDD_rep s1 s2 r1 r2 e1
      subst ht
      rw [e1] at e
      cases e
      obtain ⟨g1, g2, g3, g4, g5, g6⟩ := g
      exact .inr ⟨a, b, ks, ls, g1, g2, g3, g4, g5, g6, k _ fun Hs => .bl _⟩
theorem cmp_ne (hK : T.K = X.K) (hu : X.A.units + 64 < cLine) : OpR X (compareOp .NotEq) (rA2 T (cmpV 1)) := by
  refine OpR.mono (OpR.or (op_neD hu) (op_ne_dictR (by omega))) fun x y H Q h => ?_
  obtain ⟨Hx, Hy, d1, d2, d, s1, s2, r1, r2, e, k⟩ := h
  simp only [cmpV, eqE, eqD] at e
  by_cases hd : (dataP 60 d1 && dataP 60 d2) = true
  · rw [if_pos hd] at e
    cases e
    rw [Bool.and_eq_true] at hd
    refine .inl ⟨toD d1, toD d2, hK ▸ r1.dp s1 hd.1, hK ▸ r2.dp s2 hd.2, r1.shaped hd.1, r2.shaped hd.2, ?_⟩
    rw [eqv_toD 60 60 _ _ hd.1 hd.2]
    exact k _ fun Hs => .bl _
  · rw [if_neg hd] at e
    cases e1 : eqDD d1 d2 with
    | none => rw [e1] at e; cases e
    | some t =>
      obtain ⟨ht, a, b, ks, ls, g⟩ := eqDD_rep s1 s2 r1 r2 e1
      subst ht
      rw [e1] at e
      cases e
      obtain ⟨g1, g2, g3, g4, g5, g6⟩ := g
      exact .inr ⟨a, b, ks, ls, g1, g2, g3, g4, g5, g6, k _ fun Hs => .bl _⟩
theorem cmp_int {op : CmpOp} {p : Int → Int → Bool} (h : OpR X (compareOp op) (rI0 fun i j => .bl (p i j))) : OpR X (compareOp op) (rA2 T (ltI p)) := by
  refine OpR.mono h fun x y H Q z => ?_
  obtain ⟨Hx, Hy, d1, d2, d, s1, s2, r1, r2, e, k⟩ := z
  cases r1 with
  | int i =>
    cases r2 with
    | int j => cases e; exact ⟨i, j, rfl, rfl, k _ fun Hs => .bl _⟩
    | _ => cases e
  | _ => cases e
theorem ints_rep : ∀ {xs : List V} {ds : List PV} {is : List Int}, RepVs T Hs xs ds → intsV ds = some is → xs = is.map V.int
  | _, _, _, .nil, e => by cases e; rfl
  | _, _, is, .cons (d := d) (ds := ds) h r, e => by
    cases h with
    | int i =>
      simp only [intsV] at e
      cases e1 : intsV ds with
      | none => rw [e1] at e; cases e
      | some js =>
        rw [e1] at e
        cases e
        rw [ints_rep r e1]
        rfl
    | _ => cases e
theorem lexI_eq : ∀ (a b : List Int), lexI a b = HT.lexLt a b
  | [], [] => rfl
  | [], _ :: _ => rfl
  | _ :: _, [] => rfl
  | x :: xs, y :: ys => by
    rw [HT.lexLt_cons, ← lexI_eq xs ys]
    rfl
theorem cmp_lt (hK : T.K = X.K) (hu : X.A.units < cLine) : OpR X (compareOp .Lt) (rA2 T (cmpV 2)) := by
  refine OpR.mono (OpR.or op_lt (op_ltT hu)) fun x y H Q z => ?_
  obtain ⟨Hx, Hy, d1, d2, d, s1, s2, r1, r2, e, k⟩ := z
  cases r1 with
  | int i =>
    cases r2 with
    | int j => cases e; exact .inl ⟨i, j, rfl, rfl, k _ fun Hs => .bl _⟩
    | _ => cases e
  | tup h1 z1 q1 =>
    cases r2 with
    | tup h2 z2 q2 =>
      rename_i a xs ds b ys es
      simp only [cmpV, ltV] at e
      cases e1 : intsV ds with
      | none => rw [e1] at e; cases e
      | some as =>
        cases e2 : intsV es with
        | none => rw [e1, e2] at e; cases e
        | some bs =>
          rw [e1, e2] at e
          cases e
          refine .inr ⟨a, b, as, bs, rfl, rfl, ?_, ?_, ?_⟩
          · rw [← ints_rep q1 e1]; exact SqT.of (s1 _ _ h1)
          · rw [← ints_rep q2 e2]; exact SqT.of (s2 _ _ h2)
          · rw [← lexI_eq]; exact k _ fun Hs => .bl _
    | _ => cases e
  | _ => cases e
theorem cmp_le : OpR X (compareOp .LtE) (rA2 T (cmpV 3)) := cmp_int op_le
theorem cmp_gt : OpR X (compareOp .Gt) (rA2 T (cmpV 4)) := cmp_int op_gt
theorem cmp_ge : OpR X (compareOp .GtE) (rA2 T (cmpV 5)) := cmp_int op_ge
theorem any_toD {n m : Nat} {d1 : PV} (h1 : dataP n d1 = true) : ∀ {es : List PV}, dataPs m es = true → ((toDs es).any fun z => PyData.eqv z (toD d1)) = es.any fun z => eqvP z d1
  | [], _ => rfl
  | e :: es, h => by
    simp only [dataPs, Bool.and_eq_true] at h
    simp only [toDs, List.any_cons]
    rw [eqv_toD m n e d1 h.1 h1, any_toD h1 h.2]
theorem flat_of {v : V} {d : PV} (h : RepV T Hs v d) (e : dataP 0 d = true) : flatV v = true := by
  cases h <;> first | rfl | (simp [dataP] at e)
theorem flats_of : ∀ {v : List V} {d : List PV}, RepVs T Hs v d → dataPs 0 d = true → v.all flatV = true
  | _, _, .nil, _ => rfl
  | _, _, .cons h r, e => by
    simp only [dataPs, Bool.and_eq_true] at e
    simp only [List.all_cons, Bool.and_eq_true]
    exact ⟨flat_of h e.1, flats_of r e.2⟩
theorem eqV_of {v w : V} {d e : PV} (h : RepV T Hs v d) (h' : RepV T Hs' w e) (q : dataP 0 d = true) (q' : dataP 0 e = true) : eqV v w = eqvP d e := by
  cases h <;> first
    | (simp [dataP] at q; done)
    | (cases h' <;> first
        | (simp [dataP] at q'; done)
        | rfl
        | (simp only [eqV, eqvP, tx_beq]))
theorem inV_of {w : V} {e : PV} (h' : RepV T Hs' w e) (q' : dataP 0 e = true) : ∀ {v : List V} {d : List PV}, RepVs T Hs v d → dataPs 0 d = true → inV w v = d.any fun y => eqvP y e
  | _, _, .nil, _ => rfl
  | _, _, .cons h r, q => by
    simp only [dataPs, Bool.and_eq_true] at q
    have ih := inV_of h' q' r q.2
    unfold inV at ih ⊢
    simp only [List.any_cons]
    rw [eqV_of h h' q.1 q', ih]
theorem key_eq {k q : Key} {e q' : PV} (kr : KeyR k e) (kq : KeyR q q') : eqvP e q' = decide (k = q) := by
  cases kr with
  | int i =>
    cases kq with
    | int j =>
      simp only [eqvP]
      by_cases z : i = j
      · subst z; simp
      · rw [beq_eq_false_iff_ne.mpr z, decide_eq_false (fun w => z (Sum.inl.inj w))]
    | str t => rw [decide_eq_false (fun w => nomatch w)]; rfl
  | str s =>
    cases kq with
    | int j => rw [decide_eq_false (fun w => nomatch w)]; rfl
    | str t =>
      simp only [eqvP]
      by_cases z : s = t
      · subst z; simp
      · rw [beq_eq_false_iff_ne.mpr z, decide_eq_false (fun w => z (tx_inj (Sum.inr.inj w)))]
theorem dget_is {k : Key} {e : PV} (ke : KeyR k e) : ∀ {v : List (Key × V)} {d : List (PV × PV)}, RepKs T Hs v d → (valV v k).isSome = (dGet d e).isSome
  | _, _, .nil => rfl
  | _, _, .cons (k := q) (xs := r) (ds := ds) q' rx rr => by
    simp only [dGet]
    rw [key_eq q' ke]
    by_cases z : q = k
    · rw [decide_eq_true z, valV_pos (p := (q, _)) z]; rfl
    · rw [decide_eq_false z, valV_neg (p := (q, _)) z]
      rw [if_neg Bool.false_ne_true]
      exact dget_is ke rr
theorem op_dIn (hu : X.A.units + 1 < cLine) : OpR X (compareOp .In) (fun x y H Q => ∃ a ov, y = .ref a ∧ DGet H a x ov ∧ Q (.bl ov.isSome) H) := by
  intro pins s σ H x y v u Q I rx ry h
  obtain ⟨a, ov, rfl, g, q⟩ := h
  cases ry
  exact d_in hu I g rx fun s3 I3 => ⟨.bl ov.isSome, H, I3, rfl, q⟩
theorem op_dNotIn (hu : X.A.units + 1 < cLine) : OpR X (compareOp .NotIn) (fun x y H Q => ∃ a ov, y = .ref a ∧ DGet H a x ov ∧ Q (.bl (!ov.isSome)) H) := by
  intro pins s σ H x y v u Q I rx ry h
  obtain ⟨a, ov, rfl, g, q⟩ := h
  cases ry
  exact d_notIn hu I g rx fun s3 I3 => ⟨.bl (!ov.isSome), H, I3, rfl, q⟩
theorem cmp_in (hK : T.K = X.K) (hu : X.A.units + 65 < cLine) : OpR X (compareOp .In) (rA2 T (cmpV 6)) := by
  refine OpR.mono (OpR.or (op_dIn (by omega)) (OpR.or (op_inD hu) (OpR.or op_in_seq op_in_sign))) fun x y H Q h => ?_
  obtain ⟨Hx, Hy, d1, d2, d, s1, s2, r1, r2, e, k⟩ := h
  cases r2 with
  | lst h z r =>
    rename_i a ys es
    simp only [cmpV, inD] at e
    by_cases hd : (dataP 60 d1 && dataPs 60 es) = true
    · rw [if_pos hd] at e
      cases e
      rw [Bool.and_eq_true] at hd
      have hl : dataP 61 (.lst es) = true := by simp only [dataP]; exact hd.2
      refine .inr (.inl ⟨toD d1, toDs es, hK ▸ r1.dp s1 hd.1, hK ▸ (RepV.lst h z r).dp s2 hl, r1.shaped hd.1, ?_, ?_⟩)
      · unfold SeqAt.shaped
        rw [Bool.and_eq_true]
        exact ⟨(RepV.lst h z r).lay hl, decide_eq_true (Nat.le_trans (deep_toD 61 _ hl) (by decide))⟩
      · rw [any_toD hd.1 hd.2]
        exact k _ fun Hs => .bl _
    · rw [if_neg hd] at e; cases e
  | tup h z r =>
    rename_i a ys es
    simp only [cmpV, inD] at e
    by_cases hd : (dataP 0 d1 && dataPs 0 es) = true
    · rw [if_pos hd] at e
      cases e
      rw [Bool.and_eq_true] at hd
      refine .inr (.inr (.inl ⟨a, ys, rfl, .inr (SqT.of (s2 _ _ h)), flat_of r1 hd.1, flats_of r hd.2, ?_⟩))
      rw [if_neg Bool.false_ne_true, inV_of r1 hd.1 r hd.2]
      exact k _ fun Hs => .bl _
    · rw [if_neg hd] at e; cases e
  | str t ht =>
    cases r1 with
    | str s hs =>
      simp only [cmpV] at e
      match s, hs, e with
      | [c], hs, e =>
        cases e
        refine .inr (.inr (.inr ⟨c, tx t, rfl, rfl, ?_⟩))
        have eq : decide (c ∈ (tx t).cps.toList) = t.contains c := by
          rw [List.contains_eq_mem]
          exact decide_eq_decide.mpr (by simp [tx])
        rw [eq]
        exact k _ fun Hs => .bl _
      | [], hs, e => cases e
      | _ :: _ :: _, hs, e => cases e
    | _ => cases e
  | dct h z r =>
    rename_i a ks es
    simp only [cmpV] at e
    cases r1 with
    | int i =>
      cases e
      refine .inl ⟨a, _, rfl, .inl ⟨ks, .inl i, SameR s2 h, rfl, rfl⟩, ?_⟩
      rw [dget_is (.int i) r]
      exact k _ fun Hs => .bl _
    | str t ht =>
      match t, ht, e with
      | [], ht, e =>
        cases e
        refine .inl ⟨a, _, rfl, .inl ⟨ks, .inr (tx []), SameR s2 h, rfl, rfl⟩, ?_⟩
        rw [dget_is (.str [] ht) r]
        exact k _ fun Hs => .bl _
      | [c], ht, e =>
        cases e
        refine .inl ⟨a, _, rfl, .inl ⟨ks, .inr (tx [c]), SameR s2 h, rfl, rfl⟩, ?_⟩
        rw [dget_is (.str [c] ht) r]
        exact k _ fun Hs => .bl _
      | c :: c' :: t, ht, e =>
        cases e
        refine .inl ⟨a, _, rfl, .inl ⟨ks, .inr (tx (c :: c' :: t)), SameR s2 h, rfl, rfl⟩, ?_⟩
        rw [dget_is (.str (c :: c' :: t) ht) r]
        exact k _ fun Hs => .bl _
    | _ => cases e
  | _ => simp only [cmpV] at e; cases d1 <;> first | (cases e; done) | skip
theorem cmp_notin (hK : T.K = X.K) (hu : X.A.units + 65 < cLine) : OpR X (compareOp .NotIn) (rA2 T (cmpV 7)) := by
  refine OpR.mono (OpR.or (op_dNotIn (by omega)) (OpR.or (op_notInD hu) (OpR.or op_notIn_seq op_notIn_sign))) fun x y H Q h => ?_
  obtain ⟨Hx, Hy, d1, d2, d, s1, s2, r1, r2, e, k⟩ := h
  cases r2 with
  | lst h z r =>
    rename_i a ys es
    simp only [cmpV, inD] at e
    by_cases hd : (dataP 60 d1 && dataPs 60 es) = true
    · rw [if_pos hd] at e
      cases e
      rw [Bool.and_eq_true] at hd
      have hl : dataP 61 (.lst es) = true := by simp only [dataP]; exact hd.2
      refine .inr (.inl ⟨toD d1, toDs es, hK ▸ r1.dp s1 hd.1, hK ▸ (RepV.lst h z r).dp s2 hl, r1.shaped hd.1, ?_, ?_⟩)
      · unfold SeqAt.shaped
        rw [Bool.and_eq_true]
        exact ⟨(RepV.lst h z r).lay hl, decide_eq_true (Nat.le_trans (deep_toD 61 _ hl) (by decide))⟩
      · rw [any_toD hd.1 hd.2]
        exact k _ fun Hs => .bl _
    · rw [if_neg hd] at e; cases e
  | tup h z r =>
    rename_i a ys es
    simp only [cmpV, inD] at e
    by_cases hd : (dataP 0 d1 && dataPs 0 es) = true
    · rw [if_pos hd] at e
      cases e
      rw [Bool.and_eq_true] at hd
      refine .inr (.inr (.inl ⟨a, ys, rfl, .inr (SqT.of (s2 _ _ h)), flat_of r1 hd.1, flats_of r hd.2, ?_⟩))
      rw [if_pos rfl, inV_of r1 hd.1 r hd.2]
      exact k _ fun Hs => .bl _
    · rw [if_neg hd] at e; cases e
  | str t ht =>
    cases r1 with
    | str s hs =>
      simp only [cmpV] at e
      match s, hs, e with
      | [c], hs, e =>
        cases e
        refine .inr (.inr (.inr ⟨c, tx t, rfl, rfl, ?_⟩))
        have eq : decide (c ∈ (tx t).cps.toList) = t.contains c := by
          rw [List.contains_eq_mem]
          exact decide_eq_decide.mpr (by simp [tx])
        rw [eq]
        exact k _ fun Hs => .bl _
      | [], hs, e => cases e
      | _ :: _ :: _, hs, e => cases e
    | _ => cases e
  | dct h z r =>
    rename_i a ks es
    simp only [cmpV] at e
    cases r1 with
    | int i =>
      cases e
      refine .inl ⟨a, _, rfl, .inl ⟨ks, .inl i, SameR s2 h, rfl, rfl⟩, ?_⟩
      rw [dget_is (.int i) r]
      exact k _ fun Hs => .bl _
    | str t ht =>
      match t, ht, e with
      | [], ht, e =>
        cases e
        refine .inl ⟨a, _, rfl, .inl ⟨ks, .inr (tx []), SameR s2 h, rfl, rfl⟩, ?_⟩
        rw [dget_is (.str [] ht) r]
        exact k _ fun Hs => .bl _
      | [c], ht, e =>
        cases e
        refine .inl ⟨a, _, rfl, .inl ⟨ks, .inr (tx [c]), SameR s2 h, rfl, rfl⟩, ?_⟩
        rw [dget_is (.str [c] ht) r]
        exact k _ fun Hs => .bl _
      | c :: c' :: t, ht, e =>
        cases e
        refine .inl ⟨a, _, rfl, .inl ⟨ks, .inr (tx (c :: c' :: t)), SameR s2 h, rfl, rfl⟩, ?_⟩
        rw [dget_is (.str (c :: c' :: t) ht) r]
        exact k _ fun Hs => .bl _
    | _ => cases e
  | _ => simp only [cmpV] at e; cases d1 <;> first | (cases e; done) | skip
theorem non_of {v : V} {d : PV} (h : RepV T Hs v d) : decide (v = .non) = (match d with | .non => true | _ => false) := by
  cases h <;> simp
theorem cmp_is : OpR X (compareOp .Is) (rA2 T (cmpV 8)) := by
  refine OpR.mono (OpR.or op_isN op_is_bl) fun x y H Q h => ?_
  obtain ⟨Hx, Hy, d1, d2, d, s1, s2, r1, r2, e, k⟩ := h
  cases r2 with
  | non =>
    refine .inl ⟨rfl, ?_⟩
    rw [non_of r1]
    cases d1 <;> (cases e; exact k _ fun Hs => .bl _)
  | bl b =>
    cases r1 with
    | bl a =>
      cases e
      refine .inr ⟨a, b, rfl, rfl, ?_⟩
      have : decide (a = b) = (a == b) := by cases a <;> cases b <;> rfl
      rw [this]
      exact k _ fun Hs => .bl _
    | _ => cases e
  | _ => cases r1 <;> cases e
theorem cmp_isnot : OpR X (compareOp .IsNot) (rA2 T (cmpV 9)) := by
  refine OpR.mono (OpR.or op_notN op_isnot_bl) fun x y H Q h => ?_
  obtain ⟨Hx, Hy, d1, d2, d, s1, s2, r1, r2, e, k⟩ := h
  cases r2 with
  | non =>
    refine .inl ⟨rfl, ?_⟩
    rw [non_of r1]
    cases d1 <;> (cases e; exact k _ fun Hs => .bl _)
  | bl b =>
    cases r1 with
    | bl a =>
      cases e
      refine .inr ⟨a, b, rfl, rfl, ?_⟩
      have : decide (a = b) = (a == b) := by cases a <;> cases b <;> rfl
      rw [this]
      exact k _ fun Hs => .bl _
    | _ => cases e
  | _ => cases r1 <;> cases e
end
end HV

end

section
/-! V3: subscripts, kinds, built-in functions by trees. -/
namespace HV
open PySem PySem.Spec PyProof.Rows L2
section
variable {T : Tb} {Hs H Hs' H' : Hp} {X : Cx}
/-! ### subscripts -/
theorem atP_eq {α : Type} (xs : List α) (i : Int) : atP xs i = atI xs i := rfl
theorem at_rep {xs : List V} {ds : List PV} (r : RepVs T Hs xs ds) {i : Int} {d : PV} (h : atP ds i = some d) : ∃ v, atI xs i = some v ∧ RepV T Hs v d := by
  unfold atP ixP at h
  unfold atI ixN
  rw [r.length]
  split at h
  · split at h
    · simp only [Option.bind_some] at h
      rename_i h1 h2
      obtain ⟨v, g1, g2⟩ := r.get h
      exact ⟨v, by rw [if_pos h1, if_pos h2]; exact g1, g2⟩
    · cases h
  · split at h
    · simp only [Option.bind_some] at h
      rename_i h1 h2
      obtain ⟨v, g1, g2⟩ := r.get h
      exact ⟨v, by rw [if_neg h1, if_pos h2]; exact g1, g2⟩
    · cases h
theorem dget_rep : ∀ {ks : List (Key × V)} {ds : List (PV × PV)} {q : Key} {q' d : PV}, RepKs T Hs ks ds → KeyR q q' → dGet ds q' = some d → ∃ v, valV ks q = some v ∧ RepV T Hs v d
  | _, _, _, _, _, .nil, _, h => by cases h
  | _, _, q, q', d, .cons (k := k) (e := e) kr r rr, kq, h => by
    simp only [dGet] at h
    have key : eqvP e q' = decide (k = q) := by
      cases kr with
      | int i =>
        cases kq with
        | int j =>
          simp only [eqvP]
          by_cases z : i = j
          · subst z; simp
          · rw [beq_eq_false_iff_ne.mpr z, decide_eq_false (fun w => z (Sum.inl.inj w))]
        | str t => rw [decide_eq_false (fun w => nomatch w)]; rfl
      | str s =>
        cases kq with
        | int j => rw [decide_eq_false (fun w => nomatch w)]; rfl
        | str t =>
          simp only [eqvP]
          by_cases z : s = t
          · subst z; simp
          · rw [beq_eq_false_iff_ne.mpr z, decide_eq_false (fun w => z (tx_inj (Sum.inr.inj w)))]
    rw [key] at h
    by_cases z : k = q
    · rw [decide_eq_true z, if_pos rfl] at h
      cases h
      exact ⟨_, valV_pos z, r⟩
    · rw [decide_eq_false z, if_neg Bool.false_ne_true] at h
      obtain ⟨v, h1, h2⟩ := dget_rep rr kq h
      exact ⟨v, (valV_neg z).trans h1, h2⟩
theorem va_att (ok : TbOk T) (f : Nat) : VG1 T (fun x H Q => ∃ a C dx fs v, x = .ref a ∧ H a = some (.ins C dx fs) ∧ Cls T.K C ∧ NoAttr T.K C (nmS f) ∧ fs.lookup (nmS f) = some v ∧ Q v H) (attV T.isF f) := by
  intro x d1 d Hs H Q s r e k
  cases r with
  | obj ha hc hf =>
    rename_i a c C dx fs ds
    simp only [attV] at e
    by_cases hi : T.isF c f = true
    · rw [if_pos hi] at e
      obtain ⟨v, k1, k2⟩ := fields_get hf e
      exact ⟨a, C, dx, fs, v, rfl, s _ _ ha, ok.cl c C hc, ok.fl c C f hc hi, k1, k v Hs H .refl k2⟩
    · rw [if_neg hi] at e; cases e
  | _ => cases e
theorem RepVs.drop : ∀ {xs : List V} {ds : List PV} (n : Nat), RepVs T Hs xs ds → RepVs T Hs (xs.drop n) (ds.drop n)
  | _, _, 0, h => by simpa using h
  | _, _, n + 1, .nil => by simp; exact .nil
  | _, _, n + 1, .cons _ r => by simpa using RepVs.drop n r
theorem RepVs.take : ∀ {xs : List V} {ds : List PV} (n : Nat), RepVs T Hs xs ds → RepVs T Hs (xs.take n) (ds.take n)
  | _, _, 0, h => by simp; exact .nil
  | _, _, n + 1, .nil => by simp; exact .nil
  | _, _, n + 1, .cons q r => by simpa using .cons q (RepVs.take n r)
theorem sIx_eq (n d : Nat) (o : Option Int) : sIxP n d o = HT.sIx n d o := by cases o <;> rfl
theorem cut_rep {xs : List V} {ds : List PV} (h : RepVs T Hs xs ds) (lo hi : Option Int) : RepVs T Hs (cutV xs lo hi) (cutP ds lo hi) := by
  unfold cutV cutP
  rw [h.length, sIx_eq, sIx_eq]
  exact (h.drop _).take _
theorem cutP_len {α : Type} (xs : List α) (lo hi : Option Int) : (cutP xs lo hi).length ≤ xs.length := by
  unfold cutP
  rw [List.length_take, List.length_drop]
  omega
theorem cutP_whole {α : Type} {xs : List α} {lo hi : Option Int} (h : HT.sIx xs.length 0 lo = 0 ∧ HT.sIx xs.length xs.length hi = xs.length) : cutP xs lo hi = xs := by
  unfold cutP
  rw [sIx_eq, sIx_eq, h.1, h.2]
  simp
/-! ### operators by codes -/
def cmpOf : Nat → CmpOp
  | 0 => .Eq | 1 => .NotEq | 2 => .Lt | 3 => .LtE | 4 => .Gt | 5 => .GtE | 6 => .In | 7 => .NotIn | 8 => .Is | _ => .IsNot
def binOf : Nat → Operator
  | 0 => .Add | 1 => .Sub | 2 => .Mult | 3 => .FloorDiv | 4 => .Mod | _ => .Pow
theorem cmp_ok (hK : T.K = X.K) (hu : X.A.units + 65 < cLine) : ∀ k, k < 10 → OpR X (compareOp (cmpOf k)) (rA2 T (cmpV k))
  | 0, _ => cmp_eq hK (by omega)
  | 1, _ => cmp_ne hK (by omega)
  | 2, _ => cmp_lt hK (by omega)
  | 3, _ => cmp_le
  | 4, _ => cmp_gt
  | 5, _ => cmp_ge
  | 6, _ => cmp_in hK hu
  | 7, _ => cmp_notin hK hu
  | 8, _ => cmp_is
  | 9, _ => cmp_isnot
  | k + 10, h => by omega
theorem bin_ok (hK : T.K = X.K) : ∀ k, k < 6 → OpR X (binaryOp (binOf k)) (rG2 T (binV k))
  | 0, _ => bin_add hK
  | 1, _ => bin_sub
  | 2, _ => bin_mul hK
  | 3, _ => bin_fdiv
  | 4, _ => bin_mod
  | 5, _ => bin_pow
  | k + 6, h => by omega
end
section
variable {T : Tb} {Hs H Hs' H' : Hp} {X : Cx}
theorem RepV.kind (ok : TbOk T) {v : V} {d : PV} (h : RepV T Hs v d) (s : Same Hs H) {k : Kd} (e : kdV d = some k) : ∃ t, TyX T.K H v t ∧ kdVal T k t := by
  cases h with
  | non => cases e; exact ⟨_, .base .non, by decide, rfl⟩
  | bl b => cases e; exact ⟨_, .base (.bl b), by decide, rfl⟩
  | int b => cases e; exact ⟨_, .base (.int b), by decide, rfl⟩
  | str b _ => cases e; exact ⟨_, .base (.str _), by decide, rfl⟩
  | lst h _ _ => cases e; exact ⟨_, .base (.lst (s _ _ h)), by decide, rfl⟩
  | tup h _ _ => cases e; exact ⟨_, .base (.tup (s _ _ h)), by decide, rfl⟩
  | dct h _ _ =>
    cases e
    rcases SameR s h with h | ⟨o, h⟩
    · exact ⟨_, .base (.dK h), by decide, rfl⟩
    · exact ⟨_, .fDict h, by decide, rfl⟩
  | obj h c r =>
    rename_i a cid C dx fs ds
    cases e
    obtain ⟨h1, h2, h3, h4⟩ := ok.ty cid C c
    exact ⟨_, .base (.ins (s _ _ h) (ok.cl cid C c) h1 h2 h3 h4), C, c, rfl⟩
  | cls h => cases e
  | ty n => cases e
  | scr h z => cases e
theorem RepV.clsOf {v : V} {d : PV} (h : RepV T Hs v d) {k : Kd} (e : kdC d = some k) : ∃ u, ClsV v u ∧ kdVal T k u := by
  cases h with
  | ty n =>
    simp only [kdC] at e
    by_cases hn : n < 6
    · rw [if_pos hn] at e
      cases e
      exact ⟨_, .ty _, by omega, rfl⟩
    · rw [if_neg hn] at e; cases e
  | cls c =>
    rename_i cid C
    cases e
    exact ⟨_, .own C, C, c, rfl⟩
  | _ => cases e
theorem kdAny_ok (ok : TbOk T) {k : Kd} {t : Value} (hk : kdVal T k t) : ∀ {vs : List V} {ds : List PV} {b : Bool}, RepVs T Hs vs ds → kdAny k ds = some b → ∃ us, Paired ClsV vs us ∧ PySem.W.kitAny T.K t us = some b
  | _, _, _, .nil, e => by cases e; exact ⟨[], .nil, rfl⟩
  | _, _, b, .cons (d := d) (ds := ds) h r, e => by
    simp only [kdAny] at e
    cases w : kdC d with
    | none => simp only [w] at e; cases e
    | some q =>
      cases w2 : kdAny k ds with
      | none => simp only [w, w2] at e; cases e
      | some b2 =>
        simp only [w, w2] at e
        cases e
        obtain ⟨u, c1, c2⟩ := h.clsOf w
        obtain ⟨us, p1, p2⟩ := kdAny_ok ok hk r w2
        refine ⟨u :: us, .cons c1 p1, kitAny_cons (ok.kit k q t u hk c2) (fun z => by rw [z]; exact p2) fun z => by rw [z]; rfl⟩
theorem isi_ok (ok : TbOk T) : VA2 T (fun x y H Q => rIsi T.K [x, y] H Q ∨ rIsiT T.K [x, y] H Q) isiV := by
  intro x y d1 d2 d Hx Hy H Q s1 s2 r1 r2 e k
  unfold isiV at e
  cases w : kdV d1 with
  | none => rw [w] at e; cases e
  | some kk =>
    rw [w] at e
    dsimp only at e
    obtain ⟨t, ty, kt⟩ := r1.kind ok s1 w
    cases r2 with
    | tup h z r =>
      rename_i a xs ds
      dsimp only at e
      cases w2 : kdAny kk ds with
      | none => rw [w2] at e; cases e
      | some b =>
        rw [w2] at e
        cases e
        obtain ⟨us, p1, p2⟩ := kdAny_ok ok kt r w2
        exact .inr ⟨x, a, xs, t, us, b, rfl, s2 _ _ h, p1, ty, p2, k _ fun Hs => .bl _⟩
    | ty n =>
      dsimp only at e
      cases w2 : kdC (.ty n) with
      | none => rw [w2] at e; cases e
      | some q =>
        rw [w2] at e
        cases e
        obtain ⟨u, c1, c2⟩ := (RepV.ty (T := T) (Hs := Hy) n).clsOf w2
        exact .inl ⟨x, _, t, u, _, rfl, c1, ty, ok.kit kk q t u kt c2, k _ fun Hs => .bl _⟩
    | cls c =>
      rename_i cid C
      cases e
      exact .inl ⟨x, _, t, .ref C, _, rfl, .own C, ty, ok.kit kk (.cls cid) t _ kt ⟨C, c, rfl⟩, k _ fun Hs => .bl _⟩
    | _ => cases e
theorem len_ok : VA1 T (fun x H Q => (∃ y n, [x] = [y] ∧ LenV T.K y H n ∧ Q (.int n) H) ∨ ∃ a kvs, [x] = [V.ref a] ∧ Rd H a (.dK kvs) ∧ Q (.int kvs.length) H) lenV := by
  intro x d1 d Hx H Q s r e k
  cases r with
  | lst h z r =>
    rename_i a xs ds
    cases e
    have := k (.int (xs.length : Nat)) fun Hs => by rw [r.length]; exact .int _
    exact .inl ⟨_, xs.length, rfl, .inl ⟨xs, SqL.of (s _ _ h), rfl⟩, this⟩
  | tup h z r =>
    rename_i a xs ds
    cases e
    have := k (.int (xs.length : Nat)) fun Hs => by rw [r.length]; exact .int _
    exact .inl ⟨_, xs.length, rfl, .inr ⟨xs, SqT.of (s _ _ h), rfl⟩, this⟩
  | str t ht =>
    cases e
    refine .inl ⟨_, (tx t).length, rfl, ⟨by rw [tx_len]; exact ht.1, rfl⟩, ?_⟩
    rw [tx_len]
    exact k _ fun Hs => .int _
  | dct h z r =>
    rename_i a ks ds
    cases e
    refine .inr ⟨a, ks, rfl, SameR s h, ?_⟩
    rw [r.length]
    exact k _ fun Hs => .int _
  | scr h z =>
    rename_i a ns
    cases e
    refine .inl ⟨_, (ns.map V.int).length, rfl, .inl ⟨_, s.seq h, rfl⟩, ?_⟩
    rw [List.length_map]
    exact k _ fun Hs => .int _
  | _ => cases e
theorem int_ok : VA1 T (fun x H Q => (∃ i, [x] = [V.int i] ∧ Q (.int i) H) ∨ ∃ k, [x] = [V.bl k] ∧ Q (.int (if k then 1 else 0)) H) intV := by
  intro x d1 d Hx H Q s r e k
  cases r with
  | int i => cases e; exact .inl ⟨i, rfl, k _ fun Hs => .int _⟩
  | bl b => cases e; exact .inr ⟨b, rfl, k _ fun Hs => .int _⟩
  | _ => cases e
theorem RepVs.ints (ns : List Int) : RepVs T Hs (ns.map V.int) (ns.map PV.int) := by
  induction ns with
  | nil => exact .nil
  | cons n ns ih => exact .cons (.int n) ih
theorem list_ok : VG1 T (fun x H Q => ∃ p ys, [x] = [V.ref p] ∧ (SqL T.K H p ys ∨ SqT T.K H p ys) ∧ ∀ l, H l = none → Q (.ref l) (upd H l (.lst ys))) listV := by
  intro x d1 d Hs H Q s r e k
  have fin : ∀ {xs : List V} {ds : List PV} {l : Addr}, RepVs T Hs xs ds → ds.length ≤ sizeLine → H l = none → (∀ v Hs' H', Grow Hs H Hs' H' → RepV T Hs' v (.lst ds) → Q v H') → Q (.ref l) (upd H l (.lst xs)) := fun {xs ds l} r z hl k =>
    k _ _ _ (Grow.one hl) (.lst upd_same z (r.mono ((Grow.one (o := .lst xs) hl).same s).1))
  cases r with
  | lst h z r => cases e; exact ⟨_, _, rfl, .inl (SqL.of (s _ _ h)), fun l hl => fin r z hl k⟩
  | tup h z r => cases e; exact ⟨_, _, rfl, .inr (SqT.of (s _ _ h)), fun l hl => fin r z hl k⟩
  | scr h z => cases e; exact ⟨_, _, rfl, .inl (s.seq h), fun l hl => fin (RepVs.ints _) (by rw [List.length_map]; exact z) hl k⟩
  | _ => cases e
theorem tuple_ok : VG1 T (fun x H Q => ∃ p ys, [x] = [V.ref p] ∧ ((SqL T.K H p ys ∧ ∀ l, H l = none → Q (.ref l) (upd H l (.tup ys))) ∨ (SqT T.K H p ys ∧ Q (.ref p) H))) tupleV := by
  intro x d1 d Hs H Q s r e k
  cases r with
  | lst h z r =>
    rename_i a xs ds
    cases e
    exact ⟨_, _, rfl, .inl ⟨SqL.of (s _ _ h), fun l hl => k _ _ _ (Grow.one hl) (.tup upd_same z (r.mono ((Grow.one (o := .tup xs) hl).same s).1))⟩⟩
  | tup h z r => cases e; exact ⟨_, _, rfl, .inr ⟨SqT.of (s _ _ h), k _ _ _ .refl (.tup h z r)⟩⟩
  | _ => cases e
/-! ### any, all -/
theorem plain_flat : ∀ {ds : List PV}, dataPs 0 ds = true → PyData.plainAll (toDs ds) = true
  | [], _ => rfl
  | d :: ds, h => by
    simp only [dataPs, Bool.and_eq_true] at h
    simp only [toDs, PyData.plainAll, Bool.and_eq_true]
    exact ⟨by cases d <;> first | rfl | (simp [dataP] at h), plain_flat h.2⟩
theorem fits_flat : ∀ {vs : List V} {ds : List PV}, RepVs T Hs vs ds → dataPs 0 ds = true → ∀ x ∈ toDs ds, x.fits63
  | _, _, .nil, _ => fun x h => by simp [toDs] at h
  | _, _, .cons h r, e => by
    simp only [dataPs, Bool.and_eq_true] at e
    intro x hx
    simp only [toDs, List.mem_cons] at hx
    rcases hx with rfl | hx
    · cases h with
      | str s hs =>
        show (((tx s).length : Nat) : Int) < 2 ^ 63
        rw [tx_len]
        have := hs.1
        rw [sizeLine_eq] at this
        omega
      | non => trivial
      | bl b => trivial
      | int i => trivial
      | _ => simp [dataP] at e
    · exact fits_flat r e.2 x hx
theorem truthy_flat {d : PV} (h : dataP 0 d = true) : (toD d).truthy = trA d := by
  cases d <;> first | rfl | (simp [dataP] at h) | skip
  rename_i s
  show PyData.truthy (.str (tx s)) = _
  simp only [PyData.truthy, trA, tx_len]
  all_goals (cases s <;> rfl)
theorem any_flat : ∀ {ds : List PV}, dataPs 0 ds = true → (toDs ds).any PyData.truthy = ds.any trA
  | [], _ => rfl
  | d :: ds, h => by
    simp only [dataPs, Bool.and_eq_true] at h
    simp only [toDs, List.any_cons, truthy_flat h.1, any_flat h.2]
theorem all_flat : ∀ {ds : List PV}, dataPs 0 ds = true → (toDs ds).all PyData.truthy = ds.all trA
  | [], _ => rfl
  | d :: ds, h => by
    simp only [dataPs, Bool.and_eq_true] at h
    simp only [toDs, List.all_cons, truthy_flat h.1, all_flat h.2]
/-- one argument, by trees; nothing is told of the heap but that it stands -/
def rA1 (T : Tb) (g : PV → Option PV) : List V → Hp → VK → Prop := fun vs H Q => ∃ x Hx d1 d, vs = [x] ∧ Same Hx H ∧ RepV T Hx x d1 ∧ g d1 = some d ∧ ∀ v, (∀ Hs, RepV T Hs v d) → Q v H
theorem va_rA1 (g : PV → Option PV) : VA1 T (fun x H Q => rA1 T g [x] H Q) g := fun x d1 d Hx H Q s r e k => ⟨x, Hx, d1, d, rfl, s, r, e, k⟩
theorem call_any (hc : X.calm = true) (hK : T.K = X.K) : CallR X (.builtin "any") (rA1 T anyV) := by
  intro pins s σ H vs us Q I r h
  obtain ⟨x, Hx, d1, d, rfl, sb, rx, e, k⟩ := h
  obtain ⟨u, rfl, ru⟩ := vals1 r
  cases rx with
  | lst h z rr =>
    rename_i a xs ds
    simp only [anyV] at e
    by_cases hd : dataPs 0 ds = true
    · rw [if_pos hd] at e
      cases e
      cases ru
      obtain ⟨its, rv, hl, _⟩ := I.list (SqL.of (sb _ _ h))
      obtain ⟨as, hr⟩ := Dp.readsAll I _ xs its (hK ▸ rr.dp sb hd) rv
      refine PySem.W.any_list_data (I.ok.hd hc) hl.isList hr (plain_flat hd) (fits_flat rr hd) fun h' tk hk => ?_
      rw [any_flat hd]
      exact ⟨.bl _, H, I.kept hk, rfl, k _ fun Hs => .bl _⟩
    · rw [if_neg hd] at e; cases e
  | tup h z rr =>
    rename_i a xs ds
    simp only [anyV] at e
    by_cases hd : dataPs 0 ds = true
    · rw [if_pos hd] at e
      cases e
      cases ru
      obtain ⟨its, rv, hl, _⟩ := I.tuple (SqT.of (sb _ _ h))
      obtain ⟨as, hr⟩ := Dp.readsAll I _ xs its (hK ▸ rr.dp sb hd) rv
      refine PySem.W.any_tuple_data (I.ok.hd hc) hl hr (plain_flat hd) (fits_flat rr hd) fun h' tk hk => ?_
      rw [any_flat hd]
      exact ⟨.bl _, H, I.kept hk, rfl, k _ fun Hs => .bl _⟩
    · rw [if_neg hd] at e; cases e
  | _ => cases e
theorem call_all (hc : X.calm = true) (hK : T.K = X.K) : CallR X (.builtin "all") (rA1 T allV) := by
  intro pins s σ H vs us Q I r h
  obtain ⟨x, Hx, d1, d, rfl, sb, rx, e, k⟩ := h
  obtain ⟨u, rfl, ru⟩ := vals1 r
  cases rx with
  | lst h z rr =>
    rename_i a xs ds
    simp only [allV] at e
    by_cases hd : dataPs 0 ds = true
    · rw [if_pos hd] at e
      cases e
      cases ru
      obtain ⟨its, rv, hl, _⟩ := I.list (SqL.of (sb _ _ h))
      obtain ⟨as, hr⟩ := Dp.readsAll I _ xs its (hK ▸ rr.dp sb hd) rv
      refine PySem.W.all_list_data (I.ok.hd hc) hl.isList hr (plain_flat hd) (fits_flat rr hd) fun h' tk hk => ?_
      rw [all_flat hd]
      exact ⟨.bl _, H, I.kept hk, rfl, k _ fun Hs => .bl _⟩
    · rw [if_neg hd] at e; cases e
  | tup h z rr =>
    rename_i a xs ds
    simp only [allV] at e
    by_cases hd : dataPs 0 ds = true
    · rw [if_pos hd] at e
      cases e
      cases ru
      obtain ⟨its, rv, hl, _⟩ := I.tuple (SqT.of (sb _ _ h))
      obtain ⟨as, hr⟩ := Dp.readsAll I _ xs its (hK ▸ rr.dp sb hd) rv
      refine PySem.W.all_tuple_data (I.ok.hd hc) hl hr (plain_flat hd) (fits_flat rr hd) fun h' tk hk => ?_
      rw [all_flat hd]
      exact ⟨.bl _, H, I.kept hk, rfl, k _ fun Hs => .bl _⟩
    · rw [if_neg hd] at e; cases e
  | _ => cases e
end
end HV

end

section
/-! V4: the heap of changing objects against the hand layer's heap; freezing, locks. -/
namespace HV
open PySem PySem.Spec PyProof.Rows L2
structure Wd where
  T : Tb
  fld : Nat → Nat
  E : XK
section
variable {α β γ : Type}
theorem Paired.get {F : α → β → Prop} : ∀ {xs : List α} {ys : List β} {k : Nat} {y : β}, Paired F xs ys → ys[k]? = some y → ∃ x, xs[k]? = some x ∧ F x y
  | _, _, k, y, .nil, h => by simp at h
  | _, _, 0, y, .cons r _, h => by simp at h; subst h; exact ⟨_, rfl, r⟩
  | _, _, k + 1, y, .cons _ t, h => by
    obtain ⟨x, h1, h2⟩ := Paired.get (k := k) (y := y) t (by simpa using h)
    exact ⟨x, by simpa using h1, h2⟩
theorem Paired.getL {F : α → β → Prop} : ∀ {xs : List α} {ys : List β} {k : Nat} {x : α}, Paired F xs ys → xs[k]? = some x → ∃ y, ys[k]? = some y ∧ F x y
  | _, _, k, y, .nil, h => by simp at h
  | _, _, 0, y, .cons r _, h => by simp at h; subst h; exact ⟨_, rfl, r⟩
  | _, _, k + 1, y, .cons _ t, h => by
    obtain ⟨x, h1, h2⟩ := Paired.getL (k := k) (x := y) t (by simpa using h)
    exact ⟨x, by simpa using h1, h2⟩
theorem Paired.append {F : α → β → Prop} : ∀ {xs xs' : List α} {ys ys' : List β}, Paired F xs ys → Paired F xs' ys' → Paired F (xs ++ xs') (ys ++ ys')
  | _, _, _, _, .nil, s => s
  | _, _, _, _, .cons r t, s => .cons r (Paired.append t s)
theorem Paired.set {F : α → β → Prop} {x : α} {y : β} (r : F x y) : ∀ {xs : List α} {ys : List β} (i : Nat), Paired F xs ys → Paired F (xs.set i x) (ys.set i y)
  | _, _, _, .nil => .nil
  | _, _, 0, .cons _ t => .cons r t
  | _, _, i + 1, .cons q t => .cons q (Paired.set r i t)
theorem Paired.erase {F : α → β → Prop} : ∀ {xs : List α} {ys : List β} (i : Nat), Paired F xs ys → Paired F (xs.eraseIdx i) (ys.eraseIdx i)
  | _, _, _, .nil => .nil
  | _, _, 0, .cons _ t => t
  | _, _, i + 1, .cons q t => .cons q (Paired.erase i t)
theorem Paired.dropLast {F : α → β → Prop} : ∀ {xs : List α} {ys : List β}, Paired F xs ys → Paired F xs.dropLast ys.dropLast
  | _, _, .nil => .nil
  | _, _, .cons _ .nil => .nil
  | _, _, .cons q (.cons r t) => .cons q (Paired.dropLast (.cons r t))
theorem Paired.imp {F G : α → β → Prop} : ∀ {xs : List α} {ys : List β}, Paired F xs ys → (∀ a b, F a b → G a b) → Paired G xs ys
  | _, _, .nil, _ => .nil
  | _, _, .cons r t, f => .cons (f _ _ r) (Paired.imp t f)
theorem Paired.mem {F : α → β → Prop} : ∀ {xs : List α} {ys : List β}, Paired F xs ys → ∀ y ∈ ys, ∃ x ∈ xs, F x y
  | _, _, .nil, _, h => by simp at h
  | _, _, .cons r t, y, h => by
    rcases List.mem_cons.mp h with rfl | h
    · exact ⟨_, by simp, r⟩
    · obtain ⟨x, h1, h2⟩ := Paired.mem t y h
      exact ⟨x, by simp [h1], h2⟩
end
/-- what a value stands for -/
def VlR (T : Tb) (Hs : Hp) (ρ : List Addr) (v : V) : Vl → Prop
  | .fz d => RepV T Hs v d
  | .rf n => ∃ a, ρ[n]? = some a ∧ v = .ref a
abbrev VlsR (T : Tb) (Hs : Hp) (ρ : List Addr) : List V → List Vl → Prop := Paired (VlR T Hs ρ)
def KvR (T : Tb) (Hs : Hp) (ρ : List Addr) (p : Key × V) (q : PV × Vl) : Prop := KeyR p.1 q.1 ∧ VlR T Hs ρ p.2 q.2
def FdR (T : Tb) (Hs : Hp) (ρ : List Addr) (p : Str × V) (q : Nat × Vl) : Prop := p.1 = nmS q.1 ∧ VlR T Hs ρ p.2 q.2
/-- what a changing object stands for -/
def MOR (T : Tb) (Hs H : Hp) (ρ : List Addr) (a : Addr) : MO → Prop
  | .lst xs => ∃ vs, H a = some (.lst vs) ∧ xs.length ≤ sizeLine ∧ VlsR T Hs ρ vs xs
  | .dct kvs => ∃ ks, H a = some (.dK ks) ∧ kvs.length ≤ sizeLine ∧ Paired (KvR T Hs ρ) ks kvs
  | .ins c fs => ∃ C dx gs, H a = some (.ins C dx gs) ∧ T.cls c = some C ∧ (fs.map (·.1)).Nodup ∧ Paired (FdR T Hs ρ) gs fs
structure Sy (T : Tb) (Hs H : Hp) (ρ : List Addr) (h : Hm) : Prop where
  sub : Same Hs H
  len : ρ.length = h.length
  inj : ∀ (i j : Nat) a o u, h[i]? = some (some o) → h[j]? = some (some u) → ρ[i]? = some a → ρ[j]? = some a → i = j
  ob : ∀ (n : Nat) o a, h[n]? = some (some o) → ρ[n]? = some a → Hs a = none ∧ MOR T Hs H ρ a o
  tb : LamX.Tabs T.tabs H
  nt : ∀ a q, Hs a ≠ some (.tbl q)
/-- the addresses of what changes -/
def Im (ρ : List Addr) (h : Hm) (a : Addr) : Prop := ∃ (n : Nat) (o : MO), h[n]? = some (some o) ∧ ρ[n]? = some a
def Pre (ρ ρ' : List Addr) : Prop := ∀ (n : Nat) (a : Addr), ρ[n]? = some a → ρ'[n]? = some a
def EnvR (T : Tb) (Hs : Hp) (ρ : List Addr) (σ : L2.St) (env : Env) : Prop := env.length = σ.length ∧ ∀ (i : Nat) v, env[i]? = some (some v) → ∃ u, σ[i]? = some (some u) ∧ VlR T Hs ρ u v
/-- what an exception of the class c with the things ps is -/
def XR (T : Tb) (Hs H : Hp) (fld : Nat → Nat) (c : Nat) (ps : List PV) (C : Addr) (d : Option Addr) : Prop :=
  T.xcl c = some C ∧ ((ps = [] ∧ d = none) ∨ ∃ p dd v, ps = [p] ∧ d = some dd ∧ H dd = some (.xd [(nmS (fld c), v)]) ∧ RepV T Hs v p)
abbrev TrH (Hs H : Hp) (ρ : List Addr) (h : Hm) (Hs' H' : Hp) (ρ' : List Addr) (h' : Hm) : Prop := Tr Hs H (Im ρ h) Hs' H' (Im ρ' h')
/-- an outcome is as wanted -/
def Post {α : Type} (D : Wd) (Q : Hp → Hp → List Addr → α → Prop) (Hs H : Hp) (ρ : List Addr) (h : Hm) : R α → Prop
  | .ok a h' => ∀ H' Hs' ρ', TrH Hs H ρ h Hs' H' ρ' h' → Pre ρ ρ' → Sy D.T Hs' H' ρ' h' → Q Hs' H' ρ' a
  | .exc c ps h' => ∀ H' Hs' ρ' C d, TrH Hs H ρ h Hs' H' ρ' h' → Pre ρ ρ' → Sy D.T Hs' H' ρ' h' → XR D.T Hs' H' D.fld c ps C d → D.E (.ref C) d H'
  | .stuck => False
section
variable {D : Wd} {T : Tb} {Hs H Hs' H' Hs2 H2 : Hp} {ρ ρ' : List Addr} {h h' : Hm} {σ : L2.St} {env : Env} {α β : Type}
theorem Pre.refl : Pre ρ ρ := fun _ _ h => h
theorem Pre.trans {ρ2 : List Addr} (a : Pre ρ ρ') (b : Pre ρ' ρ2) : Pre ρ ρ2 := fun n x h => b n x (a n x h)
theorem Pre.app {ρ2 : List Addr} : Pre ρ (ρ ++ ρ2) := fun n a e => by
  rw [List.getElem?_append_left (List.getElem?_eq_some_iff.mp e).1]; exact e
theorem VlR.mono {v : V} {x : Vl} (e : Same Hs Hs') (p : Pre ρ ρ') (r : VlR T Hs ρ v x) : VlR T Hs' ρ' v x := by
  cases x with
  | fz d => exact RepV.mono e r
  | rf n => obtain ⟨a, h1, h2⟩ := r; exact ⟨a, p n a h1, h2⟩
theorem VlsR.mono {v : List V} {x : List Vl} (e : Same Hs Hs') (p : Pre ρ ρ') (r : VlsR T Hs ρ v x) : VlsR T Hs' ρ' v x := Paired.imp r fun _ _ h => h.mono e p
theorem EnvR.mono (e : Same Hs Hs') (p : Pre ρ ρ') (r : EnvR T Hs ρ σ env) : EnvR T Hs' ρ' σ env := ⟨r.1, fun i v h => by
  obtain ⟨u, h1, h2⟩ := r.2 i v h
  exact ⟨u, h1, h2.mono e p⟩⟩
theorem MOR.move {a : Addr} {o : MO} (e : Same Hs Hs') (p : Pre ρ ρ') (k : ∀ u, H a = some u → H' a = some u) (r : MOR T Hs H ρ a o) : MOR T Hs' H' ρ' a o := by
  cases o with
  | lst xs => obtain ⟨vs, h1, h2, h3⟩ := r; exact ⟨vs, k _ h1, h2, VlsR.mono e p h3⟩
  | dct kvs => obtain ⟨vs, h1, h2, h3⟩ := r; exact ⟨vs, k _ h1, h2, Paired.imp h3 fun _ _ h => ⟨h.1, h.2.mono e p⟩⟩
  | ins c fs => obtain ⟨C, dx, gs, h1, h2, h3, h4⟩ := r; exact ⟨C, dx, gs, k _ h1, h2, h3, Paired.imp h4 fun _ _ h => ⟨h.1, h.2.mono e p⟩⟩
theorem MOR.some {a : Addr} {o : MO} (r : MOR T Hs H ρ a o) : ∃ u, H a = some u ∧ Mut (some u) := by
  cases o with
  | lst xs => obtain ⟨vs, h1, _⟩ := r; exact ⟨_, h1, trivial⟩
  | dct kvs => obtain ⟨vs, h1, _⟩ := r; exact ⟨_, h1, trivial⟩
  | ins c fs => obtain ⟨C, dx, gs, h1, _⟩ := r; exact ⟨_, h1, trivial⟩
theorem Sy.im (sy : Sy T Hs H ρ h) {a : Addr} (m : Im ρ h a) : Hs a = none ∧ H a ≠ none := by
  obtain ⟨n, o, h1, h2⟩ := m
  obtain ⟨k1, k2⟩ := sy.ob n o a h1 h2
  obtain ⟨u, k3, _⟩ := k2.some
  exact ⟨k1, by rw [k3]; simp⟩
theorem Sy.at (sy : Sy T Hs H ρ h) {n : Nat} {o : MO} (e : h[n]? = some (some o)) : ∃ a, ρ[n]? = some a ∧ Hs a = none ∧ MOR T Hs H ρ a o := by
  have hl : n < ρ.length := by rw [sy.len]; exact (List.getElem?_eq_some_iff.mp e).1
  exact ⟨ρ[n], List.getElem?_eq_getElem hl, sy.ob n o _ e (List.getElem?_eq_getElem hl)⟩
theorem get_set {α : Type} {l : List (Option α)} {i j : Nat} {o : Option α} {u : α} (e : (l.set i o)[j]? = some (some u)) : (j = i ∧ o = some u ∧ i < l.length) ∨ (j ≠ i ∧ l[j]? = some (some u)) := by
  by_cases hj : j = i
  · subst hj
    have hl := (List.getElem?_eq_some_iff.mp e).1
    rw [List.length_set] at hl
    rw [List.getElem?_set_self hl] at e
    exact .inl ⟨rfl, Option.some.inj e, hl⟩
  · rw [List.getElem?_set_ne (Ne.symm hj)] at e
    exact .inr ⟨hj, e⟩
/-! ### two in a row -/
theorem Post.bind {R : Hp → Hp → List Addr → α → Prop} {S : Hp → Hp → List Addr → β → Prop} {o : HV.R α} {f : α → Hm → HV.R β}
    (p : Post D S Hs H ρ h (o.bind f)) (k : ∀ a h' H' Hs' ρ', TrH Hs H ρ h Hs' H' ρ' h' → Pre ρ ρ' → Sy D.T Hs' H' ρ' h' → Post D S Hs' H' ρ' h' (f a h') → R Hs' H' ρ' a) :
    Post D R Hs H ρ h o := by
  cases o with
  | stuck => exact p
  | exc c ps e => exact p
  | ok a e =>
    intro H' Hs' ρ' t pr sy
    refine k a e H' Hs' ρ' t pr sy ?_
    have p' : Post D S Hs H ρ h (f a e) := p
    cases q : f a e with
    | stuck => rw [q] at p'; exact p'
    | exc c ps e2 =>
      rw [q] at p'
      intro H2 Hs2 ρ2 C d t2 pr2 sy2 x
      exact p' H2 Hs2 ρ2 C d (t.trans t2) (pr.trans pr2) sy2 x
    | ok b e2 =>
      rw [q] at p'
      intro H2 Hs2 ρ2 t2 pr2 sy2
      exact p' H2 Hs2 ρ2 (t.trans t2) (pr.trans pr2) sy2
theorem Post.imp {R S : Hp → Hp → List Addr → α → Prop} {o : HV.R α} (p : Post D R Hs H ρ h o) (k : ∀ a h' H' Hs' ρ', TrH Hs H ρ h Hs' H' ρ' h' → Pre ρ ρ' → Sy D.T Hs' H' ρ' h' → R Hs' H' ρ' a → S Hs' H' ρ' a) : Post D S Hs H ρ h o := by
  cases o with
  | stuck => exact p
  | exc c ps e => exact p
  | ok a e => exact fun H' Hs' ρ' t pr sy => k a e H' Hs' ρ' t pr sy (p H' Hs' ρ' t pr sy)
theorem Post.back {R : Hp → Hp → List Addr → α → Prop} {o : HV.R α} (t : TrH Hs H ρ h Hs' H' ρ' h') (pr : Pre ρ ρ') (p : Post D R Hs H ρ h o) : Post D R Hs' H' ρ' h' o := by
  cases o with
  | stuck => exact p
  | exc c ps e => exact fun H2 Hs2 ρ2 C d t2 pr2 sy2 x => p H2 Hs2 ρ2 C d (t.trans t2) (pr.trans pr2) sy2 x
  | ok a e => exact fun H2 Hs2 ρ2 t2 pr2 sy => p H2 Hs2 ρ2 (t.trans t2) (pr.trans pr2) sy
/-! ### tables of code objects -/
def NoTab (H : Hp) (a : Addr) : Prop := ∀ u, H a = some u → (∀ q, u ≠ .tbl q) ∧ ∀ c q, u ≠ LamX.CodeO c q
theorem NoTab.none {a : Addr} (h : H a = none) : NoTab H a := fun u e => by rw [h] at e; cases e
theorem NoTab.lst {a : Addr} {xs : List V} (h : H a = some (.lst xs)) : NoTab H a := fun u e => by
  rw [h] at e
  cases e
  refine ⟨fun q z => ?_, fun c q z => ?_⟩
  · cases z
  · unfold LamX.CodeO at z; cases z
theorem NoTab.dK {a : Addr} {xs : List (Key × V)} (h : H a = some (.dK xs)) : NoTab H a := fun u e => by
  rw [h] at e
  cases e
  refine ⟨fun q z => ?_, fun c q z => ?_⟩
  · cases z
  · unfold LamX.CodeO at z; cases z
theorem NoTab.frz {a : Addr} {o : Obj} {x : HO} (h : H a = some (.frz o x)) : NoTab H a := fun u e => by
  rw [h] at e
  cases e
  refine ⟨fun q z => ?_, fun c q z => ?_⟩
  · cases z
  · unfold LamX.CodeO at z; cases z
theorem NoTab.ins {a C dx : Addr} {xs : List (Str × V)} (h : H a = some (.ins C dx xs)) : NoTab H a := fun u e => by
  rw [h] at e
  cases e
  refine ⟨fun q z => ?_, fun c q z => ?_⟩
  · cases z
  · unfold LamX.CodeO at z; cases z
theorem MOR.noTab {a : Addr} {o : MO} (r : MOR T Hs H ρ a o) : NoTab H a := by
  cases o with
  | lst xs => obtain ⟨vs, h1, _⟩ := r; exact .lst h1
  | dct kvs => obtain ⟨vs, h1, _⟩ := r; exact .dK h1
  | ins c fs => obtain ⟨C, dx, gs, h1, _⟩ := r; exact .ins h1
theorem mor_at {a : Addr} {o : MO} {u : HO} (r : MOR T Hs H ρ a o) (e : H a = some u) : H a = some u ∧ ∀ q, u ≠ .tbl q := ⟨e, (r.noTab u e).1⟩
theorem tabs_upd {L : List (Addr × Str)} {a : Addr} {o : HO} (n : NoTab H a) (t : LamX.Tabs L H) : LamX.Tabs L (upd H a o) := fun p hp => by
  obtain ⟨ps, h1, h2, h3⟩ := t p hp
  refine ⟨ps, by rw [upd_ne (fun e => (n _ (by rw [← e]; exact h1)).1 _ rfl)]; exact h1, h2, fun pos cv hc => ?_⟩
  obtain ⟨c, e1, e2⟩ := h3 pos cv hc
  exact ⟨c, e1, by rw [upd_ne (fun e => (n _ (by rw [← e]; exact e2)).2 _ _ rfl)]; exact e2⟩
/-! ### the heap's steps -/
/-- a new object that stays -/
theorem nt_upd {p : Addr} {o : HO} (n : ∀ a q, Hs a ≠ some (.tbl q)) (no : ∀ q, o ≠ HO.tbl q) : ∀ a q, upd Hs p o a ≠ some (.tbl q) := fun a q z => by
  by_cases e : a = p
  · subst e; rw [upd_same] at z; cases z; exact no _ rfl
  · rw [upd_ne e] at z; exact n a q z
theorem Sy.alloc (sy : Sy T Hs H ρ h) {p : Addr} {o : HO} (hp : H p = none) (no : ∀ q, o ≠ HO.tbl q := by intro q z; cases z) : Sy T (upd Hs p o) (upd H p o) ρ h ∧ TrH Hs H ρ h (upd Hs p o) (upd H p o) ρ h := by
  have hs : Hs p = none := sy.sub.free hp
  have sb : Same Hs (upd Hs p o) := fun a u q => by rw [upd_ne (ne_of_none q hs)]; exact q
  have sh : Same H (upd H p o) := fun a u q => by rw [upd_ne (ne_of_none q hp)]; exact q
  refine ⟨⟨fun a u q => ?_, sy.len, sy.inj, fun n u a q w => ?_, tabs_upd (.none hp) sy.tb, nt_upd sy.nt no⟩, ⟨sb, fun a u q _ _ _ => sh a u q, fun a q => ?_, fun a u q => ?_, fun a q => .inl q⟩⟩
  · by_cases e : a = p
    · subst e; rw [upd_same] at q ⊢; exact q
    · rw [upd_ne e] at q ⊢; exact sy.sub a u q
  · obtain ⟨k1, k2⟩ := sy.ob n u a q w
    have ne : a ≠ p := fun e => (sy.im ⟨n, u, q, w⟩).2 (by rw [e]; exact hp)
    exact ⟨by rw [upd_ne ne]; exact k1, k2.move sb Pre.refl (fun u z => sh a u z)⟩
  · by_cases e : a = p
    · subst e; exact nu_none hp
    · have q : nuB (upd H p o a) := q
      rw [upd_ne e] at q; exact q
  · by_cases e : a = p
    · subst e; exact .inr ⟨hs, .inr (nu_none hp)⟩
    · rw [upd_ne e] at q; exact .inl q
theorem Sy.grow (sy : Sy T Hs H ρ h) (g : Grow Hs H Hs' H') : Sy T Hs' H' ρ h ∧ TrH Hs H ρ h Hs' H' ρ h := by
  induction g with
  | refl => exact ⟨sy, Tr.refl⟩
  | new _ hp no ih =>
    obtain ⟨s1, t1⟩ := ih
    obtain ⟨s2, t2⟩ := s1.alloc hp no
    exact ⟨s2, t1.trans t2⟩
/-- an object that is nobody's is laid or written -/
theorem Sy.other (sy : Sy T Hs H ρ h) {a : Addr} {o : HO} (nt : NoTab H a) (hs : Hs a = none) (hi : ¬ Im ρ h a) : Sy T Hs (upd H a o) ρ h := by
  refine ⟨fun b u q => by rw [upd_ne (ne_of_none q hs)]; exact sy.sub b u q, sy.len, sy.inj, fun n u b q w => ?_, tabs_upd nt sy.tb, sy.nt⟩
  obtain ⟨k1, k2⟩ := sy.ob n u b q w
  have ne : b ≠ a := fun e => hi ⟨n, u, q, by rw [← e]; exact w⟩
  exact ⟨k1, k2.move (Same.refl _) Pre.refl fun u z => by rw [upd_ne ne]; exact z⟩
/-- .. is told: it stays from now on -/
theorem Sy.tell (sy : Sy T Hs H ρ h) {a : Addr} {o : HO} (ha : H a = some o) (hs : Hs a = none) (hi : ¬ Im ρ h a) (no : ∀ q, o ≠ HO.tbl q := by intro q z; cases z) : Sy T (upd Hs a o) H ρ h := by
  refine ⟨fun b u q => ?_, sy.len, sy.inj, fun n u b q w => ?_, sy.tb, nt_upd sy.nt no⟩
  · by_cases e : b = a
    · subst e; rw [upd_same] at q; cases q; exact ha
    · rw [upd_ne e] at q; exact sy.sub b u q
  · obtain ⟨k1, k2⟩ := sy.ob n u b q w
    have ne : b ≠ a := fun e => hi ⟨n, u, q, by rw [← e]; exact w⟩
    exact ⟨by rw [upd_ne ne]; exact k1, k2.move (fun b u z => by rw [upd_ne (ne_of_none z hs)]; exact z) Pre.refl fun u z => z⟩
theorem im_app {a p : Addr} {o : Option MO} (hl : ρ.length = h.length) (m : Im (ρ ++ [p]) (h ++ [o]) a) : Im ρ h a ∨ (a = p ∧ ∃ u, o = some u) := by
  obtain ⟨n, u, h1, h2⟩ := m
  by_cases hn : n < h.length
  · rw [List.getElem?_append_left hn] at h1
    rw [List.getElem?_append_left (by omega)] at h2
    exact .inl ⟨n, u, h1, h2⟩
  · have hn2 : n = h.length := by
      have := (List.getElem?_eq_some_iff.mp h1).1
      rw [List.length_append] at this
      simp at this
      omega
    subst hn2
    rw [List.getElem?_append_right (Nat.le_refl _), Nat.sub_self] at h1
    rw [← hl, List.getElem?_append_right (Nat.le_refl _), Nat.sub_self] at h2
    simp at h1 h2
    exact .inr ⟨h2.symm, u, h1⟩
/-- .. becomes a changing object -/
theorem Sy.take_in (sy : Sy T Hs H ρ h) {p : Addr} {o : MO} (hs : Hs p = none) (hi : ¬ Im ρ h p) (m : MOR T Hs H (ρ ++ [p]) p o) : Sy T Hs H (ρ ++ [p]) (h ++ [some o]) := by
  have cs : ∀ (n : Nat) (u : MO) (a : Addr), (h ++ [some o])[n]? = some (some u) → (ρ ++ [p])[n]? = some a → (n < h.length ∧ h[n]? = some (some u) ∧ ρ[n]? = some a) ∨ (n = h.length ∧ u = o ∧ a = p) := fun n u a q w => by
    by_cases hn : n < h.length
    · rw [List.getElem?_append_left hn] at q
      rw [List.getElem?_append_left (by rw [sy.len]; exact hn)] at w
      exact .inl ⟨hn, q, w⟩
    · have hn2 : n = h.length := by
        have := (List.getElem?_eq_some_iff.mp q).1
        rw [List.length_append] at this
        simp at this
        omega
      subst hn2
      rw [List.getElem?_append_right (Nat.le_refl _), Nat.sub_self] at q
      rw [← sy.len, List.getElem?_append_right (Nat.le_refl _), Nat.sub_self] at w
      simp at q w
      exact .inr ⟨rfl, q.symm, w.symm⟩
  refine ⟨sy.sub, by rw [List.length_append, List.length_append, sy.len]; rfl, fun i j a u w q1 q2 w1 w2 => ?_, fun n u a q w => ?_, sy.tb, sy.nt⟩
  · rcases cs i u a q1 w1 with ⟨c1, c2, c3⟩ | ⟨c1, c2, c3⟩
    · rcases cs j w a q2 w2 with ⟨d1, d2, d3⟩ | ⟨d1, d2, d3⟩
      · exact sy.inj i j a u w c2 d2 c3 d3
      · subst d3; exact absurd ⟨i, u, c2, c3⟩ hi
    · rcases cs j w a q2 w2 with ⟨d1, d2, d3⟩ | ⟨d1, d2, d3⟩
      · subst c3; exact absurd ⟨j, w, d2, d3⟩ hi
      · omega
  · rcases cs n u a q w with ⟨c1, c2, c3⟩ | ⟨c1, c2, c3⟩
    · obtain ⟨k1, k2⟩ := sy.ob n u a c2 c3
      exact ⟨k1, k2.move (Same.refl _) Pre.app fun _ z => z⟩
    · subst c2; subst c3; exact ⟨hs, m⟩
theorem tr_new {O : Addr → Prop} {p : Addr} {o : HO} (hp : H p = none) : Tr Hs H O Hs (upd H p o) O :=
  ⟨Same.refl _, fun a u h _ _ _ => by rw [upd_ne (ne_of_none h hp)]; exact h, fun a h => by
    by_cases e : a = p
    · rw [e]; exact nu_none hp
    · have h : nuB (upd H p o a) := h
      rw [upd_ne e] at h; exact h, fun _ _ h => .inl h, fun _ h => .inl h⟩
theorem Sy.nobody (sy : Sy T Hs H ρ h) {p : Addr} (hp : H p = none) : Hs p = none ∧ ¬ Im ρ h p := ⟨sy.sub.free hp, fun m => (sy.im m).2 hp⟩
/-- a new object that may change -/
theorem Sy.new (sy : Sy T Hs H ρ h) {p : Addr} {u : HO} {o : MO} (hp : H p = none) (m : MOR T Hs (upd H p u) (ρ ++ [p]) p o) : Sy T Hs (upd H p u) (ρ ++ [p]) (h ++ [some o]) ∧ TrH Hs H ρ h Hs (upd H p u) (ρ ++ [p]) (h ++ [some o]) := by
  obtain ⟨n1, n2⟩ := sy.nobody hp
  refine ⟨(sy.other (.none hp) n1 n2).take_in n1 n2 m, ?_⟩
  have t := tr_new (Hs := Hs) (O := Im ρ h) (o := u) hp
  refine ⟨t.mono, t.keep, t.there, t.new, fun a z => ?_⟩
  rcases im_app sy.len z with z | ⟨rfl, _⟩
  · exact .inl z
  · exact .inr (nu_none hp)
theorem im_set {a : Addr} {n : Nat} {o : Option MO} (m : Im ρ (h.set n o) a) : Im ρ h a ∨ (ρ[n]? = some a ∧ n < h.length) := by
  obtain ⟨k, u, h1, h2⟩ := m
  rcases get_set h1 with ⟨rfl, _, hl⟩ | ⟨_, e⟩
  · exact .inr ⟨h2, hl⟩
  · exact .inl ⟨k, u, e, h2⟩
/-- a changing object is written -/
theorem Sy.write (sy : Sy T Hs H ρ h) {n : Nat} {a : Addr} {o o' : MO} {u : HO} (e : h[n]? = some (some o)) (ha : ρ[n]? = some a) (m : MOR T Hs (upd H a u) ρ a o') : Sy T Hs (upd H a u) ρ (h.set n (some o')) ∧ TrH Hs H ρ h Hs (upd H a u) ρ (h.set n (some o')) := by
  obtain ⟨k1, k2⟩ := sy.ob n o a e ha
  have hl := (List.getElem?_eq_some_iff.mp e).1
  refine ⟨⟨fun b w q => by rw [upd_ne (ne_of_none q k1)]; exact sy.sub b w q, by rw [List.length_set]; exact sy.len, fun i j b w z q1 q2 w1 w2 => ?_, fun i w b q w1 => ?_, tabs_upd k2.noTab sy.tb, sy.nt⟩, ⟨Same.refl _, fun b w q _ no _ => ?_, fun b q => ?_, fun _ _ q => .inl q, fun b q => ?_⟩⟩
  · have lv : ∀ (i : Nat) (w : MO), (h.set n (some o'))[i]? = some (some w) → ∃ w', h[i]? = some (some w') := fun i w q => by
      rcases get_set q with ⟨rfl, _, _⟩ | ⟨_, q⟩
      · exact ⟨o, e⟩
      · exact ⟨w, q⟩
    obtain ⟨w', q1'⟩ := lv i w q1
    obtain ⟨z', q2'⟩ := lv j z q2
    exact sy.inj i j b w' z' q1' q2' w1 w2
  · rcases get_set q with ⟨rfl, q, _⟩ | ⟨ne, q⟩
    · cases q
      rw [ha] at w1
      cases w1
      exact ⟨k1, m⟩
    · obtain ⟨c1, c2⟩ := sy.ob i w b q w1
      have nb : b ≠ a := fun z => ne (sy.inj i n b w o q e w1 (by rw [z]; exact ha))
      exact ⟨c1, c2.move (Same.refl _) Pre.refl fun u z => by rw [upd_ne nb]; exact z⟩
  · have nb : b ≠ a := fun z => no ⟨n, o, e, by rw [z]; exact ha⟩
    rw [upd_ne nb]; exact q
  · by_cases z : b = a
    · subst z; exact (nu_no (mor_at m upd_same).1 (mor_at m upd_same).2 q).elim
    · have q : nuB (upd H a u b) := q
      rw [upd_ne z] at q; exact q
  · rcases im_set q with z | ⟨z, _⟩
    · exact .inl z
    · exact .inl ⟨n, o, e, z⟩
/-- a changing object is not looked at for a while -/
theorem Sy.kill (sy : Sy T Hs H ρ h) (n : Nat) : Sy T Hs H ρ (h.set n none) := by
  have lv : ∀ (i : Nat) (w : MO), (h.set n none)[i]? = some (some w) → i ≠ n ∧ h[i]? = some (some w) := fun i w q => by
    rcases get_set q with ⟨_, z, _⟩ | ⟨ne, q⟩
    · cases z
    · exact ⟨ne, q⟩
  exact ⟨sy.sub, by rw [List.length_set]; exact sy.len, fun i j b w z q1 q2 w1 w2 => sy.inj i j b w z (lv i w q1).2 (lv j z q2).2 w1 w2, fun i w b q w1 => sy.ob i w b (lv i w q).2 w1, sy.tb, sy.nt⟩
theorem im_kill {n : Nat} {a : Addr} (m : Im ρ (h.set n none) a) : Im ρ h a := by
  obtain ⟨k, u, h1, h2⟩ := m
  rcases get_set h1 with ⟨_, z, _⟩ | ⟨_, e⟩
  · cases z
  · exact ⟨k, u, e, h2⟩
theorem Sy.nokill (sy : Sy T Hs H ρ h) {n : Nat} {a : Addr} {o : MO} (e : h[n]? = some (some o)) (ha : ρ[n]? = some a) : ¬ Im ρ (h.set n none) a := by
  rintro ⟨k, u, h1, h2⟩
  rcases get_set h1 with ⟨_, z, _⟩ | ⟨ne, q⟩
  · cases z
  · exact ne (sy.inj k n a u o q e h2 ha)
/-! ### freezing -/
/-- a freezing, shown: nothing in the heap is changed, the same is known of more -/
def FzOk (T : Tb) (H : Hp) (ρ : List Addr) (Hs : Hp) (h : Hm) (Hs' : Hp) (h' : Hm) : Prop := Sy T Hs' H ρ h' ∧ Tr Hs H (Im ρ h) Hs' H (Im ρ h')
theorem map_ok {α' : Type} {F : Hp → α' → α → Prop} {G : Hp → α' → β → Prop} (hG : ∀ Hs Hs' a b, Same Hs Hs' → G Hs a b → G Hs' a b) (hF : ∀ Hs Hs' a b, Same Hs Hs' → F Hs a b → F Hs' a b) {f : α → Hm → Option (β × Hm)}
    (hf : ∀ Hs h x v d h', Sy T Hs H ρ h → F Hs v x → f x h = some (d, h') → ∃ Hs', FzOk T H ρ Hs h Hs' h' ∧ G Hs' v d) :
    ∀ {Hs : Hp} {h : Hm} {xs : List α} {vs : List α'} {ds : List β} {h' : Hm}, Sy T Hs H ρ h → Paired (F Hs) vs xs → mapH f xs h = some (ds, h') → ∃ Hs', FzOk T H ρ Hs h Hs' h' ∧ Paired (G Hs') vs ds := by
  intro Hs h xs
  induction xs generalizing Hs h with
  | nil =>
    intro vs ds h' sy r e
    cases r
    cases e
    exact ⟨Hs, ⟨sy, Tr.refl⟩, .nil⟩
  | cons x xs ih =>
    intro vs ds h' sy r e
    cases r with
    | cons rx rr =>
      simp only [mapH] at e
      cases w : f x h with
      | none => rw [w] at e; cases e
      | some dh =>
        obtain ⟨d, h1⟩ := dh
        rw [w] at e
        dsimp only at e
        cases w2 : mapH f xs h1 with
        | none => rw [w2] at e; cases e
        | some dsh =>
          obtain ⟨ds', h2⟩ := dsh
          rw [w2] at e
          cases e
          obtain ⟨Hs1, ⟨s1, t1⟩, g1⟩ := hf Hs h x _ d h1 sy rx w
          obtain ⟨Hs2, ⟨s2, t2⟩, g2⟩ := ih s1 (Paired.imp rr fun a b z => hF _ _ _ _ t1.mono z) w2
          exact ⟨Hs2, ⟨s2, t1.trans t2⟩, .cons (hG _ _ _ _ t2.mono g1) g2⟩
theorem RepVs.ofP : ∀ {vs : List V} {ds : List PV}, Paired (RepV T Hs) vs ds → RepVs T Hs vs ds
  | _, _, .nil => .nil
  | _, _, .cons r t => .cons r (RepVs.ofP t)
theorem RepKs.ofP : ∀ {vs : List (Key × V)} {ds : List (PV × PV)}, Paired (fun (p : Key × V) (q : PV × PV) => KeyR p.1 q.1 ∧ RepV T Hs p.2 q.2) vs ds → RepKs T Hs vs ds
  | _, _, .nil => .nil
  | _, _, .cons (a := (k, x)) (b := (e, d)) r t => .cons r.1 r.2 (RepKs.ofP t)
theorem RepFs.ofP : ∀ {vs : List (Str × V)} {ds : List (Nat × PV)}, Paired (fun (p : Str × V) (q : Nat × PV) => p.1 = nmS q.1 ∧ RepV T Hs p.2 q.2) vs ds → RepFs T Hs vs ds
  | _, _, .nil => .nil
  | _, _, .cons (a := (k, x)) (b := (e, d)) r t => by
    obtain ⟨h1, h2⟩ := r
    dsimp only at h1
    subst h1
    exact .cons h2 (RepFs.ofP t)
theorem mapH_len {f : α → Hm → Option (β × Hm)} : ∀ {xs : List α} {h h' : Hm} {ds : List β}, mapH f xs h = some (ds, h') → ds.length = xs.length
  | [], h, h', ds, e => by cases e; rfl
  | x :: xs, h, h', ds, e => by
    simp only [mapH] at e
    cases w : f x h with
    | none => rw [w] at e; cases e
    | some dh =>
      obtain ⟨d, h1⟩ := dh
      rw [w] at e
      dsimp only at e
      cases w2 : mapH f xs h1 with
      | none => rw [w2] at e; cases e
      | some dsh =>
        obtain ⟨ds', h2⟩ := dsh
        rw [w2] at e
        cases e
        simp [mapH_len w2]
theorem frzV_ok : ∀ (k : Nat) {Hs : Hp} {h h' : Hm} {x : Vl} {v : V} {d : PV}, Sy T Hs H ρ h → VlR T Hs ρ v x → frzV k x h = some (d, h') → ∃ Hs', FzOk T H ρ Hs h Hs' h' ∧ RepV T Hs' v d
  | k, Hs, h, h', .fz d0, v, d, sy, r, e => by
    cases k <;> (cases e; exact ⟨Hs, ⟨sy, Tr.refl⟩, r⟩)
  | 0, Hs, h, h', .rf n, v, d, sy, r, e => by cases e
  | k + 1, Hs, h, h', .rf n, v, d, sy, r, e => by
    obtain ⟨a, ha, rfl⟩ := r
    have ih := fun (Hs : Hp) (h : Hm) (x : Vl) (v : V) (d : PV) (h' : Hm) (s : Sy T Hs H ρ h) (r : VlR T Hs ρ v x) (e : frzV k x h = some (d, h')) => frzV_ok k (h' := h') s r e
    simp only [frzV] at e
    have fin : ∀ {o : MO} {u : HO} {Hs1 : Hp} {h1 : Hm}, h[n]? = some (some o) → H a = some u → FzOk T H ρ Hs (h.set n none) Hs1 h1 → FzOk T H ρ Hs h (upd Hs1 a u) h1 ∧ Same Hs1 (upd Hs1 a u) := fun {o u Hs1 h1} e hu z => by
      obtain ⟨s1, t1⟩ := z
      have no := sy.nokill e ha
      have hsa : Hs a = none := (sy.ob n o a e ha).1
      have n1 : Hs1 a = none := by
        cases q : Hs1 a with
        | none => rfl
        | some w =>
          rcases t1.new a w q with z | ⟨_, z | z⟩
          · rw [hsa] at z; cases z
          · exact absurd z no
          · exact (nu_no hu ((sy.ob n o a e ha).2.noTab u hu).1 z).elim
      have no1 : ¬ Im ρ h1 a := fun z => by
        rcases t1.newO a z with z | z
        · exact no z
        · exact nu_no hu ((sy.ob n o a e ha).2.noTab u hu).1 z
      have sb : Same Hs1 (upd Hs1 a u) := fun b w z => by rw [upd_ne (ne_of_none z n1)]; exact z
      refine ⟨⟨s1.tell hu n1 no1 ((sy.ob n o a e ha).2.noTab u hu).1, t1.mono.trans sb, fun b w q _ _ _ => q, fun b q => q, fun b w q => ?_, fun b q => ?_⟩, sb⟩
      · by_cases z : b = a
        · subst z; exact .inr ⟨hsa, .inl ⟨n, o, e, ha⟩⟩
        · rw [upd_ne z] at q
          rcases t1.new b w q with z | ⟨z1, z | z⟩
          · exact .inl z
          · exact .inr ⟨z1, .inl (im_kill z)⟩
          · exact .inr ⟨z1, .inr z⟩
      · rcases t1.newO b q with z | z
        · exact .inl (im_kill z)
        · exact .inr z
    cases w : h[n]? with
    | none => rw [w] at e; cases e
    | some oo =>
      rw [w] at e
      cases oo with
      | none => cases e
      | some o =>
        obtain ⟨hsa, mr⟩ := sy.ob n o a w ha
        cases o with
        | lst xs =>
          dsimp only at e
          cases w2 : mapH (frzV k) xs (h.set n none) with
          | none => rw [w2] at e; cases e
          | some dh =>
            obtain ⟨ds, h1⟩ := dh
            rw [w2] at e
            cases e
            obtain ⟨vs, g1, g2, g3⟩ := mr
            obtain ⟨Hs1, z, g⟩ := map_ok (F := fun Hs v x => VlR T Hs ρ v x) (G := fun Hs v d => RepV T Hs v d) (fun _ _ _ _ s r => r.mono s) (fun _ _ _ _ s r => r.mono s Pre.refl) ih (sy.kill n) g3 w2
            obtain ⟨q1, q2⟩ := fin w g1 z
            exact ⟨_, q1, .lst upd_same (by rw [mapH_len w2]; exact g2) (RepVs.ofP (Paired.imp g fun _ _ r => r.mono q2))⟩
        | dct kvs =>
          dsimp only at e
          cases w2 : mapH (sndH (frzV k)) kvs (h.set n none) with
          | none => rw [w2] at e; cases e
          | some dh =>
            obtain ⟨ds, h1⟩ := dh
            rw [w2] at e
            cases e
            obtain ⟨vs, g1, g2, g3⟩ := mr
            obtain ⟨Hs1, z, g⟩ := map_ok (F := fun Hs p q => KvR T Hs ρ p q) (G := fun Hs (p : Key × V) (q : PV × PV) => KeyR p.1 q.1 ∧ RepV T Hs p.2 q.2) (fun _ _ _ _ s r => ⟨r.1, r.2.mono s⟩) (fun _ _ _ _ s r => ⟨r.1, r.2.mono s Pre.refl⟩) (fun Hs h x v d h' s r e => by
              simp only [sndH] at e
              cases w3 : frzV k x.2 h with
              | none => rw [w3] at e; cases e
              | some dh =>
                obtain ⟨d', h2⟩ := dh
                rw [w3] at e
                cases e
                obtain ⟨Hs', f1, f2⟩ := ih Hs h x.2 v.2 _ _ s r.2 w3
                exact ⟨Hs', f1, r.1, f2⟩) (sy.kill n) g3 w2
            obtain ⟨q1, q2⟩ := fin w g1 z
            exact ⟨_, q1, .dct (.inl upd_same) (by rw [mapH_len w2]; exact g2) (RepKs.ofP (Paired.imp g fun _ _ r => ⟨r.1, r.2.mono q2⟩))⟩
        | ins c fs =>
          dsimp only at e
          cases w2 : mapH (sndH (frzV k)) fs (h.set n none) with
          | none => rw [w2] at e; cases e
          | some dh =>
            obtain ⟨ds, h1⟩ := dh
            rw [w2] at e
            cases e
            obtain ⟨C, dx, gs, g1, g2, g3, g4⟩ := mr
            obtain ⟨Hs1, z, g⟩ := map_ok (F := fun Hs p q => FdR T Hs ρ p q) (G := fun Hs (p : Str × V) (q : Nat × PV) => p.1 = nmS q.1 ∧ RepV T Hs p.2 q.2) (fun _ _ _ _ s r => ⟨r.1, r.2.mono s⟩) (fun _ _ _ _ s r => ⟨r.1, r.2.mono s Pre.refl⟩) (fun Hs h x v d h' s r e => by
              simp only [sndH] at e
              cases w3 : frzV k x.2 h with
              | none => rw [w3] at e; cases e
              | some dh =>
                obtain ⟨d', h2⟩ := dh
                rw [w3] at e
                cases e
                obtain ⟨Hs', f1, f2⟩ := ih Hs h x.2 v.2 _ _ s r.2 w3
                exact ⟨Hs', f1, r.1, f2⟩) (sy.kill n) g4 w2
            obtain ⟨q1, q2⟩ := fin w g1 z
            exact ⟨_, q1, .obj upd_same g2 (RepFs.ofP (Paired.imp g fun _ _ r => ⟨r.1, r.2.mono q2⟩))⟩
/-- a value, as it stands -/
theorem vw_ok (sy : Sy T Hs H ρ h) {x : Vl} {v : V} {d : PV} (r : VlR T Hs ρ v x) (e : vw h x = some d) : ∃ Hv, Same Hs Hv ∧ Same Hv H ∧ RepV T Hv v d := by
  unfold vw at e
  cases w : frzV 8 x h with
  | none => rw [w] at e; cases e
  | some dh =>
    obtain ⟨d', h1⟩ := dh
    rw [w] at e
    cases e
    obtain ⟨Hs', ⟨s1, t1⟩, g⟩ := frzV_ok 8 sy r w
    exact ⟨Hs', t1.mono, s1.sub, g⟩
theorem Post.frz {R : Hp → Hp → List Addr → PV → Prop} (sy : Sy D.T Hs H ρ h) {x : Vl} {v : V} (r : VlR D.T Hs ρ v x) (p : Post D R Hs H ρ h (HV.frz x h)) : ∃ Hs' h' d, HV.frz x h = .ok d h' ∧ FzOk D.T H ρ Hs h Hs' h' ∧ RepV D.T Hs' v d ∧ R Hs' H ρ d := by
  unfold HV.frz at p ⊢
  cases w : frzV 8 x h with
  | none => rw [w] at p; exact p.elim
  | some dh =>
    obtain ⟨d', h1⟩ := dh
    rw [w] at p
    obtain ⟨Hs', ⟨s1, t1⟩, g⟩ := frzV_ok 8 sy r w
    exact ⟨Hs', h1, d', rfl, ⟨s1, t1⟩, g, p H Hs' ρ t1 Pre.refl s1⟩
theorem frz_ok (sy : Sy T Hs H ρ h) {x : Vl} {v : V} {d : PV} (r : VlR T Hs ρ v x) (e : HV.frz x h = .ok d h') : ∃ Hs', FzOk T H ρ Hs h Hs' h' ∧ RepV T Hs' v d := by
  unfold HV.frz at e
  cases w : frzV 8 x h with
  | none => rw [w] at e; cases e
  | some dh =>
    obtain ⟨d', h1⟩ := dh
    rw [w] at e
    cases e
    exact frzV_ok 8 sy r w
theorem frz_exc {x : Vl} {c : Nat} {ps : List PV} (e : HV.frz x h = .exc c ps h') : False := by
  unfold HV.frz at e
  split at e <;> cases e
theorem frzs_ok : ∀ {xs : List Vl} {vs : List V} {Hs : Hp} {h h' : Hm} {ds : List PV}, Sy T Hs H ρ h → VlsR T Hs ρ vs xs → frzs xs h = .ok ds h' → ∃ Hs', FzOk T H ρ Hs h Hs' h' ∧ RepVs T Hs' vs ds
  | [], vs, Hs, h, h', ds, sy, r, e => by cases r; cases e; exact ⟨Hs, ⟨sy, Tr.refl⟩, .nil⟩
  | x :: xs, vs, Hs, h, h', ds, sy, r, e => by
    cases r with
    | cons rx rr =>
      simp only [frzs] at e
      cases w : HV.frz x h with
      | stuck => rw [w] at e; cases e
      | exc c ps h1 => exact (frz_exc w).elim
      | ok d h1 =>
        rw [w] at e
        replace e : (frzs xs h1).bind (fun ds h => .ok (d :: ds) h) = R.ok ds h' := e
        cases w2 : frzs xs h1 with
        | stuck => rw [w2] at e; cases e
        | exc c ps h1 => rw [w2] at e; cases e
        | ok ds' h2 =>
          rw [w2] at e
          cases e
          obtain ⟨Hs1, ⟨s1, t1⟩, g1⟩ := frz_ok sy rx w
          obtain ⟨Hs2, ⟨s2, t2⟩, g2⟩ := frzs_ok s1 (VlsR.mono t1.mono Pre.refl rr) w2
          exact ⟨Hs2, ⟨s2, t1.trans t2⟩, .cons (g1.mono t2.mono) g2⟩
theorem frzs_exc {xs : List Vl} {c : Nat} {ps : List PV} : ∀ {h h' : Hm}, frzs xs h = .exc c ps h' → False := by
  induction xs with
  | nil => intro h h' e; cases e
  | cons x xs ih =>
    intro h h' e
    simp only [frzs] at e
    cases w : HV.frz x h with
    | stuck => rw [w] at e; cases e
    | exc c ps h1 => exact frz_exc w
    | ok d h1 =>
      rw [w] at e
      replace e : (frzs xs h1).bind (fun ds h => .ok (d :: ds) h) = R.exc c ps h' := e
      cases w2 : frzs xs h1 with
      | stuck => rw [w2] at e; cases e
      | exc c' ps' h3 => rw [w2] at e; cases e; exact ih w2
      | ok ds' h2 => rw [w2] at e; cases e
/-! ### locks -/
theorem lockH_len : ∀ {l : Lk} {h : Hm}, (lockH l h).length = h.length
  | [], _ => rfl
  | (n, o) :: r, h => by unfold lockH; rw [lockH_len, List.length_set]
theorem unlkH_len : ∀ {l : Lk} {h : Hm}, (unlkH l h).length = h.length
  | [], _ => rfl
  | (n, o) :: r, h => by unfold unlkH; rw [List.length_set, unlkH_len]
/-- what is locked stands there -/
def LkOk : Lk → Hm → Prop
  | [], _ => True
  | (n, o) :: r, h => h[n]? = some (some o) ∧ LkOk r (h.set n none)
theorem Sy.lock : ∀ {l : Lk} {h : Hm}, Sy T Hs H ρ h → Sy T Hs H ρ (lockH l h)
  | [], _, sy => sy
  | (n, o) :: r, h, sy => Sy.lock (l := r) (sy.kill n)
theorem im_lock : ∀ {l : Lk} {h : Hm} {a : Addr}, Im ρ (lockH l h) a → Im ρ h a
  | [], _, _, m => m
  | (n, o) :: r, h, a, m => im_kill (im_lock (l := r) m)
theorem tr_lock {l : Lk} : TrH Hs H ρ h Hs H ρ (lockH l h) := ⟨Same.refl _, fun _ _ q _ _ _ => q, fun _ q => q, fun _ _ q => .inl q, fun _ q => .inl (im_lock q)⟩
/-- the locks are opened: what was locked is as it was -/
theorem Sy.unlk : ∀ {l : Lk} {h : Hm}, Sy T Hs H ρ h → LkOk l h → TrH Hs H ρ (lockH l h) Hs' H' ρ' h' → Pre ρ ρ' → Sy T Hs' H' ρ' h' → Sy T Hs' H' ρ' (unlkH l h') ∧ TrH Hs H ρ h Hs' H' ρ' (unlkH l h')
  | [], h, sy, _, t, _, sy' => ⟨sy', t⟩
  | (n, o) :: r, h, sy, lk, t, pr, sy' => by
    obtain ⟨s2, t2⟩ := Sy.unlk (l := r) (sy.kill n) lk.2 t pr sy'
    obtain ⟨a, ha, hsa, mr⟩ := sy.at lk.1
    obtain ⟨u, hu, _⟩ := mr.some
    have no := sy.nokill lk.1 ha
    have ha' := pr n a ha
    have n1 : Hs' a = none := by
      cases q : Hs' a with
      | none => rfl
      | some w =>
        rcases t2.new a w q with z | ⟨_, z | z⟩
        · rw [hsa] at z; cases z
        · exact absurd z no
        · exact (nu_no hu (mr.noTab u hu).1 z).elim
    have no1 : ¬ Im ρ' (unlkH r h') a := fun z => by
      rcases t2.newO a z with z | z
      · exact no z
      · exact nu_no hu (mr.noTab u hu).1 z
    have kp : ∀ u, H a = some u → H' a = some u := fun u q => t2.keep a u q hsa no (mr.noTab u q).1
    have lt : n < (unlkH r h').length := by rw [← s2.len]; exact (List.getElem?_eq_some_iff.mp ha').1
    show Sy T Hs' H' ρ' ((unlkH r h').set n (some o)) ∧ TrH Hs H ρ h Hs' H' ρ' ((unlkH r h').set n (some o))
    refine ⟨⟨s2.sub, by rw [List.length_set]; exact s2.len, fun i j b w z q1 q2 w1 w2 => ?_, fun i w b q w1 => ?_, s2.tb, s2.nt⟩, ⟨t2.mono, fun b w q hs no => t2.keep b w q hs fun z => no (im_kill z), t2.there, fun b w q => ?_, fun b q => ?_⟩⟩
    · rcases get_set q1 with ⟨ei, _, _⟩ | ⟨ne1, q1⟩
      · rcases get_set q2 with ⟨ej, _, _⟩ | ⟨ne2, q2⟩
        · exact ei.trans ej.symm
        · rw [ei, ha'] at w1; cases w1
          exact absurd ⟨j, z, q2, w2⟩ no1
      · rcases get_set q2 with ⟨ej, _, _⟩ | ⟨ne2, q2⟩
        · rw [ej, ha'] at w2; cases w2
          exact absurd ⟨i, w, q1, w1⟩ no1
        · exact s2.inj i j b w z q1 q2 w1 w2
    · rcases get_set q with ⟨rfl, z, _⟩ | ⟨ne, q⟩
      · cases z
        rw [ha'] at w1; cases w1
        exact ⟨n1, mr.move t2.mono pr kp⟩
      · exact s2.ob i w b q w1
    · rcases t2.new b w q with z | ⟨z1, z | z⟩
      · exact .inl z
      · exact .inr ⟨z1, .inl (im_kill z)⟩
      · exact .inr ⟨z1, .inr z⟩
    · rcases im_set q with z | ⟨z, _⟩
      · rcases t2.newO b z with z | z
        · exact .inl (im_kill z)
        · exact .inr z
      · rw [ha'] at z; cases z
        exact .inl ⟨n, o, lk.1, ha⟩
theorem Post.unlk {R : Hp → Hp → List Addr → α → Prop} {l : Lk} {o : HV.R α} (sy : Sy D.T Hs H ρ h) (lk : LkOk l h) (p : Post D R Hs H ρ h (unlkR l o)) : Post D R Hs H ρ (lockH l h) o := by
  cases o with
  | stuck => exact p
  | ok a h1 =>
    intro H' Hs' ρ' t pr s1
    obtain ⟨s2, t2⟩ := Sy.unlk sy lk t pr s1
    exact p H' Hs' ρ' t2 pr s2
  | exc c ps h1 =>
    intro H' Hs' ρ' C d t pr s1 x
    obtain ⟨s2, t2⟩ := Sy.unlk sy lk t pr s1
    exact p H' Hs' ρ' C d t2 pr s2 x
/-! ### what a def drops -/
theorem refsV_R {n : Nat} {v : V} {x : Vl} (r : VlR T Hs ρ v x) (e : refsV n x = true) : VlR T Hs (ρ.take n) v x := by
  cases x with
  | fz d => exact r
  | rf m =>
    obtain ⟨a, h1, h2⟩ := r
    have : m < n := of_decide_eq_true e
    exact ⟨a, by rw [List.getElem?_take_of_lt this]; exact h1, h2⟩
theorem Paired.all {α β : Type} {F G : α → β → Prop} {p : β → Bool} : ∀ {xs : List α} {ys : List β}, Paired F xs ys → ys.all p = true → (∀ a b, F a b → p b = true → G a b) → Paired G xs ys
  | _, _, .nil, _, _ => .nil
  | _, _, .cons r t, e, f => by
    simp only [List.all_cons, Bool.and_eq_true] at e
    exact .cons (f _ _ r e.1) (Paired.all t e.2 f)
theorem Sy.cut {n : Nat} (sy : Sy T Hs H ρ h) (e : (h.take n).all (refsO n) = true) : Sy T Hs H (ρ.take n) (h.take n) := by
  have lv : ∀ (i : Nat) (w : MO), (h.take n)[i]? = some (some w) → i < n ∧ h[i]? = some (some w) := fun i w q => by
    have hl := (List.getElem?_eq_some_iff.mp q).1
    rw [List.length_take] at hl
    have : i < n := by omega
    rw [List.getElem?_take_of_lt this] at q
    exact ⟨this, q⟩
  refine ⟨sy.sub, by rw [List.length_take, List.length_take, sy.len], fun i j b w z q1 q2 w1 w2 => ?_, fun i w b q w1 => ?_, sy.tb, sy.nt⟩
  · obtain ⟨l1, q1⟩ := lv i w q1
    obtain ⟨l2, q2⟩ := lv j z q2
    rw [List.getElem?_take_of_lt l1] at w1
    rw [List.getElem?_take_of_lt l2] at w2
    exact sy.inj i j b w z q1 q2 w1 w2
  · have ro := List.all_eq_true.mp e _ (List.mem_of_getElem? q)
    obtain ⟨l1, q⟩ := lv i w q
    rw [List.getElem?_take_of_lt l1] at w1
    obtain ⟨c1, c2⟩ := sy.ob i w b q w1
    refine ⟨c1, ?_⟩
    cases w with
    | lst xs =>
      obtain ⟨vs, g1, g2, g3⟩ := c2
      exact ⟨vs, g1, g2, Paired.all g3 ro fun _ _ r e => refsV_R r e⟩
    | dct kvs =>
      obtain ⟨vs, g1, g2, g3⟩ := c2
      exact ⟨vs, g1, g2, Paired.all g3 ro fun _ _ r e => ⟨r.1, refsV_R r.2 e⟩⟩
    | ins c fs =>
      obtain ⟨C, dx, gs, g1, g2, g3, g4⟩ := c2
      exact ⟨C, dx, gs, g1, g2, g3, Paired.all g4 ro fun _ _ r e => ⟨r.1, refsV_R r.2 e⟩⟩
theorem im_take {n : Nat} {a : Addr} (m : Im (ρ.take n) (h.take n) a) : Im ρ h a := by
  obtain ⟨k, u, h1, h2⟩ := m
  have hl := (List.getElem?_eq_some_iff.mp h1).1
  rw [List.length_take] at hl
  rw [List.getElem?_take_of_lt (by omega)] at h1 h2
  exact ⟨k, u, h1, h2⟩
/-- of the callee's heap what the caller sees -/
theorem Sy.cutH {keep : Bool} {h1 h2 : Hm} {ρ1 : List Addr} (sy : Sy T Hs H ρ h) (s1 : Sy T Hs' H' ρ1 h1) (t : TrH Hs H ρ h Hs' H' ρ1 h1) (pr : Pre ρ ρ1) (e : HV.cutH keep h.length h1 = some h2) :
    ∃ ρ2, Sy T Hs' H' ρ2 h2 ∧ TrH Hs H ρ h Hs' H' ρ2 h2 ∧ Pre ρ ρ2 ∧ ∀ v x, VlR T Hs' ρ1 v x → refsV h2.length x = true → VlR T Hs' ρ2 v x := by
  unfold HV.cutH at e
  by_cases hk : keep = true
  · rw [if_pos hk] at e
    cases e
    exact ⟨ρ1, s1, t, pr, fun _ _ r _ => r⟩
  rw [if_neg hk] at e
  by_cases hl : h1.length = h.length
  · rw [if_pos hl] at e
    cases e
    exact ⟨ρ1, s1, t, pr, fun _ _ r _ => r⟩
  rw [if_neg hl] at e
  dsimp only at e
  by_cases hr : (h1.take h.length).all (refsO h.length) = true
  · rw [if_pos hr] at e
    cases e
    refine ⟨ρ1.take h.length, s1.cut hr, ⟨t.mono, t.keep, t.there, t.new, fun a z => t.newO a (im_take z)⟩, fun n a q => ?_, fun v x r e => ?_⟩
    · have : n < h.length := by rw [← sy.len]; exact (List.getElem?_eq_some_iff.mp q).1
      rw [List.getElem?_take_of_lt this]
      exact pr n a q
    · refine refsV_R r ?_
      cases x with
      | fz d => rfl
      | rf m =>
        have : m < (h1.take h.length).length := of_decide_eq_true e
        rw [List.length_take] at this
        exact decide_eq_true (by omega)
  · rw [if_neg hr] at e; cases e
end
end HV

end

section
/-! V5: expressions. -/
namespace HV
open PySem PySem.Spec PyProof.Rows L2
section
variable {e o : Expr} {es : List Expr} {pos apos cpos : Pos}
/-! ### what the shape of an expression tells -/
/-- not starred, no slice, no super() -/
def argX : Expr → Bool
  | .Starred .. => false
  | .Slice .. => false
  | .Call (.Name id _) [] [] _ => !(id == ("super" : Str))
  | _ => true
def compX : Expr → Bool
  | .ListComp .. => true
  | .SetComp .. => true
  | .DictComp .. => true
  | _ => false
/-- none of the shapes that are read otherwise -/
def plainX (e : Expr) : Bool := argX e && !compX e
theorem argX_of (h : plainX e = true) : argX e = true := (Bool.and_eq_true_iff.mp h).1
theorem star_of {ev : PySem.Env} (h : argX e = true) : starEach (e :: es) ev = (false, eval e ev) :: starEach es ev := by
  cases e <;> first | rfl | (cases h)
theorem base_of {a : Str} {ev : PySem.Env} {w : Sem Value} (h : argX e = true) : attributeBase e a ev w = w := by
  unfold attributeBase
  split
  · rename_i id _ _
    have h2 : (!(id == ("super" : Str))) = true := h
    have h3 : (id != ("super" : Str)) = true := h2
    simp only [h3, Bool.true_or, if_true]
  · rfl
theorem sub_of (h : argX e = true) : NoSl e := by
  intro ov iv
  cases e <;> first | rfl | (cases h)
theorem swap_of {t : Option Expr} {l : Nat} {ev : PySem.Env} (h : plainX e = true) : swapsWith e t l ev = pure false := by
  have h2 := (Bool.and_eq_true_iff.mp h).2
  cases e <;> first | rfl | (cases h2)
theorem swapS_of {t : Expr} {l : Nat} {ev : PySem.Env} (h : plainX e = true) : swapsWithSole [t] e l ev = pure false := swap_of h
def argsX : List Expr → Bool
  | [] => true
  | e :: es => argX e && argsX es
theorem stars_of {ev : PySem.Env} : ∀ {es : List Expr}, argsX es = true → starEach es ev = es.map fun e => (false, eval e ev)
  | [], _ => rfl
  | e :: es, h => by
    have h2 := Bool.and_eq_true_iff.mp (show (argX e && argsX es) = true from h)
    rw [star_of h2.1, stars_of h2.2]
    rfl
theorem back_any {ev : PySem.Env} (h : argsX es = true) : (backTo pos (starEach es ev)).any (·.1) = false := by
  rw [stars_of h]
  unfold backTo
  rw [List.map_map, List.any_map, List.any_eq_false]
  intro x _
  simp
theorem back_all {ev : PySem.Env} (h : argsX es = true) : (backTo pos (starEach es ev)).all (fun x => !x.1) = true := by
  rw [stars_of h]
  unfold backTo
  rw [List.map_map, List.all_map, List.all_eq_true]
  intro x _
  simp
theorem few_of {ev : PySem.Env} (h : argsX es = true) (hn : es.length < 30) : ((backTo pos (starEach es ev)).all (fun x => !x.1) && (backToKw pos (keywordEach [] ev)).all (fun x => x.1.isSome)
      && decide (es.length + ([] : List Keyword).length + (if ([] : List Keyword).isEmpty then 0 else 1) < 30)) = true := by
  rw [back_all h]
  simpa [backToKw, keywordEach] using hn
theorem meth_ht {a : Str} {ev : PySem.Env} (ho : argX o = true) (h : argsX es = true) (hn : es.length < 30) (hl : (apos.endLine == pos.line) = true) : eval (.Call (.Attribute o a apos) es [] pos) ev = (do
      let ov ← eval o ev
      standAt apos.atName
      let (f, first) ← holding [ov] (getMethod ov a (do return (← importBound o ev).getD true))
      callWith pos f first (backTo pos (starEach es ev)) (backToKw pos (keywordEach [] ev))) := by
  rw [arm_eval_Call, base_of ho]
  have hform : methodCallForm (es.length + ([] : List Keyword).length) (backTo pos (starEach es ev)) (backToKw pos (keywordEach [] ev)) = true := few_of h hn
  have hpos : methodCallPos true o ev apos pos = pure pos := by unfold methodCallPos; simp [hl]
  unfold methodCall
  rw [hform]
  simp only [hpos, pure_bind]
  rfl
end
/-- an expression by trees -/
def semE (D : Wd) (f : Env → Hm → R Vl) : TE := fun σ H Q => ∃ Hs ρ h env, Sy D.T Hs H ρ h ∧ EnvR D.T Hs ρ σ env ∧ Post D (fun Hs' H' ρ' a => ∀ v, VlR D.T Hs' ρ' v a → Q v H') Hs H ρ h (f env h)
def semA (D : Wd) (f : Env → Hm → R (List Vl)) : TA := fun σ H Q => ∃ Hs ρ h env, Sy D.T Hs H ρ h ∧ EnvR D.T Hs ρ σ env ∧ Post D (fun Hs' H' ρ' a => ∀ v, VlsR D.T Hs' ρ' v a → Q v H') Hs H ρ h (f env h)
def semT (D : Wd) (f : Env → Hm → R Bool) : TT := fun σ H Q => ∃ Hs ρ h env, Sy D.T Hs H ρ h ∧ EnvR D.T Hs ρ σ env ∧ Post D (fun Hs' H' ρ' a => Q a H') Hs H ρ h (f env h)
/-- what is wanted of a value's outcome -/
abbrev PostV (D : Wd) (Q : VK) (Hs H : Hp) (ρ : List Addr) (h : Hm) (o : R Vl) : Prop := Post D (fun Hs' H' ρ' a => ∀ v, VlR D.T Hs' ρ' v a → Q v H') Hs H ρ h o
def KV2 (D : Wd) (r : R2) (k : Vl → Vl → Hm → R Vl) : Prop := ∀ x y a b Hs H ρ h Q, Sy D.T Hs H ρ h → VlR D.T Hs ρ x a → VlR D.T Hs ρ y b → PostV D Q Hs H ρ h (k a b h) → r x y H Q
def KV1 (D : Wd) (r : V → Hp → VK → Prop) (k : Vl → Hm → R Vl) : Prop := ∀ x a Hs H ρ h Q, Sy D.T Hs H ρ h → VlR D.T Hs ρ x a → PostV D Q Hs H ρ h (k a h) → r x H Q
section
variable {D : Wd} {T : Tb} {Hs H Hs' H' : Hp} {ρ ρ' : List Addr} {h h' : Hm} {σ : L2.St} {env : Env} {X : Cx} {e o a b c : Expr} {es rest : List Expr} {apos cpos pos pos' p p2 : Pos}
theorem sem_op2 {f g : Env → Hm → R Vl} {rr : R2} {k : Vl → Vl → Hm → R Vl} (hv : KV2 D rr k) : ∀ σ H Q, semE D (op2 f g k) σ H Q → tOp rr (semE D f) (semE D g) σ H Q := by
  intro σ H Q z
  obtain ⟨Hs, ρ, h, env, sy, er, p⟩ := z
  refine ⟨Hs, ρ, h, env, sy, er, Post.bind (f := fun x h => (g env h).bind fun y h => k x y h) p fun x h1 H1 Hs1 ρ1 t1 p1 sy1 q1 v rv => ?_⟩
  refine ⟨Hs1, ρ1, h1, env, sy1, er.mono t1.mono p1, q1.bind fun y h2 H2 Hs2 ρ2 t2 p2 sy2 q2 u ru => ?_⟩
  exact hv v u x y Hs2 H2 ρ2 h2 Q sy2 (rv.mono t2.mono p2) ru q2
theorem sem_op1 {f : Env → Hm → R Vl} {rr : V → Hp → VK → Prop} {k : Vl → Hm → R Vl} (hv : KV1 D rr k) : ∀ σ H Q, semE D (op1 f k) σ H Q → semE D f σ H fun x H1 => rr x H1 Q := by
  intro σ H Q z
  obtain ⟨Hs, ρ, h, env, sy, er, p⟩ := z
  refine ⟨Hs, ρ, h, env, sy, er, Post.bind (f := fun x h => k x h) p fun x h1 H1 Hs1 ρ1 t1 p1 sy1 q1 v rv => ?_⟩
  exact hv v x Hs1 H1 ρ1 h1 Q sy1 rv q1
theorem Post.frzB {α : Type} {R : Hp → Hp → List Addr → α → Prop} {f : PV → Hm → HV.R α} (sy : Sy D.T Hs H ρ h) {x : Vl} {v : V} (r : VlR D.T Hs ρ v x) (p : Post D R Hs H ρ h ((HV.frz x h).bind f)) :
    ∃ Hs' h' d, FzOk D.T H ρ Hs h Hs' h' ∧ RepV D.T Hs' v d ∧ Post D R Hs' H ρ h' (f d h') := by
  cases w : HV.frz x h with
  | stuck => rw [w] at p; exact p.elim
  | exc c ps h1 => exact (frz_exc w).elim
  | ok d h1 =>
    rw [w] at p
    obtain ⟨Hs1, ⟨s1, t1⟩, g⟩ := frz_ok sy r w
    exact ⟨Hs1, h1, d, ⟨s1, t1⟩, g, Post.back t1 Pre.refl (show Post D R Hs H ρ h (f d h1) from p)⟩
theorem kv_A {rr : R2} {g : PV → PV → Option PV} (hv : VA2 D.T rr g) : KV2 D rr (opA g) := by
  intro x y a b Hs H ρ h Q sy rx ry p
  unfold opA at p
  cases w : vw h a with
  | none => simp only [w] at p; exact p.elim
  | some d1 =>
    cases w2 : vw h b with
    | none => simp only [w, w2] at p; exact p.elim
    | some d2 =>
      simp only [w, w2] at p
      obtain ⟨Hx, x1, x2, x3⟩ := vw_ok sy rx w
      obtain ⟨Hy, y1, y2, y3⟩ := vw_ok sy ry w2
      cases w3 : g d1 d2 with
      | none => rw [w3] at p; exact p.elim
      | some d =>
        rw [w3] at p
        exact hv x y d1 d2 d Hx Hy H Q x2 y2 x3 y3 w3 fun v rv => p H Hs ρ Tr.refl Pre.refl sy v (rv _)
theorem kv_A1 {rr : V → Hp → VK → Prop} {g : PV → Option PV} (hv : VA1 D.T rr g) : KV1 D rr (opA1 g) := by
  intro x a Hs H ρ h Q sy rx p
  unfold opA1 at p
  cases w : vw h a with
  | none => simp only [w] at p; exact p.elim
  | some d1 =>
    simp only [w] at p
    obtain ⟨Hx, x1, x2, x3⟩ := vw_ok sy rx w
    cases w3 : g d1 with
    | none => rw [w3] at p; exact p.elim
    | some d =>
      rw [w3] at p
      exact hv x d1 d Hx H Q x2 x3 w3 fun v rv => p H Hs ρ Tr.refl Pre.refl sy v (rv _)
theorem Post.liftF {Q : VK} {o : Option PV} (p : PostV D Q Hs H ρ h (HV.liftF o h)) (sy : Sy D.T Hs H ρ h) : ∃ d, o = some d ∧ ∀ v Hs' H', Grow Hs H Hs' H' → RepV D.T Hs' v d → Q v H' := by
  cases o with
  | none => exact p.elim
  | some d =>
    refine ⟨d, rfl, fun v Hs' H' gr rv => ?_⟩
    obtain ⟨s3, t3⟩ := sy.grow gr
    exact p H' Hs' ρ t3 Pre.refl s3 v rv
theorem kv_G {rr : R2} {g : PV → PV → Option PV} (hv : VG2 D.T rr g) : KV2 D rr (opG g) := by
  intro x y a b Hs H ρ h Q sy rx ry p
  obtain ⟨Hs1, h1, d1, ⟨s1, t1⟩, r1, p1⟩ := Post.frzB sy rx p
  obtain ⟨Hs2, h2, d2, ⟨s2, t2⟩, r2, p2⟩ := Post.frzB s1 (ry.mono t1.mono Pre.refl) p1
  obtain ⟨d, w, k⟩ := p2.liftF s2
  exact hv x y d1 d2 d Hs2 H Q s2.sub (r1.mono t2.mono) r2 w k
theorem kv_G1 {rr : V → Hp → VK → Prop} {g : PV → Option PV} (hv : VG1 D.T rr g) : KV1 D rr (opG1 g) := by
  intro x a Hs H ρ h Q sy rx p
  obtain ⟨Hs1, h1, d1, ⟨s1, t1⟩, r1, p1⟩ := Post.frzB sy rx p
  obtain ⟨d, w, k⟩ := p1.liftF s1
  exact hv x d1 d Hs1 H Q s1.sub r1 w k
/-! ### names, constants -/
theorem ev_cst {e : Expr} {v : V} {d : PV} (h : PE X e (tC v)) (r : ∀ Hs, RepV D.T Hs v d) (ha : d.atom = true) : PE X e (semE D (cstE d)) := by
  refine PE.imp h fun σ H Q z => ?_
  obtain ⟨Hs, ρ, h, env, sy, er, p⟩ := z
  unfold cstE at p
  rw [if_pos ha] at p
  exact p H Hs ρ Tr.refl Pre.refl sy v (r Hs)
theorem ev_gloE {e : Expr} {v : V} {d : PV} {od : Option PV} (hd : od = some d) (h : PE X e (tC v)) (r : ∀ Hs, RepV D.T Hs v d) (ha : d.atom = true) : PE X e (semE D (gloE od)) := by
  subst hd
  refine PE.imp h fun σ H Q z => ?_
  obtain ⟨Hs, ρ, h, env, sy, er, p⟩ := z
  unfold gloE at p
  dsimp only at p
  rw [if_pos ha] at p
  exact p H Hs ρ Tr.refl Pre.refl sy v (r Hs)
theorem ev_var {i : Nat} (h : PE X e (tVar i)) : PE X e (semE D (evVar i)) := by
  refine PE.imp h fun σ H Q z => ?_
  obtain ⟨Hs, ρ, h, env, sy, er, p⟩ := z
  unfold evVar at p
  cases q : env[i]? with
  | none => rw [q] at p; exact p.elim
  | some s =>
    rw [q] at p
    cases s with
    | none => exact p.elim
    | some x =>
      obtain ⟨u, h1, h2⟩ := er.2 i x q
      exact ⟨u, h1, p H Hs ρ Tr.refl Pre.refl sy u h2⟩
/-! ### subscripts -/
theorem vg_ix : VG2 T (fun x y H Q => (rIx T.K x y H Q) ∨ (∃ a v, x = .ref a ∧ DGet H a y (some v) ∧ Q v H)) idxV := by
  intro x y d1 d2 d Hs H Q s r1 r2 e k
  cases r1 with
  | lst h z r =>
    rename_i a xs ds
    cases r2 with
    | int i =>
      obtain ⟨v, g1, g2⟩ := at_rep r (show atP ds i = some d from e)
      exact .inl (.inl ⟨a, xs, i, v, rfl, rfl, SqL.of (s _ _ h), g1, k v Hs H .refl g2⟩)
    | _ => cases e
  | tup h z r =>
    rename_i a xs ds
    cases r2 with
    | int i =>
      obtain ⟨v, g1, g2⟩ := at_rep r (show atP ds i = some d from e)
      exact .inl (.inr (.inl ⟨a, xs, i, v, rfl, rfl, SqT.of (s _ _ h), g1, k v Hs H .refl g2⟩))
    | _ => cases e
  | str t ht =>
    cases r2 with
    | int i =>
      simp only [idxV] at e
      cases w : atP t i with
      | none => rw [w] at e; cases e
      | some c =>
        rw [w] at e
        cases e
        have hc : c ∈ t := by
          unfold atP at w
          cases q : ixP t.length i with
          | none => rw [q] at w; cases w
          | some j => rw [q] at w; exact List.mem_of_getElem? w
        refine .inl (.inr (.inr ⟨tx t, i, c, rfl, rfl, by rw [tx_len]; exact ht.1, by rw [← atP_eq]; simpa [tx] using w, k _ Hs H .refl (.str [c] ⟨by show 1 ≤ sizeLine; decide, fun c' h => by simp at h; subst h; exact ht.2 _ hc⟩)⟩))
    | _ => cases e
  | dct h z r =>
    rename_i a ks ds
    cases r2 with
    | int i =>
      obtain ⟨v, g1, g2⟩ := dget_rep r (.int i) (show dGet ds (.int i) = some d from e)
      exact .inr ⟨a, v, rfl, .inl ⟨ks, .inl i, SameR s h, rfl, g1.symm⟩, k v Hs H .refl g2⟩
    | str t ht =>
      obtain ⟨v, g1, g2⟩ := dget_rep r (.str t ht) (show dGet ds (.str t) = some d from e)
      exact .inr ⟨a, v, rfl, .inl ⟨ks, .inr (tx t), SameR s h, rfl, g1.symm⟩, k v Hs H .refl g2⟩
    | _ => cases e
  | _ => cases r2 <;> cases e
abbrev rIxA (K : PySem.W.Frag) : R2 := fun x y H Q => (rIx K x y H Q) ∨ (∃ a v, x = .ref a ∧ DGet H a y (some v) ∧ Q v H)
theorem at_vl {xs : List V} {ds : List Vl} (r : VlsR T Hs ρ xs ds) {i : Int} {d : Vl} (h : atP ds i = some d) : ∃ v, atI xs i = some v ∧ VlR T Hs ρ v d := by
  unfold atP ixP at h
  unfold atI ixN
  rw [Paired.length r]
  split at h
  · split at h
    · simp only [Option.bind_some] at h
      rename_i h1 h2
      obtain ⟨v, g1, g2⟩ := Paired.get r h
      exact ⟨v, by rw [if_pos h1, if_pos h2]; exact g1, g2⟩
    · cases h
  · split at h
    · simp only [Option.bind_some] at h
      rename_i h1 h2
      obtain ⟨v, g1, g2⟩ := Paired.get r h
      exact ⟨v, by rw [if_neg h1, if_pos h2]; exact g1, g2⟩
    · cases h
theorem dget_vl {q : Key} {q' : PV} (kq : KeyR q q') : ∀ {ks : List (Key × V)} {ds : List (PV × Vl)} {d : Vl}, Paired (KvR T Hs ρ) ks ds → dGetH ds q' = some d → ∃ v, valV ks q = some v ∧ VlR T Hs ρ v d
  | _, _, _, .nil, h => by cases h
  | _, _, d, .cons (a := (k, x)) (b := (e, y)) r rr, h => by
    simp only [dGetH] at h
    rw [key_eq r.1 kq] at h
    by_cases z : k = q
    · rw [decide_eq_true z, if_pos rfl] at h
      cases h
      exact ⟨_, valV_pos z, r.2⟩
    · rw [decide_eq_false z, if_neg Bool.false_ne_true] at h
      obtain ⟨v, h1, h2⟩ := dget_vl kq rr h
      exact ⟨v, (valV_neg z).trans h1, h2⟩
theorem keyR_of {v : V} {d : PV} (hr : RepV T Hs v d) (h : isKey d = true) : ∃ k, KeyR k d ∧ v = kV k := by
  cases hr with
  | int i => exact ⟨.inl i, .int i, rfl⟩
  | str s z => exact ⟨.inr (tx s), .str s z, rfl⟩
  | _ => cases h
theorem kv_ix : KV2 D (rIxA D.T.K) idxH := by
  intro x y a b Hs H ρ h Q sy rx ry p
  unfold idxH at p
  cases b with
  | rf n => exact p.elim
  | fz i =>
    cases a with
    | fz d =>
      dsimp only at p
      obtain ⟨d', w, k⟩ := p.liftF sy
      exact vg_ix x y d i d' Hs H Q sy.sub rx ry w k
    | rf n =>
      dsimp only at p
      obtain ⟨a, ha, rfl⟩ := rx
      cases w : h[n]? with
      | none => rw [w] at p; exact p.elim
      | some oo =>
        rw [w] at p
        cases oo with
        | none => exact p.elim
        | some o =>
          obtain ⟨_, mr⟩ := sy.ob n o a w ha
          cases o with
          | lst xs =>
            obtain ⟨vs, g1, g2, g3⟩ := mr
            replace ry : RepV D.T Hs y i := ry
            cases ry with
            | int j =>
              dsimp only at p
              cases w2 : atP xs j with
              | none => rw [w2] at p; exact p.elim
              | some z =>
                rw [w2] at p
                obtain ⟨v, k1, k2⟩ := at_vl g3 w2
                exact .inl (.inl ⟨a, vs, j, v, rfl, rfl, SqL.of g1, k1, p H Hs ρ Tr.refl Pre.refl sy v k2⟩)
            | _ => exact p.elim
          | dct kvs =>
            obtain ⟨ks, g1, g2, g3⟩ := mr
            dsimp only at p
            by_cases hk : isKey i = true
            · rw [if_pos hk] at p
              obtain ⟨q, kq, rfl⟩ := keyR_of (show RepV D.T Hs y i from ry) hk
              cases w2 : dGetH kvs i with
              | none => rw [w2] at p; exact p.elim
              | some z =>
                rw [w2] at p
                obtain ⟨v, k1, k2⟩ := dget_vl kq g3 w2
                exact .inr ⟨a, v, rfl, .inl ⟨ks, q, .inl g1, rfl, k1.symm⟩, p H Hs ρ Tr.refl Pre.refl sy v k2⟩
            · rw [if_neg hk] at p; exact p.elim
          | ins c fs => exact p.elim
theorem ix_dict (hu : X.A.units + 1 < cLine) : IxR X (fun x y H Q => ∃ a v, x = .ref a ∧ DGet H a y (some v) ∧ Q v H) := by
  intro value slice pins s σ H x y v u Q I rx ry h hs
  obtain ⟨a, w, rfl, g, q⟩ := h
  cases rx
  exact tail_any (dict_typeIs I g) PySem.F.slot_dict_getitem.lookup (d_getItem hu I g ry fun w' s3 I3 rw' => ⟨w, H, I3, rw', q⟩) hs
theorem ix_any (hu : X.A.units + 1 < cLine) : IxR X (rIxA X.K) := ix_seq.or (ix_dict hu)
theorem ev_ix (hK : D.T.K = X.K) (hu : X.A.units + 1 < cLine) {f g : Env → Hm → R Vl} (ha : PE X a (semE D f)) (hb : PE X b (semE D g)) (hs : argX b = true) : PE X (.Subscript a b pos) (semE D (op2 f g idxH)) := by
  refine PE.imp (pe_ix (ix_any hu) ha hb (sub_of hs)) fun σ H Q z => ?_
  have q := sem_op2 kv_ix σ H Q z
  rw [hK] at q
  exact q
/-! ### fields -/
theorem fd_none {gs : List (Str × V)} {fs : List (Nat × Vl)} (h : Paired (FdR T Hs ρ) gs fs) {m : Nat} (hm : m ∉ fs.map (·.1)) : gs.lookup (nmS m) = none := by
  induction h with
  | nil => rfl
  | @cons p q gs fs r rr ih =>
    obtain ⟨g, x⟩ := p
    obtain ⟨f, y⟩ := q
    obtain ⟨r1, r2⟩ := r
    dsimp only at r1
    subst r1
    rw [List.lookup_cons]
    have ne : (nmS m == nmS f) = false := by
      rw [beq_eq_false_iff_ne]
      exact fun e => hm (by rw [nmS_inj e]; simp)
    rw [ne]
    exact ih fun hg => hm (by simp [hg])
theorem fd_get {gs : List (Str × V)} {fs : List (Nat × Vl)} (h : Paired (FdR T Hs ρ) gs fs) {f : Nat} {d : Vl} (hd : fs.lookup f = some d) : ∃ v, gs.lookup (nmS f) = some v ∧ VlR T Hs ρ v d := by
  induction h with
  | nil => cases hd
  | @cons p q gs fs r rr ih =>
    obtain ⟨g0, x⟩ := p
    obtain ⟨g, y⟩ := q
    obtain ⟨r1, r2⟩ := r
    dsimp only at r1
    subst r1
    rw [List.lookup_cons] at hd ⊢
    by_cases hg : f = g
    · subst hg
      simp only [beq_self_eq_true] at hd ⊢
      cases hd
      exact ⟨_, rfl, r2⟩
    · have n1 : (f == g) = false := by rw [beq_eq_false_iff_ne]; exact hg
      have n2 : (nmS f == nmS g) = false := by
        rw [beq_eq_false_iff_ne]
        exact fun z => hg (nmS_inj z)
      rw [n1] at hd
      rw [n2]
      exact ih hd
theorem kv_att (ok : TbOk D.T) (f : Nat) : KV1 D (fun x H Q => ∃ a C dx fs v, x = .ref a ∧ H a = some (.ins C dx fs) ∧ Cls D.T.K C ∧ NoAttr D.T.K C (nmS f) ∧ fs.lookup (nmS f) = some v ∧ Q v H) (attH D.T.isF f) := by
  intro x a Hs H ρ h Q sy rx p
  unfold attH at p
  cases a with
  | fz d =>
    dsimp only at p
    obtain ⟨d', w, k⟩ := p.liftF sy
    exact va_att ok f x d d' Hs H Q sy.sub rx w k
  | rf n =>
    dsimp only at p
    obtain ⟨a, ha, rfl⟩ := rx
    cases w : h[n]? with
    | none => rw [w] at p; exact p.elim
    | some oo =>
      rw [w] at p
      cases oo with
      | none => exact p.elim
      | some o =>
        obtain ⟨_, mr⟩ := sy.ob n o a w ha
        cases o with
        | lst xs => exact p.elim
        | dct kvs => exact p.elim
        | ins c fs =>
          obtain ⟨C, dx, gs, g1, g2, g3, g4⟩ := mr
          dsimp only at p
          by_cases hi : D.T.isF c f = true
          · rw [if_pos hi] at p
            cases w2 : fs.lookup f with
            | none => rw [w2] at p; exact p.elim
            | some z =>
              rw [w2] at p
              obtain ⟨v, k1, k2⟩ := fd_get g4 w2
              exact ⟨a, C, dx, gs, v, rfl, g1, ok.cl c C g2, ok.fl c C f g2 hi, k1, p H Hs ρ Tr.refl Pre.refl sy v k2⟩
          · rw [if_neg hi] at p; exact p.elim
theorem ev_att (ok : TbOk D.T) (hK : D.T.K = X.K) {g : Env → Hm → R Vl} {f : Nat} (h : PE X e (semE D g)) (hb : attributeBase e (nmS f) X.env (eval e X.env) = eval e X.env) : PE X (.Attribute e (nmS f) pos) (semE D (op1 g (attH D.T.isF f))) := by
  refine PE.imp (pe_fld h hb) fun σ H Q z => ?_
  have q := sem_op1 (kv_att ok f) σ H Q z
  rw [← hK]
  exact q
/-! ### numbers, comparisons -/
theorem ev_bin (hK : D.T.K = X.K) {k : Nat} (hk : k < 6) {f g : Env → Hm → R Vl} (ha : PE X a (semE D f)) (hb : PE X b (semE D g)) : PE X (.BinOp a (binOf k) b pos) (semE D (op2 f g (opG (binV k)))) :=
  PE.imp (pe_op (bin_ok hK k hk) ha hb) (sem_op2 (kv_G (vg_rG2 _)))
theorem ev_cmp (hK : D.T.K = X.K) (hu : X.A.units + 65 < cLine) {k : Nat} (hk : k < 10) {f g : Env → Hm → R Vl} (ha : PE X a (semE D f)) (hb : PE X b (semE D g)) (hm : behindInMarks (cmpOf k) b = false) :
    PE X (.Compare a [cmpOf k] [b] pos) (semE D (op2 f g (opA (cmpV k)))) :=
  PE.imp (pe_cmpR (cmp_ok hK hu k hk) ha hb hm) (sem_op2 (kv_A (va_rA2 _)))
theorem ev_neg {f : Env → Hm → R Vl} (ha : PE X a (semE D f)) : PE X (.UnaryOp .USub a pos) (semE D (op1 f (opA1 negV))) := by
  refine PE.imp (pe_un un_neg ha) fun σ H Q z => ?_
  exact sem_op1 (rr := rU fun i => .int (-i)) (kv_A1 fun x d1 d Hx H Q s r e k => by
    cases r with
    | int i => cases e; exact ⟨i, rfl, k _ fun Hs => .int _⟩
    | _ => cases e) σ H Q z
/-! ### truth, tests -/
theorem tru_rep {K : PySem.W.Frag} {v : V} {d : PV} {t : Bool} (s : Same Hs H) (r : RepV T Hs v d) (h : truthV d = some t) : TruV K v H t := by
  cases r with
  | non => cases h; rfl
  | bl b => cases h; rfl
  | int i => cases h; rfl
  | str x hx =>
    cases h
    refine ⟨by rw [tx_len]; exact hx.1, ?_⟩
    rw [tx_len]
    cases x <;> simp <;> omega
  | lst ha hz hr =>
    cases h
    refine .inl ⟨_, SqL.of (s _ _ ha), ?_⟩
    cases hr <;> rfl
  | tup ha hz hr =>
    cases h
    refine .inr (.inl ⟨_, SqT.of (s _ _ ha), ?_⟩)
    cases hr <;> rfl
  | _ => cases h
theorem tru_vl {K : PySem.W.Frag} {v : V} {x : Vl} {t : Bool} (sy : Sy T Hs H ρ h) (r : VlR T Hs ρ v x) (e : truH h x = some t) : TruV K v H t := by
  cases x with
  | fz d => exact tru_rep sy.sub r e
  | rf n =>
    obtain ⟨a, ha, rfl⟩ := r
    simp only [truH] at e
    cases w : h[n]? with
    | none => rw [w] at e; cases e
    | some oo =>
      rw [w] at e
      cases oo with
      | none => cases e
      | some o =>
        obtain ⟨_, mr⟩ := sy.ob n o a w ha
        cases o with
        | lst xs =>
          obtain ⟨vs, g1, g2, g3⟩ := mr
          cases e
          refine .inl ⟨_, SqL.of g1, ?_⟩
          cases g3 <;> rfl
        | dct kvs =>
          obtain ⟨ks, g1, g2, g3⟩ := mr
          cases e
          refine .inr (.inr ⟨_, g1, ?_⟩)
          cases g3 <;> rfl
        | ins c fs => cases e
theorem t_val {f : Env → Hm → R Vl} (ha : PE X a (semE D f)) (he : ∀ whole, isTrue a X.env whole = (do let v ← whole; standAt a.pos; holding [v] (truthy v))) : PT X a (semT D (valT f)) := by
  refine PT.imp (pt_truth ha he) fun σ H Q z => ?_
  obtain ⟨Hs, ρ, h, env, sy, er, p⟩ := z
  refine ⟨Hs, ρ, h, env, sy, er, Post.bind (f := truR) p fun d h1 H1 Hs1 ρ1 t1 p1 sy1 q1 v rv => ?_⟩
  unfold truR at q1
  cases w : truH h1 d with
  | none => rw [w] at q1; exact q1.elim
  | some t =>
    rw [w] at q1
    exact ⟨t, tru_vl sy1 rv w, q1 H1 Hs1 ρ1 Tr.refl Pre.refl sy1⟩
theorem blR_ok {f : Env → Hm → R Vl} {σ : L2.St} {H : Hp} {Q : Bool → Hp → Prop} (z : semT D (cmpT f) σ H Q) : semE D f σ H fun v H1 => ∃ k, v = .bl k ∧ Q k H1 := by
  obtain ⟨Hs, ρ, h, env, sy, er, p⟩ := z
  refine ⟨Hs, ρ, h, env, sy, er, Post.bind (f := blR) p fun d h1 H1 Hs1 ρ1 t1 p1 sy1 q1 v rv => ?_⟩
  cases d with
  | rf n => exact q1.elim
  | fz d =>
    replace rv : RepV D.T Hs1 v d := rv
    cases rv with
    | bl b => exact ⟨b, rfl, q1 H1 Hs1 ρ1 Tr.refl Pre.refl sy1⟩
    | _ => exact q1.elim
theorem t_cmp (hK : D.T.K = X.K) (hu : X.A.units + 65 < cLine) {k : Nat} (hk : k < 10) {f g : Env → Hm → R Vl} (ha : PE X a (semE D f)) (hb : PE X b (semE D g)) (hm : behindInMarks (cmpOf k) b = false) :
    PT X (.Compare a [cmpOf k] [b] pos) (semT D (cmpT (op2 f g (opA (cmpV k))))) := by
  refine PT.imp (pt_cmpR (cmp_ok hK hu k hk) ha hb hm) fun σ H Q z => ?_
  exact sem_op2 (kv_A (va_rA2 _)) σ H _ (blR_ok z)
theorem t_not {f : Env → Hm → R Bool} (ha : PT X a (semT D f)) : PT X (.UnaryOp .Not a pos) (semT D (notT f)) := by
  refine PT.imp (pt_not ha) fun σ H Q z => ?_
  obtain ⟨Hs, ρ, h, env, sy, er, p⟩ := z
  exact ⟨Hs, ρ, h, env, sy, er, Post.bind (f := fun t h => .ok (!t) h) p fun d h1 H1 Hs1 ρ1 t1 p1 sy1 q1 => q1 H1 Hs1 ρ1 Tr.refl Pre.refl sy1⟩
theorem t_and {f g : Env → Hm → R Bool} (ha : PT X a (semT D f)) (hb : PW X (.BoolOp .And (b :: rest) pos) (semT D g)) : PW X (.BoolOp .And (a :: b :: rest) pos) (semT D (andT f g)) := by
  refine ⟨fun wh pins s σ H Q I z => (pw_and ha hb).run wh pins s σ H Q I ?_⟩
  obtain ⟨Hs, ρ, h, env, sy, er, p⟩ := z
  refine ⟨Hs, ρ, h, env, sy, er, Post.bind (f := fun t h => if t = true then g env h else .ok false h) p fun t h1 H1 Hs1 ρ1 t1 p1 sy1 q1 => ?_⟩
  cases t with
  | true => exact iteT ⟨Hs1, ρ1, h1, env, sy1, er.mono t1.mono p1, q1⟩
  | false => exact iteF (q1 H1 Hs1 ρ1 Tr.refl Pre.refl sy1)
theorem t_or {f g : Env → Hm → R Bool} (ha : PT X a (semT D f)) (hb : PW X (.BoolOp .Or (b :: rest) pos) (semT D g)) : PW X (.BoolOp .Or (a :: b :: rest) pos) (semT D (orT f g)) := by
  refine ⟨fun wh pins s σ H Q I z => (pw_or ha hb).run wh pins s σ H Q I ?_⟩
  obtain ⟨Hs, ρ, h, env, sy, er, p⟩ := z
  refine ⟨Hs, ρ, h, env, sy, er, Post.bind (f := fun t h => if t = true then .ok true h else g env h) p fun t h1 H1 Hs1 ρ1 t1 p1 sy1 q1 => ?_⟩
  cases t with
  | true => exact iteT (q1 H1 Hs1 ρ1 Tr.refl Pre.refl sy1)
  | false => exact iteF ⟨Hs1, ρ1, h1, env, sy1, er.mono t1.mono p1, q1⟩
theorem t_yes {f : Env → Hm → R Bool} (hf : f = fun _ h => .ok true h) : ∀ σ H (Q : Bool → Hp → Prop), semT D f σ H Q → Q true H := fun σ H Q z => by
  subst hf
  obtain ⟨Hs, ρ, h, env, sy, er, p⟩ := z
  exact p H Hs ρ Tr.refl Pre.refl sy
/-! ### .. as values -/
theorem truR_ok {d : Vl} {α : Type} {R : Hp → Hp → List Addr → α → Prop} {v : V} {f : Bool → Hm → HV.R α} (sy : Sy D.T Hs H ρ h) (rv : VlR D.T Hs ρ v d) (q : Post D R Hs H ρ h ((truR d h).bind f)) : ∃ t, TruV X.K v H t ∧ Post D R Hs H ρ h (f t h) := by
  unfold truR at q
  cases w : truH h d with
  | none => rw [w] at q; exact q.elim
  | some t =>
    rw [w] at q
    exact ⟨t, tru_vl sy rv w, q⟩
theorem ev_and {f g : Env → Hm → R Vl} (ha : PE X a (semE D f)) (hb : PE X (.BoolOp .And (b :: rest) pos) (semE D g)) : PE X (.BoolOp .And (a :: b :: rest) pos) (semE D (andV f g)) := by
  refine PE.imp (pe_andT ha hb) fun σ H Q z => ?_
  obtain ⟨Hs, ρ, h, env, sy, er, p⟩ := z
  refine ⟨Hs, ρ, h, env, sy, er, Post.bind (f := fun d h => (truR d h).bind fun t h => if t = true then g env h else .ok d h) p fun d h1 H1 Hs1 ρ1 t1 p1 sy1 q1 v rv => ?_⟩
  obtain ⟨t, tr, q1⟩ := truR_ok (X := X) sy1 rv q1
  refine ⟨t, tr, ?_⟩
  cases t with
  | true => exact iteT ⟨Hs1, ρ1, h1, env, sy1, er.mono t1.mono p1, q1⟩
  | false => exact iteF (q1 H1 Hs1 ρ1 Tr.refl Pre.refl sy1 v rv)
theorem ev_or {f g : Env → Hm → R Vl} (ha : PE X a (semE D f)) (hb : PE X (.BoolOp .Or (b :: rest) pos) (semE D g)) : PE X (.BoolOp .Or (a :: b :: rest) pos) (semE D (orV f g)) := by
  refine PE.imp (pe_orT ha hb) fun σ H Q z => ?_
  obtain ⟨Hs, ρ, h, env, sy, er, p⟩ := z
  refine ⟨Hs, ρ, h, env, sy, er, Post.bind (f := fun d h => (truR d h).bind fun t h => if t = true then .ok d h else g env h) p fun d h1 H1 Hs1 ρ1 t1 p1 sy1 q1 v rv => ?_⟩
  obtain ⟨t, tr, q1⟩ := truR_ok (X := X) sy1 rv q1
  refine ⟨t, tr, ?_⟩
  cases t with
  | false => exact iteF ⟨Hs1, ρ1, h1, env, sy1, er.mono t1.mono p1, q1⟩
  | true => exact iteT (q1 H1 Hs1 ρ1 Tr.refl Pre.refl sy1 v rv)
theorem ev_not {f : Env → Hm → R Vl} (ha : PE X a (semE D f)) : PE X (.UnaryOp .Not a pos) (semE D (notV f)) := by
  refine PE.imp (pe_notT ha) fun σ H Q z => ?_
  obtain ⟨Hs, ρ, h, env, sy, er, p⟩ := z
  refine ⟨Hs, ρ, h, env, sy, er, Post.bind (f := fun d h => (truR d h).bind fun t h => R.ok (Vl.fz (.bl (!t))) h) p fun d h1 H1 Hs1 ρ1 t1 p1 sy1 q1 v rv => ?_⟩
  obtain ⟨t, tr, q1⟩ := truR_ok (X := X) sy1 rv q1
  exact ⟨t, tr, q1 H1 Hs1 ρ1 Tr.refl Pre.refl sy1 _ (RepV.bl _)⟩
theorem ev_if {u : Env → Hm → R Bool} {f g : Env → Hm → R Vl} (hc : PT X c (semT D u)) (ha : PE X a (semE D f)) (hb : PE X b (semE D g)) : PE X (.IfExp c a b pos) (semE D (ifV u f g)) := by
  refine PE.imp (pe_ifExp hc ha hb) fun σ H Q z => ?_
  obtain ⟨Hs, ρ, h, env, sy, er, p⟩ := z
  refine ⟨Hs, ρ, h, env, sy, er, Post.bind (f := fun t h => if t = true then f env h else g env h) p fun t h1 H1 Hs1 ρ1 t1 p1 sy1 q1 => ?_⟩
  cases t with
  | true => exact iteT ⟨Hs1, ρ1, h1, env, sy1, er.mono t1.mono p1, q1⟩
  | false => exact iteF ⟨Hs1, ρ1, h1, env, sy1, er.mono t1.mono p1, q1⟩
/-! ### a op b op c -/
theorem opA_ok {α : Type} {g : PV → PV → Option PV} {x y : V} {a b : Vl} {R : Hp → Hp → List Addr → α → Prop} {f : Vl → Hm → HV.R α} (sy : Sy D.T Hs H ρ h) (rx : VlR D.T Hs ρ x a) (ry : VlR D.T Hs ρ y b) (q : Post D R Hs H ρ h ((opA g a b h).bind f)) :
    ∃ Hx Hy d1 d2 d, Same Hx H ∧ Same Hy H ∧ RepV D.T Hx x d1 ∧ RepV D.T Hy y d2 ∧ g d1 d2 = some d ∧ Post D R Hs H ρ h (f (.fz d) h) := by
  unfold opA at q
  cases w : vw h a with
  | none => simp only [w] at q; exact q.elim
  | some d1 =>
    cases w2 : vw h b with
    | none => simp only [w, w2] at q; exact q.elim
    | some d2 =>
      simp only [w, w2] at q
      obtain ⟨Hx, x1, x2, x3⟩ := vw_ok sy rx w
      obtain ⟨Hy, y1, y2, y3⟩ := vw_ok sy ry w2
      cases w3 : g d1 d2 with
      | none => rw [w3] at q; exact q.elim
      | some d => rw [w3] at q; exact ⟨Hx, Hy, d1, d2, d, x2, y2, x3, y3, w3, q⟩
theorem sem_chain {k j : Nat} {f g u : Env → Hm → R Vl} : ∀ σ H Q, semE D (chainV k j f g u) σ H Q → tChain (rA2 D.T (cmpV k)) (rA2 D.T (cmpV j)) (semE D f) (semE D g) (semE D u) σ H Q := by
  intro σ H Q z
  obtain ⟨Hs, ρ, h, env, sy, er, p⟩ := z
  refine ⟨Hs, ρ, h, env, sy, er, Post.bind (f := fun x h => (g env h).bind fun y h => (opA (cmpV k) x y h).bind fun z h => match z with
    | .fz (.bl true) => (u env h).bind fun w h => opA (cmpV j) y w h
    | .fz (.bl false) => .ok (.fz (.bl false)) h
    | _ => .stuck) p fun x h1 H1 Hs1 ρ1 t1 p1 sy1 q1 v rv => ?_⟩
  refine ⟨Hs1, ρ1, h1, env, sy1, er.mono t1.mono p1, q1.bind fun y h2 H2 Hs2 ρ2 t2 p2 sy2 q2 w ry => ?_⟩
  have rx := rv.mono t2.mono p2
  obtain ⟨Hx, Hy, d1, d2, d, s1, s2, r1, r2, e, q2⟩ := opA_ok sy2 rx ry q2
  refine ⟨Hx, Hy, d1, d2, d, s1, s2, r1, r2, e, fun v rv => ?_⟩
  cases d with
  | bl t =>
    have rv := rv Hs2
    cases rv
    refine ⟨t, rfl, ?_⟩
    cases t with
    | false => exact iteF (q2 H2 Hs2 ρ2 Tr.refl Pre.refl sy2 _ (RepV.bl _))
    | true =>
      refine iteT ⟨Hs2, ρ2, h2, env, sy2, (er.mono t1.mono p1).mono t2.mono p2, Post.bind (f := fun w h => opA (cmpV j) y w h) q2 fun z h3 H3 Hs3 ρ3 t3 p3 sy3 q3 x3 rz => ?_⟩
      exact kv_A (va_rA2 _) w x3 y z Hs3 H3 ρ3 h3 Q sy3 (ry.mono t3.mono p3) rz q3
  | _ => exact q2.elim
theorem ev_chain (hK : D.T.K = X.K) (hu : X.A.units + 65 < cLine) {k j : Nat} (hk : k < 10) (hj : j < 10) {f g u : Env → Hm → R Vl} (ha : PE X a (semE D f)) (hb : PE X b (semE D g)) (hc : PE X c (semE D u)) (hm : behindInMarks (cmpOf j) c = false) :
    PE X (.Compare a [cmpOf k, cmpOf j] [b, c] pos) (semE D (chainV k j f g u)) :=
  PE.imp (pe_chain (cmp_ok hK hu k hk) (cmp_ok hK hu j hj) ha hb hc hm) sem_chain
theorem t_chain (hK : D.T.K = X.K) (hu : X.A.units + 65 < cLine) {k j : Nat} (hk : k < 10) (hj : j < 10) {f g u : Env → Hm → R Vl} (ha : PE X a (semE D f)) (hb : PE X b (semE D g)) (hc : PE X c (semE D u)) (hm : behindInMarks (cmpOf j) c = false) :
    PT X (.Compare a [cmpOf k, cmpOf j] [b, c] pos) (semT D (cmpT (chainV k j f g u))) := by
  refine PT.imp (pt_chain (cmp_ok hK hu k hk) (cmp_ok hK hu j hj) ha hb hc hm) fun σ H Q z => ?_
  exact sem_chain σ H _ (blR_ok z)
/-! ### displays -/
theorem es_nil : PA X [] (semA D esNil) := PA.imp pa_nil fun σ H Q z => by
  obtain ⟨Hs, ρ, h, env, sy, er, p⟩ := z
  exact p H Hs ρ Tr.refl Pre.refl sy [] .nil
theorem es_cons {f : Env → Hm → R Vl} {g : Env → Hm → R (List Vl)} (he : PE X e (semE D f)) (hr : PA X es (semA D g)) (hs : starEach (e :: es) X.env = (false, eval e X.env) :: starEach es X.env) : PA X (e :: es) (semA D (esCons f g)) := by
  refine PA.imp (pa_cons he hr hs) fun σ H Q z => ?_
  obtain ⟨Hs, ρ, h, env, sy, er, p⟩ := z
  refine ⟨Hs, ρ, h, env, sy, er, Post.bind (f := fun d h => (g env h).bind fun ds h => .ok (d :: ds) h) p fun d h1 H1 Hs1 ρ1 t1 p1 sy1 q1 v rv => ?_⟩
  refine ⟨Hs1, ρ1, h1, env, sy1, er.mono t1.mono p1, q1.bind fun ds h2 H2 Hs2 ρ2 t2 p2 sy2 q2 vs rs => ?_⟩
  exact q2 H2 Hs2 ρ2 Tr.refl Pre.refl sy2 (v :: vs) (.cons (rv.mono t2.mono p2) rs)
theorem Post.frzsB {α : Type} {R : Hp → Hp → List Addr → α → Prop} {f : List PV → Hm → HV.R α} (sy : Sy D.T Hs H ρ h) {xs : List Vl} {vs : List V} (r : VlsR D.T Hs ρ vs xs) (p : Post D R Hs H ρ h ((frzs xs h).bind f)) :
    ∃ Hs' h' ds, FzOk D.T H ρ Hs h Hs' h' ∧ RepVs D.T Hs' vs ds ∧ Post D R Hs' H ρ h' (f ds h') := by
  cases w : frzs xs h with
  | stuck => rw [w] at p; exact p.elim
  | exc c ps h1 => exact (frzs_exc w).elim
  | ok d h1 =>
    rw [w] at p
    obtain ⟨Hs1, ⟨s1, t1⟩, g⟩ := frzs_ok sy r w
    exact ⟨Hs1, h1, d, ⟨s1, t1⟩, g, Post.back t1 Pre.refl (show Post D R Hs H ρ h (f d h1) from p)⟩
theorem ev_lst {g : Env → Hm → R (List Vl)} (hh : PA X es (semA D g)) : PE X (.List es pos) (semE D (lstE g)) := by
  refine PE.imp (pe_lst hh) fun σ H Q z => ?_
  obtain ⟨Hs, ρ, h, env, sy, er, p⟩ := z
  refine ⟨Hs, ρ, h, env, sy, er, Post.bind (f := fun ds h => if ds.length ≤ LIM then (frzs ds h).bind fun ds h => R.ok (Vl.fz (.lst ds)) h else .stuck) p fun ds h1 H1 Hs1 ρ1 t1 p1 sy1 q1 vs rs => ?_⟩
  by_cases hl : ds.length ≤ LIM
  · rw [if_pos hl] at q1
    rw [lim_eq] at hl
    refine ⟨by rw [Paired.length rs]; exact hl, fun a ha => ?_⟩
    obtain ⟨Hs2, h2, d2, ⟨s2, t2⟩, r2, q2⟩ := Post.frzsB sy1 rs q1
    obtain ⟨s3, t3⟩ := s2.alloc (o := .lst vs) ha
    exact q2 _ _ ρ1 t3 Pre.refl s3 (.ref a) (RepV.lst upd_same (by rw [← r2.length, Paired.length rs]; exact hl) (r2.mono t3.mono))
  · rw [if_neg hl] at q1; exact q1.elim
theorem ev_tup {x1 : Nat} {g : Env → Hm → R (List Vl)} (hh : PA X es (semA D g)) : PE X (.Tuple es x1 pos) (semE D (tupE g)) := by
  refine PE.imp (pe_tup hh) fun σ H Q z => ?_
  obtain ⟨Hs, ρ, h, env, sy, er, p⟩ := z
  refine ⟨Hs, ρ, h, env, sy, er, Post.bind (f := fun ds h => if ds.length ≤ LIM then (frzs ds h).bind fun ds h => R.ok (Vl.fz (.tup ds)) h else .stuck) p fun ds h1 H1 Hs1 ρ1 t1 p1 sy1 q1 vs rs => ?_⟩
  by_cases hl : ds.length ≤ LIM
  · rw [if_pos hl] at q1
    rw [lim_eq] at hl
    refine ⟨by rw [Paired.length rs]; exact hl, fun a ha => ?_⟩
    obtain ⟨Hs2, h2, d2, ⟨s2, t2⟩, r2, q2⟩ := Post.frzsB sy1 rs q1
    obtain ⟨s3, t3⟩ := s2.alloc (o := .tup vs) ha
    exact q2 _ _ ρ1 t3 Pre.refl s3 (.ref a) (RepV.tup upd_same (by rw [← r2.length, Paired.length rs]; exact hl) (r2.mono t3.mono))
  · rw [if_neg hl] at q1; exact q1.elim
theorem ev_nlst {g : Env → Hm → R (List Vl)} (hh : PA X es (semA D g)) : PE X (.List es pos) (semE D (nlstE g)) := by
  refine PE.imp (pe_lst hh) fun σ H Q z => ?_
  obtain ⟨Hs, ρ, h, env, sy, er, p⟩ := z
  refine ⟨Hs, ρ, h, env, sy, er, Post.bind (f := fun ds h => if ds.length ≤ LIM then newL ds h else .stuck) p fun ds h1 H1 Hs1 ρ1 t1 p1 sy1 q1 vs rs => ?_⟩
  by_cases hl : ds.length ≤ LIM
  · rw [if_pos hl] at q1
    rw [lim_eq] at hl
    refine ⟨by rw [Paired.length rs]; exact hl, fun a ha => ?_⟩
    obtain ⟨s3, t3⟩ := sy1.new (u := .lst vs) (o := .lst ds) ha ⟨vs, upd_same, hl, VlsR.mono (Same.refl _) Pre.app rs⟩
    exact q1 _ _ _ t3 Pre.app s3 (.ref a) ⟨a, by rw [← sy1.len]; simp, rfl⟩
  · rw [if_neg hl] at q1; exact q1.elim
end
end HV

end

section
/-! V6: slices, built-ins, methods of lists, calls of defs, new instances. -/
namespace HV
open PySem PySem.Spec PyProof.Rows L2
section
variable {D : Wd} {T : Tb} {Hs H Hs' H' : Hp} {ρ ρ' : List Addr} {h h' : Hm} {σ : L2.St} {env : Env} {X : Cx} {e o a b c : Expr} {es rest : List Expr} {apos cpos pos pos' p p2 : Pos}
/-! ### a list's items, all of which stay -/
theorem allF_ok : ∀ {xs : List Vl} {vs : List V} {ds : List PV}, VlsR T Hs ρ vs xs → allF xs = some ds → RepVs T Hs vs ds
  | [], _, _, .nil, e => by cases e; exact .nil
  | .rf n :: xs, _, _, .cons _ _, e => by cases e
  | .fz d :: xs, _, ds, .cons r t, e => by
    simp only [allF] at e
    cases w : allF xs with
    | none => rw [w] at e; cases e
    | some ds' => rw [w] at e; cases e; exact .cons r (allF_ok t w)
theorem allFd_ok : ∀ {xs : List (PV × Vl)} {vs : List (Key × V)} {ds : List (PV × PV)}, Paired (KvR T Hs ρ) vs xs → allFd xs = some ds → RepKs T Hs vs ds
  | [], _, _, .nil, e => by cases e; exact .nil
  | (k, .rf n) :: xs, _, _, .cons _ _, e => by cases e
  | (k, .fz d) :: xs, _, ds, .cons r t, e => by
    simp only [allFd] at e
    cases w : allFd xs with
    | none => rw [w] at e; cases e
    | some ds' => rw [w] at e; cases e; exact .cons r.1 r.2 (allFd_ok t w)
theorem shal_ok (sy : Sy T Hs H ρ h) {v : V} {x : Vl} {d : PV} (r : VlR T Hs ρ v x) (e : shal h x = some d) : RepV T Hs v d ∨ (∃ a vs ds, v = .ref a ∧ d = .lst ds ∧ H a = some (.lst vs) ∧ ds.length ≤ sizeLine ∧ RepVs T Hs vs ds) ∨ ∃ a vs ds, v = .ref a ∧ d = .dct ds ∧ H a = some (.dK vs) ∧ ds.length ≤ sizeLine ∧ RepKs T Hs vs ds := by
  cases x with
  | fz d' => cases e; exact .inl r
  | rf n =>
    obtain ⟨a, ha, rfl⟩ := r
    simp only [shal] at e
    cases w : h[n]? with
    | none => rw [w] at e; cases e
    | some oo =>
      rw [w] at e
      cases oo with
      | none => cases e
      | some o =>
        obtain ⟨_, mr⟩ := sy.ob n o a w ha
        cases o with
        | lst xs =>
          obtain ⟨vs, g1, g2, g3⟩ := mr
          dsimp only at e
          cases w2 : allF xs with
          | none => rw [w2] at e; cases e
          | some ds =>
            rw [w2] at e
            cases e
            have q := allF_ok g3 w2
            exact .inr (.inl ⟨a, vs, ds, rfl, rfl, g1, by rw [← q.length, Paired.length g3]; exact g2, q⟩)
        | dct kvs =>
          obtain ⟨vs, g1, g2, g3⟩ := mr
          dsimp only at e
          cases w2 : allFd kvs with
          | none => rw [w2] at e; cases e
          | some ds =>
            rw [w2] at e
            cases e
            have q := allFd_ok g3 w2
            exact .inr (.inr ⟨a, vs, ds, rfl, rfl, g1, by rw [← q.length, Paired.length g3]; exact g2, q⟩)
        | ins c fs => cases e
theorem kv_list : KV1 D (fun x H Q => ∃ p ys, [x] = [V.ref p] ∧ (SqL D.T.K H p ys ∨ SqT D.T.K H p ys) ∧ ∀ l, H l = none → Q (.ref l) (upd H l (.lst ys))) (opS1 listV) := by
  intro x a Hs H ρ h Q sy rx p
  unfold opS1 at p
  cases w : shal h a with
  | none => simp only [w] at p; exact p.elim
  | some d =>
    simp only [w] at p
    obtain ⟨d', w2, k⟩ := p.liftF sy
    rcases shal_ok sy rx w with r | ⟨a, vs, ds, rfl, rfl, g1, g2, g3⟩ | ⟨a, vs, ds, rfl, rfl, g1, g2, g3⟩
    · exact list_ok x d d' Hs H Q sy.sub r w2 k
    · cases w2
      exact ⟨a, vs, rfl, .inl (SqL.of g1), fun l hl => k _ _ _ (Grow.one hl) (.lst upd_same g2 (g3.mono ((Grow.one (o := .lst vs) hl).same sy.sub).1))⟩
    · cases w2
theorem kv_tuple : KV1 D (fun x H Q => ∃ p ys, [x] = [V.ref p] ∧ ((SqL D.T.K H p ys ∧ ∀ l, H l = none → Q (.ref l) (upd H l (.tup ys))) ∨ (SqT D.T.K H p ys ∧ Q (.ref p) H))) (opS1 tupleV) := by
  intro x a Hs H ρ h Q sy rx p
  unfold opS1 at p
  cases w : shal h a with
  | none => simp only [w] at p; exact p.elim
  | some d =>
    simp only [w] at p
    obtain ⟨d', w2, k⟩ := p.liftF sy
    rcases shal_ok sy rx w with r | ⟨a, vs, ds, rfl, rfl, g1, g2, g3⟩ | ⟨a, vs, ds, rfl, rfl, g1, g2, g3⟩
    · exact tuple_ok x d d' Hs H Q sy.sub r w2 k
    · cases w2
      exact ⟨a, vs, rfl, .inl ⟨SqL.of g1, fun l hl => k _ _ _ (Grow.one hl) (.tup upd_same g2 (g3.mono ((Grow.one (o := .tup vs) hl).same sy.sub).1))⟩⟩
    · cases w2
/-! ### built-ins by name -/
theorem CallR.imp {f : Value} {r r' : List V → Hp → VK → Prop} (h : CallR X f r) (k : ∀ xs H Q, r' xs H Q → r xs H Q) : CallR X f r' := fun pins s σ H xs us Q I rv q => h pins s σ H xs us Q I rv (k xs H Q q)
theorem ev_b1 {x : Str} {id : String} {r : List V → Hp → VK → Prop} {k : Vl → Hm → R Vl} {f : Env → Hm → R Vl} (hc : CallR X (.builtin id) r) (hv : KV1 D (fun x H Q => r [x] H Q) k) (hg : Gl X x) (hm : X.mg x = none) (hb : bootBuiltins x = some (.builtin id))
    (hn : x ≠ "__name__") (hdb : (x == ("__debug__" : Str)) = false) (ha : PE X a (semE D f)) (hs : argX a = true) : PE X (.Call (.Name x p) [a] [] pos) (semE D (op1 f k)) := by
  have hst : starEach [a] X.env = [(false, eval a X.env)] := star_of hs
  exact PE.imp (pe_callB hc hg hm hb (pa_cons ha pa_nil hst) hn hdb hst rfl) fun σ H Q z => (sem_op1 (rr := fun x H Q => r [x] H Q) hv σ H Q z : semE D f σ H fun x H1 => r [x] H1 Q)
theorem ev_t1 {x : Str} {id : String} {r : List V → Hp → VK → Prop} {k : Vl → Hm → R Vl} {f : Env → Hm → R Vl} (hc : CallR X (.type id) r) (hv : KV1 D (fun x H Q => r [x] H Q) k) (hg : Gl X x) (hm : X.mg x = none) (hb : bootBuiltins x = some (.type id))
    (hn : x ≠ "__name__") (hdb : (x == ("__debug__" : Str)) = false) (ha : PE X a (semE D f)) (hs : argX a = true) : PE X (.Call (.Name x p) [a] [] pos) (semE D (op1 f k)) := by
  have hst : starEach [a] X.env = [(false, eval a X.env)] := star_of hs
  exact PE.imp (pe_callTy hc hg hm hb (pa_cons ha pa_nil hst) hn hdb hst rfl) fun σ H Q z => (sem_op1 (rr := fun x H Q => r [x] H Q) hv σ H Q z : semE D f σ H fun x H1 => r [x] H1 Q)
theorem ev_b2 {x : Str} {id : String} {r : List V → Hp → VK → Prop} {k : Vl → Vl → Hm → R Vl} {f g : Env → Hm → R Vl} (hc : CallR X (.builtin id) r) (hv : KV2 D (fun x y H Q => r [x, y] H Q) k) (hg : Gl X x) (hm : X.mg x = none) (hb : bootBuiltins x = some (.builtin id))
    (hn : x ≠ "__name__") (hdb : (x == ("__debug__" : Str)) = false) (ha : PE X a (semE D f)) (hb2 : PE X b (semE D g)) (hs : argX a = true) (hs2 : argX b = true) : PE X (.Call (.Name x p) [a, b] [] pos) (semE D (op2 f g k)) := by
  have hst2 : starEach [b] X.env = [(false, eval b X.env)] := star_of hs2
  have hst : starEach [a, b] X.env = (false, eval a X.env) :: starEach [b] X.env := star_of hs
  exact PE.imp (pe_callB hc hg hm hb (pa_cons ha (pa_cons hb2 pa_nil hst2) hst) hn hdb hst (back_any (by simp [argsX, hs2]))) fun σ H Q z => sem_op2 (rr := fun x y H Q => r [x, y] H Q) hv σ H Q z
theorem ev_isi (ok : TbOk D.T) (hK : D.T.K = X.K) {f g : Env → Hm → R Vl} (hg : Gl X "isinstance") (hm : X.mg "isinstance" = none) (ha : PE X a (semE D f)) (hb : PE X b (semE D g)) (hs : argX a = true) (hs2 : argX b = true) :
    PE X (.Call (.Name "isinstance" p) [a, b] [] pos) (semE D (op2 f g (opA isiV))) := by
  refine ev_b2 (call_isi.or call_isiT) ?_ hg hm boot_isinstance (by decide) (by decide) ha hb hs hs2
  have q := kv_A (isi_ok ok)
  rw [hK] at q
  exact q
theorem call_lenK : CallR X (.builtin "len") (fun xs H Q => ∃ a kvs, xs = [V.ref a] ∧ Rd H a (.dK kvs) ∧ Q (.int kvs.length) H) := by
  intro pins s σ H xs us Q I r h
  obtain ⟨a, kvs, rfl, hx, q⟩ := h
  obtain ⟨u, rfl, rx⟩ := vals1 r
  cases rx
  exact d_len I hx fun t s' I' => ⟨.int kvs.length, H, I', ⟨t, rfl⟩, q⟩
theorem kv_len : KV1 D (fun x H Q => (∃ y n, [x] = [y] ∧ LenV D.T.K y H n ∧ Q (.int n) H) ∨ ∃ a kvs, [x] = [V.ref a] ∧ Rd H a (.dK kvs) ∧ Q (.int kvs.length) H) lenH := by
  intro x a Hs H ρ h Q sy rx p
  unfold lenH at p
  cases a with
  | fz d =>
    dsimp only at p
    obtain ⟨d', w, k⟩ := p.liftF sy
    exact len_ok x d d' Hs H Q sy.sub rx w fun v rv => k v Hs H .refl (rv _)
  | rf n =>
    obtain ⟨a, ha, rfl⟩ := rx
    dsimp only at p
    cases w : h[n]? with
    | none => rw [w] at p; exact p.elim
    | some oo =>
      rw [w] at p
      cases oo with
      | none => exact p.elim
      | some o =>
        obtain ⟨_, mr⟩ := sy.ob n o a w ha
        cases o with
        | lst xs =>
          obtain ⟨vs, g1, g2, g3⟩ := mr
          have := p H Hs ρ Tr.refl Pre.refl sy (.int (vs.length : Nat)) (by rw [Paired.length g3]; exact RepV.int _)
          exact .inl ⟨_, vs.length, rfl, .inl ⟨vs, SqL.of g1, rfl⟩, this⟩
        | dct kvs =>
          obtain ⟨ks, g1, g2, g3⟩ := mr
          refine .inr ⟨a, ks, rfl, .inl g1, ?_⟩
          rw [Paired.length g3]
          exact p H Hs ρ Tr.refl Pre.refl sy _ (RepV.int _)
        | ins c fs => exact p.elim
theorem ev_len (hK : D.T.K = X.K) {f : Env → Hm → R Vl} (hg : Gl X "len") (hm : X.mg "len" = none) (ha : PE X a (semE D f)) (hs : argX a = true) : PE X (.Call (.Name "len" p) [a] [] pos) (semE D (op1 f lenH)) := by
  refine ev_b1 (r := fun xs H Q => (∃ x n, xs = [x] ∧ LenV X.K x H n ∧ Q (.int n) H) ∨ ∃ a kvs, xs = [V.ref a] ∧ Rd H a (.dK kvs) ∧ Q (.int kvs.length) H) (call_len.or call_lenK) ?_ hg hm boot_len (by decide) (by decide) ha hs
  rw [← hK]
  exact kv_len
theorem ev_int {f : Env → Hm → R Vl} (hg : Gl X "int") (hm : X.mg "int" = none) (ha : PE X a (semE D f)) (hs : argX a = true) : PE X (.Call (.Name "int" p) [a] [] pos) (semE D (op1 f (opA1 intV))) :=
  ev_t1 call_int1 (kv_A1 int_ok) hg hm boot_int (by decide) (by decide) ha hs
theorem ev_all (hK : D.T.K = X.K) (hc : X.calm = true) {f : Env → Hm → R Vl} (hg : Gl X "all") (hm : X.mg "all" = none) (ha : PE X a (semE D f)) (hs : argX a = true) : PE X (.Call (.Name "all" p) [a] [] pos) (semE D (op1 f (opA1 allV))) :=
  ev_b1 (call_all hc hK) (kv_A1 (va_rA1 allV)) hg hm (by decide +kernel) (by decide) (by decide) ha hs
theorem ev_any (hK : D.T.K = X.K) (hc : X.calm = true) {f : Env → Hm → R Vl} (hg : Gl X "any") (hm : X.mg "any" = none) (ha : PE X a (semE D f)) (hs : argX a = true) : PE X (.Call (.Name "any" p) [a] [] pos) (semE D (op1 f (opA1 anyV))) :=
  ev_b1 (call_any hc hK) (kv_A1 (va_rA1 anyV)) hg hm (by decide +kernel) (by decide) (by decide) ha hs
theorem ev_list (hK : D.T.K = X.K) {f : Env → Hm → R Vl} (hg : Gl X "list") (hm : X.mg "list" = none) (ha : PE X a (semE D f)) (hs : argX a = true) : PE X (.Call (.Name "list" p) [a] [] pos) (semE D (op1 f (opS1 listV))) := by
  refine ev_t1 call_list_of ?_ hg hm boot_list (by decide) (by decide) ha hs
  rw [← hK]
  exact kv_list
theorem ev_tuple (hK : D.T.K = X.K) {f : Env → Hm → R Vl} (hg : Gl X "tuple") (hm : X.mg "tuple" = none) (ha : PE X a (semE D f)) (hs : argX a = true) : PE X (.Call (.Name "tuple" p) [a] [] pos) (semE D (op1 f (opS1 tupleV))) := by
  refine ev_t1 call_tuple_of ?_ hg hm boot_tuple (by decide) (by decide) ha hs
  rw [← hK]
  exact kv_tuple
/-! ### slices -/
def semB (D : Wd) (f : Env → Hm → R (Option Int)) : TO := fun σ H Q => ∃ Hs ρ h env, Sy D.T Hs H ρ h ∧ EnvR D.T Hs ρ σ env ∧ Post D (fun Hs' H' ρ' i => Q i H') Hs H ρ h (f env h)
theorem b_none : PO X none (semB D (bdE none)) := by
  refine ⟨fun pins s σ H Q I z => po_none.run pins s σ H Q I ?_⟩
  obtain ⟨Hs, ρ, h, env, sy, er, p⟩ := z
  exact p H Hs ρ Tr.refl Pre.refl sy
theorem b_some {f : Env → Hm → R Vl} (hf : PE X e (semE D f)) : PO X (some e) (semB D (bdE (some f))) := by
  refine ⟨fun pins s σ H Q I z => (po_some hf).run pins s σ H Q I ?_⟩
  obtain ⟨Hs, ρ, h, env, sy, er, p⟩ := z
  refine ⟨Hs, ρ, h, env, sy, er, Post.bind (f := fun d h => match d with | .fz (.int i) => R.ok (some i) h | _ => .stuck) p fun d h1 H1 Hs1 ρ1 t1 p1 sy1 q1 v rv => ?_⟩
  cases d with
  | rf n => exact q1.elim
  | fz d =>
    replace rv : RepV D.T Hs1 v d := rv
    cases rv with
    | int i => exact ⟨i, rfl, q1 H1 Hs1 ρ1 Tr.refl Pre.refl sy1⟩
    | _ => exact q1.elim
abbrev rSlc (K : PySem.W.Frag) : V → Option Int → Option Int → Hp → VK → Prop := fun x lo hi H Q => rSlL K x lo hi H Q ∨ (rSlA K x lo hi H Q ∨ rSlS x lo hi H Q)
theorem ev_slc {f : Env → Hm → R Vl} {lo hi : Option Expr} {l u : Option (Env → Hm → R Vl)} (ha : PE X a (semE D f)) (hl : PO X lo (semB D (bdE l))) (hu : PO X hi (semB D (bdE u))) : PE X (.Subscript a (.Slice lo hi none p2) pos) (semE D (slcE f l u)) := by
  refine PE.imp (pe_slice (r := rSlc X.K) (sl_list.or (sl_tupA.or sl_str)) ha hl hu) fun σ H Q z => ?_
  obtain ⟨Hs, ρ, h, env, sy, er, p⟩ := z
  refine ⟨Hs, ρ, h, env, sy, er, Post.bind (f := fun x h => (bdE l env h).bind fun l h => (bdE u env h).bind fun u h => match shal h x with | some d => liftF (slcV d l u) h | none => .stuck) p fun x h1 H1 Hs1 ρ1 t1 p1 sy1 q1 v rv => ?_⟩
  refine ⟨Hs1, ρ1, h1, env, sy1, er.mono t1.mono p1, q1.bind fun lo h2 H2 Hs2 ρ2 t2 p2 sy2 q2 => ?_⟩
  refine ⟨Hs2, ρ2, h2, env, sy2, (er.mono t1.mono p1).mono t2.mono p2, q2.bind fun hi h3 H3 Hs3 ρ3 t3 p3 sy3 q3 => ?_⟩
  have rv := (rv.mono t2.mono p2).mono t3.mono p3
  cases w : shal h3 x with
  | none => rw [w] at q3; exact q3.elim
  | some d =>
    rw [w] at q3
    obtain ⟨d', w2, k⟩ := Post.liftF q3 sy3
    rcases shal_ok sy3 rv w with r | ⟨a, vs, ds, rfl, rfl, g1, g2, g3⟩ | ⟨a, vs, ds, rfl, rfl, g1, g2, g3⟩
    · cases r with
      | @lst a xs ds ha hz hr =>
        cases w2
        refine .inl ⟨a, xs, rfl, SqL.of (sy3.sub _ _ ha), fun p hp => ?_⟩
        exact k _ _ _ (Grow.one hp) (.lst upd_same (Nat.le_trans (cutP_len _ _ _) hz) ((cut_rep hr lo hi).mono ((Grow.one (o := .lst (cutV xs lo hi)) hp).same sy3.sub).1))
      | @tup a xs ds ha hz hr =>
        cases w2
        refine .inr (.inl ⟨a, xs, rfl, SqT.of (sy3.sub _ _ ha), fun hw => ?_, fun hw p hp => ?_⟩)
        · rw [hr.length] at hw
          rw [cutP_whole hw] at k
          exact k _ _ _ .refl (.tup ha hz hr)
        · exact k _ _ _ (Grow.one hp) (.tup upd_same (Nat.le_trans (cutP_len _ _ _) hz) ((cut_rep hr lo hi).mono ((Grow.one (o := .tup (cutV xs lo hi)) hp).same sy3.sub).1))
      | str s hs =>
        cases w2
        refine .inr (.inr ⟨tx s, rfl, by rw [tx_len]; exact hs.1, ?_⟩)
        have e : cutS (tx s) lo hi = tx (cutP s lo hi) := by
          unfold cutS cutP
          rw [tx_len, sIx_eq, sIx_eq]
          rfl
        rw [e]
        exact k _ _ _ .refl (.str _ ⟨Nat.le_trans (cutP_len _ _ _) hs.1, fun c hc => hs.2 c (List.mem_of_mem_drop (List.mem_of_mem_take hc))⟩)
      | _ => cases w2
    · cases w2
      refine .inl ⟨a, vs, rfl, SqL.of g1, fun p hp => ?_⟩
      exact k _ _ _ (Grow.one hp) (.lst upd_same (Nat.le_trans (cutP_len _ _ _) g2) ((cut_rep g3 lo hi).mono ((Grow.one (o := .lst (cutV vs lo hi)) hp).same sy3.sub).1))
    · cases w2
/-! ### methods of lists -/
theorem isLst_ok {K : PySem.W.Frag} (sy : Sy T Hs H ρ h) {v : V} {x : Vl} (r : VlR T Hs ρ v x) (e : isLstH h x = true) : tyV K "list" v H := by
  cases x with
  | fz d => cases e
  | rf n =>
    obtain ⟨a, ha, rfl⟩ := r
    simp only [isLstH] at e
    cases w : h[n]? with
    | none => rw [w] at e; cases e
    | some oo =>
      rw [w] at e
      cases oo with
      | none => cases e
      | some o =>
        obtain ⟨_, mr⟩ := sy.ob n o a w ha
        cases o with
        | lst xs => obtain ⟨vs, g1, g2, g3⟩ := mr; exact .inl ⟨rfl, _, SqL.of g1⟩
        | dct kvs => cases e
        | ins c fs => cases e
/-- what a rule asks, and what it writes -/
def WrOk (T : Tb) (w : List Vl → Option (Vl × List Vl)) (r : Addr → Hp → VK → Prop) (Hs : Hp) (ρ : List Addr) : Prop :=
  ∀ (H : Hp) (a : Addr) (vs : List V) (xs ys : List Vl) (z : Vl) (Q : VK), H a = some (.lst vs) → xs.length ≤ sizeLine → VlsR T Hs ρ vs xs → w xs = some (z, ys) → (∀ us v, ys.length ≤ sizeLine → VlsR T Hs ρ us ys → VlR T Hs ρ v z → Q v (upd H a (.lst us))) → r a H Q
theorem wrL_ok {w : List Vl → Option (Vl × List Vl)} {r : Addr → Hp → VK → Prop} {v : V} {x : Vl} {Q : VK} (sy : Sy D.T Hs H ρ h) (rv : VlR D.T Hs ρ v x) (hw : WrOk D.T w r Hs ρ) (p : PostV D Q Hs H ρ h (wrL x w h)) : ∃ a, v = .ref a ∧ tyV X.K "list" v H ∧ r a H Q := by
  unfold wrL at p
  cases x with
  | fz d => exact p.elim
  | rf n =>
    obtain ⟨a, ha, rfl⟩ := rv
    dsimp only at p
    cases e : h[n]? with
    | none => rw [e] at p; exact p.elim
    | some oo =>
      rw [e] at p
      cases oo with
      | none => exact p.elim
      | some o =>
        obtain ⟨_, mr⟩ := sy.ob n o a e ha
        cases o with
        | lst xs =>
          obtain ⟨vs, g1, g2, g3⟩ := mr
          dsimp only at p
          cases e2 : w xs with
          | none => rw [e2] at p; exact p.elim
          | some zy =>
            obtain ⟨z, ys⟩ := zy
            rw [e2] at p
            refine ⟨a, rfl, .inl ⟨rfl, _, SqL.of g1⟩, hw H a vs xs ys z Q g1 g2 g3 e2 fun us v hl hu hv => ?_⟩
            obtain ⟨s2, t2⟩ := sy.write (u := .lst us) (o' := .lst ys) e ha ⟨us, upd_same, hl, hu⟩
            exact p _ Hs ρ t2 Pre.refl s2 v hv
        | dct kvs => exact p.elim
        | ins c fs => exact p.elim
theorem ev_m1 {f g : Env → Hm → R Vl} {w : Vl → List Vl → Option (Vl × List Vl)} {name : Str} {id : String} {r : V → List V → Hp → VK → Prop} (slot : Slot "list" name id) (hty : typeOf (.builtin id) = pure (.type "method_descriptor")) (hm : MtM X id r)
    (hw : ∀ Hs ρ y dy, VlR D.T Hs ρ y dy → WrOk D.T (w dy) (fun a H Q => r (.ref a) [y] H Q) Hs ρ)
    (ho : PE X o (semE D f)) (he : PE X e (semE D g)) (hbase : attributeBase o name X.env (eval o X.env) = eval o X.env)
    (hs : starEach [e] X.env = [(false, eval e X.env)]) (hline : (apos.endLine == cpos.line) = true) :
    PE X (.Call (.Attribute o name apos) [e] [] cpos) (semE D fun env h => (f env h).bind fun x h => if isLstH h x = true then (g env h).bind fun y h => wrL x (w y) h else .stuck) := by
  refine PE.imp (pe_bm PySem.F.plainAttrs_list slot hty hm ho (pa_cons he pa_nil hs) hbase ?_ hline hs rfl) fun σ H Q z => ?_
  · rw [hs]; rfl
  obtain ⟨Hs, ρ, h, env, sy, er, p⟩ := z
  refine ⟨Hs, ρ, h, env, sy, er, Post.bind (f := fun x h => if isLstH h x = true then (g env h).bind fun y h => wrL x (w y) h else .stuck) p fun x h1 H1 Hs1 ρ1 t1 p1 sy1 q1 v rv => ?_⟩
  by_cases hl : isLstH h1 x = true
  · rw [if_pos hl] at q1
    refine ⟨isLst_ok sy1 rv hl, ⟨Hs1, ρ1, h1, env, sy1, er.mono t1.mono p1, q1.bind fun y h2 H2 Hs2 ρ2 t2 p2 sy2 q2 u ru => ?_⟩⟩
    obtain ⟨a, rfl, _, hr⟩ := wrL_ok (X := X) sy2 (rv.mono t2.mono p2) (hw Hs2 ρ2 u y ru) q2
    exact hr
  · rw [if_neg hl] at q1; exact q1.elim
theorem ev_append {f g : Env → Hm → R Vl} (ho : PE X o (semE D f)) (he : PE X e (semE D g)) (hbase : attributeBase o "append" X.env (eval o X.env) = eval o X.env)
    (hs : starEach [e] X.env = [(false, eval e X.env)]) (hline : (apos.endLine == cpos.line) = true) : PE X (.Call (.Attribute o "append" apos) [e] [] cpos) (semE D (appE f g)) := by
  refine ev_m1 (w := appW) PySem.F.slot_list_append PySem.F.type_list_append mt_append (fun Hs ρ y dy ry H a vs xs ys z Q g1 g2 g3 e k => ?_) ho he hbase hs hline
  unfold appW at e
  by_cases hl : xs.length < LIM
  · rw [if_pos hl] at e
    cases e
    rw [lim_eq] at hl
    exact ⟨a, vs, y, rfl, rfl, g1, by rw [Paired.length g3]; exact hl, k _ _ (by rw [List.length_append]; exact hl) (Paired.append g3 (.cons ry .nil)) RepV.non⟩
  · rw [if_neg hl] at e; cases e
theorem seqIx {n : Nat} {i : Int} {k : Nat} (h : ixP n i = some k) : seqIndex? i n = some k := by
  unfold ixP at h
  unfold seqIndex?
  split at h
  · split at h
    · cases h
      rename_i h1 h2
      have e : ¬ i < 0 := by omega
      simp [e]
      omega
    · cases h
  · split at h
    · cases h
      rename_i h1 h2
      have e : i < 0 := by omega
      simp [e]
      omega
    · cases h
theorem ixP_lt {n : Nat} {i : Int} {k : Nat} (hn : n ≤ sizeLine) (w : ixP n i = some k) : -(2 ^ 63) ≤ i ∧ i < 2 ^ 63 := by
  have : (sizeLine : Int) ≤ 2 ^ 62 := by rw [sizeLine_eq]; decide
  unfold ixP at w
  split at w
  · split at w
    · omega
    · cases w
  · split at w
    · omega
    · cases w
theorem len_erase {α : Type} (xs : List α) (k : Nat) : (xs.eraseIdx k).length ≤ xs.length := by
  rw [List.length_eraseIdx]; split <;> omega
theorem ev_popAt {f g : Env → Hm → R Vl} (ho : PE X o (semE D f)) (he : PE X e (semE D g)) (hbase : attributeBase o "pop" X.env (eval o X.env) = eval o X.env)
    (hs : starEach [e] X.env = [(false, eval e X.env)]) (hline : (apos.endLine == cpos.line) = true) : PE X (.Call (.Attribute o "pop" apos) [e] [] cpos) (semE D (popAtE f g)) := by
  refine ev_m1 (w := popAtW) PySem.F.slot_list_pop PySem.F.type_list_pop mt_popAt (fun Hs ρ y dy ry H a vs xs ys z Q g1 g2 g3 e k => ?_) ho he hbase hs hline
  unfold popAtW at e
  cases dy with
  | rf n => cases e
  | fz d =>
    replace ry : RepV D.T Hs y d := ry
    cases ry with
    | int i =>
      dsimp only at e
      cases w : ixP xs.length i with
      | none => rw [w] at e; cases e
      | some j =>
        simp only [w] at e
        cases w2 : xs[j]? with
        | none => rw [w2] at e; cases e
        | some y =>
          rw [w2] at e
          cases e
          obtain ⟨u, h1, h2⟩ := Paired.get g3 w2
          have hb := ixP_lt g2 w
          exact ⟨a, vs, i, j, u, rfl, rfl, g1, hb.1, hb.2, by rw [Paired.length g3]; exact seqIx w, h1, k _ _ (Nat.le_trans (len_erase xs j) g2) (Paired.erase j g3) h2⟩
    | _ => cases e
theorem ev_pop {f : Env → Hm → R Vl} (ho : PE X o (semE D f)) (hbase : attributeBase o "pop" X.env (eval o X.env) = eval o X.env)
    (hline : (apos.endLine == cpos.line) = true) : PE X (.Call (.Attribute o "pop" apos) [] [] cpos) (semE D (popE f)) := by
  refine PE.imp (pe_bm0 PySem.F.plainAttrs_list PySem.F.slot_list_pop PySem.F.type_list_pop mt_pop ho hbase hline) fun σ H Q z => ?_
  obtain ⟨Hs, ρ, h, env, sy, er, p⟩ := z
  refine ⟨Hs, ρ, h, env, sy, er, Post.bind (f := fun x h => wrL x popW h) p fun x h1 H1 Hs1 ρ1 t1 p1 sy1 q1 v rv => ?_⟩
  have hw : WrOk D.T popW (fun a H Q => rPop (.ref a) [] H Q) Hs1 ρ1 := fun H a vs xs ys z Q g1 g2 g3 e k => by
    unfold popW at e
    cases w : xs[xs.length - 1]? with
    | none => rw [w] at e; cases e
    | some y =>
      rw [w] at e
      cases e
      obtain ⟨u, h1, h2⟩ := Paired.get g3 w
      exact ⟨a, vs, u, rfl, rfl, g1, by rw [Paired.length g3]; exact h1, k _ _ (by rw [List.length_dropLast]; omega) (Paired.dropLast g3) h2⟩
  obtain ⟨a, rfl, ty, hr⟩ := wrL_ok (X := X) sy1 rv hw q1
  exact ⟨ty, hr⟩
theorem vls_fz : ∀ {vs : List V} {ds : List PV}, RepVs T Hs vs ds → VlsR T Hs ρ vs (ds.map Vl.fz)
  | _, _, .nil => .nil
  | _, _, .cons r t => .cons r (vls_fz t)
theorem items_ok (sy : Sy T Hs H ρ h) {v : V} {x : Vl} {ys : List Vl} (r : VlR T Hs ρ v x) (e : itemsH h x = some ys) : ∃ b zs, v = .ref b ∧ H b = some (.lst zs) ∧ VlsR T Hs ρ zs ys ∧ ys.length ≤ sizeLine := by
  cases x with
  | fz d =>
    replace r : RepV T Hs v d := r
    cases r with
    | lst ha hz hr => cases e; exact ⟨_, _, rfl, sy.sub _ _ ha, vls_fz hr, by rw [List.length_map]; exact hz⟩
    | _ => cases e
  | rf n =>
    obtain ⟨a, ha, rfl⟩ := r
    simp only [itemsH] at e
    cases w : h[n]? with
    | none => rw [w] at e; cases e
    | some oo =>
      rw [w] at e
      cases oo with
      | none => cases e
      | some o =>
        obtain ⟨_, mr⟩ := sy.ob n o a w ha
        cases o with
        | lst xs => obtain ⟨vs, g1, g2, g3⟩ := mr; cases e; exact ⟨a, vs, rfl, g1, g3, g2⟩
        | dct kvs => cases e
        | ins c fs => cases e
theorem ev_extend {f g : Env → Hm → R Vl} (ho : PE X o (semE D f)) (he : PE X e (semE D g)) (hbase : attributeBase o "extend" X.env (eval o X.env) = eval o X.env)
    (hs : starEach [e] X.env = [(false, eval e X.env)]) (hline : (apos.endLine == cpos.line) = true) : PE X (.Call (.Attribute o "extend" apos) [e] [] cpos) (semE D (extE f g)) := by
  refine PE.imp (pe_bm PySem.F.plainAttrs_list PySem.F.slot_list_extend PySem.F.type_list_extend mt_extend ho (pa_cons he pa_nil hs) hbase ?_ hline hs rfl) fun σ H Q z => ?_
  · rw [hs]; rfl
  obtain ⟨Hs, ρ, h, env, sy, er, p⟩ := z
  refine ⟨Hs, ρ, h, env, sy, er, Post.bind (f := fun x h => if isLstH h x = true then (g env h).bind fun y h => match x, itemsH h y with
    | .rf n, some ys => (match y with
      | .rf m => if m = n then R.stuck else wrL x (fun xs => if xs.length + ys.length ≤ LIM then some (Vl.fz .non, xs ++ ys) else none) h
      | .fz _ => wrL x (fun xs => if xs.length + ys.length ≤ LIM then some (Vl.fz .non, xs ++ ys) else none) h)
    | _, _ => .stuck
    else .stuck) p fun x h1 H1 Hs1 ρ1 t1 p1 sy1 q1 v rv => ?_⟩
  by_cases hl : isLstH h1 x = true
  · rw [if_pos hl] at q1
    refine ⟨isLst_ok sy1 rv hl, ⟨Hs1, ρ1, h1, env, sy1, er.mono t1.mono p1, q1.bind fun y h2 H2 Hs2 ρ2 t2 p2 sy2 q2 u ru => ?_⟩⟩
    have rv := rv.mono t2.mono p2
    cases x with
    | fz d => exact q2.elim
    | rf n =>
      cases w : itemsH h2 y with
      | none => rw [w] at q2; exact q2.elim
      | some ys =>
        rw [w] at q2
        obtain ⟨b, zs, rfl, hb, hz, hyl⟩ := items_ok sy2 ru w
        have q3 : PostV D Q Hs2 H2 ρ2 h2 (wrL (.rf n) (fun xs => if xs.length + ys.length ≤ LIM then some (Vl.fz .non, xs ++ ys) else none) h2) := by
          cases y with
          | fz d => exact q2
          | rf m =>
            dsimp only at q2
            by_cases hm : m = n
            · rw [if_pos hm] at q2; exact q2.elim
            · rw [if_neg hm] at q2; exact q2
        have hw : WrOk D.T (fun xs => if xs.length + ys.length ≤ LIM then some (Vl.fz .non, xs ++ ys) else none) (fun a H Q => H = H2 → rExtend (.ref a) [.ref b] H Q) Hs2 ρ2 := fun H a vs xs ys' z Q g1 g2 g3 e k eH => by
          subst eH
          dsimp only at e
          by_cases hl : xs.length + ys.length ≤ LIM
          · rw [if_pos hl] at e
            cases e
            rw [lim_eq] at hl
            exact ⟨a, b, vs, zs, rfl, rfl, g1, hb, by rw [Paired.length g3, Paired.length hz]; exact hl, k _ _ (by rw [List.length_append]; exact hl) (Paired.append g3 hz) RepV.non⟩
          · rw [if_neg hl] at e; cases e
        obtain ⟨a, rfl, _, hr⟩ := wrL_ok (X := X) sy2 rv hw q3
        exact hr rfl
  · rw [if_neg hl] at q1; exact q1.elim
/-! ### freezing -/
theorem ev_frz {f : Env → Hm → R Vl} (he : PE X e (semE D f)) : PE X e (semE D (frzE f)) := by
  refine PE.imp he fun σ H Q z => ?_
  obtain ⟨Hs, ρ, h, env, sy, er, p⟩ := z
  refine ⟨Hs, ρ, h, env, sy, er, Post.bind (f := fun v h => (HV.frz v h).bind fun d h => R.ok (Vl.fz d) h) p fun x h1 H1 Hs1 ρ1 t1 p1 sy1 q1 v rv => ?_⟩
  obtain ⟨Hs2, h2, d, ⟨s2, t2⟩, r2, q2⟩ := Post.frzB sy1 rv q1
  exact q2 H1 Hs2 ρ1 Tr.refl Pre.refl s2 v r2
/-! ### what a def promises -/
def spF (T : Tb) (fld : Nat → Nat) (φ : List Vl → Hm → R Vl) : Sp := fun vs H Q E => ∃ Hs ρ h as, Sy T Hs H ρ h ∧ VlsR T Hs ρ vs as ∧ PostV ⟨T, fld, E⟩ Q Hs H ρ h (φ as h)
theorem sem_call {φ : List Vl → Hm → R Vl} {g : Env → Hm → R (List Vl)} : ∀ σ H Q, semE D (callE φ g) σ H Q → tCall (spF D.T D.fld φ) [] D.E (semA D g) σ H Q := by
  intro σ H Q z
  obtain ⟨Hs, ρ, h, env, sy, er, p⟩ := z
  refine ⟨Hs, ρ, h, env, sy, er, Post.bind (f := fun as h => φ as h) p fun as h1 H1 Hs1 ρ1 t1 p1 sy1 q1 vs rs => ?_⟩
  show spF D.T D.fld φ (vs ++ []) H1 Q D.E
  rw [List.append_nil]
  exact ⟨Hs1, ρ1, h1, as, sy1, rs, q1⟩
/-- where a def stands -/
structure Fd (X : Cx) (k : Nat) (x : Str) (f : Addr) (fd : FuncData) (ps : List Str) (sp : Sp) : Prop where
  ok : FnOk X.prog X.w X.K X.mg X.base (L2.CX X.prog X.w) k f fd ps sp
  mg : X.mg x = some (.ref f)
  kp : PySem.W.keepIn X.K (.ref f) = true
  bd : Binds X.K fd ps []
theorem nil_A {σ : L2.St} {H : Hp} {Q : List V → Hp → Prop} (z : semA D esNil σ H Q) : Q [] H := by
  obtain ⟨Hs, ρ, h, env, sy, er, p⟩ := z
  exact p H Hs ρ Tr.refl Pre.refl sy [] .nil
theorem ev_call {φ : List Vl → Hm → R Vl} {g : Env → Hm → R (List Vl)} {k : Nat} {x : Str} {f : Addr} {fd : FuncData} {ps : List Str} (F : Fd X k x f fd ps (spF D.T D.fld φ)) (hr : Room k X.A) (hg : Gl X x) (hx : Passes (L2.CX X.prog X.w) X D.E)
    (ha : PA X es (semA D g)) (hn : es = [] → g = esNil) (hs : argsX es = true) (hdb : (x == ("__debug__" : Str)) = false) : PE X (.Call (.Name x p) es [] pos) (semE D (callE φ g)) := by
  cases es with
  | nil =>
    rw [hn rfl]
    exact PE.imp (pe_call0 F.ok hr hg F.mg F.kp F.bd .nil hx hdb) fun σ H Q z => nil_A (sem_call σ H Q z)
  | cons e es =>
    have h2 := Bool.and_eq_true_iff.mp (show (argX e && argsX es) = true from hs)
    exact PE.imp (pe_call F.ok hr hg F.mg F.kp F.bd .nil hx ha hdb (star_of h2.1) (back_any h2.2)) sem_call
/-! ### methods -/
theorem isInst_ok {c mm : Nat} (sy : Sy T Hs H ρ h) {v : V} {x : Vl} (r : VlR T Hs ρ v x) (e : isInst h c mm x = true) : ∃ a C dx fs, v = .ref a ∧ H a = some (.ins C dx fs) ∧ T.cls c = some C ∧ fs.lookup (nmS mm) = none := by
  cases x with
  | fz d =>
    replace r : RepV T Hs v d := r
    cases r with
    | obj ha hc hf =>
      rename_i a c' C dx fs ds
      simp only [isInst, Bool.and_eq_true, decide_eq_true_eq, Bool.not_eq_true'] at e
      obtain ⟨rfl, h2⟩ := e
      refine ⟨a, C, dx, fs, rfl, sy.sub _ _ ha, hc, fields_none hf fun z => ?_⟩
      rw [List.contains_iff_mem.mpr z] at h2
      cases h2
    | _ => cases e
  | rf n =>
    obtain ⟨a, ha, rfl⟩ := r
    simp only [isInst] at e
    cases w : h[n]? with
    | none => rw [w] at e; cases e
    | some oo =>
      rw [w] at e
      cases oo with
      | none => cases e
      | some o =>
        obtain ⟨_, mr⟩ := sy.ob n o a w ha
        cases o with
        | lst xs => cases e
        | dct kvs => cases e
        | ins c' fs =>
          obtain ⟨C, dx, gs, g1, g2, g3, g4⟩ := mr
          simp only [Bool.and_eq_true, decide_eq_true_eq, Bool.not_eq_true'] at e
          obtain ⟨rfl, h2⟩ := e
          refine ⟨a, C, dx, gs, rfl, g1, g2, fd_none g4 fun z => ?_⟩
          rw [List.contains_iff_mem.mpr z] at h2
          cases h2
structure Md (X : Cx) (k : Nat) (C : Addr) (mm : Nat) (f : Addr) (fd : FuncData) (ps : List Str) (sp : Sp) : Prop where
  ok : FnOk X.prog X.w X.K X.mg X.base (L2.CX X.prog X.w) k f fd ps sp
  cl : Cls X.K C
  mt : Meth X.K C (nmS mm) f
  bd : Binds X.K fd ps []
theorem sem_meth {c mm : Nat} {C : Addr} {φ : List Vl → Hm → R Vl} {f : Env → Hm → R Vl} {g : Env → Hm → R (List Vl)} (hc : D.T.cls c = some C) : ∀ σ H Q, semE D (methE c mm φ f g) σ H Q → tMeth C (nmS mm) (spF D.T D.fld φ) [] D.E (semE D f) (semA D g) σ H Q := by
  intro σ H Q z
  obtain ⟨Hs, ρ, h, env, sy, er, p⟩ := z
  refine ⟨Hs, ρ, h, env, sy, er, Post.bind (f := fun d h => if isInst h c mm d = true then (g env h).bind fun as h => φ (d :: as) h else .stuck) p fun d h1 H1 Hs1 ρ1 t1 p1 sy1 q1 v rv => ?_⟩
  by_cases hi : isInst h1 c mm d = true
  · rw [if_pos hi] at q1
    obtain ⟨a, C', dx, fs, rfl, ha, hc', hm⟩ := isInst_ok sy1 rv hi
    rw [hc] at hc'
    cases hc'
    refine ⟨a, dx, fs, rfl, ha, hm, ⟨Hs1, ρ1, h1, env, sy1, er.mono t1.mono p1, q1.bind fun as h2 H2 Hs2 ρ2 t2 p2 sy2 q2 vs rs => ?_⟩⟩
    show spF D.T D.fld φ (V.ref a :: (vs ++ [])) H2 Q D.E
    rw [List.append_nil]
    exact ⟨Hs2, ρ2, h2, d :: as, sy2, .cons (rv.mono t2.mono p2) rs, q2⟩
  · rw [if_neg hi] at q1; exact q1.elim
theorem semE_mono {f : Env → Hm → R Vl} {Q Q' : VK} (k : ∀ v H, Q v H → Q' v H) (z : semE D f σ H Q) : semE D f σ H Q' := by
  obtain ⟨Hs, ρ, h, env, sy, er, p⟩ := z
  exact ⟨Hs, ρ, h, env, sy, er, p.imp fun a e H' Hs' ρ' t s pr r v rv => k v H' (r v rv)⟩
theorem ev_meth {C a : Addr} {c mm : Nat} {k : Nat} {fd : FuncData} {ps : List Str} {φ : List Vl → Hm → R Vl} {f : Env → Hm → R Vl} {g : Env → Hm → R (List Vl)} (hc : D.T.cls c = some C) (M : Md X k C mm a fd ps (spF D.T D.fld φ)) (he : PE X o (semE D f)) (hr : Room k X.A) (hx : Passes (L2.CX X.prog X.w) X D.E) (ha : PA X es (semA D g))
    (hg : es = [] → g = esNil) (ho : argX o = true) (hs : argsX es = true) (hn : es.length < 30) (hl : (apos.endLine == pos.line) = true) : PE X (.Call (.Attribute o (nmS mm) apos) es [] pos) (semE D (methE c mm φ f g)) := by
  cases es with
  | nil =>
    rw [hg rfl]
    refine PE.imp (pe_meth0 he M.cl M.mt M.ok hr M.bd .nil hx (meth_ht ho hs hn hl)) fun σ H Q z => ?_
    refine semE_mono (fun v H1 h => ?_) (sem_meth hc σ H Q z)
    obtain ⟨a, dx, fs, h1, h2, h3, h4⟩ := h
    exact ⟨a, dx, fs, h1, h2, h3, nil_A h4⟩
  | cons e es =>
    have h2 := Bool.and_eq_true_iff.mp (show (argX e && argsX es) = true from hs)
    exact PE.imp (pe_meth he M.cl M.mt M.ok hr M.bd .nil hx ha (star_of h2.1) (back_any h2.2) (meth_ht ho hs hn hl)) (sem_meth hc)
/-! ### new instances -/
theorem sem_new {c : Nat} {C : Addr} {φ : List Vl → Hm → R Vl} {g : Env → Hm → R (List Vl)} (hc : D.T.cls c = some C) : ∀ σ H Q, semE D (newE c φ g) σ H Q → tMake C (spF D.T D.fld φ) [] D.E (semA D g) σ H Q := by
  intro σ H Q z
  obtain ⟨Hs, ρ, h, env, sy, er, p⟩ := z
  refine ⟨Hs, ρ, h, env, sy, er, Post.bind (f := fun as h => (φ (.rf h.length :: as) (h ++ [some (.ins c [])])).bind fun r h' => match r with
    | .fz .non => R.ok (Vl.rf h.length) h'
    | _ => .stuck) p fun as h1 H1 Hs1 ρ1 t1 p1 sy1 q1 vs rs => ?_⟩
  intro x dx hx hdx hne
  rw [List.append_nil]
  obtain ⟨n1, n2⟩ := sy1.nobody hdx
  have s2 := sy1.other (o := .own x) (.none hdx) n1 n2
  have hx2 : upd H1 dx (.own x) x = none := by rw [upd_ne (Ne.symm hne)]; exact hx
  have t2 : TrH Hs1 H1 ρ1 h1 Hs1 (upd H1 dx (.own x)) ρ1 h1 := tr_new hdx
  obtain ⟨s3, t3⟩ := s2.new (u := .ins C dx []) (o := .ins c []) hx2 ⟨C, dx, [], upd_same, hc, List.nodup_nil, .nil⟩
  have t23 := t2.trans t3
  have at0 : (ρ1 ++ [x])[h1.length]? = some x := by rw [← sy1.len]; simp
  refine ⟨Hs1, ρ1 ++ [x], h1 ++ [some (.ins c [])], .rf h1.length :: as, s3, .cons ⟨x, at0, rfl⟩ (VlsR.mono (Same.refl _) Pre.app rs), ?_⟩
  refine Post.bind (D := ⟨D.T, D.fld, D.E⟩) (S := fun Hs' H' ρ' a => ∀ v, VlR D.T Hs' ρ' v a → Q v H') (Post.back t23 Pre.app q1) fun r h4 H4 Hs4 ρ4 t4 p4 sy4 q4 v rv => ?_
  cases r with
  | rf n => exact q4.elim
  | fz d =>
    replace rv : RepV D.T Hs4 v d := rv
    cases rv with
    | non => exact ⟨rfl, q4 H4 Hs4 ρ4 Tr.refl Pre.refl sy4 (.ref x) ⟨x, p4 _ _ at0, rfl⟩⟩
    | _ => exact q4.elim
structure Nd (X : Cx) (k : Nat) (x : Str) (C f : Addr) (fd : FuncData) (ps : List Str) (sp : Sp) : Prop where
  ok : FnOk X.prog X.w X.K X.mg X.base (L2.CX X.prog X.w) k f fd ps sp
  mkr : L2.Mk X.K C f
  mg : X.mg x = some (.ref C)
  bd : Binds X.K fd ps []
theorem ev_new {c : Nat} {C f : Addr} {x : Str} {k : Nat} {fd : FuncData} {ps : List Str} {φ : List Vl → Hm → R Vl} {g : Env → Hm → R (List Vl)} (hc : D.T.cls c = some C) (M : Nd X k x C f fd ps (spF D.T D.fld φ)) (hr : Room (k + 1) X.A) (hgl : Gl X x) (hx : Passes (L2.CX X.prog X.w) X D.E)
    (ha : PA X es (semA D g)) (hg : es = [] → g = esNil) (hs : argsX es = true) (hdb : (x == ("__debug__" : Str)) = false) : PE X (.Call (.Name x p) es [] pos) (semE D (newE c φ g)) := by
  cases es with
  | nil =>
    rw [hg rfl]
    exact PE.imp (pe_make0 M.mkr M.ok hr hgl M.mg M.bd .nil hx hdb) fun σ H Q z => nil_A (sem_new hc σ H Q z)
  | cons e es =>
    have h2 := Bool.and_eq_true_iff.mp (show (argX e && argsX es) = true from hs)
    exact PE.imp (pe_make M.mkr M.ok hr hgl M.mg M.bd .nil hx ha hdb (star_of h2.1) (back_any h2.2)) (sem_new hc)
end
end HV

end

section
/-! V6c: own ==, !=, len, binary operators, ~. -/
namespace HV
open PySem PySem.Spec PyProof.Rows L2
def nEq : Nat := 104863328460639
theorem eq_name : nmS nEq = "__eq__" := by decide +kernel
/-! ### != of a class that has == alone -/
theorem on_kind : builtinKind "object.__ne__" = some .slot := by decide +kernel
theorem on_split : splitId "object.__ne__" = some ("object", "__ne__") := by decide +kernel
theorem on_plain : plainId "object.__ne__" = true := by decide +kernel
theorem on_entry : entryFor table "object.__ne__" = some Builtin.«object.__ne__» := entryFor_of_tree (by kernel_rfl)
theorem on_args (a b : Value) : argsOk "object.__ne__" ⟨[a, b], []⟩ := by unfold argsOk; kernel_rfl
theorem on_slot : Slot "object" "__ne__" "object.__ne__" :=
  .of (owner := "object") (n := "__ne__") (by rw [typeLookup_type, builtinLookup_eq_fast]; kernel_rfl) (by decide +kernel) (by decide +kernel) (by decide +kernel) (.inl (by decide +kernel)) (by rw [isSubtype_type]; kernel_rfl)
section
open PySem.W PySem.Calls
variable {prog : Program} {w : World} {A : Around} {E : Value → Shared → Prop} {s : Shared} {K : Frag} {x C L f : Addr} {h₀ : Heap} {m : Str → Option Value} {ox : Obj} {od : Option Obj} {b tb : Value}
theorem ne_own {Q : Value → Shared → Prop} (hu : A.units + 2 < cLine) (F : Fr h₀ L s.heap m) (X₀ : K.In h₀) (I : InstAt s.heap x ox C od) (hb : Looks (model prog w) s.heap (typeOf b) tb) (hn : notFirst K C tb = true)
    (hne : findIn K (.ref C) "__ne__" = some (some (.builtin "object.__ne__"))) (hs : findIn K (.ref C) "__eq__" = some (some (.ref f))) (hf : isFn K (.ref f) = true) (hm : mroIn K C (.type "object") = some true)
    (h : wpAny (model prog w) A.in1 (call (.ref f) [.ref x, b]) (fun v s' => ∃ c, v = .bool c ∧ Q (.bool (!c)) s') E s) : wpAny (model prog w) A (richCompare .NotEq (.ref x) b) Q E s := by
  have X := X₀.keeps F.keep
  have sub : Looks (model prog w) s.heap (isInstance (.ref x) (.type "object")) true := I.type.andThen (looks_mroIn X hm)
  have inner : wpAny (model prog w) A (call (.builtin "object.__ne__") [.ref x, b]) (fun v s' => ∃ c, v = .bool (!c) ∧ Q (.bool (!c)) s') E s := by
    refine wpAny_call (codeAny_call_builtin on_plain on_entry (@check_slot (model prog w) _ _ s "object.__ne__" "object" "__ne__" (.ref x) [b] [] _ on_kind on_split sub (on_args _ _) ?_))
    unfold Builtin.«object.__ne__»
    refine wpAny_bind (wpAny_of_eq (a := (.ref x, [b])) (by first | rfl | kernel_rfl) ?_)
    refine wpAny_bind (wpAny_cRoomFor (by show A.units + 1 < cLine; omega) ?_)
    refine wpAny_bind (ifBound_K X I hs hf (wpAny_mono h (fun v s' hv => ?_) fun _ _ e => e))
    obtain ⟨c, rfl, q⟩ := hv
    refine wpAny_bind (wpAny_of_eq (a := c) rfl ?_)
    exact wpAny_pure ⟨c, rfl, q⟩
  have one : wpAny (model prog w) A (tryCompare (.ref x) "__ne__" b) (fun r s' => ∃ v, r = some v ∧ Q v s') E s := by
    unfold tryCompare callSpecialIfBound? bindSpecialIfBound?
    refine wpAny_bind (wpAny_holding (wpAny_bind (wpAny_bind (wpAny_bind (I.type.here ((looks_findIn X hne).here ?_))))))
    refine wpAny_bind (wpAny_askSetting (wpAny_ite ?_))
    have fin : wpAny (model prog w) A (call (.builtin "object.__ne__") ([.ref x] ++ [b]) >>= fun v => pure (some v)) (fun a s' => wpAny (model prog w) A (match a with | some .notImplemented => pure none | none => pure none | some v => pure (some v)) (fun r s' => ∃ v, r = some v ∧ Q v s') E s') E s :=
      wpAny_bind (wpAny_mono inner (fun v s' h' => by obtain ⟨c, rfl, q⟩ := h'; exact wpAny_pure (wpAny_pure ⟨_, rfl, q⟩)) fun _ _ h' => h')
    split
    · exact wpAny_bind (wpAny_of_eq (on_slot.bind _) (wpAny_pure (by exact fin)))
    · exact wpAny_tryCatch (wpAny_bind (wpAny_of_eq (on_slot.bind _) (wpAny_pure (by exact fin))))
  unfold richCompare
  simp only [oneThing_ref]
  refine wpAny_holding (wpAny_bind (wpAny_cRoomFor (by omega) ?_))
  refine wpAny_bind (I.type.here (wpAny_bind (hb.here ?_)))
  split
  · rename_i q
    have e : subIn K tb (.ref C) = some false := by
      rcases Bool.or_eq_true_iff.mp hn with e | e
      · rw [beq_iff_eq.mp e] at q; simp at q
      · exact beq_iff_eq.mp e
    refine wpAny_bind ((looks_subIn X e).here ?_)
    simp only [Bool.false_eq_true, if_false]
    refine wpAny_bind (wpAny_mono one (fun r s' z => ?_) fun _ _ e => e)
    obtain ⟨v, rfl, hq⟩ := z
    exact wpAny_pure hq
  · refine wpAny_bind (wpAny_pure ?_)
    simp only [Bool.false_eq_true, if_false]
    refine wpAny_bind (wpAny_mono one (fun r s' z => ?_) fun _ _ e => e)
    obtain ⟨v, rfl, hq⟩ := z
    exact wpAny_pure hq
end
section
variable {D : Wd} {T : Tb} {Hs H Hs' H' : Hp} {ρ ρ' : List Addr} {h h' : Hm} {σ : L2.St} {env : Env} {X : Cx} {e o a b c : Expr} {es rest : List Expr} {apos cpos pos pos' p p2 : Pos}
/-- a def run below a built-in -/
theorem run_fn1 {CX : CXT} {k : Nat} {f : Addr} {fd : FuncData} {ps : List Str} {sp : Sp} {E : XK} {pins : List (Addr × Obj)} {H : Hp} {s : Shared} {Q : VK} {us : List Value} {vs : List V} (F : FnOk X.prog X.w X.K X.mg X.base CX k f fd ps sp) (hr : Room k X.A.in1) (hb : Binds X.K fd ps []) (hx : Passes CX X E)
    (I : Inv X pins σ H s) (r : Vals vs us) (h : sp vs H Q E) : wpAny (model X.prog X.w) X.A.in1 (call (.ref f) us) (EP X pins σ Q) X.xe s := by
  have hl : us.length = ps.length := by rw [← r.length]; exact F.len _ _ _ _ h
  have b := hb s us I.kIn (by rw [List.append_nil]; exact hl)
  rw [List.append_nil] at b
  refine wpAny_call (codeAny_mono (F.run X.A.in1 X.stack s H ⟨us, []⟩ us vs Q E hr I.env0.in1 b r h) fun r s' hq => ?_)
  cases r with
  | error e => exact hx pins σ H s e s' I hq
  | ok fl =>
    cases fl with
    | ret u => exact I.after hq
    | next => exact False.elim hq
    | brk => exact False.elim hq
    | cont => exact False.elim hq
/-- x == y, x of an own class -/
def rOwnE (D : Wd) (X : Cx) (k : Nat) (neg : Bool) : R2 := fun x y H Q => ∃ a C dx fs fa fd ps φ t, x = .ref a ∧ H a = some (.ins C dx fs) ∧ Md X k C nEq fa fd ps (spF D.T D.fld φ) ∧ TyX X.K H y t ∧ PySem.W.notFirst X.K C t = true ∧
  PySem.W.findIn X.K (.ref C) "__ne__" = some (some (.builtin "object.__ne__")) ∧ PySem.W.mroIn X.K C (.type "object") = some true ∧ spF D.T D.fld φ [x, y] H (fun v H1 => ∃ b, v = .bl b ∧ Q (.bl (if neg then !b else b)) H1) D.E
theorem op_ownEq {k : Nat} (hr : Room (k + 1) X.A) (hx : Passes (L2.CX X.prog X.w) X D.E) : OpR X (compareOp .Eq) (rOwnE D X k false) := by
  intro pins s σ H x y v u Q I rx ry hh
  obtain ⟨a, C, dx, fs, fa, fd, ps, φ, t, rfl, ha, M, ty, nf, _, _, q⟩ := hh
  cases rx
  obtain ⟨mA, J, _⟩ := ins_get I.hok ha
  obtain ⟨od, J, _⟩ := J.look
  obtain ⟨m, hF⟩ := I.fr
  obtain ⟨P, Z, p, _⟩ := kit_of I ry ty
  have hs := M.mt.at_
  rw [eq_name] at hs
  have hr' : Room k X.A := hr.mono (by omega)
  refine PySem.W.cmp_K (op := .Eq) hr'.units0 hF I.ok.mod.kin J (Z.ty _ _ I.kIn p) nf hs M.mt.fn ?_
  refine wpAny_mono (run_fn M.ok hr' M.bd .nil hx I (vs := [V.ref a, y]) (.cons (show L2.RelV (V.ref a) (Value.ref a) from rfl) (.cons ry .nil)) (by rw [List.append_nil]; exact q)) (fun r s' z => ?_) fun _ _ z => z
  obtain ⟨w, H', I', rw', b, rfl, q'⟩ := z
  cases rw'
  exact ⟨.bl b, H', I', rfl, q'⟩
theorem op_ownNe {k : Nat} (hr : Room (k + 1) X.A) (hx : Passes (L2.CX X.prog X.w) X D.E) : OpR X (compareOp .NotEq) (rOwnE D X k true) := by
  intro pins s σ H x y v u Q I rx ry hh
  obtain ⟨a, C, dx, fs, fa, fd, ps, φ, t, rfl, ha, M, ty, nf, hne, hm, q⟩ := hh
  cases rx
  obtain ⟨mA, J, _⟩ := ins_get I.hok ha
  obtain ⟨od, J, _⟩ := J.look
  obtain ⟨m, hF⟩ := I.fr
  obtain ⟨P, Z, p, _⟩ := kit_of I ry ty
  have hs := M.mt.at_
  rw [eq_name] at hs
  refine ne_own (by have := hr.un; omega) hF I.ok.mod.kin J (Z.ty _ _ I.kIn p) nf hne hs M.mt.fn hm ?_
  refine wpAny_mono (run_fn1 M.ok hr.in1 M.bd hx I (vs := [V.ref a, y]) (.cons (show L2.RelV (V.ref a) (Value.ref a) from rfl) (.cons ry .nil)) q) (fun r s' z => ?_) fun _ _ z => z
  obtain ⟨w, H', I', rw', b, rfl, q'⟩ := z
  cases rw'
  exact ⟨b, rfl, .bl (!b), H', I', rfl, q'⟩
end
end HV

end

section
/-! V6d: insert; index of what raises. -/
namespace HV
open PySem PySem.Spec PyProof.Rows L2
section
variable {X : Cx}
def rInsert : V → List V → Hp → VK → Prop := fun x vs H Q => ∃ l xs i y, x = .ref l ∧ vs = [.int i, y] ∧ H l = some (.lst xs) ∧ 0 ≤ i ∧ i ≤ (xs.length : Int) ∧ xs.length < sizeLine ∧ Q .non (upd H l (.lst (xs.take i.toNat ++ y :: xs.drop i.toNat)))
theorem vals_take : ∀ {xs : List V} {us : List Value} (n : Nat), Vals xs us → Vals (xs.take n) (us.take n)
  | _, _, 0, _ => by simp; exact .nil
  | _, _, n + 1, .nil => by simp; exact .nil
  | _, _, n + 1, .cons r t => by simp; exact .cons r (vals_take n t)
theorem vals_drop : ∀ {xs : List V} {us : List Value} (n : Nat), Vals xs us → Vals (xs.drop n) (us.drop n)
  | _, _, 0, h => by simpa using h
  | _, _, n + 1, .nil => by simp; exact .nil
  | _, _, n + 1, .cons r t => by simp; exact vals_drop n t
theorem mt_insert : MtM X "list.insert" rInsert := by
  intro pins s σ H x vs v us Q I rx rv h
  obtain ⟨l, xs, i, y, rfl, rfl, hH, h0, h1, hz, q⟩ := h
  cases rx
  obtain ⟨u1, u2, rfl, r1, r2⟩ := rv.two
  obtain ⟨t, rfl⟩ := r1
  obtain ⟨z, its, n, r, hl, e⟩ := I.lstM hH
  have hs : sizeLine = 16777216 := sizeLine_eq
  have hf : Builtin.List.listFitsIndex i = true := fitsIndex_both (by omega) (by omega)
  refine call_meets F.slot_list_insert ⟨_, e, rfl⟩ F.entry_list_insert (F.args_list_insert_3 _ _ _) (PySem.AutoSeq1.list_insert_list_int_val_1 l its.toArray n i t u2 (by simp [hf]) (by rw [List.size_toArray]; omega)) ⟨e, ?_⟩
  refine ⟨.non, _, I.lset (its' := its.take i.toNat ++ u2 :: its.drop i.toNat) hH e ?_ ((vals_take _ r).append (.cons r2 (vals_drop _ r))) ?_, rfl, q⟩
  · show (its.toArray.extract 0 (if i < 0 then (i + (its.toArray.size : Int)).toNat else min i.toNat its.toArray.size)).push u2 ++ its.toArray.extract (if i < 0 then (i + (its.toArray.size : Int)).toNat else min i.toNat its.toArray.size) = _
    rw [PySem.W.kl_ins_eq, if_neg (by omega), List.size_toArray, Nat.min_eq_left (by omega)]
  · rw [List.length_append, List.length_cons, List.length_take, List.length_drop]
    omega
theorem Paired.takeL {α β : Type} {F : α → β → Prop} : ∀ (n : Nat) {xs : List α} {ys : List β}, Paired F xs ys → Paired F (xs.take n) (ys.take n)
  | 0, _, _, _ => by simp; exact .nil
  | _ + 1, _, _, .nil => by simp; exact .nil
  | n + 1, _, _, .cons r t => by simp; exact .cons r (Paired.takeL n t)
theorem Paired.dropL {α β : Type} {F : α → β → Prop} : ∀ (n : Nat) {xs : List α} {ys : List β}, Paired F xs ys → Paired F (xs.drop n) (ys.drop n)
  | 0, _, _, h => by simpa using h
  | _ + 1, _, _, .nil => by simp; exact .nil
  | n + 1, _, _, .cons r t => by simp; exact Paired.dropL n t
theorem mt_never {id : String} : MtM X id (fun _ _ _ _ => False) := fun _ _ _ _ _ _ _ _ _ _ _ _ h => h.elim
end
section
variable {D : Wd} {T : Tb} {Hs H Hs' H' : Hp} {ρ ρ' : List Addr} {h h' : Hm} {σ : L2.St} {env : Env} {X : Cx} {o e e2 : Expr} {apos cpos : Pos}
theorem ev_insert {f g u : Env → Hm → R Vl} (ho : PE X o (semE D f)) (he : PE X e (semE D g)) (he2 : PE X e2 (semE D u)) (hbase : attributeBase o "insert" X.env (eval o X.env) = eval o X.env)
    (h1 : argX e = true) (h2 : argX e2 = true) (hline : (apos.endLine == cpos.line) = true) : PE X (.Call (.Attribute o "insert" apos) [e, e2] [] cpos) (semE D (insE f g u)) := by
  have hs : starEach [e, e2] X.env = (false, eval e X.env) :: starEach [e2] X.env := star_of h1
  have hs2 : starEach [e2] X.env = [(false, eval e2 X.env)] := star_of h2
  refine PE.imp (pe_bm PySem.F.plainAttrs_list PySem.F.slot_list_insert PySem.F.type_list_insert mt_insert ho (pa_cons he (pa_cons he2 pa_nil hs2) hs) hbase ?_ hline hs ?_) fun σ H Q z => ?_
  · rw [hs, hs2]; rfl
  · rw [hs2]; rfl
  obtain ⟨Hs, ρ, h, env, sy, er, p⟩ := z
  refine ⟨Hs, ρ, h, env, sy, er, Post.bind (f := fun x h => if isLstH h x = true then (g env h).bind fun i h => (u env h).bind fun y h => wrL x (insW i y) h else .stuck) p fun x h1 H1 Hs1 ρ1 t1 p1 sy1 q1 v rv => ?_⟩
  by_cases hl : isLstH h1 x = true
  · rw [if_pos hl] at q1
    refine ⟨isLst_ok sy1 rv hl, ⟨Hs1, ρ1, h1, env, sy1, er.mono t1.mono p1, q1.bind fun i h2 H2 Hs2 ρ2 t2 p2 sy2 q2 w rw' => ⟨Hs2, ρ2, h2, env, sy2, (er.mono t1.mono p1).mono t2.mono p2, q2.bind fun y h3 H3 Hs3 ρ3 t3 p3 sy3 q3 w2 rw2 => ?_⟩⟩⟩
    obtain ⟨a, rfl, _, hr⟩ := wrL_ok (X := X) (r := fun a H Q => rInsert (.ref a) [w, w2] H Q) sy3 ((rv.mono t2.mono p2).mono t3.mono p3) (fun H a vs xs ys z Q g1 g2 g3 e k => by
      cases i with
      | rf n => cases e
      | fz d =>
        replace rw' := rw'.mono t3.mono p3
        replace rw' : RepV D.T Hs3 w d := rw'
        cases rw' with
        | int i =>
          unfold insW at e
          dsimp only at e
          split at e
          · rename_i hc
            cases e
            obtain ⟨c1, c2, c3⟩ := hc
            rw [lim_eq] at c3
            have hlen := Paired.length g3
            refine ⟨a, vs, i, w2, rfl, rfl, g1, c1, by omega, by omega, k _ _ ?_ (Paired.append (Paired.takeL _ g3) (.cons rw2 (Paired.dropL _ g3))) RepV.non⟩
            rw [List.length_append, List.length_cons, List.length_take, List.length_drop]
            omega
          · cases e
        | _ => cases e) q3
    exact hr
  · rw [if_neg hl] at q1; exact q1.elim
theorem isLs2_ok {K : PySem.W.Frag} (sy : Sy T Hs H ρ h) {v : V} {x : Vl} (r : VlR T Hs ρ v x) (e : isLs2 h x = true) : tyV K "list" v H := by
  cases x with
  | rf n => exact isLst_ok sy r e
  | fz d =>
    replace r : RepV T Hs v d := r
    cases r with
    | lst h1 h2 h3 => exact .inl ⟨rfl, _, SqL.of (sy.sub _ _ h1)⟩
    | _ => cases e
/-- x.index(y), where y raises -/
theorem ev_ixm {f g : Env → Hm → R Vl} (ho : PE X o (semE D f)) (he : PE X e (semE D g)) (hbase : attributeBase o "index" X.env (eval o X.env) = eval o X.env)
    (hs : starEach [e] X.env = [(false, eval e X.env)]) (hline : (apos.endLine == cpos.line) = true) : PE X (.Call (.Attribute o "index" apos) [e] [] cpos) (semE D (ixmE f g)) := by
  refine PE.imp (pe_bm PySem.F.plainAttrs_list PySem.F.slot_list_index PySem.F.type_list_index mt_never ho (pa_cons he pa_nil hs) hbase ?_ hline hs rfl) fun σ H Q z => ?_
  · rw [hs]; rfl
  obtain ⟨Hs, ρ, h, env, sy, er, p⟩ := z
  refine ⟨Hs, ρ, h, env, sy, er, Post.bind (f := fun x h => if isLs2 h x = true then (g env h).bind fun y h => R.stuck else R.stuck) p fun x h1 H1 Hs1 ρ1 t1 p1 sy1 q1 v rv => ?_⟩
  by_cases hl : isLs2 h1 x = true
  · rw [if_pos hl] at q1
    exact ⟨isLs2_ok sy1 rv hl, ⟨Hs1, ρ1, h1, env, sy1, er.mono t1.mono p1, q1.bind fun y h2 H2 Hs2 ρ2 t2 p2 sy2 q2 u ru => q2⟩⟩
  · rw [if_neg hl] at q1; exact q1.elim
end
end HV

end

section
/-! V6b: own __contains__; further built-ins. -/
namespace HV
open PySem PySem.Spec PyProof.Rows L2
def nCont : Nat := 29516393455720661124010696543
section
variable {D : Wd} {T : Tb} {Hs H Hs' H' : Hp} {ρ ρ' : List Addr} {h h' : Hm} {σ : L2.St} {env : Env} {X : Cx} {e o a b c : Expr} {es rest : List Expr} {apos cpos pos pos' p p2 : Pos}
theorem cont_name : nmS nCont = "__contains__" := by decide +kernel
theorem clsOf_ok {c : Nat} (sy : Sy T Hs H ρ h) {v : V} {x : Vl} (r : VlR T Hs ρ v x) (e : clsOfV h x = some c) : ∃ a C dx fs, v = .ref a ∧ H a = some (.ins C dx fs) ∧ T.cls c = some C := by
  cases x with
  | fz d =>
    replace r : RepV T Hs v d := r
    cases r with
    | obj ha hc hf =>
      rename_i a c' C dx fs ds
      simp only [clsOfV] at e
      cases e
      exact ⟨a, C, dx, fs, rfl, sy.sub _ _ ha, hc⟩
    | _ => cases e
  | rf n =>
    obtain ⟨a, ha, rfl⟩ := r
    simp only [clsOfV] at e
    cases w : h[n]? with
    | none => rw [w] at e; cases e
    | some oo =>
      rw [w] at e
      cases oo with
      | none => cases e
      | some o =>
        obtain ⟨_, mr⟩ := sy.ob n o a w ha
        cases o with
        | lst xs => cases e
        | dct kvs => cases e
        | ins c' fs =>
          obtain ⟨C, dx, gs, g1, g2, g3, g4⟩ := mr
          cases e
          exact ⟨a, C, dx, gs, rfl, g1, g2⟩
/-- y in x, x of an own class -/
def rOwn (D : Wd) (X : Cx) (k : Nat) (neg : Bool) : R2 := fun x y H Q => ∃ a C dx fs fa fd ps φ, y = .ref a ∧ H a = some (.ins C dx fs) ∧ Md X k C nCont fa fd ps (spF D.T D.fld φ) ∧
  spF D.T D.fld φ [y, x] H (fun v H1 => ∃ b, v = .bl b ∧ Q (.bl (if neg then !b else b)) H1) D.E
theorem op_ownIn {k : Nat} (hr : Room k X.A) (hx : Passes (L2.CX X.prog X.w) X D.E) : OpR X (compareOp .In) (rOwn D X k false) := by
  intro pins s σ H x y v u Q I rx ry hh
  obtain ⟨a, C, dx, fs, fa, fd, ps, φ, rfl, ha, M, q⟩ := hh
  cases ry
  obtain ⟨mA, J, _⟩ := ins_get I.hok ha
  obtain ⟨od, J, _⟩ := J.look
  obtain ⟨m, hF⟩ := I.fr
  have hs := M.mt.at_
  rw [cont_name] at hs
  refine PySem.W.in_K hF I.ok.mod.kin J hs M.mt.fn ?_
  refine wpAny_mono (run_fn M.ok hr M.bd .nil hx I (vs := [V.ref a, x]) (.cons (show L2.RelV (V.ref a) (Value.ref a) from rfl) (.cons rx .nil)) (by rw [List.append_nil]; exact q)) (fun r s' z => ?_) fun _ _ z => z
  obtain ⟨w, H', I', rw', b, rfl, q'⟩ := z
  cases rw'
  refine wpAny_of_eq (a := b) rfl ?_
  exact ⟨.bl b, H', I', rfl, q'⟩
theorem op_ownNotIn {k : Nat} (hr : Room k X.A) (hx : Passes (L2.CX X.prog X.w) X D.E) : OpR X (compareOp .NotIn) (rOwn D X k true) := by
  intro pins s σ H x y v u Q I rx ry hh
  obtain ⟨a, C, dx, fs, fa, fd, ps, φ, rfl, ha, M, q⟩ := hh
  cases ry
  obtain ⟨mA, J, _⟩ := ins_get I.hok ha
  obtain ⟨od, J, _⟩ := J.look
  obtain ⟨m, hF⟩ := I.fr
  have hs := M.mt.at_
  rw [cont_name] at hs
  refine PySem.W.notIn_K hF I.ok.mod.kin J hs M.mt.fn ?_
  refine wpAny_mono (run_fn M.ok hr M.bd .nil hx I (vs := [V.ref a, x]) (.cons (show L2.RelV (V.ref a) (Value.ref a) from rfl) (.cons rx .nil)) (by rw [List.append_nil]; exact q)) (fun r s' z => ?_) fun _ _ z => z
  obtain ⟨w, H', I', rw', b, rfl, q'⟩ := z
  cases rw'
  refine wpAny_of_eq (a := b) rfl ?_
  exact ⟨.bl (!b), H', I', rfl, q'⟩
def nLen : Nat := 26845041950351199
def nInv : Nat := 450384853699418207313759
theorem len_name : nmS nLen = "__len__" := by decide +kernel
theorem inv_name : nmS nInv = "__invert__" := by decide +kernel
/-- the names of own operators by their numbers -/
def spN (j : Nat) : Option Nat := if j = 6 then some nCont else if j = 0 then some nEq else if j = 8 then some nLen else if j = 13 then some nInv else if j = 21 then some 26845072282771295 else if j = 26 then some 104863496298335 else if j = 27 then some 26844994856050527 else none
def bopOf : Nat → Operator
  | 1 => .Sub
  | 6 => .BitOr
  | _ => .BitAnd
theorem spN_bop {k n : Nat} (h : spN (20 + k) = some n) : nmS n = PySem.dunder (bopOf k).info.2 ∧ (k = 1 ∨ k = 6 ∨ k = 7) := by
  match k, h with
  | 1, h => cases h; exact ⟨by decide +kernel, .inl rfl⟩
  | 6, h => cases h; exact ⟨by decide +kernel, .inr (.inl rfl)⟩
  | 7, h => cases h; exact ⟨by decide +kernel, .inr (.inr rfl)⟩
  | 0, h => cases h
  | 2, h => cases h
  | 3, h => cases h
  | 4, h => cases h
  | 5, h => cases h
  | k + 8, h => unfold spN at h; rw [if_neg (by omega), if_neg (by omega), if_neg (by omega), if_neg (by omega), if_neg (by omega), if_neg (by omega), if_neg (by omega)] at h; cases h
/-- what a class is whose own operators are used -/
structure OwnK (T : Tb) (K : PySem.W.Frag) (C : Addr) : Prop where
  nf : ∀ k u, kdVal T k u → PySem.W.notFirst K C u = true
  ne : PySem.W.findIn K (.ref C) "__ne__" = some (some (.builtin "object.__ne__"))
  mr : PySem.W.mroIn K C (.type "object") = some true
  sf : PySem.W.selfFirst K C = true
/-- the own operators a text may lean on -/
def SpcOk (D : Wd) (X : Cx) (k : Nat) (spc : Nat → Nat → Option Nat) (φ : Nat → List Vl → Hm → R Vl) : Prop := ∀ j c f, spc j c = some f → ∃ n, spN j = some n ∧ ∃ C a fd ps, D.T.cls c = some C ∧ Md X k C n a fd ps (spF D.T D.fld (φ f)) ∧ OwnK D.T X.K C
theorem own_bool {neg : Bool} {φ : List Vl → Hm → R Vl} {xs : List V} {as : List Vl} {Q : VK} (sy : Sy D.T Hs H ρ h) (rs : VlsR D.T Hs ρ xs as) (p : PostV D Q Hs H ρ h (ownB neg (φ as h))) : spF D.T D.fld φ xs H (fun v H1 => ∃ b, v = .bl b ∧ Q (.bl (if neg then !b else b)) H1) D.E := by
  refine ⟨Hs, ρ, h, as, sy, rs, ?_⟩
  refine Post.bind (D := ⟨D.T, D.fld, D.E⟩) (S := fun Hs' H' ρ' a => ∀ v, VlR D.T Hs' ρ' v a → Q v H') p fun r h4 H4 Hs4 ρ4 t4 p4 sy4 q4 v rv => ?_
  cases r with
  | rf n => exact q4.elim
  | fz d =>
    replace rv : RepV D.T Hs4 v d := rv
    cases rv with
    | bl b => exact ⟨b, rfl, q4 H4 Hs4 ρ4 Tr.refl Pre.refl sy4 _ (.bl _)⟩
    | _ => exact q4.elim
theorem own_post {k : Nat} {spc : Nat → Nat → Option Nat} {φ : Nat → List Vl → Hm → R Vl} (S : SpcOk D X k spc φ) {neg : Bool} {c f : Nat} {x y : V} {a b : Vl} {Q : VK} (hc : clsOfV h b = some c) (hf : spc 6 c = some f) (sy : Sy D.T Hs H ρ h) (rx : VlR D.T Hs ρ x a) (ry : VlR D.T Hs ρ y b)
    (p : PostV D Q Hs H ρ h (ownB neg (φ f [b, a] h))) : rOwn D X k neg x y H Q := by
  obtain ⟨ad, C, dx, fs, rfl, ha, hC⟩ := clsOf_ok sy ry hc
  obtain ⟨n, hn, C', fa, fd, ps, hC', M, _⟩ := S 6 c f hf
  rw [hC] at hC'
  cases hC'
  cases hn
  exact ⟨ad, C, dx, fs, fa, fd, ps, _, rfl, ha, M, own_bool sy (.cons ry (.cons rx .nil)) p⟩
theorem kdH_ok (ok : TbOk D.T) (sy : Sy D.T Hs H ρ h) {y : V} {b : Vl} {k : Kd} (ry : VlR D.T Hs ρ y b) (e : kdH h b = some k) : ∃ t, TyX D.T.K H y t ∧ kdVal D.T k t := by
  cases b with
  | fz d => exact RepV.kind ok ry sy.sub e
  | rf n =>
    obtain ⟨a, ha, rfl⟩ := ry
    simp only [kdH] at e
    cases w : h[n]? with
    | none => rw [w] at e; cases e
    | some oo =>
      rw [w] at e
      cases oo with
      | none => cases e
      | some o =>
        obtain ⟨_, mr⟩ := sy.ob n o a w ha
        cases o with
        | lst xs =>
          obtain ⟨vs, g1, g2, g3⟩ := mr
          cases e
          exact ⟨_, .base (.lst g1), by decide, rfl⟩
        | dct kvs =>
          obtain ⟨vs, g1, g2, g3⟩ := mr
          cases e
          exact ⟨_, .base (.dK g1), by decide, rfl⟩
        | ins c fs =>
          obtain ⟨C, dx, gs, g1, g2, g3, g4⟩ := mr
          cases e
          obtain ⟨q1, q2, q3, q4⟩ := ok.ty c C g2
          exact ⟨_, .base (.ins g1 (ok.cl c C g2) q1 q2 q3 q4), C, g2, rfl⟩
theorem own_postE (ok : TbOk D.T) (hK : D.T.K = X.K) {k : Nat} {spc : Nat → Nat → Option Nat} {φ : Nat → List Vl → Hm → R Vl} (S : SpcOk D X k spc φ) {neg : Bool} {c f : Nat} {x y : V} {a b : Vl} {Q : VK} (hc : clsOfV h a = some c) (hf : spc 0 c = some f) (hk : (kdH h b).isSome = true) (sy : Sy D.T Hs H ρ h) (rx : VlR D.T Hs ρ x a) (ry : VlR D.T Hs ρ y b)
    (p : PostV D Q Hs H ρ h (ownB neg (φ f [a, b] h))) : rOwnE D X k neg x y H Q := by
  obtain ⟨ad, C, dx, fs, rfl, ha, hC⟩ := clsOf_ok sy rx hc
  obtain ⟨n, hn, C', fa, fd, ps, hC', M, ow⟩ := S 0 c f hf
  rw [hC] at hC'
  cases hC'
  cases hn
  obtain ⟨kd, hk⟩ := Option.isSome_iff_exists.mp hk
  obtain ⟨t, ty, kv⟩ := kdH_ok ok sy ry hk
  rw [hK] at ty
  exact ⟨ad, C, dx, fs, fa, fd, ps, _, t, rfl, ha, M, ty, ow.nf _ _ kv, ow.ne, ow.mr, own_bool sy (.cons rx (.cons ry .nil)) p⟩
abbrev rCmp (D : Wd) (X : Cx) (k j : Nat) : R2 := fun x y H Q => (j = 6 ∧ rOwn D X k false x y H Q) ∨ (j = 7 ∧ rOwn D X k true x y H Q) ∨ (j = 0 ∧ rOwnE D X k false x y H Q) ∨ (j = 1 ∧ rOwnE D X k true x y H Q) ∨ rA2 D.T (cmpV j) x y H Q
theorem kv_cmpG (ok : TbOk D.T) (hK : D.T.K = X.K) {k j : Nat} {spc : Nat → Nat → Option Nat} {φ : Nat → List Vl → Hm → R Vl} (S : SpcOk D X k spc φ) : KV2 D (rCmp D X k j) (cmpG spc φ j) := by
  intro x y a b Hs H ρ h Q sy rx ry p
  unfold cmpG at p
  by_cases hj : j = 6 ∨ j = 7
  · rw [if_pos hj] at p
    cases w : clsOfV h b with
    | none => rw [w] at p; exact .inr (.inr (.inr (.inr (kv_A (va_rA2 _) x y a b Hs H ρ h Q sy rx ry p))))
    | some c =>
      rw [w] at p
      dsimp only at p
      cases w2 : spc 6 c with
      | none => rw [w2] at p; exact p.elim
      | some f =>
        rw [w2] at p
        dsimp only at p
        rcases hj with rfl | rfl
        · exact .inl ⟨rfl, own_post S w w2 sy rx ry p⟩
        · exact .inr (.inl ⟨rfl, own_post S w w2 sy rx ry p⟩)
  · rw [if_neg hj] at p
    by_cases hz : j = 0 ∨ j = 1
    · rw [if_pos hz] at p
      cases w : clsOfV h a with
      | none => rw [w] at p; exact .inr (.inr (.inr (.inr (kv_A (va_rA2 _) x y a b Hs H ρ h Q sy rx ry p))))
      | some c =>
        rw [w] at p
        dsimp only at p
        cases w2 : spc 0 c with
        | none => rw [w2] at p; exact p.elim
        | some f =>
          rw [w2] at p
          dsimp only at p
          by_cases hk : (kdH h b).isSome = true
          · rw [if_pos hk] at p
            rcases hz with rfl | rfl
            · exact .inr (.inr (.inl ⟨rfl, own_postE ok hK S w w2 hk sy rx ry p⟩))
            · exact .inr (.inr (.inr (.inl ⟨rfl, own_postE ok hK S w w2 hk sy rx ry p⟩)))
          · rw [if_neg hk] at p; exact p.elim
    · rw [if_neg hz] at p
      exact .inr (.inr (.inr (.inr (kv_A (va_rA2 _) x y a b Hs H ρ h Q sy rx ry p))))
theorem op_cmpG {k j : Nat} (hK : D.T.K = X.K) (hu : X.A.units + 65 < cLine) (hj : j < 10) (hr : Room (k + 1) X.A) (hx : Passes (L2.CX X.prog X.w) X D.E) : OpR X (compareOp (cmpOf j)) (rCmp D X k j) := by
  intro pins s σ H x y v u Q I rx ry z
  have hr' : Room k X.A := hr.mono (by omega)
  rcases z with ⟨rfl, z⟩ | ⟨rfl, z⟩ | ⟨rfl, z⟩ | ⟨rfl, z⟩ | z
  · exact op_ownIn hr' hx pins s σ H x y v u Q I rx ry z
  · exact op_ownNotIn hr' hx pins s σ H x y v u Q I rx ry z
  · exact op_ownEq hr hx pins s σ H x y v u Q I rx ry z
  · exact op_ownNe hr hx pins s σ H x y v u Q I rx ry z
  · exact cmp_ok hK hu j hj pins s σ H x y v u Q I rx ry z
theorem ev_cmpG (ok : TbOk D.T) (hK : D.T.K = X.K) (hu : X.A.units + 65 < cLine) {n k : Nat} (hk : k < 10) (hr : Room (n + 1) X.A) (hx : Passes (L2.CX X.prog X.w) X D.E) {spc : Nat → Nat → Option Nat} {φ : Nat → List Vl → Hm → R Vl} (S : SpcOk D X n spc φ) {f g : Env → Hm → R Vl} (ha : PE X a (semE D f)) (hb : PE X b (semE D g)) (hm : behindInMarks (cmpOf k) b = false) :
    PE X (.Compare a [cmpOf k] [b] pos) (semE D (op2 f g (cmpG spc φ k))) :=
  PE.imp (pe_cmpR (op_cmpG hK hu hk hr hx) ha hb hm) (sem_op2 (kv_cmpG ok hK S))
theorem t_cmpG (ok : TbOk D.T) (hK : D.T.K = X.K) (hu : X.A.units + 65 < cLine) {n k : Nat} (hk : k < 10) (hr : Room (n + 1) X.A) (hx : Passes (L2.CX X.prog X.w) X D.E) {spc : Nat → Nat → Option Nat} {φ : Nat → List Vl → Hm → R Vl} (S : SpcOk D X n spc φ) {f g : Env → Hm → R Vl} (ha : PE X a (semE D f)) (hb : PE X b (semE D g)) (hm : behindInMarks (cmpOf k) b = false) :
    PT X (.Compare a [cmpOf k] [b] pos) (semT D (cmpT (op2 f g (cmpG spc φ k)))) := by
  refine PT.imp (pt_cmpR (op_cmpG hK hu hk hr hx) ha hb hm) fun σ H Q z => ?_
  exact sem_op2 (kv_cmpG ok hK S) σ H _ (blR_ok z)
/-! ### len -/
def rOwnL (D : Wd) (X : Cx) (k : Nat) : List V → Hp → VK → Prop := fun xs H Q => ∃ a C dx fs fa fd ps φ, xs = [.ref a] ∧ H a = some (.ins C dx fs) ∧ Md X k C nLen fa fd ps (spF D.T D.fld φ) ∧
  spF D.T D.fld φ [.ref a] H (fun v H1 => ∃ n : Int, v = .int n ∧ (0 ≤ n ∧ n < 9223372036854775808) ∧ Q (.int n) H1) D.E
theorem call_ownLen {k : Nat} (hr : Room (k + 1) X.A) (hx : Passes (L2.CX X.prog X.w) X D.E) : CallR X (.builtin "len") (rOwnL D X k) := by
  intro pins s σ H xs us Q I r hh
  obtain ⟨a, C, dx, fs, fa, fd, ps, φ, rfl, ha, M, q⟩ := hh
  obtain ⟨u, rfl, rx⟩ := vals1 r
  cases rx
  obtain ⟨mA, J, _⟩ := ins_get I.hok ha
  obtain ⟨od, J, _⟩ := J.look
  obtain ⟨m, hF⟩ := I.fr
  have hs := M.mt.at_
  rw [len_name] at hs
  refine PySem.W.len_K hF I.ok.mod.kin J hs M.mt.fn ?_
  refine wpAny_mono (run_fn1 M.ok hr.in1 M.bd hx I (vs := [V.ref a]) (.cons (show L2.RelV (V.ref a) (Value.ref a) from rfl) .nil) q) (fun r s' z => ?_) fun _ _ z => z
  obtain ⟨w, H', I', rw', n, rfl, hn, q'⟩ := z
  obtain ⟨t, rfl⟩ := (show ∃ t, r = Value.int n t from rw')
  exact ⟨hn, .int n, H', I'.tok _, ⟨_, rfl⟩, q'⟩
theorem kv_lenG {k : Nat} {spc : Nat → Nat → Option Nat} {φ : Nat → List Vl → Hm → R Vl} (S : SpcOk D X k spc φ) : KV1 D (fun x H Q => ((∃ y n, [x] = [y] ∧ LenV D.T.K y H n ∧ Q (.int n) H) ∨ ∃ a kvs, [x] = [V.ref a] ∧ Rd H a (.dK kvs) ∧ Q (.int kvs.length) H) ∨ rOwnL D X k [x] H Q) (lenG spc φ) := by
  intro x a Hs H ρ h Q sy rx p
  unfold lenG at p
  cases w : clsOfV h a with
  | none => rw [w] at p; exact .inl (kv_len x a Hs H ρ h Q sy rx p)
  | some c =>
    rw [w] at p
    dsimp only at p
    cases w2 : spc 8 c with
    | none => rw [w2] at p; exact p.elim
    | some f =>
      rw [w2] at p
      dsimp only at p
      obtain ⟨ad, C, dx, fs, rfl, ha, hC⟩ := clsOf_ok sy rx w
      obtain ⟨n, hn, C', fa, fd, ps, hC', M, ow⟩ := S 8 c f w2
      rw [hC] at hC'
      cases hC'
      cases hn
      refine .inr ⟨ad, C, dx, fs, fa, fd, ps, _, rfl, ha, M, Hs, ρ, h, [a], sy, .cons rx .nil, ?_⟩
      refine Post.bind (D := ⟨D.T, D.fld, D.E⟩) (S := fun Hs' H' ρ' a => ∀ v, VlR D.T Hs' ρ' v a → Q v H') p fun r h4 H4 Hs4 ρ4 t4 p4 sy4 q4 v rv => ?_
      cases r with
      | rf n => exact q4.elim
      | fz d =>
        replace rv : RepV D.T Hs4 v d := rv
        cases rv with
        | int n =>
          dsimp only at q4
          by_cases hn : 0 ≤ n ∧ n < 9223372036854775808
          · rw [if_pos hn] at q4
            exact ⟨n, rfl, hn, q4 H4 Hs4 ρ4 Tr.refl Pre.refl sy4 _ (.int _)⟩
          · rw [if_neg hn] at q4; exact q4.elim
        | _ => exact q4.elim
theorem ev_lenG (hK : D.T.K = X.K) {n : Nat} (hr : Room (n + 1) X.A) (hx : Passes (L2.CX X.prog X.w) X D.E) {spc : Nat → Nat → Option Nat} {φ : Nat → List Vl → Hm → R Vl} (S : SpcOk D X n spc φ) {f : Env → Hm → R Vl} (hg : Gl X "len") (hm : X.mg "len" = none) (ha : PE X a (semE D f)) (hs : argX a = true) : PE X (.Call (.Name "len" p) [a] [] pos) (semE D (op1 f (lenG spc φ))) := by
  refine ev_b1 ((call_len.or call_lenK).or (call_ownLen (D := D) hr hx)) ?_ hg hm boot_len (by decide) (by decide) ha hs
  have q := kv_lenG S
  rw [hK] at q
  exact q
/-! ### binary operators -/
def rOwnB (D : Wd) (X : Cx) (k j : Nat) : R2 := fun x y H Q => ∃ a b C dx dy fs gs fa fd ps φ n, x = .ref a ∧ y = .ref b ∧ H a = some (.ins C dx fs) ∧ H b = some (.ins C dy gs) ∧ spN (20 + j) = some n ∧ Md X k C n fa fd ps (spF D.T D.fld φ) ∧ PySem.W.selfFirst X.K C = true ∧
  spF D.T D.fld φ [x, y] H Q D.E
theorem op_ownB {k j : Nat} (hr : Room k X.A) (hx : Passes (L2.CX X.prog X.w) X D.E) : OpR X (binaryOp (bopOf j)) (rOwnB D X k j) := by
  intro pins s σ H x y v u Q I rx ry hh
  obtain ⟨a, b, C, dx, dy, fs, gs, fa, fd, ps, φ, n, rfl, rfl, ha, hb, hn, M, sf, q⟩ := hh
  cases rx
  cases ry
  obtain ⟨mA, J, _⟩ := ins_get I.hok ha
  obtain ⟨od, J, _⟩ := J.look
  obtain ⟨mB, J2, _⟩ := ins_get I.hok hb
  obtain ⟨od2, J2, _⟩ := J2.look
  obtain ⟨m, hF⟩ := I.fr
  have hs := M.mt.at_
  rw [(spN_bop hn).1] at hs
  refine PySem.W.binop_K hF I.ok.mod.kin J J2.type sf hs M.mt.fn ?_
  refine wpAny_mono (run_fn M.ok hr M.bd .nil hx I (vs := [V.ref a, V.ref b]) (.cons (show L2.RelV (V.ref a) (Value.ref a) from rfl) (.cons (show L2.RelV (V.ref b) (Value.ref b) from rfl) .nil)) (by rw [List.append_nil]; exact q)) (fun r s' z => ?_) fun _ _ z => z
  obtain ⟨w, H', I', rw', q'⟩ := z
  cases r with
  | notImplemented => cases w <;> first | exact (nomatch rw') | (obtain ⟨_, z⟩ := rw'; cases z)
  | _ => exact ⟨w, H', I', rw', q'⟩
theorem kv_ownB {k j : Nat} {spc : Nat → Nat → Option Nat} {φ : Nat → List Vl → Hm → R Vl} (S : SpcOk D X k spc φ) {x y : V} {a b : Vl} {c f : Nat} {Q : VK} (sy : Sy D.T Hs H ρ h) (rx : VlR D.T Hs ρ x a) (ry : VlR D.T Hs ρ y b) (w : clsOfV h a = some c) (w1 : clsOfV h b = some c) (w2 : spc (20 + j) c = some f)
    (p : PostV D Q Hs H ρ h (φ f [a, b] h)) : rOwnB D X k j x y H Q := by
  obtain ⟨ad, C, dx, fs, rfl, ha, hC⟩ := clsOf_ok sy rx w
  obtain ⟨bd, C1, dy, gs, rfl, hb, hC1⟩ := clsOf_ok sy ry w1
  rw [hC] at hC1
  cases hC1
  obtain ⟨n, hn, C', fa, fd, ps, hC', M, ow⟩ := S (20 + j) c f w2
  rw [hC] at hC'
  cases hC'
  exact ⟨ad, bd, C, dx, dy, fs, gs, fa, fd, ps, _, n, rfl, rfl, ha, hb, hn, M, ow.sf, Hs, ρ, h, [a, b], sy, .cons rx (.cons ry .nil), p⟩
def binX : Nat → Operator
  | 0 => .Add | 1 => .Sub | 2 => .Mult | 3 => .FloorDiv | 4 => .Mod | 5 => .Pow | 6 => .BitOr | _ => .BitAnd
theorem ev_binG (hK : D.T.K = X.K) {n k : Nat} (hk : k < 8) (hr : Room n X.A) (hx : Passes (L2.CX X.prog X.w) X D.E) {spc : Nat → Nat → Option Nat} {φ : Nat → List Vl → Hm → R Vl} (S : SpcOk D X n spc φ) {f g : Env → Hm → R Vl} (ha : PE X a (semE D f)) (hb : PE X b (semE D g)) :
    PE X (.BinOp a (binX k) b pos) (semE D (op2 f g (binG spc φ k))) := by
  by_cases h6 : k < 6
  · have e6 : binX k = binOf k := by
      match k, h6 with
      | 0, _ => rfl
      | 1, _ => rfl
      | 2, _ => rfl
      | 3, _ => rfl
      | 4, _ => rfl
      | 5, _ => rfl
    rw [e6]
    refine PE.imp (pe_op (r := fun x y H Q => (k = 1 ∧ rOwnB D X n k x y H Q) ∨ rG2 D.T (binV k) x y H Q) ?_ ha hb) (sem_op2 ?_)
    · intro pins s σ H x y v u Q I rx ry z
      rcases z with ⟨rfl, z⟩ | z
      · exact op_ownB (j := 1) hr hx pins s σ H x y v u Q I rx ry z
      · exact bin_ok hK k h6 pins s σ H x y v u Q I rx ry z
    · intro x y a b Hs H ρ h Q sy rx ry p
      unfold binG at p
      cases w : clsOfV h a with
      | none => rw [w] at p; exact .inr (kv_G (vg_rG2 _) x y a b Hs H ρ h Q sy rx ry p)
      | some c =>
        rw [w] at p
        dsimp only at p
        cases w2 : spc (20 + k) c with
        | none => rw [w2] at p; exact p.elim
        | some f =>
          rw [w2] at p
          dsimp only at p
          by_cases w1 : clsOfV h b = some c
          · rw [if_pos w1] at p
            obtain ⟨nn, hn, _⟩ := S (20 + k) c f w2
            have h1 : k = 1 := by rcases (spN_bop hn).2 with e | e | e <;> omega
            exact .inl ⟨h1, kv_ownB S sy rx ry w w1 w2 p⟩
          · rw [if_neg w1] at p; exact p.elim
  · have e6 : binX k = bopOf k := by
      have : k = 6 ∨ k = 7 := by omega
      rcases this with rfl | rfl <;> rfl
    rw [e6]
    refine PE.imp (pe_op (r := rOwnB D X n k) (op_ownB hr hx) ha hb) (sem_op2 ?_)
    intro x y a b Hs H ρ h Q sy rx ry p
    unfold binG at p
    cases w : clsOfV h a with
    | none =>
      rw [w] at p
      have hb : ∀ u v, binV k u v = none := fun u v => by
        have : k = 6 ∨ k = 7 := by omega
        rcases this with rfl | rfl <;> rfl
      have hs : opG (binV k) a b h = .stuck ∨ ∃ u v h', opG (binV k) a b h = liftF (binV k u v) h' := by
        unfold opG
        cases q1 : frz a h with
        | stuck => exact .inl rfl
        | exc c ps h1 => exact (frz_exc q1).elim
        | ok u h1 =>
          cases q2 : frz b h1 with
          | stuck => exact .inl (by show (frz b h1).bind _ = _; rw [q2]; rfl)
          | exc c ps h1 => exact (frz_exc q2).elim
          | ok v h2 => exact .inr ⟨u, v, h2, by show (frz b h1).bind _ = _; rw [q2]; rfl⟩
      rcases hs with e | ⟨u, v, h', e⟩
      · dsimp only at p; rw [e] at p; exact p.elim
      · dsimp only at p; rw [e, hb] at p; exact p.elim
    | some c =>
      rw [w] at p
      dsimp only at p
      cases w2 : spc (20 + k) c with
      | none => rw [w2] at p; exact p.elim
      | some f =>
        rw [w2] at p
        dsimp only at p
        by_cases w1 : clsOfV h b = some c
        · rw [if_pos w1] at p
          exact kv_ownB S sy rx ry w w1 w2 p
        · rw [if_neg w1] at p; exact p.elim
/-! ### ~ -/
def rOwnI (D : Wd) (X : Cx) (k : Nat) : V → Hp → VK → Prop := fun x H Q => ∃ a C dx fs fa fd ps φ, x = .ref a ∧ H a = some (.ins C dx fs) ∧ Md X k C nInv fa fd ps (spF D.T D.fld φ) ∧ spF D.T D.fld φ [x] H Q D.E
theorem un_ownI {k : Nat} (hr : Room k X.A) (hx : Passes (L2.CX X.prog X.w) X D.E) : UnR X (unaryOp .Invert) (rOwnI D X k) := by
  intro pins s σ H x v Q I rx hh
  obtain ⟨a, C, dx, fs, fa, fd, ps, φ, rfl, ha, M, q⟩ := hh
  cases rx
  obtain ⟨mA, J, _⟩ := ins_get I.hok ha
  obtain ⟨od, J, _⟩ := J.look
  obtain ⟨m, hF⟩ := I.fr
  have hs := M.mt.at_
  rw [inv_name] at hs
  refine PySem.W.ksp_inv hF I.ok.mod.kin J hs M.mt.fn ?_
  exact run_fn M.ok hr M.bd .nil hx I (vs := [V.ref a]) (.cons (show L2.RelV (V.ref a) (Value.ref a) from rfl) .nil) (by rw [List.append_nil]; exact q)
theorem ev_invG {n : Nat} (hr : Room n X.A) (hx : Passes (L2.CX X.prog X.w) X D.E) {spc : Nat → Nat → Option Nat} {φ : Nat → List Vl → Hm → R Vl} (S : SpcOk D X n spc φ) {f : Env → Hm → R Vl} (ha : PE X a (semE D f)) : PE X (.UnaryOp .Invert a pos) (semE D (op1 f (invG spc φ))) := by
  refine PE.imp (pe_un (un_ownI hr hx) ha) (sem_op1 ?_)
  intro x a Hs H ρ h Q sy rx p
  unfold invG at p
  cases w : clsOfV h a with
  | none => rw [w] at p; exact p.elim
  | some c =>
    rw [w] at p
    dsimp only at p
    cases w2 : spc 13 c with
    | none => rw [w2] at p; exact p.elim
    | some f =>
      rw [w2] at p
      dsimp only at p
      obtain ⟨ad, C, dx, fs, rfl, ha, hC⟩ := clsOf_ok sy rx w
      obtain ⟨n, hn, C', fa, fd, ps, hC', M, ow⟩ := S 13 c f w2
      rw [hC] at hC'
      cases hC'
      cases hn
      exact ⟨ad, C, dx, fs, fa, fd, ps, _, rfl, ha, M, Hs, ρ, h, [a], sy, .cons rx .nil, p⟩
end
end HV

end

section
/-! Vz: zip and enumerate of lists and tuples in any mix. -/
namespace HV
open PySem PySem.Spec PyProof.Rows L2
/-- a list (false), a tuple (true) -/
def SqB (K : PySem.W.Frag) (t : Bool) (H : Hp) (a : Addr) (xs : List V) : Prop := match t with
  | false => SqL K H a xs
  | true => SqT K H a xs
def IsB (t : Bool) (h : Heap) (a : Addr) (items : Array Value) : Prop := match t with
  | false => h.IsList a items
  | true => h.IsTuple a items
def ItB (t : Bool) (h : Heap) (it a : Addr) (i : Nat) : Prop := match t with
  | false => h.IsListIter it a i
  | true => h.IsTupleIter it a i
def itO (t : Bool) (a : Addr) : Obj := match t with
  | false => { cls := .type "list_iterator", data := .fields #[.ref a, .int 0 0] }
  | true => { cls := .type "tuple_iterator", data := .fields #[.ref a, .int 0 0] }
section
variable {X : Cx} {pins : List (Addr × Obj)} {σ : L2.St} {H : Hp} {s : Shared} {t : Bool} {a : Addr} {xs ys : List V}
theorem seqB (I : Inv X pins σ H s) (h : SqB X.K t H a xs) : ∃ its, Vals xs its ∧ IsB t s.heap a its.toArray ∧ a < s.heap.objs.size := by
  cases t with
  | false =>
    obtain ⟨its, rv, p, _⟩ := I.list h
    exact ⟨its, rv, p.isList, p.lt⟩
  | true =>
    obtain ⟨its, rv, p, _⟩ := I.tuple h
    obtain ⟨o, ho, _⟩ := id p
    exact ⟨its, rv, p, Heap.lt_size ho⟩
theorem injB (I : Inv X pins σ H s) (h : SqB X.K t H a xs) (h' : SqB X.K t H a ys) : xs = ys := by
  cases t with
  | false => exact I.list_inj h h'
  | true => exact I.tuple_inj h h'
theorem drawsB {prog : Program} {w : World} {A : Around} (hh : A.handled = none) (it : Addr) (hne : a ≠ it) (items : Array Value) :
    Draws prog w A it [it, a] items.size (fun i v => items[i]? = some v) (fun i h => ItB t h it a i ∧ IsB t h a items) := by
  cases t with
  | false => exact Draws.list hh it a hne items
  | true => exact Draws.tuple hh it a hne items
theorem beginsB (items : Array Value) : Begins (.ref a) (itO t a) fun h => IsB t h a items := by
  cases t with
  | false => exact begins_list a items
  | true => exact begins_tuple a items
theorem ItB.obj {h : Heap} {it : Addr} {i : Nat} (q : ItB t h it a i) : ∃ o vs, h.get? it = some o ∧ o.data = .fields vs := by
  cases t with
  | false => obtain ⟨o, e, _, d⟩ := q; exact ⟨o, _, e, d⟩
  | true => obtain ⟨o, e, _, d⟩ := q; exact ⟨o, _, e, d⟩
theorem ItB.at {h h' : Heap} {it : Addr} {i : Nat} (q : ItB t h it a i) (k : ∀ o, h.get? it = some o → h'.get? it = some o) : ItB t h' it a i := by
  cases t with
  | false => exact Heap.IsListIter.at q k
  | true => exact Heap.IsTupleIter.at q k
theorem itB_new {h : Heap} {it : Addr} (e : h.get? it = some (itO t a)) : ItB t h it a 0 := by
  cases t with
  | false => exact ⟨_, e, rfl, rfl⟩
  | true => exact ⟨_, e, rfl, rfl⟩
end
/-- the two at a and b as they stand at each turn, the items in new pairs -/
def ItzB (K : PySem.W.Frag) (t u : Bool) (a b : Addr) : It :=
  ⟨fun i H => ∃ (xs ys : List V) (x y : V), SqB K t H a xs ∧ SqB K u H b ys ∧ xs[i]? = some x ∧ ys[i]? = some y,
    fun i H v H' => ∃ T x y, v = .ref T ∧ H T = none ∧ H' = upd H T (.tup [x, y]) ∧ (∀ xs, SqB K t H a xs → xs[i]? = some x) ∧ ∀ ys, SqB K u H b ys → ys[i]? = some y,
    fun i H => ∃ xs ys : List V, SqB K t H a xs ∧ SqB K u H b ys ∧ i ≤ xs.length ∧ i ≤ ys.length ∧ (i = xs.length ∨ i = ys.length)⟩
theorem turn_zipB {P : Program} {w : World} {K : PySem.W.Frag} {elts : List Expr} {kk : Nat} {tpos : Pos} {t u : Bool} {a b z TI TO i1 i2 : Addr} (D : ZipSep2 z TI TO i1 i2 [i1, a] [i2, b]) (na : a ≠ i1) (nb : b ≠ i2) :
    Turn P w K (.Tuple elts kk tpos) (ItzB K t u a b) [z, TI, TO, i1, i2] z (fun i h => IsZip h z TI TO .none ∧ IsTupOf2 h TI (.ref i1) (.ref i2) ∧ (∃ x y, IsTupOf2 h TO x y) ∧ ItB t h i1 a i ∧ ItB u h i2 b i) where
  mem := by simp
  obj := fun i h st c hc => by
    obtain ⟨hz, hTI, ⟨x, y, hTO⟩, q1, q2⟩ := st
    obtain ⟨o1, v1, e1, d1⟩ := q1.obj
    obtain ⟨o2, v2, e2, d2⟩ := q2.obj
    have e' : c = z ∨ c = TI ∨ c = TO ∨ c = i1 ∨ c = i2 := by simpa using hc
    rcases e' with q | q | q | q | q
    · rw [q]; exact ⟨_, hz, fun v q => nomatch q⟩
    · rw [q]; exact ⟨_, hTI, fun v q => nomatch q⟩
    · rw [q]; exact ⟨_, hTO, fun v q => nomatch q⟩
    · rw [q]; exact ⟨o1, e1, fun v q => by rw [d1] at q; cases q⟩
    · rw [q]; exact ⟨o2, e2, fun v q => by rw [d2] at q; cases q⟩
  keep := fun i h h' st k => by
    obtain ⟨hz, hTI, ⟨x, y, hTO⟩, h1, h2⟩ := st
    exact ⟨k z (by simp) _ hz, k TI (by simp) _ hTI, ⟨x, y, k TO (by simp) _ hTO⟩, h1.at fun o q => k i1 (by simp) o q, h2.at fun o q => k i2 (by simp) o q⟩
  item := by
    intro X hP hw hK hc i pins s σ H E I hf st hg
    subst hP hw hK
    obtain ⟨hz, hTI, ⟨x0, y0, hTO⟩, h1, h2⟩ := st
    obtain ⟨xs, ys, x, y, hqx, hqy, hx, hy⟩ := hg
    obtain ⟨its, rv, p, _⟩ := seqB I hqx
    obtain ⟨its2, rv2, p2, _⟩ := seqB I hqy
    obtain ⟨u0, hu, ru⟩ := rv.get hx
    obtain ⟨u2, hu2, ru2⟩ := rv2.get hy
    have hzl : z < s.heap.objs.size := Heap.lt_size hz
    have l1 := rv.length
    have l2 := rv2.length
    have hlx : i < xs.length := (List.getElem?_eq_some_iff.mp hx).1
    have hly : i < ys.length := (List.getElem?_eq_some_iff.mp hy).1
    have hh : X.A.in1.handled = none := I.ok.hd hc
    refine wpAny_pyNext_zipD2_item D (drawsB (t := t) hh i1 na its.toArray) (drawsB (t := u) hh i2 nb its2.toArray) hz hTI hTO ⟨h1, p⟩ ⟨h2, p2⟩ (by simp; omega) (by simp; omega) fun x1 x2 h' tk e1 e2 z' TO' s1 s2 hT hsz hk => ?_
    have e1' : x1 = u0 := by
      have e3 : its.toArray[i]? = some u0 := by simpa using hu
      rw [e3] at e1; cases e1; rfl
    have e2' : x2 = u2 := by
      have e3 : its2.toArray[i]? = some u2 := by simpa using hu2
      rw [e3] at e2; cases e2; rfl
    subst e1' e2'
    refine ⟨_, rfl, wpAny_letOwnedTupleGo_zip (s := { s with heap := h', toks := tk }) z' fun h'' z'' sb => ?_⟩
    have hT2 : h''.get? s.heap.objs.size = some { cls := .type "tuple", data := .seq #[x1, x2] } := (sb.2 _ (Nat.ne_of_gt hzl)).trans hT
    have new : ObjOk X.prog X.w (upd H s.heap.objs.size (.tup [x, y])) h'' s.heap.objs.size (.tup [x, y]) :=
      ⟨by show 2 ≤ sizeLine; decide, [x1, x2], .cons ru (.cons ru2 .nil), ⟨_, hT2, rfl, _, rfl⟩⟩
    have I1 : Inv X pins σ (upd H s.heap.objs.size (.tup [x, y])) { s with heap := h'', toks := tk } :=
      I.turnedNew (t' := tk) (ch := [z, TI, TO, i1, i2]) (fun c o hb q => (sb.2 c (fun q' => hb (by simp [q']))).trans (hk c o (fun q' => hb (by simp [q'])) (fun q' => hb (by simp [q'])) (fun q' => hb (by simp [q'])) (fun q' => hb (by simp [q'])) q)) hf (Nat.le_refl _) new
    refine ⟨.ref s.heap.objs.size, _, I1, rfl, ⟨_, x, y, rfl, I.hok.fresh (Nat.le_refl _), rfl, fun l hl => by rw [injB I hl hqx]; exact hx, fun l hl => by rw [injB I hl hqy]; exact hy⟩, ⟨z'', ?_, ⟨x1, x2, ?_⟩, ?_, ?_⟩, fun c hcm => ?_⟩
    · exact (sb.2 _ D.TIz).trans (hk _ _ D.TIz D.TITO D.TIi1 D.TIi2 hTI)
    · exact (sb.2 _ D.TOz).trans TO'
    · exact s1.1.at fun o q => (sb.2 _ (Ne.symm D.zi1)).trans q
    · exact s2.1.at fun o q => (sb.2 _ (Ne.symm D.zi2)).trans q
    · have hlt : c < s.heap.objs.size := by
        have e' : c = z ∨ c = TI ∨ c = TO ∨ c = i1 ∨ c = i2 := by simpa using hcm
        rcases e' with q | q | q | q | q
        · rw [q]; exact hzl
        · rw [q]; exact Heap.lt_size hTI
        · rw [q]; exact Heap.lt_size hTO
        · rw [q]; obtain ⟨_, _, e1, _⟩ := h1.obj; exact Heap.lt_size e1
        · rw [q]; obtain ⟨_, _, e2, _⟩ := h2.obj; exact Heap.lt_size e2
      rw [upd_ne (Nat.ne_of_lt hlt)]
      exact (hf c hcm).1
  done := by
    intro X hP hw hK hc i pins s σ H E I hf st hg
    subst hP hw hK
    obtain ⟨hz, hTI, ⟨x0, y0, hTO⟩, h1, h2⟩ := st
    obtain ⟨xs, ys, hqx, hqy, g1, g2, hend⟩ := hg
    obtain ⟨its, rv, p, _⟩ := seqB I hqx
    obtain ⟨its2, rv2, p2, _⟩ := seqB I hqy
    have l1 := rv.length
    have l2 := rv2.length
    have hh : X.A.in1.handled = none := I.ok.hd hc
    exact wpAny_pyNext_zipD2_end D (drawsB (t := t) hh i1 na its.toArray) (drawsB (t := u) hh i2 nb its2.toArray) hz hTI hTO ⟨h1, p⟩ ⟨h2, p2⟩ (by simp; omega) (by simp; omega) (by simp; omega) fun h' tk hk => ⟨rfl, I.turnedL (t' := tk) (ch := [z, TI, TO, i1, i2]) (fun c o hb q =>
      hk c o (fun q' => hb (by simp [q'])) (fun q' => hb (by simp [q'])) (fun q' => hb (by simp [q'])) (fun q' => hb (by simp [q'])) q) hf⟩
  self := fun A i s Q E st h => wpAny_pyIter_zip st.1 h
def iZipB (K : PySem.W.Frag) (ta : TA) : TI := fun σ H R => ta σ H fun vs H1 => ∃ t u a b xs ys, vs = [.ref a, .ref b] ∧ SqB K t H1 a xs ∧ SqB K u H1 b ys ∧ R (ItzB K t u a b) H1
theorem pi_zipB {X : Cx} {e e2 : Expr} {ta : TA} {p pos tpos : Pos} {elts : List Expr} {kk : Nat} (hg : Gl X "zip") (hm : X.mg "zip" = none) (ha : PA X [e, e2] ta)
    (hs : starEach [e, e2] X.env = (false, eval e X.env) :: starEach [e2] X.env) (hpl : (backTo pos (starEach [e2] X.env)).any (·.1) = false) :
    PI X (.Tuple elts kk tpos) (.Call (.Name "zip" p) [e, e2] [] pos) (iZipB X.K ta) := by
  refine ⟨fun pins s σ H R I h => ?_⟩
  refine Call_ (ld_blt I hg hm PyProof.Rows.boot_zip (PyProof.Rows.callWith_type1 (thn (ha.run pos pins s σ H _ I h) fun us s1 ⟨vs, H1, I1, r1, q1⟩ => ?_) hs hpl))
  obtain ⟨t, u, a, b, xs, ys, ex, hqx, hqy, q⟩ := q1
  subst ex
  cases r1 with
  | cons r rr =>
    cases rr with
    | cons r' rr =>
      cases rr
      cases r
      cases r'
      have fresh5 : ∀ c, c ∈ [s1.heap.objs.size + 4, s1.heap.objs.size + 2, s1.heap.objs.size + 3, s1.heap.objs.size, s1.heap.objs.size + 1] → FpOk X pins H1 c := fun c hcm => by
        have e' : c = s1.heap.objs.size + 4 ∨ c = s1.heap.objs.size + 2 ∨ c = s1.heap.objs.size + 3 ∨ c = s1.heap.objs.size ∨ c = s1.heap.objs.size + 1 := by simpa using hcm
        have hle : s1.heap.objs.size ≤ c := by
          rcases e' with z | z | z | z | z
          · rw [z]; exact Nat.le_add_right _ _
          · rw [z]; exact Nat.le_add_right _ _
          · rw [z]; exact Nat.le_add_right _ _
          · rw [z]; exact Nat.le_refl _
          · rw [z]; exact Nat.le_add_right _ _
        exact I1.fpOk hle (I1.hok.fresh hle)
      obtain ⟨its, rv, p1, la⟩ := seqB I1 hqx
      obtain ⟨its2, rv2, p2, lb⟩ := seqB I1 hqy
      refine zip_begins2 (beginsB (t := t) its.toArray) (beginsB (t := u) its2.toArray) p1 p2 fun h' hz hTI hTO g1 g2 hsz hk => wpAny_pyIter_zip hz ?_
      have I2 : Inv X pins σ H1 { s1 with heap := h' } := I1.kept (t' := s1.toks) hk
      exact ⟨s1.heap.objs.size + 4, [s1.heap.objs.size + 4, s1.heap.objs.size + 2, s1.heap.objs.size + 3, s1.heap.objs.size, s1.heap.objs.size + 1], _, _, H1, rfl, I2,
        turn_zipB (zip_sep2 (fp1 := [a]) (fp2 := [b]) (fun c hc => by simp at hc; rw [hc]; exact la) (fun c hc => by simp at hc; rw [hc]; exact lb)) (Nat.ne_of_lt la) (Nat.ne_of_lt (Nat.lt_succ_of_lt lb)), ⟨hz, hTI, ⟨_, _, hTO⟩, itB_new g1, itB_new g2⟩, fresh5, q⟩
theorem walk_zipB {K : PySem.W.Frag} {t u : Bool} {a b : Addr} {xs ys : List V} {n : Nat} (hn : n = min xs.length ys.length) : Walk (ItzB K t u a b) n (fun H => SqB K t H a xs ∧ SqB K u H b ys) (YPair (fun i => xs[i]?) (fun i => ys[i]?)) := by
  subst hn
  refine ⟨fun i _ hi q => ?_, fun _ q => ⟨xs, ys, q.1, q.2, by omega, by omega, by omega⟩, fun i H v H' _ q y => ?_⟩
  · have h1 : i < xs.length := by omega
    have h2 : i < ys.length := by omega
    exact ⟨xs, ys, xs[i], ys[i], q.1, q.2, by simp [h1], by simp [h2]⟩
  · obtain ⟨T, x, z, h1, h2, h3, h4, h5⟩ := y
    exact ⟨T, x, z, h1, h2, h3, h4 xs q.1, h5 ys q.2⟩
/-! ### enumerate -/
def IteB (K : PySem.W.Frag) (t : Bool) (a : Addr) : It :=
  ⟨fun i H => ∃ (xs : List V) (x : V), SqB K t H a xs ∧ xs[i]? = some x, fun i H v H' => ∃ T x, v = .ref T ∧ H T = none ∧ H' = upd H T (.tup [.int (i : Nat), x]) ∧ ∀ xs, SqB K t H a xs → xs[i]? = some x, fun i H => ∃ xs : List V, SqB K t H a xs ∧ xs.length = i⟩
theorem turn_enumB {P : Program} {w : World} {K : PySem.W.Frag} {elts : List Expr} {kk : Nat} {tpos : Pos} {t : Bool} (a e it : Addr) (hne : e ≠ it) (hea : e ≠ a) (hia : a ≠ it) :
    Turn P w K (.Tuple elts kk tpos) (IteB K t a) [e, it] e (fun i h => (∃ old, IsEnum h e it ((i : Nat) : Int) old) ∧ ItB t h it a i) where
  mem := by simp
  obj := fun i h st b hb => by
    obtain ⟨⟨old, he⟩, q⟩ := st
    obtain ⟨o, v, ho, hd⟩ := q.obj
    have e' : b = e ∨ b = it := by simpa using hb
    rcases e' with z | z
    · rw [z]; exact ⟨_, he, fun v q => nomatch q⟩
    · rw [z]; exact ⟨o, ho, fun v q => by rw [hd] at q; cases q⟩
  keep := fun i h h' st k => let ⟨⟨old, he⟩, hi⟩ := st; ⟨⟨old, k e (by simp) _ he⟩, hi.at fun o q => k it (by simp) o q⟩
  item := by
    intro X hP hw hK hc i pins s σ H E I hf st hg
    subst hP hw hK
    obtain ⟨⟨old, he⟩, hit⟩ := st
    obtain ⟨xs, x, hq, hx⟩ := hg
    obtain ⟨its, rv, p, hz⟩ := seqB I hq
    obtain ⟨u, hu, ru⟩ := rv.get hx
    have hel : e < s.heap.objs.size := Heap.lt_size he
    have hil : it < s.heap.objs.size := by obtain ⟨_, _, q, _⟩ := hit.obj; exact Heap.lt_size q
    have hh : X.A.in1.handled = none := I.ok.hd hc
    have l1 := rv.length
    have hlx : i < xs.length := (List.getElem?_eq_some_iff.mp hx).1
    refine wpAny_pyNext_enum_itemD (drawsB (t := t) hh it hia its.toArray) he ⟨hit, p⟩ (by simp; omega) hne (by simp; exact ⟨hne, hea⟩) fun x1 h' tk e1 ho st' hT hsz hk => ?_
    have e1' : x1 = u := by
      have e3 : its.toArray[i]? = some u := by simpa using hu
      rw [e3] at e1; cases e1; rfl
    subst e1'
    refine ⟨_, rfl, wpAny_letOwnedTupleGo_enum (s := { s with heap := h', toks := tk + 1 }) ho fun h'' he' sb => ?_⟩
    have hT2 : h''.get? s.heap.objs.size = some { cls := .type "tuple", data := .seq #[.int i tk, x1] } := (sb.2 _ (Nat.ne_of_gt hel)).trans hT
    have new : ObjOk X.prog X.w (upd H s.heap.objs.size (.tup [.int (i : Nat), x])) h'' s.heap.objs.size (.tup [.int (i : Nat), x]) :=
      ⟨by show 2 ≤ sizeLine; decide, [.int i tk, x1], .cons ⟨_, rfl⟩ (.cons ru .nil), ⟨_, hT2, rfl, _, rfl⟩⟩
    have I1 : Inv X pins σ (upd H s.heap.objs.size (.tup [.int (i : Nat), x])) { s with heap := h'', toks := tk + 1 } :=
      I.turnedNew (ch := [e, it]) (fun b ob hb q => (sb.2 b (fun z => hb (by simp [z]))).trans (hk b ob (fun z => hb (by simp [z])) (fun z => hb (by simp [z])) q)) hf (Nat.le_refl _) new
    refine ⟨.ref s.heap.objs.size, _, I1, rfl, ⟨_, x, rfl, I.hok.fresh (Nat.le_refl _), rfl, fun ys hy => by rw [injB I hy hq]; exact hx⟩, ⟨⟨x1, ?_⟩, st'.1.at fun o q => (sb.2 it (Ne.symm hne)).trans q⟩, fun b hb => ?_⟩
    · have e1 : ((i + 1 : Nat) : Int) = (i : Int) + 1 := by omega
      rw [e1]; exact he'
    · have hb' : b < s.heap.objs.size := by
        have e' : b = e ∨ b = it := by simpa using hb
        rcases e' with z | z
        · rw [z]; exact hel
        · rw [z]; exact hil
      rw [upd_ne (Nat.ne_of_lt hb')]
      exact (hf b hb).1
  done := by
    intro X hP hw hK hc i pins s σ H E I hf st hg
    subst hP hw hK
    obtain ⟨⟨old, he⟩, hit⟩ := st
    obtain ⟨xs, hq, hx⟩ := hg
    obtain ⟨its, rv, p, hz⟩ := seqB I hq
    obtain ⟨f0, f1, f2, f3, f4, f5⟩ := hf it (by simp)
    have hl := rv.length
    have hh : X.A.in1.handled = none := I.ok.hd hc
    have e : its.toArray.size = i := by simp; omega
    exact wpAny_pyNext_enum_endD (drawsB (t := t) hh it hia its.toArray) he ⟨by rw [e]; exact hit, p⟩ fun h' eb => ⟨rfl, I.turned (t' := s.toks) (fun b o hb q => eb b o hb q) f0 f1 f3 f4 f5⟩
  self := fun A i s Q E st h => let ⟨⟨_, he⟩, _⟩ := st; wpAny_pyIter_enum he h
theorem meets_enumQ {v : Value} {o : Obj} {H : Heap → Prop} (B : Begins v o H) :
    Meets (Builtin.«enumerate.__new__» ⟨[.type "enumerate", v], []⟩) (fun _ R s => H s.heap ∧
      R (.ok (.ret (.ref (s.heap.push o).objs.size))) { s with heap := (s.heap.push o).push { cls := .type "enumerate", data := .fields #[.none, .bool false, .ref s.heap.objs.size, rawInt 0, .none, .none] } }) :=
  .of_wp fun prog w A R s h => by
    obtain ⟨hp, g, d, tk, os⟩ := s; obtain ⟨h1, h⟩ := h
    have hsub := sub_enumerate
    have q1 : ∀ {A' : Around} {E : Value → Shared → Prop} {Q : Value → Shared → Prop}, Q (.ref hp.objs.size) ⟨hp.push o, g, d, tk, os⟩ → wpAny (model prog w) A' (pyIter v) Q E ⟨hp, g, d, tk, os⟩ :=
      fun q => B.iter prog w _ _ ⟨hp, g, d, tk, os⟩ _ h1 q
    wp_walk using q1
    refine wpAny_stack_any fun st => wpAny_pure ?_
    split
    · rename_i c _ _ _ _ _
      cases (c == Value.type "enumerate")
      · wp_walk using q1
        exact ⟨_, rfl, h⟩
      · wp_walk using q1
        exact ⟨_, rfl, h⟩
    · wp_walk using q1
      exact ⟨_, rfl, h⟩
theorem call_enumQ {prog : Program} {w : World} {A : Around} {E : Value → Shared → Prop} {s : Shared} {v : Value} {o : Obj} {H : Heap → Prop} {Q : Value → Shared → Prop} (B : Begins v o H) (h1 : H s.heap)
    (h : ∀ h', IsEnum h' (s.heap.objs.size + 1) s.heap.objs.size 0 .none → h'.get? s.heap.objs.size = some o → h'.objs.size = s.heap.objs.size + 2 →
      (∀ b o, s.heap.get? b = some o → h'.get? b = some o) → Q (.ref (s.heap.objs.size + 1)) { s with heap := h' }) :
    wpAny (model prog w) A (call (.type "enumerate") [v]) Q E s := by
  refine callType_new F.called_enumerate (by decide) (F.typeCall_enumerate_1 _) (F.newCall_enumerate_1 _) (fun obj => F.args_object_init_2 obj _) F.entry_enumerate_new
    (meets_enumQ B) ⟨h1, ?_⟩
  have hz : (s.heap.push o).objs.size = s.heap.objs.size + 1 := Heap.size_push ..
  show _ ∧ _
  rw [hz]
  have he : IsEnum ((s.heap.push o).push { cls := .type "enumerate", data := .fields #[.none, .bool false, .ref s.heap.objs.size, rawInt 0, .none, .none] }) (s.heap.objs.size + 1) s.heap.objs.size 0 .none := by
    have := Heap.get?_push_size (s.heap.push o) (o := { cls := .type "enumerate", data := .fields #[.none, .bool false, .ref s.heap.objs.size, rawInt 0, .none, .none] }) rfl
    rw [hz] at this; exact this
  refine ⟨⟨_, he, rfl⟩, h _ he (Heap.get?_push_of_some _ (Heap.get?_push_size _ B.free)) (by rw [Heap.size_push, hz]) fun b o x => Heap.get?_push_of_some _ (Heap.get?_push_of_some _ x)⟩
def iEnumB (K : PySem.W.Frag) (ta : TA) : TI := fun σ H R => ta σ H fun vs H1 => ∃ t a xs, vs = [.ref a] ∧ SqB K t H1 a xs ∧ R (IteB K t a) H1
theorem pi_enumB {X : Cx} {e : Expr} {ta : TA} {p pos tpos : Pos} {elts : List Expr} {kk : Nat} (hg : Gl X "enumerate") (hm : X.mg "enumerate" = none) (ha : PA X [e] ta) (hs : starEach [e] X.env = [(false, eval e X.env)]) :
    PI X (.Tuple elts kk tpos) (.Call (.Name "enumerate" p) [e] [] pos) (iEnumB X.K ta) := by
  refine ⟨fun pins s σ H R I h => ?_⟩
  refine Call_ (ld_blt I hg hm boot_enumerate (PyProof.Rows.callWith_type1 (thn (ha.run pos pins s σ H _ I h) fun us s1 ⟨vs, H1, I1, r1, q1⟩ => ?_) hs rfl))
  obtain ⟨t, a, xs, ex, hq, q⟩ := q1
  subst ex
  cases r1 with
  | cons r rr =>
    cases rr
    cases r
    obtain ⟨its, rv, p', la⟩ := seqB I1 hq
    refine call_enumQ (beginsB (t := t) its.toArray) p' fun h' he g1 hsz hk => wpAny_pyIter_enum he ?_
    have I2 : Inv X pins σ H1 { s1 with heap := h' } := I1.kept (t' := s1.toks) hk
    refine ⟨s1.heap.objs.size + 1, [s1.heap.objs.size + 1, s1.heap.objs.size], _, _, H1, rfl, I2, turn_enumB a (s1.heap.objs.size + 1) s1.heap.objs.size (Nat.succ_ne_self _) (Nat.ne_of_gt (Nat.lt_succ_of_lt la)) (Nat.ne_of_lt la), ⟨⟨.none, he⟩, itB_new g1⟩, fun b hb => ?_, q⟩
    have e' : b = s1.heap.objs.size + 1 ∨ b = s1.heap.objs.size := by simpa using hb
    have hle : s1.heap.objs.size ≤ b := by
      rcases e' with z | z
      · rw [z]; exact Nat.le_add_right _ _
      · rw [z]; exact Nat.le_refl _
    exact I1.fpOk hle (I1.hok.fresh hle)
theorem walk_enumB {K : PySem.W.Frag} {t : Bool} {a : Addr} {xs : List V} : Walk (IteB K t a) xs.length (fun H => SqB K t H a xs) (YPair (fun i => some (.int (i : Nat))) (fun i => xs[i]?)) := by
  refine ⟨fun i _ hi q => ⟨xs, xs[i], q, by simp [hi]⟩, fun _ q => ⟨xs, q, rfl⟩, fun i H v H' _ q y => ?_⟩
  obtain ⟨T, x, h1, h2, h3, h4⟩ := y
  exact ⟨T, .int (i : Nat), x, h1, h2, h3, rfl, h4 xs q⟩
end HV

end

section
/-! V7: statements, targets, what is walked, loops, comprehensions. -/
namespace HV
open PySem PySem.Spec PyProof.Rows L2
def PostS (D : Wd) (En : Ends) (Hs H : Hp) (ρ : List Addr) (h : Hm) : SO → Prop
  | .nx env' h' => ∀ σ' H' Hs' ρ', TrH Hs H ρ h Hs' H' ρ' h' → Pre ρ ρ' → Sy D.T Hs' H' ρ' h' → EnvR D.T Hs' ρ' σ' env' → En.nx σ' H'
  | .bk env' h' => ∀ σ' H' Hs' ρ', TrH Hs H ρ h Hs' H' ρ' h' → Pre ρ ρ' → Sy D.T Hs' H' ρ' h' → EnvR D.T Hs' ρ' σ' env' → En.bk σ' H'
  | .ct env' h' => ∀ σ' H' Hs' ρ', TrH Hs H ρ h Hs' H' ρ' h' → Pre ρ ρ' → Sy D.T Hs' H' ρ' h' → EnvR D.T Hs' ρ' σ' env' → En.ct σ' H'
  | .rt v h' => ∀ u H' Hs' ρ', TrH Hs H ρ h Hs' H' ρ' h' → Pre ρ ρ' → Sy D.T Hs' H' ρ' h' → VlR D.T Hs' ρ' u v → En.rt u H'
  | .exc c ps h' => ∀ H' Hs' ρ' C d, TrH Hs H ρ h Hs' H' ρ' h' → Pre ρ ρ' → Sy D.T Hs' H' ρ' h' → XR D.T Hs' H' D.fld c ps C d → D.E (.ref C) d H'
  | .stuck => False
def semS (D : Wd) (f : Env → Hm → SO) : TS := fun En σ H => ∃ Hs ρ h env, Sy D.T Hs H ρ h ∧ EnvR D.T Hs ρ σ env ∧ PostS D En Hs H ρ h (f env h)
section
variable {D : Wd} {T : Tb} {Hs H Hs' H' : Hp} {ρ ρ' : List Addr} {h h' : Hm} {σ : L2.St} {env : Env} {X : Cx} {e o a b c tg : Expr} {es rest : List Expr} {apos cpos pos pos' p p2 : Pos} {En : Ends}
theorem PostS.back {o : SO} (t : TrH Hs H ρ h Hs' H' ρ' h') (pr : Pre ρ ρ') (q : PostS D En Hs H ρ h o) : PostS D En Hs' H' ρ' h' o := by
  cases o with
  | nx e => exact fun σ' H2 Hs2 ρ2 t2 p2 sy er => q σ' H2 Hs2 ρ2 (t.trans t2) (pr.trans p2) sy er
  | bk e => exact fun σ' H2 Hs2 ρ2 t2 p2 sy er => q σ' H2 Hs2 ρ2 (t.trans t2) (pr.trans p2) sy er
  | ct e => exact fun σ' H2 Hs2 ρ2 t2 p2 sy er => q σ' H2 Hs2 ρ2 (t.trans t2) (pr.trans p2) sy er
  | rt d e => exact fun v H2 Hs2 ρ2 t2 p2 sy r => q v H2 Hs2 ρ2 (t.trans t2) (pr.trans p2) sy r
  | exc c ps e => exact fun H2 Hs2 ρ2 C d t2 p2 sy x => q H2 Hs2 ρ2 C d (t.trans t2) (pr.trans p2) sy x
  | stuck => exact q
theorem Post.bindS {α : Type} {R : Hp → Hp → List Addr → α → Prop} {o : HV.R α} {f : α → Hm → SO} (q : PostS D En Hs H ρ h (o.bindS f))
    (k : ∀ a h' H' Hs' ρ', TrH Hs H ρ h Hs' H' ρ' h' → Pre ρ ρ' → Sy D.T Hs' H' ρ' h' → PostS D En Hs' H' ρ' h' (f a h') → R Hs' H' ρ' a) : Post D R Hs H ρ h o := by
  cases o with
  | stuck => exact q
  | exc c ps e => exact q
  | ok a e =>
    intro H' Hs' ρ' t pr sy
    exact k a e H' Hs' ρ' t pr sy (PostS.back t pr (show PostS D En Hs H ρ h (f a e) from q))
theorem PostS.unlk {l : Lk} {o : SO} (sy : Sy D.T Hs H ρ h) (lk : LkOk l h) (q : PostS D En Hs H ρ h (unlkS l o)) : PostS D En Hs H ρ (lockH l h) o := by
  cases o with
  | stuck => exact q
  | nx e h1 =>
    intro σ' H' Hs' ρ' t pr s1 er
    obtain ⟨s2, t2⟩ := Sy.unlk sy lk t pr s1
    exact q σ' H' Hs' ρ' t2 pr s2 er
  | bk e h1 =>
    intro σ' H' Hs' ρ' t pr s1 er
    obtain ⟨s2, t2⟩ := Sy.unlk sy lk t pr s1
    exact q σ' H' Hs' ρ' t2 pr s2 er
  | ct e h1 =>
    intro σ' H' Hs' ρ' t pr s1 er
    obtain ⟨s2, t2⟩ := Sy.unlk sy lk t pr s1
    exact q σ' H' Hs' ρ' t2 pr s2 er
  | rt v h1 =>
    intro u H' Hs' ρ' t pr s1 r
    obtain ⟨s2, t2⟩ := Sy.unlk sy lk t pr s1
    exact q u H' Hs' ρ' t2 pr s2 r
  | exc c ps h1 =>
    intro H' Hs' ρ' C d t pr s1 x
    obtain ⟨s2, t2⟩ := Sy.unlk sy lk t pr s1
    exact q H' Hs' ρ' C d t2 pr s2 x
/-! ### blocks, plain statements -/
theorem ss_nil : PSs X [] (semS D .nx) := PSs.imp pss_nil fun En σ H z => by
  obtain ⟨Hs, ρ, h, env, sy, er, p⟩ := z
  exact p σ H Hs ρ Tr.refl Pre.refl sy er
theorem ss_cons {st : Stmt} {rest : List Stmt} {f g : Env → Hm → SO} (hh : PS X st (semS D f)) (hr : PSs X rest (semS D g)) : PSs X (st :: rest) (semS D fun env h => (f env h).bind g) := by
  refine PSs.imp (pss_cons hh hr) fun En σ H z => ?_
  obtain ⟨Hs, ρ, h, env, sy, er, p⟩ := z
  refine ⟨Hs, ρ, h, env, sy, er, ?_⟩
  show PostS D _ Hs H ρ h (f env h)
  dsimp only at p
  cases q : f env h with
  | nx e h1 =>
    rw [q] at p
    intro σ' H' Hs' ρ' t pr sy' er'
    exact ⟨Hs', ρ', h1, e, sy', er', PostS.back t pr p⟩
  | bk e h1 => rw [q] at p; exact p
  | ct e h1 => rw [q] at p; exact p
  | rt d h1 => rw [q] at p; exact p
  | exc c ps h1 => rw [q] at p; exact p
  | stuck => rw [q] at p; exact p
theorem s_pass : PS X (.Pass pos) (semS D .nx) := PS.imp ps_pass fun En σ H z => by
  obtain ⟨Hs, ρ, h, env, sy, er, p⟩ := z
  exact p σ H Hs ρ Tr.refl Pre.refl sy er
theorem s_doc {x : Str} {j : Nat} : PS X (.Expr (.Constant (.str x) j pos) pos') (semS D .nx) := PS.imp ps_doc fun En σ H z => by
  obtain ⟨Hs, ρ, h, env, sy, er, p⟩ := z
  exact p σ H Hs ρ Tr.refl Pre.refl sy er
theorem s_brk : PS X (.Break pos) (semS D .bk) := PS.imp ps_break fun En σ H z => by
  obtain ⟨Hs, ρ, h, env, sy, er, p⟩ := z
  exact p σ H Hs ρ Tr.refl Pre.refl sy er
theorem s_cont : PS X (.Continue pos) (semS D .ct) := PS.imp ps_continue fun En σ H z => by
  obtain ⟨Hs, ρ, h, env, sy, er, p⟩ := z
  exact p σ H Hs ρ Tr.refl Pre.refl sy er
theorem s_ret {f : Env → Hm → R Vl} (hh : PE X e (semE D f)) : PS X (.Return (some e) pos) (semS D fun env h => (f env h).bindS .rt) := by
  refine PS.imp (ps_ret hh) fun En σ H z => ?_
  obtain ⟨Hs, ρ, h, env, sy, er, p⟩ := z
  exact ⟨Hs, ρ, h, env, sy, er, Post.bindS p fun d h1 H1 Hs1 ρ1 t1 p1 sy1 q1 v rv => q1 v H1 Hs1 ρ1 Tr.refl Pre.refl sy1 rv⟩
theorem s_retN : PS X (.Return none pos) (semS D fun _ h => .rt (.fz .non) h) := by
  refine PS.imp ps_retN fun En σ H z => ?_
  obtain ⟨Hs, ρ, h, env, sy, er, p⟩ := z
  exact p .non H Hs ρ Tr.refl Pre.refl sy RepV.non
theorem s_expr {f : Env → Hm → R Vl} (hh : PE X e (semE D f)) (hs : swapsWith e none pos.line X.env = pure false) : PS X (.Expr e pos) (semS D fun env h => (f env h).bindS fun _ h => .nx env h) := by
  refine PS.imp (ps_expr hh (hs := hs)) fun En σ H z => ?_
  obtain ⟨Hs, ρ, h, env, sy, er, p⟩ := z
  exact ⟨Hs, ρ, h, env, sy, er, Post.bindS p fun d h1 H1 Hs1 ρ1 t1 p1 sy1 q v r => q σ H1 Hs1 ρ1 Tr.refl Pre.refl sy1 (er.mono t1.mono p1)⟩
theorem s_if {xs ys : List Stmt} {f : Env → Hm → R Bool} {g u : Env → Hm → SO} (hc : PT X c (semT D f)) (ha : PSs X xs (semS D g)) (hb : PSs X ys (semS D u)) :
    PS X (.If c xs ys pos) (semS D fun env h => (f env h).bindS fun t h => if t = true then g env h else u env h) := by
  refine PS.imp (ps_if hc ha hb) fun En σ H z => ?_
  obtain ⟨Hs, ρ, h, env, sy, er, p⟩ := z
  refine ⟨Hs, ρ, h, env, sy, er, Post.bindS p fun k h1 H1 Hs1 ρ1 t1 p1 sy1 q => ?_⟩
  cases k with
  | true => exact iteT ⟨Hs1, ρ1, h1, env, sy1, er.mono t1.mono p1, q⟩
  | false => exact iteF ⟨Hs1, ρ1, h1, env, sy1, er.mono t1.mono p1, q⟩
theorem EnvR.set {i : Nat} {u : V} {v : Vl} (er : EnvR T Hs ρ σ env) (hi : i < env.length) (r : VlR T Hs ρ u v) : EnvR T Hs ρ (σ.set i (some u)) (env.set i (some v)) := by
  refine ⟨by rw [List.length_set, List.length_set]; exact er.1, fun j w e => ?_⟩
  by_cases hj : j = i
  · subst hj
    rw [List.getElem?_set_self hi] at e
    cases e
    exact ⟨u, List.getElem?_set_self (by rw [← er.1]; exact hi), r⟩
  · rw [List.getElem?_set_ne (Ne.symm hj)] at e
    obtain ⟨u', h1, h2⟩ := er.2 j w e
    exact ⟨u', by rw [List.getElem?_set_ne (Ne.symm hj)]; exact h1, h2⟩
theorem s_set {x : Str} {i : Nat} {f : Env → Hm → R Vl} (hh : PS X (.Assign [.Name x pos'] e pos) (tAsg (semE D f) (gName i))) :
    PS X (.Assign [.Name x pos'] e pos) (semS D fun env h => (f env h).bindS fun v h => setE i v env h) := by
  refine PS.imp hh fun En σ H z => ?_
  obtain ⟨Hs, ρ, h, env, sy, er, p⟩ := z
  refine ⟨Hs, ρ, h, env, sy, er, Post.bindS p fun v h1 H1 Hs1 ρ1 t1 p1 sy1 q u ru => ?_⟩
  unfold setE at q
  by_cases hi : i < env.length
  · rw [if_pos hi] at q
    exact q _ H1 Hs1 ρ1 Tr.refl Pre.refl sy1 ((er.mono t1.mono p1).set hi ru)
  · rw [if_neg hi] at q; exact q.elim
/-! ### several names at once -/
theorem setL_ok : ∀ {is : List Nat} {vs : List Vl} {us : List V} {env e : Env} {σ : L2.St}, setL is vs env = some e → VlsR T Hs ρ us vs → EnvR T Hs ρ σ env → EnvR T Hs ρ ((is.zip us).foldl (fun σ p => σ.set p.1 (some p.2)) σ) e
  | [], [], _, env, e, σ, h, .nil, er => by cases h; exact er
  | [], _ :: _, _, _, _, _, h, _, _ => by cases h
  | _ :: _, [], _, _, _, _, h, _, _ => by cases h
  | i :: is, v :: vs, _, env, e, σ, h, .cons r rr, er => by
    simp only [setL] at h
    by_cases hi : i < env.length
    · rw [if_pos hi] at h
      exact setL_ok (is := is) h rr (er.set hi r)
    · rw [if_neg hi] at h; cases h
theorem s_par2 {i j : Nat} {x y : Str} {px py pt : Pos} {kt k2 pt2} {g : Env → Hm → R (List Vl)} (hc : X.calm = true) (hN : X.N.Nodup) (hi : X.N[i]? = some x) (hj : X.N[j]? = some y) (hij : i ≠ j)
    (hx : X.env.scope.names.lookup x = some .local) (hy : X.env.scope.names.lookup y = some .local) (ha : PA X [a, b] (semA D g))
    (hw : swappedStores [.Tuple [.Name x px, .Name y py] kt pt] (.Tuple [a, b] k2 pt2) X.env = pure (some [x, y])) :
    PS X (.Assign [.Tuple [.Name x px, .Name y py] kt pt] (.Tuple [a, b] k2 pt2) pos) (semS D fun env h => (g env h).bindS fun vs h => nxG (setL [i, j] vs env) h) := by
  refine PS.imp (ps_par hc hN hi hj hij hx hy ha hw rfl) fun En σ H z => ?_
  obtain ⟨Hs, ρ, h, env, sy, er, p⟩ := z
  refine ⟨Hs, ρ, h, env, sy, er, Post.bindS p fun vs h1 H1 Hs1 ρ1 t1 p1 sy1 q us ru => ?_⟩
  cases w : setL [i, j] vs env with
  | none => rw [w] at q; exact q.elim
  | some e2 =>
    rw [w] at q
    have er2 := setL_ok w ru (er.mono t1.mono p1)
    have hlen : us.length = 2 := by
      rw [Paired.length ru]
      match vs, w with
      | [], w => cases w
      | [_], w => simp only [setL] at w; split at w <;> cases w
      | [_, _], w => rfl
      | _ :: _ :: _ :: _, w => simp only [setL] at w; split at w <;> first | cases w | (split at w <;> cases w)
    match us, hlen, er2 with
    | [u, w], _, er2 => exact ⟨u, w, rfl, q _ H1 Hs1 ρ1 Tr.refl Pre.refl sy1 er2⟩
theorem s_par3 {i j l : Nat} {x y z : Str} {px py pz pt : Pos} {kt k2 pt2} {g : Env → Hm → R (List Vl)} (hc : X.calm = true) (hN : X.N.Nodup) (hi : X.N[i]? = some x) (hj : X.N[j]? = some y) (hl : X.N[l]? = some z) (hij : i ≠ j) (hil : i ≠ l) (hjl : j ≠ l)
    (hx : X.env.scope.names.lookup x = some .local) (hy : X.env.scope.names.lookup y = some .local) (hz : X.env.scope.names.lookup z = some .local) (ha : PA X [a, b, c] (semA D g))
    (hw : swappedStores [.Tuple [.Name x px, .Name y py, .Name z pz] kt pt] (.Tuple [a, b, c] k2 pt2) X.env = pure (some [x, y, z])) :
    PS X (.Assign [.Tuple [.Name x px, .Name y py, .Name z pz] kt pt] (.Tuple [a, b, c] k2 pt2) pos) (semS D fun env h => (g env h).bindS fun vs h => nxG (setL [i, j, l] vs env) h) := by
  refine PS.imp (ps_par3 hc hN hi hj hl hij hil hjl hx hy hz ha hw rfl) fun En σ H z => ?_
  obtain ⟨Hs, ρ, h, env, sy, er, p⟩ := z
  refine ⟨Hs, ρ, h, env, sy, er, Post.bindS p fun vs h1 H1 Hs1 ρ1 t1 p1 sy1 q us ru => ?_⟩
  cases w : setL [i, j, l] vs env with
  | none => rw [w] at q; exact q.elim
  | some e2 =>
    rw [w] at q
    have er2 := setL_ok w ru (er.mono t1.mono p1)
    have hlen : us.length = 3 := by
      rw [Paired.length ru]
      match vs, w with
      | [], w => cases w
      | [_], w => simp only [setL] at w; split at w <;> cases w
      | [_, _], w => simp only [setL] at w; split at w <;> first | cases w | (split at w <;> cases w)
      | [_, _, _], w => rfl
      | _ :: _ :: _ :: _ :: _, w => simp only [setL] at w; split at w <;> first | cases w | (split at w <;> first | cases w | (split at w <;> cases w))
    match us, hlen, er2 with
    | [u, v, w], _, er2 => exact ⟨u, v, w, rfl, q _ H1 Hs1 ρ1 Tr.refl Pre.refl sy1 er2⟩
/-! ### while -/
theorem s_while {body : List Stmt} {f : Env → Hm → R Bool} {g : Env → Hm → SO} (hp : PassesOwn (model X.prog X.w) X.A X.env X.xe) (n : Nat) (hc : PT X c (semT D f)) (hb : PSs X body (semS D g)) :
    PS X (.While c body [] pos) (semS D fun env h => whileN f g n env h) := by
  refine PS.imp (ps_while hp hc hb) fun En σ H z => ?_
  obtain ⟨Hs, ρ, h, env, sy, er, p⟩ := z
  refine ⟨fun m σ1 H1 => ∃ Hs1 ρ1 h1 env1, TrH Hs H ρ h Hs1 H1 ρ1 h1 ∧ Pre ρ ρ1 ∧ Sy D.T Hs1 H1 ρ1 h1 ∧ EnvR D.T Hs1 ρ1 σ1 env1 ∧ PostS D En Hs1 H1 ρ1 h1 (whileN f g m env1 h1), ⟨n, Hs, ρ, h, env, Tr.refl, Pre.refl, sy, er, p⟩, ?_⟩
  rintro m σ1 H1 ⟨Hs1, ρ1, h1, env1, t1, p1, sy1, er1, q1⟩
  cases m with
  | zero => exact q1.elim
  | succ m =>
    simp only [whileN] at q1
    refine ⟨Hs1, ρ1, h1, env1, sy1, er1, Post.bindS q1 fun b h2 H2 Hs2 ρ2 t2 p2 sy2 q2 => ?_⟩
    have er2 := er1.mono t2.mono p2
    cases b with
    | false =>
      rw [if_neg Bool.false_ne_true] at q2
      exact iteF (q2 σ1 H2 Hs2 ρ2 Tr.refl Pre.refl sy2 er2)
    | true =>
      rw [if_pos rfl] at q2
      refine iteT ⟨fun σ' H' => ∃ Hs3 ρ3 h3 env3, TrH Hs H ρ h Hs3 H' ρ3 h3 ∧ Pre ρ ρ3 ∧ Sy D.T Hs3 H' ρ3 h3 ∧ EnvR D.T Hs3 ρ3 σ' env3 ∧ PostS D En Hs3 H' ρ3 h3 (whileN f g m env3 h3), fun σ' H' q => ⟨m, Nat.lt_succ_self m, q⟩, Hs2, ρ2, h2, env1, sy2, er2, ?_⟩
      cases q : g env1 h2 with
      | nx e h3 =>
        rw [q] at q2
        exact fun σ' H' Hs' ρ' t pr sy' er' => ⟨Hs', ρ', h3, e, (t1.trans t2).trans t, (p1.trans p2).trans pr, sy', er', PostS.back t pr q2⟩
      | ct e h3 =>
        rw [q] at q2
        exact fun σ' H' Hs' ρ' t pr sy' er' => ⟨Hs', ρ', h3, e, (t1.trans t2).trans t, (p1.trans p2).trans pr, sy', er', PostS.back t pr q2⟩
      | bk e h3 =>
        rw [q] at q2
        exact fun σ' H' Hs' ρ' t pr sy' er' => q2 σ' H' Hs' ρ' t pr sy' er'
      | rt d h3 => rw [q] at q2; exact q2
      | exc c ps h3 => rw [q] at q2; exact q2
      | stuck => rw [q] at q2; exact q2
/-! ### what is stored in an object -/
def rSetV : TSet := fun o i v H Q => rSetL o i v H Q ∨ ∃ a H', o = .ref a ∧ DPut H a i v H' ∧ Q H'
theorem set_any (hu : X.A.units + 1 < cLine) : PSet X rSetV := by
  intro pins s σ H o i v ov iv u Q I ro ri rv h
  rcases h with h | ⟨a, H', rfl, g, q⟩
  · exact set_list pins s σ H o i v ov iv u Q I ro ri rv h
  · cases ro
    exact d_setItem hu I g ri rv fun s' I' => ⟨H', I', q⟩
theorem kv_any {k : Key} {e : PV} (ke : KeyR k e) : ∀ {v : List (Key × V)} {d : List (PV × Vl)}, Paired (KvR T Hs ρ) v d → (v.any fun kv => decide (kv.1 = k)) = d.any fun kv => eqvP kv.1 e
  | _, _, .nil => rfl
  | _, _, .cons r rr => by rw [List.any_cons, List.any_cons, kv_any ke rr, key_eq r.1 ke]
theorem kv_put1 {k : Key} {e : PV} {x : V} {y : Vl} (ke : KeyR k e) (rx : VlR T Hs ρ x y) : ∀ {v : List (Key × V)} {d : List (PV × Vl)}, Paired (KvR T Hs ρ) v d → Paired (KvR T Hs ρ) (v.map fun kv => if kv.1 = k then (kv.1, x) else kv) (d.map fun kv => if eqvP kv.1 e = true then (kv.1, y) else kv)
  | _, _, .nil => .nil
  | _, _, .cons (a := (q, x')) (b := (e', y')) r rr => by
    rw [List.map_cons, List.map_cons]
    by_cases z : q = k
    · rw [if_pos z, if_pos (by rw [key_eq r.1 ke]; exact decide_eq_true z)]
      exact .cons ⟨r.1, rx⟩ (kv_put1 ke rx rr)
    · rw [if_neg z, if_neg (by rw [key_eq r.1 ke, decide_eq_false z]; exact Bool.false_ne_true)]
      exact .cons r (kv_put1 ke rx rr)
theorem kv_put {k : Key} {e : PV} {x : V} {y : Vl} (ke : KeyR k e) (rx : VlR T Hs ρ x y) {v : List (Key × V)} {d : List (PV × Vl)} (r : Paired (KvR T Hs ρ) v d) : Paired (KvR T Hs ρ) (putK v k x) (putD d e y) := by
  unfold putK putD
  rw [kv_any ke r]
  by_cases z : (d.any fun kv => eqvP kv.1 e) = true
  · rw [if_pos z, if_pos z]; exact kv_put1 ke rx r
  · rw [if_neg z, if_neg z]; exact Paired.append r (.cons ⟨ke, rx⟩ .nil)
theorem putD_len (d : List (PV × Vl)) (e : PV) (x : Vl) : (putD d e x).length ≤ d.length + 1 := by
  unfold putD
  split <;> simp
theorem setI_ok {x i v : V} {dx di dv : Vl} {Q : Hp → Prop} (sy : Sy D.T Hs H ρ h) (rx : VlR D.T Hs ρ x dx) (ri : VlR D.T Hs ρ i di) (rv : VlR D.T Hs ρ v dv) (q : Post D (fun Hs' H' ρ' _ => Q H') Hs H ρ h (setI dx di dv h)) : rSetV x i v H Q := by
  unfold setI at q
  cases dx with
  | fz d => exact q.elim
  | rf n =>
    obtain ⟨a, ha, rfl⟩ := rx
    dsimp only at q
    cases e : h[n]? with
    | none => rw [e] at q; exact q.elim
    | some oo =>
      rw [e] at q
      cases oo with
      | none => exact q.elim
      | some o =>
        obtain ⟨_, mr⟩ := sy.ob n o a e ha
        cases di with
        | rf m => cases o <;> exact q.elim
        | fz di =>
          replace ri : RepV D.T Hs i di := ri
          cases o with
          | lst xs =>
            obtain ⟨vs, g1, g2, g3⟩ := mr
            cases ri with
            | int i =>
              dsimp only at q
              cases w : ixP xs.length i with
              | none => rw [w] at q; exact q.elim
              | some k =>
                rw [w] at q
                obtain ⟨s2, t2⟩ := sy.write (u := .lst (vs.set k v)) (o' := .lst (xs.set k dv)) e ha ⟨_, upd_same, by rw [List.length_set]; exact g2, Paired.set rv k g3⟩
                exact .inl ⟨a, vs, i, k, rfl, rfl, g1, by rw [Paired.length g3]; exact w, q _ Hs ρ t2 Pre.refl s2⟩
            | _ => exact q.elim
          | dct kvs =>
            obtain ⟨ks, g1, g2, g3⟩ := mr
            dsimp only at q
            by_cases hl : isKey di = true ∧ kvs.length < LIM
            · rw [if_pos hl] at q
              obtain ⟨qk, kq, rfl⟩ := keyR_of ri hl.1
              have hl2 := hl.2
              rw [lim_eq] at hl2
              have := putD_len kvs di dv
              obtain ⟨s2, t2⟩ := sy.write (u := .dK (putK ks qk v)) (o' := .dct (putD kvs di dv)) e ha ⟨_, upd_same, by omega, kv_put kq rv g3⟩
              exact .inr ⟨a, _, rfl, .inl ⟨ks, qk, g1, rfl, by rw [Paired.length g3]; exact hl2, rfl⟩, q _ Hs ρ t2 Pre.refl s2⟩
            · rw [if_neg hl] at q; exact q.elim
          | ins c fs => cases di <;> exact q.elim
theorem s_setI (hu : X.A.units + 1 < cLine) {value ix : Expr} {f g u : Env → Hm → R Vl} (hv : PE X value (semE D f)) (ho : PE X o (semE D g)) (hi : PE X ix (semE D u))
    (hsw : swapsWithSole [.Subscript o ix pos'] value pos.line X.env = pure false) (hnl : ∀ v, assign (.Subscript o ix pos') X.env v = (do
      let ov ← holding [v] (eval o X.env)
      let iv ← holding [v, ov] (eval ix X.env)
      standAt pos'
      holding [v, ov, iv] (setItem ov iv v)
      release [v, ov, iv] [])) (h1 : (assignEach [.Subscript o ix pos'] X.env).map (·.2) = [assign (.Subscript o ix pos') X.env]) (hw : swappedStores [.Subscript o ix pos'] value X.env = pure none) :
    PS X (.Assign [.Subscript o ix pos'] value pos) (semS D fun env h => (f env h).bindS fun y h => (g env h).bindS fun x h => (u env h).bindS fun i h => (setI x i y h).bindS fun _ h => .nx env h) := by
  refine PS.imp (ps_asg hv (pg_sub ho hi (set_any hu) hnl) hsw hw h1) fun En σ H z => ?_
  obtain ⟨Hs, ρ, h, env, sy, er, p⟩ := z
  refine ⟨Hs, ρ, h, env, sy, er, Post.bindS p fun y h1 H1 Hs1 ρ1 t1 p1 sy1 q1 v rv => ?_⟩
  have er1 := er.mono t1.mono p1
  refine ⟨Hs1, ρ1, h1, env, sy1, er1, Post.bindS q1 fun x h2 H2 Hs2 ρ2 t2 p2 sy2 q2 w rw' => ?_⟩
  have er2 := er1.mono t2.mono p2
  refine ⟨Hs2, ρ2, h2, env, sy2, er2, Post.bindS q2 fun i h3 H3 Hs3 ρ3 t3 p3 sy3 q3 z rz => ?_⟩
  refine setI_ok sy3 (rw'.mono t3.mono p3) rz ((rv.mono t2.mono p2).mono t3.mono p3) ?_
  exact Post.bindS q3 fun _ h4 H4 Hs4 ρ4 t4 p4 sy4 q4 => q4 σ H4 Hs4 ρ4 Tr.refl Pre.refl sy4 ((er2.mono t3.mono p3).mono t4.mono p4)
theorem fd_put {f : Nat} {v : V} {d : Vl} (rv : VlR T Hs ρ v d) : ∀ {gs : List (Str × V)} {fs : List (Nat × Vl)}, Paired (FdR T Hs ρ) gs fs → Paired (FdR T Hs ρ) (putF (nmS f) v gs) (putP f d fs)
  | _, _, .nil => .cons ⟨rfl, rv⟩ .nil
  | _, _, .cons (a := (g, x)) (b := (f0, y)) (l₁ := gs) (l₂ := fs) r rr => by
    obtain ⟨r1, r2⟩ := r
    dsimp only at r1
    subst r1
    by_cases hf : f0 = f
    · subst hf
      have e1 : putF (nmS f0) v ((nmS f0, x) :: gs) = (nmS f0, v) :: gs := by simp [putF]
      have e2 : putP f0 d ((f0, y) :: fs) = (f0, d) :: fs := by simp [putP]
      rw [e1, e2]
      exact .cons ⟨rfl, rv⟩ rr
    · have e1 : putF (nmS f) v ((nmS f0, x) :: gs) = (nmS f0, x) :: putF (nmS f) v gs := by
        simp only [putF]; rw [if_neg fun z => hf (nmS_inj z)]
      have e2 : putP f d ((f0, y) :: fs) = (f0, y) :: putP f d fs := by
        simp only [putP]; rw [if_neg hf]
      rw [e1, e2]
      exact .cons ⟨rfl, r2⟩ (fd_put rv rr)
theorem putP_mem {α : Type} {f g : Nat} {d : α} : ∀ {fs : List (Nat × α)}, g ∈ (putP f d fs).map (·.1) → g = f ∨ g ∈ fs.map (·.1)
  | [], h => by simp [putP] at h; exact .inl h
  | (f0, y) :: fs, h => by
    simp only [putP] at h
    split at h
    · rename_i e
      simp at h
      rcases h with h | h
      · exact .inl h
      · exact .inr (by simp; exact .inr h)
    · simp at h
      rcases h with h | h
      · exact .inr (by simp [h])
      · obtain ⟨x, hx⟩ := h
        rcases putP_mem (fs := fs) (g := g) (by simp; exact ⟨x, hx⟩) with h | h
        · exact .inl h
        · exact .inr (by simp at h ⊢; exact .inr h)
theorem putP_nodup {α : Type} {f : Nat} {d : α} : ∀ {fs : List (Nat × α)}, (fs.map (·.1)).Nodup → ((putP f d fs).map (·.1)).Nodup
  | [], _ => by simp [putP]
  | (f0, y) :: fs, h => by
    rw [List.map_cons, List.nodup_cons] at h
    simp only [putP]
    split
    · rename_i e
      rw [List.map_cons, List.nodup_cons]
      dsimp only at e ⊢
      rw [← e]; exact h
    · rename_i e
      rw [List.map_cons, List.nodup_cons]
      refine ⟨fun z => ?_, putP_nodup h.2⟩
      rcases putP_mem z with z | z
      · exact e z
      · exact h.1 z
theorem s_fld (ok : TbOk D.T) (hK : D.T.K = X.K) {f : Nat} {value : Expr} {u g : Env → Hm → R Vl} (hv : PE X value (semE D u)) (ho : PE X o (semE D g)) (hs : swapsWith value (some (.Attribute o (nmS f) pos')) pos.line X.env = pure false) :
    PS X (.Assign [.Attribute o (nmS f) pos'] value pos) (semS D fun env h => (u env h).bindS fun y h => (g env h).bindS fun x h => (fldH D.T.isF f x y h).bindS fun _ h => .nx env h) := by
  refine PS.imp (ps_fld ho hv hs) fun En σ H z => ?_
  obtain ⟨Hs, ρ, h, env, sy, er, p⟩ := z
  refine ⟨Hs, ρ, h, env, sy, er, Post.bindS p fun y h1 H1 Hs1 ρ1 t1 p1 sy1 q1 v rv => ?_⟩
  have er1 := er.mono t1.mono p1
  refine ⟨Hs1, ρ1, h1, env, sy1, er1, Post.bindS q1 fun x h2 H2 Hs2 ρ2 t2 p2 sy2 q2 w rw' => ?_⟩
  have er2 := er1.mono t2.mono p2
  unfold fldH at q2
  cases x with
  | fz d => exact q2.elim
  | rf n =>
    obtain ⟨a, ha, rfl⟩ := rw'
    dsimp only at q2
    cases e : h2[n]? with
    | none => rw [e] at q2; exact q2.elim
    | some oo =>
      rw [e] at q2
      cases oo with
      | none => exact q2.elim
      | some oo =>
        obtain ⟨_, mr⟩ := sy2.ob n oo a e ha
        cases oo with
        | lst xs => exact q2.elim
        | dct kvs => exact q2.elim
        | ins c fs =>
          obtain ⟨C, dx, gs, g1, g2, g3, g4⟩ := mr
          dsimp only at q2
          by_cases hif : D.T.isF c f = true ∧ fs.length < 1000
          · rw [if_pos hif] at q2
            have rv2 := rv.mono t2.mono p2
            obtain ⟨s3, t3⟩ := sy2.write (u := .ins C dx (putF (nmS f) v gs)) (o' := .ins c (putP f y fs)) e ha ⟨C, dx, _, upd_same, g2, putP_nodup g3, fd_put rv2 g4⟩
            exact ⟨a, C, dx, gs, rfl, g1, by rw [← hK]; exact ok.cl _ _ g2, by rw [← hK]; exact ok.fl _ _ _ g2 hif.1, by rw [Paired.length g4]; exact hif.2, q2 σ _ Hs2 ρ2 t3 Pre.refl s3 er2⟩
          · rw [if_neg hif] at q2; exact q2.elim
/-! ### targets -/
def semG (D : Wd) (ts : List Nat) (g : Vl → Env → Hm → Option Env) : TG := fun v σ H Q => ∃ Hs ρ h env d, Sy D.T Hs H ρ h ∧ EnvR D.T Hs ρ σ env ∧ VlR D.T Hs ρ v d ∧ ∃ e, g d env h = some e ∧
  ∀ σ', EnvR D.T Hs ρ σ' e → σ'.length = σ.length → (∀ i, i ∉ ts → σ'[i]? = σ[i]?) → Q σ' H
def semGs (D : Wd) (ts : List Nat) (g : List Vl → Env → Hm → Option Env) : TGs := fun vs σ H Q => ∃ Hs ρ h env ds, Sy D.T Hs H ρ h ∧ EnvR D.T Hs ρ σ env ∧ VlsR D.T Hs ρ vs ds ∧ ∃ e, g ds env h = some e ∧
  ∀ σ', EnvR D.T Hs ρ σ' e → σ'.length = σ.length → (∀ i, i ∉ ts → σ'[i]? = σ[i]?) → Q σ' H
theorem g_name {i : Nat} {x : Str} (hN : X.N.Nodup) (hi : X.N[i]? = some x) (hx : Loc X.env.scope x) (hf : X.fn x = true ∨ X.env.scope.names.lookup x = some .local) : PG X (.Name x pos) (semG D [i] (tgN i)) := by
  refine ⟨fun pins s σ H v u Q I r z => (pg_name hN hi hx hf).run pins s σ H v u Q I r ?_⟩
  obtain ⟨Hs, ρ, h, env, d, sy, er, rv, e, he, k⟩ := z
  unfold tgN at he
  by_cases hl : i < env.length
  · rw [if_pos hl] at he
    cases he
    exact k _ (er.set hl rv) (List.length_set ..) fun j hj => List.getElem?_set_ne fun z => hj (by rw [← z]; simp)
  · rw [if_neg hl] at he; cases he
theorem gs_nil : PGs X [] (semGs D [] gsNil) := by
  refine ⟨fun pins s σ H vs us Q I r z => pgs_nil.run pins s σ H vs us Q I r ?_⟩
  obtain ⟨Hs, ρ, h, env, ds, sy, er, rv, e, he, k⟩ := z
  cases rv with
  | nil => cases he; exact ⟨rfl, k σ er rfl fun _ _ => rfl⟩
  | cons _ _ => cases he
theorem gs_cons {ts us : List Nat} {g : Vl → Env → Hm → Option Env} {u : List Vl → Env → Hm → Option Env} (h1 : PG X e (semG D ts g)) (h2 : PGs X es (semGs D us u)) (hs : (assignEach (e :: es) X.env).map (·.2) = assign e X.env :: (assignEach es X.env).map (·.2)) : PGs X (e :: es) (semGs D (ts ++ us) (gsCons g u)) := by
  refine ⟨fun pins s σ H vs us' Q I r z => (pgs_cons h1 h2 hs).run pins s σ H vs us' Q I r ?_⟩
  obtain ⟨Hs, ρ, h, env, ds, sy, er, rv, e, he, k⟩ := z
  cases rv with
  | nil => cases he
  | cons rx rr =>
    rename_i x d xs ds
    simp only [gsCons] at he
    cases w : g d env h with
    | none => rw [w] at he; cases he
    | some e1 =>
      rw [w] at he
      refine ⟨x, xs, rfl, Hs, ρ, h, env, d, sy, er, rx, e1, w, fun σ1 er1 l1 a1 => ?_⟩
      refine ⟨Hs, ρ, h, e1, ds, sy, er1, rr, e, he, fun σ2 er2 l2 a2 => ?_⟩
      exact k σ2 er2 (l2.trans l1) fun i hi => (a2 i fun z => hi (List.mem_append_right _ z)).trans (a1 i fun z => hi (List.mem_append_left _ z))
theorem pg_or {t t' : TG} (h : PG X e t) (h' : PG X e t') : PG X e (fun v σ H Q => t v σ H Q ∨ t' v σ H Q) := ⟨fun pins s σ H v u Q I r z => by
  rcases z with z | z
  · exact h.run pins s σ H v u Q I r z
  · exact h'.run pins s σ H v u Q I r z⟩
theorem g_seq (hc : X.calm = true) {ts : List Nat} {n kk : Nat} {g : List Vl → Env → Hm → Option Env} (hh : PGs X es (semGs D ts g)) (hn : (assignEach es X.env).length = n) (hst : (assignEach es X.env).findIdx? (·.1) = none) : PG X (.Tuple es kk pos) (semG D ts (gSeq n g)) := by
  refine ⟨fun pins s σ H v u Q I r z => (pg_or (pg_tup (k := kk) hc hh hn hst) (pg_unl (k := kk) hc hh hn hst)).run pins s σ H v u Q I r ?_⟩
  obtain ⟨Hs, ρ, h, env, d, sy, er, rv, e, he, k⟩ := z
  cases d with
  | fz d =>
    replace rv : RepV D.T Hs v d := rv
    cases rv with
    | @tup a xs ds ha hz hr =>
      simp only [gSeq] at he
      by_cases hl : ds.length = n
      · rw [if_pos hl] at he
        exact .inl ⟨a, xs, rfl, SqT.of (sy.sub _ _ ha), by rw [hr.length]; exact hl, Hs, ρ, h, env, _, sy, er, vls_fz hr, e, he, k⟩
      · rw [if_neg hl] at he; cases he
    | @lst a xs ds ha hz hr =>
      simp only [gSeq] at he
      by_cases hl : ds.length = n
      · rw [if_pos hl] at he
        exact .inr ⟨a, xs, rfl, SqL.of (sy.sub _ _ ha), by rw [hr.length]; exact hl, Hs, ρ, h, env, _, sy, er, vls_fz hr, e, he, k⟩
      · rw [if_neg hl] at he; cases he
    | _ => cases he
  | rf m =>
    obtain ⟨a, ha, rfl⟩ := rv
    simp only [gSeq] at he
    cases w : h[m]? with
    | none => rw [w] at he; cases he
    | some oo =>
      rw [w] at he
      cases oo with
      | none => cases he
      | some oo =>
        obtain ⟨_, mr⟩ := sy.ob m oo a w ha
        cases oo with
        | lst xs =>
          obtain ⟨vs, g1, g2, g3⟩ := mr
          dsimp only at he
          by_cases hl : xs.length = n
          · rw [if_pos hl] at he
            exact .inr ⟨a, vs, rfl, SqL.of g1, by rw [Paired.length g3]; exact hl, Hs, ρ, h, env, _, sy, er, g3, e, he, k⟩
          · rw [if_neg hl] at he; cases he
        | dct kvs => cases he
        | ins c fs => cases he
/-! ### what is walked -/
def ItV (X : Cx) (tg : Expr) (x : V) (H : Hp) (R : It → Hp → Prop) : Prop := ∀ (pins : List (Addr × Obj)) (s : Shared) (σ : L2.St) (v : Value), Inv X pins σ H s → RelV x v → wpAny (model X.prog X.w) X.A (pyIter v) (PIE X pins σ tg R) X.xe s
theorem pi_val {te : TE} (he : PE X e te) : PI X tg e (fun σ H R => te σ H fun x H1 => ItV X tg x H1 R) := ⟨fun pins s σ H R I h => thn (he.run pins s σ H _ I h) fun v s1 ⟨x, H1, I1, r1, q1⟩ => q1 pins s1 σ v I1 r1⟩
theorem it_list {a : Addr} {xs : List V} {R : It → Hp → Prop} (hq : SqL X.K H a xs) (q : R (Itl X.K a) H) : ItV X tg (.ref a) H R := by
  intro pins s1 σ v I1 r1
  cases r1
  obtain ⟨its, rv, p, hz⟩ := I1.list hq
  refine wpAny_pyIter_list p.isList ?_
  refine ⟨s1.heap.objs.size, [s1.heap.objs.size], _, _, H, rfl, I1.kept (t' := s1.toks) fun b o e => Heap.get?_push_of_some _ e, turn_list a _, ⟨_, Heap.get?_push_size _ rfl, rfl, rfl⟩, fun b hb => ?_, q⟩
  have e : b = s1.heap.objs.size := by simpa using hb
  subst e
  exact I1.fpOk (Nat.le_refl _) (I1.hok.fresh (Nat.le_refl _))
theorem it_tup {a : Addr} {xs : List V} {R : It → Hp → Prop} (hq : SqT X.K H a xs) (q : R (Itt X.K a) H) : ItV X tg (.ref a) H R := by
  intro pins s1 σ v I1 r1
  cases r1
  obtain ⟨its, rv, p, hz⟩ := I1.tuple hq
  refine wpAny_pyIter_tuple (show s1.heap.IsTuple a its.toArray from p) ?_
  refine ⟨s1.heap.objs.size, [s1.heap.objs.size], _, _, H, rfl, I1.kept (t' := s1.toks) fun b o e => Heap.get?_push_of_some _ e, turn_tuple a _, ⟨_, Heap.get?_push_size _ rfl, rfl, rfl⟩, fun b hb => ?_, q⟩
  have e : b = s1.heap.objs.size := by simpa using hb
  subst e
  exact I1.fpOk (Nat.le_refl _) (I1.hok.fresh (Nat.le_refl _))
theorem it_str {x : Str} {R : It → Hp → Prop} (q : R (Its x) H) : ItV X tg (.str x) H R := by
  intro pins s1 σ v I1 r1
  obtain ⟨t, rfl⟩ := r1
  cases ha : x.cps.all (· < 128)
  · exact wpAny_pyIter_wide ha (pi_one (tk := s1.toks) I1 _ (turn_str _ x t "str_iterator" (.inr rfl)) ⟨_, Heap.get?_push_size _ rfl, rfl, rfl⟩ q)
  · exact wpAny_pyIter_ascii ha (pi_one (tk := s1.toks) I1 _ (turn_str _ x t "str_ascii_iterator" (.inl rfl)) ⟨_, Heap.get?_push_size _ rfl, rfl, rfl⟩ q)
/-- what is walked gives the things ds, while what is nobody's stands -/
def WalkV (T : Tb) (Hs H : Hp) (O : Addr → Prop) (ρ : List Addr) (ds : List Vl) (J : It) : Prop := ∃ (G : Hp → Prop) (Y : Nat → Hp → V → Hp → Prop), ds.length ≤ sizeLine ∧ Walk J ds.length G Y ∧ (∀ Hs2 H2 O2, Tr Hs H O Hs2 H2 O2 → Same Hs2 H2 → G H2) ∧
  ∀ i Hs2 H2 O2 x H', i < ds.length → Tr Hs H O Hs2 H2 O2 → Same Hs2 H2 → Y i H2 x H' → ∃ Hs' d, Grow Hs2 H2 Hs' H' ∧ ds[i]? = some d ∧ VlR T Hs' ρ x d
section
variable {O : Addr → Prop} {K : PySem.W.Frag} {a b : Addr} {xs ys : List V} {ds es : List PV}
theorem walkv_at {J : It} {G : Hp → Prop} {vs : List Vl} (w : Walk J xs.length G (YAt xs)) (hS : ∀ Hs2 H2 O2, Tr Hs H O Hs2 H2 O2 → Same Hs2 H2 → G H2) (hz : vs.length ≤ sizeLine) (hr : VlsR T Hs ρ xs vs) : WalkV T Hs H O ρ vs J := by
  refine ⟨G, YAt xs, hz, by rw [← Paired.length hr]; exact w, hS, fun i Hs2 H2 O2 x H' hi t s y => ?_⟩
  obtain ⟨rfl, y⟩ := y
  obtain ⟨d, g1, g2⟩ := Paired.getL hr y
  exact ⟨Hs2, d, .refl, g1, g2.mono t.mono Pre.refl⟩
theorem walkv_str {s : Txt} (hh : s.length ≤ sizeLine ∧ ∀ c ∈ s, c < 1114112) : WalkV T Hs H O ρ ((s.map fun c => PV.str [c]).map Vl.fz) (Its (tx s)) := by
  refine ⟨fun _ => True, fun i H v H' => H' = H ∧ ∃ c, (tx s).cps[i]? = some c ∧ v = .str ⟨#[c]⟩, by rw [List.length_map, List.length_map]; exact hh.1, ?_, fun _ _ _ _ _ => trivial, fun i Hs2 H2 O2 x H' hi t sm y => ?_⟩
  · have e : ((s.map fun c => PV.str [c]).map Vl.fz).length = (tx s).cps.size := by simp [tx]
    rw [e]
    exact walk_str
  · obtain ⟨rfl, c, hc, rfl⟩ := y
    have hc2 : s[i]? = some c := by simpa [tx] using hc
    exact ⟨Hs2, .fz (.str [c]), .refl, by rw [List.getElem?_map, List.getElem?_map, hc2]; rfl, RepV.str [c] ⟨by simp [sizeLine_eq], fun z hz => by simp at hz; subst hz; exact hh.2 z (List.mem_of_getElem? hc2)⟩⟩
theorem walkv_range {lo : Int} {n : Nat} (hz : n ≤ sizeLine) : WalkV T Hs H O ρ (((List.range n).map fun (i : Nat) => PV.int (lo + (i : Int))).map Vl.fz) (Itr lo n) := by
  refine ⟨fun _ => True, YFn fun i => .int (lo + i), by simpa using hz, by simpa using walk_range, fun _ _ _ _ _ => trivial, fun i Hs2 H2 O2 x H' hi t sm y => ?_⟩
  obtain ⟨rfl, rfl⟩ := y
  have hi2 : i < n := by simpa using hi
  exact ⟨Hs2, .fz (.int (lo + i)), .refl, by simp [hi2], RepV.int _⟩
theorem walkv_pair {xs ys : Nat → Option V} {J : It} {G : Hp → Prop} {ds : List PV} (hz : ds.length ≤ sizeLine) (w : Walk J ds.length G (YPair xs ys)) (hG : ∀ Hs2 H2 O2, Tr Hs H O Hs2 H2 O2 → Same Hs2 H2 → G H2)
    (hh : ∀ i x y, i < ds.length → xs i = some x → ys i = some y → ∃ d e, ds[i]? = some (.tup [d, e]) ∧ RepV T Hs x d ∧ RepV T Hs y e) : WalkV T Hs H O ρ (ds.map Vl.fz) J := by
  refine ⟨G, _, by rw [List.length_map]; exact hz, by rw [List.length_map]; exact w, hG, fun i Hs2 H2 O2 v H' hi t sm y => ?_⟩
  rw [List.length_map] at hi
  obtain ⟨T', x, y', rfl, hT, rfl, hx, hy⟩ := y
  obtain ⟨d, e, h1, h2, h3⟩ := hh i x y' hi hx hy
  have hs2 : Hs2 T' = none := sm.free hT
  have sb : Same Hs2 (upd Hs2 T' (.tup [x, y'])) := fun a u q => by rw [upd_ne (ne_of_none q hs2)]; exact q
  exact ⟨_, .fz (.tup [d, e]), .one hT, by rw [List.getElem?_map, h1]; rfl, RepV.tup upd_same (by simp [sizeLine_eq]) (.cons ((h2.mono t.mono).mono sb) (.cons ((h3.mono t.mono).mono sb) .nil))⟩
end
/-- the outcome with its heap beside -/
def tagH {α : Type} : R α → R (α × Hm)
  | .ok a h => .ok (a, h) h
  | .exc c p h => .exc c p h
  | .stuck => .stuck
theorem tag_bind {α β : Type} {o : R α} {f : α → Hm → R β} : tagH (o.bind f) = o.bind fun a h => tagH (f a h) := by cases o <;> rfl
def semI (D : Wd) (f : Src) : TI := fun σ H Q => ∃ Hs ρ h env, Sy D.T Hs H ρ h ∧ EnvR D.T Hs ρ σ env ∧
  Post D (fun Hs' H' ρ' r => ∀ J, WalkV D.T Hs' H' (Im ρ' (lockH r.1.2 r.2)) ρ' r.1.1 J → Q J H') Hs H ρ h (tagH (f env h))
def SrcOk (f : Src) : Prop := ∀ env h ds l h', f env h = .ok (ds, l) h' → LkOk l h'
theorem i_val (hK : D.T.K = X.K) {f : Env → Hm → R Vl} (he : PE X e (semE D f)) : PI X tg e (semI D (srcV f)) := by
  refine ⟨fun pins s σ H R I z => (pi_val he).run pins s σ H R I ?_⟩
  obtain ⟨Hs, ρ, h, env, sy, er, p⟩ := z
  unfold srcV at p
  rw [tag_bind] at p
  refine ⟨Hs, ρ, h, env, sy, er, p.bind fun d h1 H1 Hs1 ρ1 t1 p1 sy1 q1 v rv => ?_⟩
  cases d with
  | fz d =>
    dsimp only at q1
    cases w : iterV d with
    | none => rw [w] at q1; exact q1.elim
    | some ds =>
      rw [w] at q1
      have q := q1 H1 Hs1 ρ1 Tr.refl Pre.refl sy1
      replace rv : RepV D.T Hs1 v d := rv
      cases rv with
      | lst ha hz hr => cases w; exact it_list (SqL.of (sy1.sub _ _ ha)) (q _ (walkv_at walk_list (fun Hs2 H2 O2 t s => SqL.of (s _ _ (t.mono _ _ ha))) (by rw [List.length_map]; exact hz) (vls_fz hr)))
      | tup ha hz hr => cases w; exact it_tup (SqT.of (sy1.sub _ _ ha)) (q _ (walkv_at walk_tup (fun Hs2 H2 O2 t s => SqT.of (s _ _ (t.mono _ _ ha))) (by rw [List.length_map]; exact hz) (vls_fz hr)))
      | str x hx => cases w; exact it_str (q _ (walkv_str hx))
      | @scr a ns ha hz =>
        cases w
        exact it_list (by rw [← hK]; exact sy1.sub.seq ha) (q _ (walkv_at walk_list (fun Hs2 H2 O2 t s => by rw [← hK]; exact s.seq (t.mono.seq ha)) (by rw [List.length_map, List.length_map]; exact hz) (vls_fz (RepVs.ints ns))))
      | _ => cases w
  | rf n =>
    obtain ⟨a, ha, rfl⟩ := rv
    dsimp only at q1
    cases w : h1[n]? with
    | none => rw [w] at q1; exact q1.elim
    | some oo =>
      rw [w] at q1
      cases oo with
      | none => exact q1.elim
      | some oo =>
        obtain ⟨hsa, mr⟩ := sy1.ob n oo a w ha
        cases oo with
        | lst xs =>
          obtain ⟨vs, g1, g2, g3⟩ := mr
          have q := q1 H1 Hs1 ρ1 Tr.refl Pre.refl sy1
          have no := sy1.nokill w ha
          exact it_list (SqL.of g1) (q _ (walkv_at walk_list (fun Hs2 H2 O2 t s => SqL.of (t.keep a _ g1 hsa no fun _ z => nomatch z)) g2 g3))
        | dct kvs => exact q1.elim
        | ins c fs => exact q1.elim
theorem src_val {f : Env → Hm → R Vl} : SrcOk (srcV f) := by
  intro env h ds l h' e
  unfold srcV at e
  cases w : f env h with
  | stuck => rw [w] at e; cases e
  | exc c ps h1 => rw [w] at e; cases e
  | ok v h1 =>
    rw [w] at e
    cases v with
    | fz d =>
      simp only [R.bind] at e
      cases w2 : iterV d with
      | none => rw [w2] at e; cases e
      | some ds => rw [w2] at e; cases e; trivial
    | rf n =>
      simp only [R.bind] at e
      cases w2 : h1[n]? with
      | none => rw [w2] at e; cases e
      | some oo =>
        rw [w2] at e
        cases oo with
        | none => cases e
        | some oo =>
          cases oo with
          | lst xs => cases e; exact ⟨w2, trivial⟩
          | dct kvs => cases e
          | ins c fs => cases e
theorem i_range {f : Env → Hm → R Vl} (hg : Gl X "range") (hm : X.mg "range" = none) (ha : PE X a (semE D f)) (hs : argX a = true) : PI X tg (.Call (.Name "range" p) [a] [] pos) (semI D (srcR f)) := by
  have hst : starEach [a] X.env = [(false, eval a X.env)] := star_of hs
  refine ⟨fun pins s σ H R I z => (pi_range1 hg hm (pa_cons ha pa_nil hst) hst).run pins s σ H R I ?_⟩
  obtain ⟨Hs, ρ, h, env, sy, er, p⟩ := z
  unfold srcR at p
  rw [tag_bind] at p
  refine ⟨Hs, ρ, h, env, sy, er, p.bind fun d h1 H1 Hs1 ρ1 t1 p1 sy1 q1 v rv => ?_⟩
  cases d with
  | rf n => exact q1.elim
  | fz d =>
    dsimp only at q1
    cases w : rngN d with
    | none => rw [w] at q1; exact q1.elim
    | some ds =>
      rw [w] at q1
      have q := q1 H1 Hs1 ρ1 Tr.refl Pre.refl sy1
      replace rv : RepV D.T Hs1 v d := rv
      cases rv with
      | int j =>
        simp only [rngN] at w
        split at w
        · cases w
          rename_i hj
          exact ⟨j, rfl, by omega, by omega, q _ (walkv_range (by rw [sizeLine_eq]; omega))⟩
        · cases w
      | _ => cases w
theorem src_range {f : Env → Hm → R Vl} : SrcOk (srcR f) := by
  intro env h ds l h' e
  unfold srcR at e
  cases w : f env h with
  | stuck => rw [w] at e; cases e
  | exc c ps h1 => rw [w] at e; cases e
  | ok v h1 =>
    rw [w] at e
    cases v with
    | rf n => cases e
    | fz d =>
      simp only [R.bind] at e
      cases w2 : rngN d with
      | none => rw [w2] at e; cases e
      | some ds => rw [w2] at e; cases e; trivial
theorem i_range2 {f g : Env → Hm → R Vl} (hg : Gl X "range") (hm : X.mg "range" = none) (ha : PE X a (semE D f)) (hb : PE X b (semE D g)) (hs : argX a = true) (hs2 : argX b = true) : PI X tg (.Call (.Name "range" p) [a, b] [] pos) (semI D (srcR2 f g)) := by
  have hst2 : starEach [b] X.env = [(false, eval b X.env)] := star_of hs2
  have hst : starEach [a, b] X.env = [(false, eval a X.env), (false, eval b X.env)] := by rw [star_of hs, hst2]
  refine ⟨fun pins s σ H R I z => (pi_range2 hg hm (pa_cons ha (pa_cons hb pa_nil hst2) (star_of hs)) hst hst2).run pins s σ H R I ?_⟩
  obtain ⟨Hs, ρ, h, env, sy, er, p⟩ := z
  unfold srcR2 at p
  rw [tag_bind] at p
  refine ⟨Hs, ρ, h, env, sy, er, p.bind fun c h1 H1 Hs1 ρ1 t1 p1 sy1 q1 v rv => ?_⟩
  rw [tag_bind] at q1
  refine ⟨Hs1, ρ1, h1, env, sy1, er.mono t1.mono p1, q1.bind fun d h2 H2 Hs2 ρ2 t2 p2 sy2 q2 u ru => ?_⟩
  cases c with
  | rf n => exact q2.elim
  | fz c =>
    cases d with
    | rf n => exact q2.elim
    | fz d =>
      dsimp only at q2
      cases w : rngN2 c d with
      | none => rw [w] at q2; exact q2.elim
      | some ds =>
        rw [w] at q2
        have q := q2 H2 Hs2 ρ2 Tr.refl Pre.refl sy2
        replace rv : RepV D.T Hs1 v c := rv
        replace ru : RepV D.T Hs2 u d := ru
        cases rv with
        | int i =>
          cases ru with
          | int j =>
            simp only [rngN2] at w
            split at w
            · cases w
              rename_i hj
              exact ⟨i, j, rfl, ⟨by omega, by omega, by omega, by omega⟩, q _ (walkv_range (by rw [sizeLine_eq]; omega))⟩
            · cases w
          | _ => cases w
        | _ => cases w
theorem src_range2 {f g : Env → Hm → R Vl} : SrcOk (srcR2 f g) := by
  intro env h ds l h' e
  unfold srcR2 at e
  cases w : f env h with
  | stuck => rw [w] at e; cases e
  | exc c ps h1 => rw [w] at e; cases e
  | ok v h1 =>
    rw [w] at e
    simp only [R.bind] at e
    cases w1 : g env h1 with
    | stuck => rw [w1] at e; cases e
    | exc c ps h1 => rw [w1] at e; cases e
    | ok u h2 =>
      rw [w1] at e
      cases v with
      | rf n => cases e
      | fz c =>
        cases u with
        | rf n => cases e
        | fz d =>
          dsimp only at e
          cases w2 : rngN2 c d with
          | none => rw [w2] at e; cases e
          | some ds => rw [w2] at e; cases e; trivial
/-- a list or a tuple whose items stay -/
theorem seqH_ok (sy : Sy T Hs H ρ h) {v : V} {x : Vl} {ds : List PV} {l : Lk} (r : VlR T Hs ρ v x) (e : seqH h x = some (ds, l)) :
    LkOk l h ∧ ∃ t a xs, v = .ref a ∧ RepVs T Hs xs ds ∧ ds.length ≤ sizeLine ∧ ∀ K h1, (h1 = lockH l h ∨ ∃ l2, h1 = lockH l2 (lockH l h)) → ∀ Hs2 H2 O2, Tr Hs H (Im ρ h1) Hs2 H2 O2 → Same Hs2 H2 → SqB K t H2 a xs := by
  cases x with
  | fz d =>
    simp only [seqH] at e
    cases w : seqP d with
    | none => rw [w] at e; cases e
    | some ds' =>
      rw [w] at e
      cases e
      refine ⟨trivial, ?_⟩
      replace r : RepV T Hs v d := r
      cases r with
      | lst ha hz hr => cases w; exact ⟨false, _, _, rfl, hr, hz, fun K h1 _ Hs2 H2 O2 t s => SqL.of (s _ _ (t.mono _ _ ha))⟩
      | tup ha hz hr => cases w; exact ⟨true, _, _, rfl, hr, hz, fun K h1 _ Hs2 H2 O2 t s => SqT.of (s _ _ (t.mono _ _ ha))⟩
      | _ => cases w
  | rf n =>
    obtain ⟨a, ha, rfl⟩ := r
    simp only [seqH] at e
    cases w : h[n]? with
    | none => rw [w] at e; cases e
    | some oo =>
      rw [w] at e
      cases oo with
      | none => cases e
      | some oo =>
        obtain ⟨hsa, mr⟩ := sy.ob n oo a w ha
        cases oo with
        | dct kvs => cases e
        | ins c fs => cases e
        | lst xs =>
          obtain ⟨vs, g1, g2, g3⟩ := mr
          dsimp only at e
          cases w2 : allF xs with
          | none => rw [w2] at e; cases e
          | some ds' =>
            rw [w2] at e
            cases e
            have hr := allF_ok g3 w2
            have no := sy.nokill w ha
            refine ⟨⟨w, trivial⟩, false, a, vs, rfl, hr, by rw [← hr.length, Paired.length g3]; exact g2, fun K h1 hh Hs2 H2 O2 t s => SqL.of (t.keep a _ g1 hsa (fun z => ?_) fun _ z => nomatch z)⟩
            rcases hh with rfl | ⟨l2, rfl⟩
            · exact no z
            · exact no (im_lock z)
theorem i_enum {elts : List Expr} {kk : Nat} {f : Env → Hm → R Vl} (hg : Gl X "enumerate") (hm : X.mg "enumerate" = none) (ha : PE X a (semE D f)) (hs : argX a = true) : PI X (.Tuple elts kk p2) (.Call (.Name "enumerate" p) [a] [] pos) (semI D (srcE f)) := by
  have hst : starEach [a] X.env = [(false, eval a X.env)] := star_of hs
  refine ⟨fun pins s σ H R I z => (pi_enumB hg hm (pa_cons ha pa_nil hst) hst).run pins s σ H R I ?_⟩
  obtain ⟨Hs, ρ, h, env, sy, er, p⟩ := z
  unfold srcE at p
  rw [tag_bind] at p
  refine ⟨Hs, ρ, h, env, sy, er, p.bind fun d h1 H1 Hs1 ρ1 t1 p1 sy1 q1 v rv => ?_⟩
  cases w : seqH h1 d with
  | none => rw [w] at q1; exact q1.elim
  | some dl =>
    obtain ⟨ds, l⟩ := dl
    rw [w] at q1
    have q := q1 H1 Hs1 ρ1 Tr.refl Pre.refl sy1
    obtain ⟨_, t, a, xs, rfl, hr, hz, hS⟩ := seqH_ok sy1 rv w
    have hl : (enumP ds).length = xs.length := by rw [hr.length]; simp [enumP]
    refine ⟨t, a, xs, rfl, hS X.K _ (.inl rfl) Hs1 H1 _ Tr.refl sy1.sub, q _ (walkv_pair (by rw [hl, hr.length]; exact hz) (by rw [hl]; exact walk_enumB) (fun Hs2 H2 O2 t s => hS X.K _ (.inl rfl) Hs2 H2 O2 t s) fun i x y hi hx hy => ?_)⟩
    cases hx
    have hi2 : i < ds.length := by rw [← hr.length, ← hl]; exact hi
    obtain ⟨x', g1, g2⟩ := hr.get (List.getElem?_eq_getElem hi2)
    rw [g1] at hy
    cases hy
    exact ⟨.int i, ds[i], by simp [enumP, hi2], .int _, g2⟩
theorem i_zip {elts : List Expr} {kk : Nat} {f g : Env → Hm → R Vl} (hg : Gl X "zip") (hm : X.mg "zip" = none) (ha : PE X a (semE D f)) (hb : PE X b (semE D g)) (hs : argX a = true) (hs2 : argX b = true) : PI X (.Tuple elts kk p2) (.Call (.Name "zip" p) [a, b] [] pos) (semI D (srcZ f g)) := by
  have hst2 : starEach [b] X.env = [(false, eval b X.env)] := star_of hs2
  have hst : starEach [a, b] X.env = (false, eval a X.env) :: starEach [b] X.env := star_of hs
  refine ⟨fun pins s σ H R I z => (pi_zipB hg hm (pa_cons ha (pa_cons hb pa_nil hst2) hst) hst (back_any (by simp [argsX, hs2]))).run pins s σ H R I ?_⟩
  obtain ⟨Hs, ρ, h, env, sy, er, p⟩ := z
  unfold srcZ at p
  rw [tag_bind] at p
  refine ⟨Hs, ρ, h, env, sy, er, p.bind fun c h1 H1 Hs1 ρ1 t1 p1 sy1 q1 v rv => ?_⟩
  rw [tag_bind] at q1
  refine ⟨Hs1, ρ1, h1, env, sy1, er.mono t1.mono p1, q1.bind fun d h2 H2 Hs2 ρ2 t2 p2 sy2 q2 u ru => ?_⟩
  cases w : seqH h2 c with
  | none => rw [w] at q2; exact q2.elim
  | some dl =>
    obtain ⟨ds, l⟩ := dl
    rw [w] at q2
    dsimp only at q2
    cases w2 : seqH (lockH l h2) d with
    | none => rw [w2] at q2; exact q2.elim
    | some dl2 =>
      obtain ⟨es, l2⟩ := dl2
      rw [w2] at q2
      have q := q2 H2 Hs2 ρ2 Tr.refl Pre.refl sy2
      have lapp : ∀ (l : Lk) (h : Hm), lockH (l ++ l2) h = lockH l2 (lockH l h) := by
        intro l
        induction l with
        | nil => intro h; rfl
        | cons x l ih => intro h; obtain ⟨n, o⟩ := x; show lockH (l ++ l2) (h.set n none) = _; rw [ih]; rfl
      obtain ⟨_, t, a, xs, rfl, hr, hz, hS⟩ := seqH_ok sy2 (rv.mono t2.mono p2) w
      obtain ⟨_, t', b, ys, rfl, hr2, hz2, hS2⟩ := seqH_ok (sy2.lock (l := l)) ru w2
      have hl : (zipP ds es).length = min xs.length ys.length := by rw [hr.length, hr2.length]; simp [zipP]
      refine ⟨t, t', a, b, xs, ys, rfl, hS X.K _ (.inl rfl) Hs2 H2 _ Tr.refl sy2.sub, hS2 X.K _ (.inl rfl) Hs2 H2 _ Tr.refl sy2.sub, q _ (walkv_pair (by rw [hl, hr.length]; omega) (G := fun H => SqB X.K t H a xs ∧ SqB X.K t' H b ys) (walk_zipB hl) (fun Hs3 H3 O3 t s => ?_) fun i x y hi hx hy => ?_)⟩
      · dsimp only at t
        rw [lapp] at t
        exact ⟨hS X.K _ (.inr ⟨l2, rfl⟩) Hs3 H3 O3 t s, hS2 X.K _ (.inl rfl) Hs3 H3 O3 t s⟩
      have hi2 : i < ds.length := by rw [← hr.length]; omega
      have hi3 : i < es.length := by rw [← hr2.length]; omega
      obtain ⟨x', g1, g2⟩ := hr.get (List.getElem?_eq_getElem hi2)
      obtain ⟨y', g3, g4⟩ := hr2.get (List.getElem?_eq_getElem hi3)
      rw [g1] at hx
      rw [g3] at hy
      cases hx
      cases hy
      exact ⟨ds[i], es[i], by simp [zipP, List.getElem?_zip_eq_some, hi2, hi3], g2, g4⟩
theorem seqH_lk {x : Vl} {ds : List PV} {l : Lk} (e : seqH h x = some (ds, l)) : LkOk l h := by
  cases x with
  | fz d =>
    simp only [seqH] at e
    cases w : seqP d with
    | none => rw [w] at e; cases e
    | some ds' => rw [w] at e; cases e; trivial
  | rf n =>
    simp only [seqH] at e
    cases w : h[n]? with
    | none => rw [w] at e; cases e
    | some oo =>
      rw [w] at e
      cases oo with
      | none => cases e
      | some oo =>
        cases oo with
        | dct kvs => cases e
        | ins c fs => cases e
        | lst xs =>
          dsimp only at e
          cases w2 : allF xs with
          | none => rw [w2] at e; cases e
          | some ds' => rw [w2] at e; cases e; exact ⟨w, trivial⟩
theorem src_enum {f : Env → Hm → R Vl} : SrcOk (srcE f) := by
  intro env h ds l h' e
  unfold srcE at e
  cases w : f env h with
  | stuck => rw [w] at e; cases e
  | exc c ps h1 => rw [w] at e; cases e
  | ok v h1 =>
    rw [w] at e
    simp only [R.bind] at e
    cases w2 : seqH h1 v with
    | none => rw [w2] at e; cases e
    | some dl => obtain ⟨ds, l⟩ := dl; rw [w2] at e; cases e; exact seqH_lk w2
theorem lk_app : ∀ {l l2 : Lk} {h : Hm}, LkOk l h → LkOk l2 (lockH l h) → LkOk (l ++ l2) h
  | [], _, _, _, k => k
  | (n, o) :: r, l2, h, k1, k2 => ⟨k1.1, lk_app (l := r) k1.2 k2⟩
theorem src_zip {f g : Env → Hm → R Vl} : SrcOk (srcZ f g) := by
  intro env h ds l h' e
  unfold srcZ at e
  cases w : f env h with
  | stuck => rw [w] at e; cases e
  | exc c ps h1 => rw [w] at e; cases e
  | ok v h1 =>
    rw [w] at e
    simp only [R.bind] at e
    cases w1 : g env h1 with
    | stuck => rw [w1] at e; cases e
    | exc c ps h1 => rw [w1] at e; cases e
    | ok u h2 =>
      rw [w1] at e
      dsimp only at e
      cases w2 : seqH h2 v with
      | none => rw [w2] at e; cases e
      | some dl =>
        obtain ⟨ds, l⟩ := dl
        rw [w2] at e
        dsimp only at e
        cases w3 : seqH (lockH l h2) u with
        | none => rw [w3] at e; cases e
        | some dl2 => obtain ⟨es, l2⟩ := dl2; rw [w3] at e; cases e; exact lk_app (seqH_lk w2) (seqH_lk w3)
/-! ### for -/
theorem s_for {iter : Expr} {body : List Stmt} {f : Src} {g : Vl → Env → Hm → Option Env} {b : Env → Hm → SO} {ts : List Nat} (sk : SrcOk f)
    (hh : PS X (.For tg iter body [] pos) (tFor (semI D f) (semG D ts g) (semS D b))) : PS X (.For tg iter body [] pos) (semS D fun env h => (f env h).bindS fun (ds, l) h => unlkS l (forN g b ds env (lockH l h))) := by
  refine PS.imp hh fun En σ H z => ?_
  obtain ⟨Hs, ρ, h, env, sy, er, p⟩ := z
  refine ⟨Hs, ρ, h, env, sy, er, ?_⟩
  dsimp only at p
  cases w : f env h with
  | stuck => rw [w] at p; exact p
  | exc c ps h1 => rw [w] at p; exact p
  | ok dl h1 =>
    obtain ⟨ds, l⟩ := dl
    rw [w] at p
    intro H1 Hs1 ρ1 t1 p1 sy1 J hJ
    have lk := sk env h ds l h1 w
    have q1 : PostS D En Hs1 H1 ρ1 (lockH l h1) (forN g b ds env (lockH l h1)) := PostS.unlk sy1 lk (PostS.back t1 p1 p)
    obtain ⟨G, Y, hsz, wk, hG, hY⟩ := hJ
    dsimp only at hsz wk hG hY
    refine for_it wk (fun i σ2 H2 => ∃ Hs2 ρ2 h2 env2, TrH Hs1 H1 ρ1 (lockH l h1) Hs2 H2 ρ2 h2 ∧ Pre ρ1 ρ2 ∧ Sy D.T Hs2 H2 ρ2 h2 ∧ EnvR D.T Hs2 ρ2 σ2 env2 ∧ PostS D En Hs2 H2 ρ2 h2 (forN g b (ds.drop i) env2 h2)) ⟨Hs1, ρ1, lockH l h1, env, Tr.refl, Pre.refl, sy1.lock, er.mono t1.mono p1, by rw [List.drop_zero]; exact q1⟩ ?_ ?_ ?_
    · rintro i σ2 H2 hi ⟨Hs2, ρ2, h2, env2, t2, p2, sy2, er2, q2⟩
      exact hG Hs2 H2 _ t2 sy2.sub
    · rintro i x σ2 H2 H3 hi ⟨Hs2, ρ2, h2, env2, t2, p2, sy2, er2, q2⟩ y
      obtain ⟨Hs3, d, gr, hd, rx⟩ := hY i Hs2 H2 _ x H3 hi t2 sy2.sub y
      obtain ⟨sy3, t3⟩ := sy2.grow gr
      have e : ds.drop i = d :: ds.drop (i + 1) := by
        obtain ⟨hl, rfl⟩ := List.getElem?_eq_some_iff.mp hd
        exact List.drop_eq_getElem_cons hl
      rw [e] at q2
      simp only [forN] at q2
      cases q : g d env2 h2 with
      | none => simp only [q] at q2; exact q2.elim
      | some e2 =>
        simp only [q] at q2
        have q3 := PostS.back t3 Pre.refl q2
        refine ⟨Hs3, ρ2, h2, env2, d, sy3, er2.mono t3.mono Pre.refl, rx.mono (Same.refl _) p2, e2, q, fun σ4 er4 _ _ => ⟨Hs3, ρ2, h2, e2, sy3, er4, ?_⟩⟩
        cases w2 : b e2 h2 with
        | nx e h4 =>
          rw [w2] at q3
          exact fun σ' H' Hs' ρ' t pr sy' er' => ⟨Hs', ρ', h4, e, (t2.trans t3).trans t, p2.trans pr, sy', er', PostS.back t pr q3⟩
        | ct e h4 =>
          rw [w2] at q3
          exact fun σ' H' Hs' ρ' t pr sy' er' => ⟨Hs', ρ', h4, e, (t2.trans t3).trans t, p2.trans pr, sy', er', PostS.back t pr q3⟩
        | bk e h4 =>
          rw [w2] at q3
          exact fun σ' H' Hs' ρ' t pr sy' er' => q3 σ' H' Hs' ρ' t pr sy' er'
        | rt d h4 => rw [w2] at q3; exact q3
        | exc c ps h4 => rw [w2] at q3; exact q3
        | stuck => rw [w2] at q3; exact q3
    · rintro σ2 H2 ⟨Hs2, ρ2, h2, env2, t2, p2, sy2, er2, q2⟩
      rw [List.drop_length] at q2
      exact q2 σ2 H2 Hs2 ρ2 Tr.refl Pre.refl sy2 er2
end
end HV

end

section
/-! V8: list comprehensions. -/
namespace HV
open PySem PySem.Spec PyProof.Rows L2
section
variable {D : Wd} {T : Tb} {Hs H Hs' H' : Hp} {ρ ρ' : List Addr} {h h' : Hm} {σ : L2.St} {env : Env} {X : Cx} {α β : Type}
theorem wipe_in {σ : L2.St} {i : Nat} : ∀ {vs : List Nat}, i ∈ vs → i < σ.length → (wipe σ vs)[i]? = some none
  | [], h, _ => by simp at h
  | v :: vs, h, hl => by
    unfold wipe
    by_cases e : v = i
    · subst e; rw [List.getElem?_set_self (by rw [wipe_length]; exact hl)]
    · rw [List.getElem?_set_ne e]
      refine wipe_in ?_ hl
      simp at h
      rcases h with h | h
      · exact absurd h.symm e
      · exact h
theorem wipe_eq {σ τ : L2.St} {vs : List Nat} (hl : τ.length = σ.length) (h : ∀ i, i ∉ vs → τ[i]? = (wipe σ vs)[i]?) : wipe τ vs = wipe σ vs := by
  refine List.ext_getElem? fun i => ?_
  by_cases hi : i ∈ vs
  · by_cases hlt : i < σ.length
    · rw [wipe_in hi hlt, wipe_in hi (by omega)]
    · rw [List.getElem?_eq_none (by rw [wipe_length]; omega), List.getElem?_eq_none (by rw [wipe_length]; omega)]
  · rw [wipe_out hi, h i hi]
theorem wipeE_len : ∀ {vs : List Nat} {env : Env}, (wipeE vs env).length = env.length
  | [], _ => rfl
  | v :: vs, env => by unfold wipeE; rw [List.length_set, wipeE_len]
theorem wipeE_get {i : Nat} {x : Vl} : ∀ {vs : List Nat} {env : Env}, (wipeE vs env)[i]? = some (some x) → i ∉ vs ∧ env[i]? = some (some x)
  | [], _, e => ⟨by simp, e⟩
  | v :: vs, env, e => by
    unfold wipeE at e
    rcases get_set e with ⟨_, z, _⟩ | ⟨ne, e⟩
    · cases z
    · obtain ⟨k1, k2⟩ := wipeE_get e
      exact ⟨by simp [ne, k1], k2⟩
theorem EnvR.wipe (er : EnvR T Hs ρ σ env) (own : List Nat) : EnvR T Hs ρ (L2.wipe σ own) (wipeE own env) := by
  refine ⟨by rw [wipeE_len, wipe_length]; exact er.1, fun i v e => ?_⟩
  obtain ⟨k1, k2⟩ := wipeE_get e
  obtain ⟨u, h1, h2⟩ := er.2 i v k2
  exact ⟨u, by rw [wipe_out k1]; exact h1, h2⟩
/-- a block: nothing is raised out of it -/
def Wd.blk (D : Wd) : Wd := { D with E := E0 }
theorem Post.sure {R : Hp → Hp → List Addr → α → Prop} {S : Hp → Hp → List Addr → β → Prop} {o : HV.R α} {f : α → Hm → HV.R β} {Hs0 H0 : Hp} {ρ0 : List Addr} {h0 : Hm}
    (q : Post D S Hs0 H0 ρ0 h0 (o.sure.bind f)) (k : ∀ a h' H' Hs' ρ', TrH Hs H ρ h Hs' H' ρ' h' → Pre ρ ρ' → Sy D.T Hs' H' ρ' h' → Post D S Hs0 H0 ρ0 h0 (f a h') → R Hs' H' ρ' a) :
    Post D.blk R Hs H ρ h o := by
  cases o with
  | stuck => exact q
  | exc c ps e => exact q.elim
  | ok a e => exact fun H' Hs' ρ' t pr sy => k a e H' Hs' ρ' t pr sy q
theorem sure_bind {γ : Type} {o : R α} {f : α → Hm → R β} {g : β → Hm → R γ} : (o.sure.bind f).bind g = o.sure.bind fun a h => (f a h).bind g := by cases o <;> rfl
/-- an element's outcome, read by ok -/
def semX (D : Wd) (ok : Hp → List Addr → V → β → Prop) (f : Env → Hm → R β) : TE := fun σ H Q => ∃ Hs ρ h env, Sy D.T Hs H ρ h ∧ EnvR D.T Hs ρ σ env ∧ Post D (fun Hs' H' ρ' a => ∀ v, ok Hs' ρ' v a → Q v H') Hs H ρ h (f env h)
/-- the comprehension's turns: what comes of them by F -/
theorem sem_lcG {src : Src} (sk : SrcOk src) {g : Vl → Env → Hm → Option Env} {c : Env → Hm → R Bool} {te : TE} {eb : Env → Hm → R β} {own ts : List Nat} (hts : ∀ i ∈ ts, i ∈ own) (F : List β → Hm → R Vl)
    {ok : Hp → List Addr → V → β → Prop} (hmono : ∀ Hs Hs' ρ ρ' v b, Same Hs Hs' → Pre ρ ρ' → ok Hs ρ v b → ok Hs' ρ' v b)
    (he : ∀ σ H Q, semX D.blk ok eb σ H Q → te σ H Q)
    (hF : ∀ Hs1 H1 ρ1 h1 Hs H ρ h acc ys D0 (Q : VK), H1 D0 = none → TrH Hs1 H1 ρ1 h1 Hs H ρ h → Pre ρ1 ρ → Sy D.T Hs H ρ h → H D0 = some (.lst acc) → Hs D0 = none → ¬ Im ρ h D0 → acc.length ≤ sizeLine → Paired (ok Hs ρ) acc ys → PostV D Q Hs1 H1 ρ1 h1 (F ys h) → Q (.ref D0) H) :
    ∀ σ H Q, semE D (fun env h => (src env h).bind fun (ds, l) h => unlkR l ((lcN g c eb (wipeE own env) ds (lockH l h)).bind F)) σ H Q → tLc (semI D src) (semG D.blk ts g) (semT D.blk c) te own σ H Q := by
  intro σ H Q z
  obtain ⟨Hs, ρ, h, env, sy, er, p⟩ := z
  refine ⟨Hs, ρ, h, env, sy, er, ?_⟩
  dsimp only at p
  cases w : src env h with
  | stuck => rw [w] at p; exact p
  | exc c ps h1 => rw [w] at p; exact p
  | ok dl h1 =>
    obtain ⟨ds, l⟩ := dl
    rw [w] at p
    intro H1 Hs1 ρ1 t1 p1 sy1 J hJ D0 hD0
    have lk := sk env h ds l h1 w
    have q1 : PostV D Q Hs1 H1 ρ1 (lockH l h1) ((lcN g c eb (wipeE own env) ds (lockH l h1)).bind F) := Post.unlk sy1 lk (Post.back t1 p1 p)
    obtain ⟨G, Y, hsz, wk, hG, hY⟩ := hJ
    dsimp only at hsz wk hG hY
    obtain ⟨hs0, ho0⟩ := (sy1.lock (l := l)).nobody hD0
    have tr_other : ∀ {Hs2 H2 : Hp} {ρ2 : List Addr} {h2 : Hm} {o : HO}, TrH Hs1 H1 ρ1 (lockH l h1) Hs2 H2 ρ2 h2 → TrH Hs1 H1 ρ1 (lockH l h1) Hs2 (upd H2 D0 o) ρ2 h2 := fun {Hs2 H2 ρ2 h2 o} t =>
      ⟨t.mono, fun a u h1 h2 h3 h4 => by rw [upd_ne (ne_of_none h1 hD0)]; exact t.keep a u h1 h2 h3 h4, fun a h => by
        by_cases e : a = D0
        · rw [e]; exact nu_none hD0
        · have h : nuB (upd _ D0 _ a) := h
          rw [upd_ne e] at h; exact t.there a h, t.new, t.newO⟩
    refine lc_it wk (fun i H2 => ∃ Hs2 ρ2 h2 acc accd, TrH Hs1 H1 ρ1 (lockH l h1) Hs2 H2 ρ2 h2 ∧ Pre ρ1 ρ2 ∧ Sy D.T Hs2 H2 ρ2 h2 ∧ H2 D0 = some (.lst acc) ∧ Hs2 D0 = none ∧ ¬ Im ρ2 h2 D0 ∧ Paired (ok Hs2 ρ2) acc accd ∧ acc.length ≤ i ∧
        PostV D Q Hs1 H1 ρ1 (lockH l h1) ((lcN g c eb (wipeE own env) (ds.drop i) h2).bind fun ys h => F (accd ++ ys) h))
      ⟨Hs1, ρ1, lockH l h1, [], [], tr_other Tr.refl, Pre.refl, sy1.lock.other (.none hD0) hs0 ho0, upd_same, hs0, ho0, .nil, Nat.le_refl _, by rw [List.drop_zero]; exact q1⟩ ?_ ?_ ?_
    · rintro i H2 hi ⟨Hs2, ρ2, h2, acc, accd, t2, p2, sy2, _⟩
      exact hG Hs2 H2 _ t2 sy2.sub
    · rintro i x H2 H3 hi ⟨Hs2, ρ2, h2, acc, accd, t2, p2, sy2, a1, a2, a3, a4, a5, q2⟩ y
      obtain ⟨Hs3, d, gr, hd, rx⟩ := hY i Hs2 H2 _ x H3 hi t2 sy2.sub y
      obtain ⟨sy3, t3⟩ := sy2.grow gr
      have gn := gr.none sy2.sub (a := D0) (by rw [a1]; simp)
      have es : ds.drop i = d :: ds.drop (i + 1) := by
        obtain ⟨hl, rfl⟩ := List.getElem?_eq_some_iff.mp hd
        exact List.drop_eq_getElem_cons hl
      rw [es] at q2
      simp only [lcN] at q2
      have er3 : EnvR D.T Hs3 ρ2 (L2.wipe σ own) (wipeE own env) := ((((er.mono t1.mono p1).mono t2.mono p2).mono t3.mono Pre.refl).wipe own)
      cases qg : g d (wipeE own env) h2 with
      | none => simp only [qg] at q2; exact q2.elim
      | some e2 =>
        simp only [qg] at q2
        refine ⟨Hs3, ρ2, h2, wipeE own env, d, sy3, er3, rx.mono (Same.refl _) p2, e2, qg, fun σ4 er4 hl4 hσ4 => ?_⟩
        rw [wipe_length] at hl4
        refine ⟨wipe_eq hl4 fun i hi => hσ4 i fun z => hi (hts i z), ?_⟩
        rw [sure_bind] at q2
        have keepD : ∀ {Hs6 H6 : Hp} {ρ6 : List Addr} {h6 : Hm}, TrH Hs3 H3 ρ2 h2 Hs6 H6 ρ6 h6 → H6 D0 = some (.lst acc) ∧ Hs6 D0 = none ∧ ¬ Im ρ6 h6 D0 := fun {Hs6 H6 ρ6 h6} t => by
          have n3 : Hs3 D0 = none := gn.1.trans a2
          have h3 : H3 D0 = some (.lst acc) := gn.2.trans a1
          refine ⟨t.keep D0 _ h3 n3 a3 (fun _ z => nomatch z), ?_, fun z => ?_⟩
          · cases z : Hs6 D0 with
            | none => rfl
            | some o =>
              rcases t.new D0 o z with u | ⟨_, u | u⟩
              · rw [n3] at u; cases u
              · exact absurd u a3
              · exact (nu_no h3 (fun _ y => nomatch y) u).elim
          · rcases t.newO D0 z with u | u
            · exact a3 u
            · exact (nu_no h3 (fun _ y => nomatch y) u).elim
        refine ⟨Hs3, ρ2, h2, e2, sy3, er4, Post.sure q2 fun b h5 H5 Hs5 ρ5 t5 p5 sy5 q5 => ?_⟩
        cases b with
        | false =>
          rw [if_neg Bool.false_ne_true] at q5
          refine iteF ?_
          obtain ⟨k1, k2, k3⟩ := keepD t5
          have t35 := t3.trans t5
          exact ⟨Hs5, ρ5, h5, acc, accd, t2.trans t35, p2.trans p5, sy5, k1, k2, k3, Paired.imp a4 fun v b r => hmono _ _ _ _ v b t35.mono p5 r, by omega, q5⟩
        | true =>
          rw [if_pos rfl, sure_bind] at q5
          refine iteT (he σ4 H5 _ ⟨Hs5, ρ5, h5, e2, sy5, er4.mono t5.mono p5, Post.sure q5 fun y h6 H6 Hs6 ρ6 t6 p6 sy6 q6 v rv => ?_⟩)
          have t56 := t5.trans t6
          have t36 := t3.trans t56
          obtain ⟨k1, k2, k3⟩ := keepD t56
          refine ⟨acc, k1, Nat.lt_of_le_of_lt a5 (Nat.lt_of_lt_of_le hi hsz), ?_⟩
          refine ⟨Hs6, ρ6, h6, acc ++ [v], accd ++ [y], tr_other (t2.trans t36), p2.trans (p5.trans p6), sy6.other (.lst k1) k2 k3, upd_same, k2, k3, Paired.append (Paired.imp a4 fun v b r => hmono _ _ _ _ v b t36.mono (p5.trans p6) r) (.cons rv .nil), by simp; omega, ?_⟩
          have eq : ∀ {o : R (List β)}, (o.bind fun ys h4 => R.ok (y :: ys) h4).bind (fun ys h => F (accd ++ ys) h) = o.bind fun ys h => F (accd ++ [y] ++ ys) h := fun {o} => by
            cases o <;> simp [R.bind]
          rw [eq] at q6
          exact q6
    · rintro H2 ⟨Hs2, ρ2, h2, acc, accd, t2, p2, sy2, a1, a2, a3, a4, a5, q2⟩
      rw [List.drop_length] at q2
      have q3 : PostV D Q Hs1 H1 ρ1 (lockH l h1) (F (accd ++ []) h2) := q2
      rw [List.append_nil] at q3
      exact hF Hs1 H1 ρ1 _ Hs2 H2 ρ2 h2 acc accd D0 Q hD0 t2 p2 sy2 a1 a2 a3 (Nat.le_trans a5 hsz) a4 q3
theorem sem_lc {src : Src} (sk : SrcOk src) {g : Vl → Env → Hm → Option Env} {c : Env → Hm → R Bool} {e : Env → Hm → R Vl} {own ts : List Nat} (hts : ∀ i ∈ ts, i ∈ own) :
    ∀ σ H Q, semE D (lcV own src g c e) σ H Q → tLc (semI D src) (semG D.blk ts g) (semT D.blk c) (semE D.blk e) own σ H Q :=
  sem_lcG sk hts (fun ys h => .ok (.fz (.lst ys)) h) (ok := fun Hs ρ v d => RepV D.T Hs v d) (fun _ _ _ _ v b s _ r => r.mono s)
    (fun σ H Q z => by
      obtain ⟨Hs, ρ, h, env, sy, er, p⟩ := z
      refine ⟨Hs, ρ, h, env, sy, er, Post.bind (f := HV.frz) p fun a h1 H1 Hs1 ρ1 t1 p1 sy1 q1 v rv => ?_⟩
      obtain ⟨Hs2, h2, d, _, _, r2, q2⟩ := Post.frz (D := D.blk) sy1 rv q1
      exact q2 v r2)
    (fun Hs1 H1 ρ1 h1 Hs H ρ h acc ys D0 Q hD0 t p sy a1 a2 a3 a4 a5 q => by
      have sb : Same Hs (upd Hs D0 (.lst acc)) := fun b w z => by rw [upd_ne (ne_of_none z a2)]; exact z
      have r5 := RepVs.ofP a5
      refine q H (upd Hs D0 (.lst acc)) ρ ⟨t.mono.trans sb, t.keep, t.there, fun b w z => ?_, t.newO⟩ p (sy.tell a1 a2 a3) (.ref D0) (RepV.lst upd_same (by rw [← r5.length]; exact a4) (r5.mono sb))
      by_cases e : b = D0
      · subst e
        refine .inr ⟨?_, .inr (nu_none hD0)⟩
        cases u : Hs1 b with
        | none => rfl
        | some o => rw [t.mono b o u] at a2; cases a2
      · rw [upd_ne e] at z; exact t.new b w z)
theorem sem_nlc {src : Src} (sk : SrcOk src) {g : Vl → Env → Hm → Option Env} {c : Env → Hm → R Bool} {e : Env → Hm → R Vl} {own ts : List Nat} (hts : ∀ i ∈ ts, i ∈ own) :
    ∀ σ H Q, semE D (nlcV own src g c e) σ H Q → tLc (semI D src) (semG D.blk ts g) (semT D.blk c) (semE D.blk e) own σ H Q :=
  sem_lcG sk hts (fun ys h => newL ys h) (ok := fun Hs ρ v d => VlR D.T Hs ρ v d) (fun _ _ _ _ v b s p r => r.mono s p)
    (fun σ H Q z => z)
    (fun Hs1 H1 ρ1 h1 Hs H ρ h acc ys D0 Q hD0 t p sy a1 a2 a3 a4 a5 q => by
      have s2 := sy.take_in (o := .lst ys) a2 a3 ⟨acc, a1, by rw [← Paired.length a5]; exact a4, Paired.imp a5 fun _ _ r => r.mono (Same.refl _) Pre.app⟩
      refine q H Hs (ρ ++ [D0]) ⟨t.mono, t.keep, t.there, t.new, fun b z => ?_⟩ (p.trans Pre.app) s2 (.ref D0) ⟨D0, by rw [← sy.len]; simp, rfl⟩
      rcases im_app sy.len z with z | ⟨rfl, _⟩
      · exact t.newO b z
      · exact .inr (nu_none hD0))
end
end HV

end

section
/-! V8b: reversed lists, list() and dict() that change, join, update, dict displays and comprehensions. -/
namespace HV
open PySem PySem.Spec PyProof.Rows L2
section
variable {D : Wd} {T : Tb} {Hs H Hs' H' : Hp} {ρ ρ' : List Addr} {h h' : Hm} {σ : L2.St} {env : Env} {X : Cx} {e o a b c : Expr} {es rest : List Expr} {apos cpos pos pos' p p1 p2 p3 : Pos}
theorem RepVs.rev : ∀ {xs : List V} {ds : List PV}, RepVs T Hs xs ds → RepVs T Hs xs.reverse ds.reverse
  | _, _, .nil => .nil
  | _, _, .cons h r => by
    rw [List.reverse_cons, List.reverse_cons]
    exact (RepVs.rev r).append (.cons h .nil)
theorem kv_rev : KV1 D (fun x H Q => ∃ a xs, x = V.ref a ∧ SqL D.T.K H a xs ∧ ∀ p, H p = none → Q (.ref p) (upd H p (.lst xs.reverse))) (opS1 revV) := by
  intro x a Hs H ρ h Q sy rx p
  unfold opS1 at p
  cases w : shal h a with
  | none => simp only [w] at p; exact p.elim
  | some d =>
    simp only [w] at p
    obtain ⟨d', w2, k⟩ := p.liftF sy
    rcases shal_ok sy rx w with r | ⟨a, vs, ds, rfl, rfl, g1, g2, g3⟩ | ⟨a, vs, ds, rfl, rfl, g1, g2, g3⟩
    · cases r with
      | @lst a xs ds ha hz hr =>
        cases w2
        exact ⟨a, xs, rfl, SqL.of (sy.sub _ _ ha), fun l hl => k _ _ _ (Grow.one hl) (.lst upd_same (by rw [List.length_reverse]; exact hz) (hr.rev.mono ((Grow.one (o := .lst xs.reverse) hl).same sy.sub).1))⟩
      | _ => cases w2
    · cases w2
      exact ⟨a, vs, rfl, SqL.of g1, fun l hl => k _ _ _ (Grow.one hl) (.lst upd_same (by rw [List.length_reverse]; exact g2) (g3.rev.mono ((Grow.one (o := .lst vs.reverse) hl).same sy.sub).1))⟩
    · cases w2
theorem ev_rev (hK : D.T.K = X.K) {k : Nat} {f : Env → Hm → R Vl} (ha : PE X a (semE D f)) : PE X (.Subscript a (.Slice none none (some (.UnaryOp .USub (.Constant (.int 1) k p1) p2)) p3) pos) (semE D (op1 f (opS1 revV))) := by
  refine PE.imp (pe_revL ha) fun σ H Q z => ?_
  have q := sem_op1 (kv_rev (D := D)) σ H Q z
  rw [hK] at q
  exact q
/-! ### list() that changes -/
theorem newL_post {Q : VK} (sy : Sy D.T Hs H ρ h) {xs : List V} {ds : List Vl} {l : Addr} (hl : H l = none) (hz : ds.length ≤ sizeLine) (hr : VlsR D.T Hs ρ xs ds) (p : PostV D Q Hs H ρ h (newL ds h)) : Q (.ref l) (upd H l (.lst xs)) := by
  obtain ⟨s3, t3⟩ := sy.new (u := .lst xs) (o := .lst ds) hl ⟨xs, upd_same, hz, VlsR.mono (Same.refl _) Pre.app hr⟩
  exact p _ _ _ t3 Pre.app s3 (.ref l) ⟨l, by rw [← sy.len]; simp, rfl⟩
theorem newD_post {Q : VK} (sy : Sy D.T Hs H ρ h) {ks : List (Key × V)} {ds : List (PV × Vl)} {l : Addr} (hl : H l = none) (hz : ds.length ≤ sizeLine) (hr : Paired (KvR D.T Hs ρ) ks ds) (p : PostV D Q Hs H ρ h (newD ds h)) : Q (.ref l) (upd H l (.dK ks)) := by
  obtain ⟨s3, t3⟩ := sy.new (u := .dK ks) (o := .dct ds) hl ⟨ks, upd_same, hz, Paired.imp hr fun _ _ r => ⟨r.1, r.2.mono (Same.refl _) Pre.app⟩⟩
  exact p _ _ _ t3 Pre.app s3 (.ref l) ⟨l, by rw [← sy.len]; simp, rfl⟩
theorem kv_nlist : KV1 D (fun x H Q => ∃ p ys, [x] = [V.ref p] ∧ (SqL D.T.K H p ys ∨ SqT D.T.K H p ys) ∧ ∀ l, H l = none → Q (.ref l) (upd H l (.lst ys))) (opN1 listV) := by
  intro x a Hs H ρ h Q sy rx p
  unfold opN1 at p
  cases w : shal h a with
  | none => simp only [w] at p; exact p.elim
  | some d =>
    simp only [w] at p
    rcases shal_ok sy rx w with r | ⟨a, vs, ds, rfl, rfl, g1, g2, g3⟩ | ⟨a, vs, ds, rfl, rfl, g1, g2, g3⟩
    · cases r with
      | @lst a xs ds ha hz hr => exact ⟨a, xs, rfl, .inl (SqL.of (sy.sub _ _ ha)), fun l hl => newL_post sy hl (by rw [List.length_map]; exact hz) (vls_fz hr) p⟩
      | @tup a xs ds ha hz hr => exact ⟨a, xs, rfl, .inr (SqT.of (sy.sub _ _ ha)), fun l hl => newL_post sy hl (by rw [List.length_map]; exact hz) (vls_fz hr) p⟩
      | @scr a ns ha hz => exact ⟨a, _, rfl, .inl (sy.sub.seq ha), fun l hl => newL_post sy hl (by rw [List.length_map, List.length_map]; exact hz) (vls_fz (RepVs.ints ns)) p⟩
      | _ => exact p.elim
    · exact ⟨a, vs, rfl, .inl (SqL.of g1), fun l hl => newL_post sy hl (by rw [List.length_map]; exact g2) (vls_fz g3) p⟩
    · exact p.elim
/-! ### dicts -/
def fzP (e : PV × PV) : PV × Vl := (e.1, .fz e.2)
theorem allFd_fz : ∀ {ds : List (PV × PV)}, allFd (ds.map fzP) = some ds
  | [] => rfl
  | (k, d) :: ds => by
    show (match allFd (ds.map fzP) with | some ds => some ((k, d) :: ds) | none => none) = _
    rw [allFd_fz]
theorem repks_fz {ks : List (Key × V)} {ds : List (PV × PV)} (h : Paired (KvR T Hs ρ) ks (ds.map fzP)) : RepKs T Hs ks ds := allFd_ok h allFd_fz
theorem fz_repks : ∀ {ks : List (Key × V)} {ds : List (PV × PV)}, RepKs T Hs ks ds → Paired (KvR T Hs ρ) ks (ds.map fzP)
  | _, _, .nil => .nil
  | _, _, .cons k r t => .cons ⟨k, r⟩ (fz_repks t)
theorem merge_rel {more : List (Key × V)} {es : List (PV × Vl)} (r : Paired (KvR T Hs ρ) more es) : ∀ {ks : List (Key × V)} {ds : List (PV × Vl)}, Paired (KvR T Hs ρ) ks ds → Paired (KvR T Hs ρ) (mergeK ks more) (mergeD ds es) := by
  induction r with
  | nil => intro ks ds h; exact h
  | @cons x y l1 l2 r t ih =>
    intro ks ds h
    obtain ⟨k, v⟩ := y
    exact ih (kv_put r.1 r.2 h)
theorem putD_map (ds : List (PV × PV)) (k v : PV) : putD (ds.map fzP) k (.fz v) = (putD ds k v).map fzP := by
  unfold putD
  have e : ((ds.map fzP).any fun kv => eqvP kv.1 k) = ds.any fun kv => eqvP kv.1 k := by rw [List.any_map]; rfl
  rw [e]
  split
  · rw [List.map_map, List.map_map]
    refine List.map_congr_left fun x _ => ?_
    show (if eqvP x.1 k = true then _ else _) = fzP (if eqvP x.1 k = true then _ else _)
    split <;> rfl
  · rw [List.map_append]; rfl
theorem mergeD_map : ∀ (es ds : List (PV × PV)), mergeD (ds.map fzP) (es.map fzP) = (mergeD ds es).map fzP
  | [], _ => rfl
  | (k, v) :: es, ds => by
    show mergeD (putD (ds.map fzP) k (.fz v)) (es.map fzP) = (mergeD (putD ds k v) es).map fzP
    rw [putD_map, mergeD_map]
theorem putD_lenG {α : Type} (d : List (PV × α)) (e : PV) (x : α) : (putD d e x).length ≤ d.length + 1 := by
  unfold putD
  split <;> simp
theorem mergeD_len {α : Type} : ∀ (es ds : List (PV × α)), (mergeD ds es).length ≤ ds.length + es.length
  | [], ds => by simp [mergeD]
  | (k, v) :: es, ds => by
    have h1 := mergeD_len es (putD ds k v)
    have h2 := putD_lenG ds k v
    simp only [mergeD, List.length_cons]
    omega
theorem pairs_len : ∀ {ds : List PV} {ps : List (PV × PV)}, pairsV ds = some ps → ps.length = ds.length
  | [], _, e => by cases e; rfl
  | d :: ds, ps, e => by
    match d, e with
    | .tup [k, v], e =>
      simp only [pairsV] at e
      cases w : pairsV ds with
      | none => rw [w] at e; cases e
      | some qs => rw [w] at e; cases e; simp [pairs_len w]
theorem pairs_rep (s : Same Hs H) : ∀ {xs : List V} {ds : List PV} {ps : List (PV × PV)}, RepVs T Hs xs ds → pairsV ds = some ps → ps.all (fun p => isKey p.1) = true →
    ∃ as kvs, xs = as.map V.ref ∧ Paired (fun p (kv : Key × V) => SqT T.K H p [kV kv.1, kv.2]) as kvs ∧ Paired (KvR T Hs ρ) kvs (ps.map fzP)
  | _, _, _, .nil, e, _ => by cases e; exact ⟨[], [], rfl, .nil, .nil⟩
  | _, _, ps, .cons (d := d) (ds := ds) h r, e, ha => by
    match d, h, e with
    | .tup [k, v], h, e =>
      simp only [pairsV] at e
      cases w : pairsV ds with
      | none => rw [w] at e; cases e
      | some qs =>
        rw [w] at e
        cases e
        simp only [List.all_cons, Bool.and_eq_true] at ha
        obtain ⟨as, kvs, e1, e2, e3⟩ := pairs_rep s r w ha.2
        cases h with
        | tup hh hz hr =>
          rename_i a ys
          cases hr with
          | cons r1 t =>
            cases t with
            | cons r2 t =>
              cases t
              obtain ⟨kk, kr, rfl⟩ := keyR_of r1 ha.1
              exact ⟨a :: as, (kk, _) :: kvs, by rw [e1]; rfl, .cons (SqT.of (s _ _ hh)) e2, .cons ⟨kr, r2⟩ e3⟩
def rDict (K : PySem.W.Frag) : V → Hp → VK → Prop := fun x H Q => (∃ (a : Addr) (ps : List Addr) (kvs : List (Key × V)), [x] = [V.ref a] ∧ SqL K H a (ps.map V.ref) ∧ Paired (fun p kv => SqT K H p [kV kv.1, kv.2]) ps kvs ∧
    ∀ p, H p = none → Q (.ref p) (upd H p (.dK (mergeK [] kvs)))) ∨ (∃ (a : Addr) (kvs : List (Key × V)), [x] = [V.ref a] ∧ Rd H a (.dK kvs) ∧ ∀ p, H p = none → Q (.ref p) (upd H p (.dK kvs)))
theorem dict_core (sy : Sy T Hs H ρ h) {x : V} {a : Vl} {d r : PV} (rx : VlR T Hs ρ x a) (w : shal h a = some d) (w2 : dictV d = some r) :
    ∃ ks ds, r = .dct ds ∧ ds.length ≤ sizeLine ∧ Paired (KvR T Hs ρ) ks (ds.map fzP) ∧ ∀ Q : VK, (∀ p, H p = none → Q (.ref p) (upd H p (.dK ks))) → rDict T.K x H Q := by
  have ofL : ∀ {a : Addr} {vs : List V} {ds : List PV}, H a = some (.lst vs) → ds.length ≤ sizeLine → RepVs T Hs vs ds → dictV (.lst ds) = some r →
      ∃ ks ds, r = .dct ds ∧ ds.length ≤ sizeLine ∧ Paired (KvR T Hs ρ) ks (ds.map fzP) ∧ ∀ Q : VK, (∀ p, H p = none → Q (.ref p) (upd H p (.dK ks))) → rDict T.K (.ref a) H Q := fun {a vs ds} g1 g2 g3 w2 => by
    simp only [dictV] at w2
    cases w3 : pairsV ds with
    | none => rw [w3] at w2; cases w2
    | some ps =>
      rw [w3] at w2
      dsimp only at w2
      split at w2
      · rename_i hk
        cases w2
        obtain ⟨as, kvs, e1, e2, e3⟩ := pairs_rep (ρ := ρ) sy.sub g3 w3 hk
        refine ⟨mergeK [] kvs, _, rfl, ?_, ?_, fun Q q => .inl ⟨a, as, kvs, rfl, by rw [← e1]; exact SqL.of g1, e2, q⟩⟩
        · have := mergeD_len ps []
          have := pairs_len w3
          simp at *
          omega
        · rw [← mergeD_map]
          exact merge_rel e3 .nil
      · cases w2
  rcases shal_ok sy rx w with r' | ⟨a, vs, ds, rfl, rfl, g1, g2, g3⟩ | ⟨a, vs, ds, rfl, rfl, g1, g2, g3⟩
  · cases r' with
    | @lst a xs ds ha hz hr => exact ofL (sy.sub _ _ ha) hz hr w2
    | @dct a ks ds ha hz hr =>
      cases w2
      exact ⟨ks, ds, rfl, hz, fz_repks hr, fun Q q => .inr ⟨a, ks, rfl, SameR sy.sub ha, q⟩⟩
    | _ => cases w2
  · exact ofL g1 g2 g3 w2
  · cases w2
    exact ⟨vs, ds, rfl, g2, fz_repks g3, fun Q q => .inr ⟨a, vs, rfl, .inl g1, q⟩⟩
theorem kv_dict : KV1 D (rDict D.T.K) (opS1 dictV) := by
  intro x a Hs H ρ h Q sy rx p
  unfold opS1 at p
  cases w : shal h a with
  | none => simp only [w] at p; exact p.elim
  | some d =>
    simp only [w] at p
    obtain ⟨d', w2, k⟩ := p.liftF sy
    obtain ⟨ks, ds, rfl, hz, hr, q⟩ := dict_core sy rx w w2
    exact q Q fun p hp => k _ _ _ (Grow.one hp) (.dct (.inl upd_same) hz ((repks_fz hr).mono ((Grow.one (o := .dK ks) hp).same sy.sub).1))
theorem kv_ndict : KV1 D (rDict D.T.K) (opN1 dictV) := by
  intro x a Hs H ρ h Q sy rx p
  unfold opN1 at p
  cases w : shal h a with
  | none => simp only [w] at p; exact p.elim
  | some d =>
    simp only [w] at p
    cases w2 : dictV d with
    | none => rw [w2] at p; exact p.elim
    | some r =>
      rw [w2] at p
      obtain ⟨ks, ds, rfl, hz, hr, q⟩ := dict_core sy rx w w2
      exact q Q fun l hl => newD_post sy hl (by rw [List.length_map]; exact hz) hr p
theorem call_dictR (hc : X.calm = true) : CallR X (.type "dict") (fun xs H Q => ∃ x, xs = [x] ∧ rDict X.K x H Q) := by
  intro pins s σ H xs us Q I r q
  obtain ⟨x, rfl, q⟩ := q
  rcases q with q | q
  · exact call_dictP hc pins s σ H _ us Q I r q
  · exact call_dictD pins s σ H _ us Q I r q
theorem ev_dictG (hK : D.T.K = X.K) (hc : X.calm = true) {k : Vl → Hm → R Vl} (hv : KV1 D (rDict D.T.K) k) {f : Env → Hm → R Vl} (hg : Gl X "dict") (hm : X.mg "dict" = none) (ha : PE X a (semE D f)) (hs : argX a = true) : PE X (.Call (.Name "dict" p) [a] [] pos) (semE D (op1 f k)) := by
  refine ev_t1 (call_dictR hc) ?_ hg hm boot_dict (by decide) (by decide) ha hs
  intro x y Hs H ρ h Q sy rx q
  have z := hv x y Hs H ρ h Q sy rx q
  rw [hK] at z
  exact ⟨x, rfl, z⟩
end
end HV

end

section
/-! V8c: join, update, dict displays, dict comprehensions. -/
namespace HV
open PySem PySem.Spec PyProof.Rows L2 TL
section
variable {D : Wd} {T : Tb} {Hs H Hs' H' : Hp} {ρ ρ' : List Addr} {h h' : Hm} {σ : L2.St} {env : Env} {X : Cx} {e o a b c : Expr} {es rest : List Expr} {apos cpos pos pos' p p1 p2 p3 : Pos}
theorem str_ext {x y : Str} (h : x.cps.toList = y.cps.toList) : x = y := by
  obtain ⟨⟨x⟩⟩ := x
  obtain ⟨⟨y⟩⟩ := y
  simp at h
  rw [h]
theorem joinL_eq (a : Txt) : ∀ ss : List Txt, joinL a ss = joinT a ss
  | [] => rfl
  | [s] => rfl
  | s :: q :: r => by
    show s ++ (a ++ joinL a (q :: r)) = s ++ (a ++ joinT a (q :: r))
    rw [joinL_eq a (q :: r)]
theorem join_tx (a : Txt) (ss : List Txt) : Txt.join (tx a) (ss.map tx) = tx (joinT a ss) := by
  rw [join_eq]
  refine str_ext ?_
  have := tl_join (tx a) (ss.map tx)
  rw [List.map_map] at this
  have e : (tl ∘ tx) = (id : Txt → Txt) := by funext z; simp [tx]
  rw [e, List.map_id, show tl (tx a) = a by simp [tx], joinL_eq] at this
  rw [show (Str.join (tx a) (ss.map tx)).cps.toList = tl (Str.join (tx a) (ss.map tx)) from rfl, this]
  simp [tx]
theorem strs_rep : ∀ {xs : List V} {ds : List PV} {ss : List Txt}, RepVs T Hs xs ds → strsV ds = some ss → xs = (ss.map tx).map V.str ∧ ∀ s ∈ ss, ∀ c ∈ s, c < 1114112
  | _, _, _, .nil, e => by cases e; exact ⟨rfl, fun s h => by simp at h⟩
  | _, _, ss, .cons (d := d) (ds := ds) h r, e => by
    cases h with
    | str s hs =>
      simp only [strsV] at e
      cases w : strsV ds with
      | none => rw [w] at e; cases e
      | some qs =>
        rw [w] at e
        cases e
        obtain ⟨e1, e2⟩ := strs_rep r w
        refine ⟨by rw [e1]; rfl, fun z hz => ?_⟩
        rcases List.mem_cons.mp hz with rfl | hz
        · exact hs.2
        · exact e2 z hz
    | _ => cases e
theorem joinT_mem {a : Txt} {P : Nat → Prop} (ha : ∀ c ∈ a, P c) : ∀ {ss : List Txt}, (∀ s ∈ ss, ∀ c ∈ s, P c) → ∀ c ∈ joinT a ss, P c
  | [], _, c, hc => by simp [joinT] at hc
  | [s], h, c, hc => h s (by simp) c hc
  | s :: q :: r, h, c, hc => by
    have hc : c ∈ s ++ (a ++ joinT a (q :: r)) := hc
    rcases List.mem_append.mp hc with z | z
    · exact h s (by simp) c z
    · rcases List.mem_append.mp z with z | z
      · exact ha c z
      · exact joinT_mem ha (fun s hs => h s (List.mem_cons_of_mem _ hs)) c z
theorem joinT_len (a : Txt) : ∀ ss : List Txt, (joinT a ss).length ≤ (ss.map List.length).sum + ss.length * a.length
  | [] => by simp [joinT]
  | [s] => by simp [joinT]
  | s :: q :: r => by
    have ih := joinT_len a (q :: r)
    show (s ++ (a ++ joinT a (q :: r))).length ≤ _
    simp only [List.length_append, List.map_cons, List.sum_cons, List.length_cons] at ih ⊢
    have e : (r.length + 1 + 1) * a.length = (r.length + 1) * a.length + a.length := Nat.succ_mul _ _
    omega
def rJoin (K : PySem.W.Frag) : R2 := fun x y H Q => ∃ a p, ∃ ys : List Str, x = .str a ∧ [y] = [V.ref p] ∧ (SqL K H p (ys.map V.str) ∨ SqT K H p (ys.map V.str)) ∧ (ys.map (·.length)).sum + ys.length * a.length ≤ 16777216 ∧ Q (.str (Txt.join a ys)) H
theorem va_join : VA2 T (rJoin T.K) joinV := by
  intro x y d1 d2 d Hx Hy H Q s1 s2 r1 r2 e k
  cases r1 with
  | str a ha =>
    cases r2 with
    | lst h2 z2 q2 =>
      rename_i p xs ds
      simp only [joinV] at e
      cases w : strsV ds with
      | none => rw [w] at e; cases e
      | some ss =>
        rw [w] at e
        dsimp only at e
        split at e
        · rename_i hl
          cases e
          obtain ⟨e1, e2⟩ := strs_rep q2 w
          refine ⟨tx a, p, ss.map tx, rfl, rfl, .inl (by rw [← e1]; exact SqL.of (s2 _ _ h2)), ?_, ?_⟩
          · rw [List.map_map, List.length_map, tx_len]
            have : ((fun x : Str => x.length) ∘ tx) = (List.length : Txt → Nat) := by funext z; exact tx_len z
            rw [this]
            exact hl
          · rw [join_tx]
            refine k _ fun Hs => .str _ ⟨by rw [sizeLine_eq]; exact Nat.le_trans (joinT_len a ss) hl, joinT_mem ha.2 e2⟩
        · cases e
    | _ => cases e
  | _ => cases e
theorem ev_join (hK : D.T.K = X.K) {f g : Env → Hm → R Vl} (ho : PE X o (semE D f)) (he : PE X e (semE D g)) (hs : starEach [e] X.env = [(false, eval e X.env)]) (hbase : attributeBase o "join" X.env (eval o X.env) = eval o X.env) (hline : (apos.endLine == pos.line) = true) :
    PE X (.Call (.Attribute o "join" apos) [e] [] pos) (semE D (joinE f g)) := by
  refine PE.imp (pe_join ho he hs hbase hline) fun σ H Q z => ?_
  obtain ⟨Hs, ρ, h, env, sy, er, p⟩ := z
  refine ⟨Hs, ρ, h, env, sy, er, Post.bind (f := fun x h => if isStrV x = true then (g env h).bind fun y h => opA joinV x y h else .stuck) p fun x h1 H1 Hs1 ρ1 t1 p1 sy1 q1 v rv => ?_⟩
  by_cases hl : isStrV x = true
  · rw [if_pos hl] at q1
    refine ⟨?_, ⟨Hs1, ρ1, h1, env, sy1, er.mono t1.mono p1, q1.bind fun y h2 H2 Hs2 ρ2 t2 p2 sy2 q2 u ru => ?_⟩⟩
    · cases x with
      | rf n => cases hl
      | fz d =>
        replace rv : RepV D.T Hs1 v d := rv
        cases rv with
        | str s hs => exact ⟨_, rfl⟩
        | _ => cases hl
    · have q := kv_A (va_join (T := D.T)) v u x y Hs2 H2 ρ2 h2 Q sy2 (rv.mono t2.mono p2) ru q2
      rw [hK] at q
      exact q
  · rw [if_neg hl] at q1; exact q1.elim
/-! ### update -/
theorem mt_update : MtR X "dict.update" (fun x xs H Q => ∃ (a b : Addr) (ks ls : List (Key × V)), x = .ref a ∧ xs = [.ref b] ∧ a ≠ b ∧ H a = some (.dK ks) ∧ Rd H b (.dK ls) ∧ ks.length + ls.length ≤ sizeLine ∧ Q .non (upd H a (.dK (mergeK ks ls)))) := by
  intro pins s σ H x xs v us Q I rx rs hh
  obtain ⟨a, b, ks, ls, rfl, rfl, hne, ha, hb, hz, q⟩ := hh
  obtain rfl : v = Value.ref a := rx
  obtain ⟨u, rfl, ru⟩ := vals1 rs
  obtain rfl : u = Value.ref b := ru
  obtain ⟨z1, hd, vs, rel, dd⟩ := dk_of I.hok ha
  obtain ⟨z2, hd2, ws, rel2, dd2⟩ := dk_rd I.hok hb
  refine call_meetsIn PySem.F.slot_dict_update dd.typeIs PySem.F.entry_dict_update (PySem.F.args_dict_update_2 _ _) (meets_dict_update (mixKind X.prog X.w) a b hne hd2)
    ⟨vs, ws, dd, dd2, (by rw [← rel.length, ← rel2.length]; exact hz), fun h' hmm _ hs => ?_⟩
  have he : ∃ q, h'.get? a = some q := let ⟨q, _, _, hq, _⟩ := hmm; ⟨q, hq⟩
  have hl : (mergeK ks ls).length ≤ sizeLine := by
    have : ∀ (ls ks : List (Key × V)), (mergeK ks ls).length ≤ ks.length + ls.length := fun ls => by
      induction ls with
      | nil => intro ks; exact Nat.le_refl _
      | cons p r ih =>
        intro ks
        have h1 := ih (putK ks p.1 p.2)
        have h2 := length_putK ks p.1 p.2
        have h3 : mergeK ks (p :: r) = mergeK (putK ks p.1 p.2) r := rfl
        rw [h3]
        simp only [List.length_cons]
        omega
    have := this ls ks
    omega
  exact ⟨.non, _, d_write (t' := s.toks) I (by rw [ha]; exact True.intro) hs he (dk_new hl hd (rel2.merge rel) hmm), rfl, q⟩
theorem isDct_ok {K : PySem.W.Frag} (sy : Sy T Hs H ρ h) {v : V} {x : Vl} (r : VlR T Hs ρ v x) (e : isDctH h x = true) : tyV K "dict" v H := by
  cases x with
  | fz d => cases e
  | rf n =>
    obtain ⟨a, ha, rfl⟩ := r
    simp only [isDctH] at e
    cases w : h[n]? with
    | none => rw [w] at e; cases e
    | some oo =>
      rw [w] at e
      cases oo with
      | none => cases e
      | some o =>
        obtain ⟨_, mr⟩ := sy.ob n o a w ha
        cases o with
        | lst xs => cases e
        | dct kvs =>
          obtain ⟨ks, g1, _⟩ := mr
          exact .inr (.inr (.inl ⟨rfl, .inl ⟨ks, g1⟩⟩))
        | ins c fs => cases e
theorem ev_update {f g : Env → Hm → R Vl} (ho : PE X o (semE D f)) (he : PE X e (semE D g)) (hbase : attributeBase o "update" X.env (eval o X.env) = eval o X.env)
    (hs : starEach [e] X.env = [(false, eval e X.env)]) (hline : (apos.endLine == cpos.line) = true) : PE X (.Call (.Attribute o "update" apos) [e] [] cpos) (semE D (updE f g)) := by
  refine PE.imp (pe_bm PySem.F.plainAttrs_dict PySem.F.slot_dict_update PySem.F.type_dict_update mt_update ho (pa_cons he pa_nil hs) hbase ?_ hline hs rfl) fun σ H Q z => ?_
  · rw [hs]; rfl
  obtain ⟨Hs, ρ, h, env, sy, er, p⟩ := z
  refine ⟨Hs, ρ, h, env, sy, er, Post.bind (f := fun x h => if isDctH h x = true then (g env h).bind fun y h => updW x y h else .stuck) p fun x h1 H1 Hs1 ρ1 t1 p1 sy1 q1 v rv => ?_⟩
  by_cases hl : isDctH h1 x = true
  · rw [if_pos hl] at q1
    refine ⟨isDct_ok sy1 rv hl, ⟨Hs1, ρ1, h1, env, sy1, er.mono t1.mono p1, q1.bind fun y h2 H2 Hs2 ρ2 t2 p2 sy2 q2 u ru => ?_⟩⟩
    replace rv := rv.mono t2.mono p2
    cases x with
    | fz d => cases hl
    | rf n =>
      cases y with
      | rf m => exact q2.elim
      | fz d =>
        replace ru : RepV D.T Hs2 u d := ru
        cases ru with
        | @dct b ls es hb hz hr =>
          obtain ⟨a, ha, rfl⟩ := rv
          simp only [updW] at q2
          cases w : h2[n]? with
          | none => rw [w] at q2; exact q2.elim
          | some oo =>
            rw [w] at q2
            cases oo with
            | none => exact q2.elim
            | some oo =>
              obtain ⟨hsa, mr⟩ := sy2.ob n oo a w ha
              cases oo with
              | lst xs => exact q2.elim
              | ins c fs => exact q2.elim
              | dct kvs =>
                obtain ⟨ks, g1, g2, g3⟩ := mr
                dsimp only at q2
                by_cases hz2 : kvs.length + es.length ≤ LIM
                · rw [if_pos hz2] at q2
                  rw [lim_eq] at hz2
                  have hab : a ≠ b := fun z => by
                    subst z
                    rcases hb with hb | ⟨_, hb⟩ <;> (rw [hsa] at hb; cases hb)
                  refine ⟨a, b, ks, ls, rfl, rfl, hab, g1, SameR sy2.sub hb, by rw [Paired.length g3, hr.length]; exact hz2, ?_⟩
                  have := mergeD_len (es.map fzP) kvs
                  rw [List.length_map] at this
                  obtain ⟨s2, t2⟩ := sy2.write (u := .dK (mergeK ks ls)) (o' := .dct (mergeD kvs (es.map fzP))) w ha ⟨_, upd_same, Nat.le_trans this hz2, merge_rel (fz_repks hr) g3⟩
                  exact q2 _ _ _ t2 Pre.refl s2 _ .non
                · rw [if_neg hz2] at q2; exact q2.elim
        | _ => exact q2.elim
  · rw [if_neg hl] at q1; exact q1.elim
/-! ### {} -/
theorem ev_ndct0 : PE X (.Dict [] [] pos) (semE D (ndctE esNil)) := by
  refine PE.imp pe_dnewK fun σ H Q z => ?_
  obtain ⟨Hs, ρ, h, env, sy, er, p⟩ := z
  intro l hl
  exact newD_post sy hl (Nat.zero_le _) .nil (show PostV D Q Hs H ρ h (newD [] h) from p)
theorem ev_dct0 : PE X (.Dict [] [] pos) (semE D (dctE esNil)) := by
  refine PE.imp pe_dnewK fun σ H Q z => ?_
  obtain ⟨Hs, ρ, h, env, sy, er, p⟩ := z
  intro l hl
  have p2 : PostV D Q Hs H ρ h ((newD [] h).bind fun v h => (HV.frz v h).bind fun d h => .ok (.fz d) h) := p
  refine newD_post (Q := fun v H1 => Q v H1) sy hl (Nat.zero_le _) .nil ?_
  refine Post.bind p2 fun v h1 H1 Hs1 ρ1 t1 p1 sy1 q1 u ru => ?_
  obtain ⟨Hs2, h2, d, f1, r2, q2⟩ := Post.frzB sy1 ru q1
  exact q2 H1 Hs2 ρ1 Tr.refl Pre.refl f1.1 u r2
end
end HV

end

section
/-! V8d: dict comprehensions. -/
namespace L2
open PySem
theorem dc_it {J : It} {n : Nat} {G : Hp → Prop} {Y : Nat → Hp → V → Hp → Prop} (w : Walk J n G Y) {g : TG} {tt : TT} {tk tv : TE} {vs : List Nat} {σ : St} {H1 : Hp} {D : Addr} {Qd : Hp → Prop} (Pv : Nat → Hp → Prop) (h0 : Pv 0 (upd H1 D (.dK []))) (hG : ∀ i H, i ≤ n → Pv i H → G H)
    (hs : ∀ i x H H', i < n → Pv i H → Y i H x H' → g x (wipe σ vs) H' fun σ2 H2 => wipe σ2 vs = wipe σ vs ∧ tt σ2 H2 fun b H3 =>
      if b = true then tk σ2 H3 fun y H4 => tv σ2 H4 fun z H5 => ∃ kvs k, y = kV k ∧ H5 D = some (.dK kvs) ∧ kvs.length < sizeLine ∧ Pv (i + 1) (upd H5 D (.dK (putK kvs k z))) else Pv (i + 1) H3) (hd : ∀ H, Pv n H → Qd H) :
    ∃ W : Nat → Nat → Hp → Prop, (∃ m, W 0 m (upd H1 D (.dK []))) ∧ ∀ i m H, W i m H →
      (J.stop i H ∧ Qd H) ∨ (J.go i H ∧ ∃ Nx : Hp → Prop, (∀ H', Nx H' → ∃ m', m' < m ∧ W (i + 1) m' H') ∧ ∀ x H', J.yld i H x H' → g x (wipe σ vs) H' fun σ2 H2 => wipe σ2 vs = wipe σ vs ∧ tt σ2 H2 fun b H3 =>
        if b = true then tk σ2 H3 fun y H4 => tv σ2 H4 fun z H5 => ∃ kvs k, y = kV k ∧ H5 D = some (.dK kvs) ∧ kvs.length < sizeLine ∧ Nx (upd H5 D (.dK (putK kvs k z))) else Nx H3) := by
  refine ⟨fun i m H => m = n - i ∧ i ≤ n ∧ Pv i H, ⟨n, by simp, Nat.zero_le _, h0⟩, ?_⟩
  rintro i m H ⟨rfl, hi, p⟩
  have q := hG i H hi p
  by_cases hlt : i < n
  · refine .inr ⟨w.goes i H hlt q, Pv (i + 1), fun H' p' => ⟨n - (i + 1), by omega, rfl, hlt, p'⟩, fun x H' y => hs i x H H' hlt p (w.yields i H x H' hlt q y)⟩
  · have e : i = n := by omega
    subst e
    exact .inl ⟨w.stops H q, hd H p⟩
end L2
namespace HV
open PySem PySem.Spec PyProof.Rows L2
section
variable {D : Wd} {T : Tb} {Hs H Hs' H' : Hp} {ρ ρ' : List Addr} {h h' : Hm} {σ : L2.St} {env : Env} {X : Cx} {α β : Type}
theorem mergeD_app {α : Type} : ∀ (es ds : List (PV × α)) (k : PV) (v : α), mergeD ds (es ++ [(k, v)]) = putD (mergeD ds es) k v
  | [], _, _, _ => rfl
  | (j, u) :: es, ds, k, v => mergeD_app es (putD ds j u) k v
theorem KvRs.mono {ks : List (Key × V)} {ds : List (PV × Vl)} (h : Paired (KvR T Hs ρ) ks ds) (s : Same Hs Hs') (p : Pre ρ ρ') : Paired (KvR T Hs' ρ') ks ds := Paired.imp h fun _ _ r => ⟨r.1, r.2.mono s p⟩
theorem sem_ndc {src : Src} (sk : SrcOk src) {g : Vl → Env → Hm → Option Env} {c : Env → Hm → R Bool} {e u : Env → Hm → R Vl} {own ts : List Nat} (hts : ∀ i ∈ ts, i ∈ own) :
    ∀ σ H Q, semE D (ndcV own src g c e u) σ H Q → tDc (semI D src) (semG D.blk ts g) (semT D.blk c) (semE D.blk e) (semE D.blk u) own σ H Q := by
  intro σ H Q z
  obtain ⟨Hs, ρ, h, env, sy, er, p⟩ := z
  refine ⟨Hs, ρ, h, env, sy, er, ?_⟩
  unfold ndcV at p
  dsimp only at p
  cases w : src env h with
  | stuck => rw [w] at p; exact p
  | exc c ps h1 => rw [w] at p; exact p
  | ok dl h1 =>
    obtain ⟨ds, l⟩ := dl
    rw [w] at p
    intro H1 Hs1 ρ1 t1 p1 sy1 J hJ D0 hD0
    have lk := sk env h ds l h1 w
    have q1 : PostV D Q Hs1 H1 ρ1 (lockH l h1) ((lcN g c (pairE e u) (wipeE own env) ds (lockH l h1)).bind fun ys h => newD (mergeD [] ys) h) := Post.unlk sy1 lk (Post.back t1 p1 p)
    obtain ⟨G, Y, hsz, wk, hG, hY⟩ := hJ
    dsimp only at hsz wk hG hY
    obtain ⟨hs0, ho0⟩ := (sy1.lock (l := l)).nobody hD0
    have tr_other : ∀ {Hs2 H2 : Hp} {ρ2 : List Addr} {h2 : Hm} {o : HO}, TrH Hs1 H1 ρ1 (lockH l h1) Hs2 H2 ρ2 h2 → TrH Hs1 H1 ρ1 (lockH l h1) Hs2 (upd H2 D0 o) ρ2 h2 := fun {Hs2 H2 ρ2 h2 o} t =>
      ⟨t.mono, fun a u h1 h2 h3 h4 => by rw [upd_ne (ne_of_none h1 hD0)]; exact t.keep a u h1 h2 h3 h4, fun a h => by
        by_cases e : a = D0
        · rw [e]; exact nu_none hD0
        · have h : nuB (upd _ D0 _ a) := h
          rw [upd_ne e] at h; exact t.there a h, t.new, t.newO⟩
    refine dc_it wk (fun i H2 => ∃ Hs2 ρ2 h2 acc accd, TrH Hs1 H1 ρ1 (lockH l h1) Hs2 H2 ρ2 h2 ∧ Pre ρ1 ρ2 ∧ Sy D.T Hs2 H2 ρ2 h2 ∧ H2 D0 = some (.dK acc) ∧ Hs2 D0 = none ∧ ¬ Im ρ2 h2 D0 ∧ Paired (KvR D.T Hs2 ρ2) acc (mergeD [] accd) ∧ acc.length ≤ i ∧
        PostV D Q Hs1 H1 ρ1 (lockH l h1) ((lcN g c (pairE e u) (wipeE own env) (ds.drop i) h2).bind fun ys h => newD (mergeD [] (accd ++ ys)) h))
      ⟨Hs1, ρ1, lockH l h1, [], [], tr_other Tr.refl, Pre.refl, sy1.lock.other (.none hD0) hs0 ho0, upd_same, hs0, ho0, .nil, Nat.le_refl _, by rw [List.drop_zero]; exact q1⟩ ?_ ?_ ?_
    · rintro i H2 hi ⟨Hs2, ρ2, h2, acc, accd, t2, p2, sy2, _⟩
      exact hG Hs2 H2 _ t2 sy2.sub
    · rintro i x H2 H3 hi ⟨Hs2, ρ2, h2, acc, accd, t2, p2, sy2, a1, a2, a3, a4, a5, q2⟩ y
      obtain ⟨Hs3, d, gr, hd, rx⟩ := hY i Hs2 H2 _ x H3 hi t2 sy2.sub y
      obtain ⟨sy3, t3⟩ := sy2.grow gr
      have gn := gr.none sy2.sub (a := D0) (by rw [a1]; simp)
      have es : ds.drop i = d :: ds.drop (i + 1) := by
        obtain ⟨hl, rfl⟩ := List.getElem?_eq_some_iff.mp hd
        exact List.drop_eq_getElem_cons hl
      rw [es] at q2
      simp only [lcN] at q2
      have er3 : EnvR D.T Hs3 ρ2 (L2.wipe σ own) (wipeE own env) := ((((er.mono t1.mono p1).mono t2.mono p2).mono t3.mono Pre.refl).wipe own)
      cases qg : g d (wipeE own env) h2 with
      | none => simp only [qg] at q2; exact q2.elim
      | some e2 =>
        simp only [qg] at q2
        refine ⟨Hs3, ρ2, h2, wipeE own env, d, sy3, er3, rx.mono (Same.refl _) p2, e2, qg, fun σ4 er4 hl4 hσ4 => ?_⟩
        rw [wipe_length] at hl4
        refine ⟨wipe_eq hl4 fun i hi => hσ4 i fun z => hi (hts i z), ?_⟩
        rw [sure_bind] at q2
        have keepD : ∀ {Hs6 H6 : Hp} {ρ6 : List Addr} {h6 : Hm}, TrH Hs3 H3 ρ2 h2 Hs6 H6 ρ6 h6 → H6 D0 = some (.dK acc) ∧ Hs6 D0 = none ∧ ¬ Im ρ6 h6 D0 := fun {Hs6 H6 ρ6 h6} t => by
          have n3 : Hs3 D0 = none := gn.1.trans a2
          have h3 : H3 D0 = some (.dK acc) := gn.2.trans a1
          refine ⟨t.keep D0 _ h3 n3 a3 (fun _ z => nomatch z), ?_, fun z => ?_⟩
          · cases z : Hs6 D0 with
            | none => rfl
            | some o =>
              rcases t.new D0 o z with u | ⟨_, u | u⟩
              · rw [n3] at u; cases u
              · exact absurd u a3
              · exact (nu_no h3 (fun _ y => nomatch y) u).elim
          · rcases t.newO D0 z with u | u
            · exact a3 u
            · exact (nu_no h3 (fun _ y => nomatch y) u).elim
        refine ⟨Hs3, ρ2, h2, e2, sy3, er4, Post.sure q2 fun b h5 H5 Hs5 ρ5 t5 p5 sy5 q5 => ?_⟩
        cases b with
        | false =>
          rw [if_neg Bool.false_ne_true] at q5
          refine iteF ?_
          obtain ⟨k1, k2, k3⟩ := keepD t5
          have t35 := t3.trans t5
          exact ⟨Hs5, ρ5, h5, acc, accd, t2.trans t35, p2.trans p5, sy5, k1, k2, k3, KvRs.mono a4 t35.mono p5, by omega, q5⟩
        | true =>
          rw [if_pos rfl, sure_bind] at q5
          refine iteT ?_
          -- the key, then the value
          have pairS : ∀ {γ : Type} {k : PV × Vl → Hm → R γ}, ((pairE e u e2 h5).sure.bind k) = (e e2 h5).sure.bind fun kk h => (u e2 h).sure.bind fun vv h => (match kk with | .fz i => if isKey i = true then R.ok (i, vv) h else .stuck | _ => .stuck).bind k := fun {γ k} => by
            unfold pairE
            cases e e2 h5 with
            | stuck => rfl
            | exc c ps h => rfl
            | ok kk h6 =>
              simp only [R.bind, R.sure]
              cases u e2 h6 with
              | stuck => rfl
              | exc c ps h => rfl
              | ok vv h7 =>
                simp only [R.bind, R.sure]
                cases kk with
                | rf n => rfl
                | fz i =>
                  dsimp only
                  by_cases hk : isKey i = true
                  · rw [if_pos hk]
                  · rw [if_neg hk]
          rw [pairS] at q5
          refine ⟨Hs5, ρ5, h5, e2, sy5, er4.mono t5.mono p5, Post.sure q5 fun kk h6 H6 Hs6 ρ6 t6 p6 sy6 q6 yk ryk => ?_⟩
          refine ⟨Hs6, ρ6, h6, e2, sy6, (er4.mono t5.mono p5).mono t6.mono p6, Post.sure q6 fun vv h7 H7 Hs7 ρ7 t7 p7 sy7 q7 yv ryv => ?_⟩
          have t57 := (t5.trans t6).trans t7
          have t37 := t3.trans t57
          obtain ⟨k1, k2, k3⟩ := keepD t57
          cases kk with
          | rf n => exact q7.elim
          | fz i =>
            dsimp only at q7
            by_cases hk : isKey i = true
            · rw [if_pos hk] at q7
              obtain ⟨kx, kr, rfl⟩ := keyR_of (show RepV D.T Hs6 yk i from ryk) hk
              refine ⟨acc, kx, rfl, k1, Nat.lt_of_le_of_lt a5 (Nat.lt_of_lt_of_le hi hsz), ?_⟩
              have hlen := length_putK acc kx yv
              refine ⟨Hs7, ρ7, h7, putK acc kx yv, accd ++ [(i, vv)], tr_other (t2.trans t37), p2.trans (p5.trans (p6.trans p7)), sy7.other (.dK k1) k2 k3, upd_same, k2, k3, ?_, by omega, ?_⟩
              · rw [mergeD_app]
                exact kv_put kr ryv (KvRs.mono a4 t37.mono (p5.trans (p6.trans p7)))
              · have eq : ∀ {o : R (List (PV × Vl))}, (o.bind fun ys h4 => R.ok ((i, vv) :: ys) h4).bind (fun ys h => newD (mergeD [] (accd ++ ys)) h) = o.bind fun ys h => newD (mergeD [] (accd ++ [(i, vv)] ++ ys)) h := fun {o} => by
                  cases o <;> simp [R.bind]
                have q8 : PostV D Q Hs1 H1 ρ1 (lockH l h1) (((lcN g c (pairE e u) (wipeE own env) _ h7).bind fun ys h4 => R.ok ((i, vv) :: ys) h4).bind fun ys h => newD (mergeD [] (accd ++ ys)) h) := q7
                rw [eq] at q8
                exact q8
            · rw [if_neg hk] at q7; exact q7.elim
    · rintro H2 ⟨Hs2, ρ2, h2, acc, accd, t2, p2, sy2, a1, a2, a3, a4, a5, q2⟩
      rw [List.drop_length] at q2
      have q3 : PostV D Q Hs1 H1 ρ1 (lockH l h1) (newD (mergeD [] (accd ++ [])) h2) := q2
      rw [List.append_nil] at q3
      have s2 := sy2.take_in (o := .dct (mergeD [] accd)) a2 a3 ⟨acc, a1, by rw [← Paired.length a4]; exact Nat.le_trans a5 hsz, KvRs.mono a4 (Same.refl _) Pre.app⟩
      refine q3 H2 Hs2 (ρ2 ++ [D0]) ⟨t2.mono, t2.keep, t2.there, t2.new, fun b z => ?_⟩ (p2.trans Pre.app) s2 (.ref D0) ⟨D0, by rw [← sy2.len]; simp, rfl⟩
      rcases im_app sy2.len z with z | ⟨rfl, _⟩
      · exact t2.newO b z
      · exact .inr (nu_none hD0)
end
end HV

end

section
/-! V8e: a comprehension over a dict's keys, the dict read within. -/
namespace HV
open PySem PySem.Spec PyProof.Rows L2
section
variable {D : Wd} {T : Tb} {Hs H Hs' H' : Hp} {ρ ρ' : List Addr} {h h' : Hm} {σ : L2.St} {env : Env} {X : Cx} {α β : Type}
theorem keyR_rep {k : Key} {e : PV} (h : KeyR k e) : RepV T Hs (kV k) e := by
  cases h with
  | int i => exact .int i
  | str s z => exact .str s z
/-! ### without the dict at a -/
section
variable {a : Addr} {od : Obj} {ks : List (Key × V)}
def offH (Hs : Hp) (a : Addr) : Hp := fun b => if b = a then none else Hs b
theorem off_ne {b : Addr} (h : b ≠ a) : offH Hs a b = Hs b := if_neg h
theorem off_same : offH Hs a a = none := if_pos rfl
mutual
theorem RepV.off (ha : Hs a = some (.frz od (.dK ks))) : ∀ {v : V} {d : PV}, RepV T Hs v d → noD d = true → RepV T (offH Hs a) v d
  | _, _, .non, _ => .non
  | _, _, .bl b, _ => .bl b
  | _, _, .int b, _ => .int b
  | _, _, .str b h, _ => .str b h
  | _, _, .scr (a := p) h z, _ => .scr (by
      rcases h with (h | ⟨o, h⟩) | h
      · exact .inl (.inl (by rw [off_ne (fun e => by rw [e, ha] at h; cases h)]; exact h))
      · exact .inl (.inr ⟨o, by rw [off_ne (fun e => by rw [e, ha] at h; cases h)]; exact h⟩)
      · exact .inr h) z
  | _, _, .lst (a := p) h z r, e => .lst (by rw [off_ne (fun e => by rw [e, ha] at h; cases h)]; exact h) z (RepVs.off ha r (by simpa [noD] using e))
  | _, _, .tup (a := p) h z r, e => .tup (by rw [off_ne (fun e => by rw [e, ha] at h; cases h)]; exact h) z (RepVs.off ha r (by simpa [noD] using e))
  | _, _, .dct h z r, e => by simp [noD] at e
  | _, _, .obj (a := p) h c r, e => .obj (by rw [off_ne (fun e => by rw [e, ha] at h; cases h)]; exact h) c (RepFs.off ha r (by simpa [noD] using e))
  | _, _, .cls h, _ => .cls h
  | _, _, .ty n, _ => .ty n
theorem RepVs.off (ha : Hs a = some (.frz od (.dK ks))) : ∀ {v : List V} {d : List PV}, RepVs T Hs v d → noDs d = true → RepVs T (offH Hs a) v d
  | _, _, .nil, _ => .nil
  | _, _, .cons h r, e => by
    simp only [noDs, Bool.and_eq_true] at e
    exact .cons (RepV.off ha h e.1) (RepVs.off ha r e.2)
theorem RepFs.off (ha : Hs a = some (.frz od (.dK ks))) : ∀ {v : List (Str × V)} {d : List (Nat × PV)}, RepFs T Hs v d → noDf d = true → RepFs T (offH Hs a) v d
  | _, _, .nil, _ => .nil
  | _, _, .cons h r, e => by
    simp only [noDf, Bool.and_eq_true] at e
    exact .cons (RepV.off ha h e.1) (RepFs.off ha r e.2)
end
theorem VlR.off (ha : Hs a = some (.frz od (.dK ks))) {v : V} {x : Vl} (r : VlR T Hs ρ v x) (e : noV x = true) : VlR T (offH Hs a) ρ v x := by
  cases x with
  | fz d => exact RepV.off ha r e
  | rf n => exact r
theorem Paired.offG {γ δ : Type} {F G : γ → δ → Prop} {q : δ → Bool} (k : ∀ x y, F x y → q y = true → G x y) : ∀ {xs : List γ} {ys : List δ}, Paired F xs ys → ys.all q = true → Paired G xs ys
  | _, _, .nil, _ => .nil
  | _, _, .cons r t, e => by
    simp only [List.all_cons, Bool.and_eq_true] at e
    exact .cons (k _ _ r e.1) (Paired.offG k t e.2)
theorem mor_off (ha : Hs a = some (.frz od (.dK ks))) {b : Addr} {o : MO} (hb : b ≠ a) {u : HO} (r : MOR T Hs H ρ b o) (e : noO (some o) = true) : MOR T (offH Hs a) (upd H a u) ρ b o := by
  cases o with
  | lst xs => obtain ⟨vs, h1, h2, h3⟩ := r; exact ⟨vs, by rw [upd_ne hb]; exact h1, h2, Paired.offG (q := noV) (fun _ _ z q => VlR.off ha z q) h3 e⟩
  | dct kvs => obtain ⟨vs, h1, h2, h3⟩ := r; exact ⟨vs, by rw [upd_ne hb]; exact h1, h2, Paired.offG (q := fun kv : PV × Vl => noV kv.2) (fun _ _ z q => ⟨z.1, VlR.off ha z.2 q⟩) h3 e⟩
  | ins c fs => obtain ⟨C, dx, gs, h1, h2, h3, h4⟩ := r; exact ⟨C, dx, gs, by rw [upd_ne hb]; exact h1, h2, h3, Paired.offG (q := fun kv : Nat × Vl => noV kv.2) (fun _ _ z q => ⟨z.1, VlR.off ha z.2 q⟩) h4 e⟩
end
/-- locked: the dict n at a is read as a thing that stays -/
theorem Sy.lockD {n : Nat} {a : Addr} {kvs : List (PV × Vl)} {ks : List (Key × V)} (od : Obj) (sy : Sy T Hs H ρ h) (w : h[n]? = some (some (.dct kvs))) (ha : ρ[n]? = some a) (hs : Hs a = none) :
    Sy T (upd Hs a (.frz od (.dK ks))) (upd H a (.frz od (.dK ks))) ρ (h.set n none) := by
  have sm : Same Hs (upd Hs a (.frz od (.dK ks))) := fun b o z => by rw [upd_ne (fun e => by rw [e, hs] at z; cases z)]; exact z
  have ne : ∀ {m : Nat} {o : MO} {b : Addr}, (h.set n none)[m]? = some (some o) → ρ[m]? = some b → b ≠ a ∧ h[m]? = some (some o) := fun {m o b} e1 e2 => by
    rcases get_set e1 with ⟨_, z, _⟩ | ⟨nm, e1⟩
    · cases z
    · exact ⟨fun z => nm (sy.inj m n a o _ e1 w (z ▸ e2) ha), e1⟩
  refine ⟨fun b o z => ?_, by rw [List.length_set]; exact sy.len, fun i j b o u e1 e2 e3 e4 => ?_, fun m o b e1 e2 => ?_, tabs_upd (sy.ob n _ a w ha).2.noTab sy.tb, nt_upd sy.nt (fun _ z => nomatch z)⟩
  · by_cases e : b = a
    · subst e; rw [upd_same] at z ⊢; exact z
    · rw [upd_ne e] at z ⊢; exact sy.sub b o z
  · exact sy.inj i j b o u (ne e1 e3).2 (ne e2 e4).2 e3 e4
  · obtain ⟨nb, e1⟩ := ne e1 e2
    obtain ⟨k1, k2⟩ := sy.ob m o b e1 e2
    exact ⟨by rw [upd_ne nb]; exact k1, k2.move sm Pre.refl fun u z => by rw [upd_ne nb]; exact z⟩
/-- unlocked again -/
theorem Sy.unlkD {n : Nat} {a : Addr} {kvs : List (PV × Vl)} {ks : List (Key × V)} {od : Obj} (sy : Sy T Hs H ρ h) (w : h[n]? = some (some (.dct kvs))) (ha : ρ[n]? = some a) (hs : Hs a = none) (hk : H a = some (.dK ks)) (hz : kvs.length ≤ sizeLine) (hr : Paired (KvR T Hs ρ) ks kvs)
    (t : TrH (upd Hs a (.frz od (.dK ks))) (upd H a (.frz od (.dK ks))) ρ (h.set n none) Hs' H' ρ' h') (p : Pre ρ ρ') (sy' : Sy T Hs' H' ρ' h') (e : h'.all noO = true) :
    Hs' a = some (.frz od (.dK ks)) ∧ H' a = some (.frz od (.dK ks)) ∧ Sy T (offH Hs' a) (upd H' a (.dK ks)) ρ' (h'.set n (some (.dct kvs))) ∧ TrH Hs H ρ h (offH Hs' a) (upd H' a (.dK ks)) ρ' (h'.set n (some (.dct kvs))) := by
  have a1 : Hs' a = some (.frz od (.dK ks)) := t.mono a _ upd_same
  have a2 : H' a = some (.frz od (.dK ks)) := sy'.sub a _ a1
  have ha' := p n a ha
  have hn' : n < h'.length := by rw [← sy'.len]; exact (List.getElem?_eq_some_iff.mp ha').1
  have sm : Same Hs (offH Hs' a) := fun b o z => by
    have nb : b ≠ a := fun e => by rw [e, hs] at z; cases z
    rw [off_ne nb]
    exact t.mono b o (by rw [upd_ne nb]; exact z)
  have ne : ∀ {m : Nat} {o : MO} {b : Addr}, h'[m]? = some (some o) → ρ'[m]? = some b → b ≠ a := fun {m o b} e1 e2 z => by
    have := (sy'.ob m o b e1 e2).1
    rw [z, a1] at this
    cases this
  have imA : Im ρ h a := ⟨n, _, w, ha⟩
  refine ⟨a1, a2, ⟨fun b o z => ?_, by rw [List.length_set]; exact sy'.len, fun i j b o u e1 e2 e3 e4 => ?_, fun m o b e1 e2 => ?_, tabs_upd (.frz a2) sy'.tb, fun b z w => (if e : b = a then by rw [e, off_same] at w; cases w else by rw [off_ne e] at w; exact sy'.nt b z w)⟩, ⟨sm, fun b u h1 h2 h3 h4 => ?_, fun b z => ?_, fun b o z => ?_, fun b z => ?_⟩⟩
  · have nb : b ≠ a := fun e => by rw [e, off_same] at z; cases z
    rw [off_ne nb] at z
    rw [upd_ne nb]
    exact sy'.sub b o z
  · rcases get_set e1 with ⟨x1, _, _⟩ | ⟨n1, y1⟩
    · rcases get_set e2 with ⟨x2, _, _⟩ | ⟨n2, y2⟩
      · exact x1.trans x2.symm
      · rw [x1, ha'] at e3; cases e3; exact absurd rfl (ne y2 e4)
    · rcases get_set e2 with ⟨x2, _, _⟩ | ⟨n2, y2⟩
      · rw [x2, ha'] at e4; cases e4; exact absurd rfl (ne y1 e3)
      · exact sy'.inj i j b o u y1 y2 e3 e4
  · rcases get_set e1 with ⟨rfl, z, _⟩ | ⟨n1, e1⟩
    · rw [ha'] at e2
      cases e2
      cases z
      exact ⟨off_same, ks, upd_same, hz, Paired.imp hr fun _ _ r => ⟨r.1, r.2.mono sm p⟩⟩
    · have nb := ne e1 e2
      obtain ⟨k1, k2⟩ := sy'.ob m o b e1 e2
      have ho : noO (some o) = true := List.all_eq_true.mp e _ (List.mem_of_getElem? e1)
      exact ⟨by rw [off_ne nb]; exact k1, mor_off a1 nb k2 ho⟩
  · have nb : b ≠ a := fun e => h3 (e ▸ imA)
    rw [upd_ne nb]
    exact t.keep b u (by rw [upd_ne nb]; exact h1) (by rw [upd_ne nb]; exact h2) (fun z => h3 (im_kill z)) h4
  · have nb : b ≠ a := fun e => nu_no (u := .dK ks) upd_same (fun _ y => nomatch y) (e ▸ z)
    have z : nuB (upd H' a _ b) := z
    rw [upd_ne nb] at z
    have := t.there b z
    have this : nuB (upd H a _ b) := this
    rw [upd_ne nb] at this
    exact this
  · have nb : b ≠ a := fun e => by rw [e, off_same] at z; cases z
    rw [off_ne nb] at z
    rcases t.new b o z with u | ⟨u1, u2 | u2⟩
    · rw [upd_ne nb] at u; exact .inl u
    · rw [upd_ne nb] at u1; exact .inr ⟨u1, .inl (im_kill u2)⟩
    · have u2 : nuB (upd H a _ b) := u2
      rw [upd_ne nb] at u1 u2; exact .inr ⟨u1, .inr u2⟩
  · rcases im_set z with z | ⟨z, _⟩
    · have nb : b ≠ a := fun e => by
        obtain ⟨m, o, e1, e2⟩ := z
        exact ne e1 e2 e
      rcases t.newO b z with u | u
      · exact .inl (im_kill u)
      · have u : nuB (upd H a _ b) := u
        rw [upd_ne nb] at u; exact .inr u
    · rw [ha'] at z; cases z; exact .inl imA
/-! ### a dict that stays, locked and unlocked -/
section
variable {a : Addr} {od : Obj} {ks : List (Key × V)}
theorem rd_lk (ha : Hs a = some (.dK ks)) {b : Addr} {ls : List (Key × V)} (h : Rd Hs b (.dK ls)) : Rd (upd Hs a (.frz od (.dK ks))) b (.dK ls) := by
  by_cases e : b = a
  · subst e
    rcases h with h | ⟨o, h⟩
    · rw [ha] at h; cases h; exact .inr ⟨od, upd_same⟩
    · rw [ha] at h; cases h
  · rcases h with h | ⟨o, h⟩
    · exact .inl (by rw [upd_ne e]; exact h)
    · exact .inr ⟨o, by rw [upd_ne e]; exact h⟩
theorem rd_ulk (ha : Hs a = some (.frz od (.dK ks))) {b : Addr} {ls : List (Key × V)} (h : Rd Hs b (.dK ls)) : Rd (upd Hs a (.dK ks)) b (.dK ls) := by
  by_cases e : b = a
  · subst e
    rcases h with h | ⟨o, h⟩
    · rw [ha] at h; cases h
    · rw [ha] at h; cases h; exact .inl upd_same
  · rcases h with h | ⟨o, h⟩
    · exact .inl (by rw [upd_ne e]; exact h)
    · exact .inr ⟨o, by rw [upd_ne e]; exact h⟩
mutual
theorem RepV.lk (ha : Hs a = some (.dK ks)) : ∀ {v : V} {d : PV}, RepV T Hs v d → RepV T (upd Hs a (.frz od (.dK ks))) v d
  | _, _, .non => .non
  | _, _, .bl b => .bl b
  | _, _, .int b => .int b
  | _, _, .str b h => .str b h
  | _, _, .scr (a := p) h z => .scr (by
      rcases h with (h | ⟨o, h⟩) | h
      · exact .inl (.inl (by rw [upd_ne (fun e => by rw [e, ha] at h; cases h)]; exact h))
      · exact .inl (.inr ⟨o, by rw [upd_ne (fun e => by rw [e, ha] at h; cases h)]; exact h⟩)
      · exact .inr h) z
  | _, _, .lst (a := p) h z r => .lst (by rw [upd_ne (fun e => by rw [e, ha] at h; cases h)]; exact h) z (RepVs.lk ha r)
  | _, _, .tup (a := p) h z r => .tup (by rw [upd_ne (fun e => by rw [e, ha] at h; cases h)]; exact h) z (RepVs.lk ha r)
  | _, _, .dct h z r => .dct (rd_lk ha h) z (RepKs.lk ha r)
  | _, _, .obj (a := p) h c r => .obj (by rw [upd_ne (fun e => by rw [e, ha] at h; cases h)]; exact h) c (RepFs.lk ha r)
  | _, _, .cls h => .cls h
  | _, _, .ty n => .ty n
theorem RepVs.lk (ha : Hs a = some (.dK ks)) : ∀ {v : List V} {d : List PV}, RepVs T Hs v d → RepVs T (upd Hs a (.frz od (.dK ks))) v d
  | _, _, .nil => .nil
  | _, _, .cons h r => .cons (RepV.lk ha h) (RepVs.lk ha r)
theorem RepKs.lk (ha : Hs a = some (.dK ks)) : ∀ {v : List (Key × V)} {d : List (PV × PV)}, RepKs T Hs v d → RepKs T (upd Hs a (.frz od (.dK ks))) v d
  | _, _, .nil => .nil
  | _, _, .cons k h r => .cons k (RepV.lk ha h) (RepKs.lk ha r)
theorem RepFs.lk (ha : Hs a = some (.dK ks)) : ∀ {v : List (Str × V)} {d : List (Nat × PV)}, RepFs T Hs v d → RepFs T (upd Hs a (.frz od (.dK ks))) v d
  | _, _, .nil => .nil
  | _, _, .cons h r => .cons (RepV.lk ha h) (RepFs.lk ha r)
end
mutual
theorem RepV.ulk (ha : Hs a = some (.frz od (.dK ks))) : ∀ {v : V} {d : PV}, RepV T Hs v d → RepV T (upd Hs a (.dK ks)) v d
  | _, _, .non => .non
  | _, _, .bl b => .bl b
  | _, _, .int b => .int b
  | _, _, .str b h => .str b h
  | _, _, .scr (a := p) h z => .scr (by
      rcases h with (h | ⟨o, h⟩) | h
      · exact .inl (.inl (by rw [upd_ne (fun e => by rw [e, ha] at h; cases h)]; exact h))
      · exact .inl (.inr ⟨o, by rw [upd_ne (fun e => by rw [e, ha] at h; cases h)]; exact h⟩)
      · exact .inr h) z
  | _, _, .lst (a := p) h z r => .lst (by rw [upd_ne (fun e => by rw [e, ha] at h; cases h)]; exact h) z (RepVs.ulk ha r)
  | _, _, .tup (a := p) h z r => .tup (by rw [upd_ne (fun e => by rw [e, ha] at h; cases h)]; exact h) z (RepVs.ulk ha r)
  | _, _, .dct h z r => .dct (rd_ulk ha h) z (RepKs.ulk ha r)
  | _, _, .obj (a := p) h c r => .obj (by rw [upd_ne (fun e => by rw [e, ha] at h; cases h)]; exact h) c (RepFs.ulk ha r)
  | _, _, .cls h => .cls h
  | _, _, .ty n => .ty n
theorem RepVs.ulk (ha : Hs a = some (.frz od (.dK ks))) : ∀ {v : List V} {d : List PV}, RepVs T Hs v d → RepVs T (upd Hs a (.dK ks)) v d
  | _, _, .nil => .nil
  | _, _, .cons h r => .cons (RepV.ulk ha h) (RepVs.ulk ha r)
theorem RepKs.ulk (ha : Hs a = some (.frz od (.dK ks))) : ∀ {v : List (Key × V)} {d : List (PV × PV)}, RepKs T Hs v d → RepKs T (upd Hs a (.dK ks)) v d
  | _, _, .nil => .nil
  | _, _, .cons k h r => .cons k (RepV.ulk ha h) (RepKs.ulk ha r)
theorem RepFs.ulk (ha : Hs a = some (.frz od (.dK ks))) : ∀ {v : List (Str × V)} {d : List (Nat × PV)}, RepFs T Hs v d → RepFs T (upd Hs a (.dK ks)) v d
  | _, _, .nil => .nil
  | _, _, .cons h r => .cons (RepV.ulk ha h) (RepFs.ulk ha r)
end
theorem mor_lk {x : HO} (k : ∀ v d, RepV T Hs v d → RepV T (upd Hs a x) v d) {b : Addr} {o : MO} (hb : b ≠ a) (r : MOR T Hs H ρ b o) : MOR T (upd Hs a x) (upd H a x) ρ b o := by
  have kv : ∀ v y, VlR T Hs ρ v y → VlR T (upd Hs a x) ρ v y := fun v y q => by
    cases y with
    | fz d => exact k v d q
    | rf n => exact q
  cases o with
  | lst xs => obtain ⟨vs, h1, h2, h3⟩ := r; exact ⟨vs, by rw [upd_ne hb]; exact h1, h2, Paired.imp h3 kv⟩
  | dct kvs => obtain ⟨vs, h1, h2, h3⟩ := r; exact ⟨vs, by rw [upd_ne hb]; exact h1, h2, Paired.imp h3 fun _ _ z => ⟨z.1, kv _ _ z.2⟩⟩
  | ins c fs => obtain ⟨C, dx, gs, h1, h2, h3, h4⟩ := r; exact ⟨C, dx, gs, by rw [upd_ne hb]; exact h1, h2, h3, Paired.imp h4 fun _ _ z => ⟨z.1, kv _ _ z.2⟩⟩
theorem sy_lk {x y : HO} (nt : NoTab H a) (sy : Sy T Hs H ρ h) (ha : Hs a = some y) (nx : ∀ q, x ≠ .tbl q) (k : ∀ v d, RepV T Hs v d → RepV T (upd Hs a x) v d) : Sy T (upd Hs a x) (upd H a x) ρ h := by
  refine ⟨fun b o z => ?_, sy.len, sy.inj, fun m o b e1 e2 => ?_, tabs_upd nt sy.tb, nt_upd sy.nt nx⟩
  · by_cases e : b = a
    · subst e; rw [upd_same] at z ⊢; exact z
    · rw [upd_ne e] at z ⊢; exact sy.sub b o z
  · obtain ⟨k1, k2⟩ := sy.ob m o b e1 e2
    have nb : b ≠ a := fun e => by rw [e, ha] at k1; cases k1
    exact ⟨by rw [upd_ne nb]; exact k1, mor_lk k nb k2⟩
theorem tr_lk (hr : Hs a = some (.dK ks)) (t : TrH (upd Hs a (.frz od (.dK ks))) (upd H a (.frz od (.dK ks))) ρ h Hs' H' ρ' h') : TrH Hs H ρ h (upd Hs' a (.dK ks)) (upd H' a (.dK ks)) ρ' h' := by
  refine ⟨fun b o z => ?_, fun b u h1 h2 h3 h4 => ?_, fun b z => ?_, fun b o z => ?_, fun b z => ?_⟩
  · by_cases e : b = a
    · subst e; rw [hr] at z; rw [upd_same]; exact z
    · rw [upd_ne e]; exact t.mono b o (by rw [upd_ne e]; exact z)
  · have nb : b ≠ a := fun e => by rw [e, hr] at h2; cases h2
    rw [upd_ne nb]
    exact t.keep b u (by rw [upd_ne nb]; exact h1) (by rw [upd_ne nb]; exact h2) h3 h4
  · have nb : b ≠ a := fun e => nu_no (u := .dK ks) upd_same (fun _ y => nomatch y) (e ▸ z)
    have z : nuB (upd H' a _ b) := z
    rw [upd_ne nb] at z
    have this : nuB (upd H a _ b) := t.there b z
    rw [upd_ne nb] at this
    exact this
  · by_cases e : b = a
    · subst e; rw [upd_same] at z; exact .inl (by rw [hr]; exact z)
    · rw [upd_ne e] at z
      rcases t.new b o z with u | ⟨u1, u2 | u2⟩
      · rw [upd_ne e] at u; exact .inl u
      · rw [upd_ne e] at u1; exact .inr ⟨u1, .inl u2⟩
      · have u2 : nuB (upd H a _ b) := u2
        rw [upd_ne e] at u1 u2; exact .inr ⟨u1, .inr u2⟩
  · rcases t.newO b z with u | u
    · exact .inl u
    · have nb : b ≠ a := fun e => nu_no (u := .frz od (.dK ks)) upd_same (fun _ y => nomatch y) (e ▸ u)
      have u : nuB (upd H a _ b) := u
      rw [upd_ne nb] at u
      exact .inr u
end
theorem srcK_ok {i : Nat} : SrcOk (srcK i) := by
  intro env h ds l h' e
  unfold srcK at e
  split at e
  · cases e; trivial
  · cases e
theorem keys_of {i : Nat} {a : Addr} {od : Obj} {ks : List (Key × V)} {Q : It → Hp → Prop} (hσ : σ[i]? = some (some (.ref a))) (hH : H a = some (.frz od (.dK ks))) (z : semI D (srcK i) σ H Q) : iKeys (tVar i) σ H Q := by
  obtain ⟨Hs, ρ, h, env, sy, er, p⟩ := z
  unfold srcK at p
  split at p
  · rename_i ds w
    obtain ⟨u, h1, h2⟩ := er.2 i _ w
    rw [hσ] at h1
    cases h1
    replace h2 : RepV D.T Hs (.ref a) (.dct ds) := h2
    cases h2 with
    | dct hr hz rr =>
      rename_i ks'
      rcases hr with hr | ⟨o, hr⟩
      · have := sy.sub _ _ hr
        rw [hH] at this
        cases this
      · have e2 := sy.sub _ _ hr
        rw [hH] at e2
        cases e2
        refine ⟨.ref a, hσ, a, od, rfl, .inl ⟨ks, hH, p H Hs ρ Tr.refl Pre.refl sy _ ?_⟩⟩
        refine ⟨fun H => H a = some (.frz od (.dK ks)), _, by rw [List.length_map]; exact hz, by rw [List.length_map, ← rr.length]; exact walk_keys, fun Hs2 H2 O2 t s => s _ _ (t.mono _ _ hr), fun j Hs2 H2 O2 x H' hj t s y => ?_⟩
        obtain ⟨rfl, k, v, e1, rfl⟩ := y
        obtain ⟨d, g1, g2⟩ := Paired.getL (fz_repks (ρ := ρ) rr) e1
        rw [List.getElem?_map] at g1
        cases g3 : ds[j]? with
        | none => rw [g3] at g1; cases g1
        | some kv =>
          rw [g3] at g1
          cases g1
          exact ⟨Hs2, .fz kv.1, .refl, by rw [List.getElem?_map, g3]; rfl, keyR_rep g2.1⟩
  · exact p.elim
theorem sem_lcK {i : Nat} {g : Vl → Env → Hm → Option Env} {c : Env → Hm → R Bool} {e : Env → Hm → R Vl} {own ts : List Nat} (hts : ∀ i ∈ ts, i ∈ own) :
    ∀ σ H Q, semE D (lcKV own i g c e) σ H Q → tLockE (tLc (iKeys (tVar i)) (semG D.blk ts g) (semT D.blk c) (semE D.blk e) own) σ H Q ∨ tLc (iKeys (tVar i)) (semG D.blk ts g) (semT D.blk c) (semE D.blk e) own σ H Q := by
  intro σ H Q z
  obtain ⟨Hs, ρ, h, env, sy, er, p⟩ := z
  unfold lcKV at p
  split at p
  · rename_i n w
    split at p
    · rename_i kvs w2
      split at p
      · rename_i ds w3
        obtain ⟨u, h1, a, ha, rfl⟩ := er.2 i _ w
        obtain ⟨hs, ks, hk, hz, hr⟩ := sy.ob n _ a w2 ha
        refine .inl ⟨a, .dK ks, hk, trivial, fun od => ?_⟩
        have rk := allFd_ok hr w3
        have hzd : ds.length ≤ sizeLine := by rw [← rk.length, Paired.length hr]; exact hz
        have sy1 : Sy D.T (upd Hs a (.frz od (.dK ks))) (upd H a (.frz od (.dK ks))) ρ (h.set n none) := sy.lockD od w2 ha hs
        have sm : Same Hs (upd Hs a (.frz od (.dK ks))) := fun b o z => by rw [upd_ne (fun e => by rw [e, hs] at z; cases z)]; exact z
        have er1 : EnvR D.T (upd Hs a (.frz od (.dK ks))) ρ σ (env.set i (some (.fz (.dct ds)))) := by
          refine ⟨by rw [List.length_set]; exact er.1, fun j v e => ?_⟩
          rcases get_set e with ⟨rfl, e, _⟩ | ⟨_, e⟩
          · cases e
            exact ⟨_, h1, RepV.dct (.inr ⟨od, upd_same⟩) hzd (rk.mono sm)⟩
          · obtain ⟨u, g1, g2⟩ := er.2 j v e
            exact ⟨u, g1, g2.mono sm Pre.refl⟩
        have hi : i < env.length := (List.getElem?_eq_some_iff.mp w).1
        have key := sem_lcG (D := D) (src := srcK i) (srcK_ok) (g := g) (c := c) (te := semE D.blk e) (eb := frzR e) (own := own) hts (fun ys h => if noDs ys = true ∧ h.all noO = true then .ok (.fz (.lst ys)) h else .stuck) (ok := fun Hs ρ v d => RepV D.T Hs v d) (fun _ _ _ _ v b s _ r => r.mono s)
          (fun σ H Q z => by
            obtain ⟨Hs, ρ, h, env, sy, er, p⟩ := z
            refine ⟨Hs, ρ, h, env, sy, er, Post.bind (f := HV.frz) p fun a h1 H1 Hs1 ρ1 t1 p1 sy1 q1 v rv => ?_⟩
            obtain ⟨Hs2, h2, d, _, _, r2, q2⟩ := Post.frz (D := D.blk) sy1 rv q1
            exact q2 v r2)
          (fun Hs1 H1 ρ1 h1 Hs H ρ h acc ys D0 Q hD0 t p sy a1 a2 a3 a4 a5 q => by
            by_cases hc : noDs ys = true ∧ h.all noO = true
            · rw [if_pos hc] at q
              have sb : Same Hs (upd Hs D0 (.lst acc)) := fun b w z => by rw [upd_ne (ne_of_none z a2)]; exact z
              have r5 := RepVs.ofP a5
              refine q H (upd Hs D0 (.lst acc)) ρ ⟨t.mono.trans sb, t.keep, t.there, fun b w z => ?_, t.newO⟩ p (sy.tell a1 a2 a3) (.ref D0) (RepV.lst upd_same (by rw [← r5.length]; exact a4) (r5.mono sb))
              by_cases e : b = D0
              · subst e
                refine .inr ⟨?_, .inr (nu_none hD0)⟩
                cases u : Hs1 b with
                | none => rfl
                | some o => rw [t.mono b o u] at a2; cases a2
              · rw [upd_ne e] at z; exact t.new b w z
            · rw [if_neg hc] at q; exact q.elim)
          σ (upd H a (.frz od (.dK ks))) (fun v H' => H' a = some (.frz od (.dK ks)) ∧ Q v (upd H' a (.dK ks))) ⟨_, ρ, h.set n none, _, sy1, er1, ?_⟩
        · exact keys_of h1 upd_same key
        · dsimp only [srcK]
          rw [List.getElem?_set_self hi]
          dsimp only
          simp only [R.bind, lockH]
          show PostV D _ _ _ ρ (h.set n none) (unlkR [] ((lcN g c (frzR e) (wipeE own (env.set i (some (.fz (.dct ds))))) (ds.map fun kv => .fz kv.1) (h.set n none)).bind fun ys h => if noDs ys = true ∧ h.all noO = true then .ok (.fz (.lst ys)) h else .stuck))
          cases o : lcN g c (frzR e) (wipeE own (env.set i (some (.fz (.dct ds))))) (ds.map fun kv => .fz kv.1) (h.set n none) with
          | stuck => rw [o] at p; exact p.elim
          | exc c ps h1 => rw [o] at p; exact p.elim
          | ok ys h1 =>
            rw [o] at p
            simp only [R.sure, R.bind] at p ⊢
            by_cases hc : noDs ys = true ∧ h1.all noO = true
            · rw [if_pos hc] at p ⊢
              intro H2 Hs2 ρ2 t2 p2 sy2 v rv
              obtain ⟨a1, a2, s3, t3⟩ := sy.unlkD w2 ha hs hk hz hr t2 p2 sy2 hc.2
              exact ⟨a2, p _ _ _ t3 p2 s3 v (RepV.off a1 rv (by simpa [noD] using hc.1))⟩
            · rw [if_neg hc] at p; exact p.elim
      · exact p.elim
    · exact p.elim
  · rename_i ds w
    obtain ⟨u, h1, h2⟩ := er.2 i _ w
    replace h2 : RepV D.T Hs u (.dct ds) := h2
    cases h2 with
    | dct hr hz rr =>
      rename_i a ks
      have main : ∀ (Hs1 H1 : Hp) (o1 : Obj) (Q1 : V → Hp → Prop), Sy D.T Hs1 H1 ρ h → EnvR D.T Hs1 ρ σ env → H1 a = some (.frz o1 (.dK ks)) → PostV D Q1 Hs1 H1 ρ h ((lcN g c (frzR e) (wipeE own env) (ds.map fun kv => .fz kv.1) h).bind fun ys h' => .ok (.fz (.lst ys)) h') → tLc (iKeys (tVar i)) (semG D.blk ts g) (semT D.blk c) (semE D.blk e) own σ H1 Q1 := by
        intro Hs1 H1 o1 Q1 sy1 er1 hH q
        have key := sem_lcG (D := D) (src := srcK i) (srcK_ok) (g := g) (c := c) (te := semE D.blk e) (eb := frzR e) (own := own) hts (fun ys h => .ok (.fz (.lst ys)) h) (ok := fun Hs ρ v d => RepV D.T Hs v d) (fun _ _ _ _ v b s _ r => r.mono s)
          (fun σ H Q z => by
            obtain ⟨Hs, ρ, h, env, sy, er, p⟩ := z
            refine ⟨Hs, ρ, h, env, sy, er, Post.bind (f := HV.frz) p fun a h1 H1 Hs1 ρ1 t1 p1 sy1 q1 v rv => ?_⟩
            obtain ⟨Hs2, h2, d, _, _, r2, q2⟩ := Post.frz (D := D.blk) sy1 rv q1
            exact q2 v r2)
          (fun Hs1 H1 ρ1 h1 Hs H ρ h acc ys D0 Q hD0 t p sy a1 a2 a3 a4 a5 q => by
            have sb : Same Hs (upd Hs D0 (.lst acc)) := fun b w z => by rw [upd_ne (ne_of_none z a2)]; exact z
            have r5 := RepVs.ofP a5
            refine q H (upd Hs D0 (.lst acc)) ρ ⟨t.mono.trans sb, t.keep, t.there, fun b w z => ?_, t.newO⟩ p (sy.tell a1 a2 a3) (.ref D0) (RepV.lst upd_same (by rw [← r5.length]; exact a4) (r5.mono sb))
            by_cases e : b = D0
            · subst e
              refine .inr ⟨?_, .inr (nu_none hD0)⟩
              cases u : Hs1 b with
              | none => rfl
              | some o => rw [t.mono b o u] at a2; cases a2
            · rw [upd_ne e] at z; exact t.new b w z)
          σ H1 Q1 ⟨Hs1, ρ, h, env, sy1, er1, ?_⟩
        · exact keys_of h1 hH key
        · dsimp only [srcK]
          rw [w]
          dsimp only
          simp only [R.bind, lockH]
          show PostV D _ _ _ ρ h (unlkR [] _)
          rw [show ∀ {α : Type} (o : HV.R α), unlkR [] o = o from fun o => by cases o <;> rfl]
          exact q
      have sure : ∀ (Q1 : V → Hp → Prop) (Hs1 H1 : Hp), PostV D Q1 Hs1 H1 ρ h ((lcN g c (frzR e) (wipeE own env) (ds.map fun kv => .fz kv.1) h).sure.bind fun ys h' => .ok (.fz (.lst ys)) h') → PostV D Q1 Hs1 H1 ρ h ((lcN g c (frzR e) (wipeE own env) (ds.map fun kv => .fz kv.1) h).bind fun ys h' => .ok (.fz (.lst ys)) h') := by
        intro Q1 Hs1 H1 q
        cases o : lcN g c (frzR e) (wipeE own env) (ds.map fun kv => .fz kv.1) h with
        | stuck => rw [o] at q; exact q
        | exc c ps h1 => rw [o] at q; exact q.elim
        | ok ys h1 => rw [o] at q; exact q
      rcases hr with hr | ⟨o, hr⟩
      · have hH := sy.sub _ _ hr
        refine .inl ⟨a, .dK ks, hH, trivial, fun od => ?_⟩
        have nt : NoTab H a := .dK hH
        have sy1 := sy_lk (x := .frz od (.dK ks)) nt sy hr (fun _ z => nomatch z) (fun v d => RepV.lk hr)
        have er1 : EnvR D.T (upd Hs a (.frz od (.dK ks))) ρ σ env := ⟨er.1, fun j v z => by
          obtain ⟨u, g1, g2⟩ := er.2 j v z
          refine ⟨u, g1, ?_⟩
          cases v with
          | fz d => exact RepV.lk hr g2
          | rf n => exact g2⟩
        refine main _ _ od _ sy1 er1 upd_same (sure _ _ _ ?_)
        cases o : lcN g c (frzR e) (wipeE own env) (ds.map fun kv => .fz kv.1) h with
        | stuck => rw [o] at p; exact p.elim
        | exc c ps h1 => rw [o] at p; exact p.elim
        | ok ys h2 =>
          rw [o] at p
          simp only [R.sure, R.bind] at p ⊢
          intro H2 Hs2 ρ2 t2 p2 sy2 v rv
          have a1 : Hs2 a = some (.frz od (.dK ks)) := t2.mono a _ upd_same
          have a2 : H2 a = some (.frz od (.dK ks)) := sy2.sub a _ a1
          have nt2 : NoTab H2 a := .frz a2
          exact ⟨a2, p _ _ _ (tr_lk hr t2) p2 (sy_lk nt2 sy2 a1 (fun _ z => nomatch z) (fun v d => RepV.ulk a1)) v (RepV.ulk a1 rv)⟩
      · exact .inr (main Hs H o Q sy er (sy.sub _ _ hr) (sure _ _ _ p))
  · exact p.elim
theorem pe_lockOr {X : Cx} {e : Expr} {t : TE} (h : PE X e t) : PE X e (fun σ H Q => tLockE t σ H Q ∨ t σ H Q) := ⟨fun pins s σ H Q I z => by
  rcases z with z | z
  · exact (pe_lock h).run pins s σ H Q I z
  · exact h.run pins s σ H Q I z⟩
end
end HV

end

section
/-! V8f: comprehensions with two generators. -/
namespace HV
open PySem PySem.Spec PyProof.Rows L2
section
variable {D : Wd} {T : Tb} {Hs H Hs' H' : Hp} {ρ ρ' : List Addr} {h h' : Hm} {σ : L2.St} {env : Env} {X : Cx} {α β : Type}
theorem it_gen {J : It} {n : Nat} {G : Hp → Prop} {Y : Nat → Hp → V → Hp → Prop} (w : Walk J n G Y) (Pv : Nat → Hp → Prop) {Body : V → Hp → (Hp → Prop) → Prop} {H0 : Hp} {Qd : Hp → Prop} (h0 : Pv 0 H0) (hG : ∀ i H, i ≤ n → Pv i H → G H)
    (hs : ∀ i x H H', i < n → Pv i H → Y i H x H' → Body x H' (Pv (i + 1))) (hd : ∀ H, Pv n H → Qd H) :
    ∃ W : Nat → Nat → Hp → Prop, (∃ m, W 0 m H0) ∧ ∀ i m H, W i m H → (J.stop i H ∧ Qd H) ∨ (J.go i H ∧ ∃ Nx : Hp → Prop, (∀ H', Nx H' → ∃ m', m' < m ∧ W (i + 1) m' H') ∧ ∀ x H', J.yld i H x H' → Body x H' Nx) := by
  refine ⟨fun i m H => m = n - i ∧ i ≤ n ∧ Pv i H, ⟨n, by simp, Nat.zero_le _, h0⟩, ?_⟩
  rintro i m H ⟨rfl, hi, p⟩
  have q := hG i H hi p
  by_cases hlt : i < n
  · exact .inr ⟨w.goes i H hlt q, Pv (i + 1), fun H' p' => ⟨n - (i + 1), by omega, rfl, hlt, p'⟩, fun x H' y => hs i x H H' hlt p (w.yields i H x H' hlt q y)⟩
  · have e : i = n := by omega
    subst e
    exact .inl ⟨w.stops H q, hd H p⟩
theorem lcN_ne {g : Vl → Env → Hm → Option Env} {c : Env → Hm → R Bool} {e : Env → Hm → R β} {env : Env} : ∀ (ds : List Vl) (h : Hm) (k : Nat) (ps : List PV) (h' : Hm), lcN g c e env ds h ≠ .exc k ps h'
  | [], h, k, ps, h', z => by cases z
  | d :: ds, h, k, ps, h', z => by
    simp only [lcN] at z
    cases q : g d env h with
    | none => rw [q] at z; cases z
    | some e1 =>
      rw [q] at z
      dsimp only at z
      cases q1 : c e1 h with
      | stuck => rw [q1] at z; cases z
      | exc a b d => rw [q1] at z; cases z
      | ok b h1 =>
        rw [q1] at z
        replace z : (if b = true then (e e1 h1).sure.bind fun y h => (lcN g c e env ds h).bind fun ys h => .ok (y :: ys) h else lcN g c e env ds h1) = .exc k ps h' := z
        cases b with
        | false => rw [if_neg Bool.false_ne_true] at z; exact lcN_ne ds h1 _ _ _ z
        | true =>
          rw [if_pos rfl] at z
          cases q2 : e e1 h1 with
          | stuck => rw [q2] at z; cases z
          | exc a b d => rw [q2] at z; cases z
          | ok y h2 =>
            rw [q2] at z
            replace z : ((lcN g c e env ds h2).bind fun ys h => .ok (y :: ys) h) = .exc k ps h' := z
            cases q3 : lcN g c e env ds h2 with
            | stuck => rw [q3] at z; cases z
            | ok ys h3 => rw [q3] at z; cases z
            | exc a b d => exact lcN_ne ds h2 _ _ _ q3
theorem lcN2_ne {g : Vl → Env → Hm → Option Env} {c : Env → Hm → R Bool} {own2 : List Nat} {src2 : Src} {g2 : Vl → Env → Hm → Option Env} {c2 : Env → Hm → R Bool} {e : Env → Hm → R β} {env : Env} : ∀ (ds : List Vl) (h : Hm) (k : Nat) (ps : List PV) (h' : Hm), lcN2 g c own2 src2 g2 c2 e env ds h ≠ .exc k ps h'
  | [], h, k, ps, h', z => by cases z
  | d :: ds, h, k, ps, h', z => by
    simp only [lcN2] at z
    cases q : g d env h with
    | none => rw [q] at z; cases z
    | some e1 =>
      rw [q] at z
      dsimp only at z
      cases q1 : c e1 h with
      | stuck => rw [q1] at z; cases z
      | exc a b d => rw [q1] at z; cases z
      | ok b h1 =>
        rw [q1] at z
        cases b with
        | false =>
          replace z : lcN2 g c own2 src2 g2 c2 e env ds h1 = .exc k ps h' := z
          exact lcN2_ne ds h1 _ _ _ z
        | true =>
          cases q2 : src2 e1 h1 with
          | stuck => simp [R.sure, R.bind, q2] at z
          | exc a b d => simp [R.sure, R.bind, q2] at z
          | ok r h2 =>
            obtain ⟨es, l⟩ := r
            cases l with
            | cons a b => simp [R.sure, R.bind, q2] at z
            | nil =>
              simp only [R.sure, R.bind, q2, if_true] at z
              cases q3 : lcN g2 c2 e (wipeE own2 e1) es h2 with
              | stuck => simp [q3] at z
              | exc a b d => exact lcN_ne _ _ _ _ _ q3
              | ok ys h3 =>
                simp only [q3] at z
                cases q4 : lcN2 g c own2 src2 g2 c2 e env ds h3 with
                | stuck => simp [q4] at z
                | ok ys h3 => simp [q4] at z
                | exc a b d => exact lcN2_ne ds h3 _ _ _ q4
theorem Post.len {o : R (List β)} {pre : List β} {F : List β → Hm → R Vl} {Q : VK} (hne : ∀ k ps h', o ≠ .exc k ps h') (q : PostV D Q Hs H ρ h (o.bind fun ys h => if (pre ++ ys).length ≤ LIM then F (pre ++ ys) h else .stuck)) : pre.length ≤ LIM := by
  cases w : o with
  | stuck => rw [w] at q; exact q.elim
  | exc k ps h' => exact (hne _ _ _ w).elim
  | ok ys h1 =>
    rw [w] at q
    replace q : PostV D Q Hs H ρ h (if (pre ++ ys).length ≤ LIM then F (pre ++ ys) h1 else .stuck) := q
    by_cases hl : (pre ++ ys).length ≤ LIM
    · rw [List.length_append] at hl; omega
    · rw [if_neg hl] at q; exact q.elim
/-- an inner source: nothing that changes is walked -/
def WalkF (T : Tb) (Hs : Hp) (ρ : List Addr) (ds : List Vl) (J : It) : Prop := ∃ (G : Hp → Prop) (Y : Nat → Hp → V → Hp → Prop), ds.length ≤ sizeLine ∧ Walk J ds.length G Y ∧ (∀ Hs2 H2, Same Hs Hs2 → Same Hs2 H2 → G H2) ∧
  ∀ i Hs2 H2 x H', i < ds.length → Same Hs Hs2 → Same Hs2 H2 → Y i H2 x H' → ∃ Hs' d, Grow Hs2 H2 Hs' H' ∧ ds[i]? = some d ∧ VlR T Hs' ρ x d
def nolk (o : R (List Vl × Lk)) : R (List Vl × Lk) := o.bind fun r h => match r.2 with
  | [] => .ok r h
  | _ :: _ => .stuck
def semIF (D : Wd) (f : Src) : TI := fun σ H Q => ∃ Hs ρ h env, Sy D.T Hs H ρ h ∧ EnvR D.T Hs ρ σ env ∧ Post D (fun Hs' H' ρ' r => ∀ J, WalkF D.T Hs' ρ' r.1 J → Q J H') Hs H ρ h (nolk (f env h))
theorem walkf_at {J : It} {G : Hp → Prop} {xs : List V} {vs : List Vl} (w : Walk J xs.length G (YAt xs)) (hS : ∀ Hs2 H2, Same Hs Hs2 → Same Hs2 H2 → G H2) (hz : vs.length ≤ sizeLine) (hr : VlsR T Hs ρ xs vs) : WalkF T Hs ρ vs J := by
  refine ⟨G, YAt xs, hz, by rw [← Paired.length hr]; exact w, hS, fun i Hs2 H2 x H' hi t s y => ?_⟩
  obtain ⟨rfl, y⟩ := y
  obtain ⟨d, g1, g2⟩ := Paired.getL hr y
  exact ⟨Hs2, d, .refl, g1, g2.mono t Pre.refl⟩
theorem walkf_str {s : Txt} (hh : s.length ≤ sizeLine ∧ ∀ c ∈ s, c < 1114112) : WalkF T Hs ρ ((s.map fun c => PV.str [c]).map Vl.fz) (Its (tx s)) := by
  obtain ⟨G, Y, h1, h2, h3, h4⟩ := walkv_str (T := T) (Hs := Hs) (H := Hs) (O := fun _ => False) (ρ := ρ) hh
  refine ⟨fun _ => True, fun i H v H' => H' = H ∧ ∃ c, (tx s).cps[i]? = some c ∧ v = .str ⟨#[c]⟩, by rw [List.length_map, List.length_map]; exact hh.1, ?_, fun _ _ _ _ => trivial, fun i Hs2 H2 x H' hi t sm y => ?_⟩
  · have e : ((s.map fun c => PV.str [c]).map Vl.fz).length = (tx s).cps.size := by simp [tx]
    rw [e]
    exact walk_str
  · obtain ⟨rfl, c, hc, rfl⟩ := y
    have hc2 : s[i]? = some c := by simpa [tx] using hc
    exact ⟨Hs2, .fz (.str [c]), .refl, by rw [List.getElem?_map, List.getElem?_map, hc2]; rfl, RepV.str [c] ⟨by simp [sizeLine_eq], fun z hz => by simp at hz; subst hz; exact hh.2 z (List.mem_of_getElem? hc2)⟩⟩
theorem walkf_range {lo : Int} {n : Nat} (hz : n ≤ sizeLine) : WalkF T Hs ρ (((List.range n).map fun (i : Nat) => PV.int (lo + (i : Int))).map Vl.fz) (Itr lo n) := by
  refine ⟨fun _ => True, YFn fun i => .int (lo + i), by simpa using hz, by simpa using walk_range, fun _ _ _ _ => trivial, fun i Hs2 H2 x H' hi t sm y => ?_⟩
  obtain ⟨rfl, rfl⟩ := y
  have hi2 : i < n := by simpa using hi
  exact ⟨Hs2, .fz (.int (lo + i)), .refl, by simp [hi2], RepV.int _⟩
theorem nolk_bind {o : R Vl} {f : Vl → Hm → R (List Vl × Lk)} : nolk (o.bind f) = o.bind fun a h => nolk (f a h) := by cases o <;> rfl
theorem if_val {e tg : Expr} (hK : D.T.K = X.K) {f : Env → Hm → R Vl} (he : PE X e (semE D f)) : PI X tg e (semIF D (srcV f)) := by
  refine ⟨fun pins s σ H R I z => (pi_val he).run pins s σ H R I ?_⟩
  obtain ⟨Hs, ρ, h, env, sy, er, p⟩ := z
  unfold srcV at p
  rw [nolk_bind] at p
  refine ⟨Hs, ρ, h, env, sy, er, p.bind fun d h1 H1 Hs1 ρ1 t1 p1 sy1 q1 v rv => ?_⟩
  cases d with
  | fz d =>
    dsimp only at q1
    cases w : iterV d with
    | none => rw [w] at q1; exact q1.elim
    | some ds =>
      rw [w] at q1
      have q := q1 H1 Hs1 ρ1 Tr.refl Pre.refl sy1
      replace rv : RepV D.T Hs1 v d := rv
      cases rv with
      | lst ha hz hr => cases w; exact it_list (SqL.of (sy1.sub _ _ ha)) (q _ (walkf_at walk_list (fun Hs2 H2 t s => SqL.of (s _ _ (t _ _ ha))) (by rw [List.length_map]; exact hz) (vls_fz hr)))
      | tup ha hz hr => cases w; exact it_tup (SqT.of (sy1.sub _ _ ha)) (q _ (walkf_at walk_tup (fun Hs2 H2 t s => SqT.of (s _ _ (t _ _ ha))) (by rw [List.length_map]; exact hz) (vls_fz hr)))
      | str x hx => cases w; exact it_str (q _ (walkf_str hx))
      | @scr a ns ha hz =>
        cases w
        exact it_list (by rw [← hK]; exact sy1.sub.seq ha) (q _ (walkf_at walk_list (fun Hs2 H2 t s => by rw [← hK]; exact s.seq (t.seq ha)) (by rw [List.length_map, List.length_map]; exact hz) (vls_fz (RepVs.ints ns))))
      | _ => cases w
  | rf n =>
    dsimp only at q1
    cases w : h1[n]? with
    | none => rw [w] at q1; exact q1.elim
    | some oo =>
      rw [w] at q1
      cases oo with
      | none => exact q1.elim
      | some oo =>
        cases oo with
        | lst xs => exact q1.elim
        | dct kvs => exact q1.elim
        | ins c fs => exact q1.elim
theorem if_range {a tg : Expr} {p pos : Pos} {f : Env → Hm → R Vl} (hg : Gl X "range") (hm : X.mg "range" = none) (ha : PE X a (semE D f)) (hs : argX a = true) : PI X tg (.Call (.Name "range" p) [a] [] pos) (semIF D (srcR f)) := by
  have hst : starEach [a] X.env = [(false, eval a X.env)] := star_of hs
  refine ⟨fun pins s σ H R I z => (pi_range1 hg hm (pa_cons ha pa_nil hst) hst).run pins s σ H R I ?_⟩
  obtain ⟨Hs, ρ, h, env, sy, er, p⟩ := z
  unfold srcR at p
  rw [nolk_bind] at p
  refine ⟨Hs, ρ, h, env, sy, er, p.bind fun d h1 H1 Hs1 ρ1 t1 p1 sy1 q1 v rv => ?_⟩
  cases d with
  | rf n => exact q1.elim
  | fz d =>
    dsimp only at q1
    cases w : rngN d with
    | none => rw [w] at q1; exact q1.elim
    | some ds =>
      rw [w] at q1
      have q := q1 H1 Hs1 ρ1 Tr.refl Pre.refl sy1
      replace rv : RepV D.T Hs1 v d := rv
      cases rv with
      | int j =>
        simp only [rngN] at w
        split at w
        · cases w
          rename_i hj
          exact ⟨j, rfl, by omega, by omega, q _ (walkf_range (by rw [sizeLine_eq]; omega))⟩
        · cases w
      | _ => cases w
theorem sem_lc2G {src src2 : Src} (sk : SrcOk src) {g g2 : Vl → Env → Hm → Option Env} {c c2 : Env → Hm → R Bool} {te : TE} {eb : Env → Hm → R β} {own own2 ts ts2 : List Nat} (hts : ∀ i ∈ ts, i ∈ own) (hts2 : ∀ i ∈ ts2, i ∈ own2) (F : List β → Hm → R Vl)
    {ok : Hp → List Addr → V → β → Prop} (hmono : ∀ Hs Hs' ρ ρ' v b, Same Hs Hs' → Pre ρ ρ' → ok Hs ρ v b → ok Hs' ρ' v b)
    (he : ∀ σ H Q, semX D.blk ok eb σ H Q → te σ H Q)
    (hF : ∀ Hs1 H1 ρ1 h1 Hs H ρ h acc ys D0 (Q : VK), H1 D0 = none → TrH Hs1 H1 ρ1 h1 Hs H ρ h → Pre ρ1 ρ → Sy D.T Hs H ρ h → H D0 = some (.lst acc) → Hs D0 = none → ¬ Im ρ h D0 → acc.length ≤ sizeLine → Paired (ok Hs ρ) acc ys → PostV D Q Hs1 H1 ρ1 h1 (F ys h) → Q (.ref D0) H) :
    ∀ σ H Q, semE D (fun env h => (src env h).bind fun (ds, l) h => unlkR l ((lcN2 g c own2 src2 g2 c2 eb (wipeE own env) ds (lockH l h)).bind fun ys h => if ys.length ≤ LIM then F ys h else .stuck)) σ H Q → tLc2 (semI D src) (semG D.blk ts g) (semT D.blk c) (semIF D.blk src2) (semG D.blk ts2 g2) (semT D.blk c2) te own own2 σ H Q := by
  intro σ H Q z
  obtain ⟨Hs, ρ, h, env, sy, er, p⟩ := z
  refine ⟨Hs, ρ, h, env, sy, er, ?_⟩
  dsimp only at p
  cases w : src env h with
  | stuck => rw [w] at p; exact p
  | exc c ps h1 => rw [w] at p; exact p
  | ok dl h1 =>
    obtain ⟨ds, l⟩ := dl
    rw [w] at p
    intro H1 Hs1 ρ1 t1 p1 sy1 J hJ D0 hD0
    have lk := sk env h ds l h1 w
    have q1 : PostV D Q Hs1 H1 ρ1 (lockH l h1) ((lcN2 g c own2 src2 g2 c2 eb (wipeE own env) ds (lockH l h1)).bind fun ys h => if ys.length ≤ LIM then F ys h else .stuck) := Post.unlk sy1 lk (Post.back t1 p1 p)
    obtain ⟨G, Y, hsz, wk, hG, hY⟩ := hJ
    dsimp only at hsz wk hG hY
    obtain ⟨hs0, ho0⟩ := (sy1.lock (l := l)).nobody hD0
    have tr_other : ∀ {Hs2 H2 : Hp} {ρ2 : List Addr} {h2 : Hm} {o : HO}, TrH Hs1 H1 ρ1 (lockH l h1) Hs2 H2 ρ2 h2 → TrH Hs1 H1 ρ1 (lockH l h1) Hs2 (upd H2 D0 o) ρ2 h2 := fun {Hs2 H2 ρ2 h2 o} t =>
      ⟨t.mono, fun a u h1 h2 h3 h4 => by rw [upd_ne (ne_of_none h1 hD0)]; exact t.keep a u h1 h2 h3 h4, fun a h => by
        by_cases e : a = D0
        · rw [e]; exact nu_none hD0
        · have h : nuB (upd _ D0 _ a) := h
          rw [upd_ne e] at h; exact t.there a h, t.new, t.newO⟩
    -- what lies at D0 stays as long as others change
    have keepD : ∀ {Hs3 H3 : Hp} {ρ2 : List Addr} {h2 : Hm} {Hs6 H6 : Hp} {ρ6 : List Addr} {h6 : Hm} {acc : List V}, H3 D0 = some (.lst acc) → Hs3 D0 = none → ¬ Im ρ2 h2 D0 → TrH Hs3 H3 ρ2 h2 Hs6 H6 ρ6 h6 → H6 D0 = some (.lst acc) ∧ Hs6 D0 = none ∧ ¬ Im ρ6 h6 D0 := fun {Hs3 H3 ρ2 h2 Hs6 H6 ρ6 h6 acc} h3 n3 a3 t => by
      refine ⟨t.keep D0 _ h3 n3 a3 (fun _ z => nomatch z), ?_, fun z => ?_⟩
      · cases z : Hs6 D0 with
        | none => rfl
        | some o =>
          rcases t.new D0 o z with u | ⟨_, u | u⟩
          · rw [n3] at u; cases u
          · exact absurd u a3
          · exact (nu_no h3 (fun _ y => nomatch y) u).elim
      · rcases t.newO D0 z with u | u
        · exact a3 u
        · exact (nu_no h3 (fun _ y => nomatch y) u).elim
    refine it_gen wk (fun i H2 => ∃ Hs2 ρ2 h2 acc accd, TrH Hs1 H1 ρ1 (lockH l h1) Hs2 H2 ρ2 h2 ∧ Pre ρ1 ρ2 ∧ Sy D.T Hs2 H2 ρ2 h2 ∧ H2 D0 = some (.lst acc) ∧ Hs2 D0 = none ∧ ¬ Im ρ2 h2 D0 ∧ Paired (ok Hs2 ρ2) acc accd ∧ acc.length ≤ LIM ∧
        PostV D Q Hs1 H1 ρ1 (lockH l h1) ((lcN2 g c own2 src2 g2 c2 eb (wipeE own env) (ds.drop i) h2).bind fun ys h => if (accd ++ ys).length ≤ LIM then F (accd ++ ys) h else .stuck))
      ⟨Hs1, ρ1, lockH l h1, [], [], tr_other Tr.refl, Pre.refl, sy1.lock.other (.none hD0) hs0 ho0, upd_same, hs0, ho0, .nil, Nat.zero_le _, by rw [List.drop_zero]; exact q1⟩ ?_ ?_ ?_
    · rintro i H2 hi ⟨Hs2, ρ2, h2, acc, accd, t2, p2, sy2, _⟩
      exact hG Hs2 H2 _ t2 sy2.sub
    · rintro i x H2 H3 hi ⟨Hs2, ρ2, h2, acc, accd, t2, p2, sy2, a1, a2, a3, a4, a5, q2⟩ y
      obtain ⟨Hs3, d, gr, hd, rx⟩ := hY i Hs2 H2 _ x H3 hi t2 sy2.sub y
      obtain ⟨sy3, t3⟩ := sy2.grow gr
      have gn := gr.none sy2.sub (a := D0) (by rw [a1]; simp)
      have es : ds.drop i = d :: ds.drop (i + 1) := by
        obtain ⟨hl, rfl⟩ := List.getElem?_eq_some_iff.mp hd
        exact List.drop_eq_getElem_cons hl
      rw [es] at q2
      simp only [lcN2] at q2
      have er3 : EnvR D.T Hs3 ρ2 (L2.wipe σ own) (wipeE own env) := ((((er.mono t1.mono p1).mono t2.mono p2).mono t3.mono Pre.refl).wipe own)
      cases qg : g d (wipeE own env) h2 with
      | none => simp only [qg] at q2; exact q2.elim
      | some e2 =>
        simp only [qg] at q2
        refine ⟨Hs3, ρ2, h2, wipeE own env, d, sy3, er3, rx.mono (Same.refl _) p2, e2, qg, fun σ4 er4 hl4 hσ4 => ?_⟩
        rw [wipe_length] at hl4
        refine ⟨wipe_eq hl4 fun i hi => hσ4 i fun z => hi (hts i z), ?_⟩
        rw [sure_bind] at q2
        have n3 : Hs3 D0 = none := gn.1.trans a2
        have h3 : H3 D0 = some (.lst acc) := gn.2.trans a1
        refine ⟨Hs3, ρ2, h2, e2, sy3, er4, Post.sure q2 fun b h5 H5 Hs5 ρ5 t5 p5 sy5 q5 => ?_⟩
        have t35 := t3.trans t5
        obtain ⟨k1, k2, k3⟩ := keepD h3 n3 a3 t5
        cases b with
        | false =>
          rw [if_neg Bool.false_ne_true] at q5
          exact iteF ⟨Hs5, ρ5, h5, acc, accd, t2.trans t35, p2.trans p5, sy5, k1, k2, k3, Paired.imp a4 fun v b r => hmono _ _ _ _ v b t35.mono p5 r, a5, q5⟩
        | true =>
          rw [if_pos rfl, sure_bind] at q5
          refine iteT ?_
          have er5 := er4.mono t5.mono p5
          refine ⟨Hs5, ρ5, h5, e2, sy5, er5, ?_⟩
          cases w5 : src2 e2 h5 with
          | stuck => rw [w5] at q5; exact q5.elim
          | exc k ps h' => rw [w5] at q5; exact q5.elim
          | ok r h6 =>
            obtain ⟨zs, lz⟩ := r
            rw [w5] at q5
            cases lz with
            | cons u v => exact q5.elim
            | nil =>
              replace q5 : PostV D Q Hs1 H1 ρ1 (lockH l h1) ((((lcN g2 c2 eb (wipeE own2 e2) zs h6).bind fun ys h => (lcN2 g c own2 src2 g2 c2 eb (wipeE own env) (ds.drop (i + 1)) h).bind fun us h => .ok (ys ++ us) h)).bind fun ys h => if (accd ++ ys).length ≤ LIM then F (accd ++ ys) h else .stuck) := q5
              intro H6 Hs6 ρ6 t6 p6 sy6 J1 hJ1
              obtain ⟨G1, Y1, hsz1, wk1, hG1, hY1⟩ := hJ1
              have t36 := t35.trans t6
              have t56 := t5.trans t6
              obtain ⟨k1, k2, k3⟩ := keepD h3 n3 a3 t56
              have er6 := er5.mono t6.mono p6
              have asc : ∀ (o : R (List β)) (u : Hm → R (List β)) (pre : List β), ((o.bind fun ys h => (u h).bind fun us h => R.ok (ys ++ us) h).bind fun ys h => if (pre ++ ys).length ≤ LIM then F (pre ++ ys) h else .stuck) = o.bind fun ys h => (u h).bind fun us h => if (pre ++ (ys ++ us)).length ≤ LIM then F (pre ++ (ys ++ us)) h else .stuck := fun o u pre => by
                cases o with
                | stuck => rfl
                | exc k ps h => rfl
                | ok ys h7 =>
                  show ((u h7).bind _).bind _ = (u h7).bind _
                  cases u h7 <;> rfl
              rw [asc] at q5
              refine it_gen (Body := fun x H' Nx => semG D.blk ts2 g2 x (L2.wipe σ4 own2) H' fun σ3 H5 => L2.wipe σ3 own2 = L2.wipe σ4 own2 ∧ semT D.blk c2 σ3 H5 fun b H6 => if b = true then te σ3 H6 fun y H7 => ∃ acc, H7 D0 = some (.lst acc) ∧ acc.length < sizeLine ∧ Nx (upd H7 D0 (.lst (acc ++ [y]))) else Nx H6) wk1
                (fun j H7 => ∃ Hs7 ρ7 h7 acc7 accd7, TrH Hs1 H1 ρ1 (lockH l h1) Hs7 H7 ρ7 h7 ∧ Pre ρ1 ρ7 ∧ Same Hs6 Hs7 ∧ Pre ρ6 ρ7 ∧ Sy D.T Hs7 H7 ρ7 h7 ∧ H7 D0 = some (.lst acc7) ∧ Hs7 D0 = none ∧ ¬ Im ρ7 h7 D0 ∧ Paired (ok Hs7 ρ7) acc7 accd7 ∧ acc7.length ≤ LIM ∧
                  PostV D Q Hs1 H1 ρ1 (lockH l h1) ((lcN g2 c2 eb (wipeE own2 e2) (zs.drop j) h7).bind fun ys h => (lcN2 g c own2 src2 g2 c2 eb (wipeE own env) (ds.drop (i + 1)) h).bind fun us h => if (accd7 ++ (ys ++ us)).length ≤ LIM then F (accd7 ++ (ys ++ us)) h else .stuck))
                ⟨Hs6, ρ6, h6, acc, accd, t2.trans t36, p2.trans (p5.trans p6), Same.refl _, Pre.refl, sy6, k1, k2, k3, Paired.imp a4 fun v b r => hmono _ _ _ _ v b t36.mono (p5.trans p6) r, a5, by rw [List.drop_zero]; exact q5⟩ ?_ ?_ ?_
              · rintro j H7 hj ⟨Hs7, ρ7, h7, acc7, accd7, T7, P7, s7, pp7, sy7, _⟩
                exact hG1 Hs7 H7 s7 sy7.sub
              · rintro j x7 H7 H8 hj ⟨Hs7, ρ7, h7, acc7, accd7, T7, P7, s7, pp7, sy7, b1, b2, b3, b4, b5, r7⟩ y7
                obtain ⟨Hs8, d8, gr8, hd8, rx8⟩ := hY1 j Hs7 H7 x7 H8 hj s7 sy7.sub y7
                obtain ⟨sy8, t8⟩ := sy7.grow gr8
                have gn8 := gr8.none sy7.sub (a := D0) (by rw [b1]; simp)
                have es8 : zs.drop j = d8 :: zs.drop (j + 1) := by
                  obtain ⟨hl, rfl⟩ := List.getElem?_eq_some_iff.mp hd8
                  exact List.drop_eq_getElem_cons hl
                rw [es8] at r7
                simp only [lcN] at r7
                have er8 : EnvR D.T Hs8 ρ7 (L2.wipe σ4 own2) (wipeE own2 e2) := (((er6.mono s7 pp7).mono t8.mono Pre.refl).wipe own2)
                cases qg8 : g2 d8 (wipeE own2 e2) h7 with
                | none => simp only [qg8] at r7; exact r7.elim
                | some e8 =>
                  simp only [qg8] at r7
                  refine ⟨Hs8, ρ7, h7, wipeE own2 e2, d8, sy8, er8, rx8.mono (Same.refl _) pp7, e8, qg8, fun σ9 er9 hl9 hσ9 => ?_⟩
                  rw [wipe_length] at hl9
                  refine ⟨wipe_eq hl9 fun i hi => hσ9 i fun z => hi (hts2 i z), ?_⟩
                  rw [sure_bind] at r7
                  have n8 : Hs8 D0 = none := gn8.1.trans b2
                  have h8 : H8 D0 = some (.lst acc7) := gn8.2.trans b1
                  refine ⟨Hs8, ρ7, h7, e8, sy8, er9, Post.sure r7 fun b h10 H10 Hs10 ρ10 t10 p10 sy10 q10 => ?_⟩
                  have t810 := t8.trans t10
                  obtain ⟨c1, c2', c3⟩ := keepD h8 n8 b3 t10
                  cases b with
                  | false =>
                    rw [if_neg Bool.false_ne_true] at q10
                    exact iteF ⟨Hs10, ρ10, h10, acc7, accd7, T7.trans t810, P7.trans p10, s7.trans t810.mono, pp7.trans p10, sy10, c1, c2', c3, Paired.imp b4 fun v b r => hmono _ _ _ _ v b t810.mono p10 r, b5, q10⟩
                  | true =>
                    rw [if_pos rfl, sure_bind] at q10
                    refine iteT (he σ9 H10 _ ⟨Hs10, ρ10, h10, e8, sy10, er9.mono t10.mono p10, Post.sure q10 fun y h11 H11 Hs11 ρ11 t11 p11 sy11 q11 v rv => ?_⟩)
                    have t1011 := t10.trans t11
                    have t811 := t8.trans t1011
                    obtain ⟨c1, c2', c3⟩ := keepD h8 n8 b3 t1011
                    have eq : ∀ {o : R (List β)} {u : Hm → R (List β)}, (o.bind fun ys h4 => R.ok (y :: ys) h4).bind (fun ys h => (u h).bind fun us h => if (accd7 ++ (ys ++ us)).length ≤ LIM then F (accd7 ++ (ys ++ us)) h else .stuck) = o.bind fun ys h => (u h).bind fun us h => if (accd7 ++ [y] ++ (ys ++ us)).length ≤ LIM then F (accd7 ++ [y] ++ (ys ++ us)) h else .stuck := fun {o u} => by
                      cases o <;> simp [R.bind]
                    rw [eq] at q11
                    have hb : (accd7 ++ [y]).length ≤ LIM := by
                      cases w11 : lcN g2 c2 eb (wipeE own2 e2) (zs.drop (j + 1)) h11 with
                      | stuck => rw [w11] at q11; exact q11.elim
                      | exc k ps h' => exact (lcN_ne _ _ _ _ _ w11).elim
                      | ok ys h12 =>
                        rw [w11] at q11
                        have e12 : ∀ us, accd7 ++ [y] ++ (ys ++ us) = (accd7 ++ [y] ++ ys) ++ us := fun us => by simp
                        replace q11 : PostV D Q Hs1 H1 ρ1 (lockH l h1) ((lcN2 g c own2 src2 g2 c2 eb (wipeE own env) (ds.drop (i + 1)) h12).bind fun us h => if (accd7 ++ [y] ++ (ys ++ us)).length ≤ LIM then F (accd7 ++ [y] ++ (ys ++ us)) h else .stuck) := q11
                        simp only [e12] at q11
                        have := Post.len (lcN2_ne _ _) q11
                        rw [List.length_append] at this
                        omega
                    have hl7 : acc7.length < sizeLine := by
                      rw [List.length_append] at hb
                      have := Paired.length b4
                      have hL : LIM = sizeLine := by rw [sizeLine_eq]; rfl
                      simp at hb
                      omega
                    refine ⟨acc7, c1, hl7, ?_⟩
                    refine ⟨Hs11, ρ11, h11, acc7 ++ [v], accd7 ++ [y], tr_other (T7.trans t811), P7.trans (p10.trans p11), s7.trans t811.mono, pp7.trans (p10.trans p11), sy11.other (.lst c1) c2' c3, upd_same, c2', c3, Paired.append (Paired.imp b4 fun v b r => hmono _ _ _ _ v b t811.mono (p10.trans p11) r) (.cons rv .nil), ?_, q11⟩
                    rw [List.length_append] at hb ⊢
                    have := Paired.length b4
                    simp at hb ⊢
                    omega
              · rintro H7 ⟨Hs7, ρ7, h7, acc7, accd7, T7, P7, s7, pp7, sy7, b1, b2, b3, b4, b5, r7⟩
                rw [List.drop_length] at r7
                exact ⟨Hs7, ρ7, h7, acc7, accd7, T7, P7, sy7, b1, b2, b3, b4, b5, r7⟩
    · rintro H2 ⟨Hs2, ρ2, h2, acc, accd, t2, p2, sy2, a1, a2, a3, a4, a5, q2⟩
      rw [List.drop_length] at q2
      have q3 : PostV D Q Hs1 H1 ρ1 (lockH l h1) (if (accd ++ []).length ≤ LIM then F (accd ++ []) h2 else .stuck) := q2
      rw [List.append_nil] at q3
      have hl : accd.length ≤ LIM := by rw [← Paired.length a4]; exact a5
      rw [if_pos hl] at q3
      exact hF Hs1 H1 ρ1 _ Hs2 H2 ρ2 h2 acc accd D0 Q hD0 t2 p2 sy2 a1 a2 a3 a5 a4 q3
theorem sem_lc2 {src src2 : Src} (sk : SrcOk src) {g g2 : Vl → Env → Hm → Option Env} {c c2 : Env → Hm → R Bool} {e : Env → Hm → R Vl} {own own2 ts ts2 : List Nat} (hts : ∀ i ∈ ts, i ∈ own) (hts2 : ∀ i ∈ ts2, i ∈ own2) :
    ∀ σ H Q, semE D (lc2V own own2 src g c src2 g2 c2 e) σ H Q → tLc2 (semI D src) (semG D.blk ts g) (semT D.blk c) (semIF D.blk src2) (semG D.blk ts2 g2) (semT D.blk c2) (semE D.blk e) own own2 σ H Q :=
  sem_lc2G sk hts hts2 (fun ys h => .ok (.fz (.lst ys)) h) (ok := fun Hs ρ v d => RepV D.T Hs v d) (fun _ _ _ _ v b s _ r => r.mono s)
    (fun σ H Q z => by
      obtain ⟨Hs, ρ, h, env, sy, er, p⟩ := z
      refine ⟨Hs, ρ, h, env, sy, er, Post.bind (f := HV.frz) p fun a h1 H1 Hs1 ρ1 t1 p1 sy1 q1 v rv => ?_⟩
      obtain ⟨Hs2, h2, d, _, _, r2, q2⟩ := Post.frz (D := D.blk) sy1 rv q1
      exact q2 v r2)
    (fun Hs1 H1 ρ1 h1 Hs H ρ h acc ys D0 Q hD0 t p sy a1 a2 a3 a4 a5 q => by
      have sb : Same Hs (upd Hs D0 (.lst acc)) := fun b w z => by rw [upd_ne (ne_of_none z a2)]; exact z
      have r5 := RepVs.ofP a5
      refine q H (upd Hs D0 (.lst acc)) ρ ⟨t.mono.trans sb, t.keep, t.there, fun b w z => ?_, t.newO⟩ p (sy.tell a1 a2 a3) (.ref D0) (RepV.lst upd_same (by rw [← r5.length]; exact a4) (r5.mono sb))
      by_cases e : b = D0
      · subst e
        refine .inr ⟨?_, .inr (nu_none hD0)⟩
        cases u : Hs1 b with
        | none => rfl
        | some o => rw [t.mono b o u] at a2; cases a2
      · rw [upd_ne e] at z; exact t.new b w z)
theorem sem_nlc2 {src src2 : Src} (sk : SrcOk src) {g g2 : Vl → Env → Hm → Option Env} {c c2 : Env → Hm → R Bool} {e : Env → Hm → R Vl} {own own2 ts ts2 : List Nat} (hts : ∀ i ∈ ts, i ∈ own) (hts2 : ∀ i ∈ ts2, i ∈ own2) :
    ∀ σ H Q, semE D (nlc2V own own2 src g c src2 g2 c2 e) σ H Q → tLc2 (semI D src) (semG D.blk ts g) (semT D.blk c) (semIF D.blk src2) (semG D.blk ts2 g2) (semT D.blk c2) (semE D.blk e) own own2 σ H Q :=
  sem_lc2G sk hts hts2 (fun ys h => newL ys h) (ok := fun Hs ρ v d => VlR D.T Hs ρ v d) (fun _ _ _ _ v b s p r => r.mono s p)
    (fun σ H Q z => z)
    (fun Hs1 H1 ρ1 h1 Hs H ρ h acc ys D0 Q hD0 t p sy a1 a2 a3 a4 a5 q => by
      have s2 := sy.take_in (o := .lst ys) a2 a3 ⟨acc, a1, by rw [← Paired.length a5]; exact a4, Paired.imp a5 fun _ _ r => r.mono (Same.refl _) Pre.app⟩
      refine q H Hs (ρ ++ [D0]) ⟨t.mono, t.keep, t.there, t.new, fun b z => ?_⟩ (p.trans Pre.app) s2 (.ref D0) ⟨D0, by rw [← sy.len]; simp, rfl⟩
      rcases im_app sy.len z with z | ⟨rfl, _⟩
      · exact t.newO b z
      · exact .inr (nu_none hD0))
end
end HV

end

section
/-! V8g: str of a number, sum, abs, max and min of two; x += e. -/
namespace HV
open PySem PySem.Spec PyProof.Rows L2
section
variable {D : Wd} {T : Tb} {Hs H Hs' H' : Hp} {ρ ρ' : List Addr} {h h' : Hm} {σ : L2.St} {env : Env} {X : Cx} {e o a b c : Expr} {es rest : List Expr} {apos cpos pos pos' p p2 : Pos}
theorem tx_strI (i : Int) : tx (strI i) = Str.ofString (toString i) := by rw [Str.ofString_eq_toList]; rfl
theorem str_ok : VA1 T (fun x H Q => ∃ i, [x] = [V.int i] ∧ i.natAbs.log2 < 1920 ∧ Q (.str (toString i)) H) strV := by
  intro x d1 d Hx H Q s r e k
  cases r with
  | int i =>
    simp only [strV] at e
    split at e
    · rename_i hz
      cases e
      refine ⟨i, rfl, hz.1, ?_⟩
      have := k (.str (tx (strI i))) fun Hs => .str _ ⟨by rw [sizeLine_eq]; omega, fun c hc => by
        obtain ⟨ch, _, rfl⟩ := List.mem_map.mp hc
        have := ch.valid
        unfold UInt32.isValidChar Nat.isValidChar at this
        show ch.val.toNat < _
        omega⟩
      rw [tx_strI] at this
      exact this
    · cases e
  | _ => cases e
theorem ev_str {f : Env → Hm → R Vl} (hg : Gl X "str") (hm : X.mg "str" = none) (ha : PE X a (semE D f)) (hs : argX a = true) : PE X (.Call (.Name "str" p) [a] [] pos) (semE D (op1 f (opA1 strV))) :=
  ev_t1 call_str_int (kv_A1 str_ok) hg hm (by decide +kernel) (by decide) (by decide) ha hs
theorem abs_ok : VA1 T (fun x H Q => ∃ i, [x] = [V.int i] ∧ Q (.int (if i < 0 then -i else i)) H) absV := by
  intro x d1 d Hx H Q s r e k
  cases r with
  | int i => cases e; exact ⟨i, rfl, k _ fun Hs => .int _⟩
  | _ => cases e
theorem ev_abs {f : Env → Hm → R Vl} (hg : Gl X "abs") (hm : X.mg "abs" = none) (ha : PE X a (semE D f)) (hs : argX a = true) : PE X (.Call (.Name "abs" p) [a] [] pos) (semE D (op1 f (opA1 absV))) :=
  ev_b1 call_abs (kv_A1 abs_ok) hg hm (by decide +kernel) (by decide) (by decide) ha hs
theorem call_sumV (hc : X.calm = true) (hK : T.K = X.K) : CallR X (.builtin "sum") (rA1 T sumV) := by
  refine CallR.imp (cr_sum hc) fun xs H Q z => ?_
  obtain ⟨x, Hx, d1, d, rfl, s, r, e, k⟩ := z
  cases r with
  | lst h z r =>
    rename_i a xs ds
    simp only [sumV] at e
    cases w : intsV ds with
    | none => rw [w] at e; cases e
    | some is =>
      rw [w] at e
      cases e
      have := ints_rep r w
      subst this
      exact ⟨a, is, rfl, SqL.of (s _ _ h), k _ fun Hs => .int _⟩
  | _ => cases e
theorem ev_sum (hK : D.T.K = X.K) (hc : X.calm = true) {f : Env → Hm → R Vl} (hg : Gl X "sum") (hm : X.mg "sum" = none) (ha : PE X a (semE D f)) (hs : argX a = true) : PE X (.Call (.Name "sum" p) [a] [] pos) (semE D (op1 f (opA1 sumV))) :=
  ev_b1 (call_sumV hc hK) (kv_A1 (va_rA1 sumV)) hg hm (by decide +kernel) (by decide) (by decide) ha hs
theorem max2_ok : VA2 T (fun x y H Q => ∃ i j, [x, y] = [V.int i, V.int j] ∧ Q (.int (if j > i then j else i)) H) max2V := by
  intro x y d1 d2 d Hx Hy H Q s1 s2 r1 r2 e k
  cases r1 with
  | int i =>
    cases r2 with
    | int j => cases e; exact ⟨i, j, rfl, k _ fun Hs => .int _⟩
    | _ => cases e
  | _ => cases e
theorem min2_ok : VA2 T (fun x y H Q => ∃ i j, [x, y] = [V.int i, V.int j] ∧ Q (.int (if j < i then j else i)) H) min2V := by
  intro x y d1 d2 d Hx Hy H Q s1 s2 r1 r2 e k
  cases r1 with
  | int i =>
    cases r2 with
    | int j => cases e; exact ⟨i, j, rfl, k _ fun Hs => .int _⟩
    | _ => cases e
  | _ => cases e
theorem ev_max2 (hc : X.calm = true) {f g : Env → Hm → R Vl} (hg : Gl X "max") (hm : X.mg "max" = none) (ha : PE X a (semE D f)) (hb : PE X b (semE D g)) (hs : argX a = true) (hs2 : argX b = true) : PE X (.Call (.Name "max" p) [a, b] [] pos) (semE D (op2 f g (opA max2V))) :=
  ev_b2 (call_max2 hc) (kv_A max2_ok) hg hm (by decide +kernel) (by decide) (by decide) ha hb hs hs2
theorem ev_min2 (hc : X.calm = true) {f g : Env → Hm → R Vl} (hg : Gl X "min") (hm : X.mg "min" = none) (ha : PE X a (semE D f)) (hb : PE X b (semE D g)) (hs : argX a = true) (hs2 : argX b = true) : PE X (.Call (.Name "min" p) [a, b] [] pos) (semE D (op2 f g (opA min2V))) :=
  ev_b2 (call_min2 hc) (kv_A min2_ok) hg hm (by decide +kernel) (by decide) (by decide) ha hb hs hs2
/-! ### x += e -/
def augOf : Nat → Operator
  | 0 => .Add
  | _ => .Sub
def ipA (k : Nat) : TIp := ipI fun i j => if k = 0 then i + j else i - j
theorem ip_aug {k : Nat} (hk : k < 2) : PIp X (augOf k) (ipA k) := by
  match k, hk with
  | 0, _ => exact ip_add
  | 1, _ => exact ip_sub
theorem augV_ok {k : Nat} {x y : V} {dx dy z : Vl} {Q : VK} (rx : VlR T Hs ρ x dx) (ry : VlR T Hs ρ y dy) (e : augV k dx dy = some z) (q : ∀ v, VlR T Hs ρ v z → Q v H) : ipA k x y H Q := by
  match dx, dy, e with
  | .fz (.int i), .fz (.int j), e =>
    replace rx : RepV T Hs x (.int i) := rx
    replace ry : RepV T Hs y (.int j) := ry
    cases rx
    cases ry
    simp only [augV] at e
    refine ⟨i, j, rfl, rfl, ?_⟩
    by_cases h0 : k = 0
    · rw [if_pos h0] at e
      cases e
      have := q (.int (i + j)) (RepV.int _)
      simpa [h0] using this
    · rw [if_neg h0] at e
      by_cases h1 : k = 1
      · rw [if_pos h1] at e
        cases e
        have := q (.int (i - j)) (RepV.int _)
        simpa [h0] using this
      · rw [if_neg h1] at e; cases e
theorem s_aug {i k : Nat} {x : Str} {op : Operator} {f : Env → Hm → R Vl} (hk : k < 2) (hN : X.N.Nodup) (hi : X.N[i]? = some x) (hx : Loc X.env.scope x) (he : PE X e (semE D f)) (hf : X.fn x = true ∨ X.env.scope.names.lookup x = some .local) : PS X (.AugAssign (.Name x pos') (augOf k) e pos) (semS D (augE i k f)) := by
  refine PS.imp (ps_aug hN hi hx he (ip_aug hk) hf) fun En σ H z => ?_
  obtain ⟨Hs, ρ, h, env, sy, er, p⟩ := z
  unfold augE at p
  cases w : env[i]? with
  | none => rw [w] at p; exact p.elim
  | some o =>
    cases o with
    | none => rw [w] at p; exact p.elim
    | some dx =>
      rw [w] at p
      dsimp only at p
      obtain ⟨u, g1, g2⟩ := er.2 i dx w
      refine ⟨u, g1, Hs, ρ, h, env, sy, er, Post.bindS p fun dy h1 H1 Hs1 ρ1 t1 p1 sy1 q1 v rv => ?_⟩
      cases w2 : augV k dx dy with
      | none => rw [w2] at q1; exact q1.elim
      | some z =>
        rw [w2] at q1
        refine augV_ok (g2.mono t1.mono p1) rv w2 fun v' rv' => ?_
        unfold setE at q1
        by_cases hl : i < env.length
        · simp only [if_pos hl] at q1
          exact q1 (σ.set i (some v')) H1 Hs1 ρ1 Tr.refl Pre.refl sy1 ((er.mono t1.mono p1).set hl rv')
        · simp only [if_neg hl] at q1; exact q1.elim
end
end HV

end

section
/-! Vx: the __init__ of an own exception class over ValueError: super().__init__('..'), then self.f = x. -/
namespace HV
open PySem PySem.Spec PyProof.Rows L2
/-- the names of such a def -/
structure IniSc (scope : Scope) (me x : Str) : Prop where
  kind : scope.kind = .function
  co : scope.isCoroutine = false
  gen : scope.isGenerator = false
  nocell : ∀ y ∈ scope.names, y.2 ≠ .cell
  free : ∀ y ∈ scope.names, y.2 = .free → y.1 = "__class__"
  sl : scope.names.lookup me = some .local
  xl : scope.names.lookup x = some .local
  sup : scope.names.lookup ("super" : Str) = some .globalImplicit
  cls : scope.names.lookup ("__class__" : Str) = some .free
  ne : me ≠ x
def iniCx (CX : CXT) (P : Program) (w : World) (K : PySem.W.Frag) (mg : Str → Option Value) (base : Heap) (N : List Str) (qual : Str) (scope : Scope) (f : Addr) (cdv : Value) (cc : Addr) (A : Around) (outer : List PySem.Env) (s : Shared) (H : Hp) (E : XK) : Cx where
  prog := P
  w := w
  K := K
  mg := mg
  base := base
  A := A.deeper (PySem.W.ksEnv qual scope s.heap.objs.size f cdv cc)
  N := N
  s_0 := s
  H_0 := H
  env := PySem.W.ksEnv qual scope s.heap.objs.size f cdv cc
  outer := outer
  stack := PySem.W.ksEnv qual scope s.heap.objs.size f cdv cc :: outer
  ex := []
  fn := fun _ => false
  calm := true
  pn := []
  xe := fun e t => wpAny (model P w) (A.deeper (PySem.W.ksEnv qual scope s.heap.objs.size f cdv cc)) (leaving (PySem.W.ksEnv qual scope s.heap.objs.size f cdv cc) e) (fun _ t2 => CX outer H s E e t2) (fun e2 t2 => CX outer H s E e2 t2) t
section
variable {CX : CXT} {P : Program} {w : World} {K : PySem.W.Frag} {mg : Str → Option Value} {base : Heap} {qual me x : Str} {scope : Scope} {f cc D a : Addr} {cdv : Value} {A : Around} {outer : List PySem.Env} {s : Shared} {H : Hp} {E : XK}
theorem ini_start {u : Value} {v : V} {h1 : Heap} {tk : Nat} {cl : Value} {cld : Option Addr} {csl : Array (Option Value)} (S : IniSc scope me x) (hd : A.handled = none) (e0 : Env0 P w K mg base A outer s H)
    (hc : K.lookup cc = some ⟨cl, cld, .cell (some (.ref D)), csl⟩) (rv : RelV v u) (ns : h1.Ns s.heap.objs.size fun y => ([me, x].zip [Value.ref a, u]).reverse.lookup y) (kp : ∀ b o, s.heap.get? b = some o → h1.get? b = some o) :
    Inv (iniCx CX P w K mg base [me, x] qual scope f cdv cc A outer s H E) [] [some (.ref a), some v] H { s with heap := h1, toks := tk } := by
  have inB : base.get? cc = some ⟨cl, cld, .cell (some (.ref D)), csl⟩ := e0.mod.kin _ _ hc
  have only : ∀ {y : Str} {c : Addr}, List.lookup y [(("__class__" : Str), cc)] = some c → y = "__class__" ∧ c = cc := fun {y c} e => by
    rw [List.lookup_cons] at e
    cases q : (y == ("__class__" : Str)) with
    | true => rw [q] at e; cases e; exact ⟨beq_iff_eq.mp q, rfl⟩
    | false => rw [q] at e; cases e
  have noA : ∀ b : Addr, b ∉ ([] : List Addr) := fun b z => by cases z
  refine ⟨⟨e0.mod, S.kind, rfl, rfl, Nat.le_refl _, fun y z c p q => (only p).1.trans (only q).1.symm, fun y hy => ?_, fun y c z _ => ?_, fun _ => hd, Around.frames_deeper e0.frames, .inr ⟨rfl, rfl⟩, fun b z => absurd z (noA b), e0.bs, e0.bsz, fun b _ _ => noA b,
      fun b z => absurd z (noA b), e0.funs, e0.frf⟩, rfl, e0.bare, Un.kept kp, ⟨_, ns, fun i y z p q _ => ?_⟩, fun y c e => ?_, e0.hok.fresh (Nat.le_refl _), fun y c e => ?_, fun p hp => absurd (show p ∈ ([] : List (Addr × Obj)) from hp) (by simp), e0.hok.kept kp, rfl⟩
  · replace hy : scope.names.lookup y = some .cell ∨ scope.names.lookup y = some .free := hy
    rcases hy with hy | hy
    · exact absurd rfl (S.nocell _ (PySem.mem_of_lookup hy))
    · have ey : y = "__class__" := S.free _ (PySem.mem_of_lookup hy) rfl
      subst ey
      exact ⟨cc, rfl⟩
  · cases (show false = true from z)
  · match i, p, q with
    | 0, p, q =>
      cases p; cases q
      refine ⟨.ref a, rfl, .inl ⟨S.sl, ?_⟩⟩
      show List.lookup me [(x, u), (me, Value.ref a)] = _
      rw [List.lookup_cons, show (me == x) = false from beq_eq_false_iff_ne.mpr S.ne, List.lookup_cons, beq_self_eq_true]
    | 1, p, q =>
      cases p; cases q
      refine ⟨u, rv, .inl ⟨S.xl, ?_⟩⟩
      show List.lookup x [(x, u), (me, Value.ref a)] = _
      rw [List.lookup_cons, beq_self_eq_true]
    | i + 2, p, q => simp [iniCx] at p
  · obtain ⟨_, rfl⟩ := only e
    exact ⟨_, _, kp _ _ (e0.bs _ _ inB).1, rfl⟩
  · obtain ⟨_, rfl⟩ := only e
    exact (e0.bs _ _ inB).2
end
section
variable {X : Cx} {pins : List (Addr × Obj)} {σ : L2.St} {H : Hp} {s : Shared} {a C u : Addr} {A : Around} {E : Value → Shared → Prop}
/-- the bound ValueError.__init__ of the exception at a, called -/
theorem mw_call {us : List Value} {Q : Value → Shared → Prop} (T : OexC X.K C) (I : Inv X pins σ H s) (e : H a = some (exo a C none)) (hu : s.heap.get? u = some (PySem.W.kxs_mw "ValueError.__init__" a)) (hl : us.length ≤ sizeLine)
    (k : ∀ t, Inv X pins σ H t → Q .none t) : wpAny (model X.prog X.w) A (call (.ref u) us) Q E s := by
  obtain ⟨nm, q, N, bs, bm, sn, sub, ab, col, dd, k0, k1, k2, k3, k5, hC, hbm⟩ := T.cls
  obtain ⟨t1, ho⟩ := exo_at I.hok e
  obtain ⟨hp, g, d, t, os⟩ := s
  have done : ∀ h2 : Heap, (∀ b o, b ≠ a → hp.get? b = some o → h2.get? b = some o) →
      h2.get? a = some (PySem.W.excRec (.ref C) hp.objs.size none .none .none (.bool false)) → Q .none ⟨h2, g, d, t, os⟩ := fun h2 k2 hx => by
    have J := I.write (t' := t) (x := a) (e := a) (o := exo a C none) (by rw [e]; trivial) (.inl rfl) k2 ⟨_, hx⟩ (exo_ok hx)
    have same : upd H a (exo a C none) = H := funext fun b => by
      by_cases z : b = a
      · subst z; rw [upd_same, e]
      · rw [upd_ne z]
    rw [same] at J
    exact k _ J
  refine wpAny_call (codeAny_of_tree ?_)
  show wpAny _ A.in1 (callAny (Value.ref u) { pos := us, kw := [] }) _ _ _
  simp only [callAny]
  refine wpAny_bind (wpAny_load hu ?_)
  simp only [PySem.W.kxs_mw]
  refine PySem.W.KFB.if_so (by decide) ?_
  refine wpAny_bind (PySem.W.check_bound_init (F.excBase_ValueError).toExcCallFacts (I.kIn _ _ hC) ho rfl ?_)
  refine wpAny_bind (wpAny_pure (wpAny_pure ⟨plainId_quiet (F.excBase_ValueError).init.plain _, codeAny_builtin (F.excBase_ValueError).initEntry ?_⟩))
  exact PySem.W.exc_init_tree (cls := Value.ref C) (t0 := t1) (dv := none) (c2 := .none) (c3 := .none) (b4 := .bool false) ho hl fun h2 k2 hx _ => done h2 k2 hx
end
theorem ev_super (env : PySem.Env) (m : Str) (j : Nat) (p0 p1 p2 p3 p4 : Pos) (hl : (p2.endLine == p4.line) = true) : ∃ pl : Sem Bool, eval (.Call (.Attribute (.Call (.Name "super" p0) [] [] p1) "__init__" p2) [.Constant (.str m) j p3] [] p4) env = (do
      let ov ← attributeBase (.Call (.Name "super" p0) [] [] p1) "__init__" env (eval (.Call (.Name "super" p0) [] [] p1) env)
      standAt p2.atName
      let (f, first) ← holding [ov] (getMethod ov "__init__" pl)
      callWith p4 f first (backTo p4 (starEach [.Constant (.str m) j p3] env)) []) := by
  have e : ∀ few, methodCallPos few (.Call (.Name "super" p0) [] [] p1) env p2 p4 = pure p4 := fun few => by unfold methodCallPos; simp [hl]
  refine ⟨?_, ?_⟩
  rotate_left
  · rw [arm_eval_Call]
    unfold methodCall
    simp only [e, pure_bind]
    rfl
/-- what such an __init__ does: me the new exception, v the thing -/
def spI (K : PySem.W.Frag) (C : Addr) (fl : Str) : Sp := fun vs H Q _ => ∃ (a : Addr) (v : V), vs = [.ref a, v] ∧ H a = some (exo a C none) ∧
  ∀ dx, H dx = none → dx ≠ a → Q .non (upd (upd H dx (exd dx [(fl, v)])) a (exo a C (some dx)))
abbrev iniB (me x fl m : Str) (j : Nat) (p0 p1 p2 p3 p4 p5 p6 p7 p8 p9 : Pos) : List Stmt :=
  [.Expr (.Call (.Attribute (.Call (.Name "super" p0) [] [] p1) "__init__" p2) [.Constant (.str m) j p3] [] p4) p5, .Assign [.Attribute (.Name me p6) fl p7] (.Name x p8) p9]
/-- what the written part says of the class and its __init__ -/
structure IniK (P : Program) (K : PySem.W.Frag) (C f : Addr) (fd : FuncData) (fl : Str) (ps : List Str) : Prop where
  T : OexC K C
  no : PySem.W.findIn K (.ref C) fl = some none
  mr : PySem.W.mroIn K C (.ref C) = some true
  si : PySem.W.ks_superIn K C C "__init__" = some (some (.builtin "ValueError.__init__"))
  st : PySem.W.nsIn K cStatics "thirdparty.any" = some none
  ve : PySem.W.subIn K (.ref C) (.type "ValueError") = some true
  fn : ∃ (me x m name qual : Str) (j : Nat) (p0 p1 p2 p3 p4 p5 p6 p7 p8 p9 : Pos) (params : Arguments) (scope : Scope) (ar : Arg) (dV kV doc pm ct oc cl ccl : Value) (an od cld cdd : Option Addr) (osl csl ccs : Array (Option Value)) (cc cda : Addr) (vs : Array Value) (file : Str) (tf : Tok),
    ps = [me, x] ∧ fd = PySem.W.ksFn name qual params (iniB me x fl m j p0 p1 p2 p3 p4 p5 p6 p7 p8 p9) scope dV kV doc pm an (.ref cda) ct cc ∧ K.lookup f = some ⟨oc, od, .func fd, osl⟩ ∧ PySem.W.codeIn K (.ref cda) qual = true ∧ IniSc scope me x ∧
    (params.posonlyargs ++ params.args).head? = some ar ∧ ar.arg = me ∧ K.lookup cda = some ⟨ccl, cdd, .fields vs, ccs⟩ ∧ vs[2]? = some (.str file tf) ∧ ((P.main.file : Str) == file) = true ∧ (P.main.scope.names.lookup ("super" : Str)).isSome = false ∧
    K.lookup cc = some ⟨cl, cld, .cell (some (.ref C)), csl⟩ ∧ (me == ("__debug__" : Str)) = false ∧ (me == ("__classdict__" : Str)) = false ∧ (x == ("__debug__" : Str)) = false ∧ (x == ("__classdict__" : Str)) = false ∧ (p2.endLine == p4.line) = true
section
variable {CX : CXT} {P : Program} {w : World} {K : PySem.W.Frag} {mg : Str → Option Value} {base : Heap}
theorem ini_ok {C f : Addr} {fd : FuncData} {fl : Str} {ps : List Str} (I0 : IniK P K C f fd fl ps) (hsup : mg "super" = none) :
    FnOk P w K mg base CX 1 f fd ps (spI K C fl) := by
  obtain ⟨T, hno, hmr, hsi, hst, hve, me, x, m, name, qual, j, p0, p1, p2, p3, p4, p5, p6, p7, p8, p9, params, scope, ar, dV, kV, doc, pm, ct, oc, cl, ccl, an, od, cld, cdd, osl, csl, ccs, cc, cda, vs, file, tf, eps, efd, lk, hcd, S, hp, har, hcode, hvs, hfile, htop, hcell, hd1, hd2, hd3, hd4, hli⟩ := I0
  subst eps
  subst efd
  refine ⟨fun vs H Q E ⟨a, v, e, _⟩ => by subst e; rfl, fun A outer s H args us vv Q E hr e0 hb hv hs => ?_⟩
  obtain ⟨a, v, rfl, ha, q⟩ := hs
  cases hv with
  | cons ra rr =>
    cases rr with
    | cons rv rn =>
      cases rn
      rename_i u0 u
      obtain rfl : u0 = Value.ref a := ra
      have KX : K.In s.heap := e0.mod.kin.keeps fun b o e => (e0.bs b o e).1
      have lim : s.heap.NoLimit := e0.mod.nolimit.keeps fun b o e => (e0.bs b o e).1
      refine ks_codeAny_call_defAt (binds := [me, x].zip [Value.ref a, u]) hr.depth (KX _ _ lk) rfl lim (PySem.W.codeRec_of KX hcd) rfl hb S.nocell (fun y hy => ?_) (fun h1 ns kp => ?_) S.co S.gen S.kind
      · rcases List.mem_cons.mp hy with rfl | hy
        · exact S.sl
        · rcases List.mem_cons.mp hy with rfl | hy
          · exact S.xl
          · cases hy
      · have I := ini_start (CX := CX) (qual := qual) (f := f) (cdv := .ref cda) (E := E) (tk := s.toks + ([me, x].zip [Value.ref a, u]).length) S hr.hd e0 hcell rv ns kp
        have KX1 : K.In h1 := I.kIn
        obtain ⟨cd, hcl, _⟩ := Option.bind_eq_some_iff.mp hmr
        obtain ⟨oC, hC, dC⟩ : ∃ oC, K.lookup C = some oC ∧ oC.data = .cls cd := by
          have z := hcl
          unfold PySem.W.clsIn at z
          split at z
          · rename_i lo
            cases z
            exact ⟨_, lo, rfl⟩
          · cases z
        obtain ⟨t1, hx⟩ := exo_at I.hok ha
        obtain ⟨hp0, g, d, t, os⟩ := s
        obtain ⟨mb, hb1, hb2⟩ := e0.mod.blt
        obtain ⟨pl, hev⟩ := ev_super (PySem.W.ksEnv qual scope hp0.objs.size f (.ref cda) cc) m j p0 p1 p2 p3 p4 hli
        refine ks_wpAt_execs_cons (ks_wpAt_Expr_any (ks_wpAt_MethodCall (ks_wpAt_super_base S.sup S.cls (by decide) rfl (KX1 _ _ lk) rfl hp rfl (KX1 _ _ hcode) rfl hvs hfile htop ?_) hev) I.quiet (by rfl))
        refine PySem.W.ks_loadName_global S.kind S.sup (Calls.loadGlobal_builtin (I.mod.glob.keeps I.bk) hsup (hb1.keeps I.bk) ((hb2 _ (by decide)).trans (show bootBuiltins "super" = some (Value.type "super") from by kernel_rfl)) ⟨rfl, ?_⟩)
        refine wpAny_loadName_free S.kind S.cls rfl ⟨_, KX1 _ _ hcell, rfl⟩ ?_
        rw [har]
        refine wpAny_loadName_local S.kind S.sl ns (v := .ref a) ?_ ?_
        · show List.lookup me [(x, u), (me, Value.ref a)] = _
          rw [List.lookup_cons, show (me == x) = false from beq_eq_false_iff_ne.mpr S.ne, List.lookup_cons, beq_self_eq_true]
        refine ks_wpAny_isType_cls (KX1 _ _ hC) dC ⟨rfl, ?_⟩
        refine ks_wpAny_call_super (KX1 _ _ hC) dC hx rfl (fun c e => by cases e) (PySem.W.looks_mroIn KX1 hmr) (fun h2 e2 k2 => ?_)
        have KX2 : K.In h2 := fun b o z => k2 _ _ (KX1 b o z)
        have ix : PySem.W.InstAt h2 a _ C none := ⟨k2 _ _ hx, rfl, rfl, trivial⟩
        have hsi2 := hsi
        unfold PySem.W.ks_superIn at hsi2
        rw [hcl] at hsi2
        refine PySem.W.kxs_getMethod PySem.W.kxs_ValueError e2 (PySem.W.looks_opaque KX2 hst) (l₀ := cd.mro) (fun A Q E s k q => wpAny_bind ((PySem.W.looks_clsIn KX2 hcl) A _ E s k (wpAny_pure q))) rfl KX2 hsi2 (ix.type.andThen (PySem.W.looks_subIn KX2 hve)) (PySem.W.ks_ne KX2 ix hcl) (by decide) ?_
        have kk : ∀ b o, h1.get? b = some o → (h2.push (PySem.W.kxs_mw "ValueError.__init__" a)).get? b = some o := fun b o z => Heap.get?_push_of_some _ (k2 b o z)
        have I2 := I.kept (t' := t + ([me, x].zip [Value.ref a, u]).length + 1) kk
        have lt2 : h1.objs.size ≤ h2.objs.size := Nat.le_of_lt (Heap.lt_size e2)
        have Ip : Inv (iniCx CX P w K mg base [me, x] qual scope f (.ref cda) cc A outer ⟨hp0, g, d, t, os⟩ H E) [(h2.objs.size, PySem.W.kxs_mw "ValueError.__init__" a)] [some (.ref a), some v] H ⟨h2.push (PySem.W.kxs_mw "ValueError.__init__" a), g, d, t + ([me, x].zip [Value.ref a, u]).length + 1, os⟩ :=
          I2.pins_of fun p hp => by
            have hp : p ∈ [(h2.objs.size, PySem.W.kxs_mw "ValueError.__init__" a)] := hp
            rw [List.mem_singleton] at hp
            subst hp
            obtain ⟨oL, _, _, hL, _⟩ := ns
            exact ⟨Heap.get?_push_size _ rfl, I.hok.fresh lt2, Nat.ne_of_gt (Nat.lt_of_lt_of_le (Heap.lt_size hL) lt2), I.nofs lt2, fun v z => by cases z⟩
        have ha1 : PA (iniCx CX P w K mg base [me, x] qual scope f (.ref cda) cc A outer ⟨hp0, g, d, t, os⟩ H E) [.Constant (.str m) j p3] (tCons (tC (.str m)) tNil) := pa_cons pe_str pa_nil
        refine PySem.W.kxs_callWith (i := "ValueError.__init__") (x := a) (by rfl) (Calls.evalArgs_plain (thn (ha1.run p4 _ _ _ H (fun vs H1 => vs = [V.str m] ∧ H1 = H) Ip ⟨rfl, rfl⟩) fun ws s4 hh => ?_))
        obtain ⟨vs4, H4, I4, r4, ev4, eH4⟩ := hh
        subst ev4 eH4
        have pn := (I4.pin _ (List.mem_append_right _ (List.mem_singleton.mpr rfl))).1
        refine ⟨pn, mw_call T I4 ha pn (by show ws.length ≤ sizeLine; rw [← r4.length, sizeLine_eq]; show 1 ≤ 16777216; omega) fun s5 J => ?_⟩
        refine wpAt_of_wpAny (wpAny_mono ((pss_one (ps_ost (pe_var (i := 0) (pos := p6) rfl (.inl S.sl) hd1 hd2) (pe_var (i := 1) (pos := p8) rfl (.inl S.xl) hd3 hd4) (pos := p9) (p' := p7) (f := fl))).run _ s5 _ _ ⟨fun _ H2 => Q .non H2, fun _ _ => False, fun _ _ => False, fun _ _ => False⟩ J ?_) (fun fw s6 hs => ?_) fun _ _ z => z)
        · exact ⟨v, rfl, .ref a, rfl, a, C, rfl, T, hno, .inl ⟨ha, fun dx n1 n2 => q dx n1 n2⟩⟩
        · cases fw with
          | next =>
            obtain ⟨σ6, H6, J6, q6⟩ := hs
            exact ⟨.non, H6, J6.os, J6.bare, J6.base, J6.hok, rfl, q6⟩
          | brk => obtain ⟨_, _, _, z⟩ := hs; exact z.elim
          | cont => obtain ⟨_, _, _, z⟩ := hs; exact z.elim
          | ret _ => obtain ⟨_, _, _, _, _, z⟩ := hs; exact z.elim
end
end HV

end

section
/-! Vy: raise; what a def catches of a lambda; freezing between statements. -/
namespace HV
open PySem PySem.Spec PyProof.Rows L2
def CXF : CXT := fun _ _ _ _ _ _ => False
/-- an exception class of the module and its __init__ -/
structure Xd (X : Cx) (T : Tb) (fld : Nat → Nat) (c : Nat) (x : Str) (C fI : Addr) (fd : FuncData) (ps : List Str) : Prop where
  xc : T.xcl c = some C
  mg : X.mg x = some (.ref C)
  T : OexC X.K C
  iC : PySem.W.findIn X.K (.ref C) "__init__" = some (some (.ref fI))
  tI : PySem.W.typeIn X.K (.ref fI) = some (.type "function")
  bd : Binds X.K fd ps []
  ok : FnOk X.prog X.w X.K X.mg X.base CXF 1 fI fd ps (spI X.K C (nmS (fld c)))
section
variable {D : Wd} {T : Tb} {Hs H Hs' H' : Hp} {ρ ρ' : List Addr} {h h' : Hm} {σ : L2.St} {env : Env} {X : Cx} {e : Expr} {pos p p2 : Pos} {En : Ends}
theorem s_rse {c : Nat} {f : Env → Hm → R Vl} {x : Str} {C fI : Addr} {fd : FuncData} {ps : List Str} (K : Xd X D.T D.fld c x C fI fd ps) (tk : Takes X fun c d _ H => D.E c d H) (hg : Gl X x) (hc : X.calm = true) (hr : Room 2 X.A) (he : PE X e (semE D f)) (ha : argX e = true)
    (hdb : (x == ("__debug__" : Str)) = false) : PS X (.Raise (some (.Call (.Name x p) [e] [] p2)) none pos) (semS D fun env h => (f env h).bindS fun v h => raiseS c v h) := by
  have M := pmk_oex (X := X) (CX := CXF) (p := p) (pos := p2) K.T K.iC K.tI K.ok hr K.bd .nil (fun _ _ _ _ _ _ _ z => z.elim) hg K.mg (pa_cons he pa_nil (star_of ha)) hdb (star_of ha) (by rfl)
  refine PS.imp (ps_raise hc tk M) fun En σ H z => ?_
  obtain ⟨Hs, ρ, h, env, sy, er, q⟩ := z
  refine ⟨Hs, ρ, h, env, sy, er, Post.bindS q fun v h1 H1 Hs1 ρ1 t1 p1 sy1 q1 u ru => ?_⟩
  unfold raiseS at q1
  cases w : HV.frz v h1 with
  | stuck => rw [w] at q1; exact q1.elim
  | exc c2 ps2 h2 => exact (frz_exc w).elim
  | ok d h2 =>
    rw [w] at q1
    obtain ⟨Hs2, ⟨s2, t2⟩, r2⟩ := frz_ok sy1 ru w
    show ([u] : List V).length ≤ 1000 ∧ _
    refine ⟨by simp, fun a na => ⟨a, u, rfl, upd_same, fun dx n1 n2 => ⟨rfl, dx, [(nmS (D.fld c), u)], upd_same, ?_, ?_, ?_⟩⟩⟩
    · rw [upd_ne n2, upd_same]
    · rw [upd_ne n2] at n1; exact n1
    · have n3 : H1 dx = none := by rw [upd_ne n2] at n1; exact n1
      have e1 : upd (del (upd (upd (upd H1 a (exo a C none)) dx (exd dx [(nmS (D.fld c), u)])) a (exo a C (some dx))) a) dx (.xd [(nmS (D.fld c), u)]) = upd H1 dx (.xd [(nmS (D.fld c), u)]) := funext fun b => by
        by_cases z : b = dx
        · subst z; rw [upd_same, upd_same]
        · rw [upd_ne z, upd_ne z]
          by_cases y : b = a
          · subst y; rw [del_same, na]
          · rw [del_ne y, upd_ne y, upd_ne z, upd_ne y]
      rw [e1]
      have nb := s2.nobody n3
      have s3 := s2.other (o := .xd [(nmS (D.fld c), u)]) (.none n3) nb.1 nb.2
      exact q1 _ Hs2 ρ1 C (some dx) (t2.trans (tr_new n3)) Pre.refl s3 ⟨K.xc, .inr ⟨d, dx, u, rfl, rfl, upd_same, r2⟩⟩
/-- between statements: what the name i stands for stays from now on -/
theorem ss_gfz {i : Nat} {rest : List Stmt} {g : Env → Hm → SO} (hr : PSs X rest (semS D g)) : PSs X rest (semS D fun env h => (gfzE i env h).bind g) := by
  refine PSs.imp hr fun En σ H z => ?_
  obtain ⟨Hs, ρ, h, env, sy, er, q⟩ := z
  dsimp only at q
  unfold gfzE at q
  cases w : env[i]? with
  | none => rw [w] at q; exact q.elim
  | some o =>
    cases o with
    | none => rw [w] at q; exact q.elim
    | some v =>
      rw [w] at q
      dsimp only at q
      obtain ⟨u, e1, ru⟩ := er.2 i v w
      cases w2 : HV.frz v h with
      | stuck => rw [w2] at q; exact q.elim
      | exc c2 ps2 h2 => exact (frz_exc w2).elim
      | ok d h2 =>
        rw [w2] at q
        obtain ⟨Hs2, ⟨s2, t2⟩, r2⟩ := frz_ok sy ru w2
        have hi : i < env.length := (List.getElem?_eq_some_iff.mp w).1
        have q : PostS D En Hs H ρ h ((setE i (.fz d) env h2).bind g) := q
        unfold setE at q
        rw [if_pos hi] at q
        have es : σ.set i (some u) = σ := by
          obtain ⟨l, e2⟩ := List.getElem?_eq_some_iff.mp e1
          rw [← e2, List.set_getElem_self]
        refine ⟨Hs2, ρ, h2, env.set i (some (.fz d)), s2, ?_, PostS.back t2 Pre.refl q⟩
        have := (er.mono t2.mono Pre.refl).set (u := u) (v := .fz d) hi r2
        rw [es] at this
        exact this
end
end HV

end

section
/-! Vw: try with several clauses, with names and without. -/
namespace HV
open PySem PySem.Spec PyProof.Rows L2
abbrev Su := Addr → Value → Option Addr → TS
/-- the ends of a suite whose name goes -/
def Ends.off (D : Ends) (i : Nat) : Ends := { nx := fun σ H => D.nx (σ.set i none) H, rt := D.rt, bk := fun σ H => D.bk (σ.set i none) H, ct := fun σ H => D.ct (σ.set i none) H }
/-- what the clauses wish -/
def wHs (K : PySem.W.Frag) (Wo : WX) (D : Ends) : List (Value × Option Nat × Su) → WX
  | [] => Wo
  | (c, none, ts) :: l => fun cls d σ H => ∃ b, PySem.W.exmOne K cls c = some b ∧ (b = true → ∀ a, H a = none → ts a cls d D σ H) ∧ (b = false → wHs K Wo D l cls d σ H)
  | (c, some i, ts) :: l => fun cls d σ H => ∃ b, PySem.W.exmOne K cls c = some b ∧ (b = true → ∀ a, H a = none → ts a cls d (Ends.off D i) (σ.set i (some (.ref a))) H) ∧ (b = false → wHs K Wo D l cls d σ H)
/-- a suite is right in the air of its exception -/
def SuOk (X : Cx) (b : List Stmt) (ts : Su) : Prop := ∀ (a : Addr) (oe : Obj) (cls : Value) (d : Option Addr) (pn : List (Addr × Obj)), Zc cls d oe → (∃ vs, oe.data = .fields vs) → PSs (X.suite a ((a, oe) :: pn)) b (ts a cls d)
inductive HkOk (X : Cx) : List ExceptHandler → List (Value × Option Nat × Su) → Prop
  | nil : HkOk X [] []
  | bare {x : Str} {c : Value} {ts : Su} {b : Stmt} {su : List Stmt} {np p : Pos} {hds : List ExceptHandler} {l : List (Value × Option Nat × Su)} : Names X x c → SuOk X (b :: su) ts → HkOk X hds l → HkOk X (.ExceptHandler (some (.Name x np)) none (b :: su) p :: hds) ((c, none, ts) :: l)
  | named {x n : Str} {i : Nat} {c : Value} {ts : Su} {b : Stmt} {su : List Stmt} {np p : Pos} {hds : List ExceptHandler} {l : List (Value × Option Nat × Su)} : Names X x c → X.N[i]? = some n → X.env.kindOf n = some .local → SuOk X (b :: su) ts → HkOk X hds l →
      HkOk X (.ExceptHandler (some (.Name x np)) (some n) (b :: su) p :: hds) ((c, some i, ts) :: l)
section
variable {X : Cx} {body : List Stmt} {h0 : ExceptHandler} {hds : List ExceptHandler} {l : List (Value × Option Nat × Su)} {pos : Pos} {tb : WX → TS} {Wo : WX} {pins : List (Addr × Obj)} {D : Ends}
/-- the frame's own clauses tried at an exception that is on the ground -/
theorem by_clauses {B : Heap} {a : Addr} {cls : Value} {d : Option Addr} {s sI : Shared} {h3 : Heap} {σ : L2.St} {H : Hp} (ok : X.Ok) (hs : X.stack = X.env :: X.outer) (hf : X.env.frame = some X.env.locals) (hN : X.N.Nodup) (tk : Takes X Wo)
    (J : Inv X pins σ H sI) (nb : ∀ b o, sI.heap.get? b = some o → b ∉ frs X.stack → B.get? b = some o) (up : sI.heap.UpToSlots h3) (na : H a = none) (os : s.os = sI.os) (ag : AllBare s.gens) (fl : HandSPX.FlyingZ B (X.env :: X.outer) a (Zc cls d) h3) :
    ∀ {hds : List ExceptHandler} {l : List (Value × Option Nat × Su)}, HkOk X hds l → wHs X.K Wo D l cls d σ H → wpAny (model X.prog X.w) X.A (handleBy (.ref a) X.env hds) (SP X pins D) X.xe { s with heap := h3 } := by
  have ground : Inv X pins σ H { s with heap := h3 } := J.landed nb fl.1 up os ag
  obtain ⟨o3, v3, e3, z3, d3⟩ := fl.there
  have apart : a ∉ frs (X.env :: X.outer) := fun hm => by
    obtain ⟨_, o', e', n'⟩ := fl.2.2.1.mem hm
    rw [e3] at e'
    cases e'
    exact n' _ d3
  have nL : a ≠ X.env.locals := fun z => apart (List.mem_filterMap.mpr ⟨X.env, List.mem_cons_self, by rw [hf, z]⟩)
  have nF : a ∉ X.fs := fun hm => by
    obtain ⟨e, he, q⟩ := List.mem_filterMap.mp hm
    exact apart (List.mem_filterMap.mpr ⟨e, List.mem_cons_of_mem _ he, q⟩)
  have suite3 := ground.suite e3 d3 na nL nF
  have type3 : PySem.W.Looks (model X.prog X.w) h3 (typeOf (.ref a)) cls := fun A Q E s k q => wpAny_typeOf_ref (k _ _ e3) (by rw [z3.1]; exact q)
  have named : ∀ {x : Str} {c : Value} {np : Pos} {Q E : Value → Shared → Prop}, Names X x c → Q c { s with heap := h3 } → wpAny (model X.prog X.w) (X.A.mark (some (.ref a))) (eval (.Name x np) X.env) Q E { s with heap := h3 } := fun {x c np Q E} hc q => by
    obtain ⟨hg, hdb, hm⟩ := hc
    rcases hm with hm | ⟨hm, hv, hn⟩
    · exact ld_glob (X := X.suite a ((a, o3) :: (X.pn ++ pins))) suite3 hg hm q hdb
    · exact ld_blt (X := X.suite a ((a, o3) :: (X.pn ++ pins))) suite3 hg hm hv q hn hdb
  intro hds l hk
  induction hk with
  | nil =>
    intro w
    refine wpAny_handleBy_nil ?_
    obtain ⟨_, _, _, oe, vs, Tr0, _, _, he, _, hd, h1, _⟩ := id fl
    unfold PySem.passOn
    refine wpAny_bind (wpAny_field he hd h1 ?_)
    rw [if_neg (by simp)]
    have up2 : wpAny (model X.prog X.w) X.A (setFlight (.ref a) X.env.frame) (fun _ t => wpAny (model X.prog X.w) X.A (throw (.ref a) : Sem Flow) (SP X pins D) X.xe t) X.xe { s with heap := h3 } := by
      rw [hf]
      exact HandSPX.setFlight_upZ fl fun h4 held up4 => wpAny_throw (tk _ _ ⟨a, B, sI, pins, σ, H, cls, d, rfl, J, nb, up.trans up4, .inr (.inr (by rw [hs]; exact held)), na, os, ag, w⟩)
    first
      | exact wpAny_bind (wpAny_pure (wpAny_bind up2))
      | exact wpAny_bind up2
  | @bare x c ts b su np p hds l hc hsu r ih =>
    intro w
    obtain ⟨t, ht, yes, no⟩ := w
    refine wpAny_handleBy_cons (codeAny_handlers_test (named hc ((PySem.W.exm_one (M := model X.prog X.w) ground.kIn type3 ht).here ?_))) (by intro q; cases q)
    cases t with
    | false => exact ih (no rfl)
    | true =>
      refine codeAny_handlers_suite (HandSPX.lands_againZ fl fun h4 fl4 up4 => ?_)
      have g4 : Inv X pins σ H { s with heap := h4 } := J.landed nb fl4.1 (up.trans up4) os ag
      obtain ⟨o4, v4, e4, z4, d4⟩ := fl4.there
      refine wpAny_mono ((hsu a o4 cls d (X.pn ++ pins) z4 ⟨_, d4⟩).run [] _ _ H _ (g4.suite e4 d4 na nL nF) (yes rfl a na)) (fun fw t k => ?_) fun _ _ z => False.elim z
      cases fw with
      | next => obtain ⟨σ1, H1, S, q⟩ := k; exact ⟨σ1, H1, S.unsuite ok, q⟩
      | brk => obtain ⟨σ1, H1, S, q⟩ := k; exact ⟨σ1, H1, S.unsuite ok, q⟩
      | cont => obtain ⟨σ1, H1, S, q⟩ := k; exact ⟨σ1, H1, S.unsuite ok, q⟩
      | ret u => obtain ⟨v, σ1, H1, S, r, q⟩ := k; exact ⟨v, σ1, H1, S.unsuite ok, r, q⟩
  | @named x n i c ts b su np p hds l hc hi hl hsu r ih =>
    intro w
    obtain ⟨t, ht, yes, no⟩ := w
    refine wpAny_handleBy_cons (codeAny_handlers_test (named hc ((PySem.W.exm_one (M := model X.prog X.w) ground.kIn type3 ht).here ?_))) (by intro q; cases q)
    cases t with
    | false => exact ih (no rfl)
    | true =>
      refine codeAny_handlers_suite_as (HandSPX.lands_againZ fl fun h4 fl4 up4 => ?_)
      have g4 : Inv X pins σ H { s with heap := h4 } := J.landed nb fl4.1 (up.trans up4) os ag
      obtain ⟨o4, v4, e4, z4, d4⟩ := fl4.there
      refine store_ok (X := X.suite a ((a, o4) :: (X.pn ++ pins))) (v := .ref a) (g4.suite e4 d4 na nL nF) hN hi (.inl hl) rfl (fun t5 S5 => ?_) (.inr hl)
      refine wpAny_mono ((hsu a o4 cls d (X.pn ++ pins) z4 ⟨_, d4⟩).run [] t5 _ H _ S5 (yes rfl a na)) (fun fw t k => ?_) fun _ _ z => False.elim z
      cases fw with
      | next => obtain ⟨σ1, H1, S, q⟩ := k; exact gone_ok (S.unsuite ok) hN hi hl fun t7 S7 => ⟨_, _, S7, q⟩
      | brk => obtain ⟨σ1, H1, S, q⟩ := k; exact gone_ok (S.unsuite ok) hN hi hl fun t7 S7 => ⟨_, _, S7, q⟩
      | cont => obtain ⟨σ1, H1, S, q⟩ := k; exact gone_ok (S.unsuite ok) hN hi hl fun t7 S7 => ⟨_, _, S7, q⟩
      | ret u => obtain ⟨v, σ1, H1, S, r, q⟩ := k; exact gone_ok (S.unsuite ok) hN hi hl fun t7 S7 => ⟨v, _, _, S7, r, q⟩
theorem ps_tryN (hs : X.stack = X.env :: X.outer) (hf : X.env.frame = some X.env.locals) (hN : X.N.Nodup) (tk : Takes X Wo)
    (hb : ∀ (W : WX) (pn : List (Addr × Obj)) (xe : Value → Shared → Prop), Takes (X.tr pn xe) W → PassesOwn (model X.prog X.w) X.A X.env xe → PSs (X.tr pn xe) body (tb W)) (hh : HkOk X (h0 :: hds) l) :
    PS X (.Try body (h0 :: hds) [] [] pos) (fun D σ H => tb (wHs X.K Wo D l) D σ H) := by
  refine ⟨fun pins s σ H D I z => wpAny_Try_except (wpAny_mono ((hb (wHs X.K Wo D l) (X.pn ++ pins) (fun e t1 => wpAny (model X.prog X.w) X.A (noteFrame e X.env)
    (fun _ t2 => wpAny (model X.prog X.w) X.A (setFlight e none) (fun _ t3 => wpAny (model X.prog X.w) X.A (handleBy e X.env (h0 :: hds)) (SP X pins D) X.xe t3) X.xe t2) X.xe t1) (fun u t xx => ?_) PassesOwn.looking).run [] s σ H D (I.toTry _) z) (fun fw t k => ?_) fun _ _ y => y)⟩
  · obtain ⟨a, B, sI, pins', σ', H', cls, d, rfl, J', nb, up, sky, na, os, ag, w⟩ := xx
    have J : Inv X pins σ' H' sI := J'.ofTry I.ok
    refine Sky.land Zc.steady (by rw [I.ok.frames, hs]) hf (by rw [← hs]; exact sky) fun h3 fl up3 => ?_
    exact by_clauses I.ok hs hf hN tk J nb (up.trans up3) na os ag fl hh w
  · cases fw with
    | next => obtain ⟨σ1, H1, J, q⟩ := k; exact wpAny_execs_nil ⟨σ1, H1, J.ofTry I.ok, q⟩
    | brk => obtain ⟨σ1, H1, J, q⟩ := k; exact ⟨σ1, H1, J.ofTry I.ok, q⟩
    | cont => obtain ⟨σ1, H1, J, q⟩ := k; exact ⟨σ1, H1, J.ofTry I.ok, q⟩
    | ret u => obtain ⟨v, σ1, H1, J, r, q⟩ := k; exact ⟨v, σ1, H1, J.ofTry I.ok, r, q⟩
end
end HV

end

section
/-! Vv: a def that calls what it got and catches. -/
namespace HV
open PySem PySem.Spec PyProof.Rows L2 LamX
/-- a clause against its text: x the class's name, fl the field -/
inductive HdR (found ev : Str) : ExceptHandler → Str → Str → Hx → Prop
  | fld {x fl : Str} {t : Txt} {j k : Nat} {p1 p2 p3 p4 p5 p6 p7 p8 : Pos} : HdR found ev (.ExceptHandler (some (.Name x p1)) (some ev) [.Assign [.Name found p2] (.Tuple [.Constant (.str (tx t)) j p3, .Attribute (.Name ev p4) fl p5] k p6) p7] p8) x fl (.fld t)
  | str {x fl : Str} {t : Txt} {j : Nat} {p1 p2 p3 p7 p8 : Pos} : HdR found ev (.ExceptHandler (some (.Name x p1)) none [.Assign [.Name found p2] (.Constant (.str (tx t)) j p3) p7] p8) x fl (.str t)
  | par {x fl : Str} {t : Txt} {j k i : Nat} {p1 p2 p3 p4 p6 p7 p8 : Pos} : HdR found ev (.ExceptHandler (some (.Name x p1)) none [.Assign [.Name found p2] (.Tuple [.Constant (.str (tx t)) j p3, .Constant .none i p4] k p6) p7] p8) x fl (.par t)
/-- a clause: class's address, field, what is made -/
structure Hc where
  C : Addr
  fl : Str
  hx : Hx
def hcG (cls : Value) (d : Option Addr) (H : Hp) (Q : VK) (k : Hc) : Prop := match k.hx with
  | .fld t => cls = .ref k.C ∧ ∃ (dd : Addr) (fs : List (Str × V)) (v : V), d = some dd ∧ H dd = some (.xd fs) ∧ fs.lookup k.fl = some v ∧ ∀ p, H p = none → Q (.ref p) (upd H p (.tup [.str (tx t), v]))
  | .str t => Q (.str (tx t)) H
  | .par t => ∀ p, H p = none → Q (.ref p) (upd H p (.tup [.str (tx t), .non]))
def wHc (K : PySem.W.Frag) : List Hc → Value → Option Addr → Hp → VK → Prop
  | [], _, _, _, _ => False
  | k :: r, cls, d, H, Q => ∃ b, PySem.W.exmOne K cls (.ref k.C) = some b ∧ (b = true → hcG cls d H Q k) ∧ (b = false → wHc K r cls d H Q)
/-- what such a def makes of the answer -/
def tdQ (mode : Nat) (tag : Txt) (Q : VK) : VK := fun v H1 => if mode = 0 then Q .non H1 else ∀ p, H1 p = none → Q (.ref p) (upd H1 p (.tup [.str (tx tag), v]))
/-- what such a def makes of the reading of its lambda -/
def tdT (K : PySem.W.Frag) (mode : Nat) (tag : Txt) (hs : List Hc) : (XK → Hp → VK → Prop) → Hp → VK → Prop := fun tl H Q => ∃ E : XK, tl E H (tdQ mode tag Q) ∧ ∀ cls d H1, E cls d H1 → wHc K hs cls d H1 Q
def hcTs (jf je : Nat) (k : Hc) : Su := fun a cls d => match k.hx with
  | .fld t => tAsg (tTup (tCons (tC (.str (tx t))) (tCons (tXf a cls d k.C k.fl (tVar je)) tNil))) (gName jf)
  | .str t => tAsg (tC (.str (tx t))) (gName jf)
  | .par t => tAsg (tTup (tCons (tC (.str (tx t))) (tCons (tC .non) tNil))) (gName jf)
def hcL (jf je : Nat) (k : Hc) : Value × Option Nat × Su := (.ref k.C, (match k.hx with | .fld _ => some je | _ => none), hcTs jf je k)
/-- a list of clauses against its text -/
inductive HdsR (mg : Str → Option Value) (K : PySem.W.Frag) (sg : Scope) (found ev : Str) : List ExceptHandler → List Hc → Prop
  | nil : HdsR mg K sg found ev [] []
  | cons {h : ExceptHandler} {hs : List ExceptHandler} {x : Str} {k : Hc} {ks : List Hc} : HdR found ev h x k.fl k.hx → sg.names.lookup x = some .globalImplicit → (x == ("__debug__" : Str)) = false → mg x = some (.ref k.C) → XfC K k.C → PySem.W.findIn K (.ref k.C) k.fl = some none → HdsR mg K sg found ev hs ks → HdsR mg K sg found ev (h :: hs) (k :: ks)
section
variable {X Z : Cx} {sg : Scope} {found ev : Str} {jf je : Nat}
theorem hk_ok (hK : Z.K = X.K) (hm : Z.mg = X.mg) (hsc : Z.env.scope = sg) (hN : Z.N.Nodup) (hjf : Z.N[jf]? = some found) (hje : Z.N[je]? = some ev) (lf : sg.names.lookup found = some .local) (le : sg.names.lookup ev = some .local)
    (dv : (ev == ("__debug__" : Str)) = false ∧ (ev == ("__classdict__" : Str)) = false) : ∀ {hs : List ExceptHandler} {ks : List Hc}, HdsR X.mg X.K sg found ev hs ks → HkOk Z hs (ks.map (hcL jf je)) := by
  intro hs ks h
  induction h with
  | nil => exact .nil
  | @cons h hs x k ks r1 r2 r3 r4 r5 r6 _ ih =>
    have nm : Names Z x (.ref k.C) := ⟨by show Z.env.scope.names.lookup x = _; rw [hsc]; exact r2, r3, .inl (by rw [hm]; exact r4)⟩
    have lf' : Z.env.scope.names.lookup found = some .local := by rw [hsc]; exact lf
    have le' : Z.env.scope.names.lookup ev = some .local := by rw [hsc]; exact le
    obtain ⟨C, fl, hx⟩ := k
    cases r1 with
    | fld =>
      refine .named nm hje le' (fun a oe cls d pn hz hv => pss_one (ps_set hN hjf (.inl lf') (pe_tup (pa_cons pe_str (pa_cons (pe_xf (by rw [hK]; exact r5) (by rw [hK]; exact r6) hz hv (pe_var hje (.inl le') dv.1 dv.2)) pa_nil))) (by rfl) (.inr lf'))) ih
    | str => exact .bare nm (fun a oe cls d pn hz hv => pss_one (ps_set hN hjf (.inl lf') pe_str (by rfl) (.inr lf'))) ih
    | par => exact .bare nm (fun a oe cls d pn hz hv => pss_one (ps_set hN hjf (.inl lf') (pe_tup (pa_cons pe_str (pa_cons pe_non pa_nil))) (by rfl) (.inr lf'))) ih
end
theorem wHs_of {K : PySem.W.Frag} {Wo : WX} {jf je n : Nat} {Q : VK} (hne : je ≠ jf) (hjf : jf < n) (hje : je < n) {cls : Value} {d : Option Addr} {σ : L2.St} {H : Hp} (hl : σ.length = n) :
    ∀ {hs : List Hc}, wHc K hs cls d H Q → wHs K Wo { nx := fun σ H => tRet (tVar jf) { nx := fun _ H => Q .non H, rt := Q } σ H, rt := Q } (hs.map (hcL jf je)) cls d σ H
  | [], w => w.elim
  | ⟨C, fl, hx⟩ :: r, w => by
    obtain ⟨b, h1, h2, h3⟩ := w
    have at_ : ∀ (v : V), ((σ.set jf (some v)))[jf]? = some (some v) := fun v => List.getElem?_set_self (by omega)
    cases hx with
    | fld t =>
      refine ⟨b, h1, fun hb a na => ?_, fun hb => wHs_of hne hjf hje hl (h3 hb)⟩
      obtain ⟨ec, dd, fs, v, e1, e2, e3, q⟩ := h2 hb
      refine ⟨.ref a, List.getElem?_set_self (by omega), rfl, ec, dd, fs, v, e1, e2, e3, ?_⟩
      refine ⟨by show 2 ≤ sizeLine; rw [sizeLine_eq]; omega, fun p hp => ⟨.ref p, ?_, q p hp⟩⟩
      rw [List.getElem?_set_ne hne, List.getElem?_set_self (by rw [List.length_set]; omega)]
    | str t => exact ⟨b, h1, fun hb a na => ⟨.str (tx t), at_ _, h2 hb⟩, fun hb => wHs_of hne hjf hje hl (h3 hb)⟩
    | par t => exact ⟨b, h1, fun hb a na => ⟨by show 2 ≤ sizeLine; rw [sizeLine_eq]; omega, fun p hp => ⟨.ref p, at_ _, h2 hb p hp⟩⟩, fun hb => wHs_of hne hjf hje hl (h3 hb)⟩
theorem takes_len {X : Cx} {W : WX} (tk : Takes X W) : Takes X fun cls d σ H => σ.length = X.N.length → W cls d σ H := fun u s x => by
  obtain ⟨a, B, sI, pins, σ, H, cls, d, e, I, nb, up, sky, na, os, ag, w⟩ := x
  exact tk u s ⟨a, B, sI, pins, σ, H, cls, d, e, I, nb, up, sky, na, os, ag, w I.len⟩
/-- the body of such a def -/
inductive TdR (a found : Str) : List Stmt → ExceptHandler → List ExceptHandler → Nat → Txt → Prop
  | drop {h0 : ExceptHandler} {hs : List ExceptHandler} {i : Nat} {tag : Txt} {p1 p2 p3 p4 p5 p6 p7 p8 p9 : Pos} : TdR a found [.Assign [.Name found p1] (.Constant .none i p2) p3, .Try [.Expr (.Call (.Name a p4) [] [] p5) p6] (h0 :: hs) [] [] p7, .Return (some (.Name found p8)) p9] h0 hs 0 tag
  | told {h0 : ExceptHandler} {hs : List ExceptHandler} {i j k : Nat} {tag : Txt} {p1 p2 p3 p4 p5 p6 p7 p8 p9 p10 p11 p12 : Pos} : TdR a found [.Assign [.Name found p1] (.Constant .none i p2) p3, .Try [.Assign [.Name found p10] (.Tuple [.Constant (.str (tx tag)) j p11, .Call (.Name a p4) [] [] p5] k p12) p6] (h0 :: hs) [] [] p7, .Return (some (.Name found p8)) p9] h0 hs 1 tag
theorem tried_gives {X : Cx} {Ng : List Str} {x a found ev q : Str} {sg : Scope} {g : Addr} {cdg : Value} {bg : List Stmt} {h0 : ExceptHandler} {hds : List ExceptHandler} {ks : List Hc} {mode jf je : Nat} {tag : Txt} (hT : TdR a found bg h0 hds mode tag) (hH : HdsR X.mg X.K sg found ev (h0 :: hds) ks)
    (hN : Ng.Nodup) (h0g : Ng[0]? = some a) (hjf : Ng[jf]? = some found) (hje : Ng[je]? = some ev) (hne : je ≠ jf) (hj0 : jf ≠ 0) (lf : sg.names.lookup found = some .local) (le : sg.names.lookup ev = some .local)
    (dv : (ev == ("__debug__" : Str)) = false ∧ (ev == ("__classdict__" : Str)) = false) (df : (found == ("__debug__" : Str)) = false ∧ (found == ("__classdict__" : Str)) = false) :
    GivesTo X Ng x sg g cdg bg a q (tdT X.K mode tag ks) := by
  intro f c' s H Q tl act hc z
  obtain ⟨Ech, hok, hex⟩ := z
  have ljf : jf < Ng.length := (List.getElem?_eq_some_iff.mp hjf).1
  have lje : je < Ng.length := (List.getElem?_eq_some_iff.mp hje).1
  have l0 : 0 < Ng.length := (List.getElem?_eq_some_iff.mp h0g).1
  have hk := hk_ok (X := X) (Z := (cxOf C8.CX0 X.prog X.w X.K X.mg X.base Ng x sg g cdg X.A X.stack s H C8.E0).nox) (jf := jf) (je := je) rfl rfl rfl hN hjf hje lf le dv hH
  have ls : (L2.start Ng [V.ref f]).length = Ng.length := by
    unfold L2.start
    simp
    omega
  have s0 : ((L2.start Ng [V.ref f]).set jf (some .non))[0]? = some (some (V.ref f)) := by
    rw [List.getElem?_set_ne hj0]
    rfl
  have sj : ((L2.start Ng [V.ref f]).set jf (some V.non))[jf]? = some (some .non) := List.getElem?_set_self (by rw [ls]; exact ljf)
  have ready : ∀ cls d σ H1, Ech cls d H1 → σ.length = Ng.length → wHs X.K (fun _ _ _ _ => False) { nx := fun σ H => tRet (tVar jf) { nx := fun _ H => Q .non H, rt := Q } σ H, rt := Q } (ks.map (hcL jf je)) cls d σ H1 := fun cls d σ H1 e hl => wHs_of hne ljf lje hl (hex cls d H1 e)
  cases hT with
  | drop =>
    refine ⟨_, pss_cons (ps_set hN hjf (.inl lf) pe_non (by rfl) (.inr lf)) (pss_cons (ps_tryN rfl rfl hN L2.takes0 (tb := fun W D σ H => ∃ Ech : XK, (∀ cls d σ' H', Ech cls d H' → σ'.length = Ng.length → W cls d σ' H') ∧ σ[0]? = some (some (.ref f)) ∧ H c' = some (CodeO c' q) ∧ tl Ech H fun _ H1 => D.nx σ H1) (fun W pn xe tk po => ?_) hk) (pss_one (ps_ret (pe_var hjf (.inl lf) df.1 df.2)))), ?_⟩
    · refine ⟨fun pins t σ H' D I w => ?_⟩
      obtain ⟨E2, hW, h1, h2, h3⟩ := w
      exact (pss_one (ps_expr (act _ pn xe E2 _ _ (takes_len tk) (fun cls d σ' H' e l => hW cls d σ' H' e l)))).run pins t σ H' D I ⟨h1, h2, h3⟩
    · refine ⟨Ech, ready, s0, hc, ?_⟩
      have eq : tdQ 0 tag Q = fun _ H1 => tRet (tVar jf) { nx := fun _ H => Q .non H, rt := Q } ((L2.start Ng [V.ref f]).set jf (some .non)) H1 := funext fun v => funext fun H1 => propext ⟨fun k => ⟨.non, sj, k⟩, fun ⟨w, e, k⟩ => by rw [sj] at e; cases e; exact k⟩
      rw [eq] at hok
      exact hok
  | told =>
    refine ⟨_, pss_cons (ps_set hN hjf (.inl lf) pe_non (by rfl) (.inr lf)) (pss_cons (ps_tryN rfl rfl hN L2.takes0 (tb := fun W D σ H => ∃ Ech : XK, (∀ cls d σ' H', Ech cls d H' → σ'.length = Ng.length → W cls d σ' H') ∧ σ[0]? = some (some (.ref f)) ∧ H c' = some (CodeO c' q) ∧
      tl Ech H fun v H1 => 2 ≤ sizeLine ∧ ∀ p, H1 p = none → D.nx (σ.set jf (some (.ref p))) (upd H1 p (.tup [.str (tx tag), v]))) (fun W pn xe tk po => ?_) hk) (pss_one (ps_ret (pe_var hjf (.inl lf) df.1 df.2)))), ?_⟩
    · refine ⟨fun pins t σ H' D I w => ?_⟩
      obtain ⟨E2, hW, h1, h2, h3⟩ := w
      exact (pss_one (ps_set hN hjf (.inl lf) (pe_tup (pa_cons pe_str (pa_cons (act _ pn xe E2 _ _ (takes_len tk) (fun cls d σ' H' e l => hW cls d σ' H' e l)) pa_nil))) (by rfl) (.inr lf))).run pins t σ H' D I ⟨h1, h2, h3⟩
    · refine ⟨Ech, ready, s0, hc, ?_⟩
      have two : 2 ≤ sizeLine := by rw [sizeLine_eq]; omega
      have sp : ∀ p : Addr, (((L2.start Ng [V.ref f]).set jf (some V.non)).set jf (some (.ref p)))[jf]? = some (some (.ref p)) := fun p => List.getElem?_set_self (by rw [List.length_set, ls]; exact ljf)
      have eq : tdQ 1 tag Q = fun v H1 => 2 ≤ sizeLine ∧ ∀ p, H1 p = none → tRet (tVar jf) { nx := fun _ H => Q .non H, rt := Q } (((L2.start Ng [V.ref f]).set jf (some V.non)).set jf (some (.ref p))) (upd H1 p (.tup [.str (tx tag), v])) :=
        funext fun v => funext fun H1 => propext ⟨fun k => ⟨two, fun p hp => ⟨.ref p, sp p, k p hp⟩⟩, fun k => by
          show ∀ p, _ → _
          intro p hp
          obtain ⟨w, e, q⟩ := k.2 p hp
          rw [sp p] at e
          cases e
          exact q⟩
      rw [eq] at hok
      exact hok
/-! ### the lambda's outcome -/
def txOk (t : Txt) : Prop := t.length ≤ sizeLine ∧ ∀ c ∈ t, c < 1114112
def hxOk : Hx → Prop
  | .fld t => txOk t
  | .str t => txOk t
  | .par t => txOk t
inductive HsK (T : Tb) (fld : Nat → Nat) : List (Nat × Hx) → List Hc → Prop
  | nil : HsK T fld [] []
  | cons {c : Nat} {x : Hx} {C : Addr} {r : List (Nat × Hx)} {ks : List Hc} : T.xcl c = some C → (∀ c2 C2, T.xcl c2 = some C2 → PySem.W.exmOne T.K (.ref C2) (.ref C) = some (decide (c2 = c))) → hxOk x → HsK T fld r ks → HsK T fld ((c, x) :: r) (⟨C, nmS (fld c), x⟩ :: ks)
section
variable {D : Wd} {T : Tb} {fld : Nat → Nat} {Hs H Hs' H' : Hp} {ρ ρ' : List Addr} {h h' : Hm} {σ : L2.St} {env : Env}
theorem wHc_of {c : Nat} {ps : List PV} {C : Addr} {d : Option Addr} {dv : PV} {Q : VK} (sy : Sy T Hs H ρ h) (x : XR T Hs H fld c ps C d) (kont : ∀ v Hs2 H2, Sy T Hs2 H2 ρ h → TrH Hs H ρ h Hs2 H2 ρ h → RepV T Hs2 v dv → Q v H2) :
    ∀ {hs : List (Nat × Hx)} {ks : List Hc}, HsK T fld hs ks → (hs.lookup c).bind (hxV ps) = some dv → wHc T.K ks (.ref C) d H Q
  | _, _, .nil, e => by cases e
  | _, _, .cons (c := c1) (x := hx) (C := C1) (r := r) (ks := ks) e1 e2 e3 rr, e => by
    refine ⟨_, e2 c C x.1, fun hb => ?_, fun hb => ?_⟩
    · have ec : c = c1 := of_decide_eq_true hb
      subst ec
      rw [List.lookup_cons, beq_self_eq_true] at e
      have eC : C = C1 := by have := x.1; rw [e1] at this; cases this; rfl
      subst eC
      have e : hxV ps hx = some dv := e
      cases hx with
      | fld t =>
        rcases x.2 with ⟨rfl, _⟩ | ⟨p, dd, v, rfl, rfl, hdd, rv⟩
        · cases e
        · cases e
          refine ⟨rfl, dd, _, v, rfl, hdd, by rw [List.lookup_cons, beq_self_eq_true], fun q hq => ?_⟩
          obtain ⟨s2, t2⟩ := sy.alloc (o := .tup [.str (tx t), v]) hq
          exact kont _ _ _ s2 t2 (.tup upd_same (by show 2 ≤ _; rw [sizeLine_eq]; omega) (.cons (.str t e3) (.cons (rv.mono t2.mono) .nil)))
      | str t => cases e; exact kont _ Hs H sy Tr.refl (.str t e3)
      | par t =>
        cases e
        intro q hq
        obtain ⟨s2, t2⟩ := sy.alloc (o := .tup [.str (tx t), .non]) hq
        exact kont _ _ _ s2 t2 (.tup upd_same (by show 2 ≤ _; rw [sizeLine_eq]; omega) (.cons (.str t e3) (.cons .non .nil)))
    · have ne : c ≠ c1 := of_decide_eq_false hb
      rw [List.lookup_cons, show (c == c1) = false from beq_eq_false_iff_ne.mpr ne] at e
      exact wHc_of sy x kont rr e
/-- tables grew: all else is as it was -/
theorem Sy.ext {H1 : Hp} (sy : Sy T Hs H ρ h) (x : LamX.ExtN H H1) (tb : LamX.Tabs T.tabs H1) : Sy T Hs H1 ρ h ∧ TrH Hs H ρ h Hs H1 ρ h :=
  ⟨⟨fun a o e => x a o (sy.sub a o e) fun q z => sy.nt a q (by rw [← z]; exact e), sy.len, sy.inj, fun n o a e1 e2 => by
      obtain ⟨k1, k2⟩ := sy.ob n o a e1 e2
      exact ⟨k1, k2.move (Same.refl _) Pre.refl fun u e => x a u e (k2.noTab u e).1⟩, tb, sy.nt⟩,
    ⟨Same.refl _, fun a o e _ _ nt => x a o e nt, fun a z => nu_of fun o e nt => nu_no (x a o e nt) nt z, fun _ _ e => .inl e, fun _ e => .inl e⟩⟩
theorem sem_lam {td : Td} {f : Env → Hm → R Vl} {ks : List Hc} (hks : HsK D.T D.fld td.hs ks) (htg : txOk td.tag) : ∀ σ H Q, semE D (triedE td f) σ H Q → tLam D.T.tabs (tdT D.T.K td.mode td.tag ks) (fun E => semE ⟨D.T, D.fld, E⟩ f) σ H Q := by
  intro σ H Q z
  obtain ⟨Hs, ρ, h, env, sy, er, p⟩ := z
  refine ⟨sy.tb, fun H1 x tb => ?_⟩
  obtain ⟨sy1, t1⟩ := sy.ext x tb
  unfold triedE at p
  have fin : ∀ {dv : PV} {h2 : Hm} {Hs2 H2 : Hp} {ρ2 : List Addr} {v : V}, triedR td (f env h) = .ok (.fz dv) h2 → TrH Hs H1 ρ h Hs2 H2 ρ2 h2 → Pre ρ ρ2 → Sy D.T Hs2 H2 ρ2 h2 → RepV D.T Hs2 v dv → Q v H2 := fun {dv h2 Hs2 H2 ρ2 v} e t pr s r => by
    rw [e] at p
    dsimp only at p
    cases w : HV.cutH false h.length h2 with
    | none => rw [w] at p; exact p.elim
    | some h3 =>
      rw [w] at p
      have p : Post D (fun Hs' H' ρ' a => ∀ v, VlR D.T Hs' ρ' v a → Q v H') Hs H ρ h (HV.R.ok (Vl.fz dv) h3) := p
      obtain ⟨ρ3, s3, t3, p3, k3⟩ := Sy.cutH sy1 s t pr w
      exact p H2 Hs2 ρ3 (t1.trans t3) p3 s3 v r
  cases w : f env h with
  | stuck => rw [w] at p; exact p.elim
  | exc c ps h2 =>
    refine ⟨fun cls d H2 => ∃ C Hs2 ρ2, cls = .ref C ∧ TrH Hs H1 ρ h Hs2 H2 ρ2 h2 ∧ Pre ρ ρ2 ∧ Sy D.T Hs2 H2 ρ2 h2 ∧ XR D.T Hs2 H2 D.fld c ps C d, ⟨Hs, ρ, h, env, sy1, er, ?_⟩, ?_⟩
    · rw [w]
      exact fun H2 Hs2 ρ2 C d t pr s xr => ⟨C, Hs2, ρ2, rfl, t, pr, s, xr⟩
    · rintro cls d H2 ⟨C, Hs2, ρ2, rfl, t, pr, s, xr⟩
      cases w2 : (td.hs.lookup c).bind (hxV ps) with
      | none => rw [w] at p; simp only [triedR, w2] at p; exact p.elim
      | some dv =>
        exact wHc_of s xr (fun v Hs3 H3 s3 t3 r3 => fin (dv := dv) (by rw [w]; simp only [triedR, w2]) (t.trans t3) pr s3 r3) hks w2
  | ok v h2 =>
    refine ⟨fun _ _ _ => False, ⟨Hs, ρ, h, env, sy1, er, ?_⟩, fun _ _ _ z => z.elim⟩
    rw [w]
    intro H2 Hs2 ρ2 t pr s u ru
    unfold tdQ
    by_cases m0 : td.mode = 0
    · rw [if_pos m0]
      exact fin (dv := .non) (by rw [w]; simp only [triedR]; rw [if_pos m0]) t pr s .non
    · rw [if_neg m0]
      by_cases m1 : td.mode = 1
      · cases w2 : HV.frz v h2 with
        | stuck => rw [w] at p; simp only [triedR] at p; rw [if_neg m0, if_pos m1, w2] at p; exact p.elim
        | exc c2 p2 h3 => exact (frz_exc w2).elim
        | ok d h3 =>
          obtain ⟨Hs3, ⟨s3, t3⟩, r3⟩ := frz_ok s ru w2
          intro q hq
          obtain ⟨s4, t4⟩ := s3.alloc (o := .tup [.str (tx td.tag), u]) hq
          exact fin (dv := .tup [.str td.tag, d]) (by rw [w]; simp only [triedR]; rw [if_neg m0, if_pos m1, w2] <;> rfl) (t.trans (t3.trans t4)) pr s4 (.tup upd_same (by show 2 ≤ _; rw [sizeLine_eq]; omega) (.cons (.str td.tag htg) (.cons (r3.mono t4.mono) .nil)))
      · rw [w] at p; simp only [triedR] at p; rw [if_neg m0, if_neg m1] at p; exact p.elim
end
end HV

end

section
/-! V9: the deep syntax against the text. -/
namespace HV
open PySem PySem.Spec PyProof.Rows L2
/-! ### views of expressions -/
def vConst : Expr → Option (Const × Nat × Pos)
  | .Constant c j p => some ((c, j, p))
  | _ => none
theorem vConst_ok {e : Expr} {r : Const × Nat × Pos} (h : vConst e = some r) : e = (match r with | (c, j, p) => .Constant c j p) := by
  unfold vConst at h
  split at h
  · cases h; rfl
  · cases h
def vName : Expr → Option (Str × Pos)
  | .Name x p => some ((x, p))
  | _ => none
theorem vName_ok {e : Expr} {r : Str × Pos} (h : vName e = some r) : e = (match r with | (x, p) => .Name x p) := by
  unfold vName at h
  split at h
  · cases h; rfl
  · cases h
def vBin : Expr → Option (Expr × Operator × Expr × Pos)
  | .BinOp a op b p => some ((a, op, b, p))
  | _ => none
theorem vBin_ok {e : Expr} {r : Expr × Operator × Expr × Pos} (h : vBin e = some r) : e = (match r with | (a, op, b, p) => .BinOp a op b p) := by
  unfold vBin at h
  split at h
  · cases h; rfl
  · cases h
def vCmp1 : Expr → Option (Expr × CmpOp × Expr × Pos)
  | .Compare a [op] [b] p => some ((a, op, b, p))
  | _ => none
theorem vCmp1_ok {e : Expr} {r : Expr × CmpOp × Expr × Pos} (h : vCmp1 e = some r) : e = (match r with | (a, op, b, p) => .Compare a [op] [b] p) := by
  unfold vCmp1 at h
  split at h
  · cases h; rfl
  · cases h
def vCmp2 : Expr → Option (Expr × CmpOp × Expr × CmpOp × Expr × Pos)
  | .Compare a [op, op'] [b, c] p => some ((a, op, b, op', c, p))
  | _ => none
theorem vCmp2_ok {e : Expr} {r : Expr × CmpOp × Expr × CmpOp × Expr × Pos} (h : vCmp2 e = some r) : e = (match r with | (a, op, b, op', c, p) => .Compare a [op, op'] [b, c] p) := by
  unfold vCmp2 at h
  split at h
  · cases h; rfl
  · cases h
def vUn : Expr → Option (UnaryOp × Expr × Pos)
  | .UnaryOp op a p => some ((op, a, p))
  | _ => none
theorem vUn_ok {e : Expr} {r : UnaryOp × Expr × Pos} (h : vUn e = some r) : e = (match r with | (op, a, p) => .UnaryOp op a p) := by
  unfold vUn at h
  split at h
  · cases h; rfl
  · cases h
def vBool : Expr → Option (BoolOp × Expr × Expr × List Expr × Pos)
  | .BoolOp op (a :: b :: r) p => some ((op, a, b, r, p))
  | _ => none
theorem vBool_ok {e : Expr} {r : BoolOp × Expr × Expr × List Expr × Pos} (h : vBool e = some r) : e = (match r with | (op, a, b, r, p) => .BoolOp op (a :: b :: r) p) := by
  unfold vBool at h
  split at h
  · cases h; rfl
  · cases h
def vIf : Expr → Option (Expr × Expr × Expr × Pos)
  | .IfExp c a b p => some ((c, a, b, p))
  | _ => none
theorem vIf_ok {e : Expr} {r : Expr × Expr × Expr × Pos} (h : vIf e = some r) : e = (match r with | (c, a, b, p) => .IfExp c a b p) := by
  unfold vIf at h
  split at h
  · cases h; rfl
  · cases h
def vList : Expr → Option (List Expr × Pos)
  | .List xs p => some ((xs, p))
  | _ => none
theorem vList_ok {e : Expr} {r : List Expr × Pos} (h : vList e = some r) : e = (match r with | (xs, p) => .List xs p) := by
  unfold vList at h
  split at h
  · cases h; rfl
  · cases h
def vTup : Expr → Option (List Expr × Nat × Pos)
  | .Tuple xs j p => some ((xs, j, p))
  | _ => none
theorem vTup_ok {e : Expr} {r : List Expr × Nat × Pos} (h : vTup e = some r) : e = (match r with | (xs, j, p) => .Tuple xs j p) := by
  unfold vTup at h
  split at h
  · cases h; rfl
  · cases h
def vAtt : Expr → Option (Expr × Str × Pos)
  | .Attribute a g p => some ((a, g, p))
  | _ => none
theorem vAtt_ok {e : Expr} {r : Expr × Str × Pos} (h : vAtt e = some r) : e = (match r with | (a, g, p) => .Attribute a g p) := by
  unfold vAtt at h
  split at h
  · cases h; rfl
  · cases h
def vSub : Expr → Option (Expr × Expr × Pos)
  | .Subscript a b p => some ((a, b, p))
  | _ => none
theorem vSub_ok {e : Expr} {r : Expr × Expr × Pos} (h : vSub e = some r) : e = (match r with | (a, b, p) => .Subscript a b p) := by
  unfold vSub at h
  split at h
  · cases h; rfl
  · cases h
def vSlc : Expr → Option (Expr × Option Expr × Option Expr × Pos × Pos)
  | .Subscript a (.Slice l u none q) p => some ((a, l, u, q, p))
  | _ => none
theorem vSlc_ok {e : Expr} {r : Expr × Option Expr × Option Expr × Pos × Pos} (h : vSlc e = some r) : e = (match r with | (a, l, u, q, p) => .Subscript a (.Slice l u none q) p) := by
  unfold vSlc at h
  split at h
  · cases h; rfl
  · cases h
def vCallN : Expr → Option (Str × Pos × List Expr × Pos)
  | .Call (.Name f q) xs [] p => some ((f, q, xs, p))
  | _ => none
theorem vCallN_ok {e : Expr} {r : Str × Pos × List Expr × Pos} (h : vCallN e = some r) : e = (match r with | (f, q, xs, p) => .Call (.Name f q) xs [] p) := by
  unfold vCallN at h
  split at h
  · cases h; rfl
  · cases h
def vLam : Expr → Option (Str × Pos × Arguments × Expr × Scope × Pos × Pos)
  | .Call (.Name f q) [.Lambda ps b sc lp] [] p => some ((f, q, ps, b, sc, lp, p))
  | _ => none
theorem vLam_ok {e : Expr} {r : Str × Pos × Arguments × Expr × Scope × Pos × Pos} (h : vLam e = some r) : e = (match r with | (f, q, ps, b, sc, lp, p) => .Call (.Name f q) [.Lambda ps b sc lp] [] p) := by
  unfold vLam at h
  split at h
  · cases h; rfl
  · cases h
def noArgs (p : Arguments) : Bool := p.posonlyargs.isEmpty && (p.args.isEmpty && (p.vararg.isNone && (p.kwonlyargs.isEmpty && (p.kw_defaults.isEmpty && (p.kwarg.isNone && p.defaults.isEmpty)))))
theorem noArgs_ok {p : Arguments} (h : noArgs p = true) : p = ⟨[], [], none, [], [], none, []⟩ := by
  obtain ⟨a, b, c, d, e, f, g⟩ := p
  simp only [noArgs, Bool.and_eq_true, List.isEmpty_iff, Option.isNone_iff_eq_none] at h
  obtain ⟨rfl, rfl, rfl, rfl, rfl, rfl, rfl⟩ := h
  rfl
def vCallM : Expr → Option (Expr × Str × Pos × List Expr × Pos)
  | .Call (.Attribute a n q) xs [] p => some ((a, n, q, xs, p))
  | _ => none
theorem vCallM_ok {e : Expr} {r : Expr × Str × Pos × List Expr × Pos} (h : vCallM e = some r) : e = (match r with | (a, n, q, xs, p) => .Call (.Attribute a n q) xs [] p) := by
  unfold vCallM at h
  split at h
  · cases h; rfl
  · cases h
def vLc : Expr → Option (Expr × Expr × Expr × List Expr × Scope × Pos)
  | .ListComp elt [⟨tg, iter, ifs, 0⟩] scope p => some ((elt, tg, iter, ifs, scope, p))
  | _ => none
theorem vLc_ok {e : Expr} {r : Expr × Expr × Expr × List Expr × Scope × Pos} (h : vLc e = some r) : e = (match r with | (elt, tg, iter, ifs, scope, p) => .ListComp elt [⟨tg, iter, ifs, 0⟩] scope p) := by
  unfold vLc at h
  split at h
  · cases h; rfl
  · cases h
def vLc2 : Expr → Option (Expr × Expr × Expr × List Expr × Expr × Expr × List Expr × Scope × Pos)
  | .ListComp elt [⟨tg, iter, ifs, 0⟩, ⟨tg1, iter1, ifs1, 0⟩] scope p => some ((elt, tg, iter, ifs, tg1, iter1, ifs1, scope, p))
  | _ => none
theorem vLc2_ok {e : Expr} {r : Expr × Expr × Expr × List Expr × Expr × Expr × List Expr × Scope × Pos} (h : vLc2 e = some r) : e = (match r with | (elt, tg, iter, ifs, tg1, iter1, ifs1, scope, p) => .ListComp elt [⟨tg, iter, ifs, 0⟩, ⟨tg1, iter1, ifs1, 0⟩] scope p) := by
  unfold vLc2 at h
  split at h
  · cases h; rfl
  · cases h
def vRev : Expr → Option (Expr × Int × Nat × Pos × Pos × Pos × Pos)
  | .Subscript a (.Slice none none (some (.UnaryOp .USub (.Constant (.int i) j p1) p2)) p3) p => some ((a, i, j, p1, p2, p3, p))
  | _ => none
theorem vRev_ok {e : Expr} {r : Expr × Int × Nat × Pos × Pos × Pos × Pos} (h : vRev e = some r) : e = (match r with | (a, i, j, p1, p2, p3, p) => .Subscript a (.Slice none none (some (.UnaryOp .USub (.Constant (.int i) j p1) p2)) p3) p) := by
  unfold vRev at h
  split at h
  · cases h; rfl
  · cases h
def vDct0 : Expr → Option Pos
  | .Dict [] [] p => some p
  | _ => none
theorem vDct0_ok {e : Expr} {p : Pos} (h : vDct0 e = some p) : e = .Dict [] [] p := by
  unfold vDct0 at h
  split at h
  · cases h; rfl
  · cases h
def vDc : Expr → Option (Expr × Expr × Expr × Expr × List Expr × Scope × Pos)
  | .DictComp kx vx [⟨tg, iter, ifs, 0⟩] scope p => some ((kx, vx, tg, iter, ifs, scope, p))
  | _ => none
theorem vDc_ok {e : Expr} {r : Expr × Expr × Expr × Expr × List Expr × Scope × Pos} (h : vDc e = some r) : e = (match r with | (kx, vx, tg, iter, ifs, scope, p) => .DictComp kx vx [⟨tg, iter, ifs, 0⟩] scope p) := by
  unfold vDc at h
  split at h
  · cases h; rfl
  · cases h
/-! ### the tables a text is read by -/
structure Et where
  /-- a def: its name -/
  fn : Nat → Option Nat
  /-- a method's def: its class, its name -/
  md : Nat → Option (Nat × Nat)
  /-- a class's __init__: the class's name, the class -/
  nw : Nat → Option (Nat × Nat)
  /-- an exception class: its name -/
  xc : Nat → Option Nat
  /-- a def that calls what it got and catches, by its name -/
  td : Nat → Option Td
def okN (x : Str) : Bool := !(x == ("__debug__" : Str)) && !(x == ("__classdict__" : Str)) && !(x == ("__name__" : Str))
def visB (sc : Scope) (x : Str) : Bool := match sc.names.lookup x with
  | some .local => true
  | some .cell => true
  | some .free => true
  | _ => false
def locB (sc : Scope) (x : Str) : Bool := match sc.names.lookup x with
  | some .local => true
  | _ => false
def gloB (sc : Scope) (x : Str) : Bool := match sc.names.lookup x with
  | some .globalImplicit => true
  | _ => false
def cstB : PV → Const → Bool
  | .non, .none => true
  | .bl b, .bool c => b == c
  | .int i, .int j => decide (i = j)
  | .str s, .str x => decide (x = tx s) && (decide (s.length ≤ 16777216) && s.all fun c => decide (c < 1114112))
  | _, _ => false
def varB (N : List Str) (sc : Scope) (i : Nat) (x : Str) : Bool := decide (N[i]? = some x) && (visB sc x && okN x)
def b1N : Nat → Str
  | 0 => "int" | 1 => "all" | 2 => "any" | 3 => "abs" | 4 => "sum" | _ => "str"
def b2N : Nat → Str
  | 0 => "max" | _ => "min"
def s1N : Nat → Str
  | 0 => "list" | 1 => "tuple" | _ => "dict"
/-- a test that is its value's truth -/
def tvalX : Expr → Bool
  | .UnaryOp .Not _ _ => false
  | .BoolOp .. => false
  | .IfExp .. => false
  | .Compare .. => false
  | _ => true
theorem tval_of {e : Expr} {ev : PySem.Env} (h : tvalX e = true) : ∀ whole, isTrue e ev whole = (do let v ← whole; standAt e.pos; holding [v] (truthy v)) := by
  intro whole
  cases e with
  | UnaryOp op x p => cases op <;> first | rfl | (cases h)
  | _ => first | rfl | (cases h)
theorem pw_of {X : Cx} {op : BoolOp} {vs : List Expr} {pos : Pos} {t : TT} (h : PT X (.BoolOp op vs pos) t) : PW X (.BoolOp op vs pos) t := ⟨fun wh pins s σ H Q I z => by
  have q := h.run pins s σ H Q I z
  have e : isTrue (.BoolOp op vs pos) X.env wh = isTrue (.BoolOp op vs pos) X.env (eval (.BoolOp op vs pos) X.env) := rfl
  rw [e]
  exact q⟩
/-- the scope a text is read in; which of its names are cells of its own -/
structure Ct where
  sc : Scope
  fn : Str → Bool
  lam : Bool
def relS (scope sc : Scope) : Scope := { scope with names := scope.names.map fun (n, k) => if (k == NameKind.free && sc.kind == .function && sc.names.lookup n == some .cell) then (n, NameKind.cell) else (n, k) }
def Ct.blk (ct : Ct) (scope : Scope) : Ct := ⟨relS scope ct.sc, fun x => scope.names.lookup x == some .cell, false⟩
def locC (ct : Ct) (x : Str) : Bool := match ct.sc.names.lookup x with
  | some .local => true
  | some .cell => ct.fn x
  | _ => false
mutual
def mg (N : List Str) (ct : Ct) : Tg → Expr → Bool
  | .nm i, .Name x _ => decide (N[i]? = some x) && locC ct x
  | .tp ts, .Tuple xs _ _ => mgs N ct ts xs
  | _, _ => false
def mgs (N : List Str) (ct : Ct) : Tgs → List Expr → Bool
  | .nil, [] => true
  | .cons t r, x :: xs => mg N ct t x && mgs N ct r xs
  | _, _ => false
end
mutual
def Tg.ix : Tg → List Nat
  | .nm i => [i]
  | .tp ts => Tgs.ix ts
def Tgs.ix : Tgs → List Nat
  | .nil => []
  | .cons t r => Tg.ix t ++ Tgs.ix r
end
def tupX : Expr → Bool
  | .Tuple .. => true
  | _ => false
def setX : Expr → Bool
  | .Set .. => true
  | _ => false
def isYes : Ts → Bool
  | .yes => true
  | _ => false
def ownP (N : List Str) (own : List Nat) : List (Str × Nat) := own.map fun i => (N.getD i "", i)
def subP (p : Nat → Bool) : List Nat → Bool
  | [] => true
  | i :: r => p i && subP p r
/-- an inner source that holds nothing that changes -/
def isFr : Sr → Bool
  | .val _ => true
  | .rng _ => true
  | _ => false
def isNilE : Es → Bool
  | .nil => true
  | _ => false
section
variable (E : Et) (N : List Str)
mutual
def mx (ct : Ct) : Ex → Expr → Bool
  | .cst d, x => (match vConst x with | some (c, _, _) => cstB d c | none => false)
  | .var i, x => (match vName x with | some (x, _) => varB N ct.sc i x | none => false)
  | .glo g, x => (match vName x with | some (x, _) => decide (x = nmS g) && (gloB ct.sc x && okN x) | none => false)
  | .bin k a b, x => (match vBin x with | some (l, op, r, _) => decide (k < 8) && (decide (op = binX k) && (mx ct a l && mx ct b r)) | none => false)
  | .cmp k a b, x => (match vCmp1 x with | some (l, op, r, _) => decide (k < 10) && (decide (op = cmpOf k) && (!behindInMarks op r && (mx ct a l && mx ct b r))) | none => false)
  | .chn k j a b c, x => (match vCmp2 x with | some (l, op, r, op', r', _) => decide (k < 10 ∧ j < 10) && (decide (op = cmpOf k ∧ op' = cmpOf j) && (!behindInMarks op' r' && (mx ct a l && (mx ct b r && mx ct c r')))) | none => false)
  | .inv a, x => (match vUn x with | some (.Invert, y, _) => mx ct a y | _ => false)
  | .neg a, x => (match vUn x with | some (.USub, y, _) => mx ct a y | _ => false)
  | .and a b, x => (match vBool x with
    | some (.And, x, y, [], _) => mx ct a x && mx ct b y
    | some (.And, x, y, r, p) => mx ct a x && mx ct b (.BoolOp .And (y :: r) p)
    | _ => false)
  | .or a b, x => (match vBool x with
    | some (.Or, x, y, [], _) => mx ct a x && mx ct b y
    | some (.Or, x, y, r, p) => mx ct a x && mx ct b (.BoolOp .Or (y :: r) p)
    | _ => false)
  | .not a, x => (match vUn x with | some (.Not, y, _) => mx ct a y | _ => false)
  | .ite c a b, x => (match vIf x with | some (t, x, y, _) => mt ct c t && (mx ct a x && mx ct b y) | none => false)
  | .lst es, x => (match vList x with | some (xs, _) => ms ct es xs | none => false)
  | .nlst es, x => (match vList x with | some (xs, _) => ms ct es xs | none => false)
  | .tup es, x => (match vTup x with | some (xs, _, _) => ms ct es xs | none => false)
  | .att a f, x => (match vAtt x with | some (x, g, _) => argX x && (decide (g = nmS f) && mx ct a x) | none => false)
  | .idx a b, x => (match vSub x with | some (x, y, _) => argX y && (mx ct a x && mx ct b y) | none => false)
  | .slc a lo hi, x => (match vSlc x with | some (x, l, u, _, _) => mx ct a x && (mb ct lo l && mb ct hi u) | none => false)
  | .len a, x => (match vCallN x with | some (f, _, [y], _) => decide (f = "len") && (gloB ct.sc f && (argX y && mx ct a y)) | _ => false)
  | .isi a c, x => (match vCallN x with | some (f, _, [y, z], _) => decide (f = "isinstance") && (gloB ct.sc f && (argX y && (argX z && (mx ct a y && mx ct c z)))) | _ => false)
  | .b1 k a, x => (match vCallN x with | some (f, _, [y], _) => decide (k < 6) && (decide (f = b1N k) && (gloB ct.sc f && (argX y && mx ct a y))) | _ => false)
  | .s1 k a, x => (match vCallN x with | some (f, _, [y], _) => decide (k < 3) && (decide (f = s1N k) && (gloB ct.sc f && (argX y && mx ct a y))) | _ => false)
  | .call f as, x => (match vCallN x with
    | some (y, _, xs, _) => decide ((E.fn f).map nmS = some y) && (gloB ct.sc y && (okN y && (argsX xs && ms ct as xs)))
    | none => false)
  | .meth c m f a as, x => (match vCallM x with
    | some (y, n, p1, xs, p2) => decide (E.md f = some (c, m)) && (decide (n = nmS m) && (argX y && (argsX xs && (decide (xs.length < 30) && ((p1.endLine == p2.line) && (mx ct a y && ms ct as xs))))))
    | none => false)
  | .new x c f as, y => (match vCallN y with
    | some (y, _, xs, _) => decide (E.nw f = some (x, c)) && (decide (y = nmS x) && (gloB ct.sc y && (okN y && (argsX xs && ms ct as xs))))
    | none => false)
  | .lc own tg src c e, x => (match vLc x with
    | some (elt, tgx, iter, ifs, scope, _) => blkC N ct.sc scope (ownP N own) && (!setX iter && (mg N (ct.blk scope) tg tgx && (subP (fun i => own.contains i) (Tg.ix tg) && (mi ct src tgx iter && ((match ifs with | [] => isYes c | [x] => mt (ct.blk scope) c x | _ => false) && mx (ct.blk scope) e elt)))))
    | none => false)
  | .nlc own tg src c e, x => (match vLc x with
    | some (elt, tgx, iter, ifs, scope, _) => blkC N ct.sc scope (ownP N own) && (!setX iter && (mg N (ct.blk scope) tg tgx && (subP (fun i => own.contains i) (Tg.ix tg) && (mi ct src tgx iter && ((match ifs with | [] => isYes c | [x] => mt (ct.blk scope) c x | _ => false) && mx (ct.blk scope) e elt)))))
    | none => false)
  | .app o a, x => (match vCallM x with | some (x, n, p1, [y], p2) => decide (n = "append") && (argX x && (argX y && ((p1.endLine == p2.line) && (mx ct o x && mx ct a y)))) | _ => false)
  | .ext o a, x => (match vCallM x with | some (x, n, p1, [y], p2) => decide (n = "extend") && (argX x && (argX y && ((p1.endLine == p2.line) && (mx ct o x && mx ct a y)))) | _ => false)
  | .popAt o a, x => (match vCallM x with | some (x, n, p1, [y], p2) => decide (n = "pop") && (argX x && (argX y && ((p1.endLine == p2.line) && (mx ct o x && mx ct a y)))) | _ => false)
  | .ins o a b, x => (match vCallM x with | some (x, n, p1, [y, z], p2) => decide (n = "insert") && (argX x && (argX y && (argX z && ((p1.endLine == p2.line) && (mx ct o x && (mx ct a y && mx ct b z)))))) | _ => false)
  | .ixm o a, x => (match vCallM x with | some (x, n, p1, [y], p2) => decide (n = "index") && (argX x && (argX y && ((p1.endLine == p2.line) && (mx ct o x && mx ct a y)))) | _ => false)
  | .pop o, x => (match vCallM x with | some (x, n, p1, [], p2) => decide (n = "pop") && (argX x && ((p1.endLine == p2.line) && mx ct o x)) | _ => false)
  | .frz a, x => mx ct a x
  | .lam g td a, x => (match vLam x with | some (f, _, ps, b, sc, _, _) => ct.lam && (decide (f = nmS g) && (gloB ct.sc f && (okN f && (decide (E.td g = some td) && (noArgs ps && (LamX.lamSB ct.sc sc && mx ⟨sc, fun _ => false, false⟩ a b)))))) | none => false)
  | .bad, _ => false
  | .n1 k a, x => (match vCallN x with | some (f, _, [y], _) => decide (k = 0 ∨ k = 2) && (decide (f = s1N k) && (gloB ct.sc f && (argX y && mx ct a y))) | _ => false)
  | .join o a, x => (match vCallM x with | some (x, n, p1, [y], p2) => decide (n = "join") && (argX x && (argX y && ((p1.endLine == p2.line) && (mx ct o x && mx ct a y)))) | _ => false)
  | .upd o a, x => (match vCallM x with | some (x, n, p1, [y], p2) => decide (n = "update") && (argX x && (argX y && ((p1.endLine == p2.line) && (mx ct o x && mx ct a y)))) | _ => false)
  | .rev a, x => (match vRev x with | some (y, i, _, _, _, _, _) => decide (i = 1) && mx ct a y | none => false)
  | .dct es, x => isNilE es && (vDct0 x).isSome
  | .ndct es, x => isNilE es && (vDct0 x).isSome
  | .dc own tg src c e u, x => (match vDc x with
    | some (kx, vx, tgx, iter, ifs, scope, _) => blkC N ct.sc scope (ownP N own) && (!setX iter && (mg N (ct.blk scope) tg tgx && (subP (fun i => own.contains i) (Tg.ix tg) && (mi ct src tgx iter && ((match ifs with | [] => isYes c | [x] => mt (ct.blk scope) c x | _ => false) && (mx (ct.blk scope) e kx && mx (ct.blk scope) u vx))))))
    | none => false)
  | .ndc own tg src c e u, x => (match vDc x with
    | some (kx, vx, tgx, iter, ifs, scope, _) => blkC N ct.sc scope (ownP N own) && (!setX iter && (mg N (ct.blk scope) tg tgx && (subP (fun i => own.contains i) (Tg.ix tg) && (mi ct src tgx iter && ((match ifs with | [] => isYes c | [x] => mt (ct.blk scope) c x | _ => false) && (mx (ct.blk scope) e kx && mx (ct.blk scope) u vx))))))
    | none => false)
  | .lcK own tg i c e, x => (match vLc x with
    | some (elt, tgx, iter, ifs, scope, _) => blkC N ct.sc scope (ownP N own) && ((match vName iter with | some (y, _) => varB N ct.sc i y | none => false) && (mg N (ct.blk scope) tg tgx && (subP (fun i => own.contains i) (Tg.ix tg) && ((match ifs with | [] => isYes c | [x] => mt (ct.blk scope) c x | _ => false) && mx (ct.blk scope) e elt))))
    | none => false)
  | .lc2 own own2 tg src c tg2 src2 c2 e, x => (match vLc2 x with
    | some (elt, tgx, iter, ifs, tgx2, iter2, ifs2, scope, _) => blkC N ct.sc scope (ownP N own) && (!setX iter && (!setX iter2 && (mg N (ct.blk scope) tg tgx && (subP (fun i => own.contains i) (Tg.ix tg) && (mg N (ct.blk scope) tg2 tgx2 && (subP (fun i => own2.contains i) (Tg.ix tg2) && (subP (fun i => own.contains i) own2 && (mi ct src tgx iter && (isFr src2 && (mi (ct.blk scope) src2 tgx2 iter2 && ((match ifs with | [] => isYes c | [x] => mt (ct.blk scope) c x | _ => false) && ((match ifs2 with | [] => isYes c2 | [x] => mt (ct.blk scope) c2 x | _ => false) && mx (ct.blk scope) e elt))))))))))))
    | none => false)
  | .nlc2 own own2 tg src c tg2 src2 c2 e, x => (match vLc2 x with
    | some (elt, tgx, iter, ifs, tgx2, iter2, ifs2, scope, _) => blkC N ct.sc scope (ownP N own) && (!setX iter && (!setX iter2 && (mg N (ct.blk scope) tg tgx && (subP (fun i => own.contains i) (Tg.ix tg) && (mg N (ct.blk scope) tg2 tgx2 && (subP (fun i => own2.contains i) (Tg.ix tg2) && (subP (fun i => own.contains i) own2 && (mi ct src tgx iter && (isFr src2 && (mi (ct.blk scope) src2 tgx2 iter2 && ((match ifs with | [] => isYes c | [x] => mt (ct.blk scope) c x | _ => false) && ((match ifs2 with | [] => isYes c2 | [x] => mt (ct.blk scope) c2 x | _ => false) && mx (ct.blk scope) e elt))))))))))))
    | none => false)
  | .nbin _ _ _, _ => false
  | .b2 k a b, x => (match vCallN x with | some (f, _, [y, z], _) => decide (k < 2) && (decide (f = b2N k) && (gloB ct.sc f && (argX y && (argX z && (mx ct a y && mx ct b z))))) | _ => false)
  | .get _ _ _, _ => false
  | .cnt _ _, _ => false
  | .callK _ _ _, _ => false
  | .methK _ _ _ _ _ _, _ => false
  | .newK _ _ _ _ _, _ => false
def ms (ct : Ct) : Es → List Expr → Bool
  | .nil, xs => xs.isEmpty
  | .cons a r, xs => (match xs with | x :: xs => argX x && (mx ct a x && ms ct r xs) | [] => false)
def mb (ct : Ct) : Oe → Option Expr → Bool
  | .non, x => x.isNone
  | .one a, x => (match x with | some x => mx ct a x | none => false)
def mt (ct : Ct) : Ts → Expr → Bool
  | .yes, _ => false
  | .val a, x => tvalX x && mx ct a x
  | .cmp k a b, x => (match vCmp1 x with | some (l, op, r, _) => decide (k < 10) && (decide (op = cmpOf k) && (!behindInMarks op r && (mx ct a l && mx ct b r))) | none => false)
  | .chn k j a b c, x => (match vCmp2 x with | some (l, op, r, op', r', _) => decide (k < 10 ∧ j < 10) && (decide (op = cmpOf k ∧ op' = cmpOf j) && (!behindInMarks op' r' && (mx ct a l && (mx ct b r && mx ct c r')))) | none => false)
  | .not a, x => (match vUn x with | some (.Not, y, _) => mt ct a y | _ => false)
  | .and a b, x => (match vBool x with
    | some (.And, x, y, [], _) => mt ct a x && mt ct b y
    | some (.And, x, y, r, p) => mt ct a x && mt ct b (.BoolOp .And (y :: r) p)
    | _ => false)
  | .or a b, x => (match vBool x with
    | some (.Or, x, y, [], _) => mt ct a x && mt ct b y
    | some (.Or, x, y, r, p) => mt ct a x && mt ct b (.BoolOp .Or (y :: r) p)
    | _ => false)
def mi (ct : Ct) : Sr → Expr → Expr → Bool
  | .val a, _, x => mx ct a x
  | .rng a, _, x => (match vCallN x with | some (f, _, [y], _) => decide (f = "range") && (gloB ct.sc f && (argX y && mx ct a y)) | _ => false)
  | .rng2 a b, _, x => (match vCallN x with | some (f, _, [y, z], _) => decide (f = "range") && (gloB ct.sc f && (argX y && (argX z && (mx ct a y && mx ct b z)))) | _ => false)
  | .enm a, t, x => (match vCallN x with | some (f, _, [y], _) => tupX t && (decide (f = "enumerate") && (gloB ct.sc f && (argX y && mx ct a y))) | _ => false)
  | .zip a b, t, x => (match vCallN x with | some (f, _, [y, z], _) => tupX t && (decide (f = "zip") && (gloB ct.sc f && (argX y && (argX z && (mx ct a y && mx ct b z))))) | _ => false)
end
end
/-! ### what the soundness leans on -/
def bltN : List Str := ["len", "isinstance", "int", "list", "tuple", "all", "any", "range", "enumerate", "zip", "dict", "str", "abs", "sum", "max", "min"]
/-- where a def that calls what it got and catches stands -/
structure Tdd (mg : Str → Option Value) (K : PySem.W.Frag) (T : Tb) (fld : Nat → Nat) (x : Str) (td : Td) : Prop where
  ex : ∃ (g : Addr) (a found ev : Str) (Ng : List Str) (pg : Arguments) (bg : List Stmt) (sg : Scope) (dV kV doc pm cdv ct oc : Value) (an od : Option Addr) (osl : Array (Option Value)) (h0 : ExceptHandler) (hds : List ExceptHandler) (ks : List Hc) (jf je : Nat),
    mg x = some (.ref g) ∧ PySem.W.keepIn K (.ref g) = true ∧ K.lookup g = some ⟨oc, od, .func (PySem.W.fnOf x x pg bg sg dV kV doc pm an cdv ct), osl⟩ ∧ PySem.W.codeIn K cdv x = true ∧ L2.Binds K (PySem.W.fnOf x x pg bg sg dV kV doc pm an cdv ct) [a] [] ∧
    FnScope Ng [a] sg ∧ Ng[0]? = some a ∧ Vis sg a ∧ TdR a found bg h0 hds td.mode td.tag ∧ HdsR mg K sg found ev (h0 :: hds) ks ∧ HsK T fld td.hs ks ∧ txOk td.tag ∧ Ng[jf]? = some found ∧ Ng[je]? = some ev ∧ je ≠ jf ∧ jf ≠ 0 ∧ sg.names.lookup found = some .local ∧ sg.names.lookup ev = some .local ∧
    okN a = true ∧ okN ev = true ∧ okN found = true
structure Sd (D : Wd) (G : Gx) (E : Et) (N : List Str) (ct : Ct) (X : Cx) (k : Nat) : Prop where
  ok : TbOk D.T
  hK : D.T.K = X.K
  isF : G.isF = D.T.isF
  hN : X.N = N
  nd : N.Nodup
  hsc : X.env.scope = ct.sc
  hfn : X.fn = ct.fn
  calm : X.calm = true
  rm : Room (k + 2) X.A
  hx : Passes (L2.CX X.prog X.w) X D.E
  tk : Takes X fun c d _ H => D.E c d H
  blt : ∀ x ∈ bltN, X.mg x = none
  glo : ∀ g d, G.glo g = some d → ∃ v, (∀ Hs, RepV D.T Hs v d) ∧ ((∃ u, X.mg (nmS g) = some u ∧ RelV v u) ∨ (X.mg (nmS g) = none ∧ ∃ u, bootBuiltins (nmS g) = some u ∧ RelV v u))
  fns : ∀ f n, E.fn f = some n → ∃ a fd ps, Fd X k (nmS n) a fd ps (spF D.T D.fld (G.φ f))
  mds : ∀ f c n, E.md f = some (c, n) → ∃ C a fd ps, D.T.cls c = some C ∧ Md X k C n a fd ps (spF D.T D.fld (G.φ f))
  nws : ∀ f x c, E.nw f = some (x, c) → ∃ C a fd ps, D.T.cls c = some C ∧ Nd X k (nmS x) C a fd ps (spF D.T D.fld (G.φ f))
  spc : ∀ j c f, G.spc j c = some f → ∃ n, spN j = some n ∧ E.md f = some (c, n) ∧ ∀ C, D.T.cls c = some C → OwnK D.T X.K C
  xcs : ∀ c x, E.xc c = some x → ∃ C fI fd ps, Xd X D.T D.fld c (nmS x) C fI fd ps
  tds : ∀ x td, E.td x = some td → Tdd X.mg X.K D.T D.fld (nmS x) td
  lms : ct.lam = true → Room (k + 4) X.A ∧ ∃ c P, LamX.TabB X.base X.mg c P ∧ X.env.code = .ref c ∧ (P, X.env.qual ++ "<lambda>") ∈ D.T.tabs ∧ ∀ p ∈ D.T.tabs, p.1 = P → p.2 = X.env.qual ++ "<lambda>"
theorem ba {a b : Bool} (h : (a && b) = true) : a = true ∧ b = true := Bool.and_eq_true_iff.mp h
def vOf : PV → V
  | .bl b => .bl b
  | .int i => .int i
  | .str s => .str (tx s)
  | .ty n => .ty (tyN n)
  | _ => .non
section
variable {D : Wd} {G : Gx} {E : Et} {N : List Str} {ct : Ct} {X : Cx} {k : Nat}
theorem Sd.un (S : Sd D G E N ct X k) : X.A.units + 65 < cLine := by have := S.rm.un; omega
theorem Sd.spcOk (S : Sd D G E N ct X k) : SpcOk D X k G.spc G.φ := fun j c f w => by
  obtain ⟨n, h1, h2, h3⟩ := S.spc j c f w
  obtain ⟨C, a, fd, ps, k1, k2⟩ := S.mds f c n h2
  exact ⟨n, h1, C, a, fd, ps, k1, k2, h3 C k1⟩
theorem okN_d {x : Str} (h : okN x = true) : (x == ("__debug__" : Str)) = false ∧ (x == ("__classdict__" : Str)) = false ∧ x ≠ ("__name__" : Str) := by
  obtain ⟨h1, h3⟩ := ba h
  obtain ⟨h1, h2⟩ := ba h1
  refine ⟨by simpa using h1, by simpa using h2, fun e => ?_⟩
  subst e
  simp at h3
theorem Sd.gl (S : Sd D G E N ct X k) {x : Str} (h : gloB ct.sc x = true) : Gl X x := by
  unfold gloB at h
  show X.env.scope.names.lookup x = some .globalImplicit
  rw [S.hsc]
  split at h
  · assumption
  · cases h
theorem Sd.var (S : Sd D G E N ct X k) {i : Nat} {x : Str} {pos : Pos} (h : varB N ct.sc i x = true) : PE X (.Name x pos) (tVar i) := by
  obtain ⟨h1, h2⟩ := ba h
  obtain ⟨h2, h3⟩ := ba h2
  obtain ⟨d1, d2, _⟩ := okN_d h3
  refine pe_var (by rw [S.hN]; exact of_decide_eq_true h1) ?_ d1 d2
  unfold visB at h2
  unfold Vis
  rw [S.hsc]
  split at h2
  · exact .inl (by assumption)
  · exact .inr (.inl (by assumption))
  · exact .inr (.inr (by assumption))
  · cases h2
theorem cst_ok {d : PV} {c : Const} {j : Nat} {pos : Pos} (h : cstB d c = true) : PE X (.Constant c j pos) (tC (vOf d)) ∧ (∀ Hs, RepV D.T Hs (vOf d) d) ∧ d.atom = true := by
  cases d with
  | non => cases c <;> first | exact ⟨pe_non, fun Hs => .non, rfl⟩ | (cases h)
  | bl b =>
    cases c with
    | bool c =>
      have e : b = c := by simpa [cstB] using h
      subst e
      exact ⟨pe_bl, fun Hs => .bl b, rfl⟩
    | _ => cases h
  | int i =>
    cases c with
    | int c =>
      have e : i = c := by simpa [cstB] using h
      subst e
      exact ⟨pe_int, fun Hs => .int i, rfl⟩
    | _ => cases h
  | str s =>
    cases c with
    | str c =>
      obtain ⟨h1, h2⟩ := ba (show (decide (c = tx s) && (decide (s.length ≤ 16777216) && s.all fun c => decide (c < 1114112))) = true from h)
      obtain ⟨h2, h3⟩ := ba h2
      have e : c = tx s := of_decide_eq_true h1
      subst e
      refine ⟨pe_str, fun Hs => .str s ⟨by rw [sizeLine_eq]; exact of_decide_eq_true h2, fun c hc => ?_⟩, rfl⟩
      exact of_decide_eq_true (List.all_eq_true.mp h3 c hc)
    | _ => cases h
  | _ => cases c <;> cases h
theorem glo_ok (S : Sd D G E N ct X k) {g : Nat} {x : Str} {pos : Pos} (hx : x = nmS g) (hg : gloB ct.sc x = true) (hk : okN x = true) : PE X (.Name x pos) (semE D (gloE (G.glo g))) := by
  subst hx
  obtain ⟨d1, d2, d3⟩ := okN_d hk
  cases w : G.glo g with
  | none => exact ⟨fun pins s σ H Q I z => by obtain ⟨Hs, ρ, h, env, sy, er, p⟩ := z; exact p.elim⟩
  | some d =>
    by_cases ha : d.atom = true
    · obtain ⟨v, hr, h⟩ := S.glo g d w
      rcases h with ⟨u, h1, h2⟩ | ⟨h1, u, h2, h3⟩
      · exact ev_gloE rfl (pe_glob (S.gl hg) h1 h2 d1) hr ha
      · exact ev_gloE rfl (pe_bltn (S.gl hg) h1 h2 h3 d3 d1) hr ha
    · refine ⟨fun pins s σ H Q I z => ?_⟩
      obtain ⟨Hs, ρ, h, env, sy, er, p⟩ := z
      unfold gloE at p
      dsimp only at p
      rw [if_neg ha] at p
      exact p.elim
theorem b1_ok (S : Sd D G E N ct X k) : ∀ {j : Nat} {x : Expr} {f : Env → Hm → R Vl} {p pos : Pos}, j < 6 → gloB ct.sc (b1N j) = true → argX x = true → PE X x (semE D f) → PE X (.Call (.Name (b1N j) p) [x] [] pos) (semE D (op1 f (opA1 (b1V j))))
  | 0, x, f, p, pos, _, hg, hs, h => ev_int (S.gl hg) (S.blt _ (by decide)) h hs
  | 1, x, f, p, pos, _, hg, hs, h => ev_all S.hK S.calm (S.gl hg) (S.blt _ (by decide)) h hs
  | 2, x, f, p, pos, _, hg, hs, h => ev_any S.hK S.calm (S.gl hg) (S.blt _ (by decide)) h hs
  | 3, x, f, p, pos, _, hg, hs, h => ev_abs (S.gl hg) (S.blt _ (by decide)) h hs
  | 4, x, f, p, pos, _, hg, hs, h => ev_sum S.hK S.calm (S.gl hg) (S.blt _ (by decide)) h hs
  | 5, x, f, p, pos, _, hg, hs, h => ev_str (S.gl hg) (S.blt _ (by decide)) h hs
  | j + 6, _, _, _, _, hj, _, _, _ => by omega
theorem b2_ok (S : Sd D G E N ct X k) : ∀ {j : Nat} {x y : Expr} {f g : Env → Hm → R Vl} {p pos : Pos}, j < 2 → gloB ct.sc (b2N j) = true → argX x = true → argX y = true → PE X x (semE D f) → PE X y (semE D g) → PE X (.Call (.Name (b2N j) p) [x, y] [] pos) (semE D (op2 f g (opA (b2V j))))
  | 0, x, y, f, g, p, pos, _, hg, h1, h2, ha, hb => ev_max2 S.calm (S.gl hg) (S.blt _ (by decide)) ha hb h1 h2
  | 1, x, y, f, g, p, pos, _, hg, h1, h2, ha, hb => ev_min2 S.calm (S.gl hg) (S.blt _ (by decide)) ha hb h1 h2
  | j + 2, _, _, _, _, _, _, hj, _, _, _, _, _ => by omega
theorem s1_ok (S : Sd D G E N ct X k) : ∀ {j : Nat} {x : Expr} {f : Env → Hm → R Vl} {p pos : Pos}, j < 3 → gloB ct.sc (s1N j) = true → argX x = true → PE X x (semE D f) → PE X (.Call (.Name (s1N j) p) [x] [] pos) (semE D (op1 f (opS1 (s1V j))))
  | 0, x, f, p, pos, _, hg, hs, h => ev_list S.hK (S.gl hg) (S.blt _ (by decide)) h hs
  | 1, x, f, p, pos, _, hg, hs, h => ev_tuple S.hK (S.gl hg) (S.blt _ (by decide)) h hs
  | 2, x, f, p, pos, _, hg, hs, h => ev_dictG S.hK S.calm kv_dict (S.gl hg) (S.blt _ (by decide)) h hs
  | j + 3, _, _, _, _, hj, _, _, _ => by omega
theorem n1_ok (S : Sd D G E N ct X k) : ∀ {j : Nat} {x : Expr} {f : Env → Hm → R Vl} {p pos : Pos}, (j = 0 ∨ j = 2) → gloB ct.sc (s1N j) = true → argX x = true → PE X x (semE D f) → PE X (.Call (.Name (s1N j) p) [x] [] pos) (semE D (op1 f (opN1 (s1V j))))
  | 0, x, f, p, pos, _, hg, hs, h => by
    refine ev_t1 call_list_of ?_ (S.gl hg) (S.blt _ (by decide)) boot_list (by decide) (by decide) h hs
    have q := kv_nlist (D := D)
    rw [S.hK] at q
    exact q
  | 2, x, f, p, pos, _, hg, hs, h => ev_dictG S.hK S.calm kv_ndict (S.gl hg) (S.blt _ (by decide)) h hs
  | 1, _, _, _, _, hj, _, _, _ => by omega
  | j + 3, _, _, _, _, hj, _, _, _ => by omega
theorem Sd.loc (S : Sd D G E N ct X k) {x : Str} (h : locC ct x = true) : L2.Loc X.env.scope x ∧ (X.fn x = true ∨ X.env.scope.names.lookup x = some .local) := by
  unfold locC at h
  unfold L2.Loc
  rw [S.hsc, S.hfn]
  split at h
  · rename_i e; exact ⟨.inl e, .inr e⟩
  · rename_i e; exact ⟨.inr e, .inl h⟩
  · cases h
mutual
theorem mg_ok : ∀ (t : Tg) (S : Sd D G E N ct X k) (x : Expr), mg N ct t x = true → PG X x (semG D (Tg.ix t) (G.tg t)) ∧ (∀ r ev, (assignEach (x :: r) ev).map (·.2) = assign x ev :: (assignEach r ev).map (·.2)) ∧ (∀ r ev, (assignEach (x :: r) ev).length = (assignEach r ev).length + 1) ∧ ∀ r ev, (assignEach r ev).findIdx? (·.1) = none → (assignEach (x :: r) ev).findIdx? (·.1) = none
  | .nm i, S, x, h => by
    cases x with
    | Name x p =>
      obtain ⟨g1, g2⟩ := ba (show (decide (N[i]? = some x) && locC ct x) = true from h)
      obtain ⟨h1, h2⟩ := S.loc g2
      refine ⟨g_name (by rw [S.hN]; exact S.nd) (by rw [S.hN]; exact of_decide_eq_true g1) h1 h2, fun _ _ => rfl, fun _ _ => rfl, fun r ev q => ?_⟩
      show ((false, _) :: assignEach r ev).findIdx? (·.1) = none
      rw [List.findIdx?_cons, q]
      rfl
    | _ => cases h
  | .tp ts, S, x, h => by
    cases x with
    | Tuple xs kk p =>
      obtain ⟨h1, h2, h3⟩ := mgs_ok ts S xs (show mgs N ct ts xs = true from h)
      refine ⟨g_seq S.calm h1 (h2 _) (h3 _), fun _ _ => rfl, fun _ _ => rfl, fun r ev q => ?_⟩
      show ((false, _) :: assignEach r ev).findIdx? (·.1) = none
      rw [List.findIdx?_cons, q]
      rfl
    | _ => cases h
theorem mgs_ok : ∀ (ts : Tgs) (S : Sd D G E N ct X k) (xs : List Expr), mgs N ct ts xs = true → PGs X xs (semGs D (Tgs.ix ts) (G.tgs ts)) ∧ (∀ ev, (assignEach xs ev).length = Tgs.len ts) ∧ ∀ ev, (assignEach xs ev).findIdx? (·.1) = none
  | .nil, S, [], h => ⟨gs_nil, fun _ => rfl, fun _ => rfl⟩
  | .nil, S, _ :: _, h => by cases h
  | .cons t r, S, [], h => by cases h
  | .cons t r, S, x :: xs, h => by
    obtain ⟨g1, g2⟩ := ba (show (mg N ct t x && mgs N ct r xs) = true from h)
    obtain ⟨h1, h2, h3, h4⟩ := mg_ok t S x g1
    obtain ⟨k1, k2, k3⟩ := mgs_ok r S xs g2
    exact ⟨gs_cons h1 k1 (h2 _ _), fun ev => by rw [h3, k2]; rfl, fun ev => h4 _ _ (k3 ev)⟩
end
theorem Sd.blk (S : Sd D G E N ct X k) (scope : Scope) (s : Shared) (H : Hp) (C : Addr) (cl : List (Str × Addr)) (fp : List Addr) : Sd D.blk G E N (ct.blk scope) (X.blk s H scope (compEnvC scope cl C X.env) fp) k := by
  refine ⟨S.ok, S.hK, S.isF, S.hN, S.nd, ?_, rfl, S.calm, S.rm, fun pins σ H s e s' I c => ?_, L2.takes0, S.blt, S.glo, fun f n w => ?_, fun f c n w => ?_, fun f x c w => ?_, S.spc, fun c x w => ?_, fun x td w => ⟨(S.tds x td w).ex⟩, fun z => Bool.noConfusion z⟩
  · show relabel scope X.env = relS scope ct.sc
    rw [← S.hsc]
    rfl
  · obtain ⟨a, B, H', cls, d, _, _, _, _, _, _, _, z⟩ := c
    exact z.elim
  · obtain ⟨a, fd, ps, F⟩ := S.fns f n w
    exact ⟨a, fd, ps, ⟨F.ok, F.mg, F.kp, F.bd⟩⟩
  · obtain ⟨C, a, fd, ps, h, F⟩ := S.mds f c n w
    exact ⟨C, a, fd, ps, h, ⟨F.ok, F.cl, F.mt, F.bd⟩⟩
  · obtain ⟨C, a, fd, ps, h, F⟩ := S.nws f x c w
    exact ⟨C, a, fd, ps, h, ⟨F.ok, F.mkr, F.mg, F.bd⟩⟩
  · obtain ⟨C, fI, fd, ps, F⟩ := S.xcs c x w
    exact ⟨C, fI, fd, ps, ⟨F.xc, F.mg, F.T, F.iC, F.tI, F.bd, F.ok⟩⟩
/-- the body of a lambda -/
theorem Sd.lam (S : Sd D G E N ct X k) (scope : Scope) (A : Around) (outer : List PySem.Env) (s : Shared) (H : Hp) (E' : XK) (f c : Addr) (hr : Room (k + 2) (A.deeper (LamX.lamEnv X scope s.heap.objs.size f c))) : Sd ⟨D.T, D.fld, E'⟩ G E N ⟨scope, fun _ => false, false⟩ (LamX.lamCx X A outer s H E' scope f c) k := by
  refine ⟨S.ok, S.hK, S.isF, S.hN, S.nd, rfl, rfl, rfl, hr, passes_call (takes_of rfl rfl rfl rfl) (fun _ _ _ _ z => z), takes_of rfl rfl rfl rfl, S.blt, S.glo, fun f n w => ?_, fun f c n w => ?_, fun f x c w => ?_, S.spc, fun c x w => ?_, fun x td w => ⟨(S.tds x td w).ex⟩, fun z => Bool.noConfusion z⟩
  · obtain ⟨a, fd, ps, F⟩ := S.fns f n w
    exact ⟨a, fd, ps, ⟨F.ok, F.mg, F.kp, F.bd⟩⟩
  · obtain ⟨C, a, fd, ps, h, F⟩ := S.mds f c n w
    exact ⟨C, a, fd, ps, h, ⟨F.ok, F.cl, F.mt, F.bd⟩⟩
  · obtain ⟨C, a, fd, ps, h, F⟩ := S.nws f x c w
    exact ⟨C, a, fd, ps, h, ⟨F.ok, F.mkr, F.mg, F.bd⟩⟩
  · obtain ⟨C, fI, fd, ps, F⟩ := S.xcs c x w
    exact ⟨C, fI, fd, ps, ⟨F.xc, F.mg, F.T, F.iC, F.tI, F.bd, F.ok⟩⟩
end
theorem ms_nil {G : Gx} {E : Et} {N : List Str} {ct : Ct} {as : Es} (h : ms E N ct as [] = true) : G.es as = esNil := by
  cases as with
  | nil => rfl
  | cons a r => cases h
theorem own_map {N : List Str} {own : List Nat} : (ownP N own).map (·.2) = own := by
  unfold ownP
  rw [List.map_map]
  exact List.map_id _
theorem subP_ok {p : Nat → Bool} : ∀ {l : List Nat}, subP p l = true → ∀ i ∈ l, p i = true
  | [], _, i, hi => by simp at hi
  | j :: r, h, i, hi => by
    obtain ⟨h1, h2⟩ := ba (show (p j && subP p r) = true from h)
    rcases List.mem_cons.mp hi with rfl | hi
    · exact h1
    · exact subP_ok h2 i hi
def SrcAll (G : Gx) : ∀ s : Sr, SrcOk (G.sr s)
  | .val a => src_val
  | .rng a => src_range
  | .rng2 a b => src_range2
  | .enm a => src_enum
  | .zip a b => src_zip
open PySem in
/-- a comprehension's parts, for its two readings -/
theorem lc_parts {D : Wd} {G : Gx} {E : Et} {N : List Str} {ct : Ct} {X : Cx} {k : Nat} (S : Sd D G E N ct X k) {own : List Nat} {tg : Tg} {src : Sr} {c : Ts} {e : Ex} {elt tgx iter : Expr} {ifs : List Expr} {scope : Scope} {p : Pos}
    (h : (blkC N ct.sc scope (ownP N own) && (!setX iter && (mg N (ct.blk scope) tg tgx && (subP (fun i => own.contains i) (Tg.ix tg) && (mi E N ct src tgx iter && ((match ifs with | [] => isYes c | [x] => mt E N (ct.blk scope) c x | _ => false) && mx E N (ct.blk scope) e elt)))))) = true)
    (hi : mi E N ct src tgx iter = true → PI X tgx iter (semI D (G.sr src))) (ht : ∀ (X' : Cx), Sd D.blk G E N (ct.blk scope) X' k → ∀ y, mt E N (ct.blk scope) c y = true → PT X' y (semT D.blk (G.ts c)))
    (he : ∀ (X' : Cx), Sd D.blk G E N (ct.blk scope) X' k → ∀ y, mx E N (ct.blk scope) e y = true → PE X' y (semE D.blk (G.ex e))) :
    PE X (.ListComp elt [⟨tgx, iter, ifs, 0⟩] scope p) (tLc (semI D (G.sr src)) (semG D.blk (Tg.ix tg) (G.tg tg)) (semT D.blk (G.ts c)) (semE D.blk (G.ex e)) own) ∧ (∀ i ∈ Tg.ix tg, i ∈ own) ∧
    ∀ {i : Nat} {y : Str} {py spos : Pos}, N[i]? = some y → ct.sc.names.lookup y = some .local → swapsWith (.ListComp elt [⟨tgx, iter, ifs, 0⟩] scope p) (some (.Name y py)) spos.line X.env = pure true →
      PS X (.Assign [.Name y py] (.ListComp elt [⟨tgx, iter, ifs, 0⟩] scope p) spos) (tAsg (tLc (semI D (G.sr src)) (semG D.blk (Tg.ix tg) (G.tg tg)) (semT D.blk (G.ts c)) (semE D.blk (G.ex e)) own) (gName i)) := by
  obtain ⟨g1, g2⟩ := ba h
  obtain ⟨g3, g4⟩ := ba g2
  obtain ⟨g5, g6⟩ := ba g4
  obtain ⟨g7, g8⟩ := ba g6
  obtain ⟨g9, g10⟩ := ba g8
  obtain ⟨g11, g12⟩ := ba g10
  have ts : ∀ (X' : Cx), Sd D.blk G E N (ct.blk scope) X' k → PTs X' ifs (semT D.blk (G.ts c)) := fun X' S' => by
    match ifs, g11 with
    | [], g11 =>
      cases c with
      | yes => exact ⟨fun pins s σ H Q I z => pts_nil.run pins s σ H Q I (t_yes rfl σ H Q z)⟩
      | _ => cases g11
    | [x], g11 => exact pts_one (ht X' S' x g11)
    | _ :: _ :: _, g11 => cases g11
  have hset : ∀ x, foldedSetIterable iter X.env x = pure x := fun x => by
    cases iter <;> first | rfl | (simp [setX] at g3)
  have ok : BlkOk X.N X.env.scope scope (ownP N own) := by rw [S.hN, S.hsc]; exact blkOk_by g1
  have q := pe_lc (elt := elt) (pos := p) S.calm (by rw [S.hN]; exact S.nd) (hi g9) ok (fun s H C cl fp => (mg_ok tg (S.blk scope s H C cl fp) tgx g5).1) (fun s H C cl fp => ts _ (S.blk scope s H C cl fp)) (fun s H C cl fp => he _ (S.blk scope s H C cl fp) elt g12) hset
  rw [own_map] at q
  refine ⟨q, fun i hi => by simpa using subP_ok g7 i hi, fun {i y py spos} hy hl hs => ?_⟩
  have q2 := ps_setLc (i := i) (y := y) (py := py) (spos := spos) (elt := elt) (pos := p) S.calm (by rw [S.hN]; exact S.nd) (by rw [S.hN]; exact hy) (by rw [S.hsc]; exact hl) hs (hi g9) ok (fun s H C cl fp => (mg_ok tg (S.blk scope s H C cl fp) tgx g5).1) (fun s H C cl fp => ts _ (S.blk scope s H C cl fp)) (fun s H C cl fp => he _ (S.blk scope s H C cl fp) elt g12) hset
  rw [own_map] at q2
  exact q2
theorem ifs_ok {D : Wd} {G : Gx} {E : Et} {N : List Str} {ct : Ct} {X : Cx} {k : Nat} {c : Ts} {ifs : List Expr} (S : Sd D G E N ct X k) (g11 : (match ifs with | [] => isYes c | [x] => mt E N ct c x | _ => false) = true)
    (ht : ∀ y, mt E N ct c y = true → PT X y (semT D (G.ts c))) : PTs X ifs (semT D (G.ts c)) := by
  match ifs, g11 with
  | [], g11 =>
    cases c with
    | yes => exact ⟨fun pins s σ H Q I z => pts_nil.run pins s σ H Q I (t_yes rfl σ H Q z)⟩
    | _ => cases g11
  | [x], g11 => exact pts_one (ht x g11)
  | _ :: _ :: _, g11 => cases g11
open PySem in
theorem lc2_parts {D : Wd} {G : Gx} {E : Et} {N : List Str} {ct : Ct} {X : Cx} {k : Nat} (S : Sd D G E N ct X k) {own own2 : List Nat} {tg tg2 : Tg} {src src2 : Sr} {c c2 : Ts} {e : Ex} {elt tgx iter tgx2 iter2 : Expr} {ifs ifs2 : List Expr} {scope : Scope} {p : Pos}
    (h : (blkC N ct.sc scope (ownP N own) && (!setX iter && (!setX iter2 && (mg N (ct.blk scope) tg tgx && (subP (fun i => own.contains i) (Tg.ix tg) && (mg N (ct.blk scope) tg2 tgx2 && (subP (fun i => own2.contains i) (Tg.ix tg2) && (subP (fun i => own.contains i) own2 && (mi E N ct src tgx iter && (isFr src2 && (mi E N (ct.blk scope) src2 tgx2 iter2 && ((match ifs with | [] => isYes c | [x] => mt E N (ct.blk scope) c x | _ => false) && ((match ifs2 with | [] => isYes c2 | [x] => mt E N (ct.blk scope) c2 x | _ => false) && mx E N (ct.blk scope) e elt))))))))))))) = true)
    (hi : mi E N ct src tgx iter = true → PI X tgx iter (semI D (G.sr src))) (hi2 : ∀ (X' : Cx), Sd D.blk G E N (ct.blk scope) X' k → mi E N (ct.blk scope) src2 tgx2 iter2 = true → PI X' tgx2 iter2 (semIF D.blk (G.sr src2)))
    (ht : ∀ (X' : Cx), Sd D.blk G E N (ct.blk scope) X' k → ∀ y, mt E N (ct.blk scope) c y = true → PT X' y (semT D.blk (G.ts c))) (ht2 : ∀ (X' : Cx), Sd D.blk G E N (ct.blk scope) X' k → ∀ y, mt E N (ct.blk scope) c2 y = true → PT X' y (semT D.blk (G.ts c2)))
    (he : ∀ (X' : Cx), Sd D.blk G E N (ct.blk scope) X' k → ∀ y, mx E N (ct.blk scope) e y = true → PE X' y (semE D.blk (G.ex e))) :
    PE X (.ListComp elt [⟨tgx, iter, ifs, 0⟩, ⟨tgx2, iter2, ifs2, 0⟩] scope p) (tLc2 (semI D (G.sr src)) (semG D.blk (Tg.ix tg) (G.tg tg)) (semT D.blk (G.ts c)) (semIF D.blk (G.sr src2)) (semG D.blk (Tg.ix tg2) (G.tg tg2)) (semT D.blk (G.ts c2)) (semE D.blk (G.ex e)) own own2) ∧ (∀ i ∈ Tg.ix tg, i ∈ own) ∧ (∀ i ∈ Tg.ix tg2, i ∈ own2) ∧
    ∀ {i : Nat} {y : Str} {py spos : Pos}, N[i]? = some y → ct.sc.names.lookup y = some .local → swapsWith (.ListComp elt [⟨tgx, iter, ifs, 0⟩, ⟨tgx2, iter2, ifs2, 0⟩] scope p) (some (.Name y py)) spos.line X.env = pure true →
      PS X (.Assign [.Name y py] (.ListComp elt [⟨tgx, iter, ifs, 0⟩, ⟨tgx2, iter2, ifs2, 0⟩] scope p) spos) (tAsg (tLc2 (semI D (G.sr src)) (semG D.blk (Tg.ix tg) (G.tg tg)) (semT D.blk (G.ts c)) (semIF D.blk (G.sr src2)) (semG D.blk (Tg.ix tg2) (G.tg tg2)) (semT D.blk (G.ts c2)) (semE D.blk (G.ex e)) own own2) (gName i)) := by
  obtain ⟨g1, h⟩ := ba h
  obtain ⟨g2, h⟩ := ba h
  obtain ⟨g3, h⟩ := ba h
  obtain ⟨g4, h⟩ := ba h
  obtain ⟨g5, h⟩ := ba h
  obtain ⟨g6, h⟩ := ba h
  obtain ⟨g7, h⟩ := ba h
  obtain ⟨g8, h⟩ := ba h
  obtain ⟨g9, h⟩ := ba h
  obtain ⟨g10, h⟩ := ba h
  obtain ⟨g11, h⟩ := ba h
  obtain ⟨g12, h⟩ := ba h
  obtain ⟨g13, g14⟩ := ba h
  have hset : ∀ x, foldedSetIterable iter X.env x = pure x := fun x => by
    cases iter <;> first | rfl | (simp [setX] at g2)
  have hset2 : ∀ env x, foldedSetIterable iter2 env x = pure x := fun env x => by
    cases iter2 <;> first | rfl | (simp [setX] at g3)
  have ok : BlkOk X.N X.env.scope scope (ownP N own) := by rw [S.hN, S.hsc]; exact blkOk_by g1
  have hv : ∀ i ∈ own2, i ∈ (ownP N own).map (·.2) := fun i hi => by
    have := subP_ok g8 i hi
    rw [own_map]
    simpa using this
  have q := pe_lc2 (elt := elt) (pos := p) S.calm (by rw [S.hN]; exact S.nd) (hi g9) ok hv (fun s H C cl fp => (mg_ok tg (S.blk scope s H C cl fp) tgx g4).1) (fun s H C cl fp => ifs_ok (S.blk scope s H C cl fp) g12 (ht _ (S.blk scope s H C cl fp))) (fun s H C cl fp => hi2 _ (S.blk scope s H C cl fp) g11) (fun s H C cl fp => (mg_ok tg2 (S.blk scope s H C cl fp) tgx2 g6).1) (fun s H C cl fp => ifs_ok (S.blk scope s H C cl fp) g13 (ht2 _ (S.blk scope s H C cl fp))) (fun s H C cl fp => he _ (S.blk scope s H C cl fp) elt g14) hset hset2
  rw [own_map] at q
  refine ⟨q, fun i hi => by simpa using subP_ok g5 i hi, fun i hi => by simpa using subP_ok g7 i hi, fun {i y py spos} hy hl hs => ?_⟩
  have q2 := ps_setLc2 (i := i) (y := y) (py := py) (spos := spos) (elt := elt) (pos := p) S.calm (by rw [S.hN]; exact S.nd) (by rw [S.hN]; exact hy) (by rw [S.hsc]; exact hl) hs (hi g9) ok hv (fun s H C cl fp => (mg_ok tg (S.blk scope s H C cl fp) tgx g4).1) (fun s H C cl fp => ifs_ok (S.blk scope s H C cl fp) g12 (ht _ (S.blk scope s H C cl fp))) (fun s H C cl fp => hi2 _ (S.blk scope s H C cl fp) g11) (fun s H C cl fp => (mg_ok tg2 (S.blk scope s H C cl fp) tgx2 g6).1) (fun s H C cl fp => ifs_ok (S.blk scope s H C cl fp) g13 (ht2 _ (S.blk scope s H C cl fp))) (fun s H C cl fp => he _ (S.blk scope s H C cl fp) elt g14) hset hset2
  rw [own_map] at q2
  exact q2
open PySem in
theorem dc_parts {D : Wd} {G : Gx} {E : Et} {N : List Str} {ct : Ct} {X : Cx} {k : Nat} (S : Sd D G E N ct X k) {own : List Nat} {tg : Tg} {src : Sr} {c : Ts} {e u : Ex} {kx vx tgx iter : Expr} {ifs : List Expr} {scope : Scope} {p : Pos}
    (h : (blkC N ct.sc scope (ownP N own) && (!setX iter && (mg N (ct.blk scope) tg tgx && (subP (fun i => own.contains i) (Tg.ix tg) && (mi E N ct src tgx iter && ((match ifs with | [] => isYes c | [x] => mt E N (ct.blk scope) c x | _ => false) && (mx E N (ct.blk scope) e kx && mx E N (ct.blk scope) u vx))))))) = true)
    (hi : mi E N ct src tgx iter = true → PI X tgx iter (semI D (G.sr src))) (ht : ∀ (X' : Cx), Sd D.blk G E N (ct.blk scope) X' k → ∀ y, mt E N (ct.blk scope) c y = true → PT X' y (semT D.blk (G.ts c)))
    (he : ∀ (X' : Cx), Sd D.blk G E N (ct.blk scope) X' k → ∀ y, mx E N (ct.blk scope) e y = true → PE X' y (semE D.blk (G.ex e)))
    (hu : ∀ (X' : Cx), Sd D.blk G E N (ct.blk scope) X' k → ∀ y, mx E N (ct.blk scope) u y = true → PE X' y (semE D.blk (G.ex u))) :
    PE X (.DictComp kx vx [⟨tgx, iter, ifs, 0⟩] scope p) (semE D (ndcV own (G.sr src) (G.tg tg) (G.ts c) (G.ex e) (G.ex u))) := by
  obtain ⟨g1, g2⟩ := ba h
  obtain ⟨g3, g4⟩ := ba g2
  obtain ⟨g5, g6⟩ := ba g4
  obtain ⟨g7, g8⟩ := ba g6
  obtain ⟨g9, g10⟩ := ba g8
  obtain ⟨g11, g12⟩ := ba g10
  obtain ⟨g12, g13⟩ := ba g12
  have hset : ∀ x, foldedSetIterable iter X.env x = pure x := fun x => by
    cases iter <;> first | rfl | (simp [setX] at g3)
  have ok : BlkOk X.N X.env.scope scope (ownP N own) := by rw [S.hN, S.hsc]; exact blkOk_by g1
  have q := pe_dc (kx := kx) (vx := vx) (pos := p) S.calm (by rw [S.hN]; exact S.nd) (hi g9) ok (fun s H C cl fp => (mg_ok tg (S.blk scope s H C cl fp) tgx g5).1) (fun s H C cl fp => ifs_ok (S.blk scope s H C cl fp) g11 (ht _ (S.blk scope s H C cl fp))) (fun s H C cl fp => he _ (S.blk scope s H C cl fp) kx g12) (fun s H C cl fp => hu _ (S.blk scope s H C cl fp) vx g13) hset
  rw [own_map] at q
  exact PE.imp q (sem_ndc (SrcAll G src) fun i hi => by simpa using subP_ok g7 i hi)
open PySem in
theorem lcK_parts {D : Wd} {G : Gx} {E : Et} {N : List Str} {ct : Ct} {X : Cx} {k : Nat} (S : Sd D G E N ct X k) {own : List Nat} {tg : Tg} {i : Nat} {c : Ts} {e : Ex} {elt tgx iter : Expr} {ifs : List Expr} {scope : Scope} {p : Pos}
    (h : (blkC N ct.sc scope (ownP N own) && ((match vName iter with | some (y, _) => varB N ct.sc i y | none => false) && (mg N (ct.blk scope) tg tgx && (subP (fun i => own.contains i) (Tg.ix tg) && ((match ifs with | [] => isYes c | [x] => mt E N (ct.blk scope) c x | _ => false) && mx E N (ct.blk scope) e elt))))) = true)
    (ht : ∀ (X' : Cx), Sd D.blk G E N (ct.blk scope) X' k → ∀ y, mt E N (ct.blk scope) c y = true → PT X' y (semT D.blk (G.ts c)))
    (he : ∀ (X' : Cx), Sd D.blk G E N (ct.blk scope) X' k → ∀ y, mx E N (ct.blk scope) e y = true → PE X' y (semE D.blk (G.ex e))) :
    PE X (.ListComp elt [⟨tgx, iter, ifs, 0⟩] scope p) (semE D (lcKV own i (G.tg tg) (G.ts c) (G.ex e))) := by
  obtain ⟨g1, g2⟩ := ba h
  obtain ⟨g3, g4⟩ := ba g2
  obtain ⟨g5, g6⟩ := ba g4
  obtain ⟨g7, g8⟩ := ba g6
  obtain ⟨g11, g12⟩ := ba g8
  cases w : vName iter with
  | none => rw [w] at g3; cases g3
  | some r =>
    obtain ⟨y, py⟩ := r
    rw [w] at g3
    have ei := vName_ok w
    dsimp only at ei g3
    subst ei
    have ok : BlkOk X.N X.env.scope scope (ownP N own) := by rw [S.hN, S.hsc]; exact blkOk_by g1
    have q := pe_lc (elt := elt) (pos := p) S.calm (by rw [S.hN]; exact S.nd) (pi_keys (tg := tgx) (S.var (pos := py) g3)) ok (fun s H C cl fp => (mg_ok tg (S.blk scope s H C cl fp) tgx g5).1) (fun s H C cl fp => ifs_ok (S.blk scope s H C cl fp) g11 (ht _ (S.blk scope s H C cl fp))) (fun s H C cl fp => he _ (S.blk scope s H C cl fp) elt g12) (fun _ => rfl)
    rw [own_map] at q
    exact PE.imp (pe_lockOr q) (sem_lcK fun i hi => by simpa using subP_ok g7 i hi)
end HV

end

section
/-! V10: an expression that matches means what the evaluator says. -/
namespace HV
open PySem PySem.Spec PyProof.Rows L2
mutual
theorem mx_ok : ∀ (e : Ex) {D : Wd} {G : Gx} {E : Et} {N : List Str} {ct : Ct} {X : Cx} {k : Nat} (S : Sd D G E N ct X k) (x : Expr), mx E N ct e x = true → PE X x (semE D (G.ex e))
  | .cst d, D, G, E, N, ct, X, k, S, x, h => by
    unfold mx at h
    cases w : vConst x with
    | none => rw [w] at h; cases h
    | some r =>
      obtain ⟨c, j, p⟩ := r
      rw [w] at h
      rw [vConst_ok w]
      obtain ⟨h1, h2, h3⟩ := cst_ok (D := D) (X := X) h
      exact ev_cst h1 h2 h3
  | .var i, D, G, E, N, ct, X, k, S, x, h => by
    unfold mx at h
    cases w : vName x with
    | none => rw [w] at h; cases h
    | some r => obtain ⟨y, p⟩ := r; rw [w] at h; rw [vName_ok w]; exact ev_var (S.var h)
  | .glo g, D, G, E, N, ct, X, k, S, x, h => by
    unfold mx at h
    cases w : vName x with
    | none => rw [w] at h; cases h
    | some r =>
      obtain ⟨y, p⟩ := r
      rw [w] at h
      rw [vName_ok w]
      obtain ⟨h1, h2⟩ := ba h
      obtain ⟨h2, h3⟩ := ba h2
      exact glo_ok S (of_decide_eq_true h1) h2 h3
  | .bin j a b, D, G, E, N, ct, X, k, S, x, h => by
    unfold mx at h
    cases w : vBin x with
    | none => rw [w] at h; cases h
    | some r =>
      obtain ⟨l, op, r, p⟩ := r
      rw [w] at h
      rw [vBin_ok w]
      obtain ⟨h1, h2⟩ := ba h
      obtain ⟨h2, h3⟩ := ba h2
      obtain ⟨h3, h4⟩ := ba h3
      have e : op = binX j := of_decide_eq_true h2
      subst e
      exact ev_binG S.hK (of_decide_eq_true h1) (S.rm.mono (by omega)) S.hx S.spcOk (mx_ok a S l h3) (mx_ok b S r h4)
  | .cmp j a b, D, G, E, N, ct, X, k, S, x, h => by
    unfold mx at h
    cases w : vCmp1 x with
    | none => rw [w] at h; cases h
    | some r =>
      obtain ⟨l, op, r, p⟩ := r
      rw [w] at h
      rw [vCmp1_ok w]
      obtain ⟨g1, g2⟩ := ba h
      obtain ⟨g3, g4⟩ := ba g2
      obtain ⟨g5, g6⟩ := ba g4
      obtain ⟨g7, g8⟩ := ba g6
      have e : op = cmpOf j := of_decide_eq_true g3
      subst e
      exact ev_cmpG S.ok S.hK S.un (of_decide_eq_true g1) (S.rm.mono (by omega)) S.hx S.spcOk (mx_ok a S l g7) (mx_ok b S r g8) (by simpa using g5)
  | .chn j i a b c, D, G, E, N, ct, X, k, S, x, h => by
    unfold mx at h
    cases w : vCmp2 x with
    | none => rw [w] at h; cases h
    | some r =>
      obtain ⟨l, op, r, op', r', p⟩ := r
      rw [w] at h
      rw [vCmp2_ok w]
      obtain ⟨g1, g2⟩ := ba h
      obtain ⟨g3, g4⟩ := ba g2
      obtain ⟨g5, g6⟩ := ba g4
      obtain ⟨g7, g8⟩ := ba g6
      obtain ⟨g9, g10⟩ := ba g8
      obtain ⟨e1, e2⟩ := of_decide_eq_true g3
      obtain ⟨k1, k2⟩ := of_decide_eq_true g1
      subst e1
      subst e2
      exact ev_chain S.hK S.un k1 k2 (mx_ok a S l g7) (mx_ok b S r g9) (mx_ok c S r' g10) (by simpa using g5)
  | .neg a, D, G, E, N, ct, X, k, S, x, h => by
    unfold mx at h
    cases w : vUn x with
    | none => rw [w] at h; cases h
    | some r =>
      obtain ⟨op, y, p⟩ := r
      rw [w] at h
      rw [vUn_ok w]
      cases op with
      | USub => exact ev_neg (mx_ok a S y h)
      | _ => cases h
  | .and a b, D, G, E, N, ct, X, k, S, x, h => by
    unfold mx at h
    cases w : vBool x with
    | none => rw [w] at h; cases h
    | some r =>
      obtain ⟨op, y, z, r, p⟩ := r
      rw [w] at h
      rw [vBool_ok w]
      cases op with
      | And =>
        cases r with
        | nil =>
          obtain ⟨h1, h2⟩ := ba h
          exact ev_and (mx_ok a S y h1) (pe_one (mx_ok b S z h2))
        | cons r rs =>
          obtain ⟨h1, h2⟩ := ba h
          exact ev_and (mx_ok a S y h1) (mx_ok b S _ h2)
      | Or => cases h
  | .or a b, D, G, E, N, ct, X, k, S, x, h => by
    unfold mx at h
    cases w : vBool x with
    | none => rw [w] at h; cases h
    | some r =>
      obtain ⟨op, y, z, r, p⟩ := r
      rw [w] at h
      rw [vBool_ok w]
      cases op with
      | Or =>
        cases r with
        | nil =>
          obtain ⟨h1, h2⟩ := ba h
          exact ev_or (mx_ok a S y h1) (pe_one (mx_ok b S z h2))
        | cons r rs =>
          obtain ⟨h1, h2⟩ := ba h
          exact ev_or (mx_ok a S y h1) (mx_ok b S _ h2)
      | And => cases h
  | .not a, D, G, E, N, ct, X, k, S, x, h => by
    unfold mx at h
    cases w : vUn x with
    | none => rw [w] at h; cases h
    | some r =>
      obtain ⟨op, y, p⟩ := r
      rw [w] at h
      rw [vUn_ok w]
      cases op with
      | Not => exact ev_not (mx_ok a S y h)
      | _ => cases h
  | .ite c a b, D, G, E, N, ct, X, k, S, x, h => by
    unfold mx at h
    cases w : vIf x with
    | none => rw [w] at h; cases h
    | some r =>
      obtain ⟨t, y, z, p⟩ := r
      rw [w] at h
      rw [vIf_ok w]
      obtain ⟨h1, h2⟩ := ba h
      obtain ⟨h2, h3⟩ := ba h2
      exact ev_if (mt_ok c S t h1) (mx_ok a S y h2) (mx_ok b S z h3)
  | .lst es, D, G, E, N, ct, X, k, S, x, h => by
    unfold mx at h
    cases w : vList x with
    | none => rw [w] at h; cases h
    | some r => obtain ⟨xs, p⟩ := r; rw [w] at h; rw [vList_ok w]; exact ev_lst (ms_ok es S xs h)
  | .nlst es, D, G, E, N, ct, X, k, S, x, h => by
    unfold mx at h
    cases w : vList x with
    | none => rw [w] at h; cases h
    | some r => obtain ⟨xs, p⟩ := r; rw [w] at h; rw [vList_ok w]; exact ev_nlst (ms_ok es S xs h)
  | .tup es, D, G, E, N, ct, X, k, S, x, h => by
    unfold mx at h
    cases w : vTup x with
    | none => rw [w] at h; cases h
    | some r => obtain ⟨xs, j, p⟩ := r; rw [w] at h; rw [vTup_ok w]; exact ev_tup (ms_ok es S xs h)
  | .att a f, D, G, E, N, ct, X, k, S, x, h => by
    unfold mx at h
    cases w : vAtt x with
    | none => rw [w] at h; cases h
    | some r =>
      obtain ⟨y, g, p⟩ := r
      rw [w] at h
      rw [vAtt_ok w]
      obtain ⟨h1, h2⟩ := ba h
      obtain ⟨h2, h3⟩ := ba h2
      have e : g = nmS f := of_decide_eq_true h2
      subst e
      show PE X _ (semE D (op1 (G.ex a) (attH G.isF f)))
      rw [S.isF]
      exact ev_att S.ok S.hK (mx_ok a S y h3) (base_of h1)
  | .idx a b, D, G, E, N, ct, X, k, S, x, h => by
    unfold mx at h
    cases w : vSub x with
    | none => rw [w] at h; cases h
    | some r =>
      obtain ⟨y, z, p⟩ := r
      rw [w] at h
      rw [vSub_ok w]
      obtain ⟨h1, h2⟩ := ba h
      obtain ⟨h2, h3⟩ := ba h2
      exact ev_ix S.hK (by have := S.un; omega) (mx_ok a S y h2) (mx_ok b S z h3) h1
  | .slc a lo hi, D, G, E, N, ct, X, k, S, x, h => by
    unfold mx at h
    cases w : vSlc x with
    | none => rw [w] at h; cases h
    | some r =>
      obtain ⟨y, l, u, q, p⟩ := r
      rw [w] at h
      rw [vSlc_ok w]
      obtain ⟨h1, h2⟩ := ba h
      obtain ⟨h2, h3⟩ := ba h2
      exact ev_slc (mx_ok a S y h1) (mb_ok lo S l h2) (mb_ok hi S u h3)
  | .len a, D, G, E, N, ct, X, k, S, x, h => by
    unfold mx at h
    cases w : vCallN x with
    | none => rw [w] at h; cases h
    | some r =>
      obtain ⟨f, q, xs, p⟩ := r
      rw [w] at h
      rw [vCallN_ok w]
      match xs, h with
      | [y], h =>
        obtain ⟨h1, h2⟩ := ba h
        obtain ⟨h2, h3⟩ := ba h2
        obtain ⟨h3, h4⟩ := ba h3
        have e : f = "len" := of_decide_eq_true h1
        subst e
        exact ev_lenG S.hK (S.rm.mono (by omega)) S.hx S.spcOk (S.gl h2) (S.blt _ (by decide)) (mx_ok a S y h4) h3
      | [], h => cases h
      | _ :: _ :: _, h => cases h
  | .isi a c, D, G, E, N, ct, X, k, S, x, h => by
    unfold mx at h
    cases w : vCallN x with
    | none => rw [w] at h; cases h
    | some r =>
      obtain ⟨f, q, xs, p⟩ := r
      rw [w] at h
      rw [vCallN_ok w]
      match xs, h with
      | [y, z], h =>
        obtain ⟨h1, h2⟩ := ba h
        obtain ⟨h2, h3⟩ := ba h2
        obtain ⟨h3, h4⟩ := ba h3
        obtain ⟨h4, h5⟩ := ba h4
        obtain ⟨h5, h6⟩ := ba h5
        have e : f = "isinstance" := of_decide_eq_true h1
        subst e
        exact ev_isi S.ok S.hK (S.gl h2) (S.blt _ (by decide)) (mx_ok a S y h5) (mx_ok c S z h6) h3 h4
      | [], h => cases h
      | [_], h => cases h
      | _ :: _ :: _ :: _, h => cases h
  | .b1 j a, D, G, E, N, ct, X, k, S, x, h => by
    unfold mx at h
    cases w : vCallN x with
    | none => rw [w] at h; cases h
    | some r =>
      obtain ⟨f, q, xs, p⟩ := r
      rw [w] at h
      rw [vCallN_ok w]
      match xs, h with
      | [y], h =>
        obtain ⟨h1, h2⟩ := ba h
        obtain ⟨h2, h3⟩ := ba h2
        obtain ⟨h3, h4⟩ := ba h3
        obtain ⟨h4, h5⟩ := ba h4
        have e : f = b1N j := of_decide_eq_true h2
        subst e
        exact b1_ok S (of_decide_eq_true h1) h3 h4 (mx_ok a S y h5)
      | [], h => cases h
      | _ :: _ :: _, h => cases h
  | .s1 j a, D, G, E, N, ct, X, k, S, x, h => by
    unfold mx at h
    cases w : vCallN x with
    | none => rw [w] at h; cases h
    | some r =>
      obtain ⟨f, q, xs, p⟩ := r
      rw [w] at h
      rw [vCallN_ok w]
      match xs, h with
      | [y], h =>
        obtain ⟨h1, h2⟩ := ba h
        obtain ⟨h2, h3⟩ := ba h2
        obtain ⟨h3, h4⟩ := ba h3
        obtain ⟨h4, h5⟩ := ba h4
        have e : f = s1N j := of_decide_eq_true h2
        subst e
        exact s1_ok S (of_decide_eq_true h1) h3 h4 (mx_ok a S y h5)
      | [], h => cases h
      | _ :: _ :: _, h => cases h
  | .call f as, D, G, E, N, ct, X, k, S, x, h => by
    unfold mx at h
    cases w : vCallN x with
    | none => rw [w] at h; cases h
    | some r =>
      obtain ⟨y, q, xs, p⟩ := r
      rw [w] at h
      rw [vCallN_ok w]
      obtain ⟨h1, h2⟩ := ba h
      obtain ⟨h2, h3⟩ := ba h2
      obtain ⟨h3, h4⟩ := ba h3
      obtain ⟨h4, h5⟩ := ba h4
      have e : (E.fn f).map nmS = some y := of_decide_eq_true h1
      cases w2 : E.fn f with
      | none => rw [w2] at e; cases e
      | some n =>
        rw [w2] at e
        cases e
        obtain ⟨a, fd, ps, F⟩ := S.fns f n w2
        have hr : Room k X.A := S.rm.mono (by omega)
        exact ev_call F hr (S.gl h2) S.hx (ms_ok as S xs h5) (fun e => by subst e; exact ms_nil h5) h4 (okN_d h3).1
  | .meth c m f a as, D, G, E, N, ct, X, k, S, x, h => by
    unfold mx at h
    cases w : vCallM x with
    | none => rw [w] at h; cases h
    | some r =>
      obtain ⟨y, n, p1, xs, p2⟩ := r
      rw [w] at h
      rw [vCallM_ok w]
      obtain ⟨h1, h2⟩ := ba h
      obtain ⟨h2, h3⟩ := ba h2
      obtain ⟨h3, h4⟩ := ba h3
      obtain ⟨h4, h5⟩ := ba h4
      obtain ⟨h5, h6⟩ := ba h5
      obtain ⟨h6, h7⟩ := ba h6
      obtain ⟨h7, h8⟩ := ba h7
      have e : n = nmS m := of_decide_eq_true h2
      subst e
      obtain ⟨C, ad, fd, ps, hc, M⟩ := S.mds f c m (of_decide_eq_true h1)
      have hr : Room k X.A := S.rm.mono (by omega)
      exact ev_meth hc M (mx_ok a S y h7) hr S.hx (ms_ok as S xs h8) (fun e => by subst e; exact ms_nil h8) h3 h4 (of_decide_eq_true h5) h6
  | .new z c f as, D, G, E, N, ct, X, k, S, x, h => by
    unfold mx at h
    cases w : vCallN x with
    | none => rw [w] at h; cases h
    | some r =>
      obtain ⟨y, q, xs, p⟩ := r
      rw [w] at h
      rw [vCallN_ok w]
      obtain ⟨h1, h2⟩ := ba h
      obtain ⟨h2, h3⟩ := ba h2
      obtain ⟨h3, h4⟩ := ba h3
      obtain ⟨h4, h5⟩ := ba h4
      obtain ⟨h5, h6⟩ := ba h5
      have e : y = nmS z := of_decide_eq_true h2
      subst e
      obtain ⟨C, ad, fd, ps, hc, M⟩ := S.nws f z c (of_decide_eq_true h1)
      have hr : Room (k + 1) X.A := S.rm.mono (by omega)
      exact ev_new hc M hr (S.gl h3) S.hx (ms_ok as S xs h6) (fun e => by subst e; exact ms_nil h6) h5 (okN_d h4).1
  | .lc own tg src c e, D, G, E, N, ct, X, k, S, x, h => by
    unfold mx at h
    cases w : vLc x with
    | none => rw [w] at h; cases h
    | some r =>
      obtain ⟨elt, tgx, iter, ifs, scope, p⟩ := r
      rw [w] at h
      rw [vLc_ok w]
      obtain ⟨q1, q2, _⟩ := lc_parts (p := p) S h (mi_ok src S tgx iter) (fun X' S' y => mt_ok c S' y) (fun X' S' y => mx_ok e S' y)
      exact PE.imp q1 (sem_lc (SrcAll G src) q2)
  | .nlc own tg src c e, D, G, E, N, ct, X, k, S, x, h => by
    unfold mx at h
    cases w : vLc x with
    | none => rw [w] at h; cases h
    | some r =>
      obtain ⟨elt, tgx, iter, ifs, scope, p⟩ := r
      rw [w] at h
      rw [vLc_ok w]
      obtain ⟨q1, q2, _⟩ := lc_parts (p := p) S h (mi_ok src S tgx iter) (fun X' S' y => mt_ok c S' y) (fun X' S' y => mx_ok e S' y)
      exact PE.imp q1 (sem_nlc (SrcAll G src) q2)
  | .app o a, D, G, E, N, ct, X, k, S, x, h => by
    unfold mx at h
    cases w : vCallM x with
    | none => rw [w] at h; cases h
    | some r =>
      obtain ⟨y, n, p1, xs, p2⟩ := r
      rw [w] at h
      rw [vCallM_ok w]
      match xs, h with
      | [z], h =>
        obtain ⟨h1, h2⟩ := ba h
        obtain ⟨h2, h3⟩ := ba h2
        obtain ⟨h3, h4⟩ := ba h3
        obtain ⟨h4, h5⟩ := ba h4
        obtain ⟨h5, h6⟩ := ba h5
        have e : n = "append" := of_decide_eq_true h1
        subst e
        exact ev_append (mx_ok o S y h5) (mx_ok a S z h6) (base_of h2) (star_of h3) h4
      | [], h => cases h
      | _ :: _ :: _, h => cases h
  | .ext o a, D, G, E, N, ct, X, k, S, x, h => by
    unfold mx at h
    cases w : vCallM x with
    | none => rw [w] at h; cases h
    | some r =>
      obtain ⟨y, n, p1, xs, p2⟩ := r
      rw [w] at h
      rw [vCallM_ok w]
      match xs, h with
      | [z], h =>
        obtain ⟨h1, h2⟩ := ba h
        obtain ⟨h2, h3⟩ := ba h2
        obtain ⟨h3, h4⟩ := ba h3
        obtain ⟨h4, h5⟩ := ba h4
        obtain ⟨h5, h6⟩ := ba h5
        have e : n = "extend" := of_decide_eq_true h1
        subst e
        exact ev_extend (mx_ok o S y h5) (mx_ok a S z h6) (base_of h2) (star_of h3) h4
      | [], h => cases h
      | _ :: _ :: _, h => cases h
  | .popAt o a, D, G, E, N, ct, X, k, S, x, h => by
    unfold mx at h
    cases w : vCallM x with
    | none => rw [w] at h; cases h
    | some r =>
      obtain ⟨y, n, p1, xs, p2⟩ := r
      rw [w] at h
      rw [vCallM_ok w]
      match xs, h with
      | [z], h =>
        obtain ⟨h1, h2⟩ := ba h
        obtain ⟨h2, h3⟩ := ba h2
        obtain ⟨h3, h4⟩ := ba h3
        obtain ⟨h4, h5⟩ := ba h4
        obtain ⟨h5, h6⟩ := ba h5
        have e : n = "pop" := of_decide_eq_true h1
        subst e
        exact ev_popAt (mx_ok o S y h5) (mx_ok a S z h6) (base_of h2) (star_of h3) h4
      | [], h => cases h
      | _ :: _ :: _, h => cases h
  | .ixm o a, D, G, E, N, ct, X, k, S, x, h => by
    unfold mx at h
    cases w : vCallM x with
    | none => rw [w] at h; cases h
    | some r =>
      obtain ⟨y, n, p1, xs, p2⟩ := r
      rw [w] at h
      rw [vCallM_ok w]
      match xs, h with
      | [z], h =>
        obtain ⟨h1, h2⟩ := ba h
        obtain ⟨h2, h3⟩ := ba h2
        obtain ⟨h3, h4⟩ := ba h3
        obtain ⟨h4, h5⟩ := ba h4
        obtain ⟨h5, h6⟩ := ba h5
        have e : n = "index" := of_decide_eq_true h1
        subst e
        exact ev_ixm (mx_ok o S y h5) (mx_ok a S z h6) (base_of h2) (star_of h3) h4
      | [], h => cases h
      | _ :: _ :: _, h => cases h
  | .ins o a b, D, G, E, N, ct, X, k, S, x, h => by
    unfold mx at h
    cases w : vCallM x with
    | none => rw [w] at h; cases h
    | some r =>
      obtain ⟨y, n, p1, xs, p2⟩ := r
      rw [w] at h
      rw [vCallM_ok w]
      match xs, h with
      | [z, z2], h =>
        obtain ⟨h1, h2⟩ := ba h
        obtain ⟨h2, h3⟩ := ba h2
        obtain ⟨h3, h4⟩ := ba h3
        obtain ⟨h4, h5⟩ := ba h4
        obtain ⟨h5, h6⟩ := ba h5
        obtain ⟨h6, h7⟩ := ba h6
        obtain ⟨h7, h8⟩ := ba h7
        have e : n = "insert" := of_decide_eq_true h1
        subst e
        exact ev_insert (mx_ok o S y h6) (mx_ok a S z h7) (mx_ok b S z2 h8) (base_of h2) h3 h4 h5
      | [], h => cases h
      | [_], h => cases h
      | _ :: _ :: _ :: _, h => cases h
  | .pop o, D, G, E, N, ct, X, k, S, x, h => by
    unfold mx at h
    cases w : vCallM x with
    | none => rw [w] at h; cases h
    | some r =>
      obtain ⟨y, n, p1, xs, p2⟩ := r
      rw [w] at h
      rw [vCallM_ok w]
      match xs, h with
      | [], h =>
        obtain ⟨h1, h2⟩ := ba h
        obtain ⟨h2, h3⟩ := ba h2
        obtain ⟨h3, h4⟩ := ba h3
        have e : n = "pop" := of_decide_eq_true h1
        subst e
        exact ev_pop (mx_ok o S y h4) (base_of h2) h3
      | _ :: _, h => cases h
  | .lam g td a, D, G, E, N, ct, X, k, S, x, h => by
    unfold mx at h
    cases w : vLam x with
    | none => rw [w] at h; cases h
    | some r =>
      obtain ⟨y, q, ps, b, sc, lp, p⟩ := r
      rw [w] at h
      rw [vLam_ok w]
      obtain ⟨h1, h⟩ := ba h
      obtain ⟨h2, h⟩ := ba h
      obtain ⟨h3, h⟩ := ba h
      obtain ⟨h4, h⟩ := ba h
      obtain ⟨h5, h⟩ := ba h
      obtain ⟨h6, h⟩ := ba h
      obtain ⟨h7, h8⟩ := ba h
      have ey : y = nmS g := of_decide_eq_true h2
      subst ey
      have ep := noArgs_ok h6
      subst ep
      obtain ⟨g0, a0, found, ev, Ng, pg, bg, sg, dV, kV, doc, pm, cdv, ctv, oc, an, od, osl, k0, hds, ks, jf, je, m1, m2, m3, m4, m5, m6, m7, m8, m9, m10, m11, m12, m13, m14, m15, m16, m17, m18, m19, m20, m21⟩ := (S.tds g td (of_decide_eq_true h5)).ex
      obtain ⟨hr, c, P, TB, hco, hmT, hu⟩ := S.lms h1
      refine PE.imp (LamX.pe_lamcall (TT := tdT D.T.K td.mode td.tag ks) (k := k + 2) (t := fun E' => semE ⟨D.T, D.fld, E'⟩ (G.ex a)) (S.gl h3) m1 m2 m3 m4 m5 m6 m7 m8 ?_ TB hco hmT hu hr (LamX.lamS_by (by rw [S.hsc]; exact h7)) (by rfl) (fun _ _ _ _ _ => by rfl) (fun A outer s H E' f c' hr' => mx_ok a (S.lam sc A outer s H E' f c' hr') b h8) (okN_d h4).1 (okN_d m19).1 (okN_d m19).2.1) (sem_lam m11 m12)
      rw [S.hK]
      exact tried_gives m9 m10 m6.nd m7 m13 m14 m15 m16 m17 m18 ⟨(okN_d m20).1, (okN_d m20).2.1⟩ ⟨(okN_d m21).1, (okN_d m21).2.1⟩
  | .frz a, D, G, E, N, ct, X, k, S, x, h => ev_frz (mx_ok a S x (by unfold mx at h; exact h))
  | .bad, D, G, E, N, ct, X, k, S, x, h => by unfold mx at h; cases h
  | .n1 j a, D, G, E, N, ct, X, k, S, x, h => by
    unfold mx at h
    cases w : vCallN x with
    | none => rw [w] at h; cases h
    | some r =>
      obtain ⟨f, q, xs, p⟩ := r
      rw [w] at h
      rw [vCallN_ok w]
      match xs, h with
      | [y], h =>
        obtain ⟨h1, h2⟩ := ba h
        obtain ⟨h2, h3⟩ := ba h2
        obtain ⟨h3, h4⟩ := ba h3
        obtain ⟨h4, h5⟩ := ba h4
        have e : f = s1N j := of_decide_eq_true h2
        subst e
        exact n1_ok S (of_decide_eq_true h1) h3 h4 (mx_ok a S y h5)
      | [], h => cases h
      | _ :: _ :: _, h => cases h
  | .join o a, D, G, E, N, ct, X, k, S, x, h => by
    unfold mx at h
    cases w : vCallM x with
    | none => rw [w] at h; cases h
    | some r =>
      obtain ⟨y, n, p1, xs, p2⟩ := r
      rw [w] at h
      rw [vCallM_ok w]
      match xs, h with
      | [z], h =>
        obtain ⟨h1, h2⟩ := ba h
        obtain ⟨h2, h3⟩ := ba h2
        obtain ⟨h3, h4⟩ := ba h3
        obtain ⟨h4, h5⟩ := ba h4
        obtain ⟨h5, h6⟩ := ba h5
        have e : n = "join" := of_decide_eq_true h1
        subst e
        exact ev_join S.hK (mx_ok o S y h5) (mx_ok a S z h6) (star_of h3) (base_of h2) h4
      | [], h => cases h
      | _ :: _ :: _, h => cases h
  | .upd o a, D, G, E, N, ct, X, k, S, x, h => by
    unfold mx at h
    cases w : vCallM x with
    | none => rw [w] at h; cases h
    | some r =>
      obtain ⟨y, n, p1, xs, p2⟩ := r
      rw [w] at h
      rw [vCallM_ok w]
      match xs, h with
      | [z], h =>
        obtain ⟨h1, h2⟩ := ba h
        obtain ⟨h2, h3⟩ := ba h2
        obtain ⟨h3, h4⟩ := ba h3
        obtain ⟨h4, h5⟩ := ba h4
        obtain ⟨h5, h6⟩ := ba h5
        have e : n = "update" := of_decide_eq_true h1
        subst e
        exact ev_update (mx_ok o S y h5) (mx_ok a S z h6) (base_of h2) (star_of h3) h4
      | [], h => cases h
      | _ :: _ :: _, h => cases h
  | .rev a, D, G, E, N, ct, X, k, S, x, h => by
    unfold mx at h
    cases w : vRev x with
    | none => rw [w] at h; cases h
    | some r =>
      obtain ⟨y, i, j, p1, p2, p3, p⟩ := r
      rw [w] at h
      rw [vRev_ok w]
      obtain ⟨h1, h2⟩ := ba h
      have e : i = 1 := of_decide_eq_true h1
      subst e
      exact ev_rev S.hK (mx_ok a S y h2)
  | .dct es, D, G, E, N, ct, X, k, S, x, h => by
    unfold mx at h
    obtain ⟨h1, h2⟩ := ba h
    cases es with
    | cons _ _ => cases h1
    | nil =>
      cases w : vDct0 x with
      | none => rw [w] at h2; cases h2
      | some p => rw [vDct0_ok w]; exact ev_dct0
  | .ndct es, D, G, E, N, ct, X, k, S, x, h => by
    unfold mx at h
    obtain ⟨h1, h2⟩ := ba h
    cases es with
    | cons _ _ => cases h1
    | nil =>
      cases w : vDct0 x with
      | none => rw [w] at h2; cases h2
      | some p => rw [vDct0_ok w]; exact ev_ndct0
  | .dc own tg src c e u, D, G, E, N, ct, X, k, S, x, h => by
    unfold mx at h
    cases w : vDc x with
    | none => rw [w] at h; cases h
    | some r =>
      obtain ⟨kx, vx, tgx, iter, ifs, scope, p⟩ := r
      rw [w] at h
      rw [vDc_ok w]
      exact ev_frz (dc_parts (p := p) S h (mi_ok src S tgx iter) (fun X' S' y => mt_ok c S' y) (fun X' S' y => mx_ok e S' y) (fun X' S' y => mx_ok u S' y))
  | .ndc own tg src c e u, D, G, E, N, ct, X, k, S, x, h => by
    unfold mx at h
    cases w : vDc x with
    | none => rw [w] at h; cases h
    | some r =>
      obtain ⟨kx, vx, tgx, iter, ifs, scope, p⟩ := r
      rw [w] at h
      rw [vDc_ok w]
      exact dc_parts (p := p) S h (mi_ok src S tgx iter) (fun X' S' y => mt_ok c S' y) (fun X' S' y => mx_ok e S' y) (fun X' S' y => mx_ok u S' y)
  | .lcK own tg i c e, D, G, E, N, ct, X, k, S, x, h => by
    unfold mx at h
    cases w : vLc x with
    | none => rw [w] at h; cases h
    | some r =>
      obtain ⟨elt, tgx, iter, ifs, scope, p⟩ := r
      rw [w] at h
      rw [vLc_ok w]
      exact lcK_parts (p := p) S h (fun X' S' y => mt_ok c S' y) (fun X' S' y => mx_ok e S' y)
  | .lc2 own own2 tg src c tg2 src2 c2 e, D, G, E, N, ct, X, k, S, x, h => by
    unfold mx at h
    cases w : vLc2 x with
    | none => rw [w] at h; cases h
    | some r =>
      obtain ⟨elt, tgx, iter, ifs, tgx2, iter2, ifs2, scope, p⟩ := r
      rw [w] at h
      rw [vLc2_ok w]
      have hfr : isFr src2 = true := (ba (ba (ba (ba (ba (ba (ba (ba (ba (ba h).2).2).2).2).2).2).2).2).2).1
      obtain ⟨q1, q2, q3, _⟩ := lc2_parts (p := p) S h (mi_ok src S tgx iter) (fun X' S' hh => mif_ok src2 hfr S' tgx2 iter2 hh) (fun X' S' y => mt_ok c S' y) (fun X' S' y => mt_ok c2 S' y) (fun X' S' y => mx_ok e S' y)
      exact PE.imp q1 (sem_lc2 (SrcAll G src) q2 q3)
  | .nlc2 own own2 tg src c tg2 src2 c2 e, D, G, E, N, ct, X, k, S, x, h => by
    unfold mx at h
    cases w : vLc2 x with
    | none => rw [w] at h; cases h
    | some r =>
      obtain ⟨elt, tgx, iter, ifs, tgx2, iter2, ifs2, scope, p⟩ := r
      rw [w] at h
      rw [vLc2_ok w]
      have hfr : isFr src2 = true := (ba (ba (ba (ba (ba (ba (ba (ba (ba (ba h).2).2).2).2).2).2).2).2).2).1
      obtain ⟨q1, q2, q3, _⟩ := lc2_parts (p := p) S h (mi_ok src S tgx iter) (fun X' S' hh => mif_ok src2 hfr S' tgx2 iter2 hh) (fun X' S' y => mt_ok c S' y) (fun X' S' y => mt_ok c2 S' y) (fun X' S' y => mx_ok e S' y)
      exact PE.imp q1 (sem_nlc2 (SrcAll G src) q2 q3)
  | .inv a, D, G, E, N, ct, X, k, S, x, h => by
    unfold mx at h
    cases w : vUn x with
    | none => rw [w] at h; cases h
    | some r =>
      obtain ⟨op, y, p⟩ := r
      rw [w] at h
      rw [vUn_ok w]
      cases op with
      | Invert => exact ev_invG (S.rm.mono (by omega)) S.hx S.spcOk (mx_ok a S y h)
      | _ => cases h
  | .nbin _ _ _, D, G, E, N, ct, X, k, S, x, h => by unfold mx at h; cases h
  | .b2 j a b, D, G, E, N, ct, X, k, S, x, h => by
    unfold mx at h
    cases w : vCallN x with
    | none => rw [w] at h; cases h
    | some r =>
      obtain ⟨f, q, xs, p⟩ := r
      rw [w] at h
      rw [vCallN_ok w]
      match xs, h with
      | [y, z], h =>
        obtain ⟨h1, h⟩ := ba h
        obtain ⟨h2, h⟩ := ba h
        obtain ⟨h3, h⟩ := ba h
        obtain ⟨h4, h⟩ := ba h
        obtain ⟨h5, h⟩ := ba h
        obtain ⟨h6, h7⟩ := ba h
        have e : f = b2N j := of_decide_eq_true h2
        subst e
        exact b2_ok S (of_decide_eq_true h1) h3 h4 h5 (mx_ok a S y h6) (mx_ok b S z h7)
      | [], h => cases h
      | [_], h => cases h
      | _ :: _ :: _ :: _, h => cases h
  | .get _ _ _, D, G, E, N, ct, X, k, S, x, h => by unfold mx at h; cases h
  | .cnt _ _, D, G, E, N, ct, X, k, S, x, h => by unfold mx at h; cases h
  | .callK _ _ _, D, G, E, N, ct, X, k, S, x, h => by unfold mx at h; cases h
  | .methK _ _ _ _ _ _, D, G, E, N, ct, X, k, S, x, h => by unfold mx at h; cases h
  | .newK _ _ _ _ _, D, G, E, N, ct, X, k, S, x, h => by unfold mx at h; cases h
theorem ms_ok : ∀ (e : Es) {D : Wd} {G : Gx} {E : Et} {N : List Str} {ct : Ct} {X : Cx} {k : Nat} (S : Sd D G E N ct X k) (xs : List Expr), ms E N ct e xs = true → PA X xs (semA D (G.es e))
  | .nil, D, G, E, N, ct, X, k, S, xs, h => by
    unfold ms at h
    cases xs with
    | nil => exact es_nil
    | cons _ _ => cases h
  | .cons a r, D, G, E, N, ct, X, k, S, xs, h => by
    unfold ms at h
    cases xs with
    | nil => cases h
    | cons x xs =>
      obtain ⟨h1, h2⟩ := ba h
      obtain ⟨h2, h3⟩ := ba h2
      exact es_cons (mx_ok a S x h2) (ms_ok r S xs h3) (star_of h1)
theorem mb_ok : ∀ (e : Oe) {D : Wd} {G : Gx} {E : Et} {N : List Str} {ct : Ct} {X : Cx} {k : Nat} (S : Sd D G E N ct X k) (x : Option Expr), mb E N ct e x = true → PO X x (semB D (bdE (G.oe e)))
  | .non, D, G, E, N, ct, X, k, S, x, h => by
    unfold mb at h
    cases x with
    | none => exact b_none
    | some _ => cases h
  | .one a, D, G, E, N, ct, X, k, S, x, h => by
    unfold mb at h
    cases x with
    | none => cases h
    | some x => exact b_some (mx_ok a S x h)
theorem mt_ok : ∀ (e : Ts) {D : Wd} {G : Gx} {E : Et} {N : List Str} {ct : Ct} {X : Cx} {k : Nat} (S : Sd D G E N ct X k) (x : Expr), mt E N ct e x = true → PT X x (semT D (G.ts e))
  | .yes, D, G, E, N, ct, X, k, S, x, h => by unfold mt at h; cases h
  | .val a, D, G, E, N, ct, X, k, S, x, h => by
    unfold mt at h
    obtain ⟨h1, h2⟩ := ba h
    exact t_val (mx_ok a S x h2) (tval_of h1)
  | .cmp j a b, D, G, E, N, ct, X, k, S, x, h => by
    unfold mt at h
    cases w : vCmp1 x with
    | none => rw [w] at h; cases h
    | some r =>
      obtain ⟨l, op, r, p⟩ := r
      rw [w] at h
      rw [vCmp1_ok w]
      obtain ⟨g1, g2⟩ := ba h
      obtain ⟨g3, g4⟩ := ba g2
      obtain ⟨g5, g6⟩ := ba g4
      obtain ⟨g7, g8⟩ := ba g6
      have e : op = cmpOf j := of_decide_eq_true g3
      subst e
      exact t_cmpG S.ok S.hK S.un (of_decide_eq_true g1) (S.rm.mono (by omega)) S.hx S.spcOk (mx_ok a S l g7) (mx_ok b S r g8) (by simpa using g5)
  | .chn j i a b c, D, G, E, N, ct, X, k, S, x, h => by
    unfold mt at h
    cases w : vCmp2 x with
    | none => rw [w] at h; cases h
    | some r =>
      obtain ⟨l, op, r, op', r', p⟩ := r
      rw [w] at h
      rw [vCmp2_ok w]
      obtain ⟨g1, g2⟩ := ba h
      obtain ⟨g3, g4⟩ := ba g2
      obtain ⟨g5, g6⟩ := ba g4
      obtain ⟨g7, g8⟩ := ba g6
      obtain ⟨g9, g10⟩ := ba g8
      obtain ⟨e1, e2⟩ := of_decide_eq_true g3
      obtain ⟨k1, k2⟩ := of_decide_eq_true g1
      subst e1
      subst e2
      exact t_chain S.hK S.un k1 k2 (mx_ok a S l g7) (mx_ok b S r g9) (mx_ok c S r' g10) (by simpa using g5)
  | .not a, D, G, E, N, ct, X, k, S, x, h => by
    unfold mt at h
    cases w : vUn x with
    | none => rw [w] at h; cases h
    | some r =>
      obtain ⟨op, y, p⟩ := r
      rw [w] at h
      rw [vUn_ok w]
      cases op with
      | Not => exact t_not (mt_ok a S y h)
      | _ => cases h
  | .and a b, D, G, E, N, ct, X, k, S, x, h => by
    unfold mt at h
    cases w : vBool x with
    | none => rw [w] at h; cases h
    | some r =>
      obtain ⟨op, y, z, r, p⟩ := r
      rw [w] at h
      rw [vBool_ok w]
      cases op with
      | And =>
        cases r with
        | nil =>
          obtain ⟨h1, h2⟩ := ba h
          exact (t_and (mt_ok a S y h1) (pw_and1 (mt_ok b S z h2))).pt
        | cons r rs =>
          obtain ⟨h1, h2⟩ := ba h
          exact (t_and (mt_ok a S y h1) (pw_of (mt_ok b S _ h2))).pt
      | Or => cases h
  | .or a b, D, G, E, N, ct, X, k, S, x, h => by
    unfold mt at h
    cases w : vBool x with
    | none => rw [w] at h; cases h
    | some r =>
      obtain ⟨op, y, z, r, p⟩ := r
      rw [w] at h
      rw [vBool_ok w]
      cases op with
      | Or =>
        cases r with
        | nil =>
          obtain ⟨h1, h2⟩ := ba h
          exact (t_or (mt_ok a S y h1) (pw_or1 (mt_ok b S z h2))).pt
        | cons r rs =>
          obtain ⟨h1, h2⟩ := ba h
          exact (t_or (mt_ok a S y h1) (pw_of (mt_ok b S _ h2))).pt
      | And => cases h
theorem mif_ok : ∀ (e : Sr), isFr e = true → ∀ {D : Wd} {G : Gx} {E : Et} {N : List Str} {ct : Ct} {X : Cx} {k : Nat} (S : Sd D G E N ct X k) (t x : Expr), mi E N ct e t x = true → PI X t x (semIF D (G.sr e))
  | .val a, _, D, G, E, N, ct, X, k, S, t, x, h => if_val S.hK (mx_ok a S x (by unfold mi at h; exact h))
  | .rng a, _, D, G, E, N, ct, X, k, S, t, x, h => by
    unfold mi at h
    cases w : vCallN x with
    | none => rw [w] at h; cases h
    | some r =>
      obtain ⟨f, q, xs, p⟩ := r
      rw [w] at h
      rw [vCallN_ok w]
      match xs, h with
      | [y], h =>
        obtain ⟨h1, h2⟩ := ba h
        obtain ⟨h2, h3⟩ := ba h2
        obtain ⟨h3, h4⟩ := ba h3
        have e : f = "range" := of_decide_eq_true h1
        subst e
        exact if_range (S.gl h2) (S.blt _ (by decide)) (mx_ok a S y h4) h3
      | [], h => cases h
      | _ :: _ :: _, h => cases h
  | .rng2 _ _, z, _, _, _, _, _, _, _, _, _, _, _ => by cases z
  | .enm _, z, _, _, _, _, _, _, _, _, _, _, _ => by cases z
  | .zip _ _, z, _, _, _, _, _, _, _, _, _, _, _ => by cases z
theorem mi_ok : ∀ (e : Sr) {D : Wd} {G : Gx} {E : Et} {N : List Str} {ct : Ct} {X : Cx} {k : Nat} (S : Sd D G E N ct X k) (t x : Expr), mi E N ct e t x = true → PI X t x (semI D (G.sr e))
  | .val a, D, G, E, N, ct, X, k, S, t, x, h => i_val S.hK (mx_ok a S x (by unfold mi at h; exact h))
  | .rng a, D, G, E, N, ct, X, k, S, t, x, h => by
    unfold mi at h
    cases w : vCallN x with
    | none => rw [w] at h; cases h
    | some r =>
      obtain ⟨f, q, xs, p⟩ := r
      rw [w] at h
      rw [vCallN_ok w]
      match xs, h with
      | [y], h =>
        obtain ⟨h1, h2⟩ := ba h
        obtain ⟨h2, h3⟩ := ba h2
        obtain ⟨h3, h4⟩ := ba h3
        have e : f = "range" := of_decide_eq_true h1
        subst e
        exact i_range (S.gl h2) (S.blt _ (by decide)) (mx_ok a S y h4) h3
      | [], h => cases h
      | _ :: _ :: _, h => cases h
  | .rng2 a b, D, G, E, N, ct, X, k, S, t, x, h => by
    unfold mi at h
    cases w : vCallN x with
    | none => rw [w] at h; cases h
    | some r =>
      obtain ⟨f, q, xs, p⟩ := r
      rw [w] at h
      rw [vCallN_ok w]
      match xs, h with
      | [y, z], h =>
        obtain ⟨h1, h2⟩ := ba h
        obtain ⟨h2, h3⟩ := ba h2
        obtain ⟨h3, h4⟩ := ba h3
        obtain ⟨h4, h5⟩ := ba h4
        obtain ⟨h5, h6⟩ := ba h5
        have e : f = "range" := of_decide_eq_true h1
        subst e
        exact i_range2 (S.gl h2) (S.blt _ (by decide)) (mx_ok a S y h5) (mx_ok b S z h6) h3 h4
      | [], h => cases h
      | [_], h => cases h
      | _ :: _ :: _ :: _, h => cases h
  | .enm a, D, G, E, N, ct, X, k, S, t, x, h => by
    unfold mi at h
    cases w : vCallN x with
    | none => rw [w] at h; cases h
    | some r =>
      obtain ⟨f, q, xs, p⟩ := r
      rw [w] at h
      rw [vCallN_ok w]
      match xs, h with
      | [y], h =>
        obtain ⟨h0, h1⟩ := ba h
        obtain ⟨h1, h2⟩ := ba h1
        obtain ⟨h2, h3⟩ := ba h2
        obtain ⟨h3, h4⟩ := ba h3
        have e : f = "enumerate" := of_decide_eq_true h1
        subst e
        cases t with
        | Tuple ts j pt => exact i_enum (S.gl h2) (S.blt _ (by decide)) (mx_ok a S y h4) h3
        | _ => cases h0
      | [], h => cases h
      | _ :: _ :: _, h => cases h
  | .zip a b, D, G, E, N, ct, X, k, S, t, x, h => by
    unfold mi at h
    cases w : vCallN x with
    | none => rw [w] at h; cases h
    | some r =>
      obtain ⟨f, q, xs, p⟩ := r
      rw [w] at h
      rw [vCallN_ok w]
      match xs, h with
      | [y, z], h =>
        obtain ⟨h0, h1⟩ := ba h
        obtain ⟨h1, h2⟩ := ba h1
        obtain ⟨h2, h3⟩ := ba h2
        obtain ⟨h3, h4⟩ := ba h3
        obtain ⟨h4, h5⟩ := ba h4
        obtain ⟨h5, h6⟩ := ba h5
        have e : f = "zip" := of_decide_eq_true h1
        subst e
        cases t with
        | Tuple ts j pt => exact i_zip (S.gl h2) (S.blt _ (by decide)) (mx_ok a S y h5) (mx_ok b S z h6) h3 h4
        | _ => cases h0
      | [], h => cases h
      | [_], h => cases h
      | _ :: _ :: _ :: _, h => cases h
end
end HV

end

section
/-! V11: statements of the deep syntax; defs. -/
namespace HV
open PySem PySem.Spec PyProof.Rows L2
/-! ### views of statements -/
def sRet : Stmt → Option (Expr × Pos)
  | .Return (some e) p => some (e, p)
  | _ => none
theorem sRet_ok {s : Stmt} {r} (h : sRet s = some r) : s = .Return (some r.1) r.2 := by
  unfold sRet at h; split at h
  · cases h; rfl
  · cases h
def sRse : Stmt → Option (Str × Pos × Expr × Pos × Pos)
  | .Raise (some (.Call (.Name x q) [e] [] p2)) none p => some (x, q, e, p2, p)
  | _ => none
theorem sRse_ok {s : Stmt} {r} (h : sRse s = some r) : s = .Raise (some (.Call (.Name r.1 r.2.1) [r.2.2.1] [] r.2.2.2.1)) none r.2.2.2.2 := by
  unfold sRse at h; split at h
  · cases h; rfl
  · cases h
def isGfz : Stm → Bool
  | .gfz _ => true
  | _ => false
theorem isGfz_ok {a : Stm} (h : isGfz a = true) : ∃ i, a = .gfz i := by
  unfold isGfz at h; split at h
  · exact ⟨_, rfl⟩
  · cases h
def sRetN : Stmt → Option Pos
  | .Return none p => some p
  | _ => none
theorem sRetN_ok {s : Stmt} {r} (h : sRetN s = some r) : s = .Return none r := by
  unfold sRetN at h; split at h
  · cases h; rfl
  · cases h
def sExpr : Stmt → Option (Expr × Pos)
  | .Expr e p => some (e, p)
  | _ => none
theorem sExpr_ok {s : Stmt} {r} (h : sExpr s = some r) : s = .Expr r.1 r.2 := by
  unfold sExpr at h; split at h
  · cases h; rfl
  · cases h
def sAsgN : Stmt → Option (Str × Pos × Expr × Pos)
  | .Assign [.Name x q] e p => some (x, q, e, p)
  | _ => none
theorem sAsgN_ok {s : Stmt} {r} (h : sAsgN s = some r) : s = .Assign [.Name r.1 r.2.1] r.2.2.1 r.2.2.2 := by
  unfold sAsgN at h; split at h
  · cases h; rfl
  · cases h
def sAsgT : Stmt → Option (List Expr × Nat × Pos × Expr × Pos)
  | .Assign [.Tuple xs j q] e p => some (xs, j, q, e, p)
  | _ => none
theorem sAsgT_ok {s : Stmt} {r} (h : sAsgT s = some r) : s = .Assign [.Tuple r.1 r.2.1 r.2.2.1] r.2.2.2.1 r.2.2.2.2 := by
  unfold sAsgT at h; split at h
  · cases h; rfl
  · cases h
def sAsgS : Stmt → Option (Expr × Expr × Pos × Expr × Pos)
  | .Assign [.Subscript o i q] e p => some (o, i, q, e, p)
  | _ => none
theorem sAsgS_ok {s : Stmt} {r} (h : sAsgS s = some r) : s = .Assign [.Subscript r.1 r.2.1 r.2.2.1] r.2.2.2.1 r.2.2.2.2 := by
  unfold sAsgS at h; split at h
  · cases h; rfl
  · cases h
def sAsgA : Stmt → Option (Expr × Str × Pos × Expr × Pos)
  | .Assign [.Attribute o g q] e p => some (o, g, q, e, p)
  | _ => none
theorem sAsgA_ok {s : Stmt} {r} (h : sAsgA s = some r) : s = .Assign [.Attribute r.1 r.2.1 r.2.2.1] r.2.2.2.1 r.2.2.2.2 := by
  unfold sAsgA at h; split at h
  · cases h; rfl
  · cases h
def sIf : Stmt → Option (Expr × List Stmt × List Stmt × Pos)
  | .If c a b p => some (c, a, b, p)
  | _ => none
theorem sIf_ok {s : Stmt} {r} (h : sIf s = some r) : s = .If r.1 r.2.1 r.2.2.1 r.2.2.2 := by
  unfold sIf at h; split at h
  · cases h; rfl
  · cases h
def sWhl : Stmt → Option (Expr × List Stmt × Pos)
  | .While c a [] p => some (c, a, p)
  | _ => none
theorem sWhl_ok {s : Stmt} {r} (h : sWhl s = some r) : s = .While r.1 r.2.1 [] r.2.2 := by
  unfold sWhl at h; split at h
  · cases h; rfl
  · cases h
def sFor : Stmt → Option (Expr × Expr × List Stmt × Pos)
  | .For t i b [] p => some (t, i, b, p)
  | _ => none
theorem sFor_ok {s : Stmt} {r} (h : sFor s = some r) : s = .For r.1 r.2.1 r.2.2.1 [] r.2.2.2 := by
  unfold sFor at h; split at h
  · cases h; rfl
  · cases h
def isPass : Stmt → Bool
  | .Pass _ => true
  | .Expr (.Constant (.str _) _ _) _ => true
  | _ => false
def isBrk : Stmt → Bool
  | .Break _ => true
  | _ => false
def isCont : Stmt → Bool
  | .Continue _ => true
  | _ => false
/-! ### the order of stores -/
def isFun (sc : Scope) : Bool := sc.kind == .function
def swO (kd : Str → Option NameKind) (ts vs : List Expr) : Option (Option (List Str)) :=
  if (!(ts.length == 2 || ts.length == 3) || vs.length != ts.length || (ScopeKind.function != .function)) = true then some none else
  if (vs.any fun | .Starred .. => true | _ => false) = true then some none else
  if ((ts.filterMap fun | .Name id pos => if kd id == some .local && pos.line == (ts.head?.map (·.pos.line)).getD 0 then some id else none | _ => none).length != ts.length || (ts.filterMap fun | .Name id pos => if kd id == some .local && pos.line == (ts.head?.map (·.pos.line)).getD 0 then some id else none | _ => none).eraseDups.length != (ts.filterMap fun | .Name id pos => if kd id == some .local && pos.line == (ts.head?.map (·.pos.line)).getD 0 then some id else none | _ => none).length) = true then some none else
  if vs.all (foldedForSure 8) = true then some none else
  if vs.all (constantsAlone 8) = true then none else
  some (some (ts.filterMap fun | .Name id pos => if kd id == some .local && pos.line == (ts.head?.map (·.pos.line)).getD 0 then some id else none | _ => none))
theorem blk_fun {env : PySem.Env} {sc : Scope} (hs : env.scope = sc) (hf : isFun sc = true) : env.blockKind = .function := by
  have : sc.kind = .function := by simpa [isFun] using hf
  unfold Env.blockKind
  rw [hs, this]
  rfl
theorem swO_ok {env : PySem.Env} {sc : Scope} {ts vs : List Expr} {j j2 : Nat} {q q2 : Pos} {r : Option (List Str)} (hs : env.scope = sc) (hf : isFun sc = true) (h : swO (fun x => sc.names.lookup x) ts vs = some r) : swappedStores [.Tuple ts j q] (.Tuple vs j2 q2) env = pure r := by
  have hb := blk_fun hs hf
  subst hs
  change swO env.kindOf ts vs = some r at h
  unfold swO at h
  unfold swappedStores
  rw [hb]
  dsimp only
  split at h
  · rename_i c; cases h; exact if_pos c
  · rename_i c1
    refine (if_neg c1).trans ?_
    split at h
    · rename_i c; cases h; exact if_pos c
    · rename_i c2
      refine (if_neg c2).trans ?_
      split at h
      · rename_i c; cases h; exact if_pos c
      · rename_i c3
        refine (if_neg c3).trans ?_
        split at h
        · rename_i c; cases h; exact if_pos c
        · rename_i c4
          refine (if_neg c4).trans ?_
          split at h
          · cases h
          · rename_i c5
            cases h
            exact if_neg c5
def swB (sc scope : Scope) (y : Str) (ql pl : Nat) : Bool := (sc.names.lookup y == some .local) && ql == pl && !(scope.names.any fun (n, k) => n == y && (k == .local || k == .cell))
theorem swB_ok {env : PySem.Env} {sc scope : Scope} {elt : Expr} {gs : List Comprehension} {y : Str} {q p : Pos} {l : Nat} (hs : env.scope = sc) (hf : isFun sc = true) : swapsWith (.ListComp elt gs scope p) (some (.Name y q)) l env = pure (swB sc scope y q.line p.line) := by
  have hb := blk_fun hs hf
  subst hs
  unfold swapsWith swB
  simp only [hb, Env.kindOf, Expr.pos, beq_self_eq_true, Bool.true_and]
/-- a comprehension's scope, where it stands -/
def lcSc : Expr → Option (Scope × Pos)
  | .ListComp _ _ scope p => some (scope, p)
  | _ => none
def sAug : Stmt → Option (Str × Pos × Operator × Expr × Pos)
  | .AugAssign (.Name x q) op e p => some (x, q, op, e, p)
  | _ => none
theorem sAug_ok {s : Stmt} {r : Str × Pos × Operator × Expr × Pos} (h : sAug s = some r) : s = (match r with | (x, q, op, e, p) => .AugAssign (.Name x q) op e p) := by
  unfold sAug at h
  split at h
  · cases h; rfl
  · cases h
def isLc : Ex → Bool
  | .lc .. => true
  | .nlc .. => true
  | .lc2 .. => true
  | .nlc2 .. => true
  | _ => false
def tgsOf : List Nat → Tgs
  | [] => .nil
  | i :: r => .cons (.nm i) (tgsOf r)
section
variable (E : Et) (N : List Str) (ct : Ct)
def nameIs (x : Expr) (i : Nat) (y : Str) : Bool := match vName x with
  | some (z, _) => decide (z = y) && decide (N[i]? = some y)
  | none => false
def mpar (is : List Nat) (es : Es) (xs : List Expr) (e : Expr) : Bool := match vTup e with
  | some (vs, _, _) => isFun ct.sc && (ms E N ct es vs && (decide (is.length ≤ 16777216) && (match swO (fun x => ct.sc.names.lookup x) xs vs with
    | some none => mgs N ct (tgsOf is) xs
    | some (some ys) => (match is, xs, ys, vs with
      | [i, j], [x, y], [x', y'], [_, _] => nameIs N x i x' && (nameIs N y j y' && (decide (i ≠ j) && (locB ct.sc x' && locB ct.sc y')))
      | [i, j, l], [x, y, z], [x', y', z'], [_, _, _] => nameIs N x i x' && (nameIs N y j y' && (nameIs N z l z' && (decide (i ≠ j ∧ i ≠ l ∧ j ≠ l) && (locB ct.sc x' && (locB ct.sc y' && locB ct.sc z')))))
      | _, _, _, _ => false)
    | none => false)))
  | none => false
mutual
def mst : Stm → Stmt → Bool
  | .pass, s => isPass s
  | .ret a, s => (match sRet s with | some (x, _) => mx E N ct a x | none => false)
  | .retN, s => (sRetN s).isSome
  | .exp a, s => (match sExpr s with | some (x, _) => plainX x && mx E N ct a x | none => false)
  | .set i a, s => (match sAsgN s with
    | some (x, q, e, _) => decide (N[i]? = some x) && (locC ct x && (mx E N ct a e && (plainX e || (isLc a && (isFun ct.sc && (match lcSc e with
      | some (scope, p) => !swB ct.sc scope x q.line p.line || locB ct.sc x
      | none => false))))))
    | none => false)
  | .setT t a, s => (match sAsgT s with | some (xs, j, q, e, _) => !tupX e && (argX e && (mg N ct t (.Tuple xs j q) && mx E N ct a e)) | none => false)
  | .par is es, s => (match sAsgT s with | some (xs, _, _, e, _) => mpar E N ct is es xs e | none => false)
  | .setI o ix a, s => (match sAsgS s with | some (y, z, _, e, _) => argX e && (argX z && (mx E N ct o y && (mx E N ct ix z && mx E N ct a e))) | none => false)
  | .fld o f a, s => (match sAsgA s with | some (y, g, _, e, _) => argX e && (decide (g = nmS f) && (mx E N ct o y && mx E N ct a e)) | none => false)
  | .ite c a b, s => (match sIf s with | some (t, xs, ys, _) => mt E N ct c t && (msts a xs && msts b ys) | none => false)
  | .whl c b, s => (match sWhl s with | some (t, xs, _) => mt E N ct c t && msts b xs | none => false)
  | .for_ t r b, s => (match sFor s with | some (tgx, iter, xs, _) => !setX iter && (mg N ct t tgx && (mi E N ct r tgx iter && msts b xs)) | none => false)
  | .brk, s => isBrk s
  | .cont, s => isCont s
  | .bad, _ => true
  | .rse n c a, s => (match sRse s with | some (x, _, e, _, _) => decide (x = nmS n) && (decide (E.xc c = some n) && (gloB ct.sc x && (okN x && (argX e && mx E N ct a e)))) | none => false)
  | .gfz _, _ => false
  | .parP _ _, _ => false
  | .aug i k a, s => (match sAug s with | some (x, _, op, e, _) => decide (k < 2) && (decide (op = augOf k) && (decide (N[i]? = some x) && (locC ct x && mx E N ct a e))) | none => false)
  | .augI _ _ _ _, _ => false
def msts : Sts → List Stmt → Bool
  | .nil, xs => xs.isEmpty
  | .cons a r, xs => if isGfz a = true then msts r xs else (match xs with | x :: xs => mst a x && msts r xs | [] => false)
end
end
section
variable {D : Wd} {G : Gx} {E : Et} {N : List Str} {ct : Ct} {X : Cx} {k : Nat}
theorem swap_at {e o : Expr} {f : Str} {p : Pos} {l : Nat} {ev : PySem.Env} : swapsWith e (some (.Attribute o f p)) l ev = pure false := by
  unfold swapsWith
  cases e <;> rfl
theorem swap_sub {e o i : Expr} {p : Pos} {l : Nat} {ev : PySem.Env} : swapsWithSole [.Subscript o i p] e l ev = pure false := by
  show swapsWith e (some (.Subscript o i p)) l ev = pure false
  unfold swapsWith
  cases e <;> rfl
theorem swap_tup {e : Expr} {xs : List Expr} {j : Nat} {p : Pos} {l : Nat} {ev : PySem.Env} : swapsWithSole [.Tuple xs j p] e l ev = pure false := by
  show swapsWith e (some (.Tuple xs j p)) l ev = pure false
  unfold swapsWith
  cases e <;> rfl
theorem loc_of {sc : Scope} {x : Str} (h : locB sc x = true) : sc.names.lookup x = some .local := by
  unfold locB at h
  split at h
  · assumption
  · cases h
theorem nameIs_ok {x : Expr} {i : Nat} {y : Str} (h : nameIs N x i y = true) : ∃ p, x = .Name y p ∧ N[i]? = some y := by
  unfold nameIs at h
  cases w : vName x with
  | none => rw [w] at h; cases h
  | some r =>
    obtain ⟨z, p⟩ := r
    rw [w] at h
    obtain ⟨h1, h2⟩ := ba h
    have e : z = y := of_decide_eq_true h1
    subst e
    exact ⟨p, vName_ok w, of_decide_eq_true h2⟩
theorem tgs_setL : ∀ {is : List Nat} {vs : List Vl} {env : Env} {h : Hm}, G.tgs (tgsOf is) vs env h = setL is vs env
  | [], [], env, h => by simp [tgsOf, Gx.tgs, gsNil, setL]
  | [], _ :: _, env, h => by simp [tgsOf, Gx.tgs, gsNil, setL]
  | _ :: _, [], env, h => by simp [tgsOf, Gx.tgs, gsCons, setL]
  | i :: is, v :: vs, env, h => by
    simp only [tgsOf, Gx.tgs, gsCons, Gx.tg, tgN, setL]
    by_cases hi : i < env.length
    · rw [if_pos hi, if_pos hi]; exact tgs_setL
    · rw [if_neg hi, if_neg hi]
theorem tgs_len : ∀ {is : List Nat}, Tgs.len (tgsOf is) = is.length
  | [] => by simp [tgsOf, Tgs.len]
  | i :: is => by simp [tgsOf, Tgs.len, tgs_len]
theorem par_ok (S : Sd D G E N ct X k) {is : List Nat} {es : Es} {xs : List Expr} {e : Expr} {j : Nat} {q p : Pos} (h : mpar E N ct is es xs e = true) : PS X (.Assign [.Tuple xs j q] e p) (semS D (G.st (.par is es))) := by
  unfold mpar at h
  cases w : vTup e with
  | none => rw [w] at h; cases h
  | some r =>
    obtain ⟨vs, j2, q2⟩ := r
    rw [w] at h
    rw [vTup_ok w]
    dsimp only at h ⊢
    obtain ⟨h1, h2⟩ := ba h
    obtain ⟨h2, h3⟩ := ba h2
    obtain ⟨hln, h3⟩ := ba h3
    have pa := ms_ok es S vs h2
    cases w2 : swO (fun x => ct.sc.names.lookup x) xs vs with
    | none => rw [w2] at h3; cases h3
    | some r =>
      have hw := swO_ok (j := j) (j2 := j2) (q := q) (q2 := q2) S.hsc h1 w2
      rw [w2] at h3
      cases r with
      | none =>
        obtain ⟨g1, g2, g3⟩ := mgs_ok (tgsOf is) S xs h3
        refine PS.imp (ps_asg (pe_tup pa) (pg_tup (k := j) S.calm g1 (g2 _) (g3 _)) swap_tup hw rfl) fun En σ H z => ?_
        obtain ⟨Hs, ρ, h, env, sy, er, p⟩ := z
        refine ⟨Hs, ρ, h, env, sy, er, Post.bindS p fun us h1 H1 Hs1 ρ1 t1 p1 sy1 q1 vs rs => ?_⟩
        cases w3 : setL is us env with
        | none => rw [w3] at q1; exact q1.elim
        | some e2 =>
          rw [w3] at q1
          have hl : us.length = is.length := by
            have : ∀ {is : List Nat} {us : List Vl} {env e2 : Env}, setL is us env = some e2 → us.length = is.length := by
              intro is
              induction is with
              | nil => intro us env e2 w; cases us <;> first | rfl | cases w
              | cons i is ih =>
                intro us env e2 w
                cases us with
                | nil => cases w
                | cons u us =>
                  simp only [setL] at w
                  split at w
                  · simp [ih w]
                  · cases w
            exact this w3
          refine ⟨?_, fun a ha => ?_⟩
          · rw [Paired.length rs, hl, sizeLine_eq]; exact of_decide_eq_true hln
          · have s2 := sy1.other (o := .tup vs) (.none ha) (sy1.nobody ha).1 (sy1.nobody ha).2
            refine ⟨a, vs, rfl, SqT.of upd_same, by rw [Paired.length rs, hl, tgs_len], Hs1, ρ1, h1, env, us, s2, er.mono t1.mono p1, rs, e2, by rw [tgs_setL]; exact w3, fun σ' er' _ _ => ?_⟩
            exact q1 σ' _ Hs1 ρ1 (tr_new ha) Pre.refl s2 er'
      | some ys =>
        dsimp only at h3
        split at h3
        · obtain ⟨k1, h3⟩ := ba h3
          obtain ⟨k2, h3⟩ := ba h3
          obtain ⟨k3, h3⟩ := ba h3
          obtain ⟨k4, k5⟩ := ba h3
          obtain ⟨px, rfl, n1⟩ := nameIs_ok k1
          obtain ⟨py, rfl, n2⟩ := nameIs_ok k2
          exact s_par2 S.calm (by rw [S.hN]; exact S.nd) (by rw [S.hN]; exact n1) (by rw [S.hN]; exact n2) (of_decide_eq_true k3) (by rw [S.hsc]; exact loc_of k4) (by rw [S.hsc]; exact loc_of k5) pa hw
        · obtain ⟨k1, h3⟩ := ba h3
          obtain ⟨k2, h3⟩ := ba h3
          obtain ⟨k3, h3⟩ := ba h3
          obtain ⟨k4, h3⟩ := ba h3
          obtain ⟨k5, h3⟩ := ba h3
          obtain ⟨k6, k7⟩ := ba h3
          obtain ⟨px, rfl, n1⟩ := nameIs_ok k1
          obtain ⟨py, rfl, n2⟩ := nameIs_ok k2
          obtain ⟨pz, rfl, n3⟩ := nameIs_ok k3
          obtain ⟨d1, d2, d3⟩ := of_decide_eq_true k4
          exact s_par3 S.calm (by rw [S.hN]; exact S.nd) (by rw [S.hN]; exact n1) (by rw [S.hN]; exact n2) (by rw [S.hN]; exact n3) d1 d2 d3 (by rw [S.hsc]; exact loc_of k5) (by rw [S.hsc]; exact loc_of k6) (by rw [S.hsc]; exact loc_of k7) pa hw
        · cases h3
theorem lcs_ok (S : Sd D G E N ct X k) {i : Nat} {a : Ex} {x : Str} {q : Pos} {e : Expr} {p : Pos} (hi : N[i]? = some x) (hl : locC ct x = true) (hx : mx E N ct a e = true) (h : (isLc a && (isFun ct.sc && (match lcSc e with
      | some (scope, p) => !swB ct.sc scope x q.line p.line || locB ct.sc x
      | none => false))) = true) : PS X (.Assign [.Name x q] e p) (semS D (G.st (.set i a))) := by
  obtain ⟨h1, h20⟩ := ba h
  obtain ⟨h2, h3⟩ := ba h20
  clear h20 h
  obtain ⟨l1, l2⟩ := S.loc hl
  have px := mx_ok a S e hx
  cases w : lcSc e with
  | none => rw [w] at h3; cases h3
  | some r =>
    obtain ⟨scope, p2⟩ := r
    rw [w] at h3
    obtain ⟨elt, gs, rfl⟩ : ∃ elt gs, e = .ListComp elt gs scope p2 := by
      unfold lcSc at w
      split at w
      · cases w; exact ⟨_, _, rfl⟩
      · cases w
    dsimp only at h3
    have sw := swB_ok (elt := elt) (gs := gs) (y := x) (q := q) (p := p2) (l := p.line) (scope := scope) S.hsc h2
    cases w2 : swB ct.sc scope x q.line p2.line with
    | false =>
      rw [w2] at sw
      exact s_set (ps_set (by rw [S.hN]; exact S.nd) (by rw [S.hN]; exact hi) l1 px sw l2)
    | true =>
      rw [w2] at sw h3
      have hloc : locB ct.sc x = true := by simpa using h3
      refine s_set ?_
      cases a with
      | lc own tg src c e' =>
        unfold mx at hx
        cases w : vLc (.ListComp elt gs scope p2) with
        | none => rw [w] at hx; cases hx
        | some r =>
          obtain ⟨elt', tgx, iter, ifs, scope', p'⟩ := r
          rw [w] at hx
          have e3 := vLc_ok w
          dsimp only at e3
          cases e3
          obtain ⟨_, q2, q3⟩ := lc_parts (p := p2) S hx (mi_ok src S tgx iter) (fun X' S' y => mt_ok c S' y) (fun X' S' y => mx_ok e' S' y)
          refine PS.imp (q3 hi (loc_of hloc) sw) fun En σ H z => ?_
          exact sem_lc (SrcAll G src) q2 σ H _ z
      | nlc own tg src c e' =>
        unfold mx at hx
        cases w : vLc (.ListComp elt gs scope p2) with
        | none => rw [w] at hx; cases hx
        | some r =>
          obtain ⟨elt', tgx, iter, ifs, scope', p'⟩ := r
          rw [w] at hx
          have e3 := vLc_ok w
          dsimp only at e3
          cases e3
          obtain ⟨_, q2, q3⟩ := lc_parts (p := p2) S hx (mi_ok src S tgx iter) (fun X' S' y => mt_ok c S' y) (fun X' S' y => mx_ok e' S' y)
          refine PS.imp (q3 hi (loc_of hloc) sw) fun En σ H z => ?_
          exact sem_nlc (SrcAll G src) q2 σ H _ z
      | lc2 own own2 tg src c tg2 src2 c2 e' =>
        unfold mx at hx
        cases w : vLc2 (.ListComp elt gs scope p2) with
        | none => rw [w] at hx; cases hx
        | some r =>
          obtain ⟨elt', tgx, iter, ifs, tgx2, iter2, ifs2, scope', p'⟩ := r
          rw [w] at hx
          have e3 := vLc2_ok w
          dsimp only at e3
          cases e3
          have hfr : isFr src2 = true := (ba (ba (ba (ba (ba (ba (ba (ba (ba (ba hx).2).2).2).2).2).2).2).2).2).1
          obtain ⟨_, q2, q3, q4⟩ := lc2_parts (p := p2) S hx (mi_ok src S tgx iter) (fun X' S' hh => mif_ok src2 hfr S' tgx2 iter2 hh) (fun X' S' y => mt_ok c S' y) (fun X' S' y => mt_ok c2 S' y) (fun X' S' y => mx_ok e' S' y)
          refine PS.imp (q4 hi (loc_of hloc) sw) fun En σ H z => ?_
          exact sem_lc2 (SrcAll G src) q2 q3 σ H _ z
      | nlc2 own own2 tg src c tg2 src2 c2 e' =>
        unfold mx at hx
        cases w : vLc2 (.ListComp elt gs scope p2) with
        | none => rw [w] at hx; cases hx
        | some r =>
          obtain ⟨elt', tgx, iter, ifs, tgx2, iter2, ifs2, scope', p'⟩ := r
          rw [w] at hx
          have e3 := vLc2_ok w
          dsimp only at e3
          cases e3
          have hfr : isFr src2 = true := (ba (ba (ba (ba (ba (ba (ba (ba (ba (ba hx).2).2).2).2).2).2).2).2).2).1
          obtain ⟨_, q2, q3, q4⟩ := lc2_parts (p := p2) S hx (mi_ok src S tgx iter) (fun X' S' hh => mif_ok src2 hfr S' tgx2 iter2 hh) (fun X' S' y => mt_ok c S' y) (fun X' S' y => mt_ok c2 S' y) (fun X' S' y => mx_ok e' S' y)
          refine PS.imp (q4 hi (loc_of hloc) sw) fun En σ H z => ?_
          exact sem_nlc2 (SrcAll G src) q2 q3 σ H _ z
      | _ => cases h1
mutual
theorem mst_ok (S : Sd D G E N ct X k) (hp : PassesOwn (model X.prog X.w) X.A X.env X.xe) : ∀ (a : Stm) (x : Stmt), mst E N ct a x = true → PS X x (semS D (G.st a))
  | .pass, x, h => by
    unfold mst at h
    unfold isPass at h
    split at h
    · exact s_pass
    · exact s_doc
    · cases h
  | .ret a, x, h => by
    unfold mst at h
    cases w : sRet x with
    | none => rw [w] at h; cases h
    | some r => rw [w] at h; rw [sRet_ok w]; exact s_ret (mx_ok a S r.1 h)
  | .retN, x, h => by
    unfold mst at h
    cases w : sRetN x with
    | none => rw [w] at h; cases h
    | some r => rw [sRetN_ok w]; exact s_retN
  | .exp a, x, h => by
    unfold mst at h
    cases w : sExpr x with
    | none => rw [w] at h; cases h
    | some r =>
      rw [w] at h
      rw [sExpr_ok w]
      obtain ⟨h1, h2⟩ := ba h
      exact s_expr (mx_ok a S r.1 h2) (swap_of h1)
  | .set i a, x, h => by
    unfold mst at h
    cases w : sAsgN x with
    | none => rw [w] at h; cases h
    | some r =>
      obtain ⟨y, q, e, p⟩ := r
      rw [w] at h
      rw [sAsgN_ok w]
      obtain ⟨h1, h2⟩ := ba h
      obtain ⟨h2, h3⟩ := ba h2
      obtain ⟨h3, h4⟩ := ba h3
      cases w2 : plainX e with
      | true =>
        obtain ⟨l1, l2⟩ := S.loc h2
        exact s_set (ps_set (by rw [S.hN]; exact S.nd) (by rw [S.hN]; exact of_decide_eq_true h1) l1 (mx_ok a S e h3) (swap_of w2) l2)
      | false =>
        rw [w2] at h4
        exact lcs_ok S (of_decide_eq_true h1) h2 h3 (by simpa using h4)
  | .aug i j a, x, h => by
    unfold mst at h
    cases w : sAug x with
    | none => rw [w] at h; cases h
    | some r =>
      obtain ⟨y, q, op, e, p⟩ := r
      rw [w] at h
      rw [sAug_ok w]
      obtain ⟨h1, h⟩ := ba h
      obtain ⟨h2, h⟩ := ba h
      obtain ⟨h3, h⟩ := ba h
      obtain ⟨h4, h5⟩ := ba h
      have e : op = augOf j := of_decide_eq_true h2
      subst e
      obtain ⟨l1, l2⟩ := S.loc h4
      exact s_aug (op := augOf j) (of_decide_eq_true h1) (by rw [S.hN]; exact S.nd) (by rw [S.hN]; exact of_decide_eq_true h3) l1 (mx_ok a S _ h5) l2
  | .augI _ _ _ _, x, h => by unfold mst at h; cases h
  | .setT t a, x, h => by
    unfold mst at h
    cases w : sAsgT x with
    | none => rw [w] at h; cases h
    | some r =>
      obtain ⟨xs, j, q, e, p⟩ := r
      rw [w] at h
      rw [sAsgT_ok w]
      obtain ⟨g1, g2⟩ := ba h
      obtain ⟨g3, g4⟩ := ba g2
      obtain ⟨g5, g6⟩ := ba g4
      obtain ⟨k1, k2, _⟩ := mg_ok t S _ g5
      have hw : swappedStores [.Tuple xs j q] e X.env = pure none := by cases e <;> first | rfl | (simp [tupX] at g1)
      refine PS.imp (ps_asg (mx_ok a S e g6) k1 swap_tup hw (k2 [] _)) fun En σ H z => ?_
      obtain ⟨Hs, ρ, h, env, sy, er, p⟩ := z
      refine ⟨Hs, ρ, h, env, sy, er, Post.bindS p fun d h1 H1 Hs1 ρ1 t1 p1 sy1 q1 v rv => ?_⟩
      cases w : G.tg t d env h1 with
      | none => rw [w] at q1; exact q1.elim
      | some e2 =>
        rw [w] at q1
        exact ⟨Hs1, ρ1, h1, env, d, sy1, er.mono t1.mono p1, rv, e2, w, fun σ2 er2 _ _ => q1 σ2 H1 Hs1 ρ1 Tr.refl Pre.refl sy1 er2⟩
  | .par is es, x, h => by
    unfold mst at h
    cases w : sAsgT x with
    | none => rw [w] at h; cases h
    | some r => obtain ⟨xs, j, q, e, p⟩ := r; rw [w] at h; rw [sAsgT_ok w]; exact par_ok S h
  | .setI o ix a, x, h => by
    unfold mst at h
    cases w : sAsgS x with
    | none => rw [w] at h; cases h
    | some r =>
      obtain ⟨y, z, q, e, p⟩ := r
      rw [w] at h
      rw [sAsgS_ok w]
      obtain ⟨h1, h2⟩ := ba h
      obtain ⟨h2, h3⟩ := ba h2
      obtain ⟨h3, h4⟩ := ba h3
      obtain ⟨h4, h5⟩ := ba h4
      refine s_setI (by have := S.un; omega) (mx_ok a S e h5) (mx_ok o S y h3) (mx_ok ix S z h4) swap_sub (fun v => ?_) rfl rfl
      cases z <;> first | rfl | (cases h2)
  | .fld o f a, x, h => by
    unfold mst at h
    cases w : sAsgA x with
    | none => rw [w] at h; cases h
    | some r =>
      obtain ⟨y, g, q, e, p⟩ := r
      rw [w] at h
      rw [sAsgA_ok w]
      obtain ⟨h1, h2⟩ := ba h
      obtain ⟨h2, h3⟩ := ba h2
      obtain ⟨h3, h4⟩ := ba h3
      have e' : g = nmS f := of_decide_eq_true h2
      subst e'
      show PS X _ (semS D fun env h => (G.ex a env h).bindS fun y h => (G.ex o env h).bindS fun x h => (fldH G.isF f x y h).bindS fun _ h => .nx env h)
      rw [S.isF]
      exact s_fld S.ok S.hK (mx_ok a S e h4) (mx_ok o S y h3) swap_at
  | .ite c a b, x, h => by
    unfold mst at h
    cases w : sIf x with
    | none => rw [w] at h; cases h
    | some r =>
      obtain ⟨t, xs, ys, p⟩ := r
      rw [w] at h
      rw [sIf_ok w]
      obtain ⟨h1, h2⟩ := ba h
      obtain ⟨h2, h3⟩ := ba h2
      exact s_if (mt_ok c S t h1) (msts_ok S hp a xs h2) (msts_ok S hp b ys h3)
  | .whl c b, x, h => by
    unfold mst at h
    cases w : sWhl x with
    | none => rw [w] at h; cases h
    | some r =>
      obtain ⟨t, xs, p⟩ := r
      rw [w] at h
      rw [sWhl_ok w]
      obtain ⟨h1, h2⟩ := ba h
      exact s_while hp G.fuel (mt_ok c S t h1) (msts_ok S hp b xs h2)
  | .for_ t r b, x, h => by
    unfold mst at h
    cases w : sFor x with
    | none => rw [w] at h; cases h
    | some rr =>
      obtain ⟨tgx, iter, xs, p⟩ := rr
      rw [w] at h
      rw [sFor_ok w]
      obtain ⟨g1, g2⟩ := ba h
      obtain ⟨g3, g4⟩ := ba g2
      obtain ⟨g5, g6⟩ := ba g4
      have hset : ∀ x, foldedSetIterable iter X.env x = pure x := fun x => by
        cases iter <;> first | rfl | (simp [setX] at g1)
      exact s_for (SrcAll G r) (ps_for hp S.calm (mi_ok r S tgx iter g5) (mg_ok t S tgx g3).1 (msts_ok S hp b xs g6) hset)
  | .brk, x, h => by
    unfold mst at h
    unfold isBrk at h
    split at h
    · exact s_brk
    · cases h
  | .cont, x, h => by
    unfold mst at h
    unfold isCont at h
    split at h
    · exact s_cont
    · cases h
  | .parP _ _, x, h => by unfold mst at h; cases h
  | .gfz _, x, h => by unfold mst at h; cases h
  | .rse n c a, x, h => by
    unfold mst at h
    cases w : sRse x with
    | none => rw [w] at h; cases h
    | some r =>
      obtain ⟨y, q, e, p2, p⟩ := r
      rw [w] at h
      rw [sRse_ok w]
      obtain ⟨h1, h⟩ := ba h
      obtain ⟨h2, h⟩ := ba h
      obtain ⟨h3, h⟩ := ba h
      obtain ⟨h4, h⟩ := ba h
      obtain ⟨h5, h6⟩ := ba h
      have ey : y = nmS n := of_decide_eq_true h1
      subst ey
      obtain ⟨C, fI, fd, ps, K⟩ := S.xcs c n (of_decide_eq_true h2)
      exact s_rse K S.tk (S.gl h3) S.calm (S.rm.mono (by omega)) (mx_ok a S e h6) h5 (okN_d h4).1
  | .bad, x, h => PS.imp (ps_never (st := x)) fun En σ H z => by
    obtain ⟨Hs, ρ, h, env, sy, er, p⟩ := z
    exact p.elim
theorem msts_ok (S : Sd D G E N ct X k) (hp : PassesOwn (model X.prog X.w) X.A X.env X.xe) : ∀ (a : Sts) (xs : List Stmt), msts E N ct a xs = true → PSs X xs (semS D (G.sts a))
  | .nil, xs, h => by
    unfold msts at h
    cases xs with
    | nil => exact ss_nil
    | cons _ _ => cases h
  | .cons a r, xs, h => by
    unfold msts at h
    by_cases hg : isGfz a = true
    · rw [if_pos hg] at h
      obtain ⟨i, rfl⟩ := isGfz_ok hg
      exact ss_gfz (msts_ok S hp r xs h)
    · rw [if_neg hg] at h
      cases xs with
      | nil => cases h
      | cons x xs =>
        obtain ⟨h1, h2⟩ := ba h
        exact ss_cons (mst_ok S hp a x h1) (msts_ok S hp r xs h2)
end
end
end HV

end

section
/-! Vk: what a module says of its exception classes and of a def that catches, by Bools. -/
namespace HV
open PySem PySem.Spec PyProof.Rows L2
def oexB (K : PySem.W.Frag) (C : Addr) : Bool := (match K.lookup C with
  | some ⟨.type "type", _, .cls cd, sl⟩ => (match cd.mro, sl.toList with
    | .ref C' :: bm, [_, _, _, _, some (.builtin n), _] => C' == C && (n == "ValueError.__new__" && (!cd.hasDel && (cd.hasDict && HandSPX.refsVE bm)))
    | _, _ => false)
  | _ => false) && (decide (PySem.W.findIn K (.ref C) "__setattr__" = some (some (.builtin "object.__setattr__"))) && (decide (PySem.W.subIn K (.ref C) (.type "BaseException") = some true) && (decide (PySem.W.typeIn K (.ref C) = some (.type "type")) && PySem.W.keepIn K (.ref C))))
theorem oexB_ok {K : PySem.W.Frag} {C : Addr} (h : oexB K C = true) : OexC K C := by
  obtain ⟨h1, h⟩ := ba h
  obtain ⟨h2, h⟩ := ba h
  obtain ⟨h3, h⟩ := ba h
  obtain ⟨h4, h5⟩ := ba h
  refine ⟨?_, of_decide_eq_true h2, of_decide_eq_true h3, of_decide_eq_true h4, h5⟩
  split at h1
  · rename_i dd cd sl ho
    split at h1
    · rename_i C' bm k0 k1 k2 k3 n k5 hm hs
      simp only [Bool.and_eq_true, beq_iff_eq, Bool.not_eq_true'] at h1
      obtain ⟨rfl, rfl, hdel, hdc, hr⟩ := h1
      obtain ⟨nm, bs, mro, ns, qn, hd, sn, sub, ab, col, del⟩ := cd
      dsimp only at hm hdel hdc
      subst hm hdel hdc
      have es : sl = #[k0, k1, k2, k3, some (.builtin "ValueError.__new__"), k5] := by
        obtain ⟨l⟩ := sl
        simp only at hs
        rw [hs]
      subst es
      exact ⟨nm, qn, ns, bs, bm, sn, sub, ab, col, dd, k0, k1, k2, k3, k5, ho, hr⟩
    · cases h1
  · cases h1
/-- the text of such an __init__ -/
structure IniT (d : He.DefD) (fl : Str) (ps : List Str) : Prop where
  ex : ∃ (me x m : Str) (j : Nat) (p0 p1 p2 p3 p4 p5 p6 p7 p8 p9 : Pos) (ar : Arg), ps = [me, x] ∧ d.body = iniB me x fl m j p0 p1 p2 p3 p4 p5 p6 p7 p8 p9 ∧ IniSc d.scope me x ∧ (d.params.posonlyargs ++ d.params.args).head? = some ar ∧ ar.arg = me ∧
    (me == ("__debug__" : Str)) = false ∧ (me == ("__classdict__" : Str)) = false ∧ (x == ("__debug__" : Str)) = false ∧ (x == ("__classdict__" : Str)) = false ∧ (p2.endLine == p4.line) = true
  bi : ∀ (kV doc pm : Value) (an : Option Addr) (cdv ct : Value) (cc : Addr) (us : List Value), us.length = ps.length → bindArgs (PySem.W.ksFn d.name d.qual d.params d.body d.scope .none kV doc pm an cdv ct cc) ⟨us, []⟩ = pure (ps.zip us)
abbrev IniP : Type := Str × Str × Str × Str × Str × Str × Nat × Pos × Pos × Pos × Pos × Pos × Pos × Pos × Pos × Pos × Pos
def iniView : List Stmt → Option IniP
  | [.Expr (.Call (.Attribute (.Call (.Name su p0) [] [] p1) ini p2) [.Constant (.str m) j p3] [] p4) p5, .Assign [.Attribute (.Name me p6) fl p7] (.Name x p8) p9] => some (su, ini, me, x, fl, m, j, p0, p1, p2, p3, p4, p5, p6, p7, p8, p9)
  | _ => none
theorem iniView_ok {b : List Stmt} {r : IniP} (h : iniView b = some r) : b = (match r with | (su, ini, me, x, fl, m, j, p0, p1, p2, p3, p4, p5, p6, p7, p8, p9) => [.Expr (.Call (.Attribute (.Call (.Name su p0) [] [] p1) ini p2) [.Constant (.str m) j p3] [] p4) p5, .Assign [.Attribute (.Name me p6) fl p7] (.Name x p8) p9]) := by
  unfold iniView at h
  split at h
  · cases h; rfl
  · cases h
def kCell : NameKind → Bool
  | .cell => false
  | _ => true
def kFree (x : Str) : NameKind → Bool
  | .free => decide (x = "__class__")
  | _ => true
def kFr (sc : Scope) (x : Str) : Bool := match sc.names.lookup x with
  | some .free => true
  | _ => false
def iniScB (sc : Scope) (me x : Str) : Bool := isFun sc && (!sc.isCoroutine && (!sc.isGenerator && (sc.names.all (fun y => kCell y.2) && (sc.names.all (fun y => kFree y.1 y.2) && (locB sc me && (locB sc x && (gloB sc "super" && (kFr sc "__class__" && !decide (me = x)))))))))
theorem iniScB_ok {sc : Scope} {me x : Str} (h : iniScB sc me x = true) : IniSc sc me x := by
  obtain ⟨h1, h⟩ := ba h
  obtain ⟨h2, h⟩ := ba h
  obtain ⟨h3, h⟩ := ba h
  obtain ⟨h4, h⟩ := ba h
  obtain ⟨h5, h⟩ := ba h
  obtain ⟨h6, h⟩ := ba h
  obtain ⟨h7, h⟩ := ba h
  obtain ⟨h8, h⟩ := ba h
  obtain ⟨h9, h10⟩ := ba h
  have lo : ∀ {y : Str}, locB sc y = true → sc.names.lookup y = some .local := fun {y} q => by
    unfold locB at q
    split at q
    · assumption
    · cases q
  refine ⟨by simpa [isFun] using h1, by simpa using h2, by simpa using h3, fun y hy e => ?_, fun y hy e => ?_, lo h6, lo h7, ?_, ?_, by simpa using h10⟩
  · have := List.all_eq_true.mp h4 y hy
    rw [e] at this
    cases this
  · have := List.all_eq_true.mp h5 y hy
    rw [e] at this
    exact of_decide_eq_true this
  · unfold gloB at h8
    split at h8
    · assumption
    · cases h8
  · unfold kFr at h9
    split at h9
    · assumption
    · cases h9
def iniTB (d : He.DefD) (fl : Str) (ps : List Str) : Bool := match iniView d.body with
  | some (su, ini, me, x, fl', m, j, p0, p1, p2, p3, p4, p5, p6, p7, p8, p9) => decide (su = "super") && (decide (ini = "__init__") && (decide (fl' = fl) && (decide (ps = [me, x]) && (iniScB d.scope me x && ((match (d.params.posonlyargs ++ d.params.args).head? with | some ar => decide (ar.arg = me) | none => false) &&
      (!(me == ("__debug__" : Str)) && (!(me == ("__classdict__" : Str)) && (!(x == ("__debug__" : Str)) && (!(x == ("__classdict__" : Str)) && (p2.endLine == p4.line))))))))))
  | none => false
theorem iniTB_ok {d : He.DefD} {fl : Str} {ps : List Str} (h : iniTB d fl ps = true) (bi : ∀ (kV doc pm : Value) (an : Option Addr) (cdv ct : Value) (cc : Addr) (us : List Value), us.length = ps.length → bindArgs (PySem.W.ksFn d.name d.qual d.params d.body d.scope .none kV doc pm an cdv ct cc) ⟨us, []⟩ = pure (ps.zip us)) : IniT d fl ps := by
  unfold iniTB at h
  split at h
  · rename_i su ini me x fl' m j p0 p1 p2 p3 p4 p5 p6 p7 p8 p9 w
    have e := iniView_ok w
    dsimp only at e
    obtain ⟨h1, h⟩ := ba h
    obtain ⟨h2, h⟩ := ba h
    obtain ⟨h3, h⟩ := ba h
    obtain ⟨h4, h⟩ := ba h
    obtain ⟨h5, h⟩ := ba h
    obtain ⟨h6, h⟩ := ba h
    obtain ⟨h7, h⟩ := ba h
    obtain ⟨h8, h⟩ := ba h
    obtain ⟨h9, h⟩ := ba h
    obtain ⟨h10, h11⟩ := ba h
    have e1 := of_decide_eq_true h1
    have e2 := of_decide_eq_true h2
    have e3 := of_decide_eq_true h3
    have e4 := of_decide_eq_true h4
    cases w2 : (d.params.posonlyargs ++ d.params.args).head? with
    | none => rw [w2] at h6; cases h6
    | some ar =>
      rw [w2] at h6
      rw [e1, e2, e3] at e
      exact ⟨⟨me, x, m, j, p0, p1, p2, p3, p4, p5, p6, p7, p8, p9, ar, e4, e, iniScB_ok h5, w2, of_decide_eq_true h6, by simpa using h7, by simpa using h8, by simpa using h9, by simpa using h10, h11⟩, bi⟩
  · cases h
abbrev IniW : Type := Option (Str × Str × Arguments × FuncBody × Scope × Addr × Addr)
def iniW (K : PySem.W.Frag) (p : Str × Option Str) : IniW := match K.lookup (He.fAd K p) with
  | some ⟨_, _, .func fd, _⟩ => some (fd.name, fd.qualname, fd.params, fd.body, fd.scope, fd.globals, fd.builtins)
  | _ => none
def iniV (d : He.DefD) : IniW := some (d.name, d.qual, d.params, .stmts d.body, d.scope, mainGlobals, builtinsNs)
/-- an exception class: its name, its field, its __init__ -/
structure Xk where
  name : Nat
  fl : Nat
  d : He.DefD
  ps : List Str
def cloB (K : PySem.W.Frag) (C : Addr) : List (Str × Addr) → Bool
  | [(n, cc)] => decide (n = "__class__") && (match K.lookup cc with
    | some ⟨_, _, .cell (some (.ref D)), _⟩ => decide (D = C)
    | _ => false)
  | _ => false
def fileB (K : PySem.W.Frag) (file : Str) : Value → Bool
  | .ref c => (match K.lookup c with
    | some ⟨_, _, .fields vs, _⟩ => (match (vs[2]? : Option Value) with
      | some (.str g _) => file == g
      | _ => false)
    | _ => false)
  | _ => false
def iniKB (file : Str) (K : PySem.W.Frag) (C f : Addr) (d : He.DefD) : Bool := match K.lookup f with
  | some ⟨_, _, .func fd, _⟩ => PySem.W.codeIn K fd.code d.qual && (decide (fd.defaults = .none) && (cloB K C fd.closure && fileB K file fd.code))
  | _ => false
def xkB (file : Str) (K : PySem.W.Frag) (k : Xk) : Bool :=
  (He.Fa.glo (nmS k.name)).ok K && (oexB K (He.ga K (nmS k.name)) && (decide (PySem.W.findIn K (.ref (He.ga K (nmS k.name))) (nmS k.fl) = some none) && (decide (PySem.W.mroIn K (He.ga K (nmS k.name)) (.ref (He.ga K (nmS k.name))) = some true) &&
  (decide (PySem.W.ks_superIn K (He.ga K (nmS k.name)) (He.ga K (nmS k.name)) "__init__" = some (some (.builtin "ValueError.__init__"))) && (decide (PySem.W.nsIn K cStatics "thirdparty.any" = some none) && (decide (PySem.W.subIn K (.ref (He.ga K (nmS k.name))) (.type "ValueError") = some true) &&
  (decide (PySem.W.findIn K (.ref (He.ga K (nmS k.name))) "__init__" = some (some (.ref (He.fAd K k.d.at_)))) && (decide (PySem.W.typeIn K (.ref (He.fAd K k.d.at_)) = some (.type "function")) && (xfB K (He.ga K (nmS k.name)) && iniKB file K (He.ga K (nmS k.name)) (He.fAd K k.d.at_) k.d)))))))))
theorem xk_ok {P : Program} {K : PySem.W.Frag} {k : Xk} (hw : iniW K k.d.at_ = iniV k.d) (hb : xkB P.main.file K k = true) (ht : IniT k.d (nmS k.fl) k.ps) (htop : (P.main.scope.names.lookup ("super" : Str)).isSome = false) :
    ∃ fd, PySem.W.findIn K (.ref (He.ga K (nmS k.name))) "__init__" = some (some (.ref (He.fAd K k.d.at_))) ∧ PySem.W.typeIn K (.ref (He.fAd K k.d.at_)) = some (.type "function") ∧ Binds K fd k.ps [] ∧ IniK P K (He.ga K (nmS k.name)) (He.fAd K k.d.at_) fd (nmS k.fl) k.ps ∧
      XfC K (He.ga K (nmS k.name)) ∧ (He.Fa.glo (nmS k.name)).ok K = true := by
  unfold xkB at hb
  obtain ⟨b1, hb⟩ := ba hb
  obtain ⟨b2, hb⟩ := ba hb
  obtain ⟨b3, hb⟩ := ba hb
  obtain ⟨b4, hb⟩ := ba hb
  obtain ⟨b5, hb⟩ := ba hb
  obtain ⟨b6, hb⟩ := ba hb
  obtain ⟨b7, hb⟩ := ba hb
  obtain ⟨b8, hb⟩ := ba hb
  obtain ⟨b9, hb⟩ := ba hb
  obtain ⟨b10, hb⟩ := ba hb
  unfold iniKB at hb
  unfold iniW at hw
  cases lk : K.lookup (He.fAd K k.d.at_) with
  | none => rw [lk] at hb; cases hb
  | some o =>
    rw [lk] at hb hw
    obtain ⟨oc, od, da, osl⟩ := o
    cases da with
    | func fd =>
      dsimp only at hb hw
      obtain ⟨c1, hb⟩ := ba hb
      obtain ⟨c2, hb⟩ := ba hb
      obtain ⟨c3, c4⟩ := ba hb
      obtain ⟨nm, qn, pr, bd, sc, gl, clo, df, kd, doc, pm, an, cd, ct, bu⟩ := fd
      simp only [iniV, Option.some.injEq, Prod.mk.injEq] at hw
      obtain ⟨rfl, rfl, rfl, rfl, rfl, rfl, rfl⟩ := hw
      have ed : df = .none := of_decide_eq_true c2
      subst ed
      dsimp only at c1 c3 c4
      cases clo with
      | nil => cases c3
      | cons q r =>
        cases r with
        | cons _ _ => cases c3
        | nil =>
          obtain ⟨n, cc⟩ := q
          obtain ⟨e1, e2⟩ := ba (show (decide (n = "__class__") && _) = true from c3)
          have en : n = "__class__" := of_decide_eq_true e1
          subst en
          cases cd with
          | ref cda =>
            unfold fileB at c4
            dsimp only at c4
            split at c4
            · rename_i cl1 dd1 vs1 sl1 lc
              split at c4
              · rename_i g tf hv
                split at e2
                · rename_i cl2 dd2 D2 sl2 l2
                  have eD := of_decide_eq_true e2
                  subst eD
                  obtain ⟨me, x, m, j, p0, p1, p2, p3, p4, p5, p6, p7, p8, p9, ar, t1, t2, t3, t4, t5, t6, t7, t8, t9, t10⟩ := ht.ex
                  refine ⟨PySem.W.ksFn k.d.name k.d.qual k.d.params k.d.body k.d.scope .none kd doc pm an (.ref cda) ct cc, of_decide_eq_true b8, of_decide_eq_true b9, .all (ht.bi kd doc pm an (.ref cda) ct cc), ⟨oexB_ok b2, of_decide_eq_true b3, of_decide_eq_true b4, of_decide_eq_true b5, of_decide_eq_true b6, of_decide_eq_true b7,
                    me, x, m, k.d.name, k.d.qual, j, p0, p1, p2, p3, p4, p5, p6, p7, p8, p9, k.d.params, k.d.scope, ar, .none, kd, doc, pm, ct, oc, cl2, cl1, an, od, dd2, dd1, osl, sl2, sl1, cc, cda, vs1, g, tf, t1, by rw [t2], lk, c1, t3, t4, t5, lc, hv, c4, htop, l2, t6, t7, t8, t9, t10⟩, xfB_ok b10, b1⟩
                · cases e2
              · cases c4
            · cases c4
          | _ => cases c4
    | _ => cases hb
end HV

end

section
/-! Vh: the text of a def that catches, by a Bool. -/
namespace HV
open PySem PySem.Spec PyProof.Rows L2
def hdB (found ev x fl : Str) (hx : Hx) (h : ExceptHandler) : Bool := match h with
  | .ExceptHandler (some (.Name y _)) (some n) [.Assign [.Name g _] (.Tuple [.Constant (.str w) _ _, .Attribute (.Name n2 _) f2 _] _ _) _] _ => (match hx with
    | .fld t => decide (y = x ∧ n = ev ∧ g = found ∧ w = tx t ∧ n2 = ev ∧ f2 = fl)
    | _ => false)
  | .ExceptHandler (some (.Name y _)) none [.Assign [.Name g _] (.Constant (.str w) _ _) _] _ => (match hx with
    | .str t => decide (y = x ∧ g = found ∧ w = tx t)
    | _ => false)
  | .ExceptHandler (some (.Name y _)) none [.Assign [.Name g _] (.Tuple [.Constant (.str w) _ _, .Constant .none _ _] _ _) _] _ => (match hx with
    | .par t => decide (y = x ∧ g = found ∧ w = tx t)
    | _ => false)
  | _ => false
theorem hdB_ok {found ev x fl : Str} {hx : Hx} {h : ExceptHandler} (e : hdB found ev x fl hx h = true) : HdR found ev h x fl hx := by
  unfold hdB at e
  split at e
  · split at e
    · obtain ⟨rfl, rfl, rfl, rfl, rfl, rfl⟩ := of_decide_eq_true e
      exact .fld
    · cases e
  · split at e
    · obtain ⟨rfl, rfl, rfl⟩ := of_decide_eq_true e
      exact .str
    · cases e
  · split at e
    · obtain ⟨rfl, rfl, rfl⟩ := of_decide_eq_true e
      exact .par
    · cases e
  · cases e
def txB (t : Txt) : Bool := decide (t.length ≤ 16777216) && t.all fun c => decide (c < 1114112)
theorem txB_ok {t : Txt} (h : txB t = true) : txOk t := by
  obtain ⟨h1, h2⟩ := ba h
  exact ⟨by rw [sizeLine_eq]; exact of_decide_eq_true h1, fun c hc => of_decide_eq_true (List.all_eq_true.mp h2 c hc)⟩
def hxB : Hx → Bool
  | .fld t => txB t
  | .str t => txB t
  | .par t => txB t
theorem hxB_ok {x : Hx} (h : hxB x = true) : hxOk x := by
  cases x <;> exact txB_ok h
/-- the clauses against their text; xs: the exception classes (name, field) -/
def hdsB (sg : Scope) (found ev : Str) (xs : List (Nat × Nat)) : List ExceptHandler → List (Nat × Hx) → Bool
  | [], [] => true
  | h :: hs, (c, hx) :: r => (match xs[c]? with
    | some (x, fl) => hdB found ev (nmS x) (nmS fl) hx h && (gloB sg (nmS x) && (okN (nmS x) && hxB hx))
    | none => false) && hdsB sg found ev xs hs r
  | _, _ => false
def tdB (a found : Str) (mode : Nat) (tag : Txt) : List Stmt → Option (ExceptHandler × List ExceptHandler)
  | [.Assign [.Name f1 _] (.Constant .none _ _) _, .Try [.Expr (.Call (.Name a1 _) [] [] _) _] (h0 :: hs) [] [] _, .Return (some (.Name f2 _)) _] => if f1 = found ∧ a1 = a ∧ f2 = found ∧ mode = 0 then some (h0, hs) else none
  | [.Assign [.Name f1 _] (.Constant .none _ _) _, .Try [.Assign [.Name f3 _] (.Tuple [.Constant (.str w) _ _, .Call (.Name a1 _) [] [] _] _ _) _] (h0 :: hs) [] [] _, .Return (some (.Name f2 _)) _] => if f1 = found ∧ a1 = a ∧ f2 = found ∧ f3 = found ∧ w = tx tag ∧ mode = 1 then some (h0, hs) else none
  | _ => none
theorem tdB_ok {a found : Str} {mode : Nat} {tag : Txt} {b : List Stmt} {r : ExceptHandler × List ExceptHandler} (e : tdB a found mode tag b = some r) : TdR a found b r.1 r.2 mode tag := by
  unfold tdB at e
  split at e
  · split at e
    · rename_i q
      obtain ⟨rfl, rfl, rfl, rfl⟩ := q
      cases e
      exact .drop
    · cases e
  · split at e
    · rename_i q
      obtain ⟨rfl, rfl, rfl, rfl, rfl, rfl⟩ := q
      cases e
      exact .told
    · cases e
  · cases e
/-- what a module says of its exception classes -/
structure XsOk (mg : Str → Option Value) (K : PySem.W.Frag) (T : Tb) (fld : Nat → Nat) (xs : List (Nat × Nat)) : Prop where
  hK : T.K = K
  cl : ∀ (c x fl : Nat), xs[c]? = some (x, fl) → ∃ C, T.xcl c = some C ∧ mg (nmS x) = some (.ref C) ∧ XfC K C ∧ PySem.W.findIn K (.ref C) (nmS fl) = some none ∧ fld c = fl
  ex : ∀ c C c2 C2, T.xcl c = some C → T.xcl c2 = some C2 → PySem.W.exmOne T.K (.ref C2) (.ref C) = some (decide (c2 = c))
theorem gloB_at {sc : Scope} {x : Str} (h : gloB sc x = true) : sc.names.lookup x = some .globalImplicit := by
  unfold gloB at h
  split at h
  · assumption
  · cases h
theorem hds_ok {mg : Str → Option Value} {K : PySem.W.Frag} {T : Tb} {fld : Nat → Nat} {sg : Scope} {found ev : Str} {xs : List (Nat × Nat)} (X : XsOk mg K T fld xs) : ∀ (hs : List ExceptHandler) (r : List (Nat × Hx)), hdsB sg found ev xs hs r = true → ∃ ks, HdsR mg K sg found ev hs ks ∧ HsK T fld r ks
  | [], [], _ => ⟨[], .nil, .nil⟩
  | [], _ :: _, h => by cases h
  | _ :: _, [], h => by cases h
  | h0 :: hs, (c, hx) :: r, h => by
    obtain ⟨h1, h2⟩ := ba (show ((match xs[c]? with
      | some (x, fl) => hdB found ev (nmS x) (nmS fl) hx h0 && (gloB sg (nmS x) && (okN (nmS x) && hxB hx))
      | none => false) && hdsB sg found ev xs hs r) = true from h)
    obtain ⟨ks, k1, k2⟩ := hds_ok X hs r h2
    cases w : xs[c]? with
    | none => rw [w] at h1; cases h1
    | some q =>
      obtain ⟨x, fl⟩ := q
      rw [w] at h1
      obtain ⟨g1, g⟩ := ba h1
      obtain ⟨g2, g⟩ := ba g
      obtain ⟨g3, g4⟩ := ba g
      obtain ⟨C, c1, c2, c3, c4, c5⟩ := X.cl c x fl w
      refine ⟨⟨C, nmS (fld c), hx⟩ :: ks, ?_, .cons c1 (fun c2 C2 e => X.ex c C c2 C2 c1 e) (hxB_ok g4) k2⟩
      rw [c5]
      exact .cons (k := ⟨C, nmS fl, hx⟩) (hdB_ok g1) (gloB_at g2) (okN_d g3).1 c2 c3 c4 k1
/-- a def that catches -/
structure Tk where
  name : Nat
  td : Td
  d : He.DefD
  N : List Str
  a : Str
  found : Str
  ev : Str
  jf : Nat
  je : Nat
def tkB (xs : List (Nat × Nat)) (k : Tk) : Bool := (match tdB k.a k.found k.td.mode k.td.tag k.d.body with
  | some r => hdsB k.d.scope k.found k.ev xs (r.1 :: r.2) k.td.hs
  | none => false) && (txB k.td.tag && (decide (k.N[0]? = some k.a ∧ k.N[k.jf]? = some k.found ∧ k.N[k.je]? = some k.ev ∧ k.je ≠ k.jf ∧ k.jf ≠ 0) && (visB k.d.scope k.a && (locB k.d.scope k.found && (locB k.d.scope k.ev && (okN k.a && (okN k.ev && (okN k.found && decide (k.d.name = nmS k.name ∧ k.d.qual = nmS k.name)))))))))
structure TkOk (xs : List (Nat × Nat)) (k : Tk) : Prop where
  b : tkB xs k = true
  sc : FnScope k.N [k.a] k.d.scope
  bi : ∀ (kV doc pm : Value) (an : Option Addr) (cdv ct : Value) (us : List Value), us.length = [k.a].length → bindArgs (PySem.W.fnOf k.d.name k.d.qual k.d.params k.d.body k.d.scope .none kV doc pm an cdv ct) ⟨us, []⟩ = pure ([k.a].zip us)
  dfl : k.d.dfl = []
theorem tk_ok {mg : Str → Option Value} {K : PySem.W.Frag} {T : Tb} {fld : Nat → Nat} {xs : List (Nat × Nat)} {k : Tk} {fd : FuncData} (X : XsOk mg K T fld xs) (t : TkOk xs k) (F : FunD K k.d.name k.d.qual k.d.params k.d.body k.d.scope (k.d.dvs K) (k.d.kws K) (He.fAd K k.d.at_) fd) (hm : mg (nmS k.name) = some (.ref (He.fAd K k.d.at_))) :
    Tdd mg K T fld (nmS k.name) k.td := by
  obtain ⟨b1, b⟩ := ba t.b
  obtain ⟨b2, b⟩ := ba b
  obtain ⟨b3, b⟩ := ba b
  obtain ⟨b4, b⟩ := ba b
  obtain ⟨b5, b⟩ := ba b
  obtain ⟨b6, b⟩ := ba b
  obtain ⟨b7, b⟩ := ba b
  obtain ⟨b8, b⟩ := ba b
  obtain ⟨b9, b10⟩ := ba b
  obtain ⟨n0, n1, n2, n3, n4⟩ := of_decide_eq_true b3
  obtain ⟨e1, e2⟩ := of_decide_eq_true b10
  rw [show k.d.dvs K = [] by unfold He.DefD.dvs; rw [t.dfl]; rfl] at F
  have bd := F.bindsN t.bi
  cases w : tdB k.a k.found k.td.mode k.td.tag k.d.body with
  | none => rw [w] at b1; cases b1
  | some r =>
    rw [w] at b1
    obtain ⟨ks, k1, k2⟩ := hds_ok X _ _ b1
    have kp := F.kp
    obtain ⟨oc, od, dV, kV, doc, pm, an, cdv, ct, osl, rfl, lk, hcd, hD, hKk⟩ := F.ex
    rw [e1, e2] at lk bd
    rw [e2] at hcd
    have vis : Vis k.d.scope k.a := by
      unfold visB at b4
      unfold Vis
      split at b4
      · exact .inl (by assumption)
      · exact .inr (.inl (by assumption))
      · exact .inr (.inr (by assumption))
      · cases b4
    exact ⟨⟨_, k.a, k.found, k.ev, k.N, _, _, _, _, _, _, _, _, _, _, _, _, _, r.1, r.2, ks, k.jf, k.je, hm, kp, lk, hcd, bd, t.sc, n0, vis, tdB_ok w, k1, k2, txB_ok b2, n1, n2, n3, n4, loc_of b5, loc_of b6, b7, b8, b9⟩⟩
end HV

end

section
/-! V12: defs keep their promises; a module's facts by one Bool. -/
namespace HV
open PySem PySem.Spec PyProof.Rows L2
section
variable {T : Tb} {fld : Nat → Nat} {Hs H Hs' H' : Hp} {ρ ρ' : List Addr} {h h' : Hm} {σ : L2.St} {env : Env}
theorem args_env {vs : List V} {as : List Vl} {N : List Str} {k : Nat} (hN : N.length = vs.length + k) (rs : VlsR T Hs ρ vs as) : EnvR T Hs ρ (L2.start N vs) (as.map some ++ List.replicate k none) := by
  have hl : vs.length = as.length := Paired.length rs
  refine ⟨?_, fun i v e => ?_⟩
  · unfold L2.start
    rw [List.length_append, List.length_append, List.length_replicate, List.length_replicate, List.length_map, List.length_map]
    omega
  · by_cases hi : i < as.length
    · rw [List.getElem?_append_left (by rw [List.length_map]; exact hi), List.getElem?_map] at e
      cases w : as[i]? with
      | none => rw [w] at e; cases e
      | some x =>
        rw [w] at e
        cases e
        obtain ⟨u, g1, g2⟩ := Paired.get rs w
        refine ⟨u, ?_, g2⟩
        unfold L2.start
        rw [List.getElem?_append_left (by rw [List.length_map, hl]; exact hi), List.getElem?_map, g1]
        rfl
    · rw [List.getElem?_append_right (by rw [List.length_map]; omega)] at e
      obtain ⟨h1, h2⟩ := List.getElem?_eq_some_iff.mp e
      rw [List.getElem_replicate] at h2
      cases h2
theorem body_ok {vs : List V} {keep : Bool} {np k : Nat} {N : List Str} {b : Env → Hm → SO} {Q : VK} {E : XK} (hN : N.length = np + k) (z : spF T fld (runF keep np k b) vs H Q E) :
    vs.length = np ∧ semS ⟨T, fld, E⟩ b { nx := fun _ H' => Q .non H', rt := Q } (L2.start N vs) H := by
  obtain ⟨Hs, ρ, h, as, sy, rs, p⟩ := z
  unfold runF at p
  by_cases hl : as.length = np
  · rw [if_pos hl] at p
    have hv : vs.length = np := by rw [Paired.length rs]; exact hl
    refine ⟨hv, Hs, ρ, h, as.map some ++ List.replicate k none, sy, args_env (by omega) rs, ?_⟩
    cases q : b (as.map some ++ List.replicate k none) h with
    | stuck => rw [q] at p; exact p
    | bk e h1 => rw [q] at p; exact p.elim
    | ct e h1 => rw [q] at p; exact p.elim
    | nx e h1 =>
      rw [q] at p
      dsimp only at p
      cases w : HV.cutH keep h.length h1 with
      | none => rw [w] at p; exact p.elim
      | some h2 =>
        rw [w] at p
        intro σ' H' Hs' ρ' t pr sy' er'
        obtain ⟨ρ2, s2, t2, p2, _⟩ := Sy.cutH sy sy' t pr w
        exact p H' Hs' ρ2 t2 p2 s2 .non RepV.non
    | rt v h1 =>
      rw [q] at p
      dsimp only at p
      cases w : HV.cutH keep h.length h1 with
      | none => rw [w] at p; exact p.elim
      | some h2 =>
        rw [w] at p
        dsimp only at p
        intro u H' Hs' ρ' t pr sy' ru
        by_cases hr : refsV h2.length v = true
        · rw [if_pos hr] at p
          obtain ⟨ρ2, s2, t2, p2, k2⟩ := Sy.cutH sy sy' t pr w
          exact p H' Hs' ρ2 t2 p2 s2 u (k2 u v ru hr)
        · rw [if_neg hr] at p; exact p.elim
    | exc c ps h1 =>
      rw [q] at p
      dsimp only at p
      cases w : HV.cutH keep h.length h1 with
      | none => rw [w] at p; exact p.elim
      | some h2 =>
        rw [w] at p
        intro H' Hs' ρ' C d t pr sy' x
        obtain ⟨ρ2, s2, t2, p2, k2⟩ := Sy.cutH sy sy' t pr w
        exact p H' Hs' ρ2 C d t2 p2 s2 x
  · rw [if_neg hl] at p; exact p.elim
end
/-- a def against its text -/
structure DfOk (E : Et) (d : He.DefD) (N ps : List Str) (r : Dr) (lam : Bool := false) : Prop where
  sc : FnScope N ps d.scope
  np : r.np = ps.length
  k : r.np + r.k = N.length
  bi : ∀ (kV doc pm : Value) (an : Option Addr) (cdv ct : Value) (us : List Value), us.length = ps.length → bindArgs (PySem.W.fnOf d.name d.qual d.params d.body d.scope .none kV doc pm an cdv ct) ⟨us, []⟩ = pure (ps.zip us)
  dfl : d.dfl = []
  mt : msts E N ⟨d.scope, fun _ => true, lam⟩ r.body d.body = true
section
variable {P : Program} {w : World} {K : PySem.W.Frag} {mg : Str → Option Value} {base : Heap}
/-- what a module gives to its defs -/
structure Mf (P : Program) (w : World) (K : PySem.W.Frag) (mg : Str → Option Value) (T : Tb) (fld : Nat → Nat) (isF : Nat → Nat → Bool) (spc : Nat → Nat → Option Nat) (glo : Nat → Option PV) (E : Et) (tab : Nat → Option Dr) (defs : Nat → Option (He.DefD × List Str × List Str)) (lams : Nat → Bool) (cs : List (Addr × Addr)) : Prop where
  ok : TbOk T
  hK : T.K = K
  isF : isF = T.isF
  blt : ∀ x ∈ bltN, mg x = none
  glo : ∀ g d, glo g = some d → ∃ v, (∀ Hs, RepV T Hs v d) ∧ ((∃ u, mg (nmS g) = some u ∧ RelV v u) ∨ (mg (nmS g) = none ∧ ∃ u, bootBuiltins (nmS g) = some u ∧ RelV v u))
  fn : ∀ f x, E.fn f = some x → ∃ d, defs f = some d ∧ mg (nmS x) = some (.ref (He.fAd K d.1.at_))
  md : ∀ f c m, E.md f = some (c, m) → ∃ d C, defs f = some d ∧ T.cls c = some C ∧ Cls K C ∧ Meth K C (nmS m) (He.fAd K d.1.at_)
  nw : ∀ f x c, E.nw f = some (x, c) → ∃ d C, defs f = some d ∧ T.cls c = some C ∧ L2.Mk K C (He.fAd K d.1.at_) ∧ mg (nmS x) = some (.ref C)
  spc : ∀ j c f, spc j c = some f → ∃ n, spN j = some n ∧ E.md f = some (c, n) ∧ ∀ C, T.cls c = some C → OwnK T K C
  sup : mg "super" = none
  xcs : ∀ c x, E.xc c = some x → ∃ C fI fd ps, T.xcl c = some C ∧ mg (nmS x) = some (.ref C) ∧ PySem.W.findIn K (.ref C) "__init__" = some (some (.ref fI)) ∧ PySem.W.typeIn K (.ref fI) = some (.type "function") ∧ Binds K fd ps [] ∧ IniK P K C fI fd (nmS (fld c)) ps
  tds : ∀ x td, E.td x = some td → Tdd mg K T fld (nmS x) td
  lms : ∀ f d, defs f = some d → lams f = true → ∃ c Q, (∀ o fd, K.lookup (He.fAd K d.1.at_) = some o → o.data = .func fd → fd.code = .ref c) ∧ (c, Q) ∈ cs ∧ (Q, (d.1.qual ++ ".<locals>.") ++ "<lambda>") ∈ T.tabs ∧ ∀ p ∈ T.tabs, p.1 = Q → p.2 = (d.1.qual ++ ".<locals>.") ++ "<lambda>"
  df : ∀ f d, defs f = some d → ∃ r, tab f = some r ∧ DfOk E d.1 d.2.1 d.2.2 r (lams f) ∧ ∃ fd, FunD K d.1.name d.1.qual d.1.params d.1.body d.1.scope (d.1.dvs K) (d.1.kws K) (He.fAd K d.1.at_) fd
theorem Mf.all {T : Tb} {fld : Nat → Nat} {isF : Nat → Nat → Bool} {spc : Nat → Nat → Option Nat} {glo : Nat → Option PV} {E : Et} {tab : Nat → Option Dr} {defs : Nat → Option (He.DefD × List Str × List Str)} {lams : Nat → Bool} {cs : List (Addr × Addr)} (M : Mf P w K mg T fld isF spc glo E tab defs lams cs) (hTB : ∀ p ∈ cs, LamX.TabB base mg p.1 p.2) (fuel : Nat) :
    ∀ (n : Nat) (f : Nat) d, defs f = some d → ∀ fd, FunD K d.1.name d.1.qual d.1.params d.1.body d.1.scope (d.1.dvs K) (d.1.kws K) (He.fAd K d.1.at_) fd → FnOk P w K mg base (L2.CX P w) (5 * n) (He.fAd K d.1.at_) fd d.2.2 (spF T fld (runs isF spc glo fuel tab n f)) ∧ Binds K fd d.2.2 [] ∧ PySem.W.keepIn K (.ref (He.fAd K d.1.at_)) = true ∧
      ∀ (s : Shared) (us : List Value), us.length = d.2.2.length → BindsTo s fd ⟨us, []⟩ (d.2.2.zip us) := by
  intro n
  induction n with
  | zero =>
    intro f d e fd F
    obtain ⟨r, ht, D, _⟩ := M.df f d e
    rw [show d.1.dvs K = [] by unfold He.DefD.dvs; rw [D.dfl]; rfl] at F
    refine ⟨⟨fun vs H Q E z => ?_, fun A outer s H args us vs Q E hr he hb hv z => ?_⟩, F.bindsN D.bi, F.kp, F.bindsA D.bi⟩
    · obtain ⟨Hs, ρ, h, as, sy, rs, p⟩ := z; exact p.elim
    · obtain ⟨Hs, ρ, h, as, sy, rs, p⟩ := z; exact p.elim
  | succ n ih =>
    intro f d e fd F
    obtain ⟨r, ht, D, _⟩ := M.df f d e
    rw [show d.1.dvs K = [] by unfold He.DefD.dvs; rw [D.dfl]; rfl] at F
    refine ⟨?_, F.bindsN D.bi, F.kp, F.bindsA D.bi⟩
    have er : runs isF spc glo fuel tab (n + 1) f = runF r.keep r.np r.k (Gx.sts ⟨isF, spc, runs isF spc glo fuel tab n, glo, fuel⟩ r.body) := by
      simp only [runs, ht]
    rw [er]
    obtain ⟨oc, od, dV, kV, doc, pm, an, cdv, ct, osl, rfl, lk, hcd, _, _⟩ := id F.ex
    refine (show FnOk P w K mg base (L2.CX P w) (5 * n + 4 + 1) _ _ _ _ from L2.fn_of lk hcd D.sc (fun vs H Q E' z => ?_) fun A outer s H vs Q E' hr z => ?_)
    · rw [(body_ok (N := d.2.1) (by rw [← D.k]) z).1, D.np]
    · have S : Sd ⟨T, fld, E'⟩ ⟨isF, spc, runs isF spc glo fuel tab n, glo, fuel⟩ E d.2.1 ⟨d.1.scope, fun _ => true, lams f⟩ (cxOf (L2.CX P w) P w K mg base d.2.1 d.1.qual d.1.scope (He.fAd K d.1.at_) cdv A outer s H E') (5 * n) :=
        ⟨M.ok, M.hK, M.isF, rfl, D.sc.nd, rfl, rfl, rfl, hr.mono (by omega), passes_call (takes_of rfl rfl rfl rfl) (fun _ _ _ _ h => h), takes_of rfl rfl rfl rfl, M.blt, M.glo, fun f x e => by
          obtain ⟨d, g1, g2⟩ := M.fn f x e
          obtain ⟨_, _, _, fd, F⟩ := M.df f d g1
          obtain ⟨k1, k2, k3, _⟩ := ih f d g1 fd F
          exact ⟨_, fd, d.2.2, ⟨k1, g2, k3, k2⟩⟩, fun f c m e => by
          obtain ⟨d, C, g1, g2, g3, g4⟩ := M.md f c m e
          obtain ⟨_, _, _, fd, F⟩ := M.df f d g1
          obtain ⟨k1, k2, k3, _⟩ := ih f d g1 fd F
          exact ⟨C, _, fd, d.2.2, g2, ⟨k1, g3, g4, k2⟩⟩, fun f x c e => by
          obtain ⟨d, C, g1, g2, g3, g4⟩ := M.nw f x c e
          obtain ⟨_, _, _, fd, F⟩ := M.df f d g1
          obtain ⟨k1, k2, k3, _⟩ := ih f d g1 fd F
          exact ⟨C, _, fd, d.2.2, g2, ⟨k1, g3, g4, k2⟩⟩, M.spc, fun c x e => by
          obtain ⟨C, fI, fd, ps, x1, x2, x3, x4, x5, x6⟩ := M.xcs c x e
          exact ⟨C, fI, fd, ps, ⟨x1, x2, x6.T, x3, x4, x5, ini_ok x6 M.sup⟩⟩, M.tds, fun lm => by
          obtain ⟨c, Q, y1, y2, y3, y4⟩ := M.lms f d e lm
          exact ⟨hr, c, Q, hTB _ y2, y1 _ _ lk rfl, y3, y4⟩⟩
      exact ⟨_, msts_ok S (passes_of rfl) r.body d.1.body D.mt, (body_ok (N := d.2.1) (by rw [← D.k]) z).2⟩
end
/-! ### the facts by one Bool -/
/-- the classes of a module: names, fields -/
structure Cd where
  name : Str
  fs : List Nat
def tbOf (K : PySem.W.Frag) (cl : List Cd) : Tb where
  K := K
  cls := fun c => (cl[c]?).map fun d => He.ga K d.name
  isF := fun c f => match cl[c]? with | some d => d.fs.contains f | none => false
def kdVs (K : PySem.W.Frag) (cl : List Cd) : List (Kd × Value) := (List.range 7).map (fun n => (Kd.ty n, Value.type (tyN n))) ++ cl.zipIdx.map fun p => (Kd.cls p.2, Value.ref (He.ga K p.1.name))
def clsB (K : PySem.W.Frag) (cl : List Cd) : Bool :=
  (cl.all fun d => (He.Fa.cls d.name).ok K && (d.fs.all (fun f => (He.Fa.noat d.name (nmS f)).ok K) &&
    (decide (PySem.W.findIn K (.ref (He.ga K d.name)) "__class__" = some (some (.builtin "object.__class__"))) && (decide (PySem.W.specialIn K (.builtin "object.__class__") "__get__" = some (some (.builtin "getset_descriptor.__get__"))) &&
    (decide (PySem.W.takesIn K (.builtin "object.__class__") = some true) && decide (PySem.W.mroIn K (He.ga K d.name) (.type "object") = some true)))))) &&
  (kdVs K cl).all fun p => (kdVs K cl).all fun q => decide (PySem.W.kitOne K p.2 q.2 = some (kdIs p.1 q.1))
theorem kd_mem {K : PySem.W.Frag} {cl : List Cd} {k : Kd} {u : Value} (h : kdVal (tbOf K cl) k u) : (k, u) ∈ kdVs K cl := by
  unfold kdVs
  cases k with
  | ty n =>
    obtain ⟨h1, rfl⟩ := h
    exact List.mem_append_left _ (List.mem_map.mpr ⟨n, List.mem_range.mpr h1, rfl⟩)
  | cls c =>
    obtain ⟨C, h1, rfl⟩ := h
    refine List.mem_append_right _ (List.mem_map.mpr ?_)
    have h2 : (cl[c]?).map (fun d => He.ga K d.name) = some C := h1
    cases w : cl[c]? with
    | none => rw [w] at h2; cases h2
    | some d =>
      rw [w] at h2
      cases h2
      exact ⟨(d, c), List.mem_zipIdx_iff_getElem?.mpr w, rfl⟩
theorem clsB_ok {K : PySem.W.Frag} {cl : List Cd} (h : clsB K cl = true) : TbOk (tbOf K cl) := by
  obtain ⟨h1, h2⟩ := ba h
  have at_ : ∀ c C, (tbOf K cl).cls c = some C → ∃ d, cl[c]? = some d ∧ C = He.ga K d.name := fun c C e => by
    have h2 : (cl[c]?).map (fun d => He.ga K d.name) = some C := e
    cases w : cl[c]? with
    | none => rw [w] at h2; cases h2
    | some d => rw [w] at h2; cases h2; exact ⟨d, rfl, rfl⟩
  refine ⟨fun c C e => ?_, fun c C f e i => ?_, fun c C e => ?_, fun a b u v e1 e2 => ?_⟩
  · obtain ⟨d, e0, rfl⟩ := at_ c C e
    exact He.cls_ok (ba (List.all_eq_true.mp h1 d (List.mem_of_getElem? e0))).1
  · obtain ⟨d, e0, rfl⟩ := at_ c C e
    have i2 : d.fs.contains f = true := by
      have : (match cl[c]? with | some d => d.fs.contains f | none => false) = true := i
      rw [e0] at this; exact this
    exact He.noat_ok (List.all_eq_true.mp (ba (ba (List.all_eq_true.mp h1 d (List.mem_of_getElem? e0))).2).1 f (by simpa using i2))
  · obtain ⟨d, e0, rfl⟩ := at_ c C e
    have q := (ba (ba (List.all_eq_true.mp h1 d (List.mem_of_getElem? e0))).2).2
    obtain ⟨q1, q⟩ := ba q
    obtain ⟨q2, q⟩ := ba q
    obtain ⟨q3, q4⟩ := ba q
    exact ⟨of_decide_eq_true q1, of_decide_eq_true q2, of_decide_eq_true q3, of_decide_eq_true q4⟩
  · have := List.all_eq_true.mp h2 _ (kd_mem e1)
    have := List.all_eq_true.mp this _ (kd_mem e2)
    exact of_decide_eq_true this
/-- how a def is reached: by its name; as a method; as a class's __init__ -/
inductive Wh where
  | fn (x : Nat)
  | md (c m : Nat)
  | nw (x c : Nat)
/-- a constant of the module, a class, a built-in type -/
inductive Gv where
  | cls (c : Nat)
  | ty (n : Nat)
  | int (i : Int)
  | str (s : Txt)
def Gv.pv : Gv → PV
  | .cls c => .cls c
  | .ty n => .ty n
  | .int i => .int i
  | .str s => .str s
structure Dd where
  d : He.DefD
  N : List Str
  ps : List Str
  r : Dr
  wh : Wh
structure Mo where
  cl : List Cd
  ds : List Dd
  gl : List (Nat × Gv)
  sp : List ((Nat × Nat) × Nat)
  xk : List Xk := []
  tk : List Tk := []
  lm : List Nat := []
  file : Str := ""
/-- a def's code object and its table -/
def codP (K : PySem.W.Frag) (f : Addr) : Addr := match K.lookup f with
  | some ⟨_, _, .func fd, _⟩ => (match fd.code with | .ref c => c | _ => 0)
  | _ => 0
def tabP (K : PySem.W.Frag) (f : Addr) : Addr := match K.lookup (codP K f) with
  | some ⟨_, _, .fields vs, _⟩ => (match (vs[11]? : Option Value) with | some (.ref P) => P | _ => 0)
  | _ => 0
def codB (K : PySem.W.Frag) (f : Addr) : Bool := match K.lookup f with
  | some ⟨_, _, .func fd, _⟩ => (match fd.code with | .ref c => true | _ => false)
  | _ => false
def lamQ (d : He.DefD) : Str := (d.qual ++ ".<locals>.") ++ "<lambda>"
def Mo.lds (M : Mo) : List He.DefD := M.lm.filterMap fun f => (M.ds[f]?).map (·.d)
def Mo.tabs (M : Mo) (K : PySem.W.Frag) : List (Addr × Str) := M.lds.map fun d => (tabP K (He.fAd K d.at_), lamQ d)
def Mo.cs (M : Mo) (K : PySem.W.Frag) : List (Addr × Addr) := M.lds.map fun d => (codP K (He.fAd K d.at_), tabP K (He.fAd K d.at_))
def Mo.tb (M : Mo) (K : PySem.W.Frag) : Tb := { tbOf K M.cl with xcl := fun c => (M.xk[c]?).map fun k => He.ga K (nmS k.name), tabs := M.tabs K }
def Mo.fld (M : Mo) : Nat → Nat := fun c => match M.xk[c]? with | some k => k.fl | none => 0
def Mo.xs (M : Mo) : List (Nat × Nat) := M.xk.map fun k => (k.name, k.fl)
def Mo.lams (M : Mo) : Nat → Bool := fun f => M.lm.contains f
/-- what the code object at c with its table P is -/
def codeHdB (K : PySem.W.Frag) (c P : Addr) : Bool := match K.lookup c with
  | some ⟨.type "code", _, .fields vs, _⟩ => decide (vs[11]? = some (.ref P)) && ((match vs.getD 18 .none with | .str _ _ => true | _ => false) && ((match vs.getD 7 .none with | .int _ _ => true | _ => false) && ((match vs.getD 9 .none with | .bool _ => true | _ => false) && ((match vs.getD 10 .none with | .int _ _ => true | _ => false) && decide (c ≠ P)))))
  | _ => false
theorem codeHdB_ok {K : PySem.W.Frag} {c P : Addr} {h : Heap} (X : K.In h) (e : codeHdB K c P = true) : PySem.W.CodeHd h c P := by
  unfold codeHdB at e
  split at e
  · rename_i dd vs sl lk
    obtain ⟨e1, e⟩ := ba e
    obtain ⟨e2, e⟩ := ba e
    obtain ⟨e3, e⟩ := ba e
    obtain ⟨e4, e⟩ := ba e
    obtain ⟨e5, e6⟩ := ba e
    have g11 : vs[11]? = some (.ref P) := of_decide_eq_true e1
    split at e2
    · rename_i file tf h18
      split at e3
      · rename_i fl tg h7
        split at e4
        · rename_i b h9
          split at e5
          · rename_i tx tt h10
            exact ⟨_, vs, file, tf, fl, tg, b, tx, tt, X _ _ lk, rfl, rfl, g11, by rw [Array.getD_eq_getD_getElem?, g11]; rfl, h18, h7, h9, h10, of_decide_eq_true e6⟩
          · cases e5
        · cases e4
      · cases e3
    · cases e2
  · cases e
def Mo.lamB (M : Mo) (K : PySem.W.Frag) : Bool := (M.lds.all fun d => codB K (He.fAd K d.at_) && (codeHdB K (codP K (He.fAd K d.at_)) (tabP K (He.fAd K d.at_)) && (K.lookup (tabP K (He.fAd K d.at_))).isNone)) &&
  (M.tabs K).all fun p => (M.tabs K).all fun q => decide (p.1 = q.1 → p.2 = q.2)
def Mo.exB (M : Mo) (K : PySem.W.Frag) : Bool := M.xk.zipIdx.all fun p => M.xk.zipIdx.all fun q => decide (PySem.W.exmOne K (.ref (He.ga K (nmS q.1.name))) (.ref (He.ga K (nmS p.1.name))) = some (decide (q.2 = p.2)))
def Mo.E (M : Mo) : Et := ⟨fun f => match M.ds[f]? with | some ⟨_, _, _, _, .fn x⟩ => some x | _ => none, fun f => match M.ds[f]? with | some ⟨_, _, _, _, .md c m⟩ => some (c, m) | _ => none, fun f => match M.ds[f]? with | some ⟨_, _, _, _, .nw x c⟩ => some (x, c) | _ => none, fun c => (M.xk[c]?).map (·.name), fun x => (M.tk.find? fun k => k.name == x).map (·.td)⟩
def Mo.tab (M : Mo) : Nat → Option Dr := fun f => (M.ds[f]?).map (·.r)
def Mo.isF (M : Mo) : Nat → Nat → Bool := fun c f => match M.cl[c]? with | some d => d.fs.contains f | none => false
def Mo.glo (M : Mo) : Nat → Option PV := fun g => (M.gl.lookup g).map Gv.pv
def Mo.spc (M : Mo) : Nat → Nat → Option Nat := fun j c => M.sp.lookup (j, c)
/-- what own operators ask of a class -/
def ownOkB (K : PySem.W.Frag) (cl : List Cd) (c : Nat) : Bool := match cl[c]? with
  | some d => (kdVs K cl).all (fun p => PySem.W.notFirst K (He.ga K d.name) p.2) && (decide (PySem.W.findIn K (.ref (He.ga K d.name)) "__ne__" = some (some (.builtin "object.__ne__"))) && (decide (PySem.W.mroIn K (He.ga K d.name) (.type "object") = some true) && PySem.W.selfFirst K (He.ga K d.name)))
  | none => false
def Mo.spB (M : Mo) (K : PySem.W.Frag) : Bool := M.sp.all fun p => decide ((spN p.1.1).isSome = true ∧ M.E.md p.2 = (spN p.1.1).map fun n => (p.1.2, n)) && ownOkB K M.cl p.1.2
def Mo.run (M : Mo) (fuel : Nat) : Nat → Nat → List Vl → Hm → R Vl := runs M.isF M.spc M.glo fuel M.tab
def Wh.ok (K : PySem.W.Frag) (cl : List Cd) (d : He.DefD) : Wh → Bool
  | .fn x => decide (d.at_ = (nmS x, none)) && (He.Fa.glo (nmS x)).ok K
  | .md c m => (match cl[c]? with | some C => decide (d.at_ = (C.name, some (nmS m))) && (He.Fa.meth C.name (nmS m)).ok K | none => false)
  | .nw x c => (match cl[c]? with | some C => decide (d.at_ = (C.name, some ("__init__" : Str))) && (decide (C.name = nmS x) && ((He.Fa.mkr C.name).ok K && (He.Fa.glo C.name).ok K)) | none => false)
def Gv.ok (K : PySem.W.Frag) (cl : List Cd) (g : Nat) : Gv → Bool
  | .cls c => (match cl[c]? with | some C => decide (C.name = nmS g) && (He.Fa.glo C.name).ok K | none => false)
  | .ty n => (He.Fa.free (nmS g)).ok K && decide (bootBuiltins (nmS g) = some (.type (tyN n)))
  | .int i => (He.Fa.int (nmS g) i).ok K
  | .str s => (He.Fa.str (nmS g) (tx s)).ok K && (decide (s.length ≤ 16777216) && s.all fun c => decide (c < 1114112))
def Mo.chk (M : Mo) (K : PySem.W.Frag) : Bool := M.spB K && (clsB K M.cl && (bltN.all (fun x => (He.Fa.free x).ok K) && (M.ds.all (fun d => d.wh.ok K M.cl d.d) && (M.gl.all (fun g => g.2.ok K M.cl g.1) &&
  (M.xk.all (xkB M.file K) && (M.exB K && ((He.Fa.free "super").ok K && (M.lamB K && M.tk.all fun k => (He.Fa.glo (nmS k.name)).ok K && decide (k.d.at_ = (nmS k.name, none))))))))))
def Mo.fn (M : Mo) : List He.DefD := M.ds.map (·.d) ++ M.tk.map (·.d)
abbrev Ob : Type := He.AlD × List IniW
def obsV (M : Mo) (K : PySem.W.Frag) : Ob := ((M.chk K && M.fn.all fun d => d.ok K, M.fn.map fun d => He.fnW K d.at_), M.xk.map fun k => iniW K k.d.at_)
def valV (M : Mo) : Ob := (He.valD M.fn, M.xk.map fun k => iniV k.d)
def SaysV (M : Mo) (K : PySem.W.Frag) : Prop := obsV M K = valV M
def tabG (g : Addr → Option Obj) (p : Addr) : Bool := match g p with
  | some ⟨.none, none, .fields vs, sl⟩ => vs.isEmpty && sl.isEmpty
  | _ => false
theorem tabG_ok {g : Addr → Option Obj} {p : Addr} (h : tabG g p = true) : g p = some { cls := .none, data := .fields #[] } := by
  unfold tabG at h
  split at h
  · rename_i vs sl e
    obtain ⟨h1, h2⟩ := ba h
    rw [e, Array.isEmpty_iff.mp h1, Array.isEmpty_iff.mp h2]
  · cases h
def TabsAt (M : Mo) (K : PySem.W.Frag) (h : Heap) : Prop := ∀ p ∈ M.cs K, h.get? p.2 = some { cls := .none, data := .fields #[] }
/-- where a module's things lie: its tables of code objects are left out -/
def asV (g : Addr → Option Obj) (n : Nat) : List Addr := (cStatics :: He.asD g n).filter fun a => !tabG g a
def obsVG (n : Nat) (M : Mo) (g : Addr → Option Obj) : Ob × Bool := (obsV M (He.frG g (asV g n)), (M.cs (He.frG g (asV g n))).all fun p => tabG g p.2)
def hookV (n : Nat) (M : Mo) : PySem.W.Hook where
  α := Ob × Bool
  obs := fun s => obsVG n M s.heap.get?
  val := fun _ => (valV M, true)
  says := fun _ h => ∃ K : PySem.W.Frag, K.In h ∧ SaysV M K ∧ TabsAt M K h
  of := fun _ _ e => ⟨_, He.frG_in, congrArg Prod.fst e, fun p hp => tabG_ok (List.all_eq_true.mp (congrArg Prod.snd e) p hp)⟩
  keeps := fun _ _ _ ⟨K, hK, c, t⟩ k => ⟨K, PySem.W.Frag.In.keeps hK k, c, fun p hp => k _ _ (t p hp)⟩
theorem obsVG_eq {n : Nat} {M : Mo} {g : Addr → Option Obj} {s : Shared} (h : ∀ a, g a = s.heap.get? a) : obsVG n M g = (hookV n M).obs s := by
  have e : g = s.heap.get? := funext h
  rw [e] <;> rfl
def DfsOk (E : Et) (lams : Nat → Bool) : Nat → List Dd → Prop
  | _, [] => True
  | n, d :: r => DfOk E d.d d.N d.ps d.r (lams n) ∧ DfsOk E lams (n + 1) r
theorem DfsOk.get {E : Et} {lams : Nat → Bool} : ∀ {ds : List Dd} {n f : Nat} {d : Dd}, DfsOk E lams n ds → ds[f]? = some d → DfOk E d.d d.N d.ps d.r (lams (n + f))
  | [], n, f, d, _, e => by simp at e
  | x :: r, n, 0, d, h, e => by simp at e; subst e; exact h.1
  | x :: r, n, f + 1, d, h, e => by
    have := DfsOk.get (n := n + 1) (f := f) h.2 (by simpa using e)
    rw [show n + 1 + f = n + (f + 1) by omega] at this
    exact this
/-- what the texts say -/
structure Mo.Ok (M : Mo) (P : Program) : Prop where
  ds : DfsOk M.E M.lams 0 M.ds
  xk : ∀ k ∈ M.xk, IniT k.d (nmS k.fl) k.ps
  tk : ∀ k ∈ M.tk, TkOk M.xs k
  file : P.main.file = M.file
  top : (P.main.scope.names.lookup ("super" : Str)).isSome = false
def Mo.defs (M : Mo) : Nat → Option (He.DefD × List Str × List Str) := fun f => (M.ds[f]?).map fun d => (d.d, d.N, d.ps)
theorem Mo.mf {P : Program} {w : World} {K : PySem.W.Frag} {mg : Str → Option Value} {h : Heap} {M : Mo} (X : K.In h) (G : h.Ns mainGlobals mg) (c : SaysV M K) (hD : M.Ok P) : Mf P w K mg (M.tb K) M.fld M.isF M.spc M.glo M.E M.tab M.defs M.lams (M.cs K) := by
  have c0 : (M.chk K && M.fn.all fun d => d.ok K) = true := congrArg (fun z : Ob => z.1.1) c
  have c1 : M.fn.map (fun d => He.fnW K d.at_) = M.fn.map He.DefD.val := congrArg (fun z : Ob => z.1.2) c
  have cx : (M.xk.map fun k => iniW K k.d.at_) = M.xk.map fun k => iniV k.d := congrArg (fun z : Ob => z.2) c
  obtain ⟨c2, c3⟩ := ba c0
  obtain ⟨k0, c2⟩ := ba c2
  obtain ⟨k1, c2⟩ := ba c2
  obtain ⟨k2, c2⟩ := ba c2
  obtain ⟨k3, c2⟩ := ba c2
  obtain ⟨k4, c2⟩ := ba c2
  obtain ⟨k5, c2⟩ := ba c2
  obtain ⟨k6, c2⟩ := ba c2
  obtain ⟨k7, c2⟩ := ba c2
  obtain ⟨k8, k9⟩ := ba c2
  have look : ∀ f x, M.ds[f]? = some x → M.defs f = some (x.d, x.N, x.ps) := fun f x e => by unfold Mo.defs; rw [e]; rfl
  have tbok : TbOk (M.tb K) := by
    obtain ⟨t1, t2, t3, t4⟩ := clsB_ok k1
    exact ⟨t1, t2, t3, fun a b u v e1 e2 => t4 a b u v (by cases a <;> exact e1) (by cases b <;> exact e2)⟩
  have xat : ∀ (c : Nat) (k : Xk), M.xk[c]? = some k → (M.tb K).xcl c = some (He.ga K (nmS k.name)) ∧ M.fld c = k.fl := fun c k e => ⟨by show (M.xk[c]?).map _ = _; rw [e]; rfl, by unfold Mo.fld; rw [e]⟩
  have xko : ∀ k ∈ M.xk, ∃ fd, PySem.W.findIn K (.ref (He.ga K (nmS k.name))) "__init__" = some (some (.ref (He.fAd K k.d.at_))) ∧ PySem.W.typeIn K (.ref (He.fAd K k.d.at_)) = some (.type "function") ∧ Binds K fd k.ps [] ∧ IniK P K (He.ga K (nmS k.name)) (He.fAd K k.d.at_) fd (nmS k.fl) k.ps ∧
      XfC K (He.ga K (nmS k.name)) ∧ (He.Fa.glo (nmS k.name)).ok K = true := fun k hk => xk_ok (List.map_inj_left.mp cx k hk) (by rw [hD.file]; exact List.all_eq_true.mp k5 k hk) (hD.xk k hk) hD.top
  have fnD : ∀ d ∈ M.fn, ∃ fd, FunD K d.name d.qual d.params d.body d.scope (d.dvs K) (d.kws K) (He.fAd K d.at_) fd := fun d hd => He.DefD.funD (List.map_inj_left.mp c1 d hd) (List.all_eq_true.mp c3 d hd)
  have xcl_of : ∀ c C, (M.tb K).xcl c = some C → ∃ k, M.xk[c]? = some k ∧ C = He.ga K (nmS k.name) := fun c C e => by
    have e2 : (M.xk[c]?).map (fun k => He.ga K (nmS k.name)) = some C := e
    cases w : M.xk[c]? with
    | none => rw [w] at e2; cases e2
    | some k => rw [w] at e2; cases e2; exact ⟨k, rfl, rfl⟩
  have XS : XsOk mg K (M.tb K) M.fld M.xs := by
    refine ⟨rfl, fun c x fl e => ?_, fun c C c2 C2 e1 e2 => ?_⟩
    · have e2 : (M.xk[c]?).map (fun k => (k.name, k.fl)) = some (x, fl) := by rw [← List.getElem?_map]; exact e
      cases w : M.xk[c]? with
      | none => rw [w] at e2; cases e2
      | some k =>
        rw [w] at e2
        cases e2
        obtain ⟨fd, q1, q2, q3, q4, q5, q6⟩ := xko k (List.mem_of_getElem? w)
        exact ⟨_, (xat c k w).1, He.glo_ok X G q6, q5, q4.no, (xat c k w).2⟩
    · obtain ⟨a, a1, rfl⟩ := xcl_of c C e1
      obtain ⟨b, b1, rfl⟩ := xcl_of c2 C2 e2
      exact of_decide_eq_true (List.all_eq_true.mp (List.all_eq_true.mp k6 (a, c) (List.mem_zipIdx_iff_getElem?.mpr a1)) (b, c2) (List.mem_zipIdx_iff_getElem?.mpr b1))
  refine ⟨tbok, rfl, rfl, fun x hx => He.free_ok X G (List.all_eq_true.mp k2 x hx), fun g d e => ?_, fun f x e => ?_, fun f c m e => ?_, fun f x c e => ?_, fun j c f e => ?_, He.free_ok X G k7, fun c x e => ?_, fun x td e => ?_, fun f d e lm => ?_, fun f d e => ?_⟩
  · have e1 : (M.gl.lookup g).map Gv.pv = some d := e
    cases w1 : M.gl.lookup g with
    | none => rw [w1] at e1; cases e1
    | some v =>
      rw [w1] at e1
      cases e1
      have mem : (g, v) ∈ M.gl := by
        have : ∀ (l : List (Nat × Gv)), l.lookup g = some v → (g, v) ∈ l := by
          intro l
          induction l with
          | nil => intro h; cases h
          | cons p l ih =>
            intro h
            obtain ⟨a, b⟩ := p
            rw [List.lookup_cons] at h
            cases q : (g == a) with
            | true => rw [q] at h; cases h; rw [beq_iff_eq.mp q]; simp
            | false => rw [q] at h; exact List.mem_cons_of_mem _ (ih h)
        exact this _ w1
      have q := List.all_eq_true.mp k4 _ mem
      dsimp only at q
      cases v with
      | cls c =>
        have q1 : (match M.cl[c]? with | some C => decide (C.name = nmS g) && (He.Fa.glo C.name).ok K | none => false) = true := q
        cases w2 : M.cl[c]? with
        | none => rw [w2] at q1; cases q1
        | some C =>
          rw [w2] at q1
          obtain ⟨q2, q3⟩ := ba q1
          have en : C.name = nmS g := of_decide_eq_true q2
          refine ⟨.ref (He.ga K C.name), fun Hs => .cls (by show (M.cl[c]?).map _ = _; rw [w2]; rfl), .inl ⟨_, ?_, rfl⟩⟩
          rw [← en]
          exact He.glo_ok X G q3
      | ty n =>
        obtain ⟨q1, q2⟩ := ba q
        exact ⟨.ty (tyN n), fun Hs => .ty n, .inr ⟨He.free_ok X G q1, _, of_decide_eq_true q2, rfl⟩⟩
      | int i =>
        obtain ⟨t, q1⟩ := He.int_ok X G q
        exact ⟨.int i, fun Hs => .int i, .inl ⟨_, q1, t, rfl⟩⟩
      | str s =>
        obtain ⟨q1, q2⟩ := ba q
        obtain ⟨q2, q3⟩ := ba q2
        obtain ⟨t, q1⟩ := He.str_ok X G q1
        exact ⟨.str (tx s), fun Hs => .str s ⟨by rw [sizeLine_eq]; exact of_decide_eq_true q2, fun c hc => of_decide_eq_true (List.all_eq_true.mp q3 c hc)⟩, .inl ⟨_, q1, t, rfl⟩⟩
  · have e1 : (match M.ds[f]? with | some ⟨_, _, _, _, .fn x⟩ => some x | _ => none) = some x := e
    cases w1 : M.ds[f]? with
    | none => rw [w1] at e1; cases e1
    | some d =>
      rw [w1] at e1
      have q := List.all_eq_true.mp k3 d (List.mem_of_getElem? w1)
      obtain ⟨d0, N0, p0, r0, wh⟩ := d
      cases wh with
      | fn y =>
        cases e1
        obtain ⟨q1, q2⟩ := ba q
        have ea : d0.at_ = (nmS x, none) := of_decide_eq_true q1
        refine ⟨_, look f _ w1, ?_⟩
        have ef : He.fAd K d0.at_ = He.ga K (nmS x) := by rw [ea]; rfl
        dsimp only
        rw [ef]
        exact He.glo_ok X G q2
      | md _ _ => cases e1
      | nw _ _ => cases e1
  · have e1 : (match M.ds[f]? with | some ⟨_, _, _, _, .md c m⟩ => some (c, m) | _ => none) = some (c, m) := e
    cases w1 : M.ds[f]? with
    | none => rw [w1] at e1; cases e1
    | some d =>
      rw [w1] at e1
      have q := List.all_eq_true.mp k3 d (List.mem_of_getElem? w1)
      obtain ⟨d0, N0, p0, r0, wh⟩ := d
      cases wh with
      | md c' m' =>
        cases e1
        have q1 : (match M.cl[c]? with | some C => decide (d0.at_ = (C.name, some (nmS m))) && (He.Fa.meth C.name (nmS m)).ok K | none => false) = true := q
        cases w2 : M.cl[c]? with
        | none => rw [w2] at q1; cases q1
        | some C =>
          rw [w2] at q1
          obtain ⟨q1, q2⟩ := ba q1
          have ea : d0.at_ = (C.name, some (nmS m)) := of_decide_eq_true q1
          refine ⟨_, He.ga K C.name, look f _ w1, by show (M.cl[c]?).map _ = _; rw [w2]; rfl, ?_, ?_⟩
          · exact (clsB_ok k1).cl c _ (by show (M.cl[c]?).map _ = _; rw [w2]; rfl)
          · have ef : He.fAd K d0.at_ = He.ma K (He.ga K C.name) (nmS m) := by rw [ea]; rfl
            dsimp only
            rw [ef]
            exact He.meth_ok q2
      | fn _ => cases e1
      | nw _ _ => cases e1
  · have e1 : (match M.ds[f]? with | some ⟨_, _, _, _, .nw x c⟩ => some (x, c) | _ => none) = some (x, c) := e
    cases w1 : M.ds[f]? with
    | none => rw [w1] at e1; cases e1
    | some d =>
      rw [w1] at e1
      have q := List.all_eq_true.mp k3 d (List.mem_of_getElem? w1)
      obtain ⟨d0, N0, p0, r0, wh⟩ := d
      cases wh with
      | nw x' c' =>
        cases e1
        have q1 : (match M.cl[c]? with | some C => decide (d0.at_ = (C.name, some ("__init__" : Str))) && (decide (C.name = nmS x) && ((He.Fa.mkr C.name).ok K && (He.Fa.glo C.name).ok K)) | none => false) = true := q
        cases w2 : M.cl[c]? with
        | none => rw [w2] at q1; cases q1
        | some C =>
          rw [w2] at q1
          obtain ⟨q1, q2⟩ := ba q1
          obtain ⟨q2, q3⟩ := ba q2
          obtain ⟨q3, q4⟩ := ba q3
          have ea : d0.at_ = (C.name, some ("__init__" : Str)) := of_decide_eq_true q1
          have en : C.name = nmS x := of_decide_eq_true q2
          refine ⟨_, He.ga K C.name, look f _ w1, by show (M.cl[c]?).map _ = _; rw [w2]; rfl, ?_, ?_⟩
          · have ef : He.fAd K d0.at_ = He.ma K (He.ga K C.name) "__init__" := by rw [ea]; rfl
            dsimp only
            rw [ef]
            exact He.mkr_ok q3
          · rw [← en]
            exact He.glo_ok X G q4
      | fn _ => cases e1
      | md _ _ => cases e1
  · have mem : ((j, c), f) ∈ M.sp := by
      have : ∀ (l : List ((Nat × Nat) × Nat)), l.lookup (j, c) = some f → ((j, c), f) ∈ l := by
        intro l
        induction l with
        | nil => intro h; cases h
        | cons p l ih =>
          intro h
          obtain ⟨a, b⟩ := p
          rw [List.lookup_cons] at h
          cases q : ((j, c) == a) with
          | true => rw [q] at h; cases h; rw [beq_iff_eq.mp q]; simp
          | false => rw [q] at h; exact List.mem_cons_of_mem _ (ih h)
      exact this _ e
    obtain ⟨q1, q2⟩ := ba (List.all_eq_true.mp k0 _ mem)
    obtain ⟨q1, q3⟩ := of_decide_eq_true q1
    dsimp only at q1 q2 q3
    obtain ⟨n, hn⟩ := Option.isSome_iff_exists.mp q1
    rw [hn] at q3
    refine ⟨n, hn, q3, fun C hC => ?_⟩
    have hC2 : (M.cl[c]?).map (fun d => He.ga K d.name) = some C := hC
    unfold ownOkB at q2
    cases w : M.cl[c]? with
    | none => rw [w] at q2; cases q2
    | some d =>
      rw [w] at q2 hC2
      cases hC2
      obtain ⟨r1, r⟩ := ba q2
      obtain ⟨r2, r⟩ := ba r
      obtain ⟨r3, r4⟩ := ba r
      exact ⟨fun k u hk => List.all_eq_true.mp r1 _ (kd_mem hk), of_decide_eq_true r2, of_decide_eq_true r3, r4⟩
  · have e2 : (M.xk[c]?).map (·.name) = some x := e
    cases w : M.xk[c]? with
    | none => rw [w] at e2; cases e2
    | some k =>
      rw [w] at e2
      cases e2
      obtain ⟨fd, q1, q2, q3, q4, q5, q6⟩ := xko k (List.mem_of_getElem? w)
      exact ⟨_, _, fd, k.ps, (xat c k w).1, He.glo_ok X G q6, q1, q2, q3, by rw [(xat c k w).2]; exact q4⟩
  · have e2 : (M.tk.find? fun k => k.name == x).map (·.td) = some td := e
    cases w : M.tk.find? (fun k => k.name == x) with
    | none => rw [w] at e2; cases e2
    | some k =>
      rw [w] at e2
      cases e2
      have hk := List.mem_of_find?_eq_some w
      have en : k.name = x := by have := List.find?_some w; simpa using this
      subst en
      obtain ⟨fd, F⟩ := fnD k.d (List.mem_append_right _ (List.mem_map.mpr ⟨k, hk, rfl⟩))
      obtain ⟨g1, g2⟩ := ba (List.all_eq_true.mp k9 k hk)
      have ea : k.d.at_ = (nmS k.name, none) := of_decide_eq_true g2
      refine tk_ok XS (hD.tk k hk) F ?_
      rw [show He.fAd K k.d.at_ = He.ga K (nmS k.name) by rw [ea]; rfl]
      exact He.glo_ok X G g1
  · have e1 : (M.ds[f]?).map (fun d => (d.d, d.N, d.ps)) = some d := e
    cases w1 : M.ds[f]? with
    | none => rw [w1] at e1; cases e1
    | some x =>
      rw [w1] at e1
      cases e1
      have mem : x.d ∈ M.lds := List.mem_filterMap.mpr ⟨f, by simpa [Mo.lams] using lm, by rw [w1]; rfl⟩
      obtain ⟨l1, l2⟩ := ba k8
      obtain ⟨m1, m2⟩ := ba (List.all_eq_true.mp l1 _ mem)
      refine ⟨codP K (He.fAd K x.d.at_), tabP K (He.fAd K x.d.at_), fun o fd y1 y2 => ?_, List.mem_map.mpr ⟨_, mem, rfl⟩, List.mem_map.mpr ⟨_, mem, rfl⟩, fun p hp y => ?_⟩
      · have y1 : K.lookup (He.fAd K x.d.at_) = some o := y1
        unfold codB at m1
        unfold codP
        obtain ⟨a1, a2, a3, a4⟩ := o
        have y2 : a3 = .func fd := y2
        subst y2
        rw [y1] at m1 ⊢
        dsimp only at m1 ⊢
        cases h5 : fd.code <;> rw [h5] at m1 <;> first | rfl | (cases m1)
      · have := of_decide_eq_true (List.all_eq_true.mp (List.all_eq_true.mp l2 p hp) (tabP K (He.fAd K x.d.at_), lamQ x.d) (List.mem_map.mpr ⟨_, mem, rfl⟩))
        exact this y
  · have e1 : (M.ds[f]?).map (fun d => (d.d, d.N, d.ps)) = some d := e
    cases w1 : M.ds[f]? with
    | none => rw [w1] at e1; cases e1
    | some x =>
      rw [w1] at e1
      cases e1
      refine ⟨x.r, by unfold Mo.tab; rw [w1]; rfl, by have := hD.ds.get w1; rw [Nat.zero_add] at this; exact this, ?_⟩
      exact fnD x.d (List.mem_append_left _ (List.mem_map.mpr ⟨x, List.mem_of_getElem? w1, rfl⟩))
/-- the law's def: what the run says is what Python says -/
theorem Mo.law {P : Program} {w : World} {K : PySem.W.Frag} {mg : Str → Option Value} {h : Heap} {M : Mo} {n fuel f : Nat} {d : Dd} {x : Str} (X : K.In h) (G : h.Ns mainGlobals mg) (c : SaysV M K) (hD : M.Ok P) (hd : M.ds[f]? = some d) (hp : d.ps = [x]) {fa : Addr} (hf : He.fAd K d.d.at_ = fa) :
    ∃ fd : FuncData, (∀ (s : Shared) (v : Value), BindsTo s fd ⟨[v], []⟩ [(x, v)]) ∧ ∀ base : Heap, (∀ p ∈ M.cs K, LamX.TabB base mg p.1 p.2) → FnOk P w K mg base (L2.CX P w) (5 * n) fa fd [x] (spF (M.tb K) M.fld (M.run fuel n f)) := by
  have M0 : Mf P w K mg (M.tb K) M.fld M.isF M.spc M.glo M.E M.tab M.defs M.lams (M.cs K) := M.mf X G c hD
  have look : M.defs f = some (d.d, d.N, d.ps) := by unfold Mo.defs; rw [hd]; rfl
  obtain ⟨r, ht, D, fd, F⟩ := M0.df f _ look
  refine ⟨fd, fun s v => ?_, fun base hTB => ?_⟩
  · rw [show d.d.dvs K = [] by unfold He.DefD.dvs; rw [D.dfl]; rfl] at F
    have := F.bindsA D.bi s [v] (by show 1 = d.ps.length; rw [hp]; rfl)
    dsimp only at this
    rw [hp] at this
    exact this
  · have := (M0.all (base := base) hTB fuel n f _ look fd F).1
    dsimp only at this
    rw [hp, hf] at this
    exact this
theorem Mo.tabs0 {M : Mo} {K : PySem.W.Frag} {H : Hp} (h : ∀ p ∈ M.cs K, H p.2 = some (.tbl #[])) : LamX.Tabs (M.tb K).tabs H := fun p hp => by
  obtain ⟨d, hd, rfl⟩ := List.mem_map.mp (show p ∈ M.tabs K from hp)
  exact LamX.TabS.nil (h _ (List.mem_map.mpr ⟨d, hd, rfl⟩))
/-- the code objects and tables of the defs that make lambdas -/
theorem Mo.hds {M : Mo} {K : PySem.W.Frag} {h : Heap} (X : K.In h) (c : SaysV M K) : (∀ p ∈ M.cs K, K.lookup p.2 = none) ∧ ∀ p ∈ M.cs K, PySem.W.CodeHd h p.1 p.2 := by
  have c0 : (M.chk K && M.fn.all fun d => d.ok K) = true := congrArg (fun z : Ob => z.1.1) c
  obtain ⟨c2, _⟩ := ba c0
  obtain ⟨_, c2⟩ := ba c2
  obtain ⟨_, c2⟩ := ba c2
  obtain ⟨_, c2⟩ := ba c2
  obtain ⟨_, c2⟩ := ba c2
  obtain ⟨_, c2⟩ := ba c2
  obtain ⟨_, c2⟩ := ba c2
  obtain ⟨_, c2⟩ := ba c2
  obtain ⟨_, c2⟩ := ba c2
  obtain ⟨l, _⟩ := ba c2
  obtain ⟨l1, _⟩ := ba l
  have at_ : ∀ p ∈ M.cs K, codeHdB K p.1 p.2 = true ∧ (K.lookup p.2).isNone = true := fun p hp => by
    obtain ⟨d, hd, rfl⟩ := List.mem_map.mp hp
    obtain ⟨_, m2⟩ := ba (List.all_eq_true.mp l1 _ hd)
    exact ba m2
  exact ⟨fun p hp => by simpa using (at_ p hp).2, fun p hp => codeHdB_ok X (at_ p hp).1⟩
/-- the heap without its tables -/
def noT (H : Hp) : Hp := fun a => match H a with
  | some (.tbl _) => none
  | o => o
theorem noT_at {H : Hp} {a : Addr} {o : HO} (h : H a = some o) (n : ∀ q, o ≠ .tbl q) : noT H a = some o := by
  unfold noT
  rw [h]
  cases o <;> first | rfl | (exact absurd rfl (n _))
theorem noT_of {H : Hp} {a : Addr} {o : HO} (h : noT H a = some o) : H a = some o ∧ ∀ q, o ≠ .tbl q := by
  unfold noT at h
  cases e : H a with
  | none => rw [e] at h; cases h
  | some u =>
    rw [e] at h
    cases u <;> first | (cases h; exact ⟨rfl, fun q z => by cases z⟩) | (cases h)
theorem sql_noT {K : PySem.W.Frag} {H : Hp} {a : Addr} {xs : List V} (h : SqL K H a xs) : SqL K (noT H) a xs := by
  rcases h with (h | ⟨o, h⟩) | h
  · exact .inl (.inl (noT_at h fun q z => by cases z))
  · exact .inl (.inr ⟨o, noT_at h fun q z => by cases z⟩)
  · exact .inr h
/-- the law's script -/
theorem spF_law {T : Tb} {fld : Nat → Nat} {φ : List Vl → Hm → R Vl} (hφ : ∀ ns : List Int, ns.length ≤ 63 → ∃ h, φ [.fz (.scr ns)] [] = .ok (.fz (.bl true)) h) (H : Hp) (a : Addr) (ns : List Int) (hl : ns.length ≤ 63) (hT : LamX.Tabs T.tabs H) (hS : SqL T.K H a (ns.map V.int)) :
    spF T fld φ [.ref a] H (fun v _ => v = .bl true) fun _ _ _ => False := by
  obtain ⟨h, e⟩ := hφ ns hl
  refine ⟨noT H, [], [], [.fz (.scr ns)], ⟨fun b o z => (noT_of z).1, rfl, fun i j b o u z => by simp at z, fun n o b z => by simp at z, hT, fun b q z => (noT_of z).2 q rfl⟩, .cons (RepV.scr (sql_noT hS) (by rw [sizeLine_eq]; omega)) .nil, ?_⟩
  rw [e]
  intro H' Hs' ρ' _ _ _ v rv
  cases (show RepV _ _ v (.bl true) from rv)
  rfl
/-- what a call lets out, whatever the world -/
def CXw (P : Program) : CXT := fun outer H s E u s' => ∃ w, L2.CX P w outer H s E u s'
theorem FnOk.cx {P : Program} {w : World} {K : PySem.W.Frag} {mg : Str → Option Value} {base : Heap} {CX CX' : CXT} {k : Nat} {f : Addr} {fd : FuncData} {ps : List Str} {sp : Sp} (F : FnOk P w K mg base CX k f fd ps sp)
    (h : ∀ outer H s E u s', CX outer H s E u s' → CX' outer H s E u s') : FnOk P w K mg base CX' k f fd ps sp :=
  ⟨F.len, fun A outer s H args us vs Q E hr he hb hv z => codeAny_mono (F.run A outer s H args us vs Q E hr he hb hv z) fun r s' q => by
    cases r with
    | error e => exact h _ _ _ _ _ _ q
    | ok fl => cases fl <;> exact q⟩
theorem CXw.no {P : Program} (H : Hp) (s : Shared) (e : Value) (s' : Shared) (c : CXw P [] H s (fun _ _ _ => False) e s') : False := by
  obtain ⟨w, a, B, H', cls, d, _, _, _, _, _, _, _, z⟩ := c
  exact z
theorem law_at {P : Program} {w : World} {K : PySem.W.Frag} {mg : Str → Option Value} {h : Heap} {M : Mo} {f x : Nat} {d : Dd} {fa : Addr} (X : K.In h) (G : h.Ns mainGlobals mg) (c : SaysV M K) (hD : M.Ok P) (hmg : mg ("law" : Str) = some (.ref fa)) (hd : M.ds[f]? = some d) (hx : M.E.fn f = some x) (hn : nmS x = "law") : He.fAd K d.d.at_ = fa := by
  have M0 : Mf P w K mg (M.tb K) M.fld M.isF M.spc M.glo M.E M.tab M.defs M.lams (M.cs K) := M.mf X G c hD
  obtain ⟨d', g1, g2⟩ := M0.fn f x hx
  have look : M.defs f = some (d.d, d.N, d.ps) := by unfold Mo.defs; rw [hd]; rfl
  rw [look] at g1
  cases g1
  rw [hn, hmg] at g2
  cases g2
  rfl
end HV

end

section
/-! V13: from the run of the law's deep code to the law's row. -/
namespace HV
open PySem PySem.Spec PyProof.Rows L2
/-- the law's def, whatever the head's fragment is -/
theorem walkT {l : PySem.W.OpenLaw} {n k : Nat} {q : Program} {loose : List Str} {XP : (Str → Option Value) → Heap → Prop} {YP : World → Heap → Prop} {d : DefRec} {CX : World → CXT} {x : Str} (hn : l.most = some n) (hz : n ≤ sizeLine) (hd : d.params.defaults = []) (hr : Room k callerA)
    (F : ∀ (w : World) (mg : Str → Option Value) (fa : Addr) (h : Heap), YP w h → h.Ns mainGlobals mg → mg d.name = some (.ref fa) → ∃ K : PySem.W.Frag, K.In h ∧ LamX.LawAtS l w K (CX w) k n x mg fa h)
    (no : ∀ (w : World) (H : Hp) (s : Shared) (e : Value) (t : Shared), CX w [] H s (fun _ _ _ => False) e t → False) : PySem.W.WalkO q loose XP YP l.row.toRowW d [] (fun f vs => PySem.call f vs) := by
  refine Att.attach_callB hn hd fun w s0 s1 mg mb fa o pm cd doc a us is G Y _ _ _ hm ob inz len bits gn => ?_
  obtain ⟨K, KX, fd, cs, sp, z1, z2, z3, z4, z5, z6⟩ := F w mg fa _ Y G.T.g hm
  refine LamX.law_callTs KX G.T.g G.T.b G.T.builtins G.T.nolimit gn z1 z2 z3 G.T.bmain ob inz (Nat.le_trans len hz) hr z6 z4 ?_ ?_
  · exact fun H hT hS => z5 H a is len bits hT hS
  · exact fun H e t => no w H s1 e t
/-- the law holds if its run says so -/
theorem Mo.walk {l : PySem.W.OpenLaw} {f fuel m lw : Nat} {q : Program} {loose : List Str} {XP : (Str → Option Value) → Heap → Prop} {M : Mo} {YP : World → Heap → Prop} {d : DefRec} {e : Dd} {x : Str} {run : List Vl → Hm → R Vl} (hn : l.most = some 63) (hd : d.params.defaults = []) (hr : Room (5 * m) callerA)
    (hY : ∀ w h, YP w h → ∃ K : PySem.W.Frag, K.In h ∧ SaysV M K ∧ TabsAt M K h) (nd : d.name = "law") (hD : M.Ok l.prog) (he : M.ds[f]? = some e) (hp : e.ps = [x]) (hx : M.E.fn f = some lw) (hw : nmS lw = "law") (hM : M.run fuel m f = run)
    (hφ : ∀ ns : List Int, ns.length ≤ 63 → ∃ h, run [.fz (.scr ns)] [] = .ok (.fz (.bl true)) h) : PySem.W.WalkO q loose XP YP l.row.toRowW d [] (fun f vs => PySem.call f vs) := by
  refine walkT (k := 5 * m) (x := x) (CX := fun w => L2.CX l.prog w) hn (by rw [sizeLine_eq]; omega) hd hr (fun w mg fa h Y G hmg => ?_) fun w H s e t c => ?_
  · obtain ⟨K, KX, c, t⟩ := hY w h Y
    rw [nd] at hmg
    have hfa := law_at (P := l.prog) (w := w) KX G c hD hmg he hx hw
    obtain ⟨fd, hb, hF⟩ := Mo.law (P := l.prog) (w := w) (n := m) (fuel := fuel) KX G c hD he hp hfa
    obtain ⟨a1, a2⟩ := Mo.hds KX c
    exact ⟨K, KX, fd, M.cs K, _, t, a1, a2, hb, fun H a ns hl _ hT hS => spF_law (T := M.tb K) (fun ns hl => by rw [hM]; exact hφ ns hl) H a ns hl (Mo.tabs0 hT) hS, fun base _ _ hTB => hF base hTB⟩
  · obtain ⟨a, B, H', cls, d, _, _, _, _, _, _, _, z⟩ := c
    exact z
end HV
example : L2.Room (5 * 30) PySem.callerA := ⟨rfl, by decide, by decide⟩

end

section
namespace HV.k41
open HV
abbrev x_BadAxes : Nat := 0
abbrev x_BadRooms : Nat := 1
abbrev x_BadTie : Nat := 2
abbrev x_NoTie : Nat := 3
abbrev x_TieTaken : Nat := 4
abbrev x_BadNumber : Nat := 5
abbrev x_NoAxis : Nat := 6
abbrev x_BadSizes : Nat := 7
abbrev td_law_tried : Td := ⟨0, [], [(7, .fld [115, 105, 122, 101, 115]), (6, .fld [97, 120, 105, 115]), (5, .fld [110, 117, 109, 98, 101, 114]), (3, .fld [116, 105, 101])]⟩
/-- is_integer(thing) -/
abbrev b0 : Sts := (.cons (.ret (.and (.isi (.var 0) (.glo 6909556)) (.not (.isi (.var 0) (.glo 1651470188))))) .nil)
/-- is_list(thing) -/
abbrev b1 : Sts := (.cons (.ret (.isi (.var 0) (.tup (.cons (.glo 1818850164) (.cons (.glo 500186508389) .nil))))) .nil)
/-- is_name(thing) -/
abbrev b2 : Sts := (.cons (.ret (.and (.isi (.var 0) (.glo 7566450)) (.and (.cmp 1 (.var 0) (.cst (.str []))) (.b1 1 (.lc [1] (.nm 1) (.val (.var 0)) .yes (.cmp 6 (.var 1) (.glo 357711695443))))))) .nil)
/-- is_vector(thing, size) -/
abbrev b3 : Sts := (.cons (.ret (.and (.call 1 (.cons (.var 0) .nil)) (.and (.cmp 0 (.len (.var 0)) (.var 1)) (.b1 1 (.lc [2] (.nm 2) (.val (.var 0)) .yes (.call 0 (.cons (.var 2) .nil))))))) .nil)
/-- check_rooms(rooms) -/
abbrev b4 : Sts := (.cons (.ite (.or (.not (.val (.call 1 (.cons (.var 0) .nil)))) (.or (.cmp 0 (.len (.var 0)) (.cst (.int 0))) (.not (.val (.b1 1 (.lc [1] (.nm 1) (.val (.var 0)) .yes (.call 2 (.cons (.var 1) .nil)))))))) (.cons (.rse 4783214584463846771 1 (.var 0)) .nil) .nil) (.cons (.ite (.cmp 1 (.len (.dc [1] (.nm 1) (.val (.var 0)) .yes (.var 1) (.cst (.bl true)))) (.len (.var 0))) (.cons (.rse 4783214584463846771 1 (.var 0)) .nil) .nil) .nil))
abbrev q_is_tie_1 : Stm := (.for_ (.nm 4) (.val (.tup (.cons (.idx (.var 0) (.cst (.int 1))) (.cons (.idx (.var 0) (.cst (.int 2))) .nil)))) (.cons (.ite (.or (.not (.val (.call 2 (.cons (.var 4) .nil)))) (.cmp 7 (.var 4) (.var 2))) (.cons (.ret (.cst (.bl false))) .nil) .nil) .nil))
/-- is_tie(thing, axes, known_rooms, taken) -/
abbrev b5 : Sts := (.cons (.ite (.or (.not (.val (.call 1 (.cons (.var 0) .nil)))) (.or (.cmp 1 (.len (.var 0)) (.cst (.int 4))) (.or (.not (.val (.call 2 (.cons (.idx (.var 0) (.cst (.int 0))) .nil)))) (.cmp 6 (.idx (.var 0) (.cst (.int 0))) (.var 3))))) (.cons (.ret (.cst (.bl false))) .nil) .nil) (.cons q_is_tie_1 (.cons (.ret (.call 3 (.cons (.idx (.var 0) (.cst (.int 3))) (.cons (.var 1) .nil)))) .nil)))
abbrev q_checked_ties_1 : Stm := (.for_ (.tp (.cons (.nm 5) (.cons (.nm 6) .nil))) (.enm (.var 2)) (.cons (.ite (.not (.val (.call 5 (.cons (.var 6) (.cons (.var 0) (.cons (.var 1) (.cons (.bin 0 (.var 3) (.lc [7] (.nm 7) (.val (.var 4)) .yes (.idx (.var 7) (.cst (.int 0))))) .nil))))))) (.cons (.rse 72986062514533 2 (.var 5)) .nil) .nil) (.cons (.exp (.app (.var 4) (.tup (.cons (.idx (.var 6) (.cst (.int 0))) (.cons (.idx (.var 6) (.cst (.int 1))) (.cons (.idx (.var 6) (.cst (.int 2))) (.cons (.s1 1 (.idx (.var 6) (.cst (.int 3)))) .nil))))))) .nil)))
/-- checked_ties(axes, known_rooms, ties, ahead) -/
abbrev b6 : Sts := (.cons (.ite (.not (.val (.call 1 (.cons (.var 2) .nil)))) (.cons (.rse 72986062514533 2 (.cst (.int 0))) .nil) .nil) (.cons (.set 4 (.nlst .nil)) (.cons q_checked_ties_1 (.cons (.ret (.frz (.var 4))) .nil))))
/-- Net.__init__(self, axes, rooms, ties) -/
abbrev b7 : Sts := (.cons (.ite (.or (.not (.val (.call 0 (.cons (.var 1) .nil)))) (.not (.chn 3 3 (.cst (.int 0)) (.var 1) (.glo 1426115298795793696083)))) (.cons (.rse 18684431685936499 0 (.var 1)) .nil) .nil) (.cons (.exp (.call 4 (.cons (.var 2) .nil))) (.cons (.fld (.var 0) 1635280243 (.var 1)) (.cons (.fld (.var 0) 540405396817959671653747 (.s1 0 (.var 2))) (.cons (.fld (.var 0) 8388347241570465651 (.call 6 (.cons (.var 1) (.cons (.var 2) (.cons (.var 3) (.cons (.lst .nil) .nil)))))) .nil)))))
/-- Net.rooms(self) -/
abbrev b8 : Sts := (.cons (.ret (.s1 0 (.att (.var 0) 540405396817959671653747))) .nil)
/-- Net.ties(self) -/
abbrev b9 : Sts := (.cons (.ret (.s1 0 (.att (.var 0) 8388347241570465651))) .nil)
/-- Net.__len__(self) -/
abbrev b10 : Sts := (.cons (.ret (.len (.att (.var 0) 8388347241570465651))) .nil)
/-- Net.__contains__(self, thing) -/
abbrev b11 : Sts := (.cons (.ret (.and (.isi (.var 1) (.glo 7566450)) (.cmp 6 (.var 1) (.lc [2] (.nm 2) (.val (.att (.var 0) 8388347241570465651)) .yes (.idx (.var 2) (.cst (.int 0))))))) .nil)
/-- Net.__eq__(self, other) -/
abbrev b12 : Sts := (.cons (.ite (.or (.not (.val (.isi (.var 1) (.glo 5137780)))) (.cmp 1 (.att (.var 0) 1635280243) (.att (.var 1) 1635280243))) (.cons (.ret (.cst (.bl false))) .nil) .nil) (.cons (.ret (.and (.cmp 0 (.att (.var 0) 540405396817959671653747) (.att (.var 1) 540405396817959671653747)) (.cmp 0 (.att (.var 0) 8388347241570465651) (.att (.var 1) 8388347241570465651)))) .nil))
abbrev q_Net_or_1 : Stm := (.for_ (.nm 2) (.val (.att (.var 1) 8388347241570465651)) (.cons (.ite (.cmp 6 (.idx (.var 2) (.cst (.int 0))) (.var 0)) (.cons (.rse 6082504184826652014 4 (.idx (.var 2) (.cst (.int 0)))) .nil) .nil) .nil))
/-- Net.__or__(self, other) -/
abbrev b13 : Sts := (.cons (.ite (.cmp 1 (.att (.var 0) 1635280243) (.att (.var 1) 1635280243)) (.cons .bad .nil) .nil) (.cons q_Net_or_1 (.cons (.set 3 (.lc [4] (.nm 4) (.val (.att (.var 1) 540405396817959671653747)) (.cmp 7 (.var 4) (.att (.var 0) 540405396817959671653747)) (.var 4))) (.cons (.ret (.frz (.new 5137780 0 7 (.cons (.att (.var 0) 1635280243) (.cons (.bin 0 (.att (.var 0) 540405396817959671653747) (.var 3)) (.cons (.bin 0 (.att (.var 0) 8388347241570465651) (.att (.var 1) 8388347241570465651)) .nil)))))) .nil))))
/-- Net.__invert__(self) -/
abbrev b14 : Sts := (.cons (.set 1 (.lc [2, 3, 4, 5] (.tp (.cons (.nm 2) (.cons (.nm 3) (.cons (.nm 4) (.cons (.nm 5) .nil))))) (.val (.att (.var 0) 8388347241570465651)) .yes (.tup (.cons (.var 2) (.cons (.var 4) (.cons (.var 3) (.cons (.lc [6] (.nm 6) (.val (.var 5)) .yes (.neg (.var 6))) .nil))))))) (.cons (.ret (.frz (.new 5137780 0 7 (.cons (.att (.var 0) 1635280243) (.cons (.att (.var 0) 540405396817959671653747) (.cons (.var 1) .nil)))))) .nil))
/-- check_axis(net, axis) -/
abbrev b15 : Sts := (.cons (.ite (.or (.not (.val (.call 0 (.cons (.var 1) .nil)))) (.not (.chn 3 2 (.cst (.int 0)) (.var 1) (.att (.var 0) 1635280243)))) (.cons (.rse 86239746746739 6 (.var 1)) .nil) .nil) .nil)
/-- check_size(size) -/
abbrev b16 : Sts := (.cons (.ite (.or (.not (.val (.call 0 (.cons (.var 0) .nil)))) (.not (.chn 3 3 (.cst (.int 1)) (.var 0) (.glo 1426115298796094708293)))) (.cons (.rse 1224502929250433787250 5 (.var 0)) .nil) .nil) .nil)
/-- is_sizes(thing, axes) -/
abbrev b17 : Sts := (.cons (.ret (.and (.call 3 (.cons (.var 0) (.cons (.var 1) .nil))) (.b1 1 (.lc [2] (.nm 2) (.val (.var 0)) .yes (.cmp 5 (.var 2) (.cst (.int 1))))))) .nil)
/-- check_sizes(net, sizes) -/
abbrev b18 : Sts := (.cons (.ite (.not (.val (.call 17 (.cons (.var 1) (.cons (.att (.var 0) 1635280243) .nil))))) (.cons (.rse 4783214588658869619 7 (.var 1)) .nil) .nil) .nil)
/-- box_way(net, sizes) -/
abbrev b19 : Sts := (.cons (.exp (.call 18 (.cons (.var 0) (.cons (.var 1) .nil)))) (.cons .bad (.cons .bad (.cons .bad .nil))))
/-- is_box_way(net, sizes, thing) -/
abbrev b20 : Sts := (.cons (.exp (.call 18 (.cons (.var 0) (.cons (.var 1) .nil)))) (.cons .bad (.cons .bad (.cons .bad (.cons .bad (.cons .bad (.cons .bad (.cons .bad .nil))))))))
/-- longest_way(net, sizes) -/
abbrev b21 : Sts := (.cons (.exp (.call 18 (.cons (.var 0) (.cons (.var 1) .nil)))) (.cons .bad .nil))
/-- boxed(net, axis, size) -/
abbrev b22 : Sts := (.cons (.exp (.call 15 (.cons (.var 0) (.cons (.var 1) .nil)))) (.cons (.exp (.call 16 (.cons (.var 2) .nil))) (.cons .bad (.cons .bad (.cons .bad (.cons .bad .nil))))))
abbrev q_cuts_1 : Stm := (.for_ (.tp (.cons (.nm 4) (.cons (.nm 5) .nil))) (.enm (.var 1)) (.cons (.ite (.or (.cmp 7 (.var 5) (.var 0)) (.cmp 6 (.var 5) (.slc (.var 1) .non (.one (.var 4))))) (.cons (.rse 336875252069 3 (.var 5)) .nil) .nil) .nil))
/-- cuts(net, names) -/
abbrev b23 : Sts := (.cons (.ite (.not (.val (.call 1 (.cons (.var 1) .nil)))) (.cons (.rse 336875252069 3 (.var 1)) .nil) .nil) (.cons q_cuts_1 (.cons .bad (.cons .bad (.cons .bad .nil)))))
abbrev q_law_n_words_1 : Stm := (.for_ (.nm 3) (.rng (.var 1)) (.cons (.set 4 (.join (.cst (.str [])) (.lc [6] (.nm 6) (.rng (.bin 0 (.cst (.int 1)) (.call 28 (.cons (.var 0) (.cons (.cst (.int 4)) .nil))))) .yes (.call 29 (.cons (.var 0) (.cons (.cst (.str [97, 98, 99, 120, 121, 122, 48, 49, 57, 46])) .nil)))))) (.cons (.set 5 (.bin 0 (.lst (.cons (.var 4) .nil)) (.lc [7] (.nm 7) (.val (.cst (.str [97, 98, 99, 100, 101, 102, 103, 104, 105, 106, 107, 108, 109, 110, 111, 112, 113, 114, 115, 116, 117, 118, 119, 120, 121, 122]))) .yes (.bin 0 (.var 7) (.cst (.str [113])))))) (.cons (.exp (.app (.var 2) (.idx (.lc [8] (.nm 8) (.val (.var 5)) (.cmp 7 (.var 8) (.var 2)) (.var 8)) (.cst (.int 0))))) .nil))))
/-- _law_n_words(_law_stream, _law_many) -/
abbrev b24 : Sts := (.cons (.set 2 (.nlst .nil)) (.cons q_law_n_words_1 (.cons (.ret (.frz (.var 2))) .nil)))
abbrev q_law_n_plan_1 : Stm := (.for_ (.tp (.cons (.nm 8) (.cons (.nm 9) .nil))) (.enm (.call 24 (.cons (.var 0) (.cons (.var 6) .nil)))) (.cons (.par [11, 12] (.cons (.call 29 (.cons (.var 0) (.cons (.var 5) .nil))) (.cons (.call 29 (.cons (.var 0) (.cons (.var 5) .nil))) .nil))) (.cons (.ite (.and (.cmp 2 (.var 8) (.len (.var 5))) (.cmp 4 (.call 28 (.cons (.var 0) (.cons (.cst (.int 4)) .nil))) (.cst (.int 0)))) (.cons (.par [11, 12] (.cons (.idx (.var 5) (.var 8)) (.cons (.idx (.var 5) (.bin 4 (.bin 0 (.var 8) (.cst (.int 1))) (.len (.var 5)))) .nil))) .nil) .nil) (.cons (.set 10 (.lc [13] (.nm 13) (.rng (.var 1)) .yes (.bin 1 (.call 28 (.cons (.var 0) (.cons (.bin 0 (.bin 2 (.cst (.int 2)) (.var 4)) (.cst (.int 1))) .nil))) (.var 4)))) (.cons (.exp (.app (.var 7) (.tup (.cons (.var 9) (.cons (.var 11) (.cons (.var 12) (.cons (.s1 1 (.var 10)) .nil))))))) .nil)))))
/-- _law_n_plan(_law_stream, _law_axes, _law_halls, _law_many, _law_wide) -/
abbrev b25 : Sts := (.cons (.set 5 (.call 24 (.cons (.var 0) (.cons (.bin 0 (.cst (.int 1)) (.call 28 (.cons (.var 0) (.cons (.var 2) .nil)))) .nil)))) (.cons (.par [6, 7] (.cons (.bin 0 (.cst (.int 1)) (.call 28 (.cons (.var 0) (.cons (.var 3) .nil)))) (.cons (.nlst .nil) .nil))) (.cons q_law_n_plan_1 (.cons (.ret (.tup (.cons (.var 1) (.cons (.var 5) (.cons (.var 7) .nil))))) .nil))))
/-- _law_n_made(_law_plan) -/
abbrev b26 : Sts := (.cons (.ret (.frz (.new 5137780 0 7 (.cons (.idx (.var 0) (.cst (.int 0))) (.cons (.idx (.var 0) (.cst (.int 1))) (.cons (.idx (.var 0) (.cst (.int 2))) .nil)))))) .nil)
/-- _law_start(_law_script) -/
abbrev b27 : Sts := (.cons (.ret (.nlst (.cons (.n1 0 (.var 0)) (.cons (.cst (.int 0)) (.cons (.cst (.int 0)) (.cons (.cst (.int 11)) .nil)))))) .nil)
/-- _law_draw(_law_stream, _law_many) -/
abbrev b28 : Sts := (.cons (.setI (.var 0) (.cst (.int 2)) (.bin 0 (.idx (.var 0) (.cst (.int 2))) (.cst (.int 1)))) (.cons (.ite (.and (.cmp 0 (.idx (.var 0) (.cst (.int 1))) (.cst (.int 0))) (.cmp 1 (.idx (.var 0) (.cst (.int 0))) (.lst .nil))) (.cons (.set 3 (.popAt (.idx (.var 0) (.cst (.int 0))) (.cst (.int 0)))) (.cons (.setI (.var 0) (.cst (.int 3)) (.bin 4 (.b1 0 (.bin 0 (.bin 0 (.bin 2 (.idx (.var 0) (.cst (.int 3))) (.cst (.int 8191))) (.var 3)) (.cst (.int 3)))) (.cst (.int 2147483647)))) (.cons (.setI (.var 0) (.cst (.int 1)) (.ite (.cmp 5 (.var 3) (.bin 5 (.cst (.int 10)) (.cst (.int 18)))) (.var 3) (.cst (.int 0)))) .nil))) .nil) (.cons (.ite (.cmp 4 (.idx (.var 0) (.cst (.int 1))) (.cst (.int 0))) (.cons (.set 4 (.bin 4 (.b1 0 (.idx (.var 0) (.cst (.int 1)))) (.var 1))) (.cons (.setI (.var 0) (.cst (.int 1)) (.bin 3 (.idx (.var 0) (.cst (.int 1))) (.var 1))) (.cons (.ret (.var 4)) .nil))) .nil) (.cons (.set 2 (.bin 4 (.b1 0 (.bin 5 (.bin 0 (.bin 0 (.idx (.var 0) (.cst (.int 3))) (.bin 2 (.cst (.int 7919)) (.idx (.var 0) (.cst (.int 2))))) (.cst (.int 104729))) (.cst (.int 5)))) (.cst (.int 2147483629)))) (.cons (.ret (.bin 4 (.bin 4 (.b1 0 (.bin 5 (.bin 0 (.bin 0 (.bin 2 (.var 2) (.cst (.int 48271))) (.bin 2 (.cst (.int 30011)) (.idx (.var 0) (.cst (.int 2))))) (.cst (.int 29))) (.cst (.int 3)))) (.cst (.int 1000000007))) (.var 1))) .nil)))))
/-- _law_pick(_law_stream, _law_some) -/
abbrev b29 : Sts := (.cons (.ret (.idx (.var 1) (.call 28 (.cons (.var 0) (.cons (.len (.var 1)) .nil))))) .nil)
/-- _law_same(_law_found, _law_due) -/
abbrev b30 : Sts := (.cons (.ite (.val (.isi (.var 1) (.tup (.cons (.glo 1818850164) (.cons (.glo 500186508389) .nil))))) (.cons (.ite (.or (.cmp 1 (.isi (.var 0) (.glo 1818850164)) (.isi (.var 1) (.glo 1818850164))) (.cmp 1 (.isi (.var 0) (.glo 500186508389)) (.isi (.var 1) (.glo 500186508389)))) (.cons (.ret (.cst (.bl false))) .nil) .nil) (.cons (.ret (.and (.cmp 0 (.len (.var 0)) (.len (.var 1))) (.b1 1 (.lc [2, 3] (.tp (.cons (.nm 2) (.cons (.nm 3) .nil))) (.zip (.var 0) (.var 1)) .yes (.call 30 (.cons (.var 2) (.cons (.var 3) .nil))))))) .nil)) .nil) (.cons (.ite (.val (.isi (.var 1) (.glo 6909556))) (.cons (.ret (.and (.isi (.var 0) (.glo 6909556)) (.and (.cmp 0 (.isi (.var 0) (.glo 1651470188)) (.isi (.var 1) (.glo 1651470188))) (.cmp 0 (.var 0) (.var 1))))) .nil) .nil) (.cons (.ret (.and (.cmp 8 (.isi (.var 0) (.tup (.cons (.glo 6909556) (.cons (.glo 1818850164) (.cons (.glo 500186508389) .nil))))) (.cst (.bl false))) (.cmp 0 (.var 0) (.var 1)))) .nil)))
/-- _law_frozen(_law_thing) -/
abbrev b31 : Sts := (.cons (.ite (.val (.isi (.var 0) (.glo 1684628340))) (.cons (.ret (.s1 2 (.lcK [1] (.nm 1) 0 .yes (.tup (.cons (.var 1) (.cons (.call 31 (.cons (.idx (.var 0) (.var 1)) .nil)) .nil)))))) .nil) .nil) (.cons (.ret (.ite (.val (.isi (.var 0) (.tup (.cons (.glo 1818850164) (.cons (.glo 500186508389) .nil))))) (.s1 1 (.lc [2] (.nm 2) (.val (.var 0)) .yes (.call 31 (.cons (.var 2) .nil)))) (.var 0))) .nil))
abbrev q_law_1 : Stm := (.for_ (.nm 8) (.val (.bin 0 (.var 7) (.lst (.cons (.bin 0 (.slc (.var 6) (.one (.cst (.int 1))) .non) (.lst (.cons (.cst (.bl true)) .nil))) (.cons (.bin 2 (.lst (.cons (.cst .non) .nil)) (.var 4)) .nil))))) (.cons (.set 3 (.nlst (.cons (.lam 450624087419674574808420 td_law_tried (.call 19 (.cons (.var 9) (.cons (.var 8) .nil)))) .nil))) (.cons (.exp (.app (.var 3) (.lam 450624087419674574808420 td_law_tried (.call 20 (.cons (.var 9) (.cons (.var 8) (.cons (.cst .non) .nil))))))) (.cons (.exp (.app (.var 3) (.lam 450624087419674574808420 td_law_tried (.call 21 (.cons (.var 9) (.cons (.var 8) .nil)))))) (.cons (.ite (.not (.val (.call 30 (.cons (.call 31 (.cons (.frz (.var 3)) .nil)) (.cons (.call 31 (.cons (.bin 2 (.lst (.cons (.tup (.cons (.cst (.str [115, 105, 122, 101, 115])) (.cons (.var 8) .nil))) .nil)) (.cst (.int 3))) .nil)) .nil))))) (.cons (.ret (.cst (.bl false))) .nil) .nil) .nil)))))
abbrev q_law_2 : Stm := (.for_ (.nm 8) (.val (.lst (.cons (.cst .non) (.cons (.neg (.cst (.int 1))) (.cons (.var 4) (.cons (.cst (.str [48])) (.cons (.cst (.bl true)) (.cons (.tup (.cons (.cst (.int 0)) .nil)) (.cons (.lst (.cons (.cst (.int 0)) .nil)) (.cons (.dct .nil) .nil)))))))))) (.cons (.ite (.not (.val (.call 30 (.cons (.call 31 (.cons (.lam 450624087419674574808420 td_law_tried (.call 22 (.cons (.var 9) (.cons (.var 8) (.cons (.cst .non) .nil))))) .nil)) (.cons (.tup (.cons (.cst (.str [97, 120, 105, 115])) (.cons (.call 31 (.cons (.var 8) .nil)) .nil))) .nil))))) (.cons (.ret (.cst (.bl false))) .nil) .nil) .nil))
abbrev q_law_3 : Stm := (.for_ (.nm 8) (.val (.lst (.cons (.cst .non) (.cons (.cst (.int 0)) (.cons (.neg (.cst (.int 1))) (.cons (.cst (.int 41)) (.cons (.cst (.str [49])) (.cons (.cst (.bl true)) (.cons (.tup (.cons (.cst (.int 1)) .nil)) (.cons (.lst (.cons (.cst (.int 1)) .nil)) (.cons (.dct .nil) .nil))))))))))) (.cons (.ite (.not (.val (.call 30 (.cons (.call 31 (.cons (.lam 450624087419674574808420 td_law_tried (.call 22 (.cons (.var 9) (.cons (.cst (.int 0)) (.cons (.var 8) .nil))))) .nil)) (.cons (.tup (.cons (.cst (.str [110, 117, 109, 98, 101, 114])) (.cons (.call 31 (.cons (.var 8) .nil)) .nil))) .nil))))) (.cons (.ret (.cst (.bl false))) .nil) .nil) .nil))
abbrev q_law_4 : Stm := (.for_ (.nm 8) (.val (.lst (.cons (.cst .non) (.cons (.cst (.int 5)) (.cons (.idx (.var 10) (.cst (.int 0))) (.cons (.dct .nil) (.cons (.cst (.bl true)) .nil))))))) (.cons (.ite (.not (.val (.call 30 (.cons (.lam 450624087419674574808420 td_law_tried (.call 23 (.cons (.var 9) (.cons (.var 8) .nil)))) (.cons (.tup (.cons (.cst (.str [116, 105, 101])) (.cons (.var 8) .nil))) .nil))))) (.cons (.ret (.cst (.bl false))) .nil) .nil) .nil))
abbrev q_law_5 : Stm := (.for_ (.nm 8) (.val (.lst (.cons (.cst .non) (.cons (.cst (.int 5)) (.cons (.cst (.str [])) (.cons (.cst (.str [81])) (.cons (.bin 0 (.idx (.var 10) (.cst (.int 0))) (.cst (.str [113, 113]))) (.cons (.lst (.cons (.idx (.var 10) (.cst (.int 0))) .nil)) (.cons (.tup (.cons (.idx (.var 10) (.cst (.int 0))) .nil)) (.cons (.cst (.bl true)) (.cons (.idx (.var 10) (.cst (.int 0))) .nil))))))))))) (.cons (.set 11 (.bin 0 (.cst (.int 1)) (.call 28 (.cons (.var 1) (.cons (.len (.var 10)) .nil))))) (.cons (.set 12 (.bin 0 (.bin 0 (.bin 0 (.slc (.var 10) .non (.one (.var 11))) (.lst (.cons (.var 8) .nil))) (.slc (.var 10) (.one (.var 11)) .non)) (.lst (.cons (.cst .non) .nil)))) (.cons (.ite (.not (.val (.call 30 (.cons (.call 31 (.cons (.lam 450624087419674574808420 td_law_tried (.call 23 (.cons (.var 9) (.cons (.var 12) .nil)))) .nil)) (.cons (.tup (.cons (.cst (.str [116, 105, 101])) (.cons (.call 31 (.cons (.var 8) .nil)) .nil))) .nil))))) (.cons (.ret (.cst (.bl false))) .nil) .nil) .nil))))
abbrev q_law_6 : Stm := (.for_ (.nm 2) (.rng (.cst (.int 4))) (.cons (.set 4 (.bin 0 (.cst (.int 1)) (.call 28 (.cons (.var 1) (.cons (.cst (.int 3)) .nil))))) (.cons (.set 5 (.call 25 (.cons (.var 1) (.cons (.var 4) (.cons (.cst (.int 3)) (.cons (.cst (.int 5)) (.cons (.cst (.int 2)) .nil))))))) (.cons (.par [9, 10] (.cons (.call 26 (.cons (.var 5) .nil)) (.cons (.lc [13] (.nm 13) (.val (.idx (.var 5) (.cst (.int 2)))) .yes (.idx (.var 13) (.cst (.int 0)))) .nil))) (.cons (.set 6 (.bin 2 (.lst (.cons (.cst (.int 2)) .nil)) (.var 4))) (.cons (.set 7 (.lst (.cons (.cst .non) (.cons (.cst (.int 5)) (.cons (.cst (.str [49, 50])) (.cons (.dct .nil) (.cons (.bin 0 (.var 6) (.lst (.cons (.cst (.int 1)) .nil))) (.cons (.slc (.var 6) (.one (.cst (.int 1))) .non) (.cons (.bin 0 (.slc (.var 6) (.one (.cst (.int 1))) .non) (.lst (.cons (.cst (.int 0)) .nil))) (.cons (.bin 0 (.slc (.var 6) (.one (.cst (.int 1))) .non) (.lst (.cons (.neg (.cst (.int 1))) .nil))) .nil)))))))))) (.cons q_law_1 (.cons q_law_2 (.cons q_law_3 (.cons q_law_4 (.cons q_law_5 (.cons (.ite (.cmp 1 (.meth 0 1953064307 9 (.var 9) .nil) (.idx (.var 5) (.cst (.int 2)))) (.cons (.ret (.cst (.bl false))) .nil) .nil) .nil))))))))))))
/-- law(_law_script) -/
abbrev b32 : Sts := (.cons (.set 1 (.call 27 (.cons (.var 0) .nil))) (.cons q_law_6 (.cons (.set 3 (.lam 450624087419674574808420 td_law_tried (.call 19 (.cons (.frz (.new 5137780 0 7 (.cons (.cst (.int 0)) (.cons (.lst (.cons (.cst (.str [97])) .nil)) (.cons (.lst .nil) .nil))))) (.cons (.lst (.cons (.cst (.int 1)) .nil)) .nil))))) (.cons (.ret (.call 30 (.cons (.call 31 (.cons (.frz (.var 3)) .nil)) (.cons (.tup (.cons (.cst (.str [115, 105, 122, 101, 115])) (.cons (.tup (.cons (.cst (.int 1)) .nil)) .nil))) .nil)))) .nil))))
abbrev r0 : Dr := ⟨false, 1, 0, b0⟩
abbrev f_is_integer : Nat := 0
abbrev r_is_integer : Dr := r0
abbrev r1 : Dr := ⟨false, 1, 0, b1⟩
abbrev f_is_list : Nat := 1
abbrev r_is_list : Dr := r1
abbrev r2 : Dr := ⟨false, 1, 1, b2⟩
abbrev f_is_name : Nat := 2
abbrev r_is_name : Dr := r2
abbrev r3 : Dr := ⟨false, 2, 1, b3⟩
abbrev f_is_vector : Nat := 3
abbrev r_is_vector : Dr := r3
abbrev r4 : Dr := ⟨false, 1, 1, b4⟩
abbrev f_check_rooms : Nat := 4
abbrev r_check_rooms : Dr := r4
abbrev r5 : Dr := ⟨false, 4, 1, b5⟩
abbrev f_is_tie : Nat := 5
abbrev r_is_tie : Dr := r5
abbrev r6 : Dr := ⟨false, 4, 4, b6⟩
abbrev f_checked_ties : Nat := 6
abbrev r_checked_ties : Dr := r6
abbrev r7 : Dr := ⟨true, 4, 0, b7⟩
abbrev f_Net_init : Nat := 7
abbrev r_Net_init : Dr := r7
abbrev r8 : Dr := ⟨false, 1, 0, b8⟩
abbrev f_Net_rooms : Nat := 8
abbrev r_Net_rooms : Dr := r8
abbrev r9 : Dr := ⟨false, 1, 0, b9⟩
abbrev f_Net_ties : Nat := 9
abbrev r_Net_ties : Dr := r9
abbrev r10 : Dr := ⟨false, 1, 0, b10⟩
abbrev f_Net_len : Nat := 10
abbrev r_Net_len : Dr := r10
abbrev r11 : Dr := ⟨false, 2, 1, b11⟩
abbrev f_Net_contains : Nat := 11
abbrev r_Net_contains : Dr := r11
abbrev r12 : Dr := ⟨false, 2, 0, b12⟩
abbrev f_Net_eq : Nat := 12
abbrev r_Net_eq : Dr := r12
abbrev r13 : Dr := ⟨false, 2, 3, b13⟩
abbrev f_Net_or : Nat := 13
abbrev r_Net_or : Dr := r13
abbrev r14 : Dr := ⟨false, 1, 6, b14⟩
abbrev f_Net_invert : Nat := 14
abbrev r_Net_invert : Dr := r14
abbrev r15 : Dr := ⟨false, 2, 0, b15⟩
abbrev f_check_axis : Nat := 15
abbrev r_check_axis : Dr := r15
abbrev r16 : Dr := ⟨false, 1, 0, b16⟩
abbrev f_check_size : Nat := 16
abbrev r_check_size : Dr := r16
abbrev r17 : Dr := ⟨false, 2, 1, b17⟩
abbrev f_is_sizes : Nat := 17
abbrev r_is_sizes : Dr := r17
abbrev r18 : Dr := ⟨false, 2, 0, b18⟩
abbrev f_check_sizes : Nat := 18
abbrev r_check_sizes : Dr := r18
abbrev r19 : Dr := ⟨false, 2, 4, b19⟩
abbrev f_box_way : Nat := 19
abbrev r_box_way : Dr := r19
abbrev r20 : Dr := ⟨false, 3, 5, b20⟩
abbrev f_is_box_way : Nat := 20
abbrev r_is_box_way : Dr := r20
abbrev r21 : Dr := ⟨false, 2, 0, b21⟩
abbrev f_longest_way : Nat := 21
abbrev r_longest_way : Dr := r21
abbrev r22 : Dr := ⟨false, 3, 10, b22⟩
abbrev f_boxed : Nat := 22
abbrev r_boxed : Dr := r22
abbrev r23 : Dr := ⟨false, 2, 6, b23⟩
abbrev f_cuts : Nat := 23
abbrev r_cuts : Dr := r23
abbrev r24 : Dr := ⟨false, 2, 7, b24⟩
abbrev f_law_n_words : Nat := 24
abbrev r_law_n_words : Dr := r24
abbrev r25 : Dr := ⟨false, 5, 9, b25⟩
abbrev f_law_n_plan : Nat := 25
abbrev r_law_n_plan : Dr := r25
abbrev r26 : Dr := ⟨false, 1, 0, b26⟩
abbrev f_law_n_made : Nat := 26
abbrev r_law_n_made : Dr := r26
abbrev r27 : Dr := ⟨true, 1, 0, b27⟩
abbrev f_law_start : Nat := 27
abbrev r_law_start : Dr := r27
abbrev r28 : Dr := ⟨false, 2, 3, b28⟩
abbrev f_law_draw : Nat := 28
abbrev r_law_draw : Dr := r28
abbrev r29 : Dr := ⟨false, 2, 0, b29⟩
abbrev f_law_pick : Nat := 29
abbrev r_law_pick : Dr := r29
abbrev r30 : Dr := ⟨false, 2, 2, b30⟩
abbrev f_law_same : Nat := 30
abbrev r_law_same : Dr := r30
abbrev r31 : Dr := ⟨false, 1, 2, b31⟩
abbrev f_law_frozen : Nat := 31
abbrev r_law_frozen : Dr := r31
abbrev r32 : Dr := ⟨false, 1, 13, b32⟩
abbrev f_law : Nat := 32
abbrev r_law : Dr := r32
abbrev c_Net : Nat := 0
def dr : List Dr := [r0, r1, r2, r3, r4, r5, r6, r7, r8, r9, r10, r11, r12, r13, r14, r15, r16, r17, r18, r19, r20, r21, r22, r23, r24, r25, r26, r27, r28, r29, r30, r31, r32]
def glos : List (Nat × PV) := [(1426115298795793696083, .int 4), (1426115298796094708293, .int 40), (5137780, .cls 0), (357711695443, .str [97, 98, 99, 100, 101, 102, 103, 104, 105, 106, 107, 108, 109, 110, 111, 112, 113, 114, 115, 116, 117, 118, 119, 120, 121, 122, 48, 49, 50, 51, 52, 53, 54, 55, 56, 57, 46]), (1651470188, .ty 1), (1684628340, .ty 5), (6909556, .ty 0), (1818850164, .ty 3), (7566450, .ty 2), (500186508389, .ty 4)]
def flds : List (List Nat) := [[1635280243, 540405396817959671653747, 8388347241570465651]]
def spcs : List ((Nat × Nat) × Nat) := [((6, 0), 11), ((0, 0), 12), ((8, 0), 10), ((13, 0), 14), ((26, 0), 13)]
def isF (c f : Nat) : Bool := match flds[c]? with | some l => l.contains f | none => false
def glo (x : Nat) : Option PV := glos.lookup x
def spc (k c : Nat) : Option Nat := spcs.lookup (k, c)
def run (fuel n f : Nat) : List Vl → Hm → R Vl := runs isF spc glo fuel (fun f => dr[f]?) n f
def lawId : Nat := 32
end HV.k41

end

section
namespace HV.k41
open PySem PySem.Spec PyProof.Rows L2 HV
def top (i : Nat) : Stmt := PySem.Challenge.pw_repeatnets_k41_boxes_refused.main.body.getD i (.Pass ⟨0, 0, 0, 0⟩)
def inC (i j : Nat) : Stmt := match top i with | .ClassDef _ _ _ b .. => b.getD j (.Pass ⟨0, 0, 0, 0⟩) | s => s
def dd0 : He.DefD := ⟨("is_integer", none), "is_integer", "is_integer", defArgs (top 3), defBody (top 3), defScope (top 3), [], []⟩
def x0 : Dd := ⟨dd0, ["thing"], ["thing"], r0, .fn 497976731417541700183410⟩
def dd1 : He.DefD := ⟨("is_list", none), "is_list", "is_list", defArgs (top 4), defBody (top 4), defScope (top 4), [], []⟩
def x1 : Dd := ⟨dd1, ["thing"], ["thing"], r1, .fn 29681726232556404⟩
def dd2 : He.DefD := ⟨("is_name", none), "is_name", "is_name", defArgs (top 5), defBody (top 5), defScope (top 5), [], []⟩
def x2 : Dd := ⟨dd2, ["thing", "sign"], ["thing"], r2, .fn 29681726265584997⟩
def dd3 : He.DefD := ⟨("is_vector", none), "is_vector", "is_vector", defArgs (top 6), defBody (top 6), defScope (top 6), [], []⟩
def x3 : Dd := ⟨dd3, ["thing", "size", "one"], ["thing", "size"], r3, .fn 1945221621354484494194⟩
def dd4 : He.DefD := ⟨("check_rooms", none), "check_rooms", "check_rooms", defArgs (top 22), defBody (top 22), defScope (top 22), [], []⟩
def x4 : Dd := ⟨dd4, ["rooms", "room"], ["rooms"], r4, .fn 120176652541142753426238835⟩
def dd5 : He.DefD := ⟨("is_tie", none), "is_tie", "is_tie", defArgs (top 23), defBody (top 23), defScope (top 23), [], []⟩
def x5 : Dd := ⟨dd5, ["thing", "axes", "known_rooms", "taken", "room"], ["thing", "axes", "known_rooms", "taken"], r5, .fn 115944243620197⟩
def dd6 : He.DefD := ⟨("checked_ties", none), "checked_ties", "checked_ties", defArgs (top 24), defBody (top 24), defScope (top 24), [], []⟩
def x6 : Dd := ⟨dd6, ["axes", "known_rooms", "ties", "ahead", "found", "index", "thing", "row"], ["axes", "known_rooms", "ties", "ahead"], r6, .fn 30765223050534218265178760563⟩
def dd7 : He.DefD := ⟨("Net", some "__init__"), "__init__", "Net.__init__", defArgs (inC 25 0), defBody (inC 25 0), defScope (inC 25 0), [], []⟩
def x7 : Dd := ⟨dd7, ["self", "axes", "rooms", "ties"], ["self", "axes", "rooms", "ties"], r7, .nw 5137780 0⟩
def dd8 : He.DefD := ⟨("Net", some "rooms"), "rooms", "Net.rooms", defArgs (inC 25 1), defBody (inC 25 1), defScope (inC 25 1), [], []⟩
def x8 : Dd := ⟨dd8, ["self"], ["self"], r8, .md 0 491495845235⟩
def dd9 : He.DefD := ⟨("Net", some "ties"), "ties", "Net.ties", defArgs (inC 25 2), defBody (inC 25 2), defScope (inC 25 2), [], []⟩
def x9 : Dd := ⟨dd9, ["self"], ["self"], r9, .md 0 1953064307⟩
def dd10 : He.DefD := ⟨("Net", some "__len__"), "__len__", "Net.__len__", defArgs (inC 25 4), defBody (inC 25 4), defScope (inC 25 4), [], []⟩
def x10 : Dd := ⟨dd10, ["self"], ["self"], r10, .md 0 26845041950351199⟩
def dd11 : He.DefD := ⟨("Net", some "__contains__"), "__contains__", "Net.__contains__", defArgs (inC 25 5), defBody (inC 25 5), defScope (inC 25 5), [], []⟩
def x11 : Dd := ⟨dd11, ["self", "thing", "row"], ["self", "thing"], r11, .md 0 29516393455720661124010696543⟩
def dd12 : He.DefD := ⟨("Net", some "__eq__"), "__eq__", "Net.__eq__", defArgs (inC 25 6), defBody (inC 25 6), defScope (inC 25 6), [], []⟩
def x12 : Dd := ⟨dd12, ["self", "other"], ["self", "other"], r12, .md 0 104863328460639⟩
def dd13 : He.DefD := ⟨("Net", some "__or__"), "__or__", "Net.__or__", defArgs (inC 25 7), defBody (inC 25 7), defScope (inC 25 7), [], []⟩
def x13 : Dd := ⟨dd13, ["self", "other", "row", "further", "room"], ["self", "other"], r13, .md 0 104863496298335⟩
def dd14 : He.DefD := ⟨("Net", some "__invert__"), "__invert__", "Net.__invert__", defArgs (inC 25 8), defBody (inC 25 8), defScope (inC 25 8), [], []⟩
def x14 : Dd := ⟨dd14, ["self", "rows", "name", "start", "end", "step", "one"], ["self"], r14, .md 0 450384853699418207313759⟩
def dd15 : He.DefD := ⟨("check_axis", none), "check_axis", "check_axis", defArgs (top 28), defBody (top 28), defScope (top 28), [], []⟩
def x15 : Dd := ⟨dd15, ["net", "axis"], ["net", "axis"], r15, .fn 469440048988838595946867⟩
def dd16 : He.DefD := ⟨("check_size", none), "check_size", "check_size", defArgs (top 29), defBody (top 29), defScope (top 29), [], []⟩
def x16 : Dd := ⟨dd16, ["size"], ["size"], r16, .fn 469440048988838896958053⟩
def dd17 : He.DefD := ⟨("is_sizes", none), "is_sizes", "is_sizes", defArgs (top 46), defBody (top 46), defScope (top 46), [], []⟩
def x17 : Dd := ⟨dd17, ["thing", "axes", "size"], ["thing", "axes"], r17, .fn 7598521945599665523⟩
def dd18 : He.DefD := ⟨("check_sizes", none), "check_sizes", "check_sizes", defArgs (top 47), defBody (top 47), defScope (top 47), [], []⟩
def x18 : Dd := ⟨dd18, ["net", "sizes"], ["net", "sizes"], r18, .fn 120176652541142757621261683⟩
def dd19 : He.DefD := ⟨("box_way", none), "box_way", "box_way", defArgs (top 51), defBody (top 51), defScope (top 51), [], []⟩
def x19 : Dd := ⟨dd19, ["net", "sizes", "hall", "box", "best", "names"], ["net", "sizes"], r19, .fn 27707110506062201⟩
def dd20 : He.DefD := ⟨("is_box_way", none), "is_box_way", "is_box_way", defArgs (top 52), defBody (top 52), defScope (top 52), [], []⟩
def x20 : Dd := ⟨dd20, ["net", "sizes", "thing", "here", "name", "room", "place", "row"], ["net", "sizes", "thing"], r20, .fn 497976729448333455090041⟩
def dd21 : He.DefD := ⟨("longest_way", none), "longest_way", "longest_way", defArgs (top 53), defBody (top 53), defScope (top 53), [], []⟩
def x21 : Dd := ⟨dd21, ["net", "sizes"], ["net", "sizes"], r21, .fn 131090207790314691747078521⟩
def dd22 : He.DefD := ⟨("boxed", none), "boxed", "boxed", defArgs (top 54), defBody (top 54), defScope (top 54), [], []⟩
def x22 : Dd := ⟨dd22, ["net", "axis", "size", "rooms", "rows", "name", "start", "end", "step", "one", "room", "there", "left"], ["net", "axis", "size"], r22, .fn 422776956260⟩
def dd23 : He.DefD := ⟨("cuts", none), "cuts", "cuts", defArgs (top 57), defBody (top 57), defScope (top 57), [], []⟩
def x23 : Dd := ⟨dd23, ["net", "names", "found", "some", "at", "name", "is_more", "less"], ["net", "names"], r23, .fn 1668641907⟩
def dd24 : He.DefD := ⟨("_law_n_words", none), "_law_n_words", "_law_n_words", defArgs (top 59), defBody (top 59), defScope (top 59), [], []⟩
def x24 : Dd := ⟨dd24, ["_law_stream", "_law_many", "_law_found", "_law_k", "_law_word", "_law_spare", "_law_sign", "_law_letter", "_law_x"], ["_law_stream", "_law_many"], r24, .fn 29532100193134083254361678963⟩
def dd25 : He.DefD := ⟨("_law_n_plan", none), "_law_n_plan", "_law_n_plan", defArgs (top 60), defBody (top 60), defScope (top 60), [], []⟩
def x25 : Dd := ⟨dd25, ["_law_stream", "_law_axes", "_law_halls", "_law_many", "_law_wide", "_law_names", "_law_count", "_law_ties", "_law_k", "_law_name", "_law_step", "_law_start_here", "_law_end", "_law_axis"], ["_law_stream", "_law_axes", "_law_halls", "_law_many", "_law_wide"], r25, .fn 115359766379430012594708846⟩
def dd26 : He.DefD := ⟨("_law_n_made", none), "_law_n_made", "_law_n_made", defArgs (top 61), defBody (top 61), defScope (top 61), [], []⟩
def x26 : Dd := ⟨dd26, ["_law_plan"], ["_law_plan"], r26, .fn 115359766379430012543657061⟩
def dd27 : He.DefD := ⟨("_law_start", none), "_law_start", "_law_start", defArgs (top 62), defBody (top 62), defScope (top 62), [], []⟩
def x27 : Dd := ⟨dd27, ["_law_script"], ["_law_script"], r27, .fn 450624087419670312874612⟩
def dd28 : He.DefD := ⟨("_law_draw", none), "_law_draw", "_law_draw", defArgs (top 63), defBody (top 63), defScope (top 63), [], []⟩
def x28 : Dd := ⟨dd28, ["_law_stream", "_law_many", "_law_mixed", "_law_cell", "_law_digit"], ["_law_stream", "_law_many"], r28, .fn 1760250341482835370359⟩
def dd29 : He.DefD := ⟨("_law_pick", none), "_law_pick", "_law_pick", defArgs (top 64), defBody (top 64), defScope (top 64), [], []⟩
def x29 : Dd := ⟨dd29, ["_law_stream", "_law_some"], ["_law_stream", "_law_some"], r29, .fn 1760250341483036107627⟩
def dd30 : He.DefD := ⟨("_law_same", none), "_law_same", "_law_same", defArgs (top 65), defBody (top 65), defScope (top 65), [], []⟩
def x30 : Dd := ⟨dd30, ["_law_found", "_law_due", "_law_x", "_law_y"], ["_law_found", "_law_due"], r30, .fn 1760250341483085917541⟩
def dd31 : He.DefD := ⟨("_law_frozen", none), "_law_frozen", "_law_frozen", defArgs (top 66), defBody (top 66), defScope (top 66), [], []⟩
def x31 : Dd := ⟨dd31, ["_law_thing", "_law_key", "_law_part"], ["_law_thing"], r31, .fn 115359766379421298090206574⟩
def dd32 : He.DefD := ⟨("law", none), "law", "law", defArgs (top 68), defBody (top 68), defScope (top 68), [], []⟩
def x32 : Dd := ⟨dd32, ["_law_script", "_law_stream", "_law_turn", "_law_found", "_law_axes", "_law_plan", "_law_fine", "_law_some", "_law_odd", "_law_made", "_law_names", "_law_at", "_law_handed", "_law_row"], ["_law_script"], r32, .fn 7102839⟩
def xd0 : He.DefD := ⟨("BadAxes", some "__init__"), "__init__", "BadAxes.__init__", defArgs (inC 11 0), defBody (inC 11 0), defScope (inC 11 0), [], []⟩
def xk0 : Xk := ⟨18684431685936499, 1635280243, xd0, ["self", "axes"]⟩
def xd1 : He.DefD := ⟨("BadRooms", some "__init__"), "__init__", "BadRooms.__init__", defArgs (inC 12 0), defBody (inC 12 0), defScope (inC 12 0), [], []⟩
def xk1 : Xk := ⟨4783214584463846771, 512970876019, xd1, ["self", "words"]⟩
def xd2 : He.DefD := ⟨("BadTie", some "__init__"), "__init__", "BadTie.__init__", defArgs (inC 13 0), defBody (inC 13 0), defScope (inC 13 0), [], []⟩
def xk2 : Xk := ⟨72986062514533, 452823639416, xd2, ["self", "index"]⟩
def xd3 : He.DefD := ⟨("NoTie", some "__init__"), "__init__", "NoTie.__init__", defArgs (inC 14 0), defBody (inC 14 0), defScope (inC 14 0), [], []⟩
def xk3 : Xk := ⟨336875252069, 1851878757, xd3, ["self", "name"]⟩
def xd4 : He.DefD := ⟨("TieTaken", some "__init__"), "__init__", "TieTaken.__init__", defArgs (inC 15 0), defBody (inC 15 0), defScope (inC 15 0), [], []⟩
def xk4 : Xk := ⟨6082504184826652014, 1851878757, xd4, ["self", "name"]⟩
def xd5 : He.DefD := ⟨("BadNumber", some "__init__"), "__init__", "BadNumber.__init__", defArgs (inC 17 0), defBody (inC 17 0), defScope (inC 17 0), [], []⟩
def xk5 : Xk := ⟨1224502929250433787250, 121450625394034, xd5, ["self", "number"]⟩
def xd6 : He.DefD := ⟨("NoAxis", some "__init__"), "__init__", "NoAxis.__init__", defArgs (inC 18 0), defBody (inC 18 0), defScope (inC 18 0), [], []⟩
def xk6 : Xk := ⟨86239746746739, 1635281267, xd6, ["self", "axis"]⟩
def xd7 : He.DefD := ⟨("BadSizes", some "__init__"), "__init__", "BadSizes.__init__", defArgs (inC 19 0), defBody (inC 19 0), defScope (inC 19 0), [], []⟩
def xk7 : Xk := ⟨4783214588658869619, 495690868083, xd7, ["self", "sizes"]⟩
def dt_law_tried : He.DefD := ⟨("_law_tried", none), "_law_tried", "_law_tried", defArgs (top 67), defBody (top 67), defScope (top 67), [], []⟩
def tk_law_tried : Tk := ⟨450624087419674574808420, td_law_tried, dt_law_tried, ["_law_ask", "_law_found", "e"], "_law_ask", "_law_found", "e", 1, 2⟩
def M : Mo := { cl := [⟨"Net", [1635280243, 540405396817959671653747, 8388347241570465651]⟩], ds := [x0, x1, x2, x3, x4, x5, x6, x7, x8, x9, x10, x11, x12, x13, x14, x15, x16, x17, x18, x19, x20, x21, x22, x23, x24, x25, x26, x27, x28, x29, x30, x31, x32], gl := [(1426115298795793696083, .int 4), (1426115298796094708293, .int 40), (5137780, .cls 0), (357711695443, .str [97, 98, 99, 100, 101, 102, 103, 104, 105, 106, 107, 108, 109, 110, 111, 112, 113, 114, 115, 116, 117, 118, 119, 120, 121, 122, 48, 49, 50, 51, 52, 53, 54, 55, 56, 57, 46]), (1651470188, .ty 1), (1684628340, .ty 5), (6909556, .ty 0), (1818850164, .ty 3), (7566450, .ty 2), (500186508389, .ty 4)], sp := spcs, xk := [xk0, xk1, xk2, xk3, xk4, xk5, xk6, xk7], tk := [tk_law_tried], lm := [32], file := PySem.Challenge.pw_repeatnets_k41_boxes_refused.main.file }
theorem M_run (fuel n f : Nat) : M.run fuel n f = run fuel n f := by
  have e1 : M.isF = isF := by
    funext c f
    unfold Mo.isF isF M flds
    match c with
    | 0 => rfl
    | _ + 1 => rfl
  have e3 : M.glo = glo := by
    funext x
    unfold Mo.glo glo M glos
    simp only [List.lookup]
    repeat (first | rfl | split)
  have e4 : M.tab = fun f => dr[f]? := by
    funext f
    unfold Mo.tab
    rw [← List.getElem?_map]
    rfl
  unfold Mo.run run
  rw [e1, e3, e4]
  rfl
set_option maxHeartbeats 0 in
theorem ok0 : DfOk M.E dd0 ["thing"] ["thing"] r0 false := ⟨⟨rfl, rfl, rfl, by decide +kernel, rfl, by decide +kernel, by decide +kernel⟩, rfl, rfl, fun _ _ _ _ _ _ us hl => match us, hl with | [_], _ => rfl, rfl, by kernel_rfl⟩
set_option maxHeartbeats 0 in
theorem ok1 : DfOk M.E dd1 ["thing"] ["thing"] r1 false := ⟨⟨rfl, rfl, rfl, by decide +kernel, rfl, by decide +kernel, by decide +kernel⟩, rfl, rfl, fun _ _ _ _ _ _ us hl => match us, hl with | [_], _ => rfl, rfl, by kernel_rfl⟩
set_option maxHeartbeats 0 in
theorem ok2 : DfOk M.E dd2 ["thing", "sign"] ["thing"] r2 false := ⟨⟨rfl, rfl, rfl, by decide +kernel, rfl, by decide +kernel, by decide +kernel⟩, rfl, rfl, fun _ _ _ _ _ _ us hl => match us, hl with | [_], _ => rfl, rfl, by kernel_rfl⟩
set_option maxHeartbeats 0 in
theorem ok3 : DfOk M.E dd3 ["thing", "size", "one"] ["thing", "size"] r3 false := ⟨⟨rfl, rfl, rfl, by decide +kernel, rfl, by decide +kernel, by decide +kernel⟩, rfl, rfl, fun _ _ _ _ _ _ us hl => match us, hl with | [_, _], _ => rfl, rfl, by kernel_rfl⟩
set_option maxHeartbeats 0 in
theorem ok4 : DfOk M.E dd4 ["rooms", "room"] ["rooms"] r4 false := ⟨⟨rfl, rfl, rfl, by decide +kernel, rfl, by decide +kernel, by decide +kernel⟩, rfl, rfl, fun _ _ _ _ _ _ us hl => match us, hl with | [_], _ => rfl, rfl, by kernel_rfl⟩
set_option maxHeartbeats 0 in
theorem ok5 : DfOk M.E dd5 ["thing", "axes", "known_rooms", "taken", "room"] ["thing", "axes", "known_rooms", "taken"] r5 false := ⟨⟨rfl, rfl, rfl, by decide +kernel, rfl, by decide +kernel, by decide +kernel⟩, rfl, rfl, fun _ _ _ _ _ _ us hl => match us, hl with | [_, _, _, _], _ => rfl, rfl, by kernel_rfl⟩
set_option maxHeartbeats 0 in
theorem ok6 : DfOk M.E dd6 ["axes", "known_rooms", "ties", "ahead", "found", "index", "thing", "row"] ["axes", "known_rooms", "ties", "ahead"] r6 false := ⟨⟨rfl, rfl, rfl, by decide +kernel, rfl, by decide +kernel, by decide +kernel⟩, rfl, rfl, fun _ _ _ _ _ _ us hl => match us, hl with | [_, _, _, _], _ => rfl, rfl, by kernel_rfl⟩
set_option maxHeartbeats 0 in
theorem ok7 : DfOk M.E dd7 ["self", "axes", "rooms", "ties"] ["self", "axes", "rooms", "ties"] r7 false := ⟨⟨rfl, rfl, rfl, by decide +kernel, rfl, by decide +kernel, by decide +kernel⟩, rfl, rfl, fun _ _ _ _ _ _ us hl => match us, hl with | [_, _, _, _], _ => rfl, rfl, by kernel_rfl⟩
set_option maxHeartbeats 0 in
theorem ok8 : DfOk M.E dd8 ["self"] ["self"] r8 false := ⟨⟨rfl, rfl, rfl, by decide +kernel, rfl, by decide +kernel, by decide +kernel⟩, rfl, rfl, fun _ _ _ _ _ _ us hl => match us, hl with | [_], _ => rfl, rfl, by kernel_rfl⟩
set_option maxHeartbeats 0 in
theorem ok9 : DfOk M.E dd9 ["self"] ["self"] r9 false := ⟨⟨rfl, rfl, rfl, by decide +kernel, rfl, by decide +kernel, by decide +kernel⟩, rfl, rfl, fun _ _ _ _ _ _ us hl => match us, hl with | [_], _ => rfl, rfl, by kernel_rfl⟩
set_option maxHeartbeats 0 in
theorem ok10 : DfOk M.E dd10 ["self"] ["self"] r10 false := ⟨⟨rfl, rfl, rfl, by decide +kernel, rfl, by decide +kernel, by decide +kernel⟩, rfl, rfl, fun _ _ _ _ _ _ us hl => match us, hl with | [_], _ => rfl, rfl, by kernel_rfl⟩
set_option maxHeartbeats 0 in
theorem ok11 : DfOk M.E dd11 ["self", "thing", "row"] ["self", "thing"] r11 false := ⟨⟨rfl, rfl, rfl, by decide +kernel, rfl, by decide +kernel, by decide +kernel⟩, rfl, rfl, fun _ _ _ _ _ _ us hl => match us, hl with | [_, _], _ => rfl, rfl, by kernel_rfl⟩
set_option maxHeartbeats 0 in
theorem ok12 : DfOk M.E dd12 ["self", "other"] ["self", "other"] r12 false := ⟨⟨rfl, rfl, rfl, by decide +kernel, rfl, by decide +kernel, by decide +kernel⟩, rfl, rfl, fun _ _ _ _ _ _ us hl => match us, hl with | [_, _], _ => rfl, rfl, by kernel_rfl⟩
set_option maxHeartbeats 0 in
theorem ok13 : DfOk M.E dd13 ["self", "other", "row", "further", "room"] ["self", "other"] r13 false := ⟨⟨rfl, rfl, rfl, by decide +kernel, rfl, by decide +kernel, by decide +kernel⟩, rfl, rfl, fun _ _ _ _ _ _ us hl => match us, hl with | [_, _], _ => rfl, rfl, by kernel_rfl⟩
set_option maxHeartbeats 0 in
theorem ok14 : DfOk M.E dd14 ["self", "rows", "name", "start", "end", "step", "one"] ["self"] r14 false := ⟨⟨rfl, rfl, rfl, by decide +kernel, rfl, by decide +kernel, by decide +kernel⟩, rfl, rfl, fun _ _ _ _ _ _ us hl => match us, hl with | [_], _ => rfl, rfl, by kernel_rfl⟩
set_option maxHeartbeats 0 in
theorem ok15 : DfOk M.E dd15 ["net", "axis"] ["net", "axis"] r15 false := ⟨⟨rfl, rfl, rfl, by decide +kernel, rfl, by decide +kernel, by decide +kernel⟩, rfl, rfl, fun _ _ _ _ _ _ us hl => match us, hl with | [_, _], _ => rfl, rfl, by kernel_rfl⟩
set_option maxHeartbeats 0 in
theorem ok16 : DfOk M.E dd16 ["size"] ["size"] r16 false := ⟨⟨rfl, rfl, rfl, by decide +kernel, rfl, by decide +kernel, by decide +kernel⟩, rfl, rfl, fun _ _ _ _ _ _ us hl => match us, hl with | [_], _ => rfl, rfl, by kernel_rfl⟩
set_option maxHeartbeats 0 in
theorem ok17 : DfOk M.E dd17 ["thing", "axes", "size"] ["thing", "axes"] r17 false := ⟨⟨rfl, rfl, rfl, by decide +kernel, rfl, by decide +kernel, by decide +kernel⟩, rfl, rfl, fun _ _ _ _ _ _ us hl => match us, hl with | [_, _], _ => rfl, rfl, by kernel_rfl⟩
set_option maxHeartbeats 0 in
theorem ok18 : DfOk M.E dd18 ["net", "sizes"] ["net", "sizes"] r18 false := ⟨⟨rfl, rfl, rfl, by decide +kernel, rfl, by decide +kernel, by decide +kernel⟩, rfl, rfl, fun _ _ _ _ _ _ us hl => match us, hl with | [_, _], _ => rfl, rfl, by kernel_rfl⟩
set_option maxHeartbeats 0 in
theorem ok19 : DfOk M.E dd19 ["net", "sizes", "hall", "box", "best", "names"] ["net", "sizes"] r19 false := ⟨⟨rfl, rfl, rfl, by decide +kernel, rfl, by decide +kernel, by decide +kernel⟩, rfl, rfl, fun _ _ _ _ _ _ us hl => match us, hl with | [_, _], _ => rfl, rfl, by kernel_rfl⟩
set_option maxHeartbeats 0 in
theorem ok20 : DfOk M.E dd20 ["net", "sizes", "thing", "here", "name", "room", "place", "row"] ["net", "sizes", "thing"] r20 false := ⟨⟨rfl, rfl, rfl, by decide +kernel, rfl, by decide +kernel, by decide +kernel⟩, rfl, rfl, fun _ _ _ _ _ _ us hl => match us, hl with | [_, _, _], _ => rfl, rfl, by kernel_rfl⟩
set_option maxHeartbeats 0 in
theorem ok21 : DfOk M.E dd21 ["net", "sizes"] ["net", "sizes"] r21 false := ⟨⟨rfl, rfl, rfl, by decide +kernel, rfl, by decide +kernel, by decide +kernel⟩, rfl, rfl, fun _ _ _ _ _ _ us hl => match us, hl with | [_, _], _ => rfl, rfl, by kernel_rfl⟩
set_option maxHeartbeats 0 in
theorem ok22 : DfOk M.E dd22 ["net", "axis", "size", "rooms", "rows", "name", "start", "end", "step", "one", "room", "there", "left"] ["net", "axis", "size"] r22 false := ⟨⟨rfl, rfl, rfl, by decide +kernel, rfl, by decide +kernel, by decide +kernel⟩, rfl, rfl, fun _ _ _ _ _ _ us hl => match us, hl with | [_, _, _], _ => rfl, rfl, by kernel_rfl⟩
set_option maxHeartbeats 0 in
theorem ok23 : DfOk M.E dd23 ["net", "names", "found", "some", "at", "name", "is_more", "less"] ["net", "names"] r23 false := ⟨⟨rfl, rfl, rfl, by decide +kernel, rfl, by decide +kernel, by decide +kernel⟩, rfl, rfl, fun _ _ _ _ _ _ us hl => match us, hl with | [_, _], _ => rfl, rfl, by kernel_rfl⟩
set_option maxHeartbeats 0 in
theorem ok24 : DfOk M.E dd24 ["_law_stream", "_law_many", "_law_found", "_law_k", "_law_word", "_law_spare", "_law_sign", "_law_letter", "_law_x"] ["_law_stream", "_law_many"] r24 false := ⟨⟨rfl, rfl, rfl, by decide +kernel, rfl, by decide +kernel, by decide +kernel⟩, rfl, rfl, fun _ _ _ _ _ _ us hl => match us, hl with | [_, _], _ => rfl, rfl, by kernel_rfl⟩
set_option maxHeartbeats 0 in
theorem ok25 : DfOk M.E dd25 ["_law_stream", "_law_axes", "_law_halls", "_law_many", "_law_wide", "_law_names", "_law_count", "_law_ties", "_law_k", "_law_name", "_law_step", "_law_start_here", "_law_end", "_law_axis"] ["_law_stream", "_law_axes", "_law_halls", "_law_many", "_law_wide"] r25 false := ⟨⟨rfl, rfl, rfl, by decide +kernel, rfl, by decide +kernel, by decide +kernel⟩, rfl, rfl, fun _ _ _ _ _ _ us hl => match us, hl with | [_, _, _, _, _], _ => rfl, rfl, by kernel_rfl⟩
set_option maxHeartbeats 0 in
theorem ok26 : DfOk M.E dd26 ["_law_plan"] ["_law_plan"] r26 false := ⟨⟨rfl, rfl, rfl, by decide +kernel, rfl, by decide +kernel, by decide +kernel⟩, rfl, rfl, fun _ _ _ _ _ _ us hl => match us, hl with | [_], _ => rfl, rfl, by kernel_rfl⟩
set_option maxHeartbeats 0 in
theorem ok27 : DfOk M.E dd27 ["_law_script"] ["_law_script"] r27 false := ⟨⟨rfl, rfl, rfl, by decide +kernel, rfl, by decide +kernel, by decide +kernel⟩, rfl, rfl, fun _ _ _ _ _ _ us hl => match us, hl with | [_], _ => rfl, rfl, by kernel_rfl⟩
set_option maxHeartbeats 0 in
theorem ok28 : DfOk M.E dd28 ["_law_stream", "_law_many", "_law_mixed", "_law_cell", "_law_digit"] ["_law_stream", "_law_many"] r28 false := ⟨⟨rfl, rfl, rfl, by decide +kernel, rfl, by decide +kernel, by decide +kernel⟩, rfl, rfl, fun _ _ _ _ _ _ us hl => match us, hl with | [_, _], _ => rfl, rfl, by kernel_rfl⟩
set_option maxHeartbeats 0 in
theorem ok29 : DfOk M.E dd29 ["_law_stream", "_law_some"] ["_law_stream", "_law_some"] r29 false := ⟨⟨rfl, rfl, rfl, by decide +kernel, rfl, by decide +kernel, by decide +kernel⟩, rfl, rfl, fun _ _ _ _ _ _ us hl => match us, hl with | [_, _], _ => rfl, rfl, by kernel_rfl⟩
set_option maxHeartbeats 0 in
theorem ok30 : DfOk M.E dd30 ["_law_found", "_law_due", "_law_x", "_law_y"] ["_law_found", "_law_due"] r30 false := ⟨⟨rfl, rfl, rfl, by decide +kernel, rfl, by decide +kernel, by decide +kernel⟩, rfl, rfl, fun _ _ _ _ _ _ us hl => match us, hl with | [_, _], _ => rfl, rfl, by kernel_rfl⟩
set_option maxHeartbeats 0 in
theorem ok31 : DfOk M.E dd31 ["_law_thing", "_law_key", "_law_part"] ["_law_thing"] r31 false := ⟨⟨rfl, rfl, rfl, by decide +kernel, rfl, by decide +kernel, by decide +kernel⟩, rfl, rfl, fun _ _ _ _ _ _ us hl => match us, hl with | [_], _ => rfl, rfl, by kernel_rfl⟩
set_option maxHeartbeats 0 in
theorem ok32 : DfOk M.E dd32 ["_law_script", "_law_stream", "_law_turn", "_law_found", "_law_axes", "_law_plan", "_law_fine", "_law_some", "_law_odd", "_law_made", "_law_names", "_law_at", "_law_handed", "_law_row"] ["_law_script"] r32 true := ⟨⟨rfl, rfl, rfl, by decide +kernel, rfl, by decide +kernel, by decide +kernel⟩, rfl, rfl, fun _ _ _ _ _ _ us hl => match us, hl with | [_], _ => rfl, rfl, by kernel_rfl⟩
theorem oks : DfsOk M.E M.lams 0 M.ds := ⟨ok0, ok1, ok2, ok3, ok4, ok5, ok6, ok7, ok8, ok9, ok10, ok11, ok12, ok13, ok14, ok15, ok16, ok17, ok18, ok19, ok20, ok21, ok22, ok23, ok24, ok25, ok26, ok27, ok28, ok29, ok30, ok31, ok32, True.intro⟩
def loose : List Str := (["_wall", "SIGNS", "is_integer", "is_list", "is_name", "is_vector", "summed", "divisor", "NetError", "BadAxes", "BadRooms", "BadTie", "NoTie", "TieTaken", "UnlikeAxes", "BadNumber", "NoAxis", "BadSizes", "MOST_AXES", "check_rooms", "is_tie", "checked_ties", "Net", "MOST_SIZE", "check_axis", "check_size", "come_to", "groups_of", "ties_within", "parts_within"] : List Str) ++ (["ring_with", "Sheet", "solved", "counted", "Fall", "found_round", "round_of", "closes", "is_sizes", "check_sizes", "places_of", "is_inside", "Box", "box_way", "is_box_way", "longest_way", "boxed", "ascending_sets", "cuts", "_law_n_words", "_law_n_plan", "_law_n_made", "_law_start", "_law_draw", "_law_pick", "_law_same", "_law_frozen", "_law_tried"] : List Str)
abbrev Rw : PySem.W.OpenRow := PySem.W.OpenLaw.row PySem.Challenge.rw_repeatnets_k41_boxes_refused
theorem xok0 : IniT xk0.d (nmS xk0.fl) xk0.ps := iniTB_ok (by kernel_rfl) (fun _ _ _ _ _ _ _ us hl => match us, hl with | [_, _], _ => rfl)
theorem xok1 : IniT xk1.d (nmS xk1.fl) xk1.ps := iniTB_ok (by kernel_rfl) (fun _ _ _ _ _ _ _ us hl => match us, hl with | [_, _], _ => rfl)
theorem xok2 : IniT xk2.d (nmS xk2.fl) xk2.ps := iniTB_ok (by kernel_rfl) (fun _ _ _ _ _ _ _ us hl => match us, hl with | [_, _], _ => rfl)
theorem xok3 : IniT xk3.d (nmS xk3.fl) xk3.ps := iniTB_ok (by kernel_rfl) (fun _ _ _ _ _ _ _ us hl => match us, hl with | [_, _], _ => rfl)
theorem xok4 : IniT xk4.d (nmS xk4.fl) xk4.ps := iniTB_ok (by kernel_rfl) (fun _ _ _ _ _ _ _ us hl => match us, hl with | [_, _], _ => rfl)
theorem xok5 : IniT xk5.d (nmS xk5.fl) xk5.ps := iniTB_ok (by kernel_rfl) (fun _ _ _ _ _ _ _ us hl => match us, hl with | [_, _], _ => rfl)
theorem xok6 : IniT xk6.d (nmS xk6.fl) xk6.ps := iniTB_ok (by kernel_rfl) (fun _ _ _ _ _ _ _ us hl => match us, hl with | [_, _], _ => rfl)
theorem xok7 : IniT xk7.d (nmS xk7.fl) xk7.ps := iniTB_ok (by kernel_rfl) (fun _ _ _ _ _ _ _ us hl => match us, hl with | [_, _], _ => rfl)
theorem tok_law_tried : TkOk M.xs tk_law_tried := ⟨by kernel_rfl, ⟨rfl, rfl, rfl, by decide +kernel, rfl, by decide +kernel, by decide +kernel⟩, fun _ _ _ _ _ _ us hl => match us, hl with | [_], _ => rfl, rfl⟩
theorem okM : M.Ok (PySem.Challenge.rw_repeatnets_k41_boxes_refused).prog := ⟨oks, (List.forall_mem_cons.mpr ⟨xok0, (List.forall_mem_cons.mpr ⟨xok1, (List.forall_mem_cons.mpr ⟨xok2, (List.forall_mem_cons.mpr ⟨xok3, (List.forall_mem_cons.mpr ⟨xok4, (List.forall_mem_cons.mpr ⟨xok5, (List.forall_mem_cons.mpr ⟨xok6, (List.forall_mem_cons.mpr ⟨xok7, (fun _ h => (by cases h))⟩)⟩)⟩)⟩)⟩)⟩)⟩)⟩), (List.forall_mem_cons.mpr ⟨tok_law_tried, (fun _ h => (by cases h))⟩), rfl, by kernel_rfl⟩
abbrev hk : PySem.W.Hook := hookV 4 M
def ob (s : PySem.W.SharedT) : Ob × Bool := obsVG 4 M (HandSHeadRun.getT s)
theorem ob_eq (s : PySem.W.SharedT) : ob s = hk.obs s.abs := obsVG_eq (HandSHeadRun.getT_eq s)
theorem ran (w : World) : HandSHeadRun.RunEq Rw (PySem.W.view Rw.prog [68]) hk ob 20000 loose w := by
  intro os
  kernel_rfl
end HV.k41
open PySem PySem.W PySem.Calls PyProof.Rows
theorem HV.k41.holds (hφ : ∀ ns : List Int, ns.length ≤ 63 → ∃ h, HV.k41.run 2000 30 32 [.fz (.scr ns)] [] = .ok (.fz (.bl true)) h) : PySem.Challenge.rw_repeatnets_k41_boxes_refused.Holds := by
  w_on; o_law
  refine HandSHeadRun.head_any (r := OpenLaw.row PySem.Challenge.rw_repeatnets_k41_boxes_refused) (q := view (OpenLaw.row PySem.Challenge.rw_repeatnets_k41_boxes_refused).prog [68]) (H := HV.k41.hk) (ob := HV.k41.ob) (M := 20000) (loose := HV.k41.loose) (d := HandSHeadRun.topDef (OpenLaw.row PySem.Challenge.rw_repeatnets_k41_boxes_refused).prog 68) (kwd := []) HV.k41.ob_eq
    (by kernel_rfl) (fun s => by kernel_rfl) HV.k41.ran (by kernel_rfl) (by kernel_rfl) (by kernel_rfl) (by rfl) (by first | assumption | decide +kernel) (by decide +kernel) ⟨rfl, rfl, rfl, rfl, rfl, by decide +kernel⟩ ?hw ?hc
  case hw => w_witness2
  case hc =>
    exact HV.Mo.walk (l := PySem.Challenge.rw_repeatnets_k41_boxes_refused) (m := 30) (fuel := 2000) (f := 32) (M := HV.k41.M) (e := HV.k41.x32) (x := "_law_script") (lw := 7102839) rfl (by kernel_rfl) ⟨rfl, by decide, by decide⟩ (fun w h Y => Y) (by kernel_rfl) HV.k41.okM rfl rfl rfl (by decide +kernel) (HV.k41.M_run 2000 30 32) hφ

end

section
/-! W0: what the laws share: evaluation by rewriting, the stream of draws, loops. Core Lean. -/
namespace HV
/-! ### rewriting -/
@[simp] theorem rb_ok {α β : Type} (a : α) (h : Hm) (f : α → Hm → R β) : (R.ok a h).bind f = f a h := rfl
@[simp] theorem rs_ok {α : Type} (a : α) (h : Hm) (f : α → Hm → SO) : (R.ok a h).bindS f = f a h := rfl
@[simp] theorem sb_nx (e : Env) (h : Hm) (f : Env → Hm → SO) : (SO.nx e h).bind f = f e h := rfl
@[simp] theorem sb_rt (v : Vl) (h : Hm) (f : Env → Hm → SO) : (SO.rt v h).bind f = .rt v h := rfl
@[simp] theorem sb_bk (e : Env) (h : Hm) (f : Env → Hm → SO) : (SO.bk e h).bind f = .bk e h := rfl
@[simp] theorem sb_ct (e : Env) (h : Hm) (f : Env → Hm → SO) : (SO.ct e h).bind f = .ct e h := rfl
@[simp] theorem sure_ok {α : Type} (a : α) (h : Hm) : (R.ok a h).sure = .ok a h := rfl
@[simp] theorem frz_fz (d : PV) (h : Hm) : frz (.fz d) h = .ok d h := rfl
@[simp] theorem vw_fz (d : PV) (h : Hm) : vw h (.fz d) = some d := rfl
@[simp] theorem liftF_some (d : PV) (h : Hm) : liftF (some d) h = .ok (.fz d) h := rfl
@[simp] theorem lift_some {α : Type} (d : α) (h : Hm) : lift (some d) h = .ok d h := rfl
@[simp] theorem blO_some (b : Bool) : blO (some b) = some (.bl b) := rfl
theorem opA_fz (g : PV → PV → Option PV) (a b : PV) (h : Hm) : opA g (.fz a) (.fz b) h = liftF (g a b) h := rfl
theorem opA1_fz (g : PV → Option PV) (a : PV) (h : Hm) : opA1 g (.fz a) h = liftF (g a) h := rfl
theorem opG_fz (g : PV → PV → Option PV) (a b : PV) (h : Hm) : opG g (.fz a) (.fz b) h = liftF (g a b) h := rfl
@[simp] theorem blR_bl (b : Bool) (h : Hm) : blR (.fz (.bl b)) h = .ok b h := rfl
@[simp] theorem truR_fz (d : PV) (h : Hm) : truR (.fz d) h = lift (truthV d) h := rfl
theorem cmpG_fz (spc : Nat → Nat → Option Nat) (φ : Nat → List Vl → Hm → R Vl) (k : Nat) (a b : PV) (h : Hm) (ha : ∀ c fs, a ≠ .obj c fs) (hb : ∀ c fs, b ≠ .obj c fs) : cmpG spc φ k (.fz a) (.fz b) h = liftF (cmpV k a b) h := by
  have e1 : clsOfV h (.fz a) = none := by cases a <;> first | rfl | exact absurd rfl (ha _ _)
  have e2 : clsOfV h (.fz b) = none := by cases b <;> first | rfl | exact absurd rfl (hb _ _)
  unfold cmpG
  rw [e1, e2]
  split
  · rfl
  · split <;> rfl
theorem cmpG_ii (spc : Nat → Nat → Option Nat) (φ : Nat → List Vl → Hm → R Vl) (k : Nat) (i j : Int) (h : Hm) : cmpG spc φ k (.fz (.int i)) (.fz (.int j)) h = liftF (cmpV k (.int i) (.int j)) h := cmpG_fz _ _ _ _ _ _ (fun _ _ z => by cases z) (fun _ _ z => by cases z)
/-! ### numbers -/
theorem lg_le {i : Int} (h : i.natAbs < 2 ^ 100) : i.natAbs.log2 < 100 := by
  by_cases z : i.natAbs = 0
  · rw [z]; decide
  · exact (Nat.log2_lt z).mpr h
theorem mul_small {i j : Int} (h1 : i.natAbs < 2 ^ 100) (h2 : j.natAbs < 2 ^ 100) : mulV (.int i) (.int j) = some (.int (i * j)) := by
  have a := lg_le h1
  have b := lg_le h2
  simp only [mulV]
  rw [if_pos (by omega)]
theorem pow_small {i : Int} {n : Nat} (hn : n ≤ 1000000) (h1 : i.natAbs < 18446744073709551616) : powV (.int i) (.int (n : Int)) = some (.int (i ^ n)) := by
  simp only [powV]
  rw [if_pos ⟨by omega, by omega, h1⟩]
  simp
/-! ### the stream -/
structure Sm where
  cs : List Int
  a : Int
  b : Int
  c : Int
def ivls (cs : List Int) : List Vl := cs.map fun i => .fz (.int i)
def hp (S : Sm) (E : Hm) : Hm := some (.lst (ivls S.cs)) :: some (.lst [.rf 0, .fz (.int S.a), .fz (.int S.b), .fz (.int S.c)]) :: E
/-- a stream that so many draws at most were taken from -/
structure Sm.Ok (S : Sm) (B : Int) : Prop where
  a0 : 0 ≤ S.a
  b0 : 0 ≤ S.b
  b1 : S.b ≤ B
  c0 : 0 ≤ S.c
  c1 : S.c < 2147483647
theorem Sm.Ok.mono {S : Sm} {B C : Int} (h : S.Ok B) (k : B ≤ C) : S.Ok C := ⟨h.a0, h.b0, by have := h.b1; omega, h.c0, h.c1⟩
def drawB : Sts := (.cons (.setI (.var 0) (.cst (.int 2)) (.bin 0 (.idx (.var 0) (.cst (.int 2))) (.cst (.int 1)))) (.cons (.ite (.and (.cmp 0 (.idx (.var 0) (.cst (.int 1))) (.cst (.int 0))) (.cmp 1 (.idx (.var 0) (.cst (.int 0))) (.lst .nil))) (.cons (.set 3 (.popAt (.idx (.var 0) (.cst (.int 0))) (.cst (.int 0)))) (.cons (.setI (.var 0) (.cst (.int 3)) (.bin 4 (.b1 0 (.bin 0 (.bin 0 (.bin 2 (.idx (.var 0) (.cst (.int 3))) (.cst (.int 8191))) (.var 3)) (.cst (.int 3)))) (.cst (.int 2147483647)))) (.cons (.setI (.var 0) (.cst (.int 1)) (.ite (.cmp 5 (.var 3) (.bin 5 (.cst (.int 10)) (.cst (.int 18)))) (.var 3) (.cst (.int 0)))) .nil))) .nil) (.cons (.ite (.cmp 4 (.idx (.var 0) (.cst (.int 1))) (.cst (.int 0))) (.cons (.set 4 (.bin 4 (.b1 0 (.idx (.var 0) (.cst (.int 1)))) (.var 1))) (.cons (.setI (.var 0) (.cst (.int 1)) (.bin 3 (.idx (.var 0) (.cst (.int 1))) (.var 1))) (.cons (.ret (.var 4)) .nil))) .nil) (.cons (.set 2 (.bin 4 (.b1 0 (.bin 5 (.bin 0 (.bin 0 (.idx (.var 0) (.cst (.int 3))) (.bin 2 (.cst (.int 7919)) (.idx (.var 0) (.cst (.int 2))))) (.cst (.int 104729))) (.cst (.int 5)))) (.cst (.int 2147483629)))) (.cons (.ret (.bin 4 (.bin 4 (.b1 0 (.bin 5 (.bin 0 (.bin 0 (.bin 2 (.var 2) (.cst (.int 48271))) (.bin 2 (.cst (.int 30011)) (.idx (.var 0) (.cst (.int 2))))) (.cst (.int 29))) (.cst (.int 3)))) (.cst (.int 1000000007))) (.var 1))) .nil)))))
theorem mapH_ints (k : Nat) (h : Hm) : ∀ cs : List Int, mapH (frzV k) (ivls cs) h = some (cs.map PV.int, h)
  | [] => rfl
  | i :: cs => by
    have e : frzV k (.fz (.int i)) h = some (.int i, h) := by cases k <;> rfl
    have ih := mapH_ints k h cs
    simp only [ivls, List.map_cons, mapH, e] at ih ⊢
    rw [ih]
theorem vw_ints {h : Hm} {n : Nat} {cs : List Int} (e : h[n]? = some (some (.lst (ivls cs)))) : vw h (.rf n) = some (.lst (cs.map .int)) := by
  simp only [vw, frzV, e, mapH_ints]
theorem data_ints (n : Nat) : ∀ cs : List Int, dataPs n (cs.map .int) = true
  | [] => by simp [dataPs]
  | i :: cs => by simp [dataPs, dataP, data_ints n cs]
theorem ne_nil_ints {h : Hm} {n : Nat} {cs : List Int} (spc : Nat → Nat → Option Nat) (φ : Nat → List Vl → Hm → R Vl) (e : h[n]? = some (some (.lst (ivls cs)))) : cmpG spc φ 1 (.rf n) (.fz (.lst [])) h = .ok (.fz (.bl (!cs.isEmpty))) h := by
  have e1 : clsOfV h (.rf n) = none := by simp only [clsOfV, e]
  unfold cmpG
  rw [if_neg (by decide), if_pos (by decide), e1]
  simp only [opA, vw_ints e, vw_fz, cmpV, eqE, eqD]
  have d1 : dataP 60 (.lst (cs.map .int)) = true := by simp only [dataP]; exact data_ints _ cs
  have d2 : dataP 60 (.lst []) = true := by simp [dataP, dataPs]
  rw [d1, d2]
  cases cs <;> simp [eqvP, eqvPs, liftF, blO]
/-! ### big steps -/
theorem binG_fz (spc : Nat → Nat → Option Nat) (φ : Nat → List Vl → Hm → R Vl) {k : Nat} {a b d : PV} (h : Hm) (e : binV k a b = some d) : binG spc φ k (.fz a) (.fz b) h = .ok (.fz d) h := by
  have hc : clsOfV h (.fz a) = none := by
    cases a with
    | obj c fs =>
      exfalso
      match k, e with
      | 0, e => cases b <;> cases e
      | 1, e => cases b <;> cases e
      | 2, e => cases b <;> cases e
      | 3, e => cases b <;> cases e
      | 4, e => cases b <;> cases e
      | 5, e => cases b <;> cases e
      | k + 6, e => cases e
    | _ => rfl
  unfold binG
  rw [hc]
  show liftF (binV k a b) h = _
  rw [e]
  rfl
theorem lenG_of (spc : Nat → Nat → Option Nat) (φ : Nat → List Vl → Hm → R Vl) {x : Vl} {v : Vl} {h : Hm} (e : lenH x h = .ok v h) : lenG spc φ x h = .ok v h := by
  have hc : clsOfV h x = none := by
    cases x with
    | fz d => cases d <;> first | rfl | (cases e)
    | rf n =>
      simp only [clsOfV]
      simp only [lenH] at e
      cases w : h[n]? with
      | none => rfl
      | some o =>
        cases o with
        | none => rfl
        | some o => cases o <;> first | rfl | (rw [w] at e; cases e)
  unfold lenG
  rw [hc]
  exact e
section
variable {G : Gx} {env e1 : Env} {h h1 h2 h3 h4 : Hm} {a b c o : Ex} {x y z v : Vl} {d d1 d2 d3 : PV} {k i : Nat} {out : SO}
theorem x_var (e : env[i]? = some (some v)) : G.ex (.var i) env h = .ok v h := by simp only [Gx.ex, evVar, e]
theorem x_cst (ha : d.atom = true) : G.ex (.cst d) env h = .ok (.fz d) h := by simp only [Gx.ex, cstE, ha, if_true]
theorem x_glo {g : Nat} (e : G.glo g = some d) (ha : d.atom = true) : G.ex (.glo g) env h = .ok (.fz d) h := by simp only [Gx.ex, gloE, e, ha, if_true]
theorem x_bin (ha : G.ex a env h = .ok (.fz d1) h1) (hb : G.ex b env h1 = .ok (.fz d2) h2) (e : binV k d1 d2 = some d3) : G.ex (.bin k a b) env h = .ok (.fz d3) h2 := by
  simp only [Gx.ex, op2, ha, hb, rb_ok, binG_fz G.spc G.φ h2 e]
theorem x_cmp {t : Bool} (ha : G.ex a env h = .ok x h1) (hb : G.ex b env h1 = .ok y h2) (e : cmpG G.spc G.φ k x y h2 = .ok (.fz (.bl t)) h3) : G.ex (.cmp k a b) env h = .ok (.fz (.bl t)) h3 := by
  simp only [Gx.ex, op2, ha, hb, rb_ok, e]
theorem x_idx (ha : G.ex a env h = .ok x h1) (hb : G.ex b env h1 = .ok y h2) (e : idxH x y h2 = .ok z h2) : G.ex (.idx a b) env h = .ok z h2 := by
  simp only [Gx.ex, op2, ha, hb, rb_ok, e]
theorem x_b1 (ha : G.ex a env h = .ok (.fz d) h1) (e : b1V k d = some d1) : G.ex (.b1 k a) env h = .ok (.fz d1) h1 := by
  simp only [Gx.ex, op1, ha, rb_ok, opA1_fz, e, liftF_some]
theorem x_s1 (ha : G.ex a env h = .ok (.fz d) h1) (e : s1V k d = some d1) : G.ex (.s1 k a) env h = .ok (.fz d1) h1 := by
  simp only [Gx.ex, op1, ha, rb_ok, opS1, shal, e, liftF_some]
theorem x_len (ha : G.ex a env h = .ok x h1) (e : lenH x h1 = .ok y h1) : G.ex (.len a) env h = .ok y h1 := by simp only [Gx.ex, op1, ha, rb_ok, lenG_of G.spc G.φ e]
theorem x_isi (ha : G.ex a env h = .ok (.fz d1) h1) (hb : G.ex b env h1 = .ok (.fz d2) h2) (e : isiV d1 d2 = some d3) : G.ex (.isi a b) env h = .ok (.fz d3) h2 := by
  simp only [Gx.ex, op2, ha, hb, rb_ok, opA_fz, e, liftF_some]
theorem x_att {f : Nat} (ha : G.ex a env h = .ok (.fz d) h1) (e : attV G.isF f d = some d1) : G.ex (.att a f) env h = .ok (.fz d1) h1 := by
  simp only [Gx.ex, op1, ha, rb_ok, attH, e, liftF_some]
theorem x_and {t : Bool} (ha : G.ex a env h = .ok (.fz d) h1) (e : truthV d = some t) (hb : t = true → G.ex b env h1 = .ok x h2) (hf : t = false → x = .fz d ∧ h2 = h1) : G.ex (.and a b) env h = .ok x h2 := by
  simp only [Gx.ex, andV, ha, rb_ok, truR_fz, e, lift_some]
  cases t with
  | true => simp only [if_true]; exact hb rfl
  | false => obtain ⟨rfl, rfl⟩ := hf rfl; simp
theorem x_or {t : Bool} (ha : G.ex a env h = .ok (.fz d) h1) (e : truthV d = some t) (hb : t = false → G.ex b env h1 = .ok x h2) (hf : t = true → x = .fz d ∧ h2 = h1) : G.ex (.or a b) env h = .ok x h2 := by
  simp only [Gx.ex, orV, ha, rb_ok, truR_fz, e, lift_some]
  cases t with
  | false => simp; exact hb rfl
  | true => obtain ⟨rfl, rfl⟩ := hf rfl; simp
theorem x_not {t : Bool} (ha : G.ex a env h = .ok (.fz d) h1) (e : truthV d = some t) : G.ex (.not a) env h = .ok (.fz (.bl (!t))) h1 := by
  simp only [Gx.ex, notV, ha, rb_ok, truR_fz, e, lift_some]
theorem x_neg (ha : G.ex a env h = .ok (.fz d) h1) (e : negV d = some d1) : G.ex (.neg a) env h = .ok (.fz d1) h1 := by
  simp only [Gx.ex, op1, ha, rb_ok, opA1_fz, e, liftF_some]
theorem x_iteT {t : Ts} (hc : G.ts t env h = .ok true h1) (ha : G.ex a env h1 = .ok x h2) : G.ex (.ite t a b) env h = .ok x h2 := by simp only [Gx.ex, ifV, hc, rb_ok, if_true, ha]
theorem x_iteF {t : Ts} (hc : G.ts t env h = .ok false h1) (ha : G.ex b env h1 = .ok x h2) : G.ex (.ite t a b) env h = .ok x h2 := by
  simp only [Gx.ex, ifV, hc, rb_ok]; simpa using ha
theorem es_nil0 : G.es .nil env h = .ok [] h := rfl
theorem es_cons0 {r : Es} {vs : List Vl} (ha : G.ex a env h = .ok x h1) (hr : G.es r env h1 = .ok vs h2) : G.es (.cons a r) env h = .ok (x :: vs) h2 := by simp only [Gx.es, esCons, ha, hr, rb_ok]
theorem x_call {f : Nat} {as : Es} {vs : List Vl} (ha : G.es as env h = .ok vs h1) (e : G.φ f vs h1 = .ok x h2) : G.ex (.call f as) env h = .ok x h2 := by simp only [Gx.ex, callE, ha, rb_ok, e]
def fzs (ds : List PV) : List Vl := ds.map .fz
theorem frzs_fzs (ds : List PV) (h : Hm) : frzs (fzs ds) h = .ok ds h := by
  induction ds with
  | nil => rfl
  | cons d ds ih =>
    simp only [fzs, List.map_cons, frzs, frz_fz, rb_ok] at ih ⊢
    rw [ih]
    rfl
theorem x_tup {as : Es} {vs : List Vl} {ds : List PV} (ha : G.es as env h = .ok vs h1) (e : vs = fzs ds) (hl : ds.length ≤ LIM) : G.ex (.tup as) env h = .ok (.fz (.tup ds)) h1 := by
  subst e
  simp only [Gx.ex, tupE, ha, rb_ok, frzs_fzs]
  rw [if_pos (by simpa [fzs] using hl)]
theorem x_lst {as : Es} {vs : List Vl} {ds : List PV} (ha : G.es as env h = .ok vs h1) (e : vs = fzs ds) (hl : ds.length ≤ LIM) : G.ex (.lst as) env h = .ok (.fz (.lst ds)) h1 := by
  subst e
  simp only [Gx.ex, lstE, ha, rb_ok, frzs_fzs]
  rw [if_pos (by simpa [fzs] using hl)]
theorem x_nlst {as : Es} {vs : List Vl} (ha : G.es as env h = .ok vs h1) (hl : vs.length ≤ LIM) : G.ex (.nlst as) env h = .ok (.rf h1.length) (h1 ++ [some (.lst vs)]) := by
  simp only [Gx.ex, nlstE, ha, rb_ok]
  rw [if_pos hl]
  rfl
theorem x_app {n : Nat} {xs : List Vl} (ha : G.ex o env h = .ok (.rf n) h1) (e1 : h1[n]? = some (some (.lst xs))) (hb : G.ex a env h1 = .ok y h2) (e2 : h2[n]? = some (some (.lst xs))) (hl : xs.length < LIM) : G.ex (.app o a) env h = .ok (.fz .non) (h2.set n (some (.lst (xs ++ [y])))) := by
  simp only [Gx.ex, appE, ha, rb_ok, isLstH, e1, if_true, hb, wrL, e2, appW, if_pos hl]
theorem x_popAt {n j : Nat} {i : Int} {xs : List Vl} (ha : G.ex o env h = .ok (.rf n) h1) (e1 : h1[n]? = some (some (.lst xs))) (hb : G.ex a env h1 = .ok (.fz (.int i)) h2) (e2 : h2[n]? = some (some (.lst xs))) (e3 : ixP xs.length i = some j) (e4 : xs[j]? = some y) :
    G.ex (.popAt o a) env h = .ok y (h2.set n (some (.lst (xs.eraseIdx j)))) := by
  simp only [Gx.ex, popAtE, ha, rb_ok, isLstH, e1, if_true, hb, wrL, e2, popAtW, e3, e4]
theorem x_frz {d : PV} (ha : G.ex a env h = .ok x h1) (e : frz x h1 = .ok d h2) : G.ex (.frz a) env h = .ok (.fz d) h2 := by simp only [Gx.ex, frzE, ha, rb_ok, e]
/-! tests -/
theorem t_val0 {t : Bool} (ha : G.ex a env h = .ok (.fz d) h1) (e : truthV d = some t) : G.ts (.val a) env h = .ok t h1 := by simp only [Gx.ts, valT, ha, rb_ok, truR_fz, e, lift_some]
theorem t_cmp0 {t : Bool} (ha : G.ex a env h = .ok x h1) (hb : G.ex b env h1 = .ok y h2) (e : cmpG G.spc G.φ k x y h2 = .ok (.fz (.bl t)) h3) : G.ts (.cmp k a b) env h = .ok t h3 := by
  simp only [Gx.ts, cmpT, op2, ha, hb, rb_ok, e, blR_bl]
theorem t_not0 {t : Bool} {u : Ts} (ha : G.ts u env h = .ok t h1) : G.ts (.not u) env h = .ok (!t) h1 := by simp only [Gx.ts, notT, ha, rb_ok]
theorem t_andT {s : Bool} {u w : Ts} (ha : G.ts u env h = .ok true h1) (hb : G.ts w env h1 = .ok s h2) : G.ts (.and u w) env h = .ok s h2 := by simp only [Gx.ts, andT, ha, rb_ok, if_true, hb]
theorem t_andF {u w : Ts} (ha : G.ts u env h = .ok false h1) : G.ts (.and u w) env h = .ok false h1 := by simp [Gx.ts, andT, ha]
theorem t_orF {s : Bool} {u w : Ts} (ha : G.ts u env h = .ok false h1) (hb : G.ts w env h1 = .ok s h2) : G.ts (.or u w) env h = .ok s h2 := by simp [Gx.ts, orT, ha, hb]
theorem t_orT {u w : Ts} (ha : G.ts u env h = .ok true h1) : G.ts (.or u w) env h = .ok true h1 := by simp [Gx.ts, orT, ha]
/-! statements -/
theorem s_set0 (ha : G.ex a env h = .ok v h1) (hi : i < env.length) : G.st (.set i a) env h = .nx (env.set i (some v)) h1 := by simp only [Gx.st, ha, rs_ok, setE, if_pos hi]
theorem s_ret0 (ha : G.ex a env h = .ok v h1) : G.st (.ret a) env h = .rt v h1 := by simp only [Gx.st, ha, rs_ok]
theorem s_exp0 (ha : G.ex a env h = .ok v h1) : G.st (.exp a) env h = .nx env h1 := by simp only [Gx.st, ha, rs_ok]
theorem s_setI0 {ix : Ex} (hv : G.ex a env h = .ok y h1) (ho : G.ex o env h1 = .ok x h2) (hi : G.ex ix env h2 = .ok z h3) (e : setI x z y h3 = .ok v h4) : G.st (.setI o ix a) env h = .nx env h4 := by
  simp only [Gx.st, hv, ho, hi, rs_ok, e]
theorem s_fld0 {f : Nat} (hv : G.ex a env h = .ok y h1) (ho : G.ex o env h1 = .ok x h2) (e : fldH G.isF f x y h2 = .ok v h3) : G.st (.fld o f a) env h = .nx env h3 := by
  simp only [Gx.st, hv, ho, rs_ok, e]
theorem s_iteT {t : Ts} {p q : Sts} (hc : G.ts t env h = .ok true h1) (ha : G.sts p env h1 = out) : G.st (.ite t p q) env h = out := by simp only [Gx.st, hc, rs_ok, if_true, ha]
theorem s_iteF {t : Ts} {p q : Sts} (hc : G.ts t env h = .ok false h1) (ha : G.sts q env h1 = out) : G.st (.ite t p q) env h = out := by simp only [Gx.st, hc, rs_ok]; simpa using ha
theorem bb_nil : G.sts .nil env h = .nx env h := rfl
theorem bb_cons {s : Stm} {r : Sts} (hs : G.st s env h = .nx e1 h1) (hr : G.sts r e1 h1 = out) : G.sts (.cons s r) env h = out := by simp only [Gx.sts, hs, sb_nx, hr]
theorem bb_ret {s : Stm} {r : Sts} (hs : G.st s env h = .rt v h1) : G.sts (.cons s r) env h = .rt v h1 := by simp only [Gx.sts, hs, sb_rt]
theorem run_rt {keep : Bool} {np k : Nat} {body : Env → Hm → SO} {vs : List Vl} (hn : vs.length = np) (hb : body (vs.map some ++ List.replicate k none) h = .rt v h1) (hc : cutH keep h.length h1 = some h2) (hr : refsV h2.length v = true) : runF keep np k body vs h = .ok v h2 := by
  unfold runF
  rw [if_pos hn, hb]
  simp only [hc, hr, if_true]
theorem run_nx {keep : Bool} {np k : Nat} {body : Env → Hm → SO} {vs : List Vl} (hn : vs.length = np) (hb : body (vs.map some ++ List.replicate k none) h = .nx e1 h1) (hc : cutH keep h.length h1 = some h2) : runF keep np k body vs h = .ok (.fz .non) h2 := by
  unfold runF
  rw [if_pos hn, hb]
  simp only [hc]
end
theorem cut_same {keep : Bool} {n : Nat} {h : Hm} (e : h.length = n) : cutH keep n h = some h := by
  unfold cutH
  cases keep with
  | true => rfl
  | false => simp [e]
/-- one draw -/
theorem draw_ok (G : Gx) {S : Sm} {B m : Int} {E : Hm} (ok : S.Ok B) (hB : B ≤ 1000000000000) (hm : 0 < m) (hm2 : m < 1000000000000) :
    ∃ d S', runF false 2 3 (G.sts drawB) [.rf 1, .fz (.int m)] (hp S E) = .ok (.fz (.int d)) (hp S' E) ∧ 0 ≤ d ∧ d < m ∧ S'.Ok (B + 1) := by
  obtain ⟨cs, a, b, c⟩ := S
  obtain ⟨a0, b0, b1, c0, c1⟩ := ok
  dsimp only at a0 b0 b1 c0 c1
  -- the end: a draw from what stands in a, or a mixed one
  have fin : ∀ (cs : List Int) (a c : Int) (e2 e3 : Option Vl), 0 ≤ a → 0 ≤ c → c < 2147483647 → ∃ d S', (∃ en, G.sts (.cons (.ite (.cmp 4 (.idx (.var 0) (.cst (.int 1))) (.cst (.int 0))) (.cons (.set 4 (.bin 4 (.b1 0 (.idx (.var 0) (.cst (.int 1)))) (.var 1))) (.cons (.setI (.var 0) (.cst (.int 1)) (.bin 3 (.idx (.var 0) (.cst (.int 1))) (.var 1))) (.cons (.ret (.var 4)) .nil))) .nil) (.cons (.set 2 (.bin 4 (.b1 0 (.bin 5 (.bin 0 (.bin 0 (.idx (.var 0) (.cst (.int 3))) (.bin 2 (.cst (.int 7919)) (.idx (.var 0) (.cst (.int 2))))) (.cst (.int 104729))) (.cst (.int 5)))) (.cst (.int 2147483629)))) (.cons (.ret (.bin 4 (.bin 4 (.b1 0 (.bin 5 (.bin 0 (.bin 0 (.bin 2 (.var 2) (.cst (.int 48271))) (.bin 2 (.cst (.int 30011)) (.idx (.var 0) (.cst (.int 2))))) (.cst (.int 29))) (.cst (.int 3)))) (.cst (.int 1000000007))) (.var 1))) .nil)))
      [some (.rf 1), some (.fz (.int m)), e2, e3, none] (hp ⟨cs, a, b + 1, c⟩ E) = .rt (.fz (.int d)) (hp S' E) ∧ en = e2) ∧ 0 ≤ d ∧ d < m ∧ S'.Ok (B + 1) := fun cs a c e2 e3 a0 c0 c1 => by
    by_cases ha : 0 < a
    · refine ⟨a % m, ⟨cs, a / m, b + 1, c⟩, ⟨_, bb_ret (s_iteT (h1 := hp ⟨cs, a, b + 1, c⟩ E) ?_ ?_), rfl⟩, Int.emod_nonneg _ (by omega), Int.emod_lt_of_pos _ hm, ⟨Int.ediv_nonneg a0 (by omega), by dsimp only; omega, by dsimp only; omega, c0, c1⟩⟩
      · refine t_cmp0 (x_idx (x_var rfl) (x_cst rfl) rfl) (x_cst rfl) ?_
        rw [cmpG_ii]
        simp [cmpV, ltI, ha]
      · have hmod : modV (.int a) (.int m) = some (.int (a % m)) := by simp only [modV, if_pos hm]
        have hdiv : fdivV (.int a) (.int m) = some (.int (a / m)) := by
          have : m.natAbs.log2 < 100 := lg_le (by have : (2:Nat) ^ 100 = 1267650600228229401496703205376 := by decide
                                                  omega)
          simp only [fdivV]
          rw [if_pos ⟨hm, by omega⟩]
        refine bb_cons (s_set0 (x_bin (x_b1 (x_idx (x_var rfl) (x_cst rfl) rfl) rfl) (x_var rfl) hmod) (by simp)) (bb_cons (s_setI0 (x_bin (x_idx (x_var rfl) (x_cst rfl) rfl) (x_var rfl) hdiv) (x_var rfl) (x_cst rfl) rfl) (bb_ret (s_ret0 (x_var rfl))))
    · have ha : a = 0 := by omega
      subst ha
      have p100 : (2:Nat) ^ 100 = 1267650600228229401496703205376 := by decide
      have m1 : mulV (.int 7919) (.int (b + 1)) = some (.int (7919 * (b + 1))) := mul_small (by decide) (by omega)
      have p1 : powV (.int (c + 7919 * (b + 1) + 104729)) (.int 5) = some (.int ((c + 7919 * (b + 1) + 104729) ^ 5)) := pow_small (n := 5) (by decide) (by omega)
      have q1 : modV (.int ((c + 7919 * (b + 1) + 104729) ^ 5)) (.int 2147483629) = some (.int ((c + 7919 * (b + 1) + 104729) ^ 5 % 2147483629)) := rfl
      generalize hM : (c + 7919 * (b + 1) + 104729) ^ 5 % 2147483629 = M at q1
      have M0 : 0 ≤ M := by rw [← hM]; exact Int.emod_nonneg _ (by decide)
      have M1 : M < 2147483629 := by rw [← hM]; exact Int.emod_lt_of_pos _ (by decide)
      have m2 : mulV (.int M) (.int 48271) = some (.int (M * 48271)) := mul_small (by omega) (by decide)
      have m3 : mulV (.int 30011) (.int (b + 1)) = some (.int (30011 * (b + 1))) := mul_small (by decide) (by omega)
      have p2 : powV (.int (M * 48271 + 30011 * (b + 1) + 29)) (.int 3) = some (.int ((M * 48271 + 30011 * (b + 1) + 29) ^ 3)) := pow_small (n := 3) (by decide) (by omega)
      have q2 : modV (.int ((M * 48271 + 30011 * (b + 1) + 29) ^ 3)) (.int 1000000007) = some (.int ((M * 48271 + 30011 * (b + 1) + 29) ^ 3 % 1000000007)) := rfl
      generalize hN : (M * 48271 + 30011 * (b + 1) + 29) ^ 3 % 1000000007 = N at q2
      have q3 : modV (.int N) (.int m) = some (.int (N % m)) := by simp only [modV, if_pos hm]
      refine ⟨N % m, ⟨cs, 0, b + 1, c⟩, ⟨_, bb_cons (s_iteF (h1 := hp ⟨cs, 0, b + 1, c⟩ E) ?_ bb_nil) (bb_cons (s_set0 (x_bin (x_b1 (x_bin (x_bin (x_bin (x_idx (x_var rfl) (x_cst rfl) rfl) (x_bin (x_cst rfl) (x_idx (x_var rfl) (x_cst rfl) rfl) m1) rfl) (x_cst rfl) rfl) (x_cst rfl) p1) rfl) (x_cst rfl) q1) (by simp)) (bb_ret (s_ret0 (x_bin (x_bin (x_b1 (x_bin (x_bin (x_bin (x_bin (x_var rfl) (x_cst rfl) m2) (x_bin (x_cst rfl) (x_idx (x_var rfl) (x_cst rfl) rfl) m3) rfl) (x_cst rfl) rfl) (x_cst rfl) p2) rfl) (x_cst rfl) q2) (x_var rfl) q3)))), rfl⟩, Int.emod_nonneg _ (by omega), Int.emod_lt_of_pos _ hm, ⟨Int.le_refl _, by dsimp only; omega, by dsimp only; omega, c0, c1⟩⟩
      refine t_cmp0 (x_idx (x_var rfl) (x_cst rfl) rfl) (x_cst rfl) ?_
      rw [cmpG_ii]
      rfl
  have go : ∀ {d : Int} {S' : Sm} {o : SO}, G.sts drawB [some (.rf 1), some (.fz (.int m)), none, none, none] (hp ⟨cs, a, b, c⟩ E) = .rt (.fz (.int d)) (hp S' E) → runF false 2 3 (G.sts drawB) [.rf 1, .fz (.int m)] (hp ⟨cs, a, b, c⟩ E) = .ok (.fz (.int d)) (hp S' E) := fun {d S' o} e =>
    run_rt rfl e (cut_same rfl) rfl
  have s1 : G.st (.setI (.var 0) (.cst (.int 2)) (.bin 0 (.idx (.var 0) (.cst (.int 2))) (.cst (.int 1)))) [some (.rf 1), some (.fz (.int m)), none, none, none] (hp ⟨cs, a, b, c⟩ E) = .nx [some (.rf 1), some (.fz (.int m)), none, none, none] (hp ⟨cs, a, b + 1, c⟩ E) :=
    s_setI0 (x_bin (x_idx (x_var rfl) (x_cst rfl) rfl) (x_cst rfl) rfl) (x_var rfl) (x_cst rfl) rfl
  by_cases ha : a = 0
  · subst ha
    have t1 : G.ts (.cmp 0 (.idx (.var 0) (.cst (.int 1))) (.cst (.int 0))) [some (.rf 1), some (.fz (.int m)), none, none, none] (hp ⟨cs, 0, b + 1, c⟩ E) = .ok true (hp ⟨cs, 0, b + 1, c⟩ E) := by
      refine t_cmp0 (x_idx (x_var rfl) (x_cst rfl) rfl) (x_cst rfl) ?_
      rw [cmpG_ii]
      rfl
    have t2 : G.ts (.cmp 1 (.idx (.var 0) (.cst (.int 0))) (.lst .nil)) [some (.rf 1), some (.fz (.int m)), none, none, none] (hp ⟨cs, 0, b + 1, c⟩ E) = .ok (!cs.isEmpty) (hp ⟨cs, 0, b + 1, c⟩ E) := by
      refine t_cmp0 (x_idx (x_var rfl) (x_cst rfl) rfl) (x_lst (ds := []) es_nil0 rfl (by decide)) (ne_nil_ints _ _ rfl)
    cases cs with
    | nil =>
      obtain ⟨d, S', ⟨_, e, _⟩, f1, f2, f3⟩ := fin [] 0 c none none a0 c0 c1
      exact ⟨d, S', go (o := .stuck) (bb_cons s1 (bb_cons (s_iteF (t_andT t1 t2) bb_nil) e)), f1, f2, f3⟩
    | cons x cs =>
      have m1 : mulV (.int c) (.int 8191) = some (.int (c * 8191)) := mul_small (by omega) (by decide)
      have p18 : binV 5 (.int 10) (.int 18) = some (.int 1000000000000000000) := by
        show powV (.int 10) (.int 18) = _
        rw [show powV (.int 10) (.int 18) = some (.int (10 ^ 18)) from pow_small (i := 10) (n := 18) (by decide) (by decide)]
        rfl
      have q1 : modV (.int (c * 8191 + x + 3)) (.int 2147483647) = some (.int ((c * 8191 + x + 3) % 2147483647)) := rfl
      obtain ⟨d, S', ⟨_, e, _⟩, f1, f2, f3⟩ := fin cs (if 1000000000000000000 ≤ x then x else 0) ((c * 8191 + x + 3) % 2147483647) none (some (.fz (.int x))) (by split <;> omega) (Int.emod_nonneg _ (by decide)) (Int.emod_lt_of_pos _ (by decide))
      refine ⟨d, S', go (o := .stuck) (bb_cons s1 (bb_cons (s_iteT (t_andT t1 t2) (bb_cons (s_set0 (x_popAt (n := 0) (j := 0) (xs := ivls (x :: cs)) (y := .fz (.int x)) (x_idx (x_var rfl) (x_cst rfl) rfl) rfl (x_cst rfl) rfl ?_ rfl) (by simp)) (bb_cons (s_setI0 (x_bin (x_b1 (x_bin (x_bin (x_bin (x_idx (x_var rfl) (x_cst rfl) rfl) (x_cst rfl) m1) (x_var rfl) rfl) (x_cst rfl) rfl) rfl) (x_cst rfl) q1) (x_var rfl) (x_cst rfl) rfl) (bb_cons (s_setI0 (y := .fz (.int (if 1000000000000000000 ≤ x then x else 0))) (h1 := hp ⟨cs, 0, b + 1, (c * 8191 + x + 3) % 2147483647⟩ E) ?_ (x_var rfl) (x_cst rfl) rfl) bb_nil)))) e)), f1, f2, f3⟩
      · simp [ixP, ivls]
      · by_cases hx : 1000000000000000000 ≤ x
        · rw [if_pos hx]
          refine x_iteT (t_cmp0 (x_var rfl) (x_bin (x_cst rfl) (x_cst rfl) p18) ?_) (x_var rfl)
          rw [cmpG_ii]
          show liftF (cmpV 5 (.int x) (.int 1000000000000000000)) _ = .ok (.fz (.bl true)) _
          simp only [cmpV, ltI, decide_eq_true hx]
          rfl
        · rw [if_neg hx]
          refine x_iteF (t_cmp0 (x_var rfl) (x_bin (x_cst rfl) (x_cst rfl) p18) ?_) (x_cst rfl)
          rw [cmpG_ii]
          show liftF (cmpV 5 (.int x) (.int 1000000000000000000)) _ = .ok (.fz (.bl false)) _
          simp only [cmpV, ltI, decide_eq_false hx]
          rfl
  · have t1 : G.ts (.cmp 0 (.idx (.var 0) (.cst (.int 1))) (.cst (.int 0))) [some (.rf 1), some (.fz (.int m)), none, none, none] (hp ⟨cs, a, b + 1, c⟩ E) = .ok false (hp ⟨cs, a, b + 1, c⟩ E) := by
      refine t_cmp0 (x_idx (x_var rfl) (x_cst rfl) rfl) (x_cst rfl) ?_
      rw [cmpG_ii]
      simp [cmpV, eqE, eqD, dataP, eqvP, ha]
    obtain ⟨d, S', ⟨_, e, _⟩, f1, f2, f3⟩ := fin cs a c none none a0 c0 c1
    exact ⟨d, S', go (o := .stuck) (bb_cons s1 (bb_cons (s_iteF (t_andF t1) bb_nil) e)), f1, f2, f3⟩
end HV

end

section
/-! W1: comprehensions and loops by rewriting. Core Lean. -/
namespace HV
section
variable {G : Gx} {env e1 : Env} {h h1 h2 h3 h4 : Hm} {a b c o : Ex} {x y z v : Vl} {d d1 d2 d3 : PV} {k i : Nat} {out : SO}
theorem unlkR_nil {α : Type} (o : R α) : unlkR [] o = o := by cases o <;> rfl
theorem unlkS_nil (o : SO) : unlkS [] o = o := by cases o <;> rfl
theorem x_lc {own : List Nat} {tg : Tg} {src : Sr} {t : Ts} {ds : List Vl} {ys : List PV} (hs : G.sr src env h = .ok (ds, []) h1) (hl : lcN (G.tg tg) (G.ts t) (frzR (G.ex a)) (wipeE own env) ds h1 = .ok ys h2) : G.ex (.lc own tg src t a) env h = .ok (.fz (.lst ys)) h2 := by
  simp only [Gx.ex, lcV, hs, rb_ok, lockH, hl, unlkR_nil]
theorem x_lcL {own : List Nat} {tg : Tg} {src : Sr} {t : Ts} {n : Nat} {ds : List Vl} {m : MO} {ys : List PV} (hs : G.sr src env h = .ok (ds, [(n, m)]) h1) (hl : lcN (G.tg tg) (G.ts t) (frzR (G.ex a)) (wipeE own env) ds (h1.set n none) = .ok ys h2) : G.ex (.lc own tg src t a) env h = .ok (.fz (.lst ys)) (h2.set n (some m)) := by
  simp only [Gx.ex, lcV, hs, rb_ok, lockH, hl]
  rfl
theorem sr_fz {ds : List PV} (ha : G.ex a env h = .ok (.fz d) h1) (e : iterV d = some ds) : G.sr (.val a) env h = .ok (fzs ds, []) h1 := by
  simp only [Gx.sr, srcV, ha, rb_ok, e, fzs]
theorem sr_rf {n : Nat} {xs : List Vl} (ha : G.ex a env h = .ok (.rf n) h1) (e : h1[n]? = some (some (.lst xs))) : G.sr (.val a) env h = .ok (xs, [(n, .lst xs)]) h1 := by
  simp only [Gx.sr, srcV, ha, rb_ok, e]
def rng (n : Nat) : List PV := (List.range n).map fun (i : Nat) => .int (i : Int)
theorem sr_rng {j : Int} (ha : G.ex a env h = .ok (.fz (.int j)) h1) (hj : -4611686018427387904 ≤ j ∧ j ≤ 16777216) : G.sr (.rng a) env h = .ok (fzs (rng j.toNat), []) h1 := by
  simp only [Gx.sr, srcR, ha, rb_ok, rngN, if_pos hj, fzs, rng]
  simp
theorem sr_enm {ds : List PV} (ha : G.ex a env h = .ok (.fz d) h1) (e : seqP d = some ds) : G.sr (.enm a) env h = .ok (fzs (enumP ds), []) h1 := by
  simp only [Gx.sr, srcE, ha, rb_ok, seqH, e, fzs]
theorem sr_zip {ds es : List PV} (ha : G.ex a env h = .ok (.fz d1) h1) (hb : G.ex b env h1 = .ok (.fz d2) h2) (e1 : seqP d1 = some ds) (e2 : seqP d2 = some es) : G.sr (.zip a b) env h = .ok (fzs (zipP ds es), []) h2 := by
  simp only [Gx.sr, srcZ, ha, hb, rb_ok, seqH, e1, e2, fzs, List.append_nil]
theorem s_for0 {t : Tg} {s : Sr} {q : Sts} {ds : List Vl} (hs : G.sr s env h = .ok (ds, []) h1) (hf : forN (G.tg t) (G.sts q) ds env h1 = out) : G.st (.for_ t s q) env h = out := by
  simp only [Gx.st, hs, rs_ok, lockH, hf, unlkS_nil]
theorem rng_len (n : Nat) : (fzs (rng n)).length = n := by simp [fzs, rng]
theorem fzs_len (ds : List PV) : (fzs ds).length = ds.length := by simp [fzs]
theorem frzR_ok {f : Env → Hm → R Vl} (e : f env h = .ok (.fz d) h1) : frzR f env h = .ok d h1 := by simp only [frzR, e, rb_ok, frz_fz]
theorem tg_nm (hi : i < env.length) : G.tg (.nm i) v env h = some (env.set i (some v)) := by simp only [Gx.tg, tgN, if_pos hi]
end
/-- a comprehension without state: what passes, mapped -/
theorem lcN_pure {β : Type} {g : Vl → Env → Hm → Option Env} {c : Env → Hm → R Bool} {e : Env → Hm → R β} {env : Env} {h : Hm} (p : PV → Bool) (f : PV → β) (ev : PV → Env) : ∀ (ds : List PV),
    (∀ d ∈ ds, g (.fz d) env h = some (ev d) ∧ c (ev d) h = .ok (p d) h ∧ (p d = true → e (ev d) h = .ok (f d) h)) → lcN g c e env (fzs ds) h = .ok ((ds.filter p).map f) h
  | [], _ => rfl
  | d :: ds, H => by
    obtain ⟨h1, h2, h3⟩ := H d (by simp)
    have ih := lcN_pure p f ev ds fun d hd => H d (List.mem_cons_of_mem _ hd)
    show lcN g c e env (.fz d :: fzs ds) h = _
    simp only [lcN, h1, h2, sure_ok, rb_ok]
    cases q : p d with
    | true =>
      rw [if_pos rfl, h3 q]
      simp only [sure_ok, rb_ok, ih, List.filter_cons, q, if_true, List.map_cons]
    | false =>
      simp only [List.filter_cons, q, if_false, ih]
      simp [ih]
/-- .. over things that are made of other things -/
theorem lcN_filt {ι β : Type} {g : Vl → Env → Hm → Option Env} {c : Env → Hm → R Bool} {e : Env → Hm → R β} {env : Env} {h : Hm} (mk : ι → PV) (p : ι → Bool) (f : ι → β) (ev : ι → Env) : ∀ (ks : List ι),
    (∀ i ∈ ks, g (.fz (mk i)) env h = some (ev i) ∧ c (ev i) h = .ok (p i) h ∧ (p i = true → e (ev i) h = .ok (f i) h)) → lcN g c e env (fzs (ks.map mk)) h = .ok ((ks.filter p).map f) h
  | [], _ => rfl
  | d :: ds, H => by
    obtain ⟨h1, h2, h3⟩ := H d (by simp)
    have ih := lcN_filt mk p f ev ds fun d hd => H d (List.mem_cons_of_mem _ hd)
    show lcN g c e env (.fz (mk d) :: fzs (ds.map mk)) h = _
    simp only [lcN, h1, h2, sure_ok, rb_ok]
    cases q : p d with
    | true =>
      rw [if_pos rfl, h3 q]
      simp only [sure_ok, rb_ok, ih, List.filter_cons, q, if_true, List.map_cons]
    | false => simp [List.filter_cons, q, ih]
theorem lcN_map {ι β : Type} {g : Vl → Env → Hm → Option Env} {c : Env → Hm → R Bool} {e : Env → Hm → R β} {env : Env} {h : Hm} (mk : ι → PV) (f : ι → β) (ev : ι → Env) (ks : List ι)
    (H : ∀ i ∈ ks, g (.fz (mk i)) env h = some (ev i) ∧ c (ev i) h = .ok true h ∧ e (ev i) h = .ok (f i) h) : lcN g c e env (fzs (ks.map mk)) h = .ok (ks.map f) h := by
  have := lcN_filt mk (fun _ => true) f ev ks fun i hi => ⟨(H i hi).1, (H i hi).2.1, fun _ => (H i hi).2.2⟩
  have e : ks.filter (fun _ => true) = ks := by induction ks with
    | nil => rfl
    | cons a l ih => simp
  rw [e] at this
  exact this
/-- .. with state, all pass -/
theorem lcN_all {β : Type} {g : Vl → Env → Hm → Option Env} {c : Env → Hm → R Bool} {e : Env → Hm → R β} {env : Env} (I : Nat → Hm → Prop) (P : β → Prop) : ∀ (ds : List Vl) (k : Nat) (h : Hm), I k h →
    (∀ (j : Nat) d, ds[j]? = some d → ∀ h, I (k + j) h → ∃ e1, g d env h = some e1 ∧ c e1 h = .ok true h ∧ ∃ y h', e e1 h = .ok y h' ∧ P y ∧ I (k + j + 1) h') → ∃ ys h', lcN g c e env ds h = .ok ys h' ∧ ys.length = ds.length ∧ (∀ y ∈ ys, P y) ∧ I (k + ds.length) h'
  | [], k, h, i, _ => ⟨[], h, rfl, rfl, fun y hy => by simp at hy, i⟩
  | d :: ds, k, h, i, H => by
    obtain ⟨e1, h1, h2, y, h', h3, py, i'⟩ := H 0 d rfl h i
    obtain ⟨ys, h'', q1, q2, q3, q4⟩ := lcN_all I P ds (k + 1) h' i' fun j d hd h i => by
      have := H (j + 1) d (by simpa using hd) h (by
        have e : k + (j + 1) = k + 1 + j := by omega
        rw [e]
        exact i)
      have e : k + 1 + j + 1 = k + (j + 1) + 1 := by omega
      rw [e]
      exact this
    refine ⟨y :: ys, h'', ?_, by simp [q2], fun z hz => ?_, (by rw [List.length_cons, show k + (ds.length + 1) = k + 1 + ds.length by omega]; exact q4)⟩
    · simp only [lcN, h1, h2, sure_ok, rb_ok, if_true, h3, q1]
    · rcases List.mem_cons.mp hz with rfl | hz
      · exact py
      · exact q3 z hz
/-- a loop that goes to its end -/
theorem forN_inv {g : Vl → Env → Hm → Option Env} {b : Env → Hm → SO} (I : Nat → Env → Hm → Prop) : ∀ (ds : List Vl) (k : Nat) (env : Env) (h : Hm), I k env h →
    (∀ (j : Nat) d, ds[j]? = some d → ∀ env h, I (k + j) env h → ∃ e1, g d env h = some e1 ∧ ∃ e2 h', b e1 h = .nx e2 h' ∧ I (k + j + 1) e2 h') → ∃ e2 h', forN g b ds env h = .nx e2 h' ∧ I (k + ds.length) e2 h'
  | [], k, env, h, i, _ => ⟨env, h, rfl, i⟩
  | d :: ds, k, env, h, i, H => by
    obtain ⟨e1, h1, e2, h', h2, i'⟩ := H 0 d rfl env h i
    obtain ⟨e3, h'', q1, q2⟩ := forN_inv I ds (k + 1) e2 h' i' fun j d hd env h i => by
      have := H (j + 1) d (by simpa using hd) env h (by
        have e : k + (j + 1) = k + 1 + j := by omega
        rw [e]
        exact i)
      have e : k + 1 + j + 1 = k + (j + 1) + 1 := by omega
      rw [e]
      exact this
    refine ⟨e3, h'', ?_, (by rw [List.length_cons, show k + (ds.length + 1) = k + 1 + ds.length by omega]; exact q2)⟩
    simp only [forN, h1, h2, q1]
theorem mapH_fzs (k : Nat) (h : Hm) : ∀ ds : List PV, mapH (frzV k) (fzs ds) h = some (ds, h)
  | [] => rfl
  | d :: ds => by
    have e : frzV k (.fz d) h = some (d, h) := by cases k <;> rfl
    have ih := mapH_fzs k h ds
    simp only [fzs, List.map_cons, mapH, e] at ih ⊢
    rw [ih]
theorem vw_fzs {h : Hm} {n : Nat} {ds : List PV} (e : h[n]? = some (some (.lst (fzs ds)))) : vw h (.rf n) = some (.lst ds) := by
  simp only [vw, frzV, e, mapH_fzs]
theorem frz_fzsL {h : Hm} {n : Nat} {ds : List PV} (e : h[n]? = some (some (.lst (fzs ds)))) : frz (.rf n) h = .ok (.lst ds) (h.set n none) := by
  simp only [frz, frzV, e, mapH_fzs]
/-- objects without references -/
def noRef (E : Hm) : Prop := E.all (refsO 0) = true
theorem refsV_mono {n m : Nat} (h : n ≤ m) : ∀ {v : Vl}, refsV n v = true → refsV m v = true
  | .fz _, _ => rfl
  | .rf k, e => by simp only [refsV, decide_eq_true_eq] at e ⊢; omega
theorem refsO_mono {n m : Nat} (h : n ≤ m) {o : Option MO} (e : refsO n o = true) : refsO m o = true := by
  match o, e with
  | none, _ => rfl
  | some (.lst xs), e => simp only [refsO, List.all_eq_true] at e ⊢; exact fun x hx => refsV_mono h (e x hx)
  | some (.dct kvs), e => simp only [refsO, List.all_eq_true] at e ⊢; exact fun x hx => refsV_mono h (e x hx)
  | some (.ins c fs), e => simp only [refsO, List.all_eq_true] at e ⊢; exact fun x hx => refsV_mono h (e x hx)
/-- a def's own objects are cut off -/
theorem cut_hp {S : Sm} {E F : Hm} {n : Nat} (hn : n = 2 + E.length) (hE : noRef E) : cutH false n (hp S (E ++ F)) = some (hp S E) := by
  subst hn
  unfold cutH
  rw [if_neg Bool.false_ne_true]
  have hlen : (hp S (E ++ F)).length = 2 + E.length + F.length := by simp [hp]; omega
  have e0 : (hp S (E ++ F)).take (2 + E.length) = hp S E := by
    unfold hp
    rw [show 2 + E.length = E.length + 1 + 1 by omega]
    simp
  by_cases hF : F.length = 0
  · have : F = [] := List.eq_nil_of_length_eq_zero hF
    subst this
    rw [if_pos (by rw [hlen, hF]; rfl), List.append_nil]
  · rw [if_neg (by rw [hlen]; omega)]
    simp only [e0]
    rw [if_pos]
    unfold hp ivls
    simp only [List.all_cons, Bool.and_eq_true]
    refine ⟨?_, ?_, ?_⟩
    · simp [refsO, refsV]
    · simp [refsO, refsV]; omega
    · exact List.all_eq_true.mpr fun o ho => refsO_mono (Nat.zero_le _) (List.all_eq_true.mp hE o ho)
end HV

end

section
/-! W2: big steps with truths that are not known, heaps with objects of a def's own, comprehensions and loops. Core Lean. -/
namespace HV
section
variable {G : Gx} {env e1 : Env} {h h0 h1 h2 h3 h4 : Hm} {F F1 F2 : Hm} {a b c o : Ex} {x y z v : Vl} {d d1 d2 d3 : PV} {k i j : Nat} {out : SO} {t s : Bool} {u w : Ts} {p q : Sts}
/-! ### tests -/
theorem tt_yes : G.ts .yes env h = .ok true h := rfl
theorem tt_val (ha : G.ex a env h = .ok x h1) (e : truH h1 x = some t) : G.ts (.val a) env h = .ok t h1 := by simp only [Gx.ts, valT, ha, rb_ok, truR, e, lift_some]
theorem t_andB (ha : G.ts u env h = .ok t h1) (hb : t = true → G.ts w env h1 = .ok s h1) : G.ts (.and u w) env h = .ok (t && s) h1 := by
  cases t with
  | true => simp only [Gx.ts, andT, ha, rb_ok, if_true, hb rfl, Bool.true_and]
  | false => simp [Gx.ts, andT, ha]
theorem t_orB (ha : G.ts u env h = .ok t h1) (hb : t = false → G.ts w env h1 = .ok s h1) : G.ts (.or u w) env h = .ok (t || s) h1 := by
  cases t with
  | true => simp [Gx.ts, orT, ha]
  | false => simp [Gx.ts, orT, ha, hb rfl]
theorem s_iteT' (hc : G.ts u env h = .ok t h1) (ht : t = true) (ha : G.sts p env h1 = out) : G.st (.ite u p q) env h = out := by subst ht; exact s_iteT hc ha
theorem s_iteF' (hc : G.ts u env h = .ok t h1) (ht : t = false) (ha : G.sts q env h1 = out) : G.st (.ite u p q) env h = out := by subst ht; exact s_iteF hc ha
theorem s_iteB (hc : G.ts u env h = .ok t h1) (ha : t = true → G.sts p env h1 = out) (hb : t = false → G.sts q env h1 = out) : G.st (.ite u p q) env h = out := by
  cases t with
  | true => exact s_iteT hc (ha rfl)
  | false => exact s_iteF hc (hb rfl)
theorem x_iteT' (hc : G.ts u env h = .ok t h1) (ht : t = true) (ha : G.ex a env h1 = .ok x h2) : G.ex (.ite u a b) env h = .ok x h2 := by subst ht; exact x_iteT hc ha
theorem x_iteF' (hc : G.ts u env h = .ok t h1) (ht : t = false) (ha : G.ex b env h1 = .ok x h2) : G.ex (.ite u a b) env h = .ok x h2 := by subst ht; exact x_iteF hc ha
/-! ### and, or, not of truths -/
theorem x_andB (ha : G.ex a env h = .ok (.fz (.bl t)) h1) (hb : t = true → G.ex b env h1 = .ok (.fz (.bl s)) h1) : G.ex (.and a b) env h = .ok (.fz (.bl (t && s))) h1 := by
  cases t with
  | true => exact x_and (t := true) ha rfl (fun _ => hb rfl) (fun z => by cases z)
  | false => exact x_and (t := false) ha rfl (fun z => by cases z) (fun _ => ⟨rfl, rfl⟩)
theorem x_orB (ha : G.ex a env h = .ok (.fz (.bl t)) h1) (hb : t = false → G.ex b env h1 = .ok (.fz (.bl s)) h1) : G.ex (.or a b) env h = .ok (.fz (.bl (t || s))) h1 := by
  cases t with
  | false => exact x_or (t := false) ha rfl (fun _ => hb rfl) (fun z => by cases z)
  | true => exact x_or (t := true) ha rfl (fun z => by cases z) (fun _ => ⟨rfl, rfl⟩)
theorem x_not' (ha : G.ex a env h = .ok x h1) (e : truH h1 x = some t) : G.ex (.not a) env h = .ok (.fz (.bl (!t))) h1 := by
  simp only [Gx.ex, notV, ha, rb_ok, truR, e, lift_some]
/-! ### views -/
theorem x_isi' (ha : G.ex a env h = .ok x h1) (hb : G.ex b env h1 = .ok (.fz d2) h2) (ev : vw h2 x = some d1) (e : isiV d1 d2 = some d3) : G.ex (.isi a b) env h = .ok (.fz d3) h2 := by
  simp only [Gx.ex, op2, ha, hb, rb_ok, opA, ev, vw_fz, e, liftF_some]
theorem x_b1' (ha : G.ex a env h = .ok x h1) (ev : vw h1 x = some d) (e : b1V k d = some d1) : G.ex (.b1 k a) env h = .ok (.fz d1) h1 := by
  simp only [Gx.ex, op1, ha, rb_ok, opA1, ev, e, liftF_some]
theorem x_s1' (ha : G.ex a env h = .ok x h1) (ev : shal h1 x = some d) (e : s1V k d = some d1) : G.ex (.s1 k a) env h = .ok (.fz d1) h1 := by
  simp only [Gx.ex, op1, ha, rb_ok, opS1, ev, e, liftF_some]
theorem x_bin' (ha : G.ex a env h = .ok x h1) (hb : G.ex b env h1 = .ok y h2) (hc : clsOfV h2 x = none) (ea : frz x h2 = .ok d1 h3) (eb : frz y h3 = .ok d2 h4) (e : binV k d1 d2 = some d3) : G.ex (.bin k a b) env h = .ok (.fz d3) h4 := by
  simp only [Gx.ex, op2, ha, hb, rb_ok, binG, hc, opG, ea, eb, e, liftF_some]
theorem x_b2 (ha : G.ex a env h = .ok (.fz d1) h1) (hb : G.ex b env h1 = .ok (.fz d2) h2) (e : b2V k d1 d2 = some d3) : G.ex (.b2 k a b) env h = .ok (.fz d3) h2 := by
  simp only [Gx.ex, op2, ha, hb, rb_ok, opA_fz, e, liftF_some]
theorem x_att' {f : Nat} (ha : G.ex a env h = .ok x h1) (e : attH G.isF f x h1 = .ok y h1) : G.ex (.att a f) env h = .ok y h1 := by
  simp only [Gx.ex, op1, ha, rb_ok, e]
theorem x_slc {lo hi : Oe} {l r : Option Int} (ha : G.ex a env h = .ok x h1) (hl : bdE (G.oe lo) env h1 = .ok l h2) (hu : bdE (G.oe hi) env h2 = .ok r h3) (es : shal h3 x = some d) (e : slcV d l r = some d1) : G.ex (.slc a lo hi) env h = .ok (.fz d1) h3 := by
  simp only [Gx.ex, slcE, ha, hl, hu, rb_ok, es, e, liftF_some]
theorem bd_non : bdE (G.oe .non) env h = .ok none h := rfl
theorem bd_one {n : Int} (ha : G.ex a env h = .ok (.fz (.int n)) h1) : bdE (G.oe (.one a)) env h = .ok (some n) h1 := by simp only [bdE, Gx.oe, ha, rb_ok]
theorem x_rev (ha : G.ex a env h = .ok x h1) (es : shal h1 x = some d) (e : revV d = some d1) : G.ex (.rev a) env h = .ok (.fz d1) h1 := by
  simp only [Gx.ex, op1, ha, rb_ok, opS1, es, e, liftF_some]
theorem x_meth {cc m f : Nat} {as : Es} {vs : List Vl} (ha : G.ex a env h = .ok x h1) (ei : isInst h1 cc m x = true) (hs : G.es as env h1 = .ok vs h2) (e : G.φ f (x :: vs) h2 = .ok y h3) : G.ex (.meth cc m f a as) env h = .ok y h3 := by
  simp only [Gx.ex, methE, ha, rb_ok, ei, if_true, hs, e]
theorem x_new {nx cc f : Nat} {as : Es} {vs : List Vl} (ha : G.es as env h = .ok vs h1) (e : G.φ f (.rf h1.length :: vs) (h1 ++ [some (.ins cc [])]) = .ok (.fz .non) h2) : G.ex (.new nx cc f as) env h = .ok (.rf h1.length) h2 := by
  simp only [Gx.ex, newE, ha, rb_ok, e]
theorem x_join (ho : G.ex o env h = .ok (.fz (.str z0)) h1) (ha : G.ex a env h1 = .ok (.fz d) h2) (e : joinV (.str z0) d = some d2) : G.ex (.join o a) env h = .ok (.fz d2) h2 := by
  simp only [Gx.ex, joinE, ho, rb_ok, isStrV, if_true, ha, opA_fz, e, liftF_some]
theorem x_get {kk ee : Ex} (ho : G.ex o env h = .ok x h1) (hd : isDH h1 x = true) (hk : G.ex kk env h1 = .ok y h2) (he : G.ex ee env h2 = .ok z h3) (e : getH x y z h3 = .ok v h3) : G.ex (.get o kk ee) env h = .ok v h3 := by
  simp only [Gx.ex, getE, ho, rb_ok, hd, if_true, hk, he, e]
theorem x_tup' {as : Es} {vs : List Vl} {ds : List PV} (ha : G.es as env h = .ok vs h1) (hl : vs.length ≤ LIM) (e : frzs vs h1 = .ok ds h2) : G.ex (.tup as) env h = .ok (.fz (.tup ds)) h2 := by
  simp only [Gx.ex, tupE, ha, rb_ok, if_pos hl, e]
theorem x_lst' {as : Es} {vs : List Vl} {ds : List PV} (ha : G.es as env h = .ok vs h1) (hl : vs.length ≤ LIM) (e : frzs vs h1 = .ok ds h2) : G.ex (.lst as) env h = .ok (.fz (.lst ds)) h2 := by
  simp only [Gx.ex, lstE, ha, rb_ok, if_pos hl, e]
/-! ### a chain -/
theorem t_chnB (ha : G.ex a env h = .ok (.fz d1) h1) (hb : G.ex b env h1 = .ok (.fz d2) h2) (e : cmpV k d1 d2 = some (.bl t)) (hc : t = true → G.ex c env h2 = .ok (.fz d3) h2) (e2 : cmpV j d2 d3 = some (.bl s)) : G.ts (.chn k j a b c) env h = .ok (t && s) h2 := by
  cases t with
  | true => simp only [Gx.ts, cmpT, chainV, ha, hb, hc rfl, rb_ok, opA_fz, e, e2, liftF_some, blR_bl, Bool.true_and]
  | false => simp only [Gx.ts, cmpT, chainV, ha, hb, rb_ok, opA_fz, e, liftF_some, blR_bl, Bool.false_and]
theorem x_chnB (ha : G.ex a env h = .ok (.fz d1) h1) (hb : G.ex b env h1 = .ok (.fz d2) h2) (e : cmpV k d1 d2 = some (.bl t)) (hc : t = true → G.ex c env h2 = .ok (.fz d3) h2) (e2 : cmpV j d2 d3 = some (.bl s)) : G.ex (.chn k j a b c) env h = .ok (.fz (.bl (t && s))) h2 := by
  cases t with
  | true => simp only [Gx.ex, chainV, ha, hb, hc rfl, rb_ok, opA_fz, e, e2, liftF_some, Bool.true_and]
  | false => simp only [Gx.ex, chainV, ha, hb, rb_ok, opA_fz, e, liftF_some, Bool.false_and]
/-! ### objects of a def's own: h0 ++ F -/
theorem at_app : (h0 ++ F)[h0.length + j]? = F[j]? := by rw [List.getElem?_append_right (by omega)]; congr 1; omega
theorem set_app {ob : Option MO} : (h0 ++ F).set (h0.length + j) ob = h0 ++ F.set j ob := by
  rw [List.set_append_right _ _ (by omega)]; congr 2; omega
theorem x_nlst' {as : Es} {vs : List Vl} (ha : G.es as env h = .ok vs (h0 ++ F)) (hl : vs.length ≤ LIM) : G.ex (.nlst as) env h = .ok (.rf (h0.length + F.length)) (h0 ++ (F ++ [some (.lst vs)])) := by
  rw [x_nlst ha hl, List.length_append, List.append_assoc]
theorem x_app' {xs : List Vl} (ha : G.ex o env h = .ok (.rf (h0.length + j)) (h0 ++ F)) (e1 : F[j]? = some (some (.lst xs))) (hb : G.ex a env (h0 ++ F) = .ok y (h1 ++ F1)) (hh : h1.length = h0.length) (e2 : F1[j]? = some (some (.lst xs))) (hl : xs.length < LIM) : G.ex (.app o a) env h = .ok (.fz .non) (h1 ++ F1.set j (some (.lst (xs ++ [y])))) := by
  rw [x_app ha (by rw [at_app]; exact e1) hb (by rw [← hh, at_app]; exact e2) hl, ← hh, set_app]
end
end HV
namespace HV
/-! ### comparing -/
section
variable (sp : Nat → Nat → Option Nat) (φ : Nat → List Vl → Hm → R Vl)
theorem cmp_eq_int (i j : Int) (h : Hm) : cmpG sp φ 0 (.fz (.int i)) (.fz (.int j)) h = .ok (.fz (.bl (decide (i = j)))) h := by
  rw [cmpG_ii]
  simp only [cmpV, eqE, eqD, dataP, eqvP, Bool.and_self, if_true, blO, liftF]
  by_cases e : i = j
  · subst e; simp
  · simp [e]
theorem cmp_ne_int (i j : Int) (h : Hm) : cmpG sp φ 1 (.fz (.int i)) (.fz (.int j)) h = .ok (.fz (.bl (!decide (i = j)))) h := by
  rw [cmpG_ii]
  simp only [cmpV, eqE, eqD, dataP, eqvP, Bool.and_self, if_true, blO, liftF, Option.map_some]
  by_cases e : i = j
  · subst e; simp
  · simp [e]
theorem cmp_lt_int (i j : Int) (h : Hm) : cmpG sp φ 2 (.fz (.int i)) (.fz (.int j)) h = .ok (.fz (.bl (decide (i < j)))) h := by
  rw [cmpG_ii]; rfl
theorem cmp_le_int (i j : Int) (h : Hm) : cmpG sp φ 3 (.fz (.int i)) (.fz (.int j)) h = .ok (.fz (.bl (decide (i ≤ j)))) h := by
  rw [cmpG_ii]; rfl
theorem cmp_gt_int (i j : Int) (h : Hm) : cmpG sp φ 4 (.fz (.int i)) (.fz (.int j)) h = .ok (.fz (.bl (decide (j < i)))) h := by
  rw [cmpG_ii]; rfl
theorem cmp_ge_int (i j : Int) (h : Hm) : cmpG sp φ 5 (.fz (.int i)) (.fz (.int j)) h = .ok (.fz (.bl (decide (j ≤ i)))) h := by
  rw [cmpG_ii]; rfl
theorem cmpG_ss (k : Nat) (s t : Txt) (h : Hm) : cmpG sp φ k (.fz (.str s)) (.fz (.str t)) h = liftF (cmpV k (.str s) (.str t)) h := cmpG_fz _ _ _ _ _ _ (fun _ _ z => by cases z) (fun _ _ z => by cases z)
theorem cmp_eq_str (s t : Txt) (h : Hm) : cmpG sp φ 0 (.fz (.str s)) (.fz (.str t)) h = .ok (.fz (.bl (decide (s = t)))) h := by
  rw [cmpG_ss]
  simp only [cmpV, eqE, eqD, dataP, eqvP, Bool.and_self, if_true, blO, liftF]
  by_cases e : s = t
  · subst e; simp
  · simp [e]
theorem cmp_ne_str (s t : Txt) (h : Hm) : cmpG sp φ 1 (.fz (.str s)) (.fz (.str t)) h = .ok (.fz (.bl (!decide (s = t)))) h := by
  rw [cmpG_ss]
  simp only [cmpV, eqE, eqD, dataP, eqvP, Bool.and_self, if_true, blO, liftF, Option.map_some]
  by_cases e : s = t
  · subst e; simp
  · simp [e]
theorem cmp_in_sign (c : Nat) (t : Txt) (h : Hm) : cmpG sp φ 6 (.fz (.str [c])) (.fz (.str t)) h = .ok (.fz (.bl (t.contains c))) h := by
  rw [cmpG_ss]; rfl
theorem dataStr (n : Nat) : ∀ ws : List Txt, dataPs n (ws.map .str) = true
  | [] => by simp [dataPs]
  | w :: ws => by simp [dataPs, dataP, dataStr n ws]
theorem anyStr (ws : List Txt) (t : Txt) : ((ws.map PV.str).any fun y => eqvP y (.str t)) = decide (t ∈ ws) := by
  induction ws with
  | nil => rfl
  | cons w ws ih =>
    rw [List.map_cons, List.any_cons, ih]
    by_cases e : w = t
    · subst e; simp [eqvP]
    · have e2 : ¬ t = w := fun z => e z.symm
      simp [eqvP, e, e2]
theorem cmp_in_strs (t : Txt) (ws : List Txt) (h : Hm) : cmpG sp φ 6 (.fz (.str t)) (.fz (.lst (ws.map .str))) h = .ok (.fz (.bl (decide (t ∈ ws)))) h := by
  rw [cmpG_fz _ _ _ _ _ _ (fun _ _ z => by cases z) (fun _ _ z => by cases z)]
  simp only [cmpV, inD, dataP, dataStr, Bool.and_self, if_true, anyStr, blO_some, liftF_some]
theorem cmp_ni_strs (t : Txt) (ws : List Txt) (h : Hm) : cmpG sp φ 7 (.fz (.str t)) (.fz (.lst (ws.map .str))) h = .ok (.fz (.bl (!decide (t ∈ ws)))) h := by
  rw [cmpG_fz _ _ _ _ _ _ (fun _ _ z => by cases z) (fun _ _ z => by cases z)]
  simp only [cmpV, inD, dataP, dataStr, Bool.and_self, if_true, anyStr, Option.map_some, blO_some, liftF_some]
def isNon : PV → Bool
  | .non => true
  | _ => false
theorem cmp_is_non (d : PV) (h : Hm) : cmpG sp φ 8 (.fz d) (.fz .non) h = .ok (.fz (.bl (isNon d))) h := by
  cases d <;> rfl
theorem cmp_isnt_non (d : PV) (h : Hm) : cmpG sp φ 9 (.fz d) (.fz .non) h = .ok (.fz (.bl (!isNon d))) h := by
  cases d <;> rfl
end
/-! ### sources -/
section
variable {G : Gx} {env : Env} {h h1 h2 : Hm} {a b : Ex} {d : PV}
theorem enumP_map {ι : Type} (mk : ι → PV) (ks : List ι) : enumP (ks.map mk) = ks.zipIdx.map fun x => .tup [.int (x.2 : Nat), mk x.1] := by
  simp only [enumP, List.zipIdx_map, List.map_map]
  rfl
theorem zipP_mm {ι κ : Type} (f : ι → PV) (g : κ → PV) : ∀ (as : List ι) (bs : List κ), zipP (as.map f) (bs.map g) = (as.zip bs).map fun p => .tup [f p.1, g p.2]
  | [], _ => by simp [zipP]
  | _ :: _, [] => by simp [zipP]
  | x :: as, y :: bs => by
    have := zipP_mm f g as bs
    simp only [zipP, List.map_cons, List.zip_cons_cons] at this ⊢
    rw [this]
theorem sr_enmM {ι : Type} {mk : ι → PV} {ks : List ι} (ha : G.ex a env h = .ok (.fz d) h1) (e : seqP d = some (ks.map mk)) : G.sr (.enm a) env h = .ok (fzs (ks.zipIdx.map fun x => .tup [.int (x.2 : Nat), mk x.1]), []) h1 := by
  rw [sr_enm ha e, enumP_map]
theorem sr_zipM {ι κ : Type} {f : ι → PV} {g : κ → PV} {as : List ι} {bs : List κ} {d1 d2 : PV} (ha : G.ex a env h = .ok (.fz d1) h1) (hb : G.ex b env h1 = .ok (.fz d2) h2) (e1 : seqP d1 = some (as.map f)) (e2 : seqP d2 = some (bs.map g)) : G.sr (.zip a b) env h = .ok (fzs ((as.zip bs).map fun p => .tup [f p.1, g p.2]), []) h2 := by
  rw [sr_zip ha hb e1 e2, zipP_mm]
theorem tg_tp2 {t1 t2 : Tg} {d1 d2 : PV} {e1 e2 : Env} (h1 : G.tg t1 (.fz d1) env h = some e1) (h2 : G.tg t2 (.fz d2) e1 h = some e2) : G.tg (.tp (.cons t1 (.cons t2 .nil))) (.fz (.tup [d1, d2])) env h = some e2 := by
  simp only [Gx.tg, Gx.tgs, gSeq, gsCons, gsNil, Tgs.len, List.length_cons, List.length_nil, List.map_cons, List.map_nil, h1, h2, if_true]
theorem tg_tp3 {t1 t2 t3 : Tg} {d1 d2 d3 : PV} {e1 e2 e3 : Env} (h1 : G.tg t1 (.fz d1) env h = some e1) (h2 : G.tg t2 (.fz d2) e1 h = some e2) (h3 : G.tg t3 (.fz d3) e2 h = some e3) : G.tg (.tp (.cons t1 (.cons t2 (.cons t3 .nil)))) (.fz (.tup [d1, d2, d3])) env h = some e3 := by
  simp only [Gx.tg, Gx.tgs, gSeq, gsCons, gsNil, Tgs.len, List.length_cons, List.length_nil, List.map_cons, List.map_nil, h1, h2, h3, if_true]
theorem tg_tp4 {t1 t2 t3 t4 : Tg} {d1 d2 d3 d4 : PV} {e1 e2 e3 e4 : Env} (h1 : G.tg t1 (.fz d1) env h = some e1) (h2 : G.tg t2 (.fz d2) e1 h = some e2) (h3 : G.tg t3 (.fz d3) e2 h = some e3) (h4 : G.tg t4 (.fz d4) e3 h = some e4) : G.tg (.tp (.cons t1 (.cons t2 (.cons t3 (.cons t4 .nil))))) (.fz (.tup [d1, d2, d3, d4])) env h = some e4 := by
  simp only [Gx.tg, Gx.tgs, gSeq, gsCons, gsNil, Tgs.len, List.length_cons, List.length_nil, List.map_cons, List.map_nil, h1, h2, h3, h4, if_true]
end
/-! ### all, any -/
theorem all_blm {ι : Type} (f : ι → Bool) (ks : List ι) : b1V 1 (.lst (ks.map fun i => .bl (f i))) = some (.bl (ks.all f)) := by
  have h1 : dataPs 0 (ks.map fun i => PV.bl (f i)) = true := by
    induction ks with
    | nil => simp [dataPs]
    | cons b bs ih => simp [dataPs, dataP, ih]
  simp only [b1V, allV, h1, if_true, List.all_map, Function.comp_def, trA]
theorem any_blm {ι : Type} (f : ι → Bool) (ks : List ι) : b1V 2 (.lst (ks.map fun i => .bl (f i))) = some (.bl (ks.any f)) := by
  have h1 : dataPs 0 (ks.map fun i => PV.bl (f i)) = true := by
    induction ks with
    | nil => simp [dataPs]
    | cons b bs ih => simp [dataPs, dataP, ih]
  simp only [b1V, anyV, h1, if_true, List.any_map, Function.comp_def, trA]
end HV

end

section
/-! W3: objects of a def's own: where they lie, what becomes of the heap. Core Lean. -/
namespace HV
/-- nothing in the heap leads beyond it -/
def Cl (h : Hm) : Prop := h.all (refsO h.length) = true
theorem cut_cl {h F : Hm} {n : Nat} (hn : n = h.length) (hc : Cl h) : cutH false n (h ++ F) = some h := by
  subst hn
  unfold cutH
  rw [if_neg Bool.false_ne_true]
  by_cases hF : (h ++ F).length = h.length
  · have : F = [] := by
      rw [List.length_append] at hF
      exact List.eq_nil_of_length_eq_zero (by omega)
    subst this
    rw [if_pos hF, List.append_nil]
  · rw [if_neg hF]
    simp only [List.take_left]
    exact if_pos hc
theorem Cl.app {h F : Hm} (hc : Cl h) (hF : noRef F) : Cl (h ++ F) := by
  unfold Cl
  rw [List.all_append, Bool.and_eq_true]
  refine ⟨List.all_eq_true.mpr fun o ho => refsO_mono (by simp) (List.all_eq_true.mp hc o ho), List.all_eq_true.mpr fun o ho => refsO_mono (Nat.zero_le _) (List.all_eq_true.mp hF o ho)⟩
theorem Cl_hp {S S' : Sm} {E : Hm} (hc : Cl (hp S E)) : Cl (hp S' E) := by
  unfold Cl HV.hp at *
  simp only [List.all_cons, Bool.and_eq_true] at hc ⊢
  refine ⟨?_, ?_, hc.2.2⟩
  · simp [refsO, refsV, ivls]
  · simp [refsO, refsV]
theorem Cl_hpF {S S' : Sm} {E F : Hm} (hc : Cl (hp S E ++ F)) : Cl (hp S' E ++ F) := Cl_hp (E := E ++ F) hc
theorem noRef_nil : noRef [] := rfl
theorem noRef_non {F : Hm} (h : noRef F) : noRef (none :: F) := h
theorem noRef_lst {F : Hm} {ds : List PV} (h : noRef F) : noRef (some (.lst (fzs ds)) :: F) := by
  unfold noRef at *
  rw [List.all_cons, h, Bool.and_true]
  simp [refsO, fzs, refsV]
theorem noRef_lst0 {F : Hm} (h : noRef F) : noRef (some (.lst []) :: F) := noRef_lst (ds := []) h
theorem noRef_dct {F : Hm} {ds : List (PV × PV)} (h : noRef F) : noRef (some (.dct (ds.map fun p => (p.1, .fz p.2))) :: F) := by
  unfold noRef at *
  rw [List.all_cons, h, Bool.and_true]
  simp [refsO, refsV]
theorem noRef_dct0 {F : Hm} (h : noRef F) : noRef (some (.dct []) :: F) := noRef_dct (ds := []) h
theorem noRef_ins {F : Hm} {c : Nat} {fs : List (Nat × PV)} (h : noRef F) : noRef (some (.ins c (fs.map fun p => (p.1, .fz p.2))) :: F) := by
  unfold noRef at *
  rw [List.all_cons, h, Bool.and_true]
  simp [refsO, refsV]
theorem atP_nat {α : Type} {xs : List α} {i : Int} (h0 : 0 ≤ i) (h1 : i < xs.length) : ∃ x ∈ xs, atP xs i = some x ∧ xs[i.toNat]? = some x := by
  have hl : i.toNat < xs.length := by omega
  refine ⟨xs[i.toNat], List.getElem_mem hl, ?_, List.getElem?_eq_getElem hl⟩
  unfold atP ixP
  rw [if_pos h0, if_pos h1]
  exact List.getElem?_eq_getElem hl
/-! ### where objects lie: at the end of a heap -/
section
variable {h F : Hm} {o o' a b c d : Option MO}
theorem ha0 : (h ++ o :: F)[h.length]? = some o := by simp
theorem ha1 : (h ++ a :: o :: F)[h.length + 1]? = some o := by simp
theorem ha2 : (h ++ a :: b :: o :: F)[h.length + 2]? = some o := by simp
theorem ha3 : (h ++ a :: b :: c :: o :: F)[h.length + 3]? = some o := by simp
theorem hs0 : (h ++ o :: F).set h.length o' = h ++ o' :: F := by simp
theorem hs1 : (h ++ a :: o :: F).set (h.length + 1) o' = h ++ a :: o' :: F := by simp
theorem hs2 : (h ++ a :: b :: o :: F).set (h.length + 2) o' = h ++ a :: b :: o' :: F := by simp
theorem hs3 : (h ++ a :: b :: c :: o :: F).set (h.length + 3) o' = h ++ a :: b :: c :: o' :: F := by simp
theorem hl0 : (h ++ []).length = h.length := by simp
theorem hl1 : (h ++ [a]).length = h.length + 1 := by simp
theorem hl2 : (h ++ [a, b]).length = h.length + 2 := by simp
theorem hl3 : (h ++ [a, b, c]).length = h.length + 3 := by simp
theorem hc0 : (h ++ []) ++ [o] = h ++ [o] := by simp
theorem hc1 : (h ++ [a]) ++ [o] = h ++ [a, o] := by simp
theorem hc2 : (h ++ [a, b]) ++ [o] = h ++ [a, b, o] := by simp
theorem hc3 : (h ++ [a, b, c]) ++ [o] = h ++ [a, b, c, o] := by simp
variable {S : Sm} {E : Hm}
theorem pa0 : (hp S E ++ o :: F)[E.length + 2]? = some o := ha0 (h := hp S E)
theorem pa1 : (hp S E ++ a :: o :: F)[E.length + 3]? = some o := ha1 (h := hp S E)
theorem pa2 : (hp S E ++ a :: b :: o :: F)[E.length + 4]? = some o := ha2 (h := hp S E)
theorem pa3 : (hp S E ++ a :: b :: c :: o :: F)[E.length + 5]? = some o := ha3 (h := hp S E)
theorem ps0 : (hp S E ++ o :: F).set (E.length + 2) o' = hp S E ++ o' :: F := hs0 (h := hp S E)
theorem ps1 : (hp S E ++ a :: o :: F).set (E.length + 3) o' = hp S E ++ a :: o' :: F := hs1 (h := hp S E)
theorem ps2 : (hp S E ++ a :: b :: o :: F).set (E.length + 4) o' = hp S E ++ a :: b :: o' :: F := hs2 (h := hp S E)
theorem ps3 : (hp S E ++ a :: b :: c :: o :: F).set (E.length + 5) o' = hp S E ++ a :: b :: c :: o' :: F := hs3 (h := hp S E)
theorem pl0 : (hp S E ++ []).length = E.length + 2 := hl0 (h := hp S E)
theorem pl1 : (hp S E ++ [a]).length = E.length + 3 := hl1 (h := hp S E)
theorem pl2 : (hp S E ++ [a, b]).length = E.length + 4 := hl2 (h := hp S E)
theorem pl3 : (hp S E ++ [a, b, c]).length = E.length + 5 := hl3 (h := hp S E)
end
section
variable {G : Gx} {env e1 : Env} {h h0 h1 h2 h3 h4 : Hm} {F F1 F2 : Hm} {a b c o : Ex} {x y z v : Vl} {d d1 d2 d3 : PV} {k i j n : Nat} {out : SO} {t s : Bool} {u w : Ts} {p q : Sts}
theorem x_nlst3 {as : Es} {vs : List Vl} (ha : G.es as env h = .ok vs h1) (hl : vs.length ≤ LIM) (e1 : h1.length = n) (e2 : h1 ++ [some (.lst vs)] = h2) : G.ex (.nlst as) env h = .ok (.rf n) h2 := by
  subst e1; subst e2; exact x_nlst ha hl
theorem x_app3 {xs : List Vl} (ha : G.ex o env h = .ok (.rf n) h1) (e1 : h1[n]? = some (some (.lst xs))) (hb : G.ex a env h1 = .ok y h2) (e2 : h2[n]? = some (some (.lst xs))) (hl : xs.length < LIM) (e3 : h2.set n (some (.lst (xs ++ [y]))) = h3) : G.ex (.app o a) env h = .ok (.fz .non) h3 := by
  subst e3; exact x_app ha e1 hb e2 hl
/-- .. of things that stay -/
theorem x_app4 {ds : List PV} (ha : G.ex o env h = .ok (.rf n) h1) (e1 : h1[n]? = some (some (.lst (fzs ds)))) (hb : G.ex a env h1 = .ok (.fz d) h2) (e2 : h2[n]? = some (some (.lst (fzs ds)))) (hl : ds.length < LIM) (e3 : h2.set n (some (.lst (fzs (ds ++ [d])))) = h3) : G.ex (.app o a) env h = .ok (.fz .non) h3 :=
  x_app3 ha e1 hb e2 (by rw [fzs_len]; exact hl) (by rw [← e3]; simp [fzs])
theorem x_frz3 {ds : List PV} (ha : G.ex a env h = .ok (.rf n) h1) (e1 : h1[n]? = some (some (.lst (fzs ds)))) (e2 : h1.set n none = h2) : G.ex (.frz a) env h = .ok (.fz (.lst ds)) h2 := by
  subst e2; exact x_frz ha (frz_fzsL e1)
theorem cmp_in_rf {sp : Nat → Nat → Option Nat} {φ : Nat → List Vl → Hm → R Vl} {t : Txt} {ws : List Txt} (e : h[n]? = some (some (.lst (fzs (ws.map .str))))) : cmpG sp φ 6 (.fz (.str t)) (.rf n) h = .ok (.fz (.bl (decide (t ∈ ws)))) h := by
  have e1 : clsOfV h (.rf n) = none := by simp only [clsOfV, e]
  unfold cmpG
  rw [if_pos (by decide), e1]
  simp only [opA, vw_fzs e, vw_fz, cmpV, inD, dataP, dataStr, Bool.and_self, if_true, anyStr, blO_some, liftF_some]
theorem cmp_ni_rf {sp : Nat → Nat → Option Nat} {φ : Nat → List Vl → Hm → R Vl} {t : Txt} {ws : List Txt} (e : h[n]? = some (some (.lst (fzs (ws.map .str))))) : cmpG sp φ 7 (.fz (.str t)) (.rf n) h = .ok (.fz (.bl (!decide (t ∈ ws)))) h := by
  have e1 : clsOfV h (.rf n) = none := by simp only [clsOfV, e]
  unfold cmpG
  rw [if_pos (by decide), e1]
  simp only [opA, vw_fzs e, vw_fz, cmpV, inD, dataP, dataStr, Bool.and_self, if_true, anyStr, Option.map_some, blO_some, liftF_some]
/-- a walk over a list of the def's own, which is locked -/
theorem x_lcL3 {own : List Nat} {tg : Tg} {src : Ex} {t : Ts} {ds : List PV} {ys : List PV} (hs : G.ex src env h = .ok (.rf n) h1) (e1 : h1[n]? = some (some (.lst (fzs ds)))) (e2 : h1.set n none = h2) (hl : lcN (G.tg tg) (G.ts t) (frzR (G.ex a)) (wipeE own env) (fzs ds) h2 = .ok ys h3) (e3 : h3.set n (some (.lst (fzs ds))) = h4) : G.ex (.lc own tg (.val src) t a) env h = .ok (.fz (.lst ys)) h4 := by
  subst e2; subst e3; exact x_lcL (sr_rf hs e1) hl
theorem ss_par3 {is : List Nat} {es : Es} {vs : List Vl} {e : Env} (ha : G.es es env h = .ok vs h1) (e1 : setL is vs env = some e) : G.st (.par is es) env h = .nx e h1 := by
  simp only [Gx.st, ha, rs_ok, e1, nxG]
theorem s_setT3 {tt : Tg} {e : Env} (ha : G.ex a env h = .ok x h1) (e1 : G.tg tt x env h1 = some e) : G.st (.setT tt a) env h = .nx e h1 := by
  simp only [Gx.st, ha, rs_ok, e1, nxG]
theorem s_aug3 {m l : Int} (e1 : env[i]? = some (some (.fz (.int m)))) (ha : G.ex a env h = .ok (.fz (.int l)) h1) (hi : i < env.length) : G.st (.aug i 0 a) env h = .nx (env.set i (some (.fz (.int (m + l))))) h1 := by
  simp only [Gx.st, augE, e1, ha, rs_ok, augV, if_true, setE, if_pos hi]
end
/-! ### loops -/
section
variable {g : Vl → Env → Hm → Option Env} {b : Env → Hm → SO}
/-- a loop that goes to its end: what holds ahead of each thing -/
theorem forN_all {ι : Type} {mk : ι → PV} {ks : List ι} {env : Env} {h : Hm} (I : List ι → Env → Hm → Prop) (h0 : I [] env h)
    (H : ∀ pre i post, ks = pre ++ i :: post → ∀ env h, I pre env h → ∃ e1, g (.fz (mk i)) env h = some e1 ∧ ∃ e2 h', b e1 h = .nx e2 h' ∧ I (pre ++ [i]) e2 h') : ∃ e2 h', forN g b (fzs (ks.map mk)) env h = .nx e2 h' ∧ I ks e2 h' := by
  have : ∀ (post pre : List ι) (env : Env) (h : Hm), ks = pre ++ post → I pre env h → ∃ e2 h', forN g b (fzs (post.map mk)) env h = .nx e2 h' ∧ I ks e2 h' := by
    intro post
    induction post with
    | nil => intro pre env h e i; exact ⟨env, h, rfl, by rw [e, List.append_nil]; exact i⟩
    | cons x post ih =>
      intro pre env h e i
      obtain ⟨e1, h1, e2, h', h2, i'⟩ := H pre x post e env h i
      obtain ⟨e3, h'', q1, q2⟩ := ih (pre ++ [x]) e2 h' (by rw [e]; simp) i'
      exact ⟨e3, h'', by show forN g b (.fz (mk x) :: fzs (post.map mk)) env h = _; simp only [forN, h1, h2, q1], q2⟩
  exact this ks [] env h rfl h0
/-- a loop that is left with an answer at the first thing that passes -/
theorem forN_find {ι : Type} {mk : ι → PV} {h : Hm} (P : ι → Bool) (r : ι → Vl) (J : Env → Prop) : ∀ (ks : List ι) (env : Env), J env →
    (∀ i ∈ ks, ∀ env, J env → ∃ e1, g (.fz (mk i)) env h = some e1 ∧ (P i = true → b e1 h = .rt (r i) h) ∧ (P i = false → ∃ e2, b e1 h = .nx e2 h ∧ J e2)) →
    (∀ i, ks.find? P = some i → forN g b (fzs (ks.map mk)) env h = .rt (r i) h) ∧ (ks.find? P = none → ∃ e2, forN g b (fzs (ks.map mk)) env h = .nx e2 h ∧ J e2)
  | [], env, j, _ => ⟨fun i e => (by cases e), fun _ => ⟨env, rfl, j⟩⟩
  | x :: ks, env, j, H => by
    obtain ⟨e1, h1, h2, h3⟩ := H x (by simp) env j
    rw [List.find?_cons]
    cases q : P x with
    | true =>
      refine ⟨fun i e => ?_, fun e => (by cases e)⟩
      cases e
      show forN g b (.fz (mk x) :: fzs (ks.map mk)) env h = _
      simp only [forN, h1, h2 q]
    | false =>
      obtain ⟨e2, h4, j2⟩ := h3 q
      have ih := forN_find P r J ks e2 j2 fun i hi => H i (List.mem_cons_of_mem _ hi)
      have e : forN g b (fzs ((x :: ks).map mk)) env h = forN g b (fzs (ks.map mk)) e2 h := by
        show forN g b (.fz (mk x) :: fzs (ks.map mk)) env h = _
        simp only [forN, h1, h4]
      rw [e]
      exact ih
/-- a comprehension with state, all pass -/
theorem lcN_st {ι β : Type} {c : Env → Hm → R Bool} {e : Env → Hm → R β} {env : Env} {mk : ι → PV} {ks : List ι} {h : Hm} (I : List ι → List β → Hm → Prop) (h0 : I [] [] h)
    (H : ∀ pre i post ys, ks = pre ++ i :: post → ∀ h, I pre ys h → ∃ e1, g (.fz (mk i)) env h = some e1 ∧ c e1 h = .ok true h ∧ ∃ y h', e e1 h = .ok y h' ∧ I (pre ++ [i]) (ys ++ [y]) h') : ∃ ys h', lcN g c e env (fzs (ks.map mk)) h = .ok ys h' ∧ I ks ys h' := by
  have : ∀ (post pre : List ι) (ys : List β) (h : Hm), ks = pre ++ post → I pre ys h → ∃ zs h', lcN g c e env (fzs (post.map mk)) h = .ok zs h' ∧ I ks (ys ++ zs) h' := by
    intro post
    induction post with
    | nil => intro pre ys h e i; exact ⟨[], h, rfl, by rw [e, List.append_nil, List.append_nil]; exact i⟩
    | cons x post ih =>
      intro pre ys h e1 i
      obtain ⟨e2, h1, h2, y, h', h3, i'⟩ := H pre x post ys e1 h i
      obtain ⟨zs, h'', q1, q2⟩ := ih (pre ++ [x]) (ys ++ [y]) h' (by rw [e1]; simp) i'
      refine ⟨y :: zs, h'', ?_, by rw [List.append_assoc] at q2; exact q2⟩
      show lcN g c e env (.fz (mk x) :: fzs (post.map mk)) h = _
      simp only [lcN, h1, h2, sure_ok, rb_ok, if_true, h3, q1]
  obtain ⟨zs, h', q1, q2⟩ := this ks [] [] h rfl h0
  exact ⟨zs, h', q1, q2⟩
end
end HV

end

section
/-! W4: what holds behind a run: a calculus over the big steps. Core Lean. -/
namespace HV
def W (o : SO) (Q : SO → Prop) : Prop := Q o
def WE {α : Type} (o : R α) (Q : α → Hm → Prop) : Prop := ∃ v h, o = .ok v h ∧ Q v h
/-- the rest of a block -/
def aft (G : Gx) (r : Sts) (Q : SO → Prop) : SO → Prop
  | .nx e h => W (G.sts r e h) Q
  | o => Q o
/-- behind a turn of a loop -/
def turn (G : Gx) (r : Sts) (Q : SO → Prop) (I : Env → Hm → Prop) : SO → Prop
  | .nx e h => I e h
  | .ct e h => I e h
  | .bk e h => W (G.sts r e h) Q
  | .rt v h => Q (.rt v h)
  | .exc c ps h => Q (.exc c ps h)
  | .stuck => False
section
variable {G : Gx} {env e1 : Env} {h h0 h1 h2 h3 h4 : Hm} {a b c o : Ex} {x y z v : Vl} {d d1 d2 d3 : PV} {k i j n : Nat} {t s : Bool} {u w : Ts} {p q r : Sts} {st : Stm} {Q : SO → Prop}
theorem WE.imp {α : Type} {o : R α} {P Q : α → Hm → Prop} (hw : WE o P) (h : ∀ v h, P v h → Q v h) : WE o Q := by
  obtain ⟨v, h', e, p⟩ := hw
  exact ⟨v, h', e, h v h' p⟩
theorem W.imp {o : SO} {P Q : SO → Prop} (hw : W o P) (h : ∀ o, P o → Q o) : W o Q := h o hw
theorem w_nx (hs : G.st st env h = .nx e1 h1) (hr : W (G.sts r e1 h1) Q) : W (G.sts (.cons st r) env h) Q := by
  unfold W at *
  rw [bb_cons hs rfl]
  exact hr
theorem w_rt (hs : G.st st env h = .rt v h1) (hq : Q (.rt v h1)) : W (G.sts (.cons st r) env h) Q := by
  unfold W
  rw [bb_ret hs]
  exact hq
theorem w_ret (hs : G.ex a env h = .ok v h1) (hq : Q (.rt v h1)) : W (G.sts (.cons (.ret a) r) env h) Q := w_rt (s_ret0 hs) hq
theorem w_retE (hs : WE (G.ex a env h) fun v h1 => Q (.rt v h1)) : W (G.sts (.cons (.ret a) r) env h) Q := by
  obtain ⟨v, h1, e, q⟩ := hs
  exact w_ret e q
theorem w_nil (hq : Q (.nx env h)) : W (G.sts .nil env h) Q := hq
theorem w_aft (hq : W (G.sts r env h) Q) : W (G.sts .nil env h) (aft G r Q) := hq
theorem w_set (hs : WE (G.ex a env h) fun v h1 => W (G.sts r (env.set i (some v)) h1) Q) (hi : i < env.length) : W (G.sts (.cons (.set i a) r) env h) Q := by
  obtain ⟨v, h1, e, q⟩ := hs
  exact w_nx (s_set0 e hi) q
theorem w_exp (hs : WE (G.ex a env h) fun v h1 => W (G.sts r env h1) Q) : W (G.sts (.cons (.exp a) r) env h) Q := by
  obtain ⟨v, h1, e, q⟩ := hs
  exact w_nx (s_exp0 e) q
theorem w_if (hc : G.ts u env h = .ok t h1) (ha : t = true → W (G.sts p env h1) (aft G r Q)) (hb : t = false → W (G.sts q env h1) (aft G r Q)) : W (G.sts (.cons (.ite u p q) r) env h) Q := by
  have key : ∀ {o : SO}, G.st (.ite u p q) env h = o → W o (aft G r Q) → W (G.sts (.cons (.ite u p q) r) env h) Q := by
    intro o e hw
    unfold W at *
    simp only [Gx.sts]
    rw [e]
    cases o <;> exact hw
  cases t with
  | true => exact key (s_iteT hc rfl) (ha rfl)
  | false => exact key (s_iteF hc rfl) (hb rfl)
theorem w_ifT (hc : G.ts u env h = .ok t h1) (ht : t = true) (ha : W (G.sts p env h1) (aft G r Q)) : W (G.sts (.cons (.ite u p q) r) env h) Q := w_if hc (fun _ => ha) (fun z => by rw [ht] at z; cases z)
theorem w_ifF (hc : G.ts u env h = .ok t h1) (ht : t = false) (hb : W (G.sts q env h1) (aft G r Q)) : W (G.sts (.cons (.ite u p q) r) env h) Q := w_if hc (fun z => by rw [ht] at z; cases z) (fun _ => hb)
/-- a loop over things that stay -/
theorem w_for {ι : Type} {mk : ι → PV} {ks : List ι} {tt : Tg} {sr : Sr} (hs : G.sr sr env h = .ok (fzs (ks.map mk), []) h1) (I : List ι → Env → Hm → Prop) (h0 : I [] env h1)
    (H : ∀ pre i post, ks = pre ++ i :: post → ∀ env h, I pre env h → ∃ e1, G.tg tt (.fz (mk i)) env h = some e1 ∧ W (G.sts p e1 h) (turn G r Q (I (pre ++ [i])))) (hr : ∀ e2 h2, I ks e2 h2 → W (G.sts r e2 h2) Q) : W (G.sts (.cons (.for_ tt sr p) r) env h) Q := by
  have : ∀ (post pre : List ι) (env : Env) (h : Hm), ks = pre ++ post → I pre env h → W ((forN (G.tg tt) (G.sts p) (fzs (post.map mk)) env h).bind (G.sts r)) Q := by
    intro post
    induction post with
    | nil => intro pre env h e i; exact hr env h (by rw [e, List.append_nil]; exact i)
    | cons x post ih =>
      intro pre env h e i
      obtain ⟨e1, h1, hw⟩ := H pre x post e env h i
      show W ((forN (G.tg tt) (G.sts p) (.fz (mk x) :: fzs (post.map mk)) env h).bind (G.sts r)) Q
      simp only [forN, h1]
      unfold W at hw
      cases q : G.sts p e1 h with
      | nx e2 h2 => rw [q] at hw; exact ih (pre ++ [x]) e2 h2 (by rw [e]; simp) hw
      | ct e2 h2 => rw [q] at hw; exact ih (pre ++ [x]) e2 h2 (by rw [e]; simp) hw
      | bk e2 h2 => rw [q] at hw; exact hw
      | rt v h2 => rw [q] at hw; exact hw
      | exc c ps h2 => rw [q] at hw; exact hw
      | stuck => rw [q] at hw; exact hw.elim
  have := this ks [] env h1 rfl h0
  unfold W at *
  simp only [Gx.sts, Gx.st, hs, rs_ok, lockH, unlkS_nil]
  exact this
/-- a while loop: so many turns at most -/
theorem w_while (m : Nat) (I : Nat → Env → Hm → Prop) (hm : m < G.fuel) (h0 : I m env h) (H : ∀ m env h, I m env h → ∃ t h1, G.ts u env h = .ok t h1 ∧ (t = false → W (G.sts r env h1) Q) ∧ (t = true → W (G.sts p env h1) (turn G r Q fun e h => ∃ m', m' < m ∧ I m' e h))) : W (G.sts (.cons (.whl u p) r) env h) Q := by
  have : ∀ (f m : Nat) (env : Env) (h : Hm), m < f → I m env h → W ((whileN (G.ts u) (G.sts p) f env h).bind (G.sts r)) Q := by
    intro f
    induction f with
    | zero => intro m env h hm; omega
    | succ f ih =>
      intro m env h hm i
      obtain ⟨t, h1, ht, hf, hT⟩ := H m env h i
      simp only [whileN, ht, rs_ok]
      cases t with
      | false => exact hf rfl
      | true =>
        have hw := hT rfl
        unfold W at hw
        rw [if_pos rfl]
        cases q : G.sts p env h1 with
        | nx e2 h2 => rw [q] at hw; obtain ⟨m', hm', i'⟩ := hw; exact ih m' e2 h2 (by omega) i'
        | ct e2 h2 => rw [q] at hw; obtain ⟨m', hm', i'⟩ := hw; exact ih m' e2 h2 (by omega) i'
        | bk e2 h2 => rw [q] at hw; exact hw
        | rt v h2 => rw [q] at hw; exact hw
        | exc c ps h2 => rw [q] at hw; exact hw
        | stuck => rw [q] at hw; exact hw.elim
  have := this G.fuel m env h hm h0
  unfold W at *
  simp only [Gx.sts, Gx.st]
  exact this
theorem w_turn {I : Env → Hm → Prop} (hq : I env h) : W (G.sts .nil env h) (turn G r Q I) := hq
/-! ### expressions -/
theorem we_ok {α : Type} {o : R α} {v : α} {Q : α → Hm → Prop} (e : o = .ok v h1) (q : Q v h1) : WE o Q := ⟨v, h1, e, q⟩
theorem we_lc {ι : Type} {mk : ι → PV} {ks : List ι} {own : List Nat} {tg : Tg} {src : Sr} {ts : Ts} {Q : Vl → Hm → Prop} (hs : G.sr src env h = .ok (fzs (ks.map mk), []) h1) (I : List ι → List PV → Hm → Prop) (h0 : I [] [] h1)
    (H : ∀ pre i post ys, ks = pre ++ i :: post → ∀ h, I pre ys h → ∃ e1, G.tg tg (.fz (mk i)) (wipeE own env) h = some e1 ∧ G.ts ts e1 h = .ok true h ∧ WE (G.ex a e1 h) fun v h' => ∃ d, v = .fz d ∧ I (pre ++ [i]) (ys ++ [d]) h') (hq : ∀ ys h', I ks ys h' → Q (.fz (.lst ys)) h') : WE (G.ex (.lc own tg src ts a) env h) Q := by
  obtain ⟨ys, h', e, i⟩ := lcN_st (g := G.tg tg) (c := G.ts ts) (e := frzR (G.ex a)) (env := wipeE own env) (mk := mk) (ks := ks) (h := h1) I h0 fun pre i post ys e h ih => by
    obtain ⟨e1, g1, g2, v, h', g3, d, rfl, g4⟩ := H pre i post ys e h ih
    exact ⟨e1, g1, g2, d, h', frzR_ok g3, g4⟩
  exact ⟨_, h', x_lc hs e, hq ys h' i⟩
theorem we_join {z0 : Txt} {Q : Vl → Hm → Prop} (ha : WE (G.ex a env h) fun v h1 => ∃ d d2, v = .fz d ∧ joinV (.str z0) d = some d2 ∧ Q (.fz d2) h1) : WE (G.ex (.join (.cst (.str z0)) a) env h) Q := by
  obtain ⟨v, h1, e, d, d2, rfl, e2, q⟩ := ha
  exact ⟨_, h1, x_join (x_cst rfl) e e2, q⟩
theorem we_s1 {Q : Vl → Hm → Prop} (ha : WE (G.ex a env h) fun v h1 => ∃ d d2, v = .fz d ∧ s1V k d = some d2 ∧ Q (.fz d2) h1) : WE (G.ex (.s1 k a) env h) Q := by
  obtain ⟨v, h1, e, d, d2, rfl, e2, q⟩ := ha
  exact ⟨_, h1, x_s1 e e2, q⟩
theorem we_es_nil {Q : List Vl → Hm → Prop} (q : Q [] h) : WE (G.es .nil env h) Q := ⟨[], h, rfl, q⟩
theorem we_es_cons {es : Es} {Q : List Vl → Hm → Prop} (ha : WE (G.ex a env h) fun v h1 => WE (G.es es env h1) fun vs h2 => Q (v :: vs) h2) : WE (G.es (.cons a es) env h) Q := by
  obtain ⟨v, h1, e, vs, h2, e2, q⟩ := ha
  exact ⟨_, h2, es_cons0 e e2, q⟩
theorem we_tup {es : Es} {Q : Vl → Hm → Prop} (ha : WE (G.es es env h) fun vs h1 => vs.length ≤ LIM ∧ ∃ ds h2, frzs vs h1 = .ok ds h2 ∧ Q (.fz (.tup ds)) h2) : WE (G.ex (.tup es) env h) Q := by
  obtain ⟨vs, h1, e, hl, ds, h2, e2, q⟩ := ha
  exact ⟨_, h2, x_tup' e hl e2, q⟩
theorem we_lst {es : Es} {Q : Vl → Hm → Prop} (ha : WE (G.es es env h) fun vs h1 => vs.length ≤ LIM ∧ ∃ ds h2, frzs vs h1 = .ok ds h2 ∧ Q (.fz (.lst ds)) h2) : WE (G.ex (.lst es) env h) Q := by
  obtain ⟨vs, h1, e, hl, ds, h2, e2, q⟩ := ha
  exact ⟨_, h2, x_lst' e hl e2, q⟩
theorem we_call {f : Nat} {as : Es} {Q : Vl → Hm → Prop} (ha : WE (G.es as env h) fun vs h1 => WE (G.φ f vs h1) Q) : WE (G.ex (.call f as) env h) Q := by
  obtain ⟨vs, h1, e, v, h2, e2, q⟩ := ha
  exact ⟨_, h2, x_call e e2, q⟩
theorem w_par {is : List Nat} {es : Es} (ha : WE (G.es es env h) fun vs h1 => ∃ e, setL is vs env = some e ∧ W (G.sts r e h1) Q) : W (G.sts (.cons (.par is es) r) env h) Q := by
  obtain ⟨vs, h1, e, e2, e3, q⟩ := ha
  exact w_nx (ss_par3 e e3) q
theorem w_setT {tt : Tg} (ha : WE (G.ex a env h) fun v h1 => ∃ e, G.tg tt v env h1 = some e ∧ W (G.sts r e h1) Q) : W (G.sts (.cons (.setT tt a) r) env h) Q := by
  obtain ⟨v, h1, e, e2, e3, q⟩ := ha
  exact w_nx (s_setT3 e e3) q
theorem sr_rngM {m : Nat} (ha : G.ex a env h = .ok (.fz (.int (m : Int))) h1) (hm : m ≤ 16777216) : G.sr (.rng a) env h = .ok (fzs ((List.range m).map fun (i : Nat) => PV.int (i : Int)), []) h1 := by
  have := sr_rng (G := G) (env := env) ha (by omega)
  simpa [rng] using this
theorem sr_rngI {j : Int} (ha : G.ex a env h = .ok (.fz (.int j)) h1) (hj : -4611686018427387904 ≤ j ∧ j ≤ 16777216) : G.sr (.rng a) env h = .ok (fzs ((List.range j.toNat).map fun (i : Nat) => PV.int (i : Int)), []) h1 := sr_rng ha hj
theorem idx_zero {d : PV} {ds : List PV} {h : Hm} : idxH (.fz (.lst (d :: ds))) (.fz (.int 0)) h = .ok (.fz d) h := by
  simp [idxH, idxV, atP, ixP, liftF]
theorem frzs_nil : frzs [] h = .ok [] h := rfl
theorem frzs_fz {vs : List Vl} {ds : List PV} (e : frzs vs h = .ok ds h1) : frzs (.fz d :: vs) h = .ok (d :: ds) h1 := by simp only [frzs, frz_fz, rb_ok, e]
theorem frzs_rf {vs : List Vl} {ds es : List PV} (e0 : h[n]? = some (some (.lst (fzs es)))) (e1 : h.set n none = h1) (e : frzs vs h1 = .ok ds h2) : frzs (.rf n :: vs) h = .ok (.lst es :: ds) h2 := by
  subst e1
  simp only [frzs, frz_fzsL e0, rb_ok, e]
theorem p100 : (2:Nat) ^ 100 = 1267650600228229401496703205376 := by decide
theorem mul_ii {i j : Int} (h1 : i.natAbs < 1000000000000000000000000) (h2 : j.natAbs < 1000000000000000000000000) : binV 2 (.int i) (.int j) = some (.int (i * j)) := mul_small (by rw [p100]; omega) (by rw [p100]; omega)
theorem mod_ii {i j : Int} (h1 : 0 < j) : binV 4 (.int i) (.int j) = some (.int (i % j)) := by
  have : modV (.int i) (.int j) = some (.int (i % j)) := by simp only [modV, if_pos h1]
  exact this
theorem idx_lst {ds : List PV} {i : Int} (e : atP ds i = some d) : idxH (.fz (.lst ds)) (.fz (.int i)) h = .ok (.fz d) h := by
  simp only [idxH, idxV, e, liftF_some]
theorem t_andF' (ha : G.ts u env h = .ok t h1) (ht : t = false) : G.ts (.and u w) env h = .ok false h1 := t_andF (by rw [← ht]; exact ha)
theorem t_andT' (ha : G.ts u env h = .ok t h1) (ht : t = true) (hb : G.ts w env h1 = .ok s h2) : G.ts (.and u w) env h = .ok s h2 := t_andT (by rw [← ht]; exact ha) hb
theorem t_orT' (ha : G.ts u env h = .ok t h1) (ht : t = true) : G.ts (.or u w) env h = .ok true h1 := t_orT (by rw [← ht]; exact ha)
theorem t_orF' (ha : G.ts u env h = .ok t h1) (ht : t = false) (hb : G.ts w env h1 = .ok s h2) : G.ts (.or u w) env h = .ok s h2 := t_orF (by rw [← ht]; exact ha) hb
end
end HV

end

section
/-! W5: dicts, objects. Core Lean. -/
namespace HV
theorem eqvP_str (s t : Txt) : eqvP (.str s) (.str t) = (s == t) := by simp [eqvP]
theorem putD_new {α : Type} {ds : List (PV × α)} {k : PV} {v : α} (h : ∀ p ∈ ds, eqvP p.1 k = false) : putD ds k v = ds ++ [(k, v)] := by
  unfold putD
  rw [if_neg]
  intro z
  obtain ⟨p, hp, e⟩ := List.any_eq_true.mp z
  rw [h p hp] at e
  cases e
/-- a dict of unlike texts -/
theorem merge_strs {ι α : Type} (f : ι → Txt) (g : ι → α) : ∀ (ws vs : List ι), ((vs ++ ws).map f).Nodup → mergeD (vs.map fun w => (PV.str (f w), g w)) (ws.map fun w => (PV.str (f w), g w)) = (vs ++ ws).map fun w => (PV.str (f w), g w)
  | [], vs, _ => by simp [mergeD]
  | w :: ws, vs, nd => by
    have hw : f w ∉ vs.map f := fun z => by
      rw [List.map_append] at nd
      exact (List.nodup_append.mp nd).2.2 (f w) z (f w) (by simp) rfl
    show mergeD (putD (vs.map fun w => (PV.str (f w), g w)) (.str (f w)) (g w)) (ws.map fun w => (PV.str (f w), g w)) = _
    rw [putD_new (fun p hp => by
      obtain ⟨v, hv, rfl⟩ := List.mem_map.mp hp
      show eqvP (.str (f v)) (.str (f w)) = false
      rw [eqvP_str, beq_eq_false_iff_ne]
      exact fun z => hw (z ▸ List.mem_map_of_mem hv))]
    have := merge_strs f g ws (vs ++ [w]) (by simpa using nd)
    simp only [List.map_append, List.map_cons, List.map_nil, List.append_assoc, List.cons_append, List.nil_append] at this ⊢
    exact this
theorem mapH_snd {κ : Type} (k : Nat) : ∀ (kvs : List (κ × PV)) (h : Hm), mapH (sndH (frzV k)) (kvs.map fun p => (p.1, Vl.fz p.2)) h = some (kvs, h) := by
  intro kvs
  induction kvs with
  | nil => intro h; rfl
  | cons p kvs ih =>
    intro h
    have e : frzV k (.fz p.2) h = some (p.2, h) := by cases k <;> rfl
    simp only [List.map_cons, mapH, sndH, e, ih]
theorem frz_dctL {h : Hm} {n : Nat} {kvs : List (PV × PV)} (e : h[n]? = some (some (.dct (kvs.map fun p => (p.1, .fz p.2))))) : frz (.rf n) h = .ok (.dct kvs) (h.set n none) := by
  simp only [frz, frzV, e, mapH_snd]
section
variable {G : Gx} {env e1 : Env} {h h0 h1 h2 h3 h4 : Hm} {a b c o u : Ex} {x y z v : Vl} {d d1 d2 d3 : PV} {k i j n : Nat}
theorem pairE_ok {f g : Env → Hm → R Vl} {s : Txt} (ha : f env h = .ok (.fz (.str s)) h1) (hb : g env h1 = .ok v h2) : pairE f g env h = .ok (.str s, v) h2 := by
  simp only [pairE, ha, hb, rb_ok, isKey, if_true]
/-- a dict's comprehension, its keys unlike texts -/
theorem x_dcS {ι : Type} {mk : ι → PV} {ks : List ι} {own : List Nat} {tg : Tg} {src : Sr} {t : Ts} {f : ι → Txt} {g : ι → PV} (hs : G.sr src env h = .ok (fzs (ks.map mk), []) h1) (hl : lcN (G.tg tg) (G.ts t) (pairE (G.ex a) (G.ex u)) (wipeE own env) (fzs (ks.map mk)) h1 = .ok (ks.map fun i => (PV.str (f i), Vl.fz (g i))) h1) (nd : (ks.map f).Nodup) (e : h1 ++ [none] = h2) : G.ex (.dc own tg src t a u) env h = .ok (.fz (.dct (ks.map fun i => (PV.str (f i), g i)))) h2 := by
  subst e
  simp only [Gx.ex, dcV, frzE, ndcV, hs, rb_ok, lockH, hl, unlkR_nil, newD]
  have hm := merge_strs f (fun i => Vl.fz (g i)) ks [] (by simpa using nd)
  simp only [List.map_nil, List.nil_append] at hm
  rw [hm]
  have := frz_dctL (h := h1 ++ [some (MO.dct (ks.map fun i => (PV.str (f i), Vl.fz (g i))))]) (n := h1.length) (kvs := ks.map fun i => (PV.str (f i), g i)) (by simp)
  rw [this]
  simp
theorem s_fld3 {f cc : Nat} {fs : List (Nat × PV)} (hv : G.ex a env h = .ok (.fz d) h1) (ho : G.ex o env h1 = .ok (.rf n) h2) (e1 : h2[n]? = some (some (.ins cc (fs.map fun p => (p.1, .fz p.2))))) (e2 : G.isF cc f = true) (hl : fs.length < 1000) (hn : (fs.map (·.1)).contains f = false) (e3 : h2.set n (some (.ins cc ((fs ++ [(f, d)]).map fun p => (p.1, .fz p.2)))) = h3) : G.st (.fld o f a) env h = .nx env h3 := by
  have hp : putP f (Vl.fz d) (fs.map fun p => (p.1, Vl.fz p.2)) = (fs ++ [(f, d)]).map fun p => (p.1, Vl.fz p.2) := by
    clear e1 e3 hl
    induction fs with
    | nil => rfl
    | cons p fs ih =>
      simp only [List.map_cons, List.contains_cons, Bool.or_eq_false_iff] at hn
      have hne : ¬ p.1 = f := fun z => by rw [z] at hn; simp at hn
      simp only [List.map_cons, List.cons_append, putP, if_neg hne, ih hn.2]
  refine s_fld0 (v := .fz .non) hv ho ?_
  simp only [fldH, e1, List.length_map]
  rw [if_pos ⟨e2, hl⟩, hp, e3]
theorem x_frzI {cc : Nat} {fs : List (Nat × PV)} (ha : G.ex a env h = .ok (.rf n) h1) (e1 : h1[n]? = some (some (.ins cc (fs.map fun p => (p.1, .fz p.2))))) (e2 : h1.set n none = h2) : G.ex (.frz a) env h = .ok (.fz (.obj cc fs)) h2 := by
  subst e2
  refine x_frz ha ?_
  simp only [frz, frzV, e1, mapH_snd]
end
end HV

end

section
/-! W6: errors. Core Lean. -/
namespace HV
section
variable {G : Gx} {env e1 : Env} {h h1 h2 h3 : Hm} {a b c o : Ex} {x y v : Vl} {d d1 : PV} {k i n xn cx : Nat} {ps : List PV} {r : Sts} {st : Stm} {Q : SO → Prop} {td : Td}
theorem x_dct0 (e : h ++ [none] = h2) : G.ex (.dct .nil) env h = .ok (.fz (.dct [])) h2 := by
  subst e
  have := frz_dctL (h := h ++ [some (MO.dct [])]) (n := h.length) (kvs := []) (by simp)
  simp only [Gx.ex, dctE, ndctE, Gx.es, esNil, rb_ok, prs, List.length_nil, Nat.zero_le, if_true, newD, mergeD, this]
  simp
theorem xx_call {f : Nat} {as : Es} {vs : List Vl} (ha : G.es as env h = .ok vs h1) (e : G.φ f vs h1 = .exc cx ps h2) : G.ex (.call f as) env h = .exc cx ps h2 := by simp only [Gx.ex, callE, ha, rb_ok, e]
theorem ss_expX (ha : G.ex a env h = .exc cx ps h1) : G.st (.exp a) env h = .exc cx ps h1 := by simp only [Gx.st, ha, R.bindS]
theorem ss_setX (ha : G.ex a env h = .exc cx ps h1) : G.st (.set i a) env h = .exc cx ps h1 := by simp only [Gx.st, ha, R.bindS]
theorem ss_retX (ha : G.ex a env h = .exc cx ps h1) : G.st (.ret a) env h = .exc cx ps h1 := by simp only [Gx.st, ha, R.bindS]
theorem ss_rse (ha : G.ex a env h = .ok (.fz d) h1) : G.st (.rse xn cx a) env h = .exc cx [d] h1 := by simp only [Gx.st, ha, rs_ok, raiseS, frz_fz]
theorem bb_exc (hs : G.st st env h = .exc cx ps h1) : G.sts (.cons st r) env h = .exc cx ps h1 := by simp only [Gx.sts, hs, SO.bind]
theorem w_exc (hs : G.st st env h = .exc cx ps h1) (hq : Q (.exc cx ps h1)) : W (G.sts (.cons st r) env h) Q := by
  unfold W
  rw [bb_exc hs]
  exact hq
theorem run_exc {keep : Bool} {np k : Nat} {body : Env → Hm → SO} {vs : List Vl} (hn : vs.length = np) (hb : body (vs.map some ++ List.replicate k none) h = .exc cx ps h1) (hc : cutH keep h.length h1 = some h2) : runF keep np k body vs h = .exc cx ps h2 := by
  unfold runF
  rw [if_pos hn, hb]
  simp only [hc]
theorem x_lam (ha : G.ex a env h = .exc cx ps h1) (e : (td.hs.lookup cx).bind (hxV ps) = some d) (hc : cutH false h.length h1 = some h2) : G.ex (.lam xn td a) env h = .ok (.fz d) h2 := by
  simp only [Gx.ex, triedE, ha, triedR, e, hc, refsV, if_true]
theorem x_lam0 (ha : G.ex a env h = .ok v h1) (e : td.mode = 0) (hc : cutH false h.length h1 = some h2) : G.ex (.lam xn td a) env h = .ok (.fz .non) h2 := by
  simp only [Gx.ex, triedE, ha, triedR, e, if_true, hc, refsV]
theorem x_lam1 {d : PV} (ha : G.ex a env h = .ok v h1) (e : td.mode = 1) (ef : frz v h1 = .ok d h2) (hc : cutH false h.length h2 = some h3) : G.ex (.lam xn td a) env h = .ok (.fz (.tup [.str td.tag, d])) h3 := by
  simp only [Gx.ex, triedE, ha, triedR, e, ef, rb_ok, if_true]
  rw [if_neg (by decide)]
  simp only [hc, refsV, if_true]
end
section
variable {G : Gx} {env e1 : Env} {h h0 h1 h2 h3 h4 : Hm} {a b c o u : Ex} {x y z v : Vl} {d d1 d2 d3 : PV} {k i j n : Nat}
theorem x_n1 {ds : List PV} (ha : G.ex a env h = .ok (.fz d) h1) (e : s1V 0 d = some (.lst ds)) (e1 : h1.length = n) (e2 : h1 ++ [some (.lst (fzs ds))] = h2) : G.ex (.n1 0 a) env h = .ok (.rf n) h2 := by
  subst e1; subst e2
  simp only [Gx.ex, op1, ha, rb_ok, opN1, shal, e, thaw, newL]
  rfl
theorem x_pop3 {xs : List Vl} {ii : Int} (ha : G.ex o env h = .ok (.rf n) h1) (e1 : h1[n]? = some (some (.lst xs))) (hb : G.ex a env h1 = .ok (.fz (.int ii)) h2) (e2 : h2[n]? = some (some (.lst xs))) (e3 : ixP xs.length ii = some j) (e4 : xs[j]? = some y) (e5 : h2.set n (some (.lst (xs.eraseIdx j))) = h3) : G.ex (.popAt o a) env h = .ok y h3 := by
  subst e5; exact x_popAt ha e1 hb e2 e3 e4
theorem lenH_rf {xs : List Vl} (e1 : h[n]? = some (some (.lst xs))) : lenH (.rf n) h = .ok (.fz (.int xs.length)) h := by simp only [lenH, e1]
end
theorem x_nlcP {G : Gx} {env : Env} {h h1 h2 : Hm} {a : Ex} {ds : List Vl} {own : List Nat} {tg : Tg} {src : Sr} {ts : Ts} {ys : List PV} {n : Nat} (hs : G.sr src env h = .ok (ds, []) h1) (hl : lcN (G.tg tg) (G.ts ts) (G.ex a) (wipeE own env) ds h1 = .ok (fzs ys) h1) (e1 : h1.length = n) (e2 : h1 ++ [some (.lst (fzs ys))] = h2) : G.ex (.nlc own tg src ts a) env h = .ok (.rf n) h2 := by
  subst e1; subst e2
  simp only [Gx.ex, nlcV, hs, rb_ok, lockH, hl, unlkR_nil, newL]
end HV

end

section
/-! S0: a law's own runs. -/
namespace HV.k41
open HV
local macro_rules | `(tactic| fail "call") => `(tactic| with_reducible (show _ = _; assumption))
local macro_rules | `(tactic| fail "leaf") => `(tactic| rfl)
local macro_rules | `(tactic| fail "lt") => `(tactic| exact Nat.le_of_ble_eq_true rfl)
local macro_rules | `(tactic| fail "dec") => `(tactic| first | rfl | assumption | (simp [*]; done))
local macro_rules | `(tactic| fail "cmp") => `(tactic| with_reducible (first
  | exact cmp_eq_int _ _ _ _ _
  | exact cmp_ne_int _ _ _ _ _
  | exact cmp_lt_int _ _ _ _ _
  | exact cmp_le_int _ _ _ _ _
  | exact cmp_gt_int _ _ _ _ _
  | exact cmp_ge_int _ _ _ _ _
  | exact cmp_eq_str _ _ _ _ _
  | exact cmp_ne_str _ _ _ _ _
  | exact cmp_in_strs _ _ _ _ _
  | exact cmp_ni_strs _ _ _ _ _
  | exact cmp_in_sign _ _ _ _ _
  | apply cmp_in_rf
  | apply cmp_ni_rf
  | exact cmp_is_non _ _ _ _
  | exact cmp_isnt_non _ _ _ _))
local macro_rules | `(tactic| fail "heap") => `(tactic| with_reducible (first
  | exact pa0 | exact pa1 | exact pa2 | exact pa3 | exact ha0 | exact ha1 | exact ha2 | exact ha3
  | exact ps0 | exact ps1 | exact ps2 | exact ps3 | exact hs0 | exact hs1 | exact hs2 | exact hs3
  | exact pl0 | exact pl1 | exact pl2 | exact pl3 | exact hl0 | exact hl1 | exact hl2 | exact hl3
  | exact hc0 | exact hc1 | exact hc2 | exact hc3))
local macro_rules | `(tactic| fail "ev1") => `(tactic| first
  | with_reducible exact es_nil0
  | with_reducible apply es_cons0
  | (with_reducible apply x_var <;> rfl)
  | (with_reducible apply x_cst <;> rfl)
  | (with_reducible apply x_glo <;> rfl)
  | with_reducible apply x_andB
  | with_reducible apply x_orB
  | with_reducible apply x_not'
  | with_reducible apply x_cmp
  | with_reducible apply x_idx
  | with_reducible apply x_bin
  | with_reducible apply x_isi
  | with_reducible apply x_len
  | with_reducible apply x_b1
  | with_reducible apply x_s1
  | with_reducible apply x_att
  | with_reducible apply x_tup'
  | with_reducible apply x_lst'
  | with_reducible apply x_slc
  | with_reducible apply x_nlst3
  | with_reducible apply x_app4
  | with_reducible apply x_frz3
  | with_reducible apply x_join
  | with_reducible exact bd_non
  | with_reducible apply bd_one
  | with_reducible apply x_call
  | with_reducible apply x_meth
  | with_reducible apply x_lc
  | with_reducible apply sr_zipM
  | with_reducible apply sr_enmM
  | with_reducible apply sr_fz
  | with_reducible (apply lcN_map; intro _ _; refine ⟨?_, tt_yes, ?_⟩)
  | with_reducible (apply lcN_filt; intro _ _; refine ⟨?_, ?_, fun _ => ?_⟩)
  | with_reducible apply frzR_ok
  | with_reducible apply tg_nm
  | with_reducible apply tg_tp2
  | with_reducible apply tg_tp3
  | with_reducible apply tg_tp4
  | with_reducible exact tt_yes
  | with_reducible apply tt_val
  | with_reducible apply t_cmp0
  | with_reducible apply t_not0
  | with_reducible apply t_andB
  | with_reducible apply t_orB
  | with_reducible apply t_chnB
  | with_reducible (apply bb_ret; apply s_ret0)
  | with_reducible exact bb_nil
  | with_reducible apply bb_cons
  | with_reducible apply s_set0
  | with_reducible apply s_exp0
  | with_reducible apply ss_par3
  | with_reducible apply s_setT3
  | with_reducible apply s_aug3
  | with_reducible intro _
  | with_reducible exact frzs_nil
  | with_reducible apply frzs_fz
  | with_reducible apply frzs_rf
  | fail "call"
  | fail "heap"
  | fail "lt"
  | fail "cmp"
  | fail "leaf")
local macro_rules | `(tactic| fail "ev") => `(tactic| repeat' (fail "ev1"))

abbrev gx (n : Nat) : Gx := ⟨isF, spc, run 2000 n, glo, 2000⟩
theorem run_at (n f : Nat) (d : Dr) (e : dr[f]? = some d) : run 2000 (n + 1) f = runF d.keep d.np d.k ((gx n).sts d.body) := by
  show runs isF spc glo 2000 (fun f => dr[f]?) (n + 1) f = _
  simp only [runs, e]
  rfl
variable {h : Hm} {N : Nat}
theorem pur {n f : Nat} (d : Dr) {args : List Vl} {v v' : PV} (e : dr[f]? = some d) (hn : args.length = d.np) (hb : (gx n).sts d.body (args.map some ++ List.replicate d.k none) h = .rt (.fz v) h) (hv : v = v') : run 2000 (n + 1) f args h = .ok (.fz v') h := by
  subst hv
  rw [run_at n f d e]
  exact run_rt hn hb (cut_same rfl) rfl
theorem purW {n f : Nat} (d : Dr) {args : List Vl} {v : PV} (e : dr[f]? = some d) (hn : args.length = d.np) (hb : W ((gx n).sts d.body (args.map some ++ List.replicate d.k none) h) fun o => o = .rt (.fz v) h) : run 2000 (n + 1) f args h = .ok (.fz v) h := by
  rw [run_at n f d e]
  exact run_rt hn hb (cut_same rfl) rfl
theorem sfun {n f : Nat} {S : Sm} {E : Hm} (d : Dr) {args : List Vl} {P : PV → Sm → Prop} (e : dr[f]? = some d) (hn : args.length = d.np) (hk : d.keep = false) (hc : Cl (hp S E))
    (hb : W ((gx n).sts d.body (args.map some ++ List.replicate d.k none) (hp S E ++ [])) fun o => ∃ v S' F, o = .rt (.fz v) (hp S' E ++ F) ∧ P v S') : ∃ v S', run 2000 (n + 1) f args (hp S E) = .ok (.fz v) (hp S' E) ∧ P v S' := by
  rw [List.append_nil] at hb
  obtain ⟨v, S', F, e1, p⟩ := hb
  refine ⟨v, S', ?_, p⟩
  rw [run_at n f d e, hk]
  exact run_rt hn e1 (cut_cl rfl (Cl_hp hc)) rfl
theorem pfun {n f : Nat} (d : Dr) {args : List Vl} {v : PV} (e : dr[f]? = some d) (hn : args.length = d.np) (hk : d.keep = false) (hc : Cl h)
    (hb : W ((gx n).sts d.body (args.map some ++ List.replicate d.k none) (h ++ [])) fun o => ∃ F, o = .rt (.fz v) (h ++ F)) : run 2000 (n + 1) f args h = .ok (.fz v) h := by
  rw [List.append_nil] at hb
  obtain ⟨F, e1⟩ := hb
  rw [run_at n f d e, hk]
  exact run_rt hn e1 (cut_cl rfl hc) rfl
theorem is_int (i : Int) (hN : 1 ≤ N) : run 2000 N f_is_integer [.fz (.int i)] h = .ok (.fz (.bl true)) h := by
  obtain ⟨N, rfl⟩ := Nat.exists_eq_add_of_le' hN
  apply pur r_is_integer rfl rfl
  case hb => fail "ev"
  case hv => rfl
end HV.k41

end

section
/-! S1: small tests, steps. -/
namespace HV.k41
open HV
local macro_rules | `(tactic| fail "call") => `(tactic| with_reducible (show _ = _; assumption))
local macro_rules | `(tactic| fail "leaf") => `(tactic| rfl)
local macro_rules | `(tactic| fail "lt") => `(tactic| exact Nat.le_of_ble_eq_true rfl)
local macro_rules | `(tactic| fail "dec") => `(tactic| first | rfl | assumption | (simp [*]; done))
local macro_rules | `(tactic| fail "cmp") => `(tactic| with_reducible (first
  | exact cmp_eq_int _ _ _ _ _
  | exact cmp_ne_int _ _ _ _ _
  | exact cmp_lt_int _ _ _ _ _
  | exact cmp_le_int _ _ _ _ _
  | exact cmp_gt_int _ _ _ _ _
  | exact cmp_ge_int _ _ _ _ _
  | exact cmp_eq_str _ _ _ _ _
  | exact cmp_ne_str _ _ _ _ _
  | exact cmp_in_strs _ _ _ _ _
  | exact cmp_ni_strs _ _ _ _ _
  | exact cmp_in_sign _ _ _ _ _
  | apply cmp_in_rf
  | apply cmp_ni_rf
  | exact cmp_is_non _ _ _ _
  | exact cmp_isnt_non _ _ _ _))
local macro_rules | `(tactic| fail "heap") => `(tactic| with_reducible (first
  | exact pa0 | exact pa1 | exact pa2 | exact pa3 | exact ha0 | exact ha1 | exact ha2 | exact ha3
  | exact ps0 | exact ps1 | exact ps2 | exact ps3 | exact hs0 | exact hs1 | exact hs2 | exact hs3
  | exact pl0 | exact pl1 | exact pl2 | exact pl3 | exact hl0 | exact hl1 | exact hl2 | exact hl3
  | exact hc0 | exact hc1 | exact hc2 | exact hc3))
local macro_rules | `(tactic| fail "ev1") => `(tactic| first
  | with_reducible exact es_nil0
  | with_reducible apply es_cons0
  | (with_reducible apply x_var <;> rfl)
  | (with_reducible apply x_cst <;> rfl)
  | (with_reducible apply x_glo <;> rfl)
  | with_reducible apply x_andB
  | with_reducible apply x_orB
  | with_reducible apply x_not'
  | with_reducible apply x_cmp
  | with_reducible apply x_idx
  | with_reducible apply x_bin
  | with_reducible apply x_isi
  | with_reducible apply x_len
  | with_reducible apply x_b1
  | with_reducible apply x_s1
  | with_reducible apply x_att
  | with_reducible apply x_tup'
  | with_reducible apply x_lst'
  | with_reducible apply x_slc
  | with_reducible apply x_nlst3
  | with_reducible apply x_app4
  | with_reducible apply x_frz3
  | with_reducible apply x_join
  | with_reducible exact bd_non
  | with_reducible apply bd_one
  | with_reducible apply x_call
  | with_reducible apply x_meth
  | with_reducible apply x_lc
  | with_reducible apply sr_zipM
  | with_reducible apply sr_enmM
  | with_reducible apply sr_fz
  | with_reducible (apply lcN_map; intro _ _; refine ⟨?_, tt_yes, ?_⟩)
  | with_reducible (apply lcN_filt; intro _ _; refine ⟨?_, ?_, fun _ => ?_⟩)
  | with_reducible apply frzR_ok
  | with_reducible apply tg_nm
  | with_reducible apply tg_tp2
  | with_reducible apply tg_tp3
  | with_reducible apply tg_tp4
  | with_reducible exact tt_yes
  | with_reducible apply tt_val
  | with_reducible apply t_cmp0
  | with_reducible apply t_not0
  | with_reducible apply t_andB
  | with_reducible apply t_orB
  | with_reducible apply t_chnB
  | with_reducible (apply bb_ret; apply s_ret0)
  | with_reducible exact bb_nil
  | with_reducible apply bb_cons
  | with_reducible apply s_set0
  | with_reducible apply s_exp0
  | with_reducible apply ss_par3
  | with_reducible apply s_setT3
  | with_reducible apply s_aug3
  | with_reducible intro _
  | with_reducible exact frzs_nil
  | with_reducible apply frzs_fz
  | with_reducible apply frzs_rf
  | fail "call"
  | fail "heap"
  | fail "lt"
  | fail "cmp"
  | fail "leaf")
local macro_rules | `(tactic| fail "ev") => `(tactic| repeat' (fail "ev1"))

variable {h : Hm} {N : Nat}
def isLst : PV → Bool
  | .lst _ => true
  | .tup _ => true
  | _ => false
def isIntB : PV → Bool
  | .int _ => true
  | _ => false
/-- a thing that isinstance knows -/
def plainK (d : PV) : Prop := (kdV d).isSome = true
theorem isi_lt {d : PV} (h : plainK d) : isiV d (.tup [.ty 3, .ty 4]) = some (.bl (isLst d)) := by
  cases d <;> first | rfl | (simp [plainK, kdV] at h)
def isStrB : PV → Bool
  | .str _ => true
  | _ => false
theorem isi_str {d : PV} (h : plainK d) : isiV d (.ty 2) = some (.bl (isStrB d)) := by
  cases d <;> first | rfl | (simp [plainK, kdV] at h)
def isIB : PV → Bool
  | .int _ => true
  | .bl _ => true
  | _ => false
def isBB : PV → Bool
  | .bl _ => true
  | _ => false
theorem isi_int {d : PV} (h : plainK d) : isiV d (.ty 0) = some (.bl (isIB d)) := by
  cases d <;> first | rfl | (simp [plainK, kdV] at h)
theorem isi_bool {d : PV} (h : plainK d) : isiV d (.ty 1) = some (.bl (isBB d)) := by
  cases d <;> first | rfl | (simp [plainK, kdV] at h)
local macro_rules | `(tactic| fail "leaf") => `(tactic| first | exact isi_lt ‹_› | exact isi_str ‹_› | exact isi_int ‹_› | exact isi_bool ‹_›)
theorem is_list {d : PV} (hd : plainK d) (hN : 1 ≤ N) : run 2000 N f_is_list [.fz d] h = .ok (.fz (.bl (isLst d))) h := by
  obtain ⟨N, rfl⟩ := Nat.exists_eq_add_of_le' hN
  apply pur r_is_list rfl rfl
  · fail "ev"
  · rfl
theorem is_integer {d : PV} (hd : plainK d) (hN : 1 ≤ N) : run 2000 N f_is_integer [.fz d] h = .ok (.fz (.bl (isIntB d))) h := by
  obtain ⟨N, rfl⟩ := Nat.exists_eq_add_of_le' hN
  apply pur r_is_integer rfl rfl
  · fail "ev"
  · cases d <;> rfl
def signs : Txt := [97, 98, 99, 100, 101, 102, 103, 104, 105, 106, 107, 108, 109, 110, 111, 112, 113, 114, 115, 116, 117, 118, 119, 120, 121, 122, 48, 49, 50, 51, 52, 53, 54, 55, 56, 57, 46]
def nameB (w : Txt) : Bool := !decide (w = []) && w.all fun c => signs.contains c
def nameP : PV → Bool
  | .str w => nameB w
  | _ => false
theorem is_name_str (w : Txt) (hN : 1 ≤ N) : run 2000 N f_is_name [.fz (.str w)] h = .ok (.fz (.bl (nameB w))) h := by
  obtain ⟨N, rfl⟩ := Nat.exists_eq_add_of_le' hN
  apply pur r_is_name rfl rfl
  · fail "ev"
    exact all_blm _ _
  · rfl
theorem is_name {d : PV} (hd : plainK d) (hN : 1 ≤ N) : run 2000 N f_is_name [.fz d] h = .ok (.fz (.bl (nameP d))) h := by
  match d, hd with
  | .str w, _ => exact is_name_str w hN
  | .non, hd | .bl _, hd | .int _, hd | .lst _, hd | .tup _, hd | .dct _, hd | .obj _ _, hd =>
    obtain ⟨N, rfl⟩ := Nat.exists_eq_add_of_le' hN
    exact pur r_is_name rfl rfl (bb_ret (s_ret0 (x_and (t := false) (x_isi (x_var rfl) (x_glo rfl rfl) rfl) rfl (fun z => by cases z) (fun _ => ⟨rfl, rfl⟩)))) rfl
local macro_rules | `(tactic| fail "call") => `(tactic| with_reducible (first | exact is_list (by with_unfolding_all rfl) (by omega) | exact is_int _ (by omega) | exact is_integer (by with_unfolding_all rfl) (by omega) | exact is_name_str _ (by omega)))

theorem is_vector_t (l : List Int) (n : Int) (hN : 2 ≤ N) : run 2000 N f_is_vector [.fz (.tup (l.map .int)), .fz (.int n)] h = .ok (.fz (.bl (decide ((l.length : Int) = n)))) h := by
  obtain ⟨N, rfl⟩ := Nat.exists_eq_add_of_le' hN
  apply pur r_is_vector rfl rfl
  · fail "ev"
    exact all_blm _ _
  · simp [isLst, isIntB]
theorem is_vector_l (l : List Int) (n : Int) (hN : 2 ≤ N) : run 2000 N f_is_vector [.fz (.lst (l.map .int)), .fz (.int n)] h = .ok (.fz (.bl (decide ((l.length : Int) = n)))) h := by
  obtain ⟨N, rfl⟩ := Nat.exists_eq_add_of_le' hN
  apply pur r_is_vector rfl rfl
  · fail "ev"
    exact all_blm _ _
  · simp [isLst, isIntB]
def sumZ (a b : List Int) : List Int := (a.zip b).map fun p => p.1 + p.2
end HV.k41

end

section
/-! S2: draws, picks. -/
namespace HV.k41
open HV
local macro_rules | `(tactic| fail "call") => `(tactic| with_reducible (show _ = _; assumption))
local macro_rules | `(tactic| fail "leaf") => `(tactic| rfl)
local macro_rules | `(tactic| fail "lt") => `(tactic| exact Nat.le_of_ble_eq_true rfl)
local macro_rules | `(tactic| fail "dec") => `(tactic| first | rfl | assumption | (simp [*]; done))
local macro_rules | `(tactic| fail "cmp") => `(tactic| with_reducible (first
  | exact cmp_eq_int _ _ _ _ _
  | exact cmp_ne_int _ _ _ _ _
  | exact cmp_lt_int _ _ _ _ _
  | exact cmp_le_int _ _ _ _ _
  | exact cmp_gt_int _ _ _ _ _
  | exact cmp_ge_int _ _ _ _ _
  | exact cmp_eq_str _ _ _ _ _
  | exact cmp_ne_str _ _ _ _ _
  | exact cmp_in_strs _ _ _ _ _
  | exact cmp_ni_strs _ _ _ _ _
  | exact cmp_in_sign _ _ _ _ _
  | apply cmp_in_rf
  | apply cmp_ni_rf
  | exact cmp_is_non _ _ _ _
  | exact cmp_isnt_non _ _ _ _))
local macro_rules | `(tactic| fail "heap") => `(tactic| with_reducible (first
  | exact pa0 | exact pa1 | exact pa2 | exact pa3 | exact ha0 | exact ha1 | exact ha2 | exact ha3
  | exact ps0 | exact ps1 | exact ps2 | exact ps3 | exact hs0 | exact hs1 | exact hs2 | exact hs3
  | exact pl0 | exact pl1 | exact pl2 | exact pl3 | exact hl0 | exact hl1 | exact hl2 | exact hl3
  | exact hc0 | exact hc1 | exact hc2 | exact hc3))
local macro_rules | `(tactic| fail "ev1") => `(tactic| first
  | with_reducible exact es_nil0
  | with_reducible apply es_cons0
  | (with_reducible apply x_var <;> rfl)
  | (with_reducible apply x_cst <;> rfl)
  | (with_reducible apply x_glo <;> rfl)
  | with_reducible apply x_andB
  | with_reducible apply x_orB
  | with_reducible apply x_not'
  | with_reducible apply x_cmp
  | with_reducible apply x_idx
  | with_reducible apply x_bin
  | with_reducible apply x_isi
  | with_reducible apply x_len
  | with_reducible apply x_b1
  | with_reducible apply x_s1
  | with_reducible apply x_att
  | with_reducible apply x_tup'
  | with_reducible apply x_lst'
  | with_reducible apply x_slc
  | with_reducible apply x_nlst3
  | with_reducible apply x_app4
  | with_reducible apply x_frz3
  | with_reducible apply x_join
  | with_reducible exact bd_non
  | with_reducible apply bd_one
  | with_reducible apply x_call
  | with_reducible apply x_meth
  | with_reducible apply x_lc
  | with_reducible apply sr_zipM
  | with_reducible apply sr_enmM
  | with_reducible apply sr_fz
  | with_reducible (apply lcN_map; intro _ _; refine ⟨?_, tt_yes, ?_⟩)
  | with_reducible (apply lcN_filt; intro _ _; refine ⟨?_, ?_, fun _ => ?_⟩)
  | with_reducible apply frzR_ok
  | with_reducible apply tg_nm
  | with_reducible apply tg_tp2
  | with_reducible apply tg_tp3
  | with_reducible apply tg_tp4
  | with_reducible exact tt_yes
  | with_reducible apply tt_val
  | with_reducible apply t_cmp0
  | with_reducible apply t_not0
  | with_reducible apply t_andB
  | with_reducible apply t_orB
  | with_reducible apply t_chnB
  | with_reducible (apply bb_ret; apply s_ret0)
  | with_reducible exact bb_nil
  | with_reducible apply bb_cons
  | with_reducible apply s_set0
  | with_reducible apply s_exp0
  | with_reducible apply ss_par3
  | with_reducible apply s_setT3
  | with_reducible apply s_aug3
  | with_reducible intro _
  | with_reducible exact frzs_nil
  | with_reducible apply frzs_fz
  | with_reducible apply frzs_rf
  | fail "call"
  | fail "heap"
  | fail "lt"
  | fail "cmp"
  | fail "leaf")
local macro_rules | `(tactic| fail "ev") => `(tactic| repeat' (fail "ev1"))

local macro_rules | `(tactic| fail "call") => `(tactic| with_reducible (first | exact is_list (by with_unfolding_all rfl) (by omega) | exact is_int _ (by omega) | exact is_integer (by with_unfolding_all rfl) (by omega) | exact is_name_str _ (by omega)))

variable {S : Sm} {B : Int} {E F : Hm} {N : Nat}
theorem draw {m : Int} (ok : S.Ok B) (hB : B ≤ 1000000000000) (hm : 0 < m) (hm2 : m < 1000000000000) (hN : 1 ≤ N) :
    ∃ d S', run 2000 N f_law_draw [.rf 1, .fz (.int m)] (hp S E ++ F) = .ok (.fz (.int d)) (hp S' E ++ F) ∧ 0 ≤ d ∧ d < m ∧ S'.Ok (B + 1) := by
  obtain ⟨N, rfl⟩ := Nat.exists_eq_add_of_le' hN
  rw [run_at N f_law_draw r_law_draw rfl]
  exact draw_ok (E := E ++ F) (gx N) ok hB hm hm2
theorem pick {ds : List PV} (ok : S.Ok B) (hB : B ≤ 1000000000000) (hne : ds ≠ []) (hl : ds.length < 1000000) (hN : 2 ≤ N) :
    ∃ d ∈ ds, ∃ S', run 2000 N f_law_pick [.rf 1, .fz (.lst ds)] (hp S E ++ F) = .ok (.fz d) (hp S' E ++ F) ∧ S'.Ok (B + 1) := by
  obtain ⟨N, rfl⟩ := Nat.exists_eq_add_of_le' hN
  have hp0 : 0 < ds.length := List.length_pos_iff.mpr hne
  obtain ⟨i, S', e, h0, h1, ok'⟩ := draw (E := E) (F := F) (N := N + 1) (m := (ds.length : Int)) ok hB (by omega) (by omega) (by omega)
  obtain ⟨d, hd, e2, _⟩ := atP_nat h0 h1
  refine ⟨d, hd, S', ?_, ok'⟩
  rw [run_at (N + 1) f_law_pick r_law_pick rfl]
  refine run_rt (h1 := hp S' E ++ F) rfl ?_ (cut_same rfl) rfl
  fail "ev"
  show liftF (idxV (.lst ds) (.int i)) _ = _
  simp only [idxV, e2, liftF_some]
theorem pickS {s : Txt} (ok : S.Ok B) (hB : B ≤ 1000000000000) (hne : s ≠ []) (hl : s.length < 1000000) (hN : 2 ≤ N) :
    ∃ c ∈ s, ∃ S', run 2000 N f_law_pick [.rf 1, .fz (.str s)] (hp S E ++ F) = .ok (.fz (.str [c])) (hp S' E ++ F) ∧ S'.Ok (B + 1) := by
  obtain ⟨N, rfl⟩ := Nat.exists_eq_add_of_le' hN
  have hp0 : 0 < s.length := List.length_pos_iff.mpr hne
  obtain ⟨i, S', e, h0, h1, ok'⟩ := draw (E := E) (F := F) (N := N + 1) (m := (s.length : Int)) ok hB (by omega) (by omega) (by omega)
  obtain ⟨d, hd, e2, _⟩ := atP_nat h0 h1
  refine ⟨d, hd, S', ?_, ok'⟩
  rw [run_at (N + 1) f_law_pick r_law_pick rfl]
  refine run_rt (h1 := hp S' E ++ F) rfl ?_ (cut_same rfl) rfl
  fail "ev"
  show liftF (idxV (.str s) (.int i)) _ = _
  simp only [idxV, e2, Option.map_some, liftF_some]
end HV.k41

end

section
/-! S3: words. -/
namespace HV.k41
open HV
local macro_rules | `(tactic| fail "call") => `(tactic| with_reducible (show _ = _; assumption))
local macro_rules | `(tactic| fail "leaf") => `(tactic| rfl)
local macro_rules | `(tactic| fail "lt") => `(tactic| exact Nat.le_of_ble_eq_true rfl)
local macro_rules | `(tactic| fail "dec") => `(tactic| first | rfl | assumption | (simp [*]; done))
local macro_rules | `(tactic| fail "cmp") => `(tactic| with_reducible (first
  | exact cmp_eq_int _ _ _ _ _
  | exact cmp_ne_int _ _ _ _ _
  | exact cmp_lt_int _ _ _ _ _
  | exact cmp_le_int _ _ _ _ _
  | exact cmp_gt_int _ _ _ _ _
  | exact cmp_ge_int _ _ _ _ _
  | exact cmp_eq_str _ _ _ _ _
  | exact cmp_ne_str _ _ _ _ _
  | exact cmp_in_strs _ _ _ _ _
  | exact cmp_ni_strs _ _ _ _ _
  | exact cmp_in_sign _ _ _ _ _
  | apply cmp_in_rf
  | apply cmp_ni_rf
  | exact cmp_is_non _ _ _ _
  | exact cmp_isnt_non _ _ _ _))
local macro_rules | `(tactic| fail "heap") => `(tactic| with_reducible (first
  | exact pa0 | exact pa1 | exact pa2 | exact pa3 | exact ha0 | exact ha1 | exact ha2 | exact ha3
  | exact ps0 | exact ps1 | exact ps2 | exact ps3 | exact hs0 | exact hs1 | exact hs2 | exact hs3
  | exact pl0 | exact pl1 | exact pl2 | exact pl3 | exact hl0 | exact hl1 | exact hl2 | exact hl3
  | exact hc0 | exact hc1 | exact hc2 | exact hc3))
local macro_rules | `(tactic| fail "ev1") => `(tactic| first
  | with_reducible exact es_nil0
  | with_reducible apply es_cons0
  | (with_reducible apply x_var <;> rfl)
  | (with_reducible apply x_cst <;> rfl)
  | (with_reducible apply x_glo <;> rfl)
  | with_reducible apply x_andB
  | with_reducible apply x_orB
  | with_reducible apply x_not'
  | with_reducible apply x_cmp
  | with_reducible apply x_idx
  | with_reducible apply x_bin
  | with_reducible apply x_isi
  | with_reducible apply x_len
  | with_reducible apply x_b1
  | with_reducible apply x_s1
  | with_reducible apply x_att
  | with_reducible apply x_tup'
  | with_reducible apply x_lst'
  | with_reducible apply x_slc
  | with_reducible apply x_nlst3
  | with_reducible apply x_app4
  | with_reducible apply x_frz3
  | with_reducible apply x_join
  | with_reducible exact bd_non
  | with_reducible apply bd_one
  | with_reducible apply x_call
  | with_reducible apply x_meth
  | with_reducible apply x_lc
  | with_reducible apply sr_zipM
  | with_reducible apply sr_enmM
  | with_reducible apply sr_fz
  | with_reducible (apply lcN_map; intro _ _; refine ⟨?_, tt_yes, ?_⟩)
  | with_reducible (apply lcN_filt; intro _ _; refine ⟨?_, ?_, fun _ => ?_⟩)
  | with_reducible apply frzR_ok
  | with_reducible apply tg_nm
  | with_reducible apply tg_tp2
  | with_reducible apply tg_tp3
  | with_reducible apply tg_tp4
  | with_reducible exact tt_yes
  | with_reducible apply tt_val
  | with_reducible apply t_cmp0
  | with_reducible apply t_not0
  | with_reducible apply t_andB
  | with_reducible apply t_orB
  | with_reducible apply t_chnB
  | with_reducible (apply bb_ret; apply s_ret0)
  | with_reducible exact bb_nil
  | with_reducible apply bb_cons
  | with_reducible apply s_set0
  | with_reducible apply s_exp0
  | with_reducible apply ss_par3
  | with_reducible apply s_setT3
  | with_reducible apply s_aug3
  | with_reducible intro _
  | with_reducible exact frzs_nil
  | with_reducible apply frzs_fz
  | with_reducible apply frzs_rf
  | fail "call"
  | fail "heap"
  | fail "lt"
  | fail "cmp"
  | fail "leaf")
local macro_rules | `(tactic| fail "ev") => `(tactic| repeat' (fail "ev1"))

local macro_rules | `(tactic| fail "call") => `(tactic| with_reducible (first | exact is_list (by with_unfolding_all rfl) (by omega) | exact is_int _ (by omega) | exact is_integer (by with_unfolding_all rfl) (by omega) | exact is_name_str _ (by omega)))

variable {S : Sm} {B : Int} {E F : Hm} {N : Nat}
def alf : Txt := [97, 98, 99, 120, 121, 122, 48, 49, 57, 46]
def abc : Txt := [97, 98, 99, 100, 101, 102, 103, 104, 105, 106, 107, 108, 109, 110, 111, 112, 113, 114, 115, 116, 117, 118, 119, 120, 121, 122]
def good (w : Txt) : Prop := (w ≠ [] ∧ w.length ≤ 4 ∧ ∀ c ∈ w, c ∈ alf) ∨ ∃ l ∈ abc, w = [l, 113]
def qs : List Txt := abc.map fun c => [c, 113]
theorem qs_nodup : qs.Nodup := by decide
theorem qs_good : ∀ w ∈ qs, good w := fun w hw => by
  obtain ⟨c, hc, rfl⟩ := List.mem_map.mp hw
  exact .inr ⟨c, hc, rfl⟩
theorem pigeon {α : Type} [DecidableEq α] : ∀ (xs ys : List α), xs.Nodup → (∀ x ∈ xs, x ∈ ys) → xs.length ≤ ys.length
  | [], ys, _, _ => Nat.zero_le _
  | x :: xs, ys, nd, H => by
    have nd' := List.nodup_cons.mp nd
    have ih := pigeon xs (ys.erase x) nd'.2 fun z hz => by
      have hzx : z ≠ x := fun e => nd'.1 (e ▸ hz)
      exact (List.mem_erase_of_ne hzx).mpr (H z (List.mem_cons_of_mem _ hz))
    have hx : x ∈ ys := H x (by simp)
    have := List.length_erase_of_mem hx
    have : 0 < ys.length := List.length_pos_of_mem hx
    simp only [List.length_cons]
    omega
theorem strsV_map (ss : List Txt) : strsV (ss.map .str) = some ss := by
  induction ss with
  | nil => rfl
  | cons s ss ih =>
    show (match strsV (ss.map .str) with | some ss => some (s :: ss) | none => none) = _
    rw [ih]
theorem joinT_one : ∀ (cs : List Nat), joinT [] (cs.map fun c => [c]) = cs
  | [] => rfl
  | [c] => rfl
  | c :: c' :: cs => by
    show [c] ++ ([] ++ joinT [] ((c' :: cs).map fun c => [c])) = _
    rw [joinT_one (c' :: cs)]
    rfl
theorem join_one (cs : List Nat) (hl : cs.length ≤ 1000) : joinV (.str []) (.lst (cs.map fun c => .str [c])) = some (.str cs) := by
  have e : (cs.map fun c => PV.str [c]) = (cs.map fun c => [c]).map PV.str := by simp
  have sum1 : ((cs.map fun c => [c]).map List.length).sum = cs.length := by
    clear hl e
    induction cs with
    | nil => rfl
    | cons c cs ih => simp only [List.map_cons, List.sum_cons, List.length_cons, ih]; simp; omega
  simp only [joinV, e, strsV_map, sum1]
  rw [if_pos (by simp; omega), joinT_one]
theorem words0 {m : Nat} (ok : S.Ok B) (hB : B ≤ 10000000000) (hm : m ≤ 20) (hc : Cl (hp S E)) (hN : 4 ≤ N) :
    ∃ v S', run 2000 N f_law_n_words [.rf 1, .fz (.int (m : Int))] (hp S E) = .ok (.fz v) (hp S' E) ∧ ∃ ws : List Txt, v = .lst (ws.map .str) ∧ ws.length = m ∧ ws.Nodup ∧ (∀ w ∈ ws, good w) ∧ S'.Ok (B + 5 * m) := by
  obtain ⟨N, rfl⟩ := Nat.exists_eq_add_of_le' hN
  apply sfun r_law_n_words rfl rfl rfl hc
  refine w_nx (by fail "ev") ?_
  refine w_for (mk := fun i : Nat => PV.int (i : Int)) (ks := List.range m) (sr_rngM (by fail "ev") (by omega)) (fun pre env h => ∃ (S' : Sm) (ws : List Txt) (x3 x4 x5 : Option Vl), env = [some (.rf 1), some (.fz (.int (m : Int))), some (.rf (E.length + 2)), x3, x4, x5, none, none, none] ∧ h = hp S' E ++ [some (.lst (fzs (ws.map .str)))] ∧ ws.length = pre.length ∧ ws.Nodup ∧ (∀ w ∈ ws, good w) ∧ S'.Ok (B + 5 * pre.length)) ?_ ?_ ?_
  · exact ⟨S, [], none, none, none, rfl, rfl, rfl, List.nodup_nil, by simp, ok.mono (by simp)⟩
  · rintro pre i post hk env h ⟨S1, ws, x3, x4, x5, rfl, rfl, hl, nd, gd, ok1⟩
    have hj : pre.length < m := by
      have := congrArg List.length hk
      simp at this
      omega
    refine ⟨_, tg_nm (by fail "lt"), ?_⟩
    obtain ⟨d, S2, e1, d0, d1, ok2⟩ := draw (E := E) (F := [some (.lst (fzs (ws.map .str)))]) (N := N + 3) (m := 4) ok1 (by omega) (by decide) (by decide) (by omega)
    refine w_set (we_join (we_lc (mk := fun i : Nat => PV.int (i : Int)) (sr_rngI (j := 1 + d) (by fail "ev") (by omega)) (fun pre2 ys h => ∃ (S' : Sm) (cs : Txt), h = hp S' E ++ [some (.lst (fzs (ws.map .str)))] ∧ ys = cs.map (fun c => PV.str [c]) ∧ cs.length = pre2.length ∧ (∀ c ∈ cs, c ∈ alf) ∧ S'.Ok (B + 5 * pre.length + 1 + pre2.length)) ?_ ?_ ?_)) (by fail "lt")
    · exact ⟨S2, [], rfl, rfl, rfl, by simp, ok2.mono (by simp)⟩
    · rintro pre2 i2 post2 ys hk2 h ⟨S3, cs, rfl, rfl, hcl, hca, ok3⟩
      have hj2 : pre2.length < 4 := by
        have := congrArg List.length hk2
        simp at this
        omega
      refine ⟨_, tg_nm (by fail "lt"), tt_yes, ?_⟩
      obtain ⟨c, hc2, S4, e4, ok4⟩ := pickS (E := E) (F := [some (.lst (fzs (ws.map .str)))]) (N := N + 3) (s := alf) ok3 (by omega) (by decide) (by decide) (by omega)
      refine we_ok (x_call (es_cons0 (x_var rfl) (es_cons0 (x_cst rfl) es_nil0)) e4) ⟨_, rfl, S4, cs ++ [c], rfl, by simp, by simp [hcl], ?_, ok4.mono (by simp; omega)⟩
      intro z hz
      rcases List.mem_append.mp hz with hz | hz
      · exact hca z hz
      · simp at hz; subst hz; exact hc2
    · rintro ys h' ⟨S3, cs, rfl, rfl, hcl, hca, ok3⟩
      simp at hcl
      refine ⟨_, _, rfl, join_one cs (by omega), ?_⟩
      have gw : good cs := .inl ⟨fun z => by subst z; simp at hcl; omega, by omega, hca⟩
      refine w_nx (s_set0 (v := .fz (.lst ((cs :: qs).map .str))) (by fail "ev") (by fail "lt")) ?_
      -- the first that is new
      have hne : (cs :: qs).filter (fun t => !decide (t ∈ ws)) ≠ [] := fun z => by
        have sub : ∀ x ∈ qs, x ∈ ws := fun x hx => by
          have := List.filter_eq_nil_iff.mp z x (List.mem_cons_of_mem _ hx)
          simpa using this
        have := pigeon qs ws qs_nodup sub
        have : qs.length = 26 := rfl
        omega
      obtain ⟨x, r, hfl⟩ := List.exists_cons_of_ne_nil hne
      have hx : x ∈ (cs :: qs).filter (fun t => !decide (t ∈ ws)) := by rw [hfl]; simp
      obtain ⟨hx1, hx2⟩ := List.mem_filter.mp hx
      have hx2 : x ∉ ws := by simpa using hx2
      have gx : good x := by
        rcases List.mem_cons.mp hx1 with rfl | hx1
        · exact gw
        · exact qs_good x hx1
      refine w_exp (we_ok (v := .fz .non) (h1 := hp S3 E ++ [some (.lst (fzs (ws.map .str ++ [.str x])))]) ?_ (w_turn ⟨S3, ws ++ [x], some (.fz (.int (i : Int))), some (.fz (.str cs)), some (.fz (.lst ((cs :: qs).map .str))), rfl, by simp, by simp [hl], ?_, ?_, ok3.mono (by simp; omega)⟩))
      · fail "ev"
        · rw [hfl]; exact idx_zero
        · simp [LIM]; omega
      · exact List.nodup_append.mpr ⟨nd, by simp, fun a ha b hb => by
          simp at hb
          subst hb
          exact fun z => hx2 (z ▸ ha)⟩
      · intro z hz
        rcases List.mem_append.mp hz with hz | hz
        · exact gd z hz
        · simp at hz; subst hz; exact gx
  · rintro e2 h2 ⟨S', ws, x3, x4, x5, rfl, rfl, hl, nd, gd, ok1⟩
    refine w_ret (by fail "ev") ⟨_, S', _, rfl, ws, rfl, by simpa using hl, nd, gd, ok1.mono (by simp)⟩
theorem words {m : Nat} (ok : S.Ok B) (hB : B ≤ 10000000000) (hm : m ≤ 20) (hc : Cl (hp S E ++ F)) (hN : 4 ≤ N) :
    ∃ (ws : List Txt) (S' : Sm), run 2000 N f_law_n_words [.rf 1, .fz (.int (m : Int))] (hp S E ++ F) = .ok (.fz (.lst (ws.map .str))) (hp S' E ++ F) ∧ ws.length = m ∧ ws.Nodup ∧ (∀ w ∈ ws, good w) ∧ S'.Ok (B + 5 * m) := by
  obtain ⟨v, S', e, ws, rfl, h1, h2, h3, h4⟩ := words0 (E := E ++ F) ok hB hm hc hN
  exact ⟨ws, S', e, h1, h2, h3, h4⟩
end HV.k41

end

section
/-! S4: plans. -/
namespace HV.k41
open HV
local macro_rules | `(tactic| fail "call") => `(tactic| with_reducible (show _ = _; assumption))
local macro_rules | `(tactic| fail "leaf") => `(tactic| rfl)
local macro_rules | `(tactic| fail "lt") => `(tactic| exact Nat.le_of_ble_eq_true rfl)
local macro_rules | `(tactic| fail "dec") => `(tactic| first | rfl | assumption | (simp [*]; done))
local macro_rules | `(tactic| fail "cmp") => `(tactic| with_reducible (first
  | exact cmp_eq_int _ _ _ _ _
  | exact cmp_ne_int _ _ _ _ _
  | exact cmp_lt_int _ _ _ _ _
  | exact cmp_le_int _ _ _ _ _
  | exact cmp_gt_int _ _ _ _ _
  | exact cmp_ge_int _ _ _ _ _
  | exact cmp_eq_str _ _ _ _ _
  | exact cmp_ne_str _ _ _ _ _
  | exact cmp_in_strs _ _ _ _ _
  | exact cmp_ni_strs _ _ _ _ _
  | exact cmp_in_sign _ _ _ _ _
  | apply cmp_in_rf
  | apply cmp_ni_rf
  | exact cmp_is_non _ _ _ _
  | exact cmp_isnt_non _ _ _ _))
local macro_rules | `(tactic| fail "heap") => `(tactic| with_reducible (first
  | exact pa0 | exact pa1 | exact pa2 | exact pa3 | exact ha0 | exact ha1 | exact ha2 | exact ha3
  | exact ps0 | exact ps1 | exact ps2 | exact ps3 | exact hs0 | exact hs1 | exact hs2 | exact hs3
  | exact pl0 | exact pl1 | exact pl2 | exact pl3 | exact hl0 | exact hl1 | exact hl2 | exact hl3
  | exact hc0 | exact hc1 | exact hc2 | exact hc3))
local macro_rules | `(tactic| fail "ev1") => `(tactic| first
  | with_reducible exact es_nil0
  | with_reducible apply es_cons0
  | (with_reducible apply x_var <;> rfl)
  | (with_reducible apply x_cst <;> rfl)
  | (with_reducible apply x_glo <;> rfl)
  | with_reducible apply x_andB
  | with_reducible apply x_orB
  | with_reducible apply x_not'
  | with_reducible apply x_cmp
  | with_reducible apply x_idx
  | with_reducible apply x_bin
  | with_reducible apply x_isi
  | with_reducible apply x_len
  | with_reducible apply x_b1
  | with_reducible apply x_s1
  | with_reducible apply x_att
  | with_reducible apply x_tup'
  | with_reducible apply x_lst'
  | with_reducible apply x_slc
  | with_reducible apply x_nlst3
  | with_reducible apply x_app4
  | with_reducible apply x_frz3
  | with_reducible apply x_join
  | with_reducible exact bd_non
  | with_reducible apply bd_one
  | with_reducible apply x_call
  | with_reducible apply x_meth
  | with_reducible apply x_lc
  | with_reducible apply sr_zipM
  | with_reducible apply sr_enmM
  | with_reducible apply sr_fz
  | with_reducible (apply lcN_map; intro _ _; refine ⟨?_, tt_yes, ?_⟩)
  | with_reducible (apply lcN_filt; intro _ _; refine ⟨?_, ?_, fun _ => ?_⟩)
  | with_reducible apply frzR_ok
  | with_reducible apply tg_nm
  | with_reducible apply tg_tp2
  | with_reducible apply tg_tp3
  | with_reducible apply tg_tp4
  | with_reducible exact tt_yes
  | with_reducible apply tt_val
  | with_reducible apply t_cmp0
  | with_reducible apply t_not0
  | with_reducible apply t_andB
  | with_reducible apply t_orB
  | with_reducible apply t_chnB
  | with_reducible (apply bb_ret; apply s_ret0)
  | with_reducible exact bb_nil
  | with_reducible apply bb_cons
  | with_reducible apply s_set0
  | with_reducible apply s_exp0
  | with_reducible apply ss_par3
  | with_reducible apply s_setT3
  | with_reducible apply s_aug3
  | with_reducible intro _
  | with_reducible exact frzs_nil
  | with_reducible apply frzs_fz
  | with_reducible apply frzs_rf
  | fail "call"
  | fail "heap"
  | fail "lt"
  | fail "cmp"
  | fail "leaf")
local macro_rules | `(tactic| fail "ev") => `(tactic| repeat' (fail "ev1"))

local macro_rules | `(tactic| fail "call") => `(tactic| with_reducible (first | exact is_list (by with_unfolding_all rfl) (by omega) | exact is_int _ (by omega) | exact is_integer (by with_unfolding_all rfl) (by omega) | exact is_name_str _ (by omega)))

variable {S : Sm} {B : Int} {E F : Hm} {N : Nat}
structure Tie where
  nm : Txt
  s : Txt
  e : Txt
  st : List Int
abbrev row (t : Tie) : PV := .tup [.str t.nm, .str t.s, .str t.e, .tup (t.st.map .int)]
structure PlanOk (ax hl mn wd : Nat) (names : List Txt) (ts : List Tie) : Prop where
  n0 : names ≠ []
  n1 : names.length ≤ hl
  n2 : names.Nodup
  n3 : ∀ w ∈ names, good w
  t0 : ts ≠ []
  t1 : ts.length ≤ mn
  t2 : (ts.map Tie.nm).Nodup
  t3 : ∀ t ∈ ts, good t.nm ∧ t.s ∈ names ∧ t.e ∈ names ∧ t.st.length = ax ∧ ∀ x ∈ t.st, -(wd : Int) ≤ x ∧ x ≤ wd
theorem plan0 {ax hl mn wd : Nat} (hax : ax ≤ 4) (hh : 0 < hl ∧ hl ≤ 10) (hm : 0 < mn ∧ mn ≤ 10) (hw : wd ≤ 1000) (ok : S.Ok B) (hB : B ≤ 1000000000) (hc : Cl (hp S E)) (hN : 5 ≤ N) :
    ∃ v S', run 2000 N f_law_n_plan [.rf 1, .fz (.int (ax : Int)), .fz (.int (hl : Int)), .fz (.int (mn : Int)), .fz (.int (wd : Int))] (hp S E) = .ok (.fz v) (hp S' E) ∧
      ∃ (names : List Txt) (ts : List Tie), v = .tup [.int (ax : Int), .lst (names.map .str), .lst (ts.map row)] ∧ PlanOk ax hl mn wd names ts ∧ S'.Ok (B + 1000) := by
  obtain ⟨N, rfl⟩ := Nat.exists_eq_add_of_le' hN
  apply sfun r_law_n_plan rfl rfl rfl hc
  obtain ⟨d, S1, e1, d0, d1, ok1⟩ := draw (E := E) (F := []) (N := N + 4) (m := (hl : Int)) ok (by omega) (by omega) (by omega) (by omega)
  obtain ⟨dn, rfl⟩ := Int.eq_ofNat_of_zero_le d0
  obtain ⟨names, S2, e2, n1, n2, n3, ok2⟩ := words (E := E) (F := []) (N := N + 4) (m := 1 + dn) ok1 (by omega) (by omega) (by rw [List.append_nil]; exact Cl_hp hc) (by omega)
  refine w_nx (s_set0 (x_call (es_cons0 (x_var rfl) (es_cons0 (x_bin (d3 := .int ((1 + dn : Nat) : Int)) (x_cst rfl) (by fail "ev") rfl) es_nil0)) e2) (by fail "lt")) ?_
  obtain ⟨c, S3, e3, c0, c1, ok3⟩ := draw (E := E) (F := []) (N := N + 4) (m := (mn : Int)) ok2 (by omega) (by omega) (by omega) (by omega)
  obtain ⟨cn, rfl⟩ := Int.eq_ofNat_of_zero_le c0
  refine w_nx (by fail "ev") ?_
  obtain ⟨tn, S4, e4, t1, t2, t3, ok4⟩ := words (E := E) (F := [some (.lst [])]) (N := N + 4) (m := 1 + cn) ok3 (by omega) (by omega) (Cl.app (Cl_hp hc) (noRef_lst0 noRef_nil)) (by omega)
  refine w_for (mk := fun x : Txt × Nat => PV.tup [.int (x.2 : Nat), .str x.1]) (ks := tn.zipIdx) (sr_enmM (d := .lst (tn.map .str)) (x_call (es_cons0 (x_var rfl) (es_cons0 (x_var rfl) es_nil0)) e4) rfl)
    (fun pre env h => ∃ (S' : Sm) (ts : List Tie) (x8 x9 x10 x11 x12 : Option Vl), env = [some (.rf 1), some (.fz (.int (ax : Int))), some (.fz (.int (hl : Int))), some (.fz (.int (mn : Int))), some (.fz (.int (wd : Int))), some (.fz (.lst (names.map .str))), some (.fz (.int ((1 + cn : Nat) : Int))), some (.rf (E.length + 2)), x8, x9, x10, x11, x12, none] ∧ h = hp S' E ++ [some (.lst (fzs (ts.map row)))] ∧
      ts.map Tie.nm = pre.map Prod.fst ∧ (∀ t ∈ ts, t.s ∈ names ∧ t.e ∈ names ∧ t.st.length = ax ∧ ∀ x ∈ t.st, -(wd : Int) ≤ x ∧ x ≤ wd) ∧ S'.Ok (B + 1 + 5 * (1 + dn) + 1 + 5 * (1 + cn) + 10 * pre.length)) ?_ ?_ ?_
  · exact ⟨S4, [], none, none, none, none, none, rfl, rfl, rfl, by simp, ok4.mono (by simp)⟩
  · rintro pre ⟨w, k⟩ post hk env h ⟨S5, ts, x8, x9, x10, x11, x12, rfl, rfl, hnm, hts, ok5⟩
    have hj : pre.length < 1 + cn := by
      have := congrArg List.length hk
      simp at this
      omega
    refine ⟨_, tg_tp2 (tg_nm (by fail "lt")) (tg_nm (by fail "lt")), ?_⟩
    have hnl : 0 < names.length := by omega
    have hne : names.map PV.str ≠ [] := by intro z; rw [List.map_eq_nil_iff] at z; subst z; simp at hnl
    obtain ⟨p1, m1, S6, e6, ok6⟩ := pick (E := E) (F := [some (.lst (fzs (ts.map row)))]) (N := N + 4) ok5 (by omega) hne (by rw [List.length_map]; omega) (by omega)
    obtain ⟨w1, hw1, rfl⟩ := List.mem_map.mp m1
    obtain ⟨p2, m2, S7, e7, ok7⟩ := pick (E := E) (F := [some (.lst (fzs (ts.map row)))]) (N := N + 4) ok6 (by omega) hne (by rw [List.length_map]; omega) (by omega)
    obtain ⟨w2, hw2, rfl⟩ := List.mem_map.mp m2
    refine w_nx (ss_par3 (es_cons0 (x_call (es_cons0 (x_var rfl) (es_cons0 (x_var rfl) es_nil0)) e6) (es_cons0 (x_call (es_cons0 (x_var rfl) (es_cons0 (x_var rfl) es_nil0)) e7) es_nil0)) rfl) ?_
    -- the ends
    have fin : ∀ (s e : Txt) (S8 : Sm), s ∈ names → e ∈ names → S8.Ok (B + 1 + 5 * (1 + dn) + 1 + 5 * (1 + cn) + 10 * pre.length + 3) → W ((gx (N + 4)).sts (.cons (.set 10 (.lc [13] (.nm 13) (.rng (.var 1)) .yes (.bin 1 (.call f_law_draw (.cons (.var 0) (.cons (.bin 0 (.bin 2 (.cst (.int 2)) (.var 4)) (.cst (.int 1))) .nil))) (.var 4)))) (.cons (.exp (.app (.var 7) (.tup (.cons (.var 9) (.cons (.var 11) (.cons (.var 12) (.cons (.s1 1 (.var 10)) .nil))))))) .nil))
        [some (.rf 1), some (.fz (.int (ax : Int))), some (.fz (.int (hl : Int))), some (.fz (.int (mn : Int))), some (.fz (.int (wd : Int))), some (.fz (.lst (names.map .str))), some (.fz (.int ((1 + cn : Nat) : Int))), some (.rf (E.length + 2)), some (.fz (.int (k : Int))), some (.fz (.str w)), x10, some (.fz (.str s)), some (.fz (.str e)), none] (hp S8 E ++ [some (.lst (fzs (ts.map row)))]))
        (turn (gx (N + 4)) (.cons (.ret (.tup (.cons (.var 1) (.cons (.var 5) (.cons (.var 7) .nil))))) .nil) (fun o => ∃ v S' F, o = .rt (.fz v) (hp S' E ++ F) ∧ ∃ (names : List Txt) (ts : List Tie), v = .tup [.int (ax : Int), .lst (names.map .str), .lst (ts.map row)] ∧ PlanOk ax hl mn wd names ts ∧ S'.Ok (B + 1000))
          (fun env h => ∃ (S' : Sm) (ts : List Tie) (x8 x9 x10 x11 x12 : Option Vl), env = [some (.rf 1), some (.fz (.int (ax : Int))), some (.fz (.int (hl : Int))), some (.fz (.int (mn : Int))), some (.fz (.int (wd : Int))), some (.fz (.lst (names.map .str))), some (.fz (.int ((1 + cn : Nat) : Int))), some (.rf (E.length + 2)), x8, x9, x10, x11, x12, none] ∧ h = hp S' E ++ [some (.lst (fzs (ts.map row)))] ∧
            ts.map Tie.nm = (pre ++ [(w, k)]).map Prod.fst ∧ (∀ t ∈ ts, t.s ∈ names ∧ t.e ∈ names ∧ t.st.length = ax ∧ ∀ x ∈ t.st, -(wd : Int) ≤ x ∧ x ≤ wd) ∧ S'.Ok (B + 1 + 5 * (1 + dn) + 1 + 5 * (1 + cn) + 10 * (pre ++ [(w, k)]).length))) := by
      intro s e S8 hs he ok8
      refine w_set (we_lc (mk := fun i : Nat => PV.int (i : Int)) (ks := List.range ax) (sr_rngM (by fail "ev") (by omega)) (fun pre2 ys h => ∃ (S' : Sm) (l : List Int), h = hp S' E ++ [some (.lst (fzs (ts.map row)))] ∧ ys = l.map PV.int ∧ l.length = pre2.length ∧ (∀ x ∈ l, -(wd : Int) ≤ x ∧ x ≤ wd) ∧ S'.Ok (B + 1 + 5 * (1 + dn) + 1 + 5 * (1 + cn) + 10 * pre.length + 3 + pre2.length)) ?_ ?_ ?_) (by fail "lt")
      · exact ⟨S8, [], rfl, rfl, rfl, by simp, ok8.mono (by simp)⟩
      · rintro pre2 i2 post2 ys hk2 h ⟨S9, l, rfl, rfl, hll, hlb, ok9⟩
        have hj2 : pre2.length < ax := by
          have := congrArg List.length hk2
          simp at this
          omega
        refine ⟨_, tg_nm (by fail "lt"), tt_yes, ?_⟩
        obtain ⟨x, S10, e10, x0, x1, ok10⟩ := draw (E := E) (F := [some (.lst (fzs (ts.map row)))]) (N := N + 4) (m := 2 * (wd : Int) + 1) ok9 (by omega) (by omega) (by omega) (by omega)
        have hmul : binV 2 (.int 2) (.int (wd : Int)) = some (.int (2 * (wd : Int))) := mul_ii (by decide) (by omega)
        refine we_ok (v := .fz (.int (x - wd))) (h1 := hp S10 E ++ [some (.lst (fzs (ts.map row)))]) (by fail "ev") ⟨_, rfl, S10, l ++ [x - wd], rfl, by simp, by simp [hll], ?_, ok10.mono (by simp; omega)⟩
        intro z hz
        rcases List.mem_append.mp hz with hz | hz
        · exact hlb z hz
        · simp at hz; subst hz; omega
      · rintro ys h' ⟨S9, l, rfl, rfl, hll, hlb, ok9⟩
        simp at hll
        refine w_exp (we_ok (v := .fz .non) (h1 := hp S9 E ++ [some (.lst (fzs (ts.map row ++ [row ⟨w, s, e, l⟩])))]) ?_ (w_turn ⟨S9, ts ++ [⟨w, s, e, l⟩], some (.fz (.int (k : Int))), some (.fz (.str w)), some (.fz (.lst (l.map .int))), some (.fz (.str s)), some (.fz (.str e)), rfl, by simp, by simp [hnm], ?_, ok9.mono (by simp; omega)⟩))
        · fail "ev"
          simp only [List.length_map, LIM]
          have := congrArg List.length hnm
          simp at this
          omega
        · intro t ht
          rcases List.mem_append.mp ht with ht | ht
          · exact hts t ht
          · simp at ht; subst ht; exact ⟨hs, he, hll, hlb⟩
    by_cases hkn : (k : Int) < ((names.map PV.str).length : Int)
    · obtain ⟨z, S8, e8, z0, z1, ok8⟩ := draw (E := E) (F := [some (.lst (fzs (ts.map row)))]) (N := N + 4) (m := 4) ok7 (by omega) (by decide) (by decide) (by omega)
      have hc1 : (gx (N + 4)).ts (.and (.cmp 2 (.var 8) (.len (.var 5))) (.cmp 4 (.call f_law_draw (.cons (.var 0) (.cons (.cst (.int 4)) .nil))) (.cst (.int 0)))) [some (.rf 1), some (.fz (.int (ax : Int))), some (.fz (.int (hl : Int))), some (.fz (.int (mn : Int))), some (.fz (.int (wd : Int))), some (.fz (.lst (names.map .str))), some (.fz (.int ((1 + cn : Nat) : Int))), some (.rf (E.length + 2)), some (.fz (.int (k : Int))), some (.fz (.str w)), x10, some (.fz (.str w1)), some (.fz (.str w2)), none] (hp S7 E ++ [some (.lst (fzs (ts.map row)))]) = .ok (decide (0 < z)) (hp S8 E ++ [some (.lst (fzs (ts.map row)))]) := by
        exact t_andT' (h1 := hp S7 E ++ [some (MO.lst (fzs (ts.map row)))]) (by fail "ev") (decide_eq_true hkn) (by fail "ev")
      refine w_if hc1 (fun hz => ?_) (fun _ => w_aft (fin w1 w2 S8 hw1 hw2 (ok8.mono (by omega))))
      obtain ⟨y1, hy1, f1, _⟩ := atP_nat (xs := names.map PV.str) (i := (k : Int)) (by omega) hkn
      obtain ⟨v1, hv1, rfl⟩ := List.mem_map.mp hy1
      have hpos : (0 : Int) < ((names.map PV.str).length : Int) := by omega
      obtain ⟨y2, hy2, f2, _⟩ := atP_nat (xs := names.map PV.str) (i := ((k : Int) + 1) % ((names.map PV.str).length : Int)) (Int.emod_nonneg _ (by omega)) (Int.emod_lt_of_pos _ hpos)
      obtain ⟨v2, hv2, rfl⟩ := List.mem_map.mp hy2
      have hmod : binV 4 (.int ((k : Int) + 1)) (.int ((names.map PV.str).length : Int)) = some (.int (((k : Int) + 1) % ((names.map PV.str).length : Int))) := mod_ii hpos
      have g1 := idx_lst (h := hp S8 E ++ [some (.lst (fzs (ts.map row)))]) f1
      have g2 := idx_lst (h := hp S8 E ++ [some (.lst (fzs (ts.map row)))]) f2
      exact w_nx (by fail "ev") (w_aft (fin v1 v2 S8 hv1 hv2 (ok8.mono (by omega))))
    · refine w_if (t := false) (h1 := hp S7 E ++ [some (MO.lst (fzs (ts.map row)))]) (t_andF' (by fail "ev") (decide_eq_false hkn)) (fun z => by cases z) (fun _ => w_aft (fin w1 w2 S7 hw1 hw2 (ok7.mono (by omega))))
  · rintro e2 h2 ⟨S', ts, x8, x9, x10, x11, x12, rfl, rfl, hnm, hts, ok5⟩
    have hz : tn.zipIdx.map Prod.fst = tn := by simp
    rw [hz] at hnm
    have hlen : ts.length = 1 + cn := by
      have := congrArg List.length hnm
      simp at this
      omega
    refine w_ret (by fail "ev") ⟨_, S', _, rfl, names, ts, rfl, ⟨fun z => by subst z; simp at n1; omega, by omega, n2, n3, fun z => by subst z; simp at hlen; omega, by omega, by rw [hnm]; exact t2, fun t ht => ⟨t3 _ (by rw [← hnm]; exact List.mem_map_of_mem ht), hts t ht⟩⟩, ok5.mono (by simp [t1]; omega)⟩
theorem plan {ax hl mn wd : Nat} (hax : ax ≤ 4) (hh : 0 < hl ∧ hl ≤ 10) (hm : 0 < mn ∧ mn ≤ 10) (hw : wd ≤ 1000) (ok : S.Ok B) (hB : B ≤ 1000000000) (hc : Cl (hp S E ++ F)) (hN : 5 ≤ N) :
    ∃ (names : List Txt) (ts : List Tie) (S' : Sm), run 2000 N f_law_n_plan [.rf 1, .fz (.int (ax : Int)), .fz (.int (hl : Int)), .fz (.int (mn : Int)), .fz (.int (wd : Int))] (hp S E ++ F) = .ok (.fz (.tup [.int (ax : Int), .lst (names.map .str), .lst (ts.map row)])) (hp S' E ++ F) ∧ PlanOk ax hl mn wd names ts ∧ S'.Ok (B + 1000) := by
  obtain ⟨v, S', e, names, ts, rfl, h1, h2⟩ := plan0 (E := E ++ F) hax hh hm hw ok hB hc hN
  exact ⟨names, ts, S', e, h1, h2⟩
end HV.k41

end

section
/-! S5: nets are made. -/
namespace HV.k41
open HV
local macro_rules | `(tactic| fail "call") => `(tactic| with_reducible (show _ = _; assumption))
local macro_rules | `(tactic| fail "leaf") => `(tactic| rfl)
local macro_rules | `(tactic| fail "lt") => `(tactic| exact Nat.le_of_ble_eq_true rfl)
local macro_rules | `(tactic| fail "dec") => `(tactic| first | rfl | assumption | (simp [*]; done))
local macro_rules | `(tactic| fail "cmp") => `(tactic| with_reducible (first
  | exact cmp_eq_int _ _ _ _ _
  | exact cmp_ne_int _ _ _ _ _
  | exact cmp_lt_int _ _ _ _ _
  | exact cmp_le_int _ _ _ _ _
  | exact cmp_gt_int _ _ _ _ _
  | exact cmp_ge_int _ _ _ _ _
  | exact cmp_eq_str _ _ _ _ _
  | exact cmp_ne_str _ _ _ _ _
  | exact cmp_in_strs _ _ _ _ _
  | exact cmp_ni_strs _ _ _ _ _
  | exact cmp_in_sign _ _ _ _ _
  | apply cmp_in_rf
  | apply cmp_ni_rf
  | exact cmp_is_non _ _ _ _
  | exact cmp_isnt_non _ _ _ _))
local macro_rules | `(tactic| fail "heap") => `(tactic| with_reducible (first
  | exact pa0 | exact pa1 | exact pa2 | exact pa3 | exact ha0 | exact ha1 | exact ha2 | exact ha3
  | exact ps0 | exact ps1 | exact ps2 | exact ps3 | exact hs0 | exact hs1 | exact hs2 | exact hs3
  | exact pl0 | exact pl1 | exact pl2 | exact pl3 | exact hl0 | exact hl1 | exact hl2 | exact hl3
  | exact hc0 | exact hc1 | exact hc2 | exact hc3))
local macro_rules | `(tactic| fail "ev1") => `(tactic| first
  | with_reducible exact es_nil0
  | with_reducible apply es_cons0
  | (with_reducible apply x_var <;> rfl)
  | (with_reducible apply x_cst <;> rfl)
  | (with_reducible apply x_glo <;> rfl)
  | with_reducible apply x_andB
  | with_reducible apply x_orB
  | with_reducible apply x_not'
  | with_reducible apply x_cmp
  | with_reducible apply x_idx
  | with_reducible apply x_bin
  | with_reducible apply x_isi
  | with_reducible apply x_len
  | with_reducible apply x_b1
  | with_reducible apply x_s1
  | with_reducible apply x_att
  | with_reducible apply x_tup'
  | with_reducible apply x_lst'
  | with_reducible apply x_slc
  | with_reducible apply x_nlst3
  | with_reducible apply x_app4
  | with_reducible apply x_frz3
  | with_reducible apply x_join
  | with_reducible exact bd_non
  | with_reducible apply bd_one
  | with_reducible apply x_call
  | with_reducible apply x_meth
  | with_reducible apply x_lc
  | with_reducible apply sr_zipM
  | with_reducible apply sr_enmM
  | with_reducible apply sr_fz
  | with_reducible (apply lcN_map; intro _ _; refine ⟨?_, tt_yes, ?_⟩)
  | with_reducible (apply lcN_filt; intro _ _; refine ⟨?_, ?_, fun _ => ?_⟩)
  | with_reducible apply frzR_ok
  | with_reducible apply tg_nm
  | with_reducible apply tg_tp2
  | with_reducible apply tg_tp3
  | with_reducible apply tg_tp4
  | with_reducible exact tt_yes
  | with_reducible apply tt_val
  | with_reducible apply t_cmp0
  | with_reducible apply t_not0
  | with_reducible apply t_andB
  | with_reducible apply t_orB
  | with_reducible apply t_chnB
  | with_reducible (apply bb_ret; apply s_ret0)
  | with_reducible exact bb_nil
  | with_reducible apply bb_cons
  | with_reducible apply s_set0
  | with_reducible apply s_exp0
  | with_reducible apply ss_par3
  | with_reducible apply s_setT3
  | with_reducible apply s_aug3
  | with_reducible intro _
  | with_reducible exact frzs_nil
  | with_reducible apply frzs_fz
  | with_reducible apply frzs_rf
  | fail "call"
  | fail "heap"
  | fail "lt"
  | fail "cmp"
  | fail "leaf")
local macro_rules | `(tactic| fail "ev") => `(tactic| repeat' (fail "ev1"))

local macro_rules | `(tactic| fail "call") => `(tactic| with_reducible (first | exact is_list (by with_unfolding_all rfl) (by omega) | exact is_int _ (by omega) | exact is_integer (by with_unfolding_all rfl) (by omega) | exact is_name_str _ (by omega)))

local macro_rules | `(tactic| fail "call") => `(tactic| with_reducible (first | exact is_vector_t _ _ (by omega) | exact is_vector_l _ _ (by omega)))
local macro_rules | `(tactic| fail "leaf") => `(tactic| exact all_blm _ _)
variable {h : Hm} {N : Nat}
theorem pfunN {n f : Nat} (d : Dr) {args : List Vl} (e : dr[f]? = some d) (hn : args.length = d.np) (hk : d.keep = false) (hc : Cl h)
    (hb : W ((gx n).sts d.body (args.map some ++ List.replicate d.k none) (h ++ [])) fun o => ∃ e F, o = .nx e (h ++ F)) : run 2000 (n + 1) f args h = .ok (.fz .non) h := by
  rw [List.append_nil] at hb
  obtain ⟨e2, F, e1⟩ := hb
  rw [run_at n f d e, hk]
  exact run_nx hn e1 (cut_cl rfl hc)
/-- what makes a net -/
structure NetOk (ax : Nat) (halls : List Txt) (ts : List Tie) : Prop where
  axl : ax ≤ 4
  h0 : halls ≠ []
  hl : halls.length ≤ 100000
  hn : halls.Nodup
  hg : ∀ w ∈ halls, nameB w = true
  tn : (ts.map Tie.nm).Nodup
  tl : ts.length ≤ 100000
  tg : ∀ t ∈ ts, nameB t.nm = true ∧ t.s ∈ halls ∧ t.e ∈ halls ∧ t.st.length = ax
theorem check_rooms {halls : List Txt} (h0 : halls ≠ []) (nd : halls.Nodup) (h5 : ∀ w ∈ halls, nameB w = true) (hc : Cl h) (hN : 2 ≤ N) : run 2000 N f_check_rooms [.fz (.lst (halls.map .str))] h = .ok (.fz .non) h := by
  obtain ⟨N, rfl⟩ := Nat.exists_eq_add_of_le' hN
  apply pfunN r_check_rooms rfl rfl rfl hc
  have hp0 : 0 < halls.length := List.length_pos_iff.mpr h0
  have ha : halls.all nameB = true := List.all_eq_true.mpr h5
  refine w_ifF (by fail "ev") (by simp [isLst, ha]; omega) (w_aft ?_)
  refine w_ifF (h1 := h ++ [none]) (t_cmp0 (x_len (x_dcS (mk := PV.str) (ks := halls) (f := fun w => w) (g := fun _ => .bl true) (by fail "ev") (lcN_map PV.str _ _ halls fun w hw => ⟨tg_nm (by fail "lt"), tt_yes, pairE_ok (by fail "ev") (by fail "ev")⟩) (by simpa using nd) hc0) rfl) (by fail "ev") (cmp_ne_int _ _ _ _ _)) (by simp) (w_aft (w_nil ⟨_, _, rfl⟩))
theorem is_tie {ax : Nat} {halls ws : List Txt} {nm s e : Txt} {b : Bool} {st : List Int} (h1 : nameB nm = true) (h2 : nm ∉ ws) (h3 : s ∈ halls) (h4 : e ∈ halls) (h5 : ∀ w ∈ halls, nameB w = true) (h6 : st.length = ax) (hN : 3 ≤ N) :
    run 2000 N f_is_tie [.fz (.tup [.str nm, .str s, .str e, if b then .lst (st.map .int) else .tup (st.map .int)]), .fz (.int (ax : Int)), .fz (.lst (halls.map .str)), .fz (.lst (ws.map .str))] h = .ok (.fz (.bl true)) h := by
  obtain ⟨N, rfl⟩ := Nat.exists_eq_add_of_le' hN
  subst h6
  have g : ∀ (z : PV), (run 2000 (N + 2) f_is_vector [.fz z, .fz (.int (st.length : Int))] h = .ok (.fz (.bl true)) h) → run 2000 (N + 3) f_is_tie [.fz (.tup [.str nm, .str s, .str e, z]), .fz (.int (st.length : Int)), .fz (.lst (halls.map .str)), .fz (.lst (ws.map .str))] h = .ok (.fz (.bl true)) h := by
    intro z hz
    apply purW r_is_tie rfl rfl
    refine w_ifF (by fail "ev") (by simp [isLst, h1, h2]) (w_aft ?_)
    refine w_for (mk := PV.str) (ks := [s, e]) (sr_fz (ds := [s, e].map PV.str) (by fail "ev") rfl) (fun pre env h' => h' = h ∧ ∃ x4, env = [some (.fz (.tup [.str nm, .str s, .str e, z])), some (.fz (.int (st.length : Int))), some (.fz (.lst (halls.map .str))), some (.fz (.lst (ws.map .str))), x4]) ⟨rfl, none, rfl⟩ ?_ ?_
    · rintro pre w post hk env h' ⟨rfl, x4, rfl⟩
      have hw : w ∈ halls := by
        have : w ∈ [s, e] := by rw [hk]; simp
        rcases List.mem_cons.mp this with rfl | this
        · exact h3
        · simp at this; subst this; exact h4
      exact ⟨_, tg_nm (by fail "lt"), w_ifF (by fail "ev") (by simp [h5 w hw, hw]) (w_aft (w_turn ⟨rfl, _, rfl⟩))⟩
    · rintro e2 h2 ⟨rfl, x4, rfl⟩
      exact w_ret (by fail "ev") rfl
  cases b with
  | true => exact g _ (by have := is_vector_l (h := h) (N := N + 2) st (st.length : Int) (by omega); simpa using this)
  | false => exact g _ (by have := is_vector_t (h := h) (N := N + 2) st (st.length : Int) (by omega); simpa using this)
abbrev netV (ax : Nat) (halls : List Txt) (ts : List Tie) : PV := .obj c_Net [(1635280243, .int (ax : Int)), (540405396817959671653747, .lst (halls.map .str)), (8388347241570465651, .lst (ts.map row))]
/-- a row as it is handed in: its step a list or a tuple -/
abbrev rowB (b : Bool) (t : Tie) : PV := .tup [.str t.nm, .str t.s, .str t.e, if b then .lst (t.st.map .int) else .tup (t.st.map .int)]
theorem tuple_b (b : Bool) (l : List PV) : s1V 1 (if b then .lst l else .tup l) = some (.tup l) := by cases b <;> rfl
theorem checked_ties {ax : Nat} {halls : List Txt} {ts : List Tie} (b : Bool) (K : NetOk ax halls ts) (hc : Cl h) (hN : 4 ≤ N) :
    run 2000 N f_checked_ties [.fz (.int (ax : Int)), .fz (.lst (halls.map .str)), .fz (.lst (ts.map (rowB b))), .fz (.lst [])] h = .ok (.fz (.lst (ts.map row))) h := by
  obtain ⟨N, rfl⟩ := Nat.exists_eq_add_of_le' hN
  apply pfun r_checked_ties rfl rfl rfl hc
  refine w_ifF (by fail "ev") (by simp [isLst]) (w_aft ?_)
  refine w_nx (by fail "ev") ?_
  refine w_for (mk := fun x : Tie × Nat => PV.tup [.int (x.2 : Nat), rowB b x.1]) (ks := ts.zipIdx) (by fail "ev") (fun pre env h' => ∃ x5 x6, env = [some (.fz (.int (ax : Int))), some (.fz (.lst (halls.map .str))), some (.fz (.lst (ts.map (rowB b)))), some (.fz (.lst [])), some (.rf h.length), x5, x6, none] ∧ h' = h ++ [some (.lst (fzs ((pre.map Prod.fst).map row)))]) ?_ ?_ ?_
  · exact ⟨none, none, rfl, rfl⟩
  · rintro pre ⟨t, k⟩ post hk env h' ⟨x5, x6, rfl, rfl⟩
    refine ⟨_, tg_tp2 (tg_nm (by fail "lt")) (tg_nm (by fail "lt")), ?_⟩
    have hts : ts = pre.map Prod.fst ++ t :: post.map Prod.fst := by
      have := congrArg (List.map Prod.fst) hk
      simpa using this
    have hmem : t ∈ ts := by rw [hts]; simp
    obtain ⟨g1, g2, g3, g4⟩ := K.tg t hmem
    have hnew : t.nm ∉ (pre.map Prod.fst).map Tie.nm := fun z => by
      have nd := K.tn
      rw [hts, List.map_append, List.map_cons] at nd
      exact (List.nodup_append.mp nd).2.2 _ z _ (by simp) rfl
    have hpl : (pre.map Prod.fst).length < 100000 := by
      have := K.tl
      rw [hts] at this
      simp at this ⊢
      omega
    have et := is_tie (h := h ++ [some (.lst (fzs ((pre.map Prod.fst).map row)))]) (N := N + 3) (b := b) (ax := ax) g1 hnew g2 g3 K.hg g4 (by omega)
    refine w_ifF (h1 := h ++ [some (MO.lst (fzs ((pre.map Prod.fst).map row)))]) (t_not0 (t := true) (tt_val (x_call (es_cons0 (by fail "ev") (es_cons0 (by fail "ev") (es_cons0 (by fail "ev") (es_cons0 (x_bin (d2 := .lst (((pre.map Prod.fst).map Tie.nm).map .str)) (d3 := .lst (((pre.map Prod.fst).map Tie.nm).map .str)) (by fail "ev") ?lc ?bn) es_nil0)))) et) rfl)) rfl (w_aft ?_)
    case lc =>
      refine x_lcL3 (ds := (pre.map Prod.fst).map row) (h2 := h ++ [none]) (h3 := h ++ [none]) (x_var rfl) (by fail "heap") (by fail "heap") ?_ (by fail "heap")
      have := lcN_map (g := (gx (N + 3)).tg (.nm 7)) (c := (gx (N + 3)).ts .yes) (e := frzR ((gx (N + 3)).ex (.idx (.var 7) (.cst (.int 0))))) (env := wipeE [7] [some (.fz (.int (ax : Int))), some (.fz (.lst (halls.map .str))), some (.fz (.lst (ts.map (rowB b)))), some (.fz (.lst [])), some (.rf h.length), some (.fz (.int (k : Int))), some (.fz (rowB b t)), none]) (h := h ++ [none]) row (fun t => PV.str t.nm) (fun u => [some (.fz (.int (ax : Int))), some (.fz (.lst (halls.map .str))), some (.fz (.lst (ts.map (rowB b)))), some (.fz (.lst [])), some (.rf h.length), some (.fz (.int (k : Int))), some (.fz (rowB b t)), some (.fz (row u))]) (pre.map Prod.fst) fun u hu => ⟨rfl, tt_yes, frzR_ok (x_idx (x_var rfl) (x_cst rfl) rfl)⟩
      simpa [Function.comp_def] using this
    case bn =>
      have : (((pre.map Prod.fst).map Tie.nm).map PV.str).length ≤ LIM := by simp [LIM]; simp at hpl; omega
      simp only [binV, addV, List.length_nil, Nat.zero_add, if_pos this, List.nil_append]
    refine w_exp (we_ok (v := .fz .non) (h1 := h ++ [some (.lst (fzs ((pre.map Prod.fst).map row ++ [row t])))]) ?_ (w_turn ⟨_, _, rfl, by simp⟩))
    have e3 := tuple_b b (t.st.map .int)
    fail "ev"
    simp [LIM]
    simp at hpl
    omega
  · rintro e2 h2 ⟨x5, x6, rfl, rfl⟩
    have hz : ts.zipIdx.map Prod.fst = ts := by simp
    rw [hz]
    exact w_ret (by fail "ev") ⟨_, rfl⟩
end HV.k41

end

section
/-! S6: nets: the class. -/
namespace HV
theorem data_row (n : Nat) {ι : Type} (f : ι → PV) (H : ∀ i, dataP n (f i) = true) : ∀ ks : List ι, dataPs n (ks.map f) = true
  | [] => by simp [dataPs]
  | k :: ks => by simp [dataPs, H, data_row n f H ks]
theorem cmp_eq_data (sp : Nat → Nat → Option Nat) (φ : Nat → List Vl → Hm → R Vl) {a b : PV} (ha : dataP 60 a = true) (hb : dataP 60 b = true) (h : Hm) : cmpG sp φ 0 (.fz a) (.fz b) h = .ok (.fz (.bl (eqvP a b))) h := by
  rw [cmpG_fz _ _ _ _ _ _ (fun _ _ z => by subst z; simp [dataP] at ha) (fun _ _ z => by subst z; simp [dataP] at hb)]
  simp only [cmpV, eqE, eqD, ha, hb, Bool.and_self, if_true, blO_some, liftF_some]
theorem cmp_ne_data (sp : Nat → Nat → Option Nat) (φ : Nat → List Vl → Hm → R Vl) {a b : PV} (ha : dataP 60 a = true) (hb : dataP 60 b = true) (h : Hm) : cmpG sp φ 1 (.fz a) (.fz b) h = .ok (.fz (.bl (!eqvP a b))) h := by
  rw [cmpG_fz _ _ _ _ _ _ (fun _ _ z => by subst z; simp [dataP] at ha) (fun _ _ z => by subst z; simp [dataP] at hb)]
  simp only [cmpV, eqE, eqD, ha, hb, Bool.and_self, if_true, Option.map_some, blO_some, liftF_some]
mutual
theorem eqvP_refl : ∀ (n : Nat) (d : PV), dataP n d = true → eqvP d d = true
  | _, .non, _ => by simp [eqvP]
  | _, .bl _, _ => by simp [eqvP]
  | _, .int _, _ => by simp [eqvP]
  | _, .str _, _ => by simp [eqvP]
  | n + 1, .lst xs, h => by simp only [dataP] at h; simp only [eqvP]; exact eqvPs_refl n xs h
  | n + 1, .tup xs, h => by simp only [dataP] at h; simp only [eqvP]; exact eqvPs_refl n xs h
  | 0, .lst xs, h => by simp [dataP] at h
  | 0, .tup xs, h => by simp [dataP] at h
  | 0, .dct _, h => by simp [dataP] at h
  | n + 1, .dct _, h => by simp [dataP] at h
  | 0, .obj _ _, h => by simp [dataP] at h
  | n + 1, .obj _ _, h => by simp [dataP] at h
  | 0, .cls _, h => by simp [dataP] at h
  | n + 1, .cls _, h => by simp [dataP] at h
  | 0, .ty _, h => by simp [dataP] at h
  | n + 1, .ty _, h => by simp [dataP] at h
  | 0, .scr _, h => by simp [dataP] at h
  | n + 1, .scr _, h => by simp [dataP] at h
theorem eqvPs_refl : ∀ (n : Nat) (ds : List PV), dataPs n ds = true → eqvPs ds ds = true
  | _, [], _ => by simp [eqvPs]
  | n, d :: ds, h => by
    simp only [dataPs, Bool.and_eq_true] at h
    simp only [eqvPs, eqvP_refl n d h.1, eqvPs_refl n ds h.2, Bool.and_self]
end
end HV
namespace HV.k41
open HV
local macro_rules | `(tactic| fail "call") => `(tactic| with_reducible (show _ = _; assumption))
local macro_rules | `(tactic| fail "leaf") => `(tactic| rfl)
local macro_rules | `(tactic| fail "lt") => `(tactic| exact Nat.le_of_ble_eq_true rfl)
local macro_rules | `(tactic| fail "dec") => `(tactic| first | rfl | assumption | (simp [*]; done))
local macro_rules | `(tactic| fail "cmp") => `(tactic| with_reducible (first
  | exact cmp_eq_int _ _ _ _ _
  | exact cmp_ne_int _ _ _ _ _
  | exact cmp_lt_int _ _ _ _ _
  | exact cmp_le_int _ _ _ _ _
  | exact cmp_gt_int _ _ _ _ _
  | exact cmp_ge_int _ _ _ _ _
  | exact cmp_eq_str _ _ _ _ _
  | exact cmp_ne_str _ _ _ _ _
  | exact cmp_in_strs _ _ _ _ _
  | exact cmp_ni_strs _ _ _ _ _
  | exact cmp_in_sign _ _ _ _ _
  | apply cmp_in_rf
  | apply cmp_ni_rf
  | exact cmp_is_non _ _ _ _
  | exact cmp_isnt_non _ _ _ _))
local macro_rules | `(tactic| fail "heap") => `(tactic| with_reducible (first
  | exact pa0 | exact pa1 | exact pa2 | exact pa3 | exact ha0 | exact ha1 | exact ha2 | exact ha3
  | exact ps0 | exact ps1 | exact ps2 | exact ps3 | exact hs0 | exact hs1 | exact hs2 | exact hs3
  | exact pl0 | exact pl1 | exact pl2 | exact pl3 | exact hl0 | exact hl1 | exact hl2 | exact hl3
  | exact hc0 | exact hc1 | exact hc2 | exact hc3))
local macro_rules | `(tactic| fail "ev1") => `(tactic| first
  | with_reducible exact es_nil0
  | with_reducible apply es_cons0
  | (with_reducible apply x_var <;> rfl)
  | (with_reducible apply x_cst <;> rfl)
  | (with_reducible apply x_glo <;> rfl)
  | with_reducible apply x_andB
  | with_reducible apply x_orB
  | with_reducible apply x_not'
  | with_reducible apply x_cmp
  | with_reducible apply x_idx
  | with_reducible apply x_bin
  | with_reducible apply x_isi
  | with_reducible apply x_len
  | with_reducible apply x_b1
  | with_reducible apply x_s1
  | with_reducible apply x_att
  | with_reducible apply x_tup'
  | with_reducible apply x_lst'
  | with_reducible apply x_slc
  | with_reducible apply x_nlst3
  | with_reducible apply x_app4
  | with_reducible apply x_frz3
  | with_reducible apply x_join
  | with_reducible exact bd_non
  | with_reducible apply bd_one
  | with_reducible apply x_call
  | with_reducible apply x_meth
  | with_reducible apply x_lc
  | with_reducible apply sr_zipM
  | with_reducible apply sr_enmM
  | with_reducible apply sr_fz
  | with_reducible (apply lcN_map; intro _ _; refine ⟨?_, tt_yes, ?_⟩)
  | with_reducible (apply lcN_filt; intro _ _; refine ⟨?_, ?_, fun _ => ?_⟩)
  | with_reducible apply frzR_ok
  | with_reducible apply tg_nm
  | with_reducible apply tg_tp2
  | with_reducible apply tg_tp3
  | with_reducible apply tg_tp4
  | with_reducible exact tt_yes
  | with_reducible apply tt_val
  | with_reducible apply t_cmp0
  | with_reducible apply t_not0
  | with_reducible apply t_andB
  | with_reducible apply t_orB
  | with_reducible apply t_chnB
  | with_reducible (apply bb_ret; apply s_ret0)
  | with_reducible exact bb_nil
  | with_reducible apply bb_cons
  | with_reducible apply s_set0
  | with_reducible apply s_exp0
  | with_reducible apply ss_par3
  | with_reducible apply s_setT3
  | with_reducible apply s_aug3
  | with_reducible intro _
  | with_reducible exact frzs_nil
  | with_reducible apply frzs_fz
  | with_reducible apply frzs_rf
  | fail "call"
  | fail "heap"
  | fail "lt"
  | fail "cmp"
  | fail "leaf")
local macro_rules | `(tactic| fail "ev") => `(tactic| repeat' (fail "ev1"))

local macro_rules | `(tactic| fail "call") => `(tactic| with_reducible (first | exact is_list (by with_unfolding_all rfl) (by omega) | exact is_int _ (by omega) | exact is_integer (by with_unfolding_all rfl) (by omega) | exact is_name_str _ (by omega)))

variable {h : Hm} {N : Nat}
theorem att_axes (n : Nat) (ax : Nat) (halls : List Txt) (ts : List Tie) : attV (gx n).isF 1635280243 (netV ax halls ts) = some (.int (ax : Int)) := rfl
theorem att_rooms (n : Nat) (ax : Nat) (halls : List Txt) (ts : List Tie) : attV (gx n).isF 540405396817959671653747 (netV ax halls ts) = some (.lst (halls.map .str)) := rfl
theorem att_rows (n : Nat) (ax : Nat) (halls : List Txt) (ts : List Tie) : attV (gx n).isF 8388347241570465651 (netV ax halls ts) = some (.lst (ts.map row)) := rfl
abbrev netF (ax : Nat) (halls : List Txt) (ts : List Tie) : List (Nat × PV) := [(1635280243, .int (ax : Int)), (540405396817959671653747, .lst (halls.map .str)), (8388347241570465651, .lst (ts.map row))]
abbrev insO (fs : List (Nat × PV)) : Option MO := some (.ins c_Net (fs.map fun p => (p.1, .fz p.2)))
theorem init_ok {ax : Nat} {halls : List Txt} {ts : List Tie} (b : Bool) (K : NetOk ax halls ts) (hc : Cl h) (hN : 5 ≤ N) :
    run 2000 N f_Net_init [.rf h.length, .fz (.int (ax : Int)), .fz (.lst (halls.map .str)), .fz (.lst (ts.map (rowB b)))] (h ++ [insO []]) = .ok (.fz .non) (h ++ [insO (netF ax halls ts)]) := by
  obtain ⟨N, rfl⟩ := Nat.exists_eq_add_of_le' hN
  have key : W ((gx (N + 4)).sts r_Net_init.body ([Vl.rf h.length, .fz (.int (ax : Int)), .fz (.lst (halls.map .str)), .fz (.lst (ts.map (rowB b)))].map some ++ List.replicate r_Net_init.k none) (h ++ [insO []])) fun o => ∃ e, o = .nx e (h ++ [insO (netF ax halls ts)]) := by
    have hax := K.axl
    have hcc : ∀ fs, Cl (h ++ [insO fs]) := fun fs => hc.app (noRef_ins noRef_nil)
    refine w_ifF (by fail "ev") (by simp [isIntB]; omega) (w_aft ?_)
    have e1 := check_rooms (N := N + 4) K.h0 K.hn K.hg (hcc []) (by omega)
    refine w_nx (s_exp0 (x_call (es_cons0 (x_var rfl) es_nil0) e1)) ?_
    refine w_nx (s_fld3 (fs := []) (h3 := h ++ [insO [(1635280243, .int (ax : Int))]]) (x_var rfl) (x_var rfl) ha0 rfl (by decide) rfl hs0) ?_
    refine w_nx (s_fld3 (fs := [(1635280243, .int (ax : Int))]) (h3 := h ++ [insO [(1635280243, .int (ax : Int)), (540405396817959671653747, .lst (halls.map .str))]]) (x_s1 (x_var rfl) rfl) (x_var rfl) ha0 rfl (by simp) rfl hs0) ?_
    have e2 := checked_ties (h := h ++ [insO [(1635280243, .int (ax : Int)), (540405396817959671653747, .lst (halls.map .str))]]) (N := N + 4) b K (hcc _) (by omega)
    refine w_nx (s_fld3 (fs := [(1635280243, .int (ax : Int)), (540405396817959671653747, .lst (halls.map .str))]) (h3 := h ++ [insO (netF ax halls ts)]) (x_call (es_cons0 (x_var rfl) (es_cons0 (x_var rfl) (es_cons0 (x_var rfl) (es_cons0 (by fail "ev") es_nil0)))) e2) (x_var rfl) ha0 rfl (by simp) rfl hs0) ?_
    exact w_nil ⟨_, rfl⟩
  obtain ⟨e, key⟩ := key
  rw [run_at (N + 4) f_Net_init r_Net_init rfl]
  exact run_nx rfl key (by unfold cutH; rfl)
/-- Net(..) -/
theorem x_net {G : Gx} {env : Env} {h h1 h2 : Hm} {as : Es} {x : Nat} {ax : Nat} {halls : List Txt} {ts : List Tie} (b : Bool) (hG : G.φ = run 2000 N) (hN : 5 ≤ N) (K : NetOk ax halls ts) (hc : Cl h1) (ha : G.es as env h = .ok [.fz (.int (ax : Int)), .fz (.lst (halls.map .str)), .fz (.lst (ts.map (rowB b)))] h1) (e : h1 ++ [none] = h2) : G.ex (.frz (.new x c_Net f_Net_init as)) env h = .ok (.fz (netV ax halls ts)) h2 := by
  subst e
  refine x_frzI (fs := netF ax halls ts) (x_new ha ?_) ha0 hs0
  rw [hG]
  exact init_ok b K hc hN
theorem made {ax : Nat} {halls : List Txt} {ts : List Tie} (K : NetOk ax halls ts) (hc : Cl h) (hN : 6 ≤ N) : run 2000 N f_law_n_made [.fz (.tup [.int (ax : Int), .lst (halls.map .str), .lst (ts.map row)])] h = .ok (.fz (netV ax halls ts)) h := by
  obtain ⟨N, rfl⟩ := Nat.exists_eq_add_of_le' hN
  apply pfun r_law_n_made rfl rfl rfl hc
  refine w_ret (x_net (N := N + 5) false rfl (by omega) K (by rw [List.append_nil]; exact hc) (by fail "ev") hc0) ⟨_, rfl⟩
theorem rooms (ax : Nat) (halls : List Txt) (ts : List Tie) (hN : 1 ≤ N) : run 2000 N f_Net_rooms [.fz (netV ax halls ts)] h = .ok (.fz (.lst (halls.map .str))) h := by
  obtain ⟨N, rfl⟩ := Nat.exists_eq_add_of_le' hN
  apply pur r_Net_rooms rfl rfl
  · fail "ev"
  · rfl
theorem ties (ax : Nat) (halls : List Txt) (ts : List Tie) (hN : 1 ≤ N) : run 2000 N f_Net_ties [.fz (netV ax halls ts)] h = .ok (.fz (.lst (ts.map row))) h := by
  obtain ⟨N, rfl⟩ := Nat.exists_eq_add_of_le' hN
  apply pur r_Net_ties rfl rfl
  · fail "ev"
  · rfl
theorem data_tie (n : Nat) (t : Tie) : dataP (n + 2) (row t) = true := by
  simp only [row, dataP, dataPs, Bool.true_and, Bool.and_true]
  exact data_row n PV.int (fun i => by simp [dataP]) t.st
theorem data_rows (ts : List Tie) : dataP 60 (.lst (ts.map row)) = true := by
  simp only [dataP]
  exact data_row 59 row (fun t => data_tie 57 t) ts
theorem data_words (ws : List Txt) : dataP 60 (.lst (ws.map .str)) = true := by
  simp only [dataP]
  exact dataStr 59 ws
theorem net_eq_refl (ax : Nat) (halls : List Txt) (ts : List Tie) (hN : 1 ≤ N) : run 2000 N f_Net_eq [.fz (netV ax halls ts), .fz (netV ax halls ts)] h = .ok (.fz (.bl true)) h := by
  obtain ⟨N, rfl⟩ := Nat.exists_eq_add_of_le' hN
  apply purW r_Net_eq rfl rfl
  refine w_ifF (by fail "ev") (by simp; rfl) (w_aft ?_)
  refine w_ret (x_andB (x_cmp (by fail "ev") (by fail "ev") (cmp_eq_data _ _ (data_words halls) (data_words halls) _)) fun _ => x_cmp (by fail "ev") (by fail "ev") (cmp_eq_data _ _ (data_rows ts) (data_rows ts) _)) ?_
  rw [eqvP_refl 60 _ (data_words halls), eqvP_refl 60 _ (data_rows ts)]
  rfl
theorem own_ne_refl (ax : Nat) (halls : List Txt) (ts : List Tie) (hN : 1 ≤ N) : cmpG (gx N).spc (gx N).φ 1 (.fz (netV ax halls ts)) (.fz (netV ax halls ts)) h = .ok (.fz (.bl false)) h := by
  have e : run 2000 N f_Net_eq [.fz (netV ax halls ts), .fz (netV ax halls ts)] h = .ok (.fz (.bl true)) h := net_eq_refl ax halls ts hN
  have e1 : clsOfV h (.fz (netV ax halls ts)) = some c_Net := rfl
  have e2 : spc 0 c_Net = some f_Net_eq := rfl
  unfold cmpG
  rw [if_neg (by decide), if_pos (by decide), e1]
  simp only [e2, kdH, kdV, Option.isSome_some, if_true, e, ownB, rb_ok]
  simp
theorem own_eq_refl (ax : Nat) (halls : List Txt) (ts : List Tie) (hN : 1 ≤ N) : cmpG (gx N).spc (gx N).φ 0 (.fz (netV ax halls ts)) (.fz (netV ax halls ts)) h = .ok (.fz (.bl true)) h := by
  have e : run 2000 N f_Net_eq [.fz (netV ax halls ts), .fz (netV ax halls ts)] h = .ok (.fz (.bl true)) h := net_eq_refl ax halls ts hN
  have e1 : clsOfV h (.fz (netV ax halls ts)) = some c_Net := rfl
  have e2 : spc 0 c_Net = some f_Net_eq := rfl
  unfold cmpG
  rw [if_neg (by decide), if_pos (by decide), e1]
  simp only [e2, kdH, kdV, Option.isSome_some, if_true, e, ownB, rb_ok]
  simp
end HV.k41

end

section
/-! S7: the law's look whether two things are the same. -/
namespace HV.k41
open HV
local macro_rules | `(tactic| fail "call") => `(tactic| with_reducible (show _ = _; assumption))
local macro_rules | `(tactic| fail "leaf") => `(tactic| rfl)
local macro_rules | `(tactic| fail "lt") => `(tactic| exact Nat.le_of_ble_eq_true rfl)
local macro_rules | `(tactic| fail "dec") => `(tactic| first | rfl | assumption | (simp [*]; done))
local macro_rules | `(tactic| fail "cmp") => `(tactic| with_reducible (first
  | exact cmp_eq_int _ _ _ _ _
  | exact cmp_ne_int _ _ _ _ _
  | exact cmp_lt_int _ _ _ _ _
  | exact cmp_le_int _ _ _ _ _
  | exact cmp_gt_int _ _ _ _ _
  | exact cmp_ge_int _ _ _ _ _
  | exact cmp_eq_str _ _ _ _ _
  | exact cmp_ne_str _ _ _ _ _
  | exact cmp_in_strs _ _ _ _ _
  | exact cmp_ni_strs _ _ _ _ _
  | exact cmp_in_sign _ _ _ _ _
  | apply cmp_in_rf
  | apply cmp_ni_rf
  | exact cmp_is_non _ _ _ _
  | exact cmp_isnt_non _ _ _ _))
local macro_rules | `(tactic| fail "heap") => `(tactic| with_reducible (first
  | exact pa0 | exact pa1 | exact pa2 | exact pa3 | exact ha0 | exact ha1 | exact ha2 | exact ha3
  | exact ps0 | exact ps1 | exact ps2 | exact ps3 | exact hs0 | exact hs1 | exact hs2 | exact hs3
  | exact pl0 | exact pl1 | exact pl2 | exact pl3 | exact hl0 | exact hl1 | exact hl2 | exact hl3
  | exact hc0 | exact hc1 | exact hc2 | exact hc3))
local macro_rules | `(tactic| fail "ev1") => `(tactic| first
  | with_reducible exact es_nil0
  | with_reducible apply es_cons0
  | (with_reducible apply x_var <;> rfl)
  | (with_reducible apply x_cst <;> rfl)
  | (with_reducible apply x_glo <;> rfl)
  | with_reducible apply x_andB
  | with_reducible apply x_orB
  | with_reducible apply x_not'
  | with_reducible apply x_cmp
  | with_reducible apply x_idx
  | with_reducible apply x_bin
  | with_reducible apply x_isi
  | with_reducible apply x_len
  | with_reducible apply x_b1
  | with_reducible apply x_s1
  | with_reducible apply x_att
  | with_reducible apply x_tup'
  | with_reducible apply x_lst'
  | with_reducible apply x_slc
  | with_reducible apply x_nlst3
  | with_reducible apply x_app4
  | with_reducible apply x_frz3
  | with_reducible apply x_join
  | with_reducible exact bd_non
  | with_reducible apply bd_one
  | with_reducible apply x_call
  | with_reducible apply x_meth
  | with_reducible apply x_lc
  | with_reducible apply sr_zipM
  | with_reducible apply sr_enmM
  | with_reducible apply sr_fz
  | with_reducible (apply lcN_map; intro _ _; refine ⟨?_, tt_yes, ?_⟩)
  | with_reducible (apply lcN_filt; intro _ _; refine ⟨?_, ?_, fun _ => ?_⟩)
  | with_reducible apply frzR_ok
  | with_reducible apply tg_nm
  | with_reducible apply tg_tp2
  | with_reducible apply tg_tp3
  | with_reducible apply tg_tp4
  | with_reducible exact tt_yes
  | with_reducible apply tt_val
  | with_reducible apply t_cmp0
  | with_reducible apply t_not0
  | with_reducible apply t_andB
  | with_reducible apply t_orB
  | with_reducible apply t_chnB
  | with_reducible (apply bb_ret; apply s_ret0)
  | with_reducible exact bb_nil
  | with_reducible apply bb_cons
  | with_reducible apply s_set0
  | with_reducible apply s_exp0
  | with_reducible apply ss_par3
  | with_reducible apply s_setT3
  | with_reducible apply s_aug3
  | with_reducible intro _
  | with_reducible exact frzs_nil
  | with_reducible apply frzs_fz
  | with_reducible apply frzs_rf
  | fail "call"
  | fail "heap"
  | fail "lt"
  | fail "cmp"
  | fail "leaf")
local macro_rules | `(tactic| fail "ev") => `(tactic| repeat' (fail "ev1"))

local macro_rules | `(tactic| fail "call") => `(tactic| with_reducible (first | exact is_list (by with_unfolding_all rfl) (by omega) | exact is_int _ (by omega) | exact is_integer (by with_unfolding_all rfl) (by omega) | exact is_name_str _ (by omega)))

variable {h : Hm} {N : Nat}
/-- numbers, texts, lists and tuples of them, so many deep -/
inductive Dt : Nat → PV → Prop where
  | int (n : Nat) (i : Int) : Dt n (.int i)
  | bl (n : Nat) (b : Bool) : Dt n (.bl b)
  | str (n : Nat) (s : Txt) : Dt n (.str s)
  | non (n : Nat) : Dt n .non
  | dct0 (n : Nat) : Dt n (.dct [])
  | lst (n : Nat) (ds : List PV) (hd : ∀ d ∈ ds, Dt n d) : Dt (n + 1) (.lst ds)
  | tup (n : Nat) (ds : List PV) (hd : ∀ d ∈ ds, Dt n d) : Dt (n + 1) (.tup ds)
theorem isi_lst_l (ds : List PV) : isiV (.lst ds) (.ty 3) = some (.bl true) := rfl
theorem lcN_eachT {g : Vl → Env → Hm → Option Env} {c : Env → Hm → R Bool} {e : Env → Hm → R PV} {env : Env} : ∀ (ds : List PV),
    (∀ d ∈ ds, ∃ e1, g (.fz (.tup [d, d])) env h = some e1 ∧ c e1 h = .ok true h ∧ e e1 h = .ok (.bl true) h) → lcN g c e env (fzs ((ds.zip ds).map fun p => .tup [p.1, p.2])) h = .ok (ds.map fun _ => .bl true) h
  | [], _ => rfl
  | d :: ds, H => by
    obtain ⟨e1, h1, h2, h3⟩ := H d (by simp)
    have ih := lcN_eachT ds fun d hd => H d (List.mem_cons_of_mem _ hd)
    show lcN g c e env (.fz (.tup [d, d]) :: fzs ((ds.zip ds).map fun p => .tup [p.1, p.2])) h = _
    simp only [lcN, h1, h2, sure_ok, rb_ok, if_true, h3, ih, List.map_cons]
theorem same_int (i : Int) (hN : 1 ≤ N) : run 2000 N f_law_same [.fz (.int i), .fz (.int i)] h = .ok (.fz (.bl true)) h := by
  obtain ⟨N, rfl⟩ := Nat.exists_eq_add_of_le' hN
  apply purW r_law_same rfl rfl
  refine w_ifF (by fail "ev") rfl (w_aft (w_ifT (by fail "ev") rfl (w_ret (by fail "ev") ?_)))
  simp [aft, kdIs, eqvP]
theorem same_bl (b : Bool) (hN : 1 ≤ N) : run 2000 N f_law_same [.fz (.bl b), .fz (.bl b)] h = .ok (.fz (.bl true)) h := by
  obtain ⟨N, rfl⟩ := Nat.exists_eq_add_of_le' hN
  apply purW r_law_same rfl rfl
  refine w_ifF (by fail "ev") rfl (w_aft (w_ifT (by fail "ev") rfl (w_ret (by fail "ev") ?_)))
  simp [aft, kdIs, eqvP]
theorem same_str (s : Txt) (hN : 1 ≤ N) : run 2000 N f_law_same [.fz (.str s), .fz (.str s)] h = .ok (.fz (.bl true)) h := by
  obtain ⟨N, rfl⟩ := Nat.exists_eq_add_of_le' hN
  apply purW r_law_same rfl rfl
  refine w_ifF (by fail "ev") rfl (w_aft (w_ifF (by fail "ev") rfl (w_aft (w_ret (by fail "ev") ?_))))
  simp [kdIs]
theorem same_non (hN : 1 ≤ N) : run 2000 N f_law_same [.fz .non, .fz .non] h = .ok (.fz (.bl true)) h := by
  obtain ⟨N, rfl⟩ := Nat.exists_eq_add_of_le' hN
  apply purW r_law_same rfl rfl
  refine w_ifF (by fail "ev") rfl (w_aft (w_ifF (by fail "ev") rfl (w_aft (w_ret (by fail "ev") ?_))))
  simp [kdIs, eqvP]
theorem same_dct0 (hN : 1 ≤ N) : run 2000 N f_law_same [.fz (.dct []), .fz (.dct [])] h = .ok (.fz (.bl true)) h := by
  obtain ⟨N, rfl⟩ := Nat.exists_eq_add_of_le' hN
  apply purW r_law_same rfl rfl
  refine w_ifF (by fail "ev") rfl (w_aft (w_ifF (by fail "ev") rfl (w_aft (w_ret (by fail "ev") ?_))))
  simp [kdIs]
theorem same_refl : ∀ (n : Nat) {d : PV}, Dt n d → ∀ {N : Nat}, n + 1 ≤ N → run 2000 N f_law_same [.fz d, .fz d] h = .ok (.fz (.bl true)) h := by
  intro n
  induction n with
  | zero =>
    intro d hd N hN
    cases hd with
    | int _ i => exact same_int i (by omega)
    | bl _ b => exact same_bl b (by omega)
    | str _ s => exact same_str s (by omega)
    | non _ => exact same_non (by omega)
    | dct0 _ => exact same_dct0 (by omega)
  | succ n ih =>
    intro d hd N hN
    cases hd with
    | int _ i => exact same_int i (by omega)
    | bl _ b => exact same_bl b (by omega)
    | str _ s => exact same_str s (by omega)
    | non _ => exact same_non (by omega)
    | dct0 _ => exact same_dct0 (by omega)
    | lst _ ds hd =>
      obtain ⟨N, rfl⟩ := Nat.exists_eq_add_of_le' (show 1 ≤ N by omega)
      apply purW r_law_same rfl rfl
      refine w_ifT (by fail "ev") rfl ?_
      refine w_ifF (by fail "ev") (by simp [kdIs, eqvP]) (w_aft ?_)
      refine w_ret (x_andB (x_cmp (by fail "ev") (by fail "ev") (cmp_eq_int _ _ _ _ _)) fun _ => x_b1 (x_lc (sr_zipM (f := id) (g := id) (as := ds) (bs := ds) (x_var rfl) (x_var rfl) (by simp [seqP]) (by simp [seqP])) (lcN_eachT ds fun d hm => ⟨_, rfl, rfl, frzR_ok (x_call (es_cons0 (x_var rfl) (es_cons0 (x_var rfl) es_nil0)) (ih (hd d hm) (by omega)))⟩)) (all_blm (fun _ => true) ds)) ?_
      simp [aft]
    | tup _ ds hd =>
      obtain ⟨N, rfl⟩ := Nat.exists_eq_add_of_le' (show 1 ≤ N by omega)
      apply purW r_law_same rfl rfl
      refine w_ifT (by fail "ev") rfl ?_
      refine w_ifF (by fail "ev") (by simp [kdIs, eqvP]) (w_aft ?_)
      refine w_ret (x_andB (x_cmp (by fail "ev") (by fail "ev") (cmp_eq_int _ _ _ _ _)) fun _ => x_b1 (x_lc (sr_zipM (f := id) (g := id) (as := ds) (bs := ds) (x_var rfl) (x_var rfl) (by simp [seqP]) (by simp [seqP])) (lcN_eachT ds fun d hm => ⟨_, rfl, rfl, frzR_ok (x_call (es_cons0 (x_var rfl) (es_cons0 (x_var rfl) es_nil0)) (ih (hd d hm) (by omega)))⟩)) (all_blm (fun _ => true) ds)) ?_
      simp [aft]
theorem dt_words (ws : List Txt) : Dt 1 (.lst (ws.map .str)) := .lst 0 _ fun d hd => by
  obtain ⟨w, _, rfl⟩ := List.mem_map.mp hd
  exact .str _ _
theorem dt_ints (n : Nat) (l : List Int) : Dt (n + 1) (.tup (l.map .int)) := .tup n _ fun d hd => by
  obtain ⟨w, _, rfl⟩ := List.mem_map.mp hd
  exact .int _ _
theorem dt_row (n : Nat) (t : Tie) : Dt (n + 2) (row t) := .tup _ _ fun d hd => by
  simp at hd
  rcases hd with rfl | rfl | rfl | rfl
  · exact .str _ _
  · exact .str _ _
  · exact .str _ _
  · exact dt_ints n t.st
theorem Dt.mono : ∀ {n : Nat} {d : PV}, Dt n d → Dt (n + 1) d
  | _, _, .int n i => .int _ i
  | _, _, .bl n i => .bl _ i
  | _, _, .str n i => .str _ i
  | _, _, .non n => .non _
  | _, _, .dct0 n => .dct0 _
  | _, _, .lst n ds hd => .lst _ ds fun d h => (hd d h).mono
  | _, _, .tup n ds hd => .tup _ ds fun d h => (hd d h).mono
theorem dt_rows (ts : List Tie) : Dt 3 (.lst (ts.map row)) := .lst 2 _ fun d hd => by
  obtain ⟨t, _, rfl⟩ := List.mem_map.mp hd
  exact dt_row 0 t
end HV.k41

end

section
/-! S8: objects of all kinds: are they lists of integers; lists made tuples. -/
namespace HV.k41
open HV
local macro_rules | `(tactic| fail "call") => `(tactic| with_reducible (show _ = _; assumption))
local macro_rules | `(tactic| fail "leaf") => `(tactic| rfl)
local macro_rules | `(tactic| fail "lt") => `(tactic| exact Nat.le_of_ble_eq_true rfl)
local macro_rules | `(tactic| fail "dec") => `(tactic| first | rfl | assumption | (simp [*]; done))
local macro_rules | `(tactic| fail "cmp") => `(tactic| with_reducible (first
  | exact cmp_eq_int _ _ _ _ _
  | exact cmp_ne_int _ _ _ _ _
  | exact cmp_lt_int _ _ _ _ _
  | exact cmp_le_int _ _ _ _ _
  | exact cmp_gt_int _ _ _ _ _
  | exact cmp_ge_int _ _ _ _ _
  | exact cmp_eq_str _ _ _ _ _
  | exact cmp_ne_str _ _ _ _ _
  | exact cmp_in_strs _ _ _ _ _
  | exact cmp_ni_strs _ _ _ _ _
  | exact cmp_in_sign _ _ _ _ _
  | apply cmp_in_rf
  | apply cmp_ni_rf
  | exact cmp_is_non _ _ _ _
  | exact cmp_isnt_non _ _ _ _))
local macro_rules | `(tactic| fail "heap") => `(tactic| with_reducible (first
  | exact pa0 | exact pa1 | exact pa2 | exact pa3 | exact ha0 | exact ha1 | exact ha2 | exact ha3
  | exact ps0 | exact ps1 | exact ps2 | exact ps3 | exact hs0 | exact hs1 | exact hs2 | exact hs3
  | exact pl0 | exact pl1 | exact pl2 | exact pl3 | exact hl0 | exact hl1 | exact hl2 | exact hl3
  | exact hc0 | exact hc1 | exact hc2 | exact hc3))
local macro_rules | `(tactic| fail "ev1") => `(tactic| first
  | with_reducible exact es_nil0
  | with_reducible apply es_cons0
  | (with_reducible apply x_var <;> rfl)
  | (with_reducible apply x_cst <;> rfl)
  | (with_reducible apply x_glo <;> rfl)
  | with_reducible apply x_andB
  | with_reducible apply x_orB
  | with_reducible apply x_not'
  | with_reducible apply x_cmp
  | with_reducible apply x_idx
  | with_reducible apply x_bin
  | with_reducible apply x_isi
  | with_reducible apply x_len
  | with_reducible apply x_b1
  | with_reducible apply x_s1
  | with_reducible apply x_att
  | with_reducible apply x_tup'
  | with_reducible apply x_lst'
  | with_reducible apply x_slc
  | with_reducible apply x_nlst3
  | with_reducible apply x_app4
  | with_reducible apply x_frz3
  | with_reducible apply x_join
  | with_reducible apply x_dct0
  | with_reducible exact bd_non
  | with_reducible apply bd_one
  | with_reducible apply x_call
  | with_reducible apply x_meth
  | with_reducible apply x_lc
  | with_reducible apply sr_zipM
  | with_reducible apply sr_enmM
  | with_reducible apply sr_fz
  | with_reducible (apply lcN_map; intro _ _; refine ⟨?_, tt_yes, ?_⟩)
  | with_reducible (apply lcN_filt; intro _ _; refine ⟨?_, ?_, fun _ => ?_⟩)
  | with_reducible apply frzR_ok
  | with_reducible apply tg_nm
  | with_reducible apply tg_tp2
  | with_reducible apply tg_tp3
  | with_reducible apply tg_tp4
  | with_reducible exact tt_yes
  | with_reducible apply tt_val
  | with_reducible apply t_cmp0
  | with_reducible apply t_not0
  | with_reducible apply t_andB
  | with_reducible apply t_orB
  | with_reducible apply t_chnB
  | with_reducible (apply bb_ret; apply s_ret0)
  | with_reducible exact bb_nil
  | with_reducible apply bb_cons
  | with_reducible apply s_set0
  | with_reducible apply s_exp0
  | with_reducible apply ss_par3
  | with_reducible apply s_setT3
  | with_reducible apply s_aug3
  | with_reducible intro _
  | with_reducible exact frzs_nil
  | with_reducible apply frzs_fz
  | with_reducible apply frzs_rf
  | fail "call"
  | fail "heap"
  | fail "lt"
  | fail "cmp"
  | fail "leaf")
local macro_rules | `(tactic| fail "ev") => `(tactic| repeat' (fail "ev1"))

local macro_rules | `(tactic| fail "call") => `(tactic| with_reducible (first | exact is_list (by with_unfolding_all rfl) (by omega) | exact is_int _ (by omega) | exact is_integer (by with_unfolding_all rfl) (by omega) | exact is_name_str _ (by omega)))

variable {h : Hm} {N : Nat}
def itemsOf : PV → List PV
  | .lst ds => ds
  | .tup ds => ds
  | _ => []
/-- a list of so many integers -/
def vecB (d : PV) (n : Int) : Bool := isLst d && (decide (((itemsOf d).length : Int) = n) && (itemsOf d).all isIntB)
theorem Dt.plain {n : Nat} {d : PV} (h : Dt n d) : plainK d := by cases h <;> rfl
theorem Dt.items {n : Nat} {d : PV} (h : Dt (n + 1) d) : ∀ x ∈ itemsOf d, Dt n x := by
  cases h with
  | lst _ ds hd => exact hd
  | tup _ ds hd => exact hd
  | _ => intro x hx; simp [itemsOf] at hx
theorem Dt.plains {n : Nat} {d : PV} (h : Dt n d) : ∀ x ∈ itemsOf d, plainK x := by
  cases h with
  | lst _ ds hd => exact fun x hx => (hd x hx).plain
  | tup _ ds hd => exact fun x hx => (hd x hx).plain
  | _ => intro x hx; simp [itemsOf] at hx
theorem is_vector {d : PV} (n : Int) (hd : plainK d) (hi : ∀ x ∈ itemsOf d, plainK x) (hN : 2 ≤ N) : run 2000 N f_is_vector [.fz d, .fz (.int n)] h = .ok (.fz (.bl (vecB d n))) h := by
  obtain ⟨N, rfl⟩ := Nat.exists_eq_add_of_le' hN
  have main : ∀ ds : List PV, (∀ x ∈ ds, plainK x) → ∀ (mk : List PV → PV), (∀ ds, isLst (mk ds) = true ∧ plainK (mk ds) ∧ lenV (mk ds) = some (.int ds.length) ∧ iterV (mk ds) = some ds) → run 2000 (N + 2) f_is_vector [.fz (mk ds), .fz (.int n)] h = .ok (.fz (.bl (decide ((ds.length : Int) = n) && ds.all isIntB))) h := by
    intro ds hds mk hmk
    obtain ⟨k1, k2, k3, k4⟩ := hmk ds
    have e1 : run 2000 (N + 1) f_is_list [.fz (mk ds)] h = .ok (.fz (.bl true)) h := by rw [is_list k2 (by omega), k1]
    apply purW r_is_vector rfl rfl
    refine w_ret (x_andB (x_call (es_cons0 (x_var rfl) es_nil0) e1) fun _ => x_andB (x_cmp (x_len (y := .fz (.int ds.length)) (x_var rfl) (by simp only [lenH, k3, liftF_some])) (x_var rfl) (cmp_eq_int _ _ _ _ _)) fun _ => x_b1 (x_lc (sr_fz (ds := ds.map id) (x_var rfl) (by rw [k4, List.map_id])) (lcN_map id (fun x => .bl (isIntB x)) _ ds fun x hx => ⟨tg_nm (by fail "lt"), tt_yes, frzR_ok (x_call (es_cons0 (x_var rfl) es_nil0) (is_integer (hds x hx) (by omega)))⟩)) (all_blm _ _)) ?_
    simp
  have no : isLst d = false → run 2000 (N + 2) f_is_vector [.fz d, .fz (.int n)] h = .ok (.fz (.bl false)) h := by
    intro hl
    have e1 : run 2000 (N + 1) f_is_list [.fz d] h = .ok (.fz (.bl false)) h := by rw [is_list hd (by omega), hl]
    apply purW r_is_vector rfl rfl
    exact w_ret (x_andB (s := false) (x_call (es_cons0 (x_var rfl) es_nil0) e1) fun z => by cases z) rfl
  unfold vecB
  match d, hd, hi with
  | .lst ds, _, hi => exact main ds hi .lst fun ds => ⟨rfl, rfl, rfl, rfl⟩
  | .tup ds, _, hi => exact main ds hi .tup fun ds => ⟨rfl, rfl, rfl, rfl⟩
  | .non, _, _ => exact no rfl
  | .bl _, _, _ => exact no rfl
  | .int _, _, _ => exact no rfl
  | .str _, _, _ => exact no rfl
  | .dct _, _, _ => exact no rfl
  | .obj _ _, _, _ => exact no rfl
mutual
/-- tuples in the place of lists -/
def frT : PV → PV
  | .lst ds => .tup (frTs ds)
  | .tup ds => .tup (frTs ds)
  | d => d
def frTs : List PV → List PV
  | [] => []
  | d :: ds => frT d :: frTs ds
end
theorem frTs_map : ∀ ds : List PV, frTs ds = ds.map frT
  | [] => by simp [frTs]
  | d :: ds => by simp [frTs, frTs_map ds]
theorem Dt.frD : ∀ {n : Nat} {d : PV}, Dt n d → Dt n (frT d)
  | _, _, .int n i => by unfold frT; exact .int n i
  | _, _, .bl n i => by unfold frT; exact .bl n i
  | _, _, .str n i => by unfold frT; exact .str n i
  | _, _, .non n => by unfold frT; exact .non n
  | _, _, .dct0 n => by unfold frT; exact .dct0 n
  | _, _, .lst n ds hd => by
    unfold frT
    rw [frTs_map]
    refine .tup _ _ fun d h => ?_
    obtain ⟨x, hx, rfl⟩ := List.mem_map.mp h
    exact (hd x hx).frD
  | _, _, .tup n ds hd => by
    unfold frT
    rw [frTs_map]
    refine .tup _ _ fun d h => ?_
    obtain ⟨x, hx, rfl⟩ := List.mem_map.mp h
    exact (hd x hx).frD
theorem isi_dict {d : PV} (h : plainK d) : isiV d (.ty 5) = some (.bl (match d with | .dct _ => true | _ => false)) := by
  cases d <;> first | rfl | (simp [plainK, kdV] at h)
theorem x_lcK0 {G : Gx} {env : Env} {own : List Nat} {tg : Tg} {i : Nat} {t : Ts} {a : Ex} (e : env[i]? = some (some (.fz (.dct [])))) : G.ex (.lcK own tg i t a) env h = .ok (.fz (.lst [])) h := by
  simp only [Gx.ex, lcKV, e, List.map_nil, lcN, R.sure, rb_ok]
theorem frozen : ∀ (n : Nat) {d : PV}, Dt n d → ∀ {N : Nat}, n + 1 ≤ N → run 2000 N f_law_frozen [.fz d] h = .ok (.fz (frT d)) h := by
  have flat : ∀ {N : Nat} (d : PV), 1 ≤ N → isiV d (.ty 5) = some (.bl false) → isiV d (.tup [.ty 3, .ty 4]) = some (.bl false) → run 2000 N f_law_frozen [.fz d] h = .ok (.fz d) h := by
    intro N d hN h1 h2
    obtain ⟨N, rfl⟩ := Nat.exists_eq_add_of_le' hN
    apply purW r_law_frozen rfl rfl
    refine w_ifF (by fail "ev") rfl (w_aft (w_ret (x_iteF (t_val0 (by fail "ev") rfl) (x_var rfl)) rfl))
  have d0 : ∀ {N : Nat}, 1 ≤ N → run 2000 N f_law_frozen [.fz (.dct [])] h = .ok (.fz (.dct [])) h := by
    intro N hN
    obtain ⟨N, rfl⟩ := Nat.exists_eq_add_of_le' hN
    apply purW r_law_frozen rfl rfl
    exact w_ifT (by fail "ev") rfl (w_ret (x_s1 (x_lcK0 rfl) rfl) rfl)
  have seq : ∀ {N : Nat} (ds : List PV) (mk : List PV → PV), 1 ≤ N → (isiV (mk ds) (.ty 5) = some (.bl false) ∧ isiV (mk ds) (.tup [.ty 3, .ty 4]) = some (.bl true) ∧ iterV (mk ds) = some ds) → (∀ x ∈ ds, ∀ {M : Nat}, M + 1 = N → run 2000 M f_law_frozen [.fz x] h = .ok (.fz (frT x)) h) → run 2000 N f_law_frozen [.fz (mk ds)] h = .ok (.fz (.tup (ds.map frT))) h := by
    intro N ds mk hN hk ih
    obtain ⟨k1, k2, k4⟩ := hk
    obtain ⟨N, rfl⟩ := Nat.exists_eq_add_of_le' hN
    apply purW r_law_frozen rfl rfl
    refine w_ifF (by fail "ev") rfl (w_aft (w_ret (x_iteT (t_val0 (x_isi (x_var rfl) (by fail "ev") k2) rfl) (x_s1 (x_lc (sr_fz (ds := ds.map id) (x_var rfl) (by rw [k4, List.map_id])) (lcN_map id frT _ ds fun x hx => ⟨tg_nm (by fail "lt"), tt_yes, frzR_ok (x_call (es_cons0 (x_var rfl) es_nil0) (ih x hx rfl))⟩)) rfl)) rfl))
  intro n
  induction n with
  | zero =>
    intro d hd N hN
    cases hd with
    | int _ i => unfold frT; exact flat _ (by omega) rfl rfl
    | bl _ b => unfold frT; exact flat _ (by omega) rfl rfl
    | str _ s => unfold frT; exact flat _ (by omega) rfl rfl
    | non _ => unfold frT; exact flat _ (by omega) rfl rfl
    | dct0 _ => unfold frT; exact d0 (by omega)
  | succ n ih =>
    intro d hd N hN
    cases hd with
    | int _ i => unfold frT; exact flat _ (by omega) rfl rfl
    | bl _ b => unfold frT; exact flat _ (by omega) rfl rfl
    | str _ s => unfold frT; exact flat _ (by omega) rfl rfl
    | non _ => unfold frT; exact flat _ (by omega) rfl rfl
    | dct0 _ => unfold frT; exact d0 (by omega)
    | lst _ ds hd => rw [show frT (.lst ds) = .tup (ds.map frT) by unfold frT; rw [frTs_map]]; exact seq ds .lst (by omega) ⟨rfl, rfl, rfl⟩ fun x hx {M} e => ih (hd x hx) (by omega)
    | tup _ ds hd => rw [show frT (.tup ds) = .tup (ds.map frT) by unfold frT; rw [frTs_map]]; exact seq ds .tup (by omega) ⟨rfl, rfl, rfl⟩ fun x hx {M} e => ih (hd x hx) (by omega)
end HV.k41

end

section
/-! S9: defs that raise. -/
namespace HV.k41
open HV
local macro_rules | `(tactic| fail "call") => `(tactic| with_reducible (show _ = _; assumption))
local macro_rules | `(tactic| fail "leaf") => `(tactic| rfl)
local macro_rules | `(tactic| fail "lt") => `(tactic| exact Nat.le_of_ble_eq_true rfl)
local macro_rules | `(tactic| fail "dec") => `(tactic| first | rfl | assumption | (simp [*]; done))
local macro_rules | `(tactic| fail "cmp") => `(tactic| with_reducible (first
  | exact cmp_eq_int _ _ _ _ _
  | exact cmp_ne_int _ _ _ _ _
  | exact cmp_lt_int _ _ _ _ _
  | exact cmp_le_int _ _ _ _ _
  | exact cmp_gt_int _ _ _ _ _
  | exact cmp_ge_int _ _ _ _ _
  | exact cmp_eq_str _ _ _ _ _
  | exact cmp_ne_str _ _ _ _ _
  | exact cmp_in_strs _ _ _ _ _
  | exact cmp_ni_strs _ _ _ _ _
  | exact cmp_in_sign _ _ _ _ _
  | apply cmp_in_rf
  | apply cmp_ni_rf
  | exact cmp_is_non _ _ _ _
  | exact cmp_isnt_non _ _ _ _))
local macro_rules | `(tactic| fail "heap") => `(tactic| with_reducible (first
  | exact pa0 | exact pa1 | exact pa2 | exact pa3 | exact ha0 | exact ha1 | exact ha2 | exact ha3
  | exact ps0 | exact ps1 | exact ps2 | exact ps3 | exact hs0 | exact hs1 | exact hs2 | exact hs3
  | exact pl0 | exact pl1 | exact pl2 | exact pl3 | exact hl0 | exact hl1 | exact hl2 | exact hl3
  | exact hc0 | exact hc1 | exact hc2 | exact hc3))
local macro_rules | `(tactic| fail "ev1") => `(tactic| first
  | with_reducible exact es_nil0
  | with_reducible apply es_cons0
  | (with_reducible apply x_var <;> rfl)
  | (with_reducible apply x_cst <;> rfl)
  | (with_reducible apply x_glo <;> rfl)
  | with_reducible apply x_andB
  | with_reducible apply x_orB
  | with_reducible apply x_not'
  | with_reducible apply x_cmp
  | with_reducible apply x_idx
  | with_reducible apply x_bin
  | with_reducible apply x_isi
  | with_reducible apply x_len
  | with_reducible apply x_b1
  | with_reducible apply x_s1
  | with_reducible apply x_att
  | with_reducible apply x_tup'
  | with_reducible apply x_lst'
  | with_reducible apply x_slc
  | with_reducible apply x_nlst3
  | with_reducible apply x_app4
  | with_reducible apply x_frz3
  | with_reducible apply x_join
  | with_reducible apply x_dct0
  | with_reducible exact bd_non
  | with_reducible apply bd_one
  | with_reducible apply x_call
  | with_reducible apply x_meth
  | with_reducible apply x_lc
  | with_reducible apply sr_zipM
  | with_reducible apply sr_enmM
  | with_reducible apply sr_fz
  | with_reducible (apply lcN_map; intro _ _; refine ⟨?_, tt_yes, ?_⟩)
  | with_reducible (apply lcN_filt; intro _ _; refine ⟨?_, ?_, fun _ => ?_⟩)
  | with_reducible apply frzR_ok
  | with_reducible apply tg_nm
  | with_reducible apply tg_tp2
  | with_reducible apply tg_tp3
  | with_reducible apply tg_tp4
  | with_reducible exact tt_yes
  | with_reducible apply tt_val
  | with_reducible apply t_cmp0
  | with_reducible apply t_not0
  | with_reducible apply t_andB
  | with_reducible apply t_orB
  | with_reducible apply t_chnB
  | with_reducible (apply bb_ret; apply s_ret0)
  | with_reducible exact bb_nil
  | with_reducible apply bb_cons
  | with_reducible apply s_set0
  | with_reducible apply s_exp0
  | with_reducible apply ss_par3
  | with_reducible apply s_setT3
  | with_reducible apply s_aug3
  | with_reducible intro _
  | with_reducible exact frzs_nil
  | with_reducible apply frzs_fz
  | with_reducible apply frzs_rf
  | fail "call"
  | fail "heap"
  | fail "lt"
  | fail "cmp"
  | fail "leaf")
local macro_rules | `(tactic| fail "ev") => `(tactic| repeat' (fail "ev1"))

local macro_rules | `(tactic| fail "call") => `(tactic| with_reducible (first | exact is_list (by with_unfolding_all rfl) (by omega) | exact is_int _ (by omega) | exact is_integer (by with_unfolding_all rfl) (by omega) | exact is_name_str _ (by omega)))

variable {h : Hm} {N : Nat}
theorem purX {n f c : Nat} (d : Dr) {args : List Vl} {ps : List PV} (e : dr[f]? = some d) (hn : args.length = d.np) (hb : W ((gx n).sts d.body (args.map some ++ List.replicate d.k none) h) fun o => o = .exc c ps h) : run 2000 (n + 1) f args h = .exc c ps h := by
  rw [run_at n f d e]
  exact run_exc hn hb (cut_same rfl)
theorem purXF {n f c : Nat} (d : Dr) {args : List Vl} {ps : List PV} (e : dr[f]? = some d) (hn : args.length = d.np) (hk : d.keep = false) (hc : Cl h) (hb : W ((gx n).sts d.body (args.map some ++ List.replicate d.k none) (h ++ [])) fun o => ∃ F, o = .exc c ps (h ++ F)) : run 2000 (n + 1) f args h = .exc c ps h := by
  rw [List.append_nil] at hb
  obtain ⟨F, hb⟩ := hb
  rw [run_at n f d e, hk]
  exact run_exc hn hb (cut_cl rfl hc)
theorem purN {n f : Nat} (d : Dr) {args : List Vl} (e : dr[f]? = some d) (hn : args.length = d.np) (hb : W ((gx n).sts d.body (args.map some ++ List.replicate d.k none) h) fun o => ∃ e, o = .nx e h) : run 2000 (n + 1) f args h = .ok (.fz .non) h := by
  obtain ⟨e1, hb⟩ := hb
  rw [run_at n f d e]
  exact run_nx hn hb (cut_same rfl)
/-- a test that raises -/
theorem w_ifX {n c : Nat} {u : Ts} {a : Ex} {q r : Sts} {env : Env} {h1 : Hm} {t : Bool} {xn : Nat} {d : PV} {Q : SO → Prop} (hc : (gx n).ts u env h = .ok t h1) (ht : t = true) (ha : (gx n).ex a env h1 = .ok (.fz d) h1) (hq : Q (.exc c [d] h1)) : W ((gx n).sts (.cons (.ite u (.cons (.rse xn c a) .nil) q) r) env h) Q :=
  w_ifT hc ht (w_exc (ss_rse ha) hq)
theorem intB_of {d : PV} (h : isIntB d = true) : ∃ i, d = .int i := by
  cases d <;> first | exact ⟨_, rfl⟩ | (cases h)
theorem ints_of : ∀ {ds : List PV}, ds.all isIntB = true → ∃ l : List Int, ds = l.map .int
  | [], _ => ⟨[], rfl⟩
  | d :: ds, h => by
    simp only [List.all_cons, Bool.and_eq_true] at h
    obtain ⟨i, rfl⟩ := intB_of h.1
    obtain ⟨l, rfl⟩ := ints_of h.2
    exact ⟨i :: l, rfl⟩
theorem vec_of {d : PV} {n : Int} (h : vecB d n = true) : ∃ l : List Int, (l.length : Int) = n ∧ (d = .lst (l.map .int) ∨ d = .tup (l.map .int)) := by
  unfold vecB at h
  simp only [Bool.and_eq_true, decide_eq_true_eq] at h
  obtain ⟨h1, h2, h3⟩ := h
  cases d with
  | lst ds => obtain ⟨l, rfl⟩ := ints_of h3; exact ⟨l, by simpa [itemsOf] using h2, .inl rfl⟩
  | tup ds => obtain ⟨l, rfl⟩ := ints_of h3; exact ⟨l, by simpa [itemsOf] using h2, .inr rfl⟩
  | _ => cases h1
def axB (d : PV) (n : Int) : Bool := match d with
  | .int i => decide (0 ≤ i) && decide (i < n)
  | _ => false
theorem check_axis_bad {ax : Nat} {halls : List Txt} {ts : List Tie} {d : PV} (hd : plainK d) (hb : axB d (ax : Int) = false) (hN : 2 ≤ N) : run 2000 N f_check_axis [.fz (netV ax halls ts), .fz d] h = .exc x_NoAxis [d] h := by
  obtain ⟨N, rfl⟩ := Nat.exists_eq_add_of_le' hN
  apply purX r_check_axis rfl rfl
  by_cases hi : isIntB d = true
  · obtain ⟨i, rfl⟩ := intB_of hi
    refine w_ifX (by fail "ev") ?_ (x_var rfl) rfl
    simp only [axB] at hb
    simp [hb]
  · refine w_ifX (t_orT (t_not0 (t := false) (tt_val (x_call (es_cons0 (x_var rfl) es_nil0) (is_integer hd (by omega))) ?_))) rfl (x_var rfl) rfl
    simp only [truH, truthV]
    simp at hi
    rw [hi]
theorem check_axis_ok {ax : Nat} {halls : List Txt} {ts : List Tie} {i : Int} (h0 : 0 ≤ i) (h1 : i < ax) (hN : 2 ≤ N) : run 2000 N f_check_axis [.fz (netV ax halls ts), .fz (.int i)] h = .ok (.fz .non) h := by
  obtain ⟨N, rfl⟩ := Nat.exists_eq_add_of_le' hN
  apply purN r_check_axis rfl rfl
  refine w_ifF (by fail "ev") ?_ (w_aft (w_nil ⟨_, rfl⟩))
  simp [h0, h1]
def szB (d : PV) : Bool := match d with
  | .int i => decide (1 ≤ i) && decide (i ≤ 40)
  | _ => false
theorem check_size_bad {d : PV} (hd : plainK d) (hb : szB d = false) (hN : 2 ≤ N) : run 2000 N f_check_size [.fz d] h = .exc x_BadNumber [d] h := by
  obtain ⟨N, rfl⟩ := Nat.exists_eq_add_of_le' hN
  apply purX r_check_size rfl rfl
  by_cases hi : isIntB d = true
  · obtain ⟨i, rfl⟩ := intB_of hi
    refine w_ifX (by fail "ev") ?_ (x_var rfl) rfl
    simp only [szB] at hb
    simp [hb]
  · refine w_ifX (t_orT (t_not0 (t := false) (tt_val (x_call (es_cons0 (x_var rfl) es_nil0) (is_integer hd (by omega))) ?_))) rfl (x_var rfl) rfl
    simp only [truH, truthV]
    simp at hi
    rw [hi]
end HV.k41

end

section
/-! S10: things in nets. -/
namespace HV.k41
open HV
local macro_rules | `(tactic| fail "call") => `(tactic| with_reducible (show _ = _; assumption))
local macro_rules | `(tactic| fail "leaf") => `(tactic| rfl)
local macro_rules | `(tactic| fail "lt") => `(tactic| exact Nat.le_of_ble_eq_true rfl)
local macro_rules | `(tactic| fail "dec") => `(tactic| first | rfl | assumption | (simp [*]; done))
local macro_rules | `(tactic| fail "cmp") => `(tactic| with_reducible (first
  | exact cmp_eq_int _ _ _ _ _
  | exact cmp_ne_int _ _ _ _ _
  | exact cmp_lt_int _ _ _ _ _
  | exact cmp_le_int _ _ _ _ _
  | exact cmp_gt_int _ _ _ _ _
  | exact cmp_ge_int _ _ _ _ _
  | exact cmp_eq_str _ _ _ _ _
  | exact cmp_ne_str _ _ _ _ _
  | exact cmp_in_strs _ _ _ _ _
  | exact cmp_ni_strs _ _ _ _ _
  | exact cmp_in_sign _ _ _ _ _
  | apply cmp_in_rf
  | apply cmp_ni_rf
  | exact cmp_is_non _ _ _ _
  | exact cmp_isnt_non _ _ _ _))
local macro_rules | `(tactic| fail "heap") => `(tactic| with_reducible (first
  | exact pa0 | exact pa1 | exact pa2 | exact pa3 | exact ha0 | exact ha1 | exact ha2 | exact ha3
  | exact ps0 | exact ps1 | exact ps2 | exact ps3 | exact hs0 | exact hs1 | exact hs2 | exact hs3
  | exact pl0 | exact pl1 | exact pl2 | exact pl3 | exact hl0 | exact hl1 | exact hl2 | exact hl3
  | exact hc0 | exact hc1 | exact hc2 | exact hc3))
local macro_rules | `(tactic| fail "ev1") => `(tactic| first
  | with_reducible exact es_nil0
  | with_reducible apply es_cons0
  | (with_reducible apply x_var <;> rfl)
  | (with_reducible apply x_cst <;> rfl)
  | (with_reducible apply x_glo <;> rfl)
  | with_reducible apply x_andB
  | with_reducible apply x_orB
  | with_reducible apply x_not'
  | with_reducible apply x_cmp
  | with_reducible apply x_idx
  | with_reducible apply x_bin
  | with_reducible apply x_isi
  | with_reducible apply x_len
  | with_reducible apply x_b1
  | with_reducible apply x_s1
  | with_reducible apply x_att
  | with_reducible apply x_tup'
  | with_reducible apply x_lst'
  | with_reducible apply x_slc
  | with_reducible apply x_nlst3
  | with_reducible apply x_app4
  | with_reducible apply x_frz3
  | with_reducible apply x_join
  | with_reducible apply x_dct0
  | with_reducible exact bd_non
  | with_reducible apply bd_one
  | with_reducible apply x_call
  | with_reducible apply x_meth
  | with_reducible apply x_lc
  | with_reducible apply sr_zipM
  | with_reducible apply sr_enmM
  | with_reducible apply sr_fz
  | with_reducible (apply lcN_map; intro _ _; refine ⟨?_, tt_yes, ?_⟩)
  | with_reducible (apply lcN_filt; intro _ _; refine ⟨?_, ?_, fun _ => ?_⟩)
  | with_reducible apply frzR_ok
  | with_reducible apply tg_nm
  | with_reducible apply tg_tp2
  | with_reducible apply tg_tp3
  | with_reducible apply tg_tp4
  | with_reducible exact tt_yes
  | with_reducible apply tt_val
  | with_reducible apply t_cmp0
  | with_reducible apply t_not0
  | with_reducible apply t_andB
  | with_reducible apply t_orB
  | with_reducible apply t_chnB
  | with_reducible (apply bb_ret; apply s_ret0)
  | with_reducible exact bb_nil
  | with_reducible apply bb_cons
  | with_reducible apply s_set0
  | with_reducible apply s_exp0
  | with_reducible apply ss_par3
  | with_reducible apply s_setT3
  | with_reducible apply s_aug3
  | with_reducible intro _
  | with_reducible exact frzs_nil
  | with_reducible apply frzs_fz
  | with_reducible apply frzs_rf
  | fail "call"
  | fail "heap"
  | fail "lt"
  | fail "cmp"
  | fail "leaf")
local macro_rules | `(tactic| fail "ev") => `(tactic| repeat' (fail "ev1"))

local macro_rules | `(tactic| fail "call") => `(tactic| with_reducible (first | exact is_list (by with_unfolding_all rfl) (by omega) | exact is_int _ (by omega) | exact is_integer (by with_unfolding_all rfl) (by omega) | exact is_name_str _ (by omega)))

local macro_rules | `(tactic| fail "call") => `(tactic| with_reducible (first | exact att_axes _ _ _ _ | exact att_rooms _ _ _ _ | exact att_rows _ _ _ _ | exact is_vector_t _ _ (by omega) | exact is_vector_l _ _ (by omega)))

variable {h : Hm} {N : Nat}
/-- whether a thing is the name of a tie -/
def inNet (ts : List Tie) : PV → Bool
  | .str s => decide (s ∈ ts.map Tie.nm)
  | _ => false
theorem contains {ax : Nat} {halls : List Txt} {ts : List Tie} {d : PV} (hd : plainK d) (hN : 1 ≤ N) : run 2000 N f_Net_contains [.fz (netV ax halls ts), .fz d] h = .ok (.fz (.bl (inNet ts d))) h := by
  obtain ⟨N, rfl⟩ := Nat.exists_eq_add_of_le' hN
  have no : isStrB d = false → inNet ts d = false → run 2000 (N + 1) f_Net_contains [.fz (netV ax halls ts), .fz d] h = .ok (.fz (.bl (inNet ts d))) h := by
    intro hs hi
    have e1 := isi_str hd
    rw [hs] at e1
    apply purW r_Net_contains rfl rfl
    rw [hi]
    exact w_ret (x_andB (s := false) (x_isi (x_var rfl) (x_glo rfl rfl) e1) fun z => by cases z) rfl
  match d, hd with
  | .str s, _ =>
    apply purW r_Net_contains rfl rfl
    refine w_ret (x_andB (t := true) (x_isi (x_var rfl) (x_glo rfl rfl) rfl) fun _ => x_cmp (x_var rfl) (x_lc (ys := (ts.map Tie.nm).map .str) (sr_fz (ds := ts.map row) (by fail "ev") rfl) ?_) (cmp_in_strs _ _ _ _ _)) rfl
    rw [List.map_map]
    exact lcN_map row (fun t => PV.str t.nm) (fun t => [some (.fz (netV ax halls ts)), some (.fz (.str s)), some (.fz (row t))]) ts fun t ht => ⟨rfl, tt_yes, frzR_ok (by fail "ev")⟩
  | .non, hd => exact no rfl rfl
  | .bl _, hd => exact no rfl rfl
  | .int _, hd => exact no rfl rfl
  | .lst _, hd => exact no rfl rfl
  | .tup _, hd => exact no rfl rfl
  | .dct _, hd => exact no rfl rfl
  | .obj _ _, hd => exact no rfl rfl
theorem own_in {ax : Nat} {halls : List Txt} {ts : List Tie} {d : PV} (hd : plainK d) (hN : 1 ≤ N) : cmpG (gx N).spc (gx N).φ 6 (.fz d) (.fz (netV ax halls ts)) h = .ok (.fz (.bl (inNet ts d))) h := by
  have e : run 2000 N f_Net_contains [.fz (netV ax halls ts), .fz d] h = .ok (.fz (.bl (inNet ts d))) h := contains hd hN
  have e1 : clsOfV h (.fz (netV ax halls ts)) = some c_Net := rfl
  have e2 : spc 6 c_Net = some f_Net_contains := rfl
  unfold cmpG
  rw [if_pos (by decide), e1]
  simp only [e2, e, ownB, rb_ok]
  simp
theorem own_ni {ax : Nat} {halls : List Txt} {ts : List Tie} {d : PV} (hd : plainK d) (hN : 1 ≤ N) : cmpG (gx N).spc (gx N).φ 7 (.fz d) (.fz (netV ax halls ts)) h = .ok (.fz (.bl (!inNet ts d))) h := by
  have e : run 2000 N f_Net_contains [.fz (netV ax halls ts), .fz d] h = .ok (.fz (.bl (inNet ts d))) h := contains hd hN
  have e1 : clsOfV h (.fz (netV ax halls ts)) = some c_Net := rfl
  have e2 : spc 6 c_Net = some f_Net_contains := rfl
  unfold cmpG
  rw [if_pos (by decide), e1]
  simp only [e2, e, ownB, rb_ok]
  simp
mutual
def dtB : Nat → PV → Bool
  | _, .non => true
  | _, .bl _ => true
  | _, .int _ => true
  | _, .str _ => true
  | _, .dct kvs => kvs.isEmpty
  | n + 1, .lst xs => dtBs n xs
  | n + 1, .tup xs => dtBs n xs
  | _, _ => false
def dtBs : Nat → List PV → Bool
  | _, [] => true
  | n, x :: xs => dtB n x && dtBs n xs
end
mutual
theorem dt_of : ∀ (n : Nat) (d : PV), dtB n d = true → Dt n d
  | n, .non, _ => .non n
  | n, .bl b, _ => .bl n b
  | n, .int b, _ => .int n b
  | n, .str b, _ => .str n b
  | n, .dct kvs, h => by
    cases kvs with
    | nil => exact .dct0 n
    | cons a r => simp [dtB] at h
  | n + 1, .lst xs, h => .lst n xs (dts_of n xs (by simpa [dtB] using h))
  | n + 1, .tup xs, h => .tup n xs (dts_of n xs (by simpa [dtB] using h))
  | 0, .lst xs, h => by simp [dtB] at h
  | 0, .tup xs, h => by simp [dtB] at h
  | n, .obj _ _, h => by cases n <;> simp [dtB] at h
  | n, .cls _, h => by cases n <;> simp [dtB] at h
  | n, .ty _, h => by cases n <;> simp [dtB] at h
  | n, .scr _, h => by cases n <;> simp [dtB] at h
theorem dts_of : ∀ (n : Nat) (ds : List PV), dtBs n ds = true → ∀ d ∈ ds, Dt n d
  | _, [], _, d, hd => by simp at hd
  | n, x :: xs, h, d, hd => by
    simp only [dtBs, Bool.and_eq_true] at h
    rcases List.mem_cons.mp hd with e | hd
    · rw [e]; exact dt_of n x h.1
    · exact dts_of n xs h.2 d hd
end
end HV.k41

end

section
/-! S11: how a law begins and ends. -/
namespace HV.k41
open HV
local macro_rules | `(tactic| fail "call") => `(tactic| with_reducible (show _ = _; assumption))
local macro_rules | `(tactic| fail "leaf") => `(tactic| rfl)
local macro_rules | `(tactic| fail "lt") => `(tactic| exact Nat.le_of_ble_eq_true rfl)
local macro_rules | `(tactic| fail "dec") => `(tactic| first | rfl | assumption | (simp [*]; done))
local macro_rules | `(tactic| fail "cmp") => `(tactic| with_reducible (first
  | exact cmp_eq_int _ _ _ _ _
  | exact cmp_ne_int _ _ _ _ _
  | exact cmp_lt_int _ _ _ _ _
  | exact cmp_le_int _ _ _ _ _
  | exact cmp_gt_int _ _ _ _ _
  | exact cmp_ge_int _ _ _ _ _
  | exact cmp_eq_str _ _ _ _ _
  | exact cmp_ne_str _ _ _ _ _
  | exact cmp_in_strs _ _ _ _ _
  | exact cmp_ni_strs _ _ _ _ _
  | exact cmp_in_sign _ _ _ _ _
  | apply cmp_in_rf
  | apply cmp_ni_rf
  | exact cmp_is_non _ _ _ _
  | exact cmp_isnt_non _ _ _ _))
local macro_rules | `(tactic| fail "heap") => `(tactic| with_reducible (first
  | exact pa0 | exact pa1 | exact pa2 | exact pa3 | exact ha0 | exact ha1 | exact ha2 | exact ha3
  | exact ps0 | exact ps1 | exact ps2 | exact ps3 | exact hs0 | exact hs1 | exact hs2 | exact hs3
  | exact pl0 | exact pl1 | exact pl2 | exact pl3 | exact hl0 | exact hl1 | exact hl2 | exact hl3
  | exact hc0 | exact hc1 | exact hc2 | exact hc3))
local macro_rules | `(tactic| fail "ev1") => `(tactic| first
  | with_reducible exact es_nil0
  | with_reducible apply es_cons0
  | (with_reducible apply x_var <;> rfl)
  | (with_reducible apply x_cst <;> rfl)
  | (with_reducible apply x_glo <;> rfl)
  | with_reducible apply x_andB
  | with_reducible apply x_orB
  | with_reducible apply x_not'
  | with_reducible apply x_cmp
  | with_reducible apply x_idx
  | with_reducible apply x_bin
  | with_reducible apply x_isi
  | with_reducible apply x_len
  | with_reducible apply x_b1
  | with_reducible apply x_s1
  | with_reducible apply x_att
  | with_reducible apply x_tup'
  | with_reducible apply x_lst'
  | with_reducible apply x_slc
  | with_reducible apply x_nlst3
  | with_reducible apply x_app4
  | with_reducible apply x_frz3
  | with_reducible apply x_join
  | with_reducible apply x_dct0
  | with_reducible exact bd_non
  | with_reducible apply bd_one
  | with_reducible apply x_call
  | with_reducible apply x_meth
  | with_reducible apply x_lc
  | with_reducible apply sr_zipM
  | with_reducible apply sr_enmM
  | with_reducible apply sr_fz
  | with_reducible (apply lcN_map; intro _ _; refine ⟨?_, tt_yes, ?_⟩)
  | with_reducible (apply lcN_filt; intro _ _; refine ⟨?_, ?_, fun _ => ?_⟩)
  | with_reducible apply frzR_ok
  | with_reducible apply tg_nm
  | with_reducible apply tg_tp2
  | with_reducible apply tg_tp3
  | with_reducible apply tg_tp4
  | with_reducible exact tt_yes
  | with_reducible apply tt_val
  | with_reducible apply t_cmp0
  | with_reducible apply t_not0
  | with_reducible apply t_andB
  | with_reducible apply t_orB
  | with_reducible apply t_chnB
  | with_reducible (apply bb_ret; apply s_ret0)
  | with_reducible exact bb_nil
  | with_reducible apply bb_cons
  | with_reducible apply s_set0
  | with_reducible apply s_exp0
  | with_reducible apply ss_par3
  | with_reducible apply s_setT3
  | with_reducible apply s_aug3
  | with_reducible intro _
  | with_reducible exact frzs_nil
  | with_reducible apply frzs_fz
  | with_reducible apply frzs_rf
  | fail "call"
  | fail "heap"
  | fail "lt"
  | fail "cmp"
  | fail "leaf")
local macro_rules | `(tactic| fail "ev") => `(tactic| repeat' (fail "ev1"))

local macro_rules | `(tactic| fail "call") => `(tactic| with_reducible (first | exact is_list (by with_unfolding_all rfl) (by omega) | exact is_int _ (by omega) | exact is_integer (by with_unfolding_all rfl) (by omega) | exact is_name_str _ (by omega)))

local macro_rules | `(tactic| fail "call") => `(tactic| with_reducible (first | exact att_axes _ _ _ _ | exact att_rooms _ _ _ _ | exact att_rows _ _ _ _ | exact is_vector_t _ _ (by omega) | exact is_vector_l _ _ (by omega)))

variable {h : Hm} {N : Nat} {S : Sm} {B : Int} {E F : Hm}
theorem start (ns : List Int) (hN : 1 ≤ N) : run 2000 N f_law_start [.fz (.scr ns)] [] = .ok (.rf 1) (hp ⟨ns, 0, 0, 11⟩ []) := by
  obtain ⟨N, rfl⟩ := Nat.exists_eq_add_of_le' hN
  have e : (ns.map PV.int).map Vl.fz = ivls ns := by simp [ivls, Function.comp_def]
  rw [run_at N f_law_start r_law_start rfl]
  refine run_rt (v := .rf 1) (h1 := hp ⟨ns, 0, 0, 11⟩ []) rfl (bb_ret (s_ret0 (x_nlst3 (h1 := [some (.lst (ivls ns))]) (vs := [.rf 0, .fz (.int 0), .fz (.int 0), .fz (.int 11)]) (es_cons0 (x_n1 (ds := ns.map .int) (x_var rfl) rfl rfl ?_) (es_cons0 (x_cst rfl) (es_cons0 (x_cst rfl) (es_cons0 (x_cst rfl) es_nil0)))) (by decide) rfl rfl))) rfl rfl
  show [] ++ [some (MO.lst ((ns.map PV.int).map Vl.fz))] = _
  rw [e]
  rfl
theorem good_name {w : Txt} (g : good w) : nameB w = true := by
  unfold nameB
  rw [Bool.and_eq_true]
  rcases g with ⟨h1, h2, h3⟩ | ⟨l, hl, rfl⟩
  · refine ⟨by simp [h1], List.all_eq_true.mpr fun c hc => ?_⟩
    have : ∀ c ∈ alf, signs.contains c = true := by decide
    exact this c (h3 c hc)
  · refine ⟨by simp, List.all_eq_true.mpr fun c hc => ?_⟩
    have h1 : ∀ c ∈ abc, signs.contains c = true := by decide
    simp at hc
    rcases hc with rfl | rfl
    · exact h1 _ hl
    · decide
theorem good_len {w : Txt} (g : good w) : w.length ≤ 4 := by
  rcases g with ⟨h1, h2, h3⟩ | ⟨l, hl, rfl⟩
  · exact h2
  · simp
theorem PlanOk.net {ax hl mn wd : Nat} {names : List Txt} {ts : List Tie} (P : PlanOk ax hl mn wd names ts) (hax : ax ≤ 4) (h1 : hl ≤ 100) (h2 : mn ≤ 100) : NetOk ax names ts :=
  ⟨hax, P.n0, by have := P.n1; omega, P.n2, fun w hw => good_name (P.n3 w hw), P.t2, by have := P.t1; omega, fun t ht => ⟨good_name (P.t3 t ht).1, (P.t3 t ht).2.1, (P.t3 t ht).2.2.1, (P.t3 t ht).2.2.2.1⟩⟩
theorem hpa {S : Sm} {E F : Hm} : hp S E ++ F = hp S (E ++ F) := rfl
theorem net1 {ax : Nat} (h : ax ≤ 4) : NetOk ax [[97]] [] := ⟨h, by simp, by simp, by simp, by decide, by simp, by simp, by simp⟩
theorem hp0_ok (ns : List Int) : Cl (hp ⟨ns, 0, 0, 11⟩ []) ∧ Sm.Ok ⟨ns, 0, 0, 11⟩ 0 := ⟨by unfold Cl hp; simp [refsO, refsV, ivls], ⟨by simp, by simp, by simp, by simp, by simp⟩⟩
theorem law_of (ns : List Int) (key : W ((gx 29).sts r_law.body ([Vl.fz (.scr ns)].map some ++ List.replicate r_law.k none) []) fun o => ∃ h, o = .rt (.fz (.bl true)) h) : ∃ h, run 2000 30 lawId [.fz (.scr ns)] [] = .ok (.fz (.bl true)) h := by
  obtain ⟨h, key⟩ := key
  refine ⟨[], ?_⟩
  show run 2000 (29 + 1) f_law _ _ = _
  rw [run_at 29 f_law r_law rfl]
  exact run_rt (h1 := h) rfl key (by unfold cutH; simp) rfl
end HV.k41

end

section
/-! L41a: boxes and cuts that are refused. -/
namespace HV.k41
open HV
local macro_rules | `(tactic| fail "call") => `(tactic| with_reducible (show _ = _; assumption))
local macro_rules | `(tactic| fail "leaf") => `(tactic| rfl)
local macro_rules | `(tactic| fail "lt") => `(tactic| exact Nat.le_of_ble_eq_true rfl)
local macro_rules | `(tactic| fail "dec") => `(tactic| first | rfl | assumption | (simp [*]; done))
local macro_rules | `(tactic| fail "cmp") => `(tactic| with_reducible (first
  | exact cmp_eq_int _ _ _ _ _
  | exact cmp_ne_int _ _ _ _ _
  | exact cmp_lt_int _ _ _ _ _
  | exact cmp_le_int _ _ _ _ _
  | exact cmp_gt_int _ _ _ _ _
  | exact cmp_ge_int _ _ _ _ _
  | exact cmp_eq_str _ _ _ _ _
  | exact cmp_ne_str _ _ _ _ _
  | exact cmp_in_strs _ _ _ _ _
  | exact cmp_ni_strs _ _ _ _ _
  | exact cmp_in_sign _ _ _ _ _
  | apply cmp_in_rf
  | apply cmp_ni_rf
  | exact cmp_is_non _ _ _ _
  | exact cmp_isnt_non _ _ _ _))
local macro_rules | `(tactic| fail "heap") => `(tactic| with_reducible (first
  | exact pa0 | exact pa1 | exact pa2 | exact pa3 | exact ha0 | exact ha1 | exact ha2 | exact ha3
  | exact ps0 | exact ps1 | exact ps2 | exact ps3 | exact hs0 | exact hs1 | exact hs2 | exact hs3
  | exact pl0 | exact pl1 | exact pl2 | exact pl3 | exact hl0 | exact hl1 | exact hl2 | exact hl3
  | exact hc0 | exact hc1 | exact hc2 | exact hc3))
local macro_rules | `(tactic| fail "ev1") => `(tactic| first
  | with_reducible exact es_nil0
  | with_reducible apply es_cons0
  | (with_reducible apply x_var <;> rfl)
  | (with_reducible apply x_cst <;> rfl)
  | (with_reducible apply x_glo <;> rfl)
  | with_reducible apply x_andB
  | with_reducible apply x_orB
  | with_reducible apply x_not'
  | with_reducible apply x_cmp
  | with_reducible apply x_idx
  | with_reducible apply x_bin
  | with_reducible apply x_isi
  | with_reducible apply x_len
  | with_reducible apply x_b1
  | with_reducible apply x_s1
  | with_reducible apply x_att
  | with_reducible apply x_tup'
  | with_reducible apply x_lst'
  | with_reducible apply x_slc
  | with_reducible apply x_nlst3
  | with_reducible apply x_app4
  | with_reducible apply x_frz3
  | with_reducible apply x_join
  | with_reducible apply x_dct0
  | with_reducible exact bd_non
  | with_reducible apply bd_one
  | with_reducible apply x_call
  | with_reducible apply x_meth
  | with_reducible apply x_lc
  | with_reducible apply sr_zipM
  | with_reducible apply sr_enmM
  | with_reducible apply sr_fz
  | with_reducible (apply lcN_map; intro _ _; refine ⟨?_, tt_yes, ?_⟩)
  | with_reducible (apply lcN_filt; intro _ _; refine ⟨?_, ?_, fun _ => ?_⟩)
  | with_reducible apply frzR_ok
  | with_reducible apply tg_nm
  | with_reducible apply tg_tp2
  | with_reducible apply tg_tp3
  | with_reducible apply tg_tp4
  | with_reducible exact tt_yes
  | with_reducible apply tt_val
  | with_reducible apply t_cmp0
  | with_reducible apply t_not0
  | with_reducible apply t_andB
  | with_reducible apply t_orB
  | with_reducible apply t_chnB
  | with_reducible (apply bb_ret; apply s_ret0)
  | with_reducible exact bb_nil
  | with_reducible apply bb_cons
  | with_reducible apply s_set0
  | with_reducible apply s_exp0
  | with_reducible apply ss_par3
  | with_reducible apply s_setT3
  | with_reducible apply s_aug3
  | with_reducible intro _
  | with_reducible exact frzs_nil
  | with_reducible apply frzs_fz
  | with_reducible apply frzs_rf
  | fail "call"
  | fail "heap"
  | fail "lt"
  | fail "cmp"
  | fail "leaf")
local macro_rules | `(tactic| fail "ev") => `(tactic| repeat' (fail "ev1"))

local macro_rules | `(tactic| fail "call") => `(tactic| with_reducible (first | exact is_list (by with_unfolding_all rfl) (by omega) | exact is_int _ (by omega) | exact is_integer (by with_unfolding_all rfl) (by omega) | exact is_name_str _ (by omega)))

local macro_rules | `(tactic| fail "call") => `(tactic| with_reducible (first | exact att_axes _ _ _ _ | exact att_rooms _ _ _ _ | exact att_rows _ _ _ _ | exact is_vector_t _ _ (by omega) | exact is_vector_l _ _ (by omega)))

variable {h : Hm} {N : Nat} {ax : Nat} {halls : List Txt} {ts : List Tie}
def posB : PV → Bool
  | .int i => decide (1 ≤ i)
  | _ => false
def sizesB (d : PV) (n : Int) : Bool := vecB d n && (itemsOf d).all posB
theorem is_sizes {d : PV} (n : Int) (hd : plainK d) (hi : ∀ x ∈ itemsOf d, plainK x) (hN : 3 ≤ N) : run 2000 N f_is_sizes [.fz d, .fz (.int n)] h = .ok (.fz (.bl (sizesB d n))) h := by
  obtain ⟨N, rfl⟩ := Nat.exists_eq_add_of_le' hN
  have e1 := is_vector (h := h) (N := N + 2) n hd hi (by omega)
  apply purW r_is_sizes rfl rfl
  unfold sizesB
  by_cases hv : vecB d n = true
  · obtain ⟨l, hl, hd⟩ := vec_of hv
    have e2 : iterV d = some (l.map .int) ∧ itemsOf d = l.map .int := by rcases hd with rfl | rfl <;> exact ⟨rfl, rfl⟩
    rw [e2.2]
    refine w_ret (x_andB (x_call (es_cons0 (x_var rfl) (es_cons0 (x_var rfl) es_nil0)) e1) fun _ => x_b1 (x_lc (sr_fz (x_var rfl) e2.1) (lcN_map PV.int (fun i => .bl (decide (i ≥ 1))) _ l fun i hi => ⟨tg_nm (by fail "lt"), tt_yes, frzR_ok (x_cmp (x_var rfl) (x_cst rfl) (cmp_ge_int _ _ _ _ _))⟩)) (all_blm _ _)) ?_
    simp [posB, Function.comp_def]
  · simp only [Bool.not_eq_true] at hv
    rw [hv] at e1 ⊢
    exact w_ret (x_andB (s := false) (x_call (es_cons0 (x_var rfl) (es_cons0 (x_var rfl) es_nil0)) e1) fun z => by cases z) rfl
theorem check_sizes_bad {d : PV} (hd : plainK d) (hi : ∀ x ∈ itemsOf d, plainK x) (hb : sizesB d (ax : Int) = false) (hN : 4 ≤ N) : run 2000 N f_check_sizes [.fz (netV ax halls ts), .fz d] h = .exc x_BadSizes [d] h := by
  obtain ⟨N, rfl⟩ := Nat.exists_eq_add_of_le' hN
  have e1 := is_sizes (h := h) (N := N + 3) (ax : Int) hd hi (by omega)
  rw [hb] at e1
  apply purX r_check_sizes rfl rfl
  exact w_ifX (t := true) (t_not0 (t := false) (tt_val (x_call (es_cons0 (x_var rfl) (es_cons0 (by fail "ev") es_nil0)) e1) rfl)) rfl (x_var rfl) rfl
theorem box_way_bad {d : PV} (hd : plainK d) (hi : ∀ x ∈ itemsOf d, plainK x) (hb : sizesB d (ax : Int) = false) (hN : 5 ≤ N) : run 2000 N f_box_way [.fz (netV ax halls ts), .fz d] h = .exc x_BadSizes [d] h := by
  obtain ⟨N, rfl⟩ := Nat.exists_eq_add_of_le' hN
  apply purX r_box_way rfl rfl
  exact w_exc (ss_expX (xx_call (es_cons0 (x_var rfl) (es_cons0 (x_var rfl) es_nil0)) (check_sizes_bad hd hi hb (by omega)))) rfl
theorem is_box_way_bad {d e : PV} (hd : plainK d) (hi : ∀ x ∈ itemsOf d, plainK x) (hb : sizesB d (ax : Int) = false) (hN : 5 ≤ N) : run 2000 N f_is_box_way [.fz (netV ax halls ts), .fz d, .fz e] h = .exc x_BadSizes [d] h := by
  obtain ⟨N, rfl⟩ := Nat.exists_eq_add_of_le' hN
  apply purX r_is_box_way rfl rfl
  exact w_exc (ss_expX (xx_call (es_cons0 (x_var rfl) (es_cons0 (x_var rfl) es_nil0)) (check_sizes_bad hd hi hb (by omega)))) rfl
theorem longest_way_bad {d : PV} (hd : plainK d) (hi : ∀ x ∈ itemsOf d, plainK x) (hb : sizesB d (ax : Int) = false) (hN : 5 ≤ N) : run 2000 N f_longest_way [.fz (netV ax halls ts), .fz d] h = .exc x_BadSizes [d] h := by
  obtain ⟨N, rfl⟩ := Nat.exists_eq_add_of_le' hN
  apply purX r_longest_way rfl rfl
  exact w_exc (ss_expX (xx_call (es_cons0 (x_var rfl) (es_cons0 (x_var rfl) es_nil0)) (check_sizes_bad hd hi hb (by omega)))) rfl
theorem boxed_bad1 {d e : PV} (hd : plainK d) (hb : axB d (ax : Int) = false) (hN : 3 ≤ N) : run 2000 N f_boxed [.fz (netV ax halls ts), .fz d, .fz e] h = .exc x_NoAxis [d] h := by
  obtain ⟨N, rfl⟩ := Nat.exists_eq_add_of_le' hN
  apply purX r_boxed rfl rfl
  exact w_exc (ss_expX (xx_call (es_cons0 (x_var rfl) (es_cons0 (x_var rfl) es_nil0)) (check_axis_bad hd hb (by omega)))) rfl
theorem boxed_bad2 {d : PV} (hd : plainK d) (hb : szB d = false) (h0 : 0 < ax) (hN : 3 ≤ N) : run 2000 N f_boxed [.fz (netV ax halls ts), .fz (.int 0), .fz d] h = .exc x_BadNumber [d] h := by
  obtain ⟨N, rfl⟩ := Nat.exists_eq_add_of_le' hN
  apply purX r_boxed rfl rfl
  refine w_nx (s_exp0 (x_call (es_cons0 (x_var rfl) (es_cons0 (x_var rfl) es_nil0)) (check_axis_ok (i := 0) (by omega) (by omega) (by omega)))) ?_
  exact w_exc (ss_expX (xx_call (es_cons0 (x_var rfl) es_nil0) (check_size_bad hd hb (by omega)))) rfl
theorem cuts_bad1 {d : PV} (hd : plainK d) (hb : isLst d = false) (hN : 2 ≤ N) : run 2000 N f_cuts [.fz (netV ax halls ts), .fz d] h = .exc x_NoTie [d] h := by
  obtain ⟨N, rfl⟩ := Nat.exists_eq_add_of_le' hN
  have e1 := is_list (h := h) (N := N + 1) hd (by omega)
  rw [hb] at e1
  apply purX r_cuts rfl rfl
  exact w_ifX (t := true) (t_not0 (t := false) (tt_val (x_call (es_cons0 (x_var rfl) es_nil0) e1) rfl)) rfl (x_var rfl) rfl
theorem cuts_bad2 {ws : List Txt} {d : PV} {rest : List PV} (hw : ∀ w ∈ ws, w ∈ ts.map Tie.nm) (nd : ws.Nodup) (hd : plainK d) (hb : ∀ s, d = .str s → s ∈ ts.map Tie.nm → s ∈ ws) (hN : 2 ≤ N) : run 2000 N f_cuts [.fz (netV ax halls ts), .fz (.lst (ws.map .str ++ d :: rest))] h = .exc x_NoTie [d] h := by
  obtain ⟨N, rfl⟩ := Nat.exists_eq_add_of_le' hN
  have e1 := is_list (h := h) (N := N + 1) (d := .lst (ws.map .str ++ d :: rest)) rfl (by omega)
  apply purX r_cuts rfl rfl
  refine w_ifF (t := false) (t_not0 (t := true) (tt_val (x_call (es_cons0 (x_var rfl) es_nil0) e1) rfl)) rfl (w_aft ?_)
  generalize hnm : ws.map PV.str ++ d :: rest = names
  have hcut : ∀ j : Nat, cutP names none (some (j : Int)) = names.take j := by
    intro j
    simp only [cutP, sIxP, List.drop_zero]
    rw [if_neg (by omega)]
    simp [List.take_eq_take_iff]
  refine w_for (mk := fun x : PV × Nat => PV.tup [.int (x.2 : Nat), x.1]) (ks := names.zipIdx) (sr_enmM (mk := id) (d := .lst names) (x_var rfl) (by simp [seqP]))
    (fun pre env h' => h' = h ∧ pre.length ≤ ws.length ∧ ∃ x4 x5, env = [some (.fz (netV ax halls ts)), some (.fz (.lst names)), none, none, x4, x5, none, none]) ⟨rfl, by simp, none, none, rfl⟩ ?_ ?_
  · rintro pre ⟨x, k⟩ post hk env h' ⟨rfl, hl, x4, x5, rfl⟩
    refine ⟨_, tg_tp2 (tg_nm (by fail "lt")) (tg_nm (by fail "lt")), ?_⟩
    have hx : names.zipIdx[pre.length]? = some (x, k) := by rw [hk]; simp
    rw [List.getElem?_zipIdx] at hx
    have hx1 : names[pre.length]? = some x ∧ k = pre.length := by
      cases q : names[pre.length]? with
      | none => rw [q] at hx; cases hx
      | some y => rw [q] at hx; simp at hx; exact ⟨by rw [hx.1], hx.2.symm⟩
    obtain ⟨hx1, rfl⟩ := hx1
    by_cases hlt : pre.length < ws.length
    · have hx2 : x = .str ws[pre.length] := by
        rw [← hnm, List.getElem?_append_left (by simpa using hlt), List.getElem?_map, List.getElem?_eq_getElem hlt] at hx1
        exact (Option.some.inj hx1).symm
      subst hx2
      have ht : names.take pre.length = (ws.take pre.length).map .str := by
        rw [← hnm, List.take_append_of_le_length (by simpa using hl), List.map_take]
      have hin : inNet ts (.str ws[pre.length]) = true := by
        simp only [inNet, decide_eq_true_eq]
        exact hw _ (List.getElem_mem hlt)
      have hni : decide (ws[pre.length] ∈ ws.take pre.length) = false := by
        rw [decide_eq_false_iff_not]
        intro z
        have h2 : ws = ws.take pre.length ++ ws.drop pre.length := (List.take_append_drop _ _).symm
        have h3 : ws[pre.length] ∈ ws.drop pre.length := by
          rw [List.drop_eq_getElem_cons hlt]
          exact List.mem_cons_self
        rw [h2] at nd
        exact (List.nodup_append.mp nd).2.2 _ z _ h3 rfl
      refine w_ifF (t := false) (h1 := h') (t_orF (h1 := h') (t_cmp0 (t := false) (x_var rfl) (x_var rfl) ?_) (t_cmp0 (t := false) (x_var rfl) (x_slc (d := .lst names) (d1 := .lst ((ws.take pre.length).map .str)) (x_var rfl) bd_non (bd_one (x_var rfl)) rfl ?_) ?_)) rfl (w_aft (w_turn ⟨rfl, ?_, _, _, rfl⟩))
      · have e2 := own_ni (h := h') (N := N + 1) (ax := ax) (halls := halls) (ts := ts) (d := .str ws[pre.length]) rfl (by omega)
        rw [hin] at e2; exact e2
      · simp only [slcV, hcut, ht]
      · rw [cmp_in_strs, hni]
      · simp; omega
    · have hle : pre.length = ws.length := by omega
      have hx2 : x = d := by
        rw [← hnm, hle] at hx1
        simp at hx1
        exact hx1.symm
      subst hx2
      have ht : names.take pre.length = ws.map .str := by
        rw [← hnm, hle]
        simp
      by_cases hin : inNet ts x = true
      · cases x with
        | str s =>
          have hs : decide (s ∈ ws) = true := by
            simp only [inNet, decide_eq_true_eq] at hin
            rw [decide_eq_true_eq]
            exact hb s rfl hin
          refine w_ifX (t := true) (h1 := h') (t_orF (h1 := h') (t_cmp0 (t := false) (x_var rfl) (x_var rfl) ?_) (t_cmp0 (t := true) (x_var rfl) (x_slc (d := .lst names) (d1 := .lst (ws.map .str)) (x_var rfl) bd_non (bd_one (x_var rfl)) rfl ?_) ?_)) rfl (x_var rfl) rfl
          · have e2 := own_ni (h := h') (N := N + 1) (ax := ax) (halls := halls) (ts := ts) (d := .str s) rfl (by omega)
            rw [hin] at e2; exact e2
          · simp only [slcV, hcut, ht]
          · rw [cmp_in_strs, hs]
        | _ => cases hin
      · simp only [Bool.not_eq_true] at hin
        refine w_ifX (t := true) (h1 := h') (t_orT (t_cmp0 (t := true) (x_var rfl) (x_var rfl) ?_)) rfl (x_var rfl) rfl
        have e2 := own_ni (h := h') (N := N + 1) (ax := ax) (halls := halls) (ts := ts) hd (by omega)
        rw [hin] at e2; exact e2
  · rintro e2 h2 ⟨_, hl, _⟩
    rw [List.length_zipIdx, ← hnm] at hl
    simp at hl
    omega
end HV.k41

end

section
/-! L41b: the loops of the law. -/
namespace HV.k41
open HV
local macro_rules | `(tactic| fail "call") => `(tactic| with_reducible (show _ = _; assumption))
local macro_rules | `(tactic| fail "leaf") => `(tactic| rfl)
local macro_rules | `(tactic| fail "lt") => `(tactic| exact Nat.le_of_ble_eq_true rfl)
local macro_rules | `(tactic| fail "dec") => `(tactic| first | rfl | assumption | (simp [*]; done))
local macro_rules | `(tactic| fail "cmp") => `(tactic| with_reducible (first
  | exact cmp_eq_int _ _ _ _ _
  | exact cmp_ne_int _ _ _ _ _
  | exact cmp_lt_int _ _ _ _ _
  | exact cmp_le_int _ _ _ _ _
  | exact cmp_gt_int _ _ _ _ _
  | exact cmp_ge_int _ _ _ _ _
  | exact cmp_eq_str _ _ _ _ _
  | exact cmp_ne_str _ _ _ _ _
  | exact cmp_in_strs _ _ _ _ _
  | exact cmp_ni_strs _ _ _ _ _
  | exact cmp_in_sign _ _ _ _ _
  | apply cmp_in_rf
  | apply cmp_ni_rf
  | exact cmp_is_non _ _ _ _
  | exact cmp_isnt_non _ _ _ _))
local macro_rules | `(tactic| fail "heap") => `(tactic| with_reducible (first
  | exact pa0 | exact pa1 | exact pa2 | exact pa3 | exact ha0 | exact ha1 | exact ha2 | exact ha3
  | exact ps0 | exact ps1 | exact ps2 | exact ps3 | exact hs0 | exact hs1 | exact hs2 | exact hs3
  | exact pl0 | exact pl1 | exact pl2 | exact pl3 | exact hl0 | exact hl1 | exact hl2 | exact hl3
  | exact hc0 | exact hc1 | exact hc2 | exact hc3))
local macro_rules | `(tactic| fail "ev1") => `(tactic| first
  | with_reducible exact es_nil0
  | with_reducible apply es_cons0
  | (with_reducible apply x_var <;> rfl)
  | (with_reducible apply x_cst <;> rfl)
  | (with_reducible apply x_glo <;> rfl)
  | with_reducible apply x_andB
  | with_reducible apply x_orB
  | with_reducible apply x_not'
  | with_reducible apply x_cmp
  | with_reducible apply x_idx
  | with_reducible apply x_bin
  | with_reducible apply x_isi
  | with_reducible apply x_len
  | with_reducible apply x_b1
  | with_reducible apply x_s1
  | with_reducible apply x_att
  | with_reducible apply x_tup'
  | with_reducible apply x_lst'
  | with_reducible apply x_slc
  | with_reducible apply x_nlst3
  | with_reducible apply x_app4
  | with_reducible apply x_frz3
  | with_reducible apply x_join
  | with_reducible apply x_dct0
  | with_reducible exact bd_non
  | with_reducible apply bd_one
  | with_reducible apply x_call
  | with_reducible apply x_meth
  | with_reducible apply x_lc
  | with_reducible apply sr_zipM
  | with_reducible apply sr_enmM
  | with_reducible apply sr_fz
  | with_reducible (apply lcN_map; intro _ _; refine ⟨?_, tt_yes, ?_⟩)
  | with_reducible (apply lcN_filt; intro _ _; refine ⟨?_, ?_, fun _ => ?_⟩)
  | with_reducible apply frzR_ok
  | with_reducible apply tg_nm
  | with_reducible apply tg_tp2
  | with_reducible apply tg_tp3
  | with_reducible apply tg_tp4
  | with_reducible exact tt_yes
  | with_reducible apply tt_val
  | with_reducible apply t_cmp0
  | with_reducible apply t_not0
  | with_reducible apply t_andB
  | with_reducible apply t_orB
  | with_reducible apply t_chnB
  | with_reducible (apply bb_ret; apply s_ret0)
  | with_reducible exact bb_nil
  | with_reducible apply bb_cons
  | with_reducible apply s_set0
  | with_reducible apply s_exp0
  | with_reducible apply ss_par3
  | with_reducible apply s_setT3
  | with_reducible apply s_aug3
  | with_reducible intro _
  | with_reducible exact frzs_nil
  | with_reducible apply frzs_fz
  | with_reducible apply frzs_rf
  | fail "call"
  | fail "heap"
  | fail "lt"
  | fail "cmp"
  | fail "leaf")
local macro_rules | `(tactic| fail "ev") => `(tactic| repeat' (fail "ev1"))

local macro_rules | `(tactic| fail "call") => `(tactic| with_reducible (first | exact is_list (by with_unfolding_all rfl) (by omega) | exact is_int _ (by omega) | exact is_integer (by with_unfolding_all rfl) (by omega) | exact is_name_str _ (by omega)))

local macro_rules | `(tactic| fail "call") => `(tactic| with_reducible (first | exact att_axes _ _ _ _ | exact att_rooms _ _ _ _ | exact att_rows _ _ _ _ | exact is_vector_t _ _ (by omega) | exact is_vector_l _ _ (by omega)))

local macro_rules | `(tactic| fail "leaf") => `(tactic| exact idx_zero)
variable {h : Hm} {N : Nat} {S : Sm} {B : Int} {ns : List Int} {ax : Nat} {halls : List Txt} {ts : List Tie} {r : Sts} {Q : SO → Prop}
abbrev wds (t : List Tie) : List PV := (t.map Tie.nm).map .str
abbrev fineV (ax : Nat) : List PV := List.replicate ax (.int 2)
abbrev someV (ax : Nat) : List PV := [.non, .int 5, .str [49, 50], .dct [], .lst (fineV ax ++ [.int 1]), .lst ((fineV ax).drop 1), .lst ((fineV ax).drop 1 ++ [.int 0]), .lst ((fineV ax).drop 1 ++ [.int (-1)])]
abbrev oddsA (ax : Nat) : List PV := someV ax ++ [.lst ((fineV ax).drop 1 ++ [.bl true]), .lst (List.replicate ax .non)]
abbrev planV (ax : Nat) (halls : List Txt) (ts : List Tie) : PV := .tup [.int (ax : Int), .lst (halls.map .str), .lst (ts.map row)]
abbrev en (ns : List Int) (ax : Nat) (halls : List Txt) (ts : List Tie) (x2 x3 x8 x11 x12 : Option Vl) : Env :=
  [some (.fz (.scr ns)), some (.rf 1), x2, x3, some (.fz (.int (ax : Int))), some (.fz (planV ax halls ts)), some (.fz (.lst (fineV ax))), some (.fz (.lst (someV ax))), x8, some (.fz (netV ax halls ts)), some (.fz (.lst (wds ts))), x11, x12, none]
abbrev tgd (t : Txt) (d : PV) : PV := .tup [.str t, d]
theorem Dt.tgd {n : Nat} {t : Txt} {d : PV} (h : Dt n d) : Dt (n + 1) (tgd t d) := .tup n _ fun x hx => by
  simp at hx
  rcases hx with rfl | rfl
  · exact .str _ _
  · exact h
theorem frT_tgd (t : Txt) (d : PV) : frT (tgd t d) = tgd t (frT d) := by simp [frT, frTs]
theorem noRef_app {F G : Hm} (h1 : noRef F) (h2 : noRef G) : noRef (F ++ G) := by
  unfold noRef at *
  rw [List.all_append, h1, h2]
  rfl
theorem loopA {x2 x3 x8 x11 x12 : Option Vl} (hax : ax = 1 ∨ ax = 2 ∨ ax = 3) (hc : Cl h) (hN : 10 ≤ N) (hr : ∀ F y3 y8, noRef F → W ((gx N).sts r (en ns ax halls ts x2 y3 y8 x11 x12) (h ++ F)) Q) : W ((gx N).sts (.cons q_law_1 r) (en ns ax halls ts x2 x3 x8 x11 x12) h) Q := by
  have ok : ∀ d ∈ oddsA ax, Dt 2 d ∧ sizesB d (ax : Int) = false := by
    have key : (oddsA ax).all (fun d => dtB 2 d && !sizesB d (ax : Int)) = true := by rcases hax with rfl | rfl | rfl <;> decide
    intro d hd
    have := List.all_eq_true.mp key d hd
    simp only [Bool.and_eq_true, Bool.not_eq_true'] at this
    exact ⟨dt_of _ _ this.1, this.2⟩
  refine w_for (h1 := h) (mk := id) (ks := oddsA ax) ?_ (fun pre env h' => ∃ F y3 y8, noRef F ∧ env = en ns ax halls ts x2 y3 y8 x11 x12 ∧ h' = h ++ F) ⟨[], x3, x8, noRef_nil, rfl, by simp⟩ ?_ ?_
  · rw [List.map_id]
    refine sr_fz (d := .lst (oddsA ax)) ?_ rfl
    rcases hax with rfl | rfl | rfl <;> fail "ev"
  · rintro pre d post hk env h' ⟨F, y3, y8, hF, rfl, rfl⟩
    obtain ⟨hd, hb⟩ := ok d (by rw [hk]; simp)
    have hc' : Cl (h ++ F) := hc.app hF
    refine ⟨_, tg_nm (by fail "lt"), ?_⟩
    generalize hh : h ++ F = g at hc'
    let t : PV := tgd [115, 105, 122, 101, 115] d
    have dt : Dt 4 (.lst [t, t, t]) := .lst 3 _ fun x hx => by
      simp at hx
      subst hx
      exact hd.tgd
    refine w_nx (s_set0 (x_nlst3 (vs := fzs [t]) (n := g.length) (h2 := g ++ [some (.lst (fzs [t]))]) (es_cons0 (x_lam (xx_call (es_cons0 (x_var rfl) (es_cons0 (x_var rfl) es_nil0)) (box_way_bad hd.plain hd.plains hb (by omega))) rfl (cut_same rfl)) es_nil0) (by fail "lt") rfl rfl) (by fail "lt")) ?_
    refine w_nx (s_exp0 (x_app4 (ds := [t]) (x_var rfl) ha0 (x_lam (xx_call (es_cons0 (x_var rfl) (es_cons0 (x_var rfl) (es_cons0 (x_cst rfl) es_nil0))) (is_box_way_bad hd.plain hd.plains hb (by omega))) rfl (cut_same rfl)) ha0 (by fail "lt") hs0)) ?_
    refine w_nx (s_exp0 (x_app4 (ds := [t, t]) (x_var rfl) ha0 (x_lam (xx_call (es_cons0 (x_var rfl) (es_cons0 (x_var rfl) es_nil0)) (longest_way_bad hd.plain hd.plains hb (by omega))) rfl (cut_same rfl)) ha0 (by fail "lt") hs0)) ?_
    refine w_ifF (t := false) (h1 := g ++ [none]) (t_not0 (t := true) (tt_val (x_call (es_cons0 (x_call (es_cons0 (x_frz3 (ds := [t, t, t]) (x_var rfl) ha0 hs0) es_nil0) (frozen 4 dt (by omega))) (es_cons0 (x_call (es_cons0 (x_bin (d3 := .lst [t, t, t]) (x_lst (ds := [t]) (es_cons0 (x_tup (ds := [.str [115, 105, 122, 101, 115], d]) (es_cons0 (x_cst rfl) (es_cons0 (x_var rfl) es_nil0)) rfl (by fail "lt")) es_nil0) rfl (by fail "lt")) (x_cst rfl) rfl) es_nil0) (frozen 4 dt (by omega))) es_nil0)) (same_refl 4 dt.frD (by omega))) rfl)) rfl (w_aft (w_turn ⟨F ++ [none], some (.rf g.length), some (.fz d), noRef_app hF (noRef_non noRef_nil), rfl, by rw [← hh]; simp⟩))
  · rintro e2 h2 ⟨F, y3, y8, hF, rfl, rfl⟩
    exact hr F y3 y8 hF
/-- a loop over things each of which is refused as it is due -/
theorem loopP {i : Nat} {src : Ex} {body : Sts} {odds : List PV} {ev : Option Vl → Env} {x8 : Option Vl} {h1 : Hm} (hs : (gx N).ex src (ev x8) h = .ok (.fz (.lst odds)) h1) (hset : ∀ y z, (ev y).set i z = ev z) (hi : ∀ y, i < (ev y).length)
    (H : ∀ d ∈ odds, ∃ t : Ts, ∃ rr, body = .cons (.ite (.not t) (.cons (.ret (.cst (.bl false))) .nil) .nil) rr ∧ rr = .nil ∧ (gx N).ts t (ev (some (.fz d))) h1 = .ok true h1) (hr : ∀ y8, W ((gx N).sts r (ev y8) h1) Q) : W ((gx N).sts (.cons (.for_ (.nm i) (.val src) body) r) (ev x8) h) Q := by
  refine w_for (h1 := h1) (mk := id) (ks := odds) (by rw [List.map_id]; exact sr_fz hs rfl) (fun pre env h' => ∃ y8, env = ev y8 ∧ h' = h1) ⟨x8, rfl, rfl⟩ ?_ ?_
  · rintro pre d post hk env h' ⟨y8, rfl, rfl⟩
    obtain ⟨t, rr, rfl, rfl, e⟩ := H d (by rw [hk]; simp)
    refine ⟨_, tg_nm (hi y8), ?_⟩
    rw [hset]
    exact w_ifF (t := false) (t_not0 e) rfl (w_aft (w_turn ⟨_, rfl, rfl⟩))
  · rintro e2 h2 ⟨y8, rfl, rfl⟩
    exact hr y8
abbrev oddsB (ax : Nat) : List PV := [.non, .int (-1), .int (ax : Int), .str [48], .bl true, .tup [.int 0], .lst [.int 0], .dct []]
theorem loopB {x2 x3 x8 x11 x12 : Option Vl} (hN : 10 ≤ N) (hr : ∀ y8, W ((gx N).sts r (en ns ax halls ts x2 x3 y8 x11 x12) (h ++ [none])) Q) : W ((gx N).sts (.cons q_law_2 r) (en ns ax halls ts x2 x3 x8 x11 x12) h) Q := by
  have ok : ∀ d ∈ oddsB ax, Dt 1 d ∧ axB d (ax : Int) = false := by
    intro d hd
    simp only [List.mem_cons, List.not_mem_nil, or_false] at hd
    rcases hd with rfl | rfl | rfl | rfl | rfl | rfl | rfl | rfl
    all_goals exact ⟨dt_of _ _ rfl, by simp [axB]⟩
  refine loopP (ev := fun y => en ns ax halls ts x2 x3 y x11 x12) (odds := oddsB ax) (h1 := h ++ [none]) (by fail "ev") (fun _ _ => rfl) (fun _ => by fail "lt") (fun d hd => ⟨_, _, rfl, rfl, ?_⟩) hr
  obtain ⟨hd, hb⟩ := ok d hd
  have e1 := frozen (h := h ++ [none]) (N := N) 2 (hd.tgd (t := [97, 120, 105, 115])) (by omega)
  rw [frT_tgd] at e1
  exact tt_val (x_call (es_cons0 (x_call (es_cons0 (x_lam (xx_call (es_cons0 (x_var rfl) (es_cons0 (x_var rfl) (es_cons0 (x_cst rfl) es_nil0))) (boxed_bad1 hd.plain hb (by omega))) rfl (cut_same rfl)) es_nil0) e1) (es_cons0 (x_tup (ds := [.str [97, 120, 105, 115], frT d]) (es_cons0 (x_cst rfl) (es_cons0 (x_call (es_cons0 (x_var rfl) es_nil0) (frozen 1 hd (by omega))) es_nil0)) rfl (by fail "lt")) es_nil0)) (same_refl 2 hd.frD.tgd (by omega))) rfl
abbrev oddsC : List PV := [.non, .int 0, .int (-1), .int 41, .str [49], .bl true, .tup [.int 1], .lst [.int 1], .dct []]
theorem loopC {x2 x3 x8 x11 x12 : Option Vl} (h0 : 0 < ax) (hN : 10 ≤ N) (hr : ∀ y8, W ((gx N).sts r (en ns ax halls ts x2 x3 y8 x11 x12) (h ++ [none])) Q) : W ((gx N).sts (.cons q_law_3 r) (en ns ax halls ts x2 x3 x8 x11 x12) h) Q := by
  have ok : ∀ d ∈ oddsC, Dt 1 d ∧ szB d = false := by
    intro d hd
    have key : oddsC.all (fun d => dtB 1 d && !szB d) = true := by decide
    have := List.all_eq_true.mp key d hd
    simp only [Bool.and_eq_true, Bool.not_eq_true'] at this
    exact ⟨dt_of _ _ this.1, this.2⟩
  refine loopP (ev := fun y => en ns ax halls ts x2 x3 y x11 x12) (odds := oddsC) (h1 := h ++ [none]) (by fail "ev") (fun _ _ => rfl) (fun _ => by fail "lt") (fun d hd => ⟨_, _, rfl, rfl, ?_⟩) hr
  obtain ⟨hd, hb⟩ := ok d hd
  have e1 := frozen (h := h ++ [none]) (N := N) 2 (hd.tgd (t := [110, 117, 109, 98, 101, 114])) (by omega)
  rw [frT_tgd] at e1
  exact tt_val (x_call (es_cons0 (x_call (es_cons0 (x_lam (xx_call (es_cons0 (x_var rfl) (es_cons0 (x_cst rfl) (es_cons0 (x_var rfl) es_nil0))) (boxed_bad2 hd.plain hb h0 (by omega))) rfl (cut_same rfl)) es_nil0) e1) (es_cons0 (x_tup (ds := [.str [110, 117, 109, 98, 101, 114], frT d]) (es_cons0 (x_cst rfl) (es_cons0 (x_call (es_cons0 (x_var rfl) es_nil0) (frozen 1 hd (by omega))) es_nil0)) rfl (by fail "lt")) es_nil0)) (same_refl 2 hd.frD.tgd (by omega))) rfl
theorem loopD {x2 x3 x8 x11 x12 : Option Vl} {t0 : Tie} {ts : List Tie} (hN : 10 ≤ N) (hr : ∀ y8, W ((gx N).sts r (en ns ax halls (t0 :: ts) x2 x3 y8 x11 x12) (h ++ [none])) Q) : W ((gx N).sts (.cons q_law_4 r) (en ns ax halls (t0 :: ts) x2 x3 x8 x11 x12) h) Q := by
  have ok : ∀ d ∈ [PV.non, .int 5, .str t0.nm, .dct [], .bl true], Dt 1 d ∧ isLst d = false := by
    intro d hd
    simp only [List.mem_cons, List.not_mem_nil, or_false] at hd
    rcases hd with rfl | rfl | rfl | rfl | rfl
    all_goals exact ⟨dt_of _ _ rfl, rfl⟩
  refine loopP (ev := fun y => en ns ax halls (t0 :: ts) x2 x3 y x11 x12) (odds := [PV.non, .int 5, .str t0.nm, .dct [], .bl true]) (h1 := h ++ [none]) (by fail "ev") (fun _ _ => rfl) (fun _ => by fail "lt") (fun d hd => ⟨_, _, rfl, rfl, ?_⟩) hr
  obtain ⟨hd, hb⟩ := ok d hd
  exact tt_val (x_call (es_cons0 (x_lam (xx_call (es_cons0 (x_var rfl) (es_cons0 (x_var rfl) es_nil0)) (cuts_bad1 hd.plain hb (by omega))) rfl (cut_same rfl)) (es_cons0 (x_tup (ds := [.str [116, 105, 101], d]) (es_cons0 (x_cst rfl) (es_cons0 (x_var rfl) es_nil0)) rfl (by fail "lt")) es_nil0)) (same_refl 2 hd.tgd (by omega))) rfl
end HV.k41

end

section
/-! L41c: the law. -/
namespace HV
theorem cutP_take {α : Type} (xs : List α) (j : Nat) : cutP xs none (some (j : Int)) = xs.take j := by
  simp only [cutP, sIxP, List.drop_zero]
  rw [if_neg (by omega)]
  simp [List.take_eq_take_iff]
theorem cutP_drop {α : Type} (xs : List α) (j : Nat) : cutP xs (some (j : Int)) none = xs.drop j := by
  simp only [cutP, sIxP]
  rw [if_neg (by omega)]
  have : min (j : Int).toNat xs.length = min j xs.length := by simp
  rw [this]
  by_cases h : j ≤ xs.length
  · rw [Nat.min_eq_left h, List.take_of_length_le (by simp)]
  · rw [Nat.min_eq_right (by omega), List.drop_of_length_le (by omega), List.drop_of_length_le (l := xs) (i := j) (by omega)]
    simp
theorem add_lst {a b : List PV} (h : a.length + b.length ≤ LIM) : binV 0 (.lst a) (.lst b) = some (.lst (a ++ b)) := by
  simp only [binV, addV, if_pos h]
theorem rep_lst (a : PV) {n : Nat} (h : n ≤ 1000) : binV 2 (.lst [a]) (.int (n : Int)) = some (.lst (List.replicate n a)) := by
  have h1 : -9223372036854775808 ≤ (n : Int) ∧ (n : Int) < 9223372036854775808 ∧ [a].length * (n : Int).toNat ≤ LIM := by
    refine ⟨by omega, by omega, ?_⟩
    simp only [List.length_cons, List.length_nil, LIM]
    omega
  simp only [binV, mulV, if_pos h1]
  congr 2
  rw [Int.toNat_natCast]
  clear h h1
  induction n with
  | zero => rfl
  | succ n ih => rw [List.replicate_succ, List.replicate_succ, List.flatten_cons, ih]; rfl
theorem add_str {a b : Txt} (h : a.length + b.length ≤ LIM) : binV 0 (.str a) (.str b) = some (.str (a ++ b)) := by
  simp only [binV, addV, if_pos h]
end HV
namespace HV.k41
open HV
local macro_rules | `(tactic| fail "call") => `(tactic| with_reducible (show _ = _; assumption))
local macro_rules | `(tactic| fail "leaf") => `(tactic| rfl)
local macro_rules | `(tactic| fail "lt") => `(tactic| exact Nat.le_of_ble_eq_true rfl)
local macro_rules | `(tactic| fail "dec") => `(tactic| first | rfl | assumption | (simp [*]; done))
local macro_rules | `(tactic| fail "cmp") => `(tactic| with_reducible (first
  | exact cmp_eq_int _ _ _ _ _
  | exact cmp_ne_int _ _ _ _ _
  | exact cmp_lt_int _ _ _ _ _
  | exact cmp_le_int _ _ _ _ _
  | exact cmp_gt_int _ _ _ _ _
  | exact cmp_ge_int _ _ _ _ _
  | exact cmp_eq_str _ _ _ _ _
  | exact cmp_ne_str _ _ _ _ _
  | exact cmp_in_strs _ _ _ _ _
  | exact cmp_ni_strs _ _ _ _ _
  | exact cmp_in_sign _ _ _ _ _
  | apply cmp_in_rf
  | apply cmp_ni_rf
  | exact cmp_is_non _ _ _ _
  | exact cmp_isnt_non _ _ _ _))
local macro_rules | `(tactic| fail "heap") => `(tactic| with_reducible (first
  | exact pa0 | exact pa1 | exact pa2 | exact pa3 | exact ha0 | exact ha1 | exact ha2 | exact ha3
  | exact ps0 | exact ps1 | exact ps2 | exact ps3 | exact hs0 | exact hs1 | exact hs2 | exact hs3
  | exact pl0 | exact pl1 | exact pl2 | exact pl3 | exact hl0 | exact hl1 | exact hl2 | exact hl3
  | exact hc0 | exact hc1 | exact hc2 | exact hc3))
local macro_rules | `(tactic| fail "ev1") => `(tactic| first
  | with_reducible exact es_nil0
  | with_reducible apply es_cons0
  | (with_reducible apply x_var <;> rfl)
  | (with_reducible apply x_cst <;> rfl)
  | (with_reducible apply x_glo <;> rfl)
  | with_reducible apply x_andB
  | with_reducible apply x_orB
  | with_reducible apply x_not'
  | with_reducible apply x_cmp
  | with_reducible apply x_idx
  | with_reducible apply x_bin
  | with_reducible apply x_isi
  | with_reducible apply x_len
  | with_reducible apply x_b1
  | with_reducible apply x_s1
  | with_reducible apply x_att
  | with_reducible apply x_tup'
  | with_reducible apply x_lst'
  | with_reducible apply x_slc
  | with_reducible apply x_nlst3
  | with_reducible apply x_app4
  | with_reducible apply x_frz3
  | with_reducible apply x_join
  | with_reducible apply x_dct0
  | with_reducible exact bd_non
  | with_reducible apply bd_one
  | with_reducible apply x_call
  | with_reducible apply x_meth
  | with_reducible apply x_lc
  | with_reducible apply sr_zipM
  | with_reducible apply sr_enmM
  | with_reducible apply sr_fz
  | with_reducible (apply lcN_map; intro _ _; refine ⟨?_, tt_yes, ?_⟩)
  | with_reducible (apply lcN_filt; intro _ _; refine ⟨?_, ?_, fun _ => ?_⟩)
  | with_reducible apply frzR_ok
  | with_reducible apply tg_nm
  | with_reducible apply tg_tp2
  | with_reducible apply tg_tp3
  | with_reducible apply tg_tp4
  | with_reducible exact tt_yes
  | with_reducible apply tt_val
  | with_reducible apply t_cmp0
  | with_reducible apply t_not0
  | with_reducible apply t_andB
  | with_reducible apply t_orB
  | with_reducible apply t_chnB
  | with_reducible (apply bb_ret; apply s_ret0)
  | with_reducible exact bb_nil
  | with_reducible apply bb_cons
  | with_reducible apply s_set0
  | with_reducible apply s_exp0
  | with_reducible apply ss_par3
  | with_reducible apply s_setT3
  | with_reducible apply s_aug3
  | with_reducible intro _
  | with_reducible exact frzs_nil
  | with_reducible apply frzs_fz
  | with_reducible apply frzs_rf
  | fail "call"
  | fail "heap"
  | fail "lt"
  | fail "cmp"
  | fail "leaf")
local macro_rules | `(tactic| fail "ev") => `(tactic| repeat' (fail "ev1"))

local macro_rules | `(tactic| fail "call") => `(tactic| with_reducible (first | exact is_list (by with_unfolding_all rfl) (by omega) | exact is_int _ (by omega) | exact is_integer (by with_unfolding_all rfl) (by omega) | exact is_name_str _ (by omega)))

local macro_rules | `(tactic| fail "call") => `(tactic| with_reducible (first | exact att_axes _ _ _ _ | exact att_rooms _ _ _ _ | exact att_rows _ _ _ _ | exact is_vector_t _ _ (by omega) | exact is_vector_l _ _ (by omega)))

local macro_rules | `(tactic| fail "leaf") => `(tactic| exact idx_zero)
variable {h : Hm} {N : Nat} {S : Sm} {B : Int} {E F : Hm} {ns : List Int} {ax : Nat} {halls : List Txt} {ts : List Tie} {r : Sts} {Q : SO → Prop}
theorem good_qq {w : Txt} (g : good (w ++ [113, 113])) (h0 : w ≠ []) : False := by
  rcases g with ⟨_, _, h3⟩ | ⟨l, hl, e⟩
  · have := h3 113 (by simp)
    revert this
    decide
  · have := congrArg List.length e
    simp at this
    exact h0 (List.eq_nil_of_length_eq_zero (by simpa using this))
theorem loopE {x2 x3 x8 x11 x12 : Option Vl} {t0 : Tie} {ts : List Tie} (hg : ∀ t ∈ t0 :: ts, good t.nm) (nd : ((t0 :: ts).map Tie.nm).Nodup) (hl : (t0 :: ts).length ≤ 100) (ok : S.Ok B) (hB : B ≤ 1000000000) (hN : 10 ≤ N) (hr : ∀ S' y8 y11 y12, S'.Ok (B + 9) → W ((gx N).sts r (en ns ax halls (t0 :: ts) x2 x3 y8 y11 y12) (hp S' E ++ F)) Q) : W ((gx N).sts (.cons q_law_5 r) (en ns ax halls (t0 :: ts) x2 x3 x8 x11 x12) (hp S E ++ F)) Q := by
  have h0l := good_len (hg t0 (by simp))
  have hadd : binV 0 (.str t0.nm) (.str [113, 113]) = some (.str (t0.nm ++ [113, 113])) := add_str (by simp [LIM]; omega)
  have hne : ∀ t ∈ t0 :: ts, t.nm ≠ [] := fun t ht => by
    rcases hg t ht with ⟨h1, _, _⟩ | ⟨l, _, e⟩
    · exact h1
    · rw [e]; simp
  let odds : List PV := [.non, .int 5, .str [], .str [81], .str (t0.nm ++ [113, 113]), .lst [.str t0.nm], .tup [.str t0.nm], .bl true, .str t0.nm]
  have okd : ∀ d ∈ odds, Dt 1 d ∧ ∀ s, d = .str s → s ∈ (t0 :: ts).map Tie.nm → s = t0.nm := by
    intro d hd
    simp only [odds, List.mem_cons, List.not_mem_nil, or_false] at hd
    rcases hd with rfl | rfl | rfl | rfl | rfl | rfl | rfl | rfl | rfl
    · exact ⟨dt_of _ _ rfl, fun s e => by cases e⟩
    · exact ⟨dt_of _ _ rfl, fun s e => by cases e⟩
    · refine ⟨dt_of _ _ rfl, fun s e hs => ?_⟩
      cases e
      obtain ⟨t, ht, e⟩ := List.mem_map.mp hs
      exact absurd e (hne t ht)
    · refine ⟨dt_of _ _ rfl, fun s e hs => ?_⟩
      cases e
      obtain ⟨t, ht, e⟩ := List.mem_map.mp hs
      have := hg t ht
      rw [e] at this
      exfalso
      rcases this with ⟨_, _, h3⟩ | ⟨l, _, e⟩
      · have := h3 81 (by simp)
        revert this
        decide
      · cases e
    · refine ⟨dt_of _ _ rfl, fun s e hs => ?_⟩
      cases e
      obtain ⟨t, ht, e⟩ := List.mem_map.mp hs
      have := hg t ht
      rw [e] at this
      exact (good_qq this (hne t0 (by simp))).elim
    · exact ⟨dt_of _ _ rfl, fun s e => by cases e⟩
    · exact ⟨dt_of _ _ rfl, fun s e => by cases e⟩
    · exact ⟨dt_of _ _ rfl, fun s e => by cases e⟩
    · exact ⟨dt_of _ _ rfl, fun s e _ => by cases e; rfl⟩
  refine w_for (h1 := hp S E ++ F) (mk := id) (ks := odds) ?_ (fun pre env h' => ∃ S' y8 y11 y12, env = en ns ax halls (t0 :: ts) x2 x3 y8 y11 y12 ∧ h' = hp S' E ++ F ∧ S'.Ok (B + pre.length)) ⟨S, x8, x11, x12, rfl, rfl, ok.mono (by simp)⟩ ?_ ?_
  · rw [List.map_id]
    refine sr_fz (d := .lst odds) ?_ rfl
    fail "ev"
  · rintro pre d post hk env h' ⟨S1, y8, y11, y12, rfl, rfl, ok1⟩
    obtain ⟨hd, hb⟩ := okd d (by rw [hk]; simp)
    have hpl : pre.length ≤ 9 := by
      have := congrArg List.length hk
      simp [odds] at this
      omega
    refine ⟨_, tg_nm (by fail "lt"), ?_⟩
    obtain ⟨ws, hws⟩ : ∃ ws, (t0 :: ts).map Tie.nm = ws := ⟨_, rfl⟩
    have hwd : wds (t0 :: ts) = ws.map .str := by rw [← hws]
    rw [hws] at nd hb
    have hwl : ws.length = (t0 :: ts).length := by rw [← hws, List.length_map]
    have hw0 : 0 < ws.length := by rw [hwl]; simp
    obtain ⟨c, S2, e2, c0, c1, ok2⟩ := draw (E := E) (F := F) (N := N) (m := ((ws.map PV.str).length : Int)) ok1 (by omega) (by simp; omega) (by simp; omega) (by omega)
    obtain ⟨j, rfl⟩ := Int.eq_ofNat_of_zero_le c0
    have hj : 1 + j ≤ ws.length := by simp at c1; omega
    refine w_nx (s_set0 (v := .fz (.int ((1 + j : Nat) : Int))) (x_bin (x_cst rfl) (x_call (es_cons0 (x_var rfl) (es_cons0 (x_len (x_var (v := .fz (.lst (ws.map .str))) (by rw [← hwd]; rfl)) rfl) es_nil0)) e2) rfl) (by fail "lt")) ?_
    have hA : ((ws.take (1 + j)).map PV.str).length + 1 ≤ LIM := by simp [LIM]; omega
    have hB2 : ((ws.take (1 + j)).map PV.str ++ [d]).length + ((ws.drop (1 + j)).map PV.str).length ≤ LIM := by simp [LIM]; omega
    have hC : ((ws.take (1 + j)).map PV.str ++ [d] ++ (ws.drop (1 + j)).map PV.str).length + [PV.non].length ≤ LIM := by simp [LIM]; omega
    have a3 : binV 0 (.lst ((ws.take (1 + j)).map PV.str ++ [d] ++ (ws.drop (1 + j)).map PV.str)) (.lst [.non]) = some (.lst ((ws.take (1 + j)).map PV.str ++ d :: ((ws.drop (1 + j)).map PV.str ++ [.non]))) := by
      rw [add_lst hC]
      simp
    have s1 : slcV (.lst (ws.map PV.str)) none (some ((1 + j : Nat) : Int)) = some (.lst ((ws.take (1 + j)).map PV.str)) := by simp only [slcV, cutP_take, List.map_take]
    have s2 : slcV (.lst (ws.map PV.str)) (some ((1 + j : Nat) : Int)) none = some (.lst ((ws.drop (1 + j)).map PV.str)) := by simp only [slcV, cutP_drop, List.map_drop]
    refine w_nx (s_set0 (x_bin (x_bin (x_bin (x_slc (d := .lst (ws.map PV.str)) (x_var (v := .fz (.lst (ws.map .str))) (by rw [← hwd]; rfl)) bd_non (bd_one (x_var rfl)) rfl s1) (x_lst (ds := [d]) (es_cons0 (x_var rfl) es_nil0) rfl (by fail "lt")) (add_lst hA)) (x_slc (d := .lst (ws.map PV.str)) (x_var (v := .fz (.lst (ws.map .str))) (by rw [← hwd]; rfl)) (bd_one (x_var rfl)) bd_non rfl s2) (add_lst hB2)) (x_lst (ds := [.non]) (es_cons0 (x_cst rfl) es_nil0) rfl (by fail "lt")) a3) (by fail "lt")) ?_
    have e3 := cuts_bad2 (h := hp S2 E ++ F) (N := N) (ax := ax) (halls := halls) (ts := t0 :: ts) (ws := ws.take (1 + j)) (d := d) (rest := (ws.drop (1 + j)).map PV.str ++ [.non]) (fun w hw => by rw [hws]; exact List.mem_of_mem_take hw) (List.Sublist.nodup (List.take_sublist _ _) nd) hd.plain (fun s e hs => by
      rw [hws] at hs
      have := hb s e hs
      rw [this, ← hws, Nat.add_comm]
      simp) (by omega)
    have e1 := frozen (h := hp S2 E ++ F) (N := N) 2 (hd.tgd (t := [116, 105, 101])) (by omega)
    rw [frT_tgd] at e1
    refine w_ifF (t := false) (h1 := hp S2 E ++ F) (t_not0 (t := true) (tt_val (x_call (es_cons0 (x_call (es_cons0 (x_lam (xx_call (es_cons0 (x_var rfl) (es_cons0 (x_var rfl) es_nil0)) e3) rfl (cut_same rfl)) es_nil0) e1) (es_cons0 (x_tup (ds := [.str [116, 105, 101], frT d]) (es_cons0 (x_cst rfl) (es_cons0 (x_call (es_cons0 (x_var rfl) es_nil0) (frozen 1 hd (by omega))) es_nil0)) rfl (by fail "lt")) es_nil0)) (same_refl 2 hd.frD.tgd (by omega))) rfl)) rfl (w_aft (w_turn ⟨S2, _, _, _, rfl, rfl, ok2.mono (by simp; omega)⟩))
  · rintro e2 h2 ⟨S1, y8, y11, y12, rfl, rfl, ok1⟩
    exact hr S1 y8 y11 y12 (ok1.mono (by simp [odds]))
theorem law_true (ns : List Int) : ∃ h, run 2000 30 lawId [.fz (.scr ns)] [] = .ok (.fz (.bl true)) h := by
  apply law_of
  refine w_nx (s_set0 (x_call (es_cons0 (x_var rfl) es_nil0) (start ns (by omega))) (by fail "lt")) ?_
  refine w_for (mk := fun i : Nat => PV.int (i : Int)) (ks := List.range 4) (sr_rngM (m := 4) (x_cst rfl) (by omega)) (fun pre env h => ∃ (S : Sm) (E : Hm) (a2 a3 a4 a5 a6 a7 a8 a9 a10 a11 a12 : Option Vl), env = [some (.fz (.scr ns)), some (.rf 1), a2, a3, a4, a5, a6, a7, a8, a9, a10, a11, a12, none] ∧ h = hp S E ∧ Cl (hp S E) ∧ S.Ok (10000 * pre.length)) ?_ ?_ ?_
  · exact ⟨⟨ns, 0, 0, 11⟩, [], none, none, none, none, none, none, none, none, none, none, none, rfl, rfl, (hp0_ok ns).1, (hp0_ok ns).2⟩
  · rintro pre i post hk env h ⟨S, E, a2, a3, a4, a5, a6, a7, a8, a9, a10, a11, a12, rfl, rfl, hC, ok⟩
    have hi : pre.length < 4 := by
      have := congrArg List.length hk
      simp at this
      omega
    rw [← List.append_nil (hp S E)] at *
    refine ⟨_, tg_nm (by fail "lt"), ?_⟩
    obtain ⟨d, S1, e1, d0, d1, ok1⟩ := draw (E := E) (F := []) (N := 29) (m := 3) ok (by omega) (by decide) (by decide) (by omega)
    obtain ⟨dn, rfl⟩ := Int.eq_ofNat_of_zero_le d0
    have hC0 : ∀ S', Cl (hp S' E ++ []) := fun S' => Cl_hpF hC
    obtain ⟨names, ts, S2, e2, P, ok2⟩ := plan (E := E) (F := []) (N := 29) (ax := 1 + dn) (hl := 3) (mn := 5) (wd := 2) (by omega) (by omega) (by omega) (by omega) ok1 (by omega) (hC0 S1) (by omega)
    have K := P.net (by omega) (by omega) (by omega)
    refine w_nx (s_set0 (v := .fz (.int ((1 + dn : Nat) : Int))) (x_bin (x_cst rfl) (by fail "ev") rfl) (by fail "lt")) ?_
    generalize hax : 1 + dn = ax at *
    refine w_nx (s_set0 (x_call (es_cons0 (x_var rfl) (es_cons0 (x_var rfl) (es_cons0 (x_cst rfl) (es_cons0 (x_cst rfl) (es_cons0 (x_cst rfl) es_nil0))))) e2) (by fail "lt")) ?_
    have hax3 : ax = 1 ∨ ax = 2 ∨ ax = 3 := by omega
    have em := made (h := hp S2 E ++ []) (N := 29) K (hC0 S2) (by omega)
    refine w_nx (ss_par3 (vs := [.fz (netV ax names ts), .fz (.lst (wds ts))]) (h1 := hp S2 E ++ []) (es_cons0 (x_call (es_cons0 (x_var rfl) es_nil0) em) (es_cons0 (x_lc (ys := wds ts) (sr_fz (ds := ts.map row) (x_idx (x_var rfl) (x_cst rfl) rfl) rfl) ?_) es_nil0)) rfl) ?_
    · show _ = R.ok ((ts.map Tie.nm).map PV.str) _
      rw [List.map_map]
      exact lcN_map row (fun t => PV.str t.nm) _ ts fun t ht => ⟨tg_nm (by fail "lt"), tt_yes, frzR_ok (by fail "ev")⟩
    have e5 : binV 2 (.lst [.int 2]) (.int (ax : Int)) = some (.lst (fineV ax)) := rep_lst _ (by omega)
    have A5 : ∀ env h, (gx 29).ex (Ex.lst (Es.cons (Ex.cst (PV.int 2)) Es.nil)) env h = .ok (.fz (.lst [.int 2])) h := fun env h => x_lst (ds := [.int 2]) (es_cons0 (x_cst rfl) es_nil0) rfl (by fail "lt")
    generalize hQ : turn (gx 29) _ _ _ = Q0
    refine w_nx (s_set0 (x_bin (A5 _ _) (x_var rfl) e5) (by fail "lt")) ?_
    have sl : slcV (.lst (fineV ax)) (some 1) none = some (.lst ((fineV ax).drop 1)) := by
      show slcV (.lst (fineV ax)) (some ((1 : Nat) : Int)) none = _
      simp only [slcV, cutP_drop]
    have e6 : binV 0 (.lst (fineV ax)) (.lst [.int 1]) = some (.lst (fineV ax ++ [.int 1])) := add_lst (by simp [LIM]; omega)
    have e7 : ∀ x : PV, binV 0 (.lst ((fineV ax).drop 1)) (.lst [x]) = some (.lst ((fineV ax).drop 1 ++ [x])) := fun x => add_lst (by simp [LIM]; omega)
    have e8 := e7 (.int 0)
    have e9 := e7 (.int (-1))
    refine w_nx (s_set0 (v := .fz (.lst (someV ax))) (h1 := hp S2 E ++ [none]) (by fail "ev") (by fail "lt")) ?_
    have hC1 : Cl (hp S2 E ++ [none]) := by
      have := (hC0 S2).app (F := [none]) rfl
      rwa [List.append_nil] at this
    cases ts with
    | nil => exact absurd rfl P.t0
    | cons t0 ts =>
      refine loopA (ns := ns) (ax := ax) (halls := names) (ts := t0 :: ts) (x2 := some (.fz (.int (i : Int)))) (x11 := a11) (x12 := a12) hax3 hC1 (by omega) fun F1 y3 y8 hF1 => ?_
      refine loopB (by omega) fun y8 => loopC (by omega) (by omega) fun y8 => loopD (by omega) fun y8 => ?_
      have hh : hp S2 E ++ [none] ++ F1 ++ [none] ++ [none] ++ [none] = hp S2 E ++ ([none] ++ F1 ++ [none] ++ [none] ++ [none]) := by simp
      rw [hh]
      have hl := P.t1
      refine loopE (fun t ht => (P.t3 t ht).1) P.t2 (by omega) ok2 (by omega) (by omega) fun S3 y8 y11 y12 ok3 => ?_
      have e4 := ties (h := hp S3 E ++ ([none] ++ F1 ++ [none] ++ [none] ++ [none])) (N := 29) ax names (t0 :: ts) (by omega)
      refine w_ifF (t := false) (h1 := hp S3 E ++ ([none] ++ F1 ++ [none] ++ [none] ++ [none])) (t_cmp0 (x_meth (x_var rfl) rfl es_nil0 e4) (x_idx (x_var rfl) (x_cst rfl) rfl) ?_) rfl (w_aft ?_)
      · rw [cmp_ne_data _ _ (data_rows _) (data_rows _), eqvP_refl 60 _ (data_rows _)]
        rfl
      · rw [← hQ]
        refine w_turn ⟨S3, E ++ ([none] ++ F1 ++ [none] ++ [none] ++ [none]), _, _, _, _, _, _, _, _, _, _, _, rfl, rfl, ?_, ok3.mono (by simp; omega)⟩
        have := (hC0 S3).app (F := [none] ++ F1 ++ [none] ++ [none] ++ [none]) (noRef_app (noRef_app (noRef_app (noRef_app rfl hF1) rfl) rfl) rfl)
        rwa [List.append_nil] at this
  · rintro e2 h2 ⟨S, E, a2, a3, a4, a5, a6, a7, a8, a9, a10, a11, a12, rfl, rfl, hC, ok⟩
    have hd : Dt 1 (.lst [.int 1]) := dt_of _ _ rfl
    have e1 := box_way_bad (h := hp S E ++ [none]) (N := 29) (ax := 0) (halls := [[97]]) (ts := []) (d := .lst [.int 1]) rfl hd.plains rfl (by omega)
    refine w_nx (s_set0 (v := .fz (tgd [115, 105, 122, 101, 115] (.lst [.int 1]))) (h1 := hp S E) (x_lam (xx_call (es_cons0 (x_net (N := 29) (ax := 0) (halls := [[97]]) (ts := []) (h1 := hp S E) false rfl (by omega) (net1 (by decide)) hC (by fail "ev") rfl) (es_cons0 (by fail "ev") es_nil0)) e1) rfl (cut_cl rfl hC)) (by fail "lt")) ?_
    have e3 := frozen (h := hp S E) (N := 29) 2 (hd.tgd (t := [115, 105, 122, 101, 115])) (by omega)
    rw [frT_tgd] at e3
    exact w_ret (x_call (es_cons0 (x_call (es_cons0 (x_frz (x_var rfl) (frz_fz _ _)) es_nil0) e3) (es_cons0 (x_tup (ds := [.str [115, 105, 122, 101, 115], frT (.lst [.int 1])]) (es_cons0 (x_cst rfl) (es_cons0 (by fail "ev") es_nil0)) (by simp [fzs, frT, frTs]) (by fail "lt")) es_nil0)) (same_refl 2 hd.frD.tgd (by omega))) ⟨_, rfl⟩
end HV.k41

end

theorem PySem.Challenge.cw_repeatnets_k41_boxes_refused_holds : PySem.Challenge.rw_repeatnets_k41_boxes_refused.Holds :=
  HV.k41.holds fun ns _ => HV.k41.law_true ns
