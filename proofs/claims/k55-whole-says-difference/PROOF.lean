import PyProof.Rows.All
import Wide.All
import OpenK.AllK
import Wide.FinOn
import KE.KStateDown
import KE.DataCmp
import Lean
import HandS.ForMost
import HandS.Exc
import HandS.ExcOwn
import HandS.WordsExc
import HandS.CallSlots
import HandS.TupAny
import HandS.TupMul
import HandS.TupLe
import HandS.Deep
import HandS.Conv
import HandS.IsInst
import HandS.Flow
import HandS.Small
import HandS.TupLen
import HandS.Defaults
import HandS.SetKeys
import HandS.More
import HandS.ExcIs
import HandS.TryOnly
import PyProof.DictMoreH
import KE.SortKeyHeap
import HandS.SortKw
import HandS.Rev
import HandS.Zip
import HandS.SortInts
import HandS.Head0
import HandS.Head1
import HandS.Head2
import HandS.HeadEnd
import HandS.HeadHook1
import HandS.HeadHook2
import PySem.Challenge.RW_guesswide_k55_whole_says_difference
set_option Elab.async false
set_option linter.all false
set_option maxRecDepth 100000
set_option maxHeartbeats 4000000

/-! Core1: a small core language for Python defs, its values, its wp (a predicate transformer by recursion over the text). -/
namespace G
open PySem L2

/-! ### values -/
/-- a value that may be stored: tuples and frozen lists by value, what may change by its number in the heap -/
inductive D where
  | non | bl (b : Bool) | int (i : Int) | str (z : Str) | tup (xs : List D) | fz (xs : List D) | ref (n : Nat)
instance : Inhabited D := ⟨.non⟩
/-- an object that may change -/
inductive AO where
  | lst (xs : List D) | dK (kvs : List (Key × D)) | dT (kvs : List (List Key × D)) | ins (c : Nat) (fs : List (Str × D))
/-- what an expression gives: a value; an own local object, read; a caller's, read -/
inductive VV where
  | d (x : D) | tw (o : AO) | bw (o : AO)
/-- what a def gives: a value, or a new object that nobody else knows -/
inductive RR where
  | d (x : D) | mv (o : AO)
/-- what a slot holds -/
inductive Sl where
  | val (x : D) | own (o : AO) | bor (o : AO)
abbrev AH := List AO
abbrev Ev := List (Option Sl)
/-- an exception: its class, its fields -/
structure EX where
  c : Nat
  fs : List (Str × D)

def D.key : D → Option Key
  | .int i => some (.inl i)
  | .str z => some (.inr z)
  | _ => none
def keysOf : List D → Option (List Key)
  | [] => some []
  | x :: xs => match x.key, keysOf xs with
    | some k, some ks => some (k :: ks)
    | _, _ => none
def kD : Key → D
  | .inl i => .int i
  | .inr z => .str z
def D.keys : D → Option (List Key)
  | .tup xs => keysOf xs
  | _ => none
def gV {κ : Type} [DecidableEq κ] (kvs : List (κ × D)) (k : κ) : Option D := (kvs.find? fun kv => decide (kv.1 = k)).map (·.2)
def pV {κ : Type} [DecidableEq κ] (kvs : List (κ × D)) (k : κ) (v : D) : List (κ × D) :=
  if (kvs.any fun kv => decide (kv.1 = k)) = true then kvs.map (fun kv => if kv.1 = k then (kv.1, v) else kv) else kvs ++ [(k, v)]
/-- a look into a dict: none: the key is not of its kind -/
def AO.get : AO → D → Option (Option D)
  | .dK kvs, x => x.key.map fun k => gV kvs k
  | .dT kvs, x => x.keys.map fun k => gV kvs k
  | _, _ => none
def AO.put : AO → D → D → Option AO
  | .dK kvs, x, v => x.key.bind fun k => if kvs.length < sizeLine then some (.dK (pV kvs k v)) else none
  | .dT kvs, x, v => x.keys.bind fun k => if kvs.length < sizeLine then some (.dT (pV kvs k v)) else none
  | _, _, _ => none
def AO.keyList : AO → Option (List D)
  | .dK kvs => some (kvs.map fun kv => kD kv.1)
  | .dT kvs => some (kvs.map fun kv => .tup (kv.1.map kD))
  | _ => none
def AO.items : AO → Option (List D)
  | .dK kvs => some (kvs.map fun kv => .tup [kD kv.1, kv.2])
  | .dT kvs => some (kvs.map fun kv => .tup [.tup (kv.1.map kD), kv.2])
  | _ => none
def AO.isD : AO → Bool
  | .dK _ => true
  | .dT _ => true
  | _ => false
def AO.size : AO → Option Nat
  | .lst xs => some xs.length
  | .dK kvs => some kvs.length
  | .dT kvs => some kvs.length
  | _ => none

/-- the object that a value shows -/
def VV.obj (h : AH) : VV → Option AO
  | .d (.fz xs) => some (.lst xs)
  | .d (.ref n) => h[n]?
  | .d _ => none
  | .tw o => some o
  | .bw o => some o
def AO.list : AO → Option (List D)
  | .lst xs => some xs
  | _ => none
/-- the items of a list or a tuple -/
def VV.seq (h : AH) : VV → Option (List D)
  | .d (.tup xs) => some xs
  | v => (v.obj h).bind AO.list
def VV.len (h : AH) : VV → Option Nat
  | .d (.tup xs) => some xs.length
  | .d (.str z) => if z.length ≤ sizeLine then some z.length else none
  | v => (v.obj h).bind AO.size

/-! ### equality -/
mutual
def D.eqv : D → D → Bool
  | .non, .non => true
  | .bl a, .bl b => a == b
  | .bl a, .int j => (if a then 1 else 0) == j
  | .int i, .bl b => i == (if b then 1 else 0)
  | .int i, .int j => i == j
  | .str x, .str y => x == y
  | .fz xs, .fz ys => D.eqvs xs ys
  | .tup xs, .tup ys => D.eqvs xs ys
  | _, _ => false
def D.eqvs : List D → List D → Bool
  | [], [] => true
  | x :: xs, y :: ys => D.eqv x y && D.eqvs xs ys
  | _, _ => false
end
mutual
/-- the two can be put in an order -/
def D.alike : D → D → Bool
  | .bl _, .bl _ => true
  | .int _, .int _ => true
  | .fz xs, .fz ys => D.alikes xs ys
  | .tup xs, .tup ys => D.alikes xs ys
  | _, _ => false
def D.alikes : List D → List D → Bool
  | x :: xs, y :: ys => D.alike x y && D.alikes xs ys
  | [], _ => true
  | _ :: _, [] => true
end
mutual
def D.ltd : D → D → Bool
  | .bl a, .bl b => !a && b
  | .int i, .int j => decide (i < j)
  | .fz xs, .fz ys => D.ltds xs ys
  | .tup xs, .tup ys => D.ltds xs ys
  | _, _ => false
def D.ltds : List D → List D → Bool
  | [], [] => false
  | [], _ :: _ => true
  | _ :: _, [] => false
  | x :: xs, y :: ys => if D.eqv x y = true then D.ltds xs ys else D.ltd x y
end
mutual
/-- no number of the heap within, texts of signs, nested to n at most -/
def D.fla (n : Nat) : D → Bool
  | .non => true
  | .bl _ => true
  | .int _ => true
  | .str z => z.cps.all (· < 0x110000)
  | .tup xs => match n with
    | 0 => false
    | m + 1 => D.flas m xs
  | .fz xs => match n with
    | 0 => false
    | m + 1 => D.flas m xs
  | .ref _ => false
def D.flas (n : Nat) : List D → Bool
  | [] => true
  | x :: xs => D.fla n x && D.flas n xs
end
/-- as data: a list's items by value -/
def VV.dat (h : AH) : VV → Option D
  | .d (.ref n) => (h[n]?).bind fun o => o.list.map .fz
  | .d x => some x
  | .tw o => o.list.map .fz
  | .bw o => o.list.map .fz

/-! ### the text -/
inductive BO where
  | add | sub | mul | fdiv | mod | pow
inductive CO where
  | eq | ne | lt | le | gt | ge | isN | notN | isIn | notIn | ltD | leD | gtD | geD | isB | notB
/-- built-in functions -/
inductive BI where
  | len | abs | min2 | max2 | sumL | maxL | minL | allL | anyL | intOf
  | isI (T : String)
inductive CG where
  | nm (i : Nat) | tp (is : List Nat)
mutual
inductive CE where
  | var (i : Nat) | int (i : Int) | bl (b : Bool) | non | str (z : Str) | glob (j : Nat)
  | bin (o : BO) (a b : CE) | neg (a : CE)
  | cmp (o : CO) (a b : CE) | chain (o o' : CO) (a b c : CE)
  | andV (a b : CE) | orV (a b : CE) | notV (a : CE)
  | ite (t : CT) (a b : CE)
  | tup (es : CEs) | ix (a b : CE) | slc (a : CE) (lo hi : CO2)
  | call (f : Nat) (es : CEs) | bi (b : BI) (es : CEs)
  | tupOf (l : LE) | tupE (a : CE) | fzOf (l : LE) | tupRev (a : CE)
  | getD (o k : CE) | getD2 (o k d : CE)
  | newL (l : LE) | newD (t : Bool) | sdf (o k v : CE)
  | appX (o a : CE) | extX (o : CE) (l : LE) | clrX (o : CE) | popX (o : CE) | popAt (o i : CE) | insX (o i a : CE)
  | idx (o a : CE) | divm (a b : CE)
  | fld (k : Nat) (o : CE) (f : Str) | meth (c : Nat) (m : Str) (f : Nat) (o : CE) (es : CEs) | mk (c f : Nat) (es : CEs)
inductive CO2 where
  | no | so (a : CE)
inductive CEs where
  | nil | cons (a : CE) (r : CEs)
inductive CT where
  | e (a : CE) | andT (a b : CT) | orT (a b : CT) | notT (a : CT)
inductive CTs where
  | nil | cons (a : CT) (r : CTs)
/-- what makes a new list -/
inductive LE where
  | lc (it : CI) (g : CG) (ifs : CTs) (e : CE)
  | dsp (es : CEs)
  | listE (a : CE) | listRg (a : CE) | listRg2 (a b : CE) | items (a : CE)
  | cat (a b : LE) | rep (a : LE) (b : CE) | catE (a b : CE)
  | slcL (a : CE) (lo hi : CO2)
  | sortK (f : Nat) (a : CE) | srt (a : CE)
/-- what a loop walks -/
inductive CI where
  | val (a : CE) | rg1 (a : CE) | rg2 (a b : CE)
  | enum (a : CE) | zip (a b : CE)
end
/-- in an except suite -/
inductive EE where
  | bl (b : Bool) | non | str (z : Str) | isE (l : List Nat) (x : Str) | notE (a : EE) | andE (a b : EE)
inductive EH where
  | asg (i : Nat) (e : EE) | ret (e : EE)
mutual
inductive CS where
  | asg (g : CG) (e : CE)
  | asgO (i : Nat) (l : LE)
  | asgD (i : Nat)
  | asgC (i : Nat) (f : Nat) (es : CEs)
  | aug (i : Nat) (o : BO) (e : CE)
  | setix (i : Nat) (k e : CE)
  | app (i : Nat) (e : CE)
  | ext (i : Nat) (l : LE) | extV (i j : Nat)
  | clr (i : Nat)
  | exp (e : CE)
  | ret (e : CE) | retM (i : Nat) | retN | retL (l : LE)
  | exte (i : Nat) (e : CE)
  | forO (g : CG) (i : Nat) (a : CSs)
  | asgV (i j : Nat)
  | ite (t : CT) (a b : CSs)
  | whl (t : CT) (a : CSs)
  | for (g : CG) (it : CI) (a : CSs)
  | brk | cnt | pas
  | frz (i : Nat)
  | asgD1 (i : Nat) (k v : CE)
  | asg2 (i j : Nat) (a b : CE)
  | setixE (o k e : CE)
  | setf (k : Nat) (o : CE) (f : Str) (e : CE)
  | raise (c : Nat)
  | tryX (k : Nat) (l : List Nat) (x : Str) (n : Option Nat) (a : CSs) (s : EH)
inductive CSs where
  | nil | cons (a : CS) (r : CSs)
end

/-! ### what operators do -/
def cDiv (j : Int) : Prop := 0 < j ∧ j < 1073741824
def cMul (i j : Int) : Prop := (-(2 ^ 64) < i ∧ i < 2 ^ 64) ∨ (-(2 ^ 64) < j ∧ j < 2 ^ 64)
def cPow (i j : Int) : Prop := 0 ≤ j ∧ j ≤ 1000000 ∧ i.natAbs < 2 ^ 64
def binW (o : BO) (x y : D) (Q : D → Prop) : Prop := match o, x, y with
  | .add, .int i, .int j => Q (.int (i + j))
  | .add, .str a, .str b => a.length + b.length ≤ sizeLine ∧ Q (.str (a ++ b))
  | .add, .tup a, .tup b => a.length + b.length ≤ sizeLine ∧ Q (.tup (a ++ b))
  | .sub, .int i, .int j => Q (.int (i - j))
  | .mul, .int i, .int j => cMul i j ∧ Q (.int (i * j))
  | .mul, .tup a, .int k => a ≠ [] ∧ -(2 ^ 63) ≤ k ∧ k ≤ 1000 ∧ a.length ≤ 1000 ∧ Q (.tup (List.replicate k.toNat a).flatten)
  | .fdiv, .int i, .int j => cDiv j ∧ Q (.int (i / j))
  | .mod, .int i, .int j => 0 < j ∧ Q (.int (i % j))
  | .pow, .int i, .int j => cPow i j ∧ Q (.int (i ^ j.toNat))
  | _, _, _ => False
def augW (o : BO) (x y : D) (Q : D → Prop) : Prop := match o, x, y with
  | .add, .int i, .int j => Q (.int (i + j))
  | .add, .str a, .str b => a.length + b.length ≤ sizeLine ∧ Q (.str (a ++ b))
  | .sub, .int i, .int j => Q (.int (i - j))
  | .mul, .int i, .int j => cMul i j ∧ Q (.int (i * j))
  | _, _, _ => False
def lexLe : List Int → List Int → Bool
  | [], _ => true
  | _ :: _, [] => false
  | x :: xs, y :: ys => if x = y then lexLe xs ys else decide (x < y)
def intsOf : List D → Option (List Int)
  | [] => some []
  | .int i :: r => (intsOf r).map (i :: ·)
  | _ :: _ => none
def boolsOf : List D → Option (List Bool)
  | [] => some []
  | .bl i :: r => (boolsOf r).map (i :: ·)
  | _ :: _ => none
mutual
/-- a datum as it is read through the heap's lists -/
inductive DV (h : AH) : D → D → Prop where
  | flat {d : D} : DV h d d
  | ref {n : Nat} {xs ys : List D} : h[n]? = some (.lst xs) → DVs h xs ys → DV h (.ref n) (.fz ys)
  | tup {xs ys : List D} : DVs h xs ys → DV h (.tup xs) (.tup ys)
  | fz {xs ys : List D} : DVs h xs ys → DV h (.fz xs) (.fz ys)
inductive DVs (h : AH) : List D → List D → Prop where
  | nil : DVs h [] []
  | cons {x y : D} {xs ys : List D} : DV h x y → DVs h xs ys → DVs h (x :: xs) (y :: ys)
end
def VV.dv (h : AH) (x : VV) (a : D) : Prop := x.dat h = some a ∨ match x with
  | .d w => DV h w a
  | .tw (.lst xs) => ∃ ys, a = .fz ys ∧ DVs h xs ys
  | .bw (.lst xs) => ∃ ys, a = .fz ys ∧ DVs h xs ys
  | _ => False
def cmpW (o : CO) (h : AH) (x y : VV) (Q : D → Prop) : Prop := match o with
  | .eq => ∃ a b, x.dv h a ∧ y.dv h b ∧ a.fla 60 = true ∧ b.fla 60 = true ∧ Q (.bl (D.eqv a b))
  | .ne => ∃ a b, x.dv h a ∧ y.dv h b ∧ a.fla 60 = true ∧ b.fla 60 = true ∧ Q (.bl (!D.eqv a b))
  | .lt => ∃ i j, x = .d (.int i) ∧ y = .d (.int j) ∧ Q (.bl (decide (i < j)))
  | .le => ∃ i j, x = .d (.int i) ∧ y = .d (.int j) ∧ Q (.bl (decide (i ≤ j)))
  | .gt => ∃ i j, x = .d (.int i) ∧ y = .d (.int j) ∧ Q (.bl (decide (j < i)))
  | .ge => ∃ i j, x = .d (.int i) ∧ y = .d (.int j) ∧ Q (.bl (decide (j ≤ i)))
  | .ltD => ∃ a b, x.dat h = some a ∧ y.dat h = some b ∧ a.fla 60 = true ∧ b.fla 60 = true ∧ D.alike a b = true ∧ Q (.bl (D.ltd a b))
  | .leD => ∃ a b, x.dat h = some a ∧ y.dat h = some b ∧ a.fla 60 = true ∧ b.fla 60 = true ∧ D.alike a b = true ∧ Q (.bl (!D.ltd b a))
  | .gtD => ∃ a b, x.dat h = some a ∧ y.dat h = some b ∧ a.fla 60 = true ∧ b.fla 60 = true ∧ D.alike a b = true ∧ Q (.bl (D.ltd b a))
  | .geD => ∃ a b, x.dat h = some a ∧ y.dat h = some b ∧ a.fla 60 = true ∧ b.fla 60 = true ∧ D.alike a b = true ∧ Q (.bl (!D.ltd a b))
  | .isN => y = .d .non ∧ Q (.bl (match x with | .d .non => true | _ => false))
  | .notN => y = .d .non ∧ Q (.bl (match x with | .d .non => false | _ => true))
  | .isB => ∃ a b, x = .d (.bl a) ∧ y = .d (.bl b) ∧ Q (.bl (decide (a = b)))
  | .notB => ∃ a b, x = .d (.bl a) ∧ y = .d (.bl b) ∧ Q (.bl (!decide (a = b)))
  | .isIn => ∃ a, x = .d a ∧ ((∃ o r, y.obj h = some o ∧ o.get a = some r ∧ Q (.bl r.isSome)) ∨
      ∃ xs, (y.obj h).bind AO.list = some xs ∧ a.fla 60 = true ∧ D.flas 59 xs = true ∧ Q (.bl (xs.any fun z => D.eqv z a)))
  | .notIn => ∃ a, x = .d a ∧ ((∃ o r, y.obj h = some o ∧ o.get a = some r ∧ Q (.bl (!r.isSome))) ∨
      ∃ xs, (y.obj h).bind AO.list = some xs ∧ a.fla 60 = true ∧ D.flas 59 xs = true ∧ Q (.bl (!xs.any fun z => D.eqv z a)))

def EE.val (c : Nat) : EE → D
  | .bl b => .bl b
  | .non => .non
  | .str z => .str z
  | .isE l _ => .bl (l.contains c)
  | .notE a => match EE.val c a with
    | .bl b => .bl (!b)
    | _ => .non
  | .andE a b => match EE.val c a with
    | .bl true => EE.val c b
    | _ => .bl false
/-- a list's place in the heap -/
def hL (h : AH) (x : VV) : Option (Nat × List D) := match x with
  | .d (.ref n) => match h[n]? with
    | some (.lst xs) => some (n, xs)
    | _ => none
  | _ => none
/-- an object is made -/
def newW (h : AH) (o : AO) (Q : VV → AH → Prop) : Prop := Q (.d (.ref h.length)) (h ++ [o])
def putFD (f : Str) (v : D) : List (Str × D) → List (Str × D)
  | [] => [(f, v)]
  | q :: r => if q.1 = f then (q.1, v) :: r else q :: putFD f v r
def setdW (h : AH) (x y z : VV) (Q : VV → AH → Prop) : Prop := ∃ n o k v r, x = .d (.ref n) ∧ h[n]? = some o ∧ y = .d k ∧ z = .d v ∧ o.get k = some r ∧ (∃ m, o.size = some m ∧ m < sizeLine) ∧
  match r with
  | some w => Q (.d w) h
  | none => ∃ o', o.put k v = some o' ∧ Q (.d v) (h.set n o')
def idxW (h : AH) (x y : VV) (Q : D → Prop) : Prop := ∃ xs a j, (x.obj h).bind AO.list = some xs ∧ y = .d a ∧ a.fla 60 = true ∧ D.flas 59 xs = true ∧ (xs.findIdx? fun z => D.eqv z a) = some j ∧ Q (.int (j : Nat))
def ixD (xs : List D) (i : Int) : Option D := atI xs i
def ixW (h : AH) (x y : VV) (Q : D → Prop) : Prop :=
  (∃ xs i v, x.seq h = some xs ∧ y = .d (.int i) ∧ atI xs i = some v ∧ Q v) ∨
  (∃ o k v, x.obj h = some o ∧ y = .d k ∧ o.get k = some (some v) ∧ Q v)
/-- a slice -/
def cutD (xs : List D) (lo hi : Option Int) : List D := (xs.drop (HT.sIx xs.length 0 lo)).take (HT.sIx xs.length xs.length hi - HT.sIx xs.length 0 lo)
def isT (T : String) (h : AH) (v : VV) : Option Bool := match v with
  | .d (.int _) => some (T == "int")
  | .d (.bl _) => some (T == "bool" || T == "int")
  | .d .non => some false
  | .d (.str _) => some (T == "str")
  | .d (.tup _) => some (T == "tuple")
  | .d (.fz _) => some (T == "list")
  | .d (.ref n) => match h[n]? with
    | some (.lst _) => some (T == "list")
    | _ => none
  | .tw (.lst _) => some (T == "list")
  | .bw (.lst _) => some (T == "list")
  | _ => none
def sumI : List Int → Int
  | [] => 0
  | x :: xs => x + sumI xs
def maxI : Int → List Int → Int
  | m, [] => m
  | m, x :: xs => maxI (if m < x then x else m) xs
def minI : Int → List Int → Int
  | m, [] => m
  | m, x :: xs => minI (if x < m then x else m) xs
def biW (b : BI) (h : AH) (vs : List VV) (Q : D → Prop) : Prop := match b, vs with
  | .len, [v] => ∃ n, v.len h = some n ∧ Q (.int n)
  | .abs, [.d (.int i)] => Q (.int (if i < 0 then -i else i))
  | .min2, [.d (.int i), .d (.int j)] => Q (.int (if j < i then j else i))
  | .max2, [.d (.int i), .d (.int j)] => Q (.int (if i < j then j else i))
  | .sumL, [v] => ∃ xs ns, (v.obj h).bind AO.list = some xs ∧ intsOf xs = some ns ∧ Q (.int ns.sum)
  | .maxL, [v] => ∃ xs n ns, (v.obj h).bind AO.list = some xs ∧ intsOf xs = some (n :: ns) ∧ Q (.int (maxI n ns))
  | .minL, [v] => ∃ xs n ns, (v.obj h).bind AO.list = some xs ∧ intsOf xs = some (n :: ns) ∧ Q (.int (minI n ns))
  | .allL, [v] => ∃ xs bs, (v.obj h).bind AO.list = some xs ∧ boolsOf xs = some bs ∧ Q (.bl (bs.all id))
  | .anyL, [v] => ∃ xs bs, (v.obj h).bind AO.list = some xs ∧ boolsOf xs = some bs ∧ Q (.bl (bs.any id))
  | .intOf, [.d (.int i)] => Q (.int i)
  | .intOf, [.d (.bl b)] => Q (.int (if b then 1 else 0))
  | .isI T, [v] => ∃ b, isT T h v = some b ∧ Q (.bl b)
  | _, _ => False
/-- truth -/
def VV.tru (h : AH) : VV → Option Bool
  | .d .non => some false
  | .d (.bl b) => some b
  | .d (.int i) => some (i != 0)
  | .d (.str z) => if z.length ≤ sizeLine then some ((z.length : Int) != 0) else none
  | .d (.tup xs) => some (!xs.isEmpty)
  | v => ((v.obj h).bind AO.list).map fun xs => !xs.isEmpty

/-! ### wp -/
def toArg : VV → VV
  | .tw o => .bw o
  | v => v
def argSl : VV → Option Sl
  | .d x => some (.val x)
  | .tw o => some (.bor o)
  | .bw o => some (.bor o)
def slV : Sl → VV
  | .val x => .d x
  | .own o => .tw o
  | .bor o => .bw o
/-- a def, called: its number, the arguments, the heap, what is wanted of its end, of an exception -/
abbrev GM := Nat → List VV → AH → (RR → AH → Prop) → (EX → AH → Prop) → Prop
/-- a called def's value, read -/
def RR.rd (Q : VV → AH → Prop) : RR → AH → Prop
  | .d x, h => Q (.d x) h
  | .mv (.lst xs), h => Q (.d (.fz xs)) h
  | .mv _, _ => False
def wipeE (env : Ev) : List Nat → Ev
  | [] => env
  | i :: is => (wipeE env is).set i none
def setsE : List Nat → List D → Ev → Ev
  | i :: is, x :: xs, env => setsE is xs (env.set i (some (.val x)))
  | _, _, env => env
def CG.slots : CG → List Nat
  | .nm i => [i]
  | .tp is => is
/-- a target takes a value -/
def gW (g : CG) (x : D) (env : Ev) (Q : Ev → Prop) : Prop := match g with
  | .nm i => Q (env.set i (some (.val x)))
  | .tp is => ∃ xs, x = .tup xs ∧ xs.length = is.length ∧ Q (setsE is xs env)
def rgD (lo : Int) (n : Nat) : List D := (List.range n).map fun (k : Nat) => D.int (lo + (k : Int))
def enumD (xs : List D) : List D := xs.mapIdx fun i x => D.tup [.int (i : Int), x]
def zipD : List D → List D → List D
  | x :: xs, y :: ys => .tup [x, y] :: zipD xs ys
  | _, _ => []
/-- the turns of a comprehension -/
def lcW (guard : AH → Prop) (env : Ev) (g : CG) (T : Ev → AH → (Bool → AH → Prop) → Prop) (E : Ev → AH → (VV → AH → Prop) → Prop) : List D → List D → AH → (List D → AH → Prop) → Prop
  | [], acc, h, Q => guard h ∧ Q acc h
  | x :: xs, acc, h, Q => guard h ∧ gW g x env fun env' => T env' h fun b h1 =>
      if b = true then E env' h1 fun v h2 => ∃ y, v = .d y ∧ acc.length < sizeLine ∧ lcW guard env g T E xs (acc ++ [y]) h2 Q else lcW guard env g T E xs acc h1 Q
/-- the keys of the items, by calls of the def f -/
def keysW (Γ : GM) (f : Nat) : List D → List D → AH → (List D → AH → Prop) → Prop
  | [], acc, h, Q => Q acc h
  | x :: xs, acc, h, Q => Γ (f + 1000) [.d x] h (fun r h' => ∃ k, r = .d k ∧ keysW Γ f xs (acc ++ [k]) h' Q) (fun _ _ => False)
/-- keys that can be sorted: tuples with an item at least, alike two by two -/
def srtOk (ks : List D) : Prop := (∀ k ∈ ks, k.fla 60 = true ∧ ∃ y r, k = .tup (y :: r)) ∧ ∀ k ∈ ks, ∀ k' ∈ ks, D.alike k k' = true
def sortD (xs ks : List D) : List D := ((xs.zip ks).mergeSort fun p q => !D.ltd q.2 p.2).map (·.1)
mutual
def wpE (Γ : GM) (cs : Nat → Option D) : CE → Ev → AH → (VV → AH → Prop) → (EX → AH → Prop) → Prop
  | .var i, env, h, Q, _ => ∃ s, env[i]? = some (some s) ∧ Q (slV s) h
  | .int i, _, h, Q, _ => Q (.d (.int i)) h
  | .bl b, _, h, Q, _ => Q (.d (.bl b)) h
  | .non, _, h, Q, _ => Q (.d .non) h
  | .str z, _, h, Q, _ => Q (.d (.str z)) h
  | .glob j, _, h, Q, _ => ∃ x, cs j = some x ∧ Q (.d x) h
  | .bin o a b, env, h, Q, X => wpE Γ cs a env h (fun x h1 => wpE Γ cs b env h1 (fun y h2 => ∃ u v, x = .d u ∧ y = .d v ∧ binW o u v fun z => Q (.d z) h2) X) X
  | .neg a, env, h, Q, X => wpE Γ cs a env h (fun x h1 => ∃ i, x = .d (.int i) ∧ Q (.d (.int (-i))) h1) X
  | .cmp o a b, env, h, Q, X => wpE Γ cs a env h (fun x h1 => wpE Γ cs b env h1 (fun y h2 => cmpW o h2 x y fun z => Q (.d z) h2) X) X
  | .chain o o' a b c, env, h, Q, X => wpE Γ cs a env h (fun x h1 => wpE Γ cs b env h1 (fun y h2 => cmpW o h2 x y fun z =>
      ∃ k, z = .bl k ∧ if k = true then wpE Γ cs c env h2 (fun u h3 => cmpW o' h3 y u fun z => Q (.d z) h3) X else Q (.d (.bl false)) h2) X) X
  | .andV a b, env, h, Q, X => wpE Γ cs a env h (fun x h1 => ∃ k, x = .d (.bl k) ∧ if k = true then wpE Γ cs b env h1 Q X else Q (.d (.bl false)) h1) X
  | .orV a b, env, h, Q, X => wpE Γ cs a env h (fun x h1 => ∃ k, x = .d (.bl k) ∧ if k = true then Q (.d (.bl true)) h1 else wpE Γ cs b env h1 Q X) X
  | .notV a, env, h, Q, X => wpE Γ cs a env h (fun x h1 => ∃ b, x.tru h1 = some b ∧ Q (.d (.bl (!b))) h1) X
  | .ite t a b, env, h, Q, X => wpT Γ cs t env h (fun k h1 => if k = true then wpE Γ cs a env h1 Q X else wpE Γ cs b env h1 Q X) X
  | .tup es, env, h, Q, X => wpEs Γ cs es env h (fun vs h1 => ∃ xs, vs = xs.map VV.d ∧ xs.length ≤ sizeLine ∧ Q (.d (.tup xs)) h1) X
  | .ix a b, env, h, Q, X => wpE Γ cs a env h (fun x h1 => wpE Γ cs b env h1 (fun y h2 => ixW h2 x y fun z => Q (.d z) h2) X) X
  | .slc a lo hi, env, h, Q, X => wpE Γ cs a env h (fun x h1 => wpO Γ cs lo env h1 (fun i h2 => wpO Γ cs hi env h2 (fun j h3 => ∃ xs, x = .d (.tup xs) ∧ Q (.d (.tup (cutD xs i j))) h3) X) X) X
  | .call f es, env, h, Q, X => wpEs Γ cs es env h (fun vs h1 => Γ f (vs.map toArg) h1 (RR.rd Q) X) X
  | .bi b es, env, h, Q, X => wpEs Γ cs es env h (fun vs h1 => biW b h1 vs fun z => Q (.d z) h1) X
  | .tupOf l, env, h, Q, X => wpL Γ cs l env h (fun xs h1 => Q (.d (.tup xs)) h1) X
  | .tupE a, env, h, Q, X => wpE Γ cs a env h (fun x h1 => ∃ xs, x.seq h1 = some xs ∧ Q (.d (.tup xs)) h1) X
  | .tupRev a, env, h, Q, X => wpE Γ cs a env h (fun x h1 => ∃ xs, (x.obj h1).bind AO.list = some xs ∧ Q (.d (.tup xs.reverse)) h1) X
  | .fzOf l, env, h, Q, X => wpL Γ cs l env h (fun xs h1 => Q (.d (.fz xs)) h1) X
  | .getD o k, env, h, Q, X => wpE Γ cs o env h (fun x h1 => (∃ ob, x.obj h1 = some ob ∧ ob.isD = true) ∧ wpE Γ cs k env h1 (fun y h2 => ∃ a u r, x.obj h2 = some a ∧ y = .d u ∧ a.get u = some r ∧ Q (.d (r.getD .non)) h2) X) X
  | .getD2 o k d, env, h, Q, X => wpE Γ cs o env h (fun x h1 => (∃ ob, x.obj h1 = some ob ∧ ob.isD = true) ∧ wpE Γ cs k env h1 (fun y h2 => wpE Γ cs d env h2 (fun z h3 => ∃ a u w r, x.obj h3 = some a ∧ y = .d u ∧ z = .d w ∧ a.get u = some r ∧ Q (.d (r.getD w)) h3) X) X) X
  | .newL l, env, h, Q, X => wpL Γ cs l env h (fun xs h1 => newW h1 (.lst xs) Q) X
  | .newD t, _, h, Q, _ => newW h (if t = true then .dT [] else .dK []) Q
  | .sdf o k v, env, h, Q, X => wpE Γ cs o env h (fun x h1 => (∃ ob, x.obj h1 = some ob ∧ ob.isD = true) ∧ wpE Γ cs k env h1 (fun y h2 => wpE Γ cs v env h2 (fun z h3 => setdW h3 x y z Q) X) X) X
  | .appX o a, env, h, Q, X => wpE Γ cs o env h (fun x h1 => (∃ n xs, hL h1 x = some (n, xs)) ∧ wpE Γ cs a env h1 (fun y h2 => ∃ n xs v, hL h2 x = some (n, xs) ∧ y = .d v ∧ xs.length < sizeLine ∧ Q (.d .non) (h2.set n (.lst (xs ++ [v])))) X) X
  | .extX o l, env, h, Q, X => wpE Γ cs o env h (fun x h1 => (∃ n xs, hL h1 x = some (n, xs)) ∧ wpL Γ cs l env h1 (fun ys h2 => ∃ n xs, hL h2 x = some (n, xs) ∧ xs.length + ys.length ≤ sizeLine ∧ Q (.d .non) (h2.set n (.lst (xs ++ ys)))) X) X
  | .clrX o, env, h, Q, X => wpE Γ cs o env h (fun x h1 => ∃ n xs, hL h1 x = some (n, xs) ∧ Q (.d .non) (h1.set n (.lst []))) X
  | .popX o, env, h, Q, X => wpE Γ cs o env h (fun x h1 => ∃ n xs v, hL h1 x = some (n, xs) ∧ xs[xs.length - 1]? = some v ∧ Q (.d v) (h1.set n (.lst xs.dropLast))) X
  | .popAt o i, env, h, Q, X => wpE Γ cs o env h (fun x h1 => (∃ n xs, hL h1 x = some (n, xs)) ∧ wpE Γ cs i env h1 (fun y h2 => ∃ n xs j k v, hL h2 x = some (n, xs) ∧ y = .d (.int j) ∧ -(2 ^ 63) ≤ j ∧ j < 2 ^ 63 ∧ seqIndex? j xs.length = some k ∧ xs[k]? = some v ∧ Q (.d v) (h2.set n (.lst (xs.eraseIdx k)))) X) X
  | .insX o i a, env, h, Q, X => wpE Γ cs o env h (fun x h1 => (∃ n xs, hL h1 x = some (n, xs)) ∧ wpE Γ cs i env h1 (fun y h2 => wpE Γ cs a env h2 (fun z h3 => ∃ n xs j v, hL h3 x = some (n, xs) ∧ y = .d (.int j) ∧ z = .d v ∧ 0 ≤ j ∧ j < 2 ^ 63 ∧ xs.length < sizeLine ∧ Q (.d .non) (h3.set n (.lst (xs.take j.toNat ++ v :: xs.drop j.toNat)))) X) X) X
  | .idx o a, env, h, Q, X => wpE Γ cs o env h (fun x h1 => (∃ xs, (x.obj h1).bind AO.list = some xs) ∧ wpE Γ cs a env h1 (fun y h2 => idxW h2 x y fun z => Q (.d z) h2) X) X
  | .divm a b, env, h, Q, X => wpE Γ cs a env h (fun x h1 => wpE Γ cs b env h1 (fun y h2 => ∃ i j, x = .d (.int i) ∧ y = .d (.int j) ∧ cDiv j ∧ Q (.d (.tup [.int (i / j), .int (i % j)])) h2) X) X
  | .fld k o f, env, h, Q, X => wpE Γ cs o env h (fun x h1 => ∃ n c fs d, x = .d (.ref n) ∧ h1[n]? = some (.ins c fs) ∧ c < k ∧ fs.lookup f = some d ∧ Q (.d d) h1) X
  | .meth c m f o es, env, h, Q, X => wpE Γ cs o env h (fun x h1 => ∃ n fs, x = .d (.ref n) ∧ h1[n]? = some (.ins c fs) ∧ fs.lookup m = none ∧ wpEs Γ cs es env h1 (fun vs h2 => Γ f (x :: vs.map toArg) h2 (RR.rd Q) X) X) X
  | .mk c f es, env, h, Q, X => wpEs Γ cs es env h (fun vs h1 => Γ (f + 1000) (.d (.ref h1.length) :: vs.map toArg) (h1 ++ [.ins c []]) (fun r h2 => r = .d .non ∧ Q (.d (.ref h1.length)) h2) X) X
def wpO (Γ : GM) (cs : Nat → Option D) : CO2 → Ev → AH → (Option Int → AH → Prop) → (EX → AH → Prop) → Prop
  | .no, _, h, Q, _ => Q none h
  | .so a, env, h, Q, X => wpE Γ cs a env h (fun x h1 => ∃ i, x = .d (.int i) ∧ Q (some i) h1) X
def wpEs (Γ : GM) (cs : Nat → Option D) : CEs → Ev → AH → (List VV → AH → Prop) → (EX → AH → Prop) → Prop
  | .nil, _, h, Q, _ => Q [] h
  | .cons a r, env, h, Q, X => wpE Γ cs a env h (fun x h1 => wpEs Γ cs r env h1 (fun xs h2 => Q (x :: xs) h2) X) X
def wpT (Γ : GM) (cs : Nat → Option D) : CT → Ev → AH → (Bool → AH → Prop) → (EX → AH → Prop) → Prop
  | .e a, env, h, Q, X => wpE Γ cs a env h (fun x h1 => ∃ b, x.tru h1 = some b ∧ Q b h1) X
  | .andT a b, env, h, Q, X => wpT Γ cs a env h (fun k h1 => if k = true then wpT Γ cs b env h1 Q X else Q false h1) X
  | .orT a b, env, h, Q, X => wpT Γ cs a env h (fun k h1 => if k = true then Q true h1 else wpT Γ cs b env h1 Q X) X
  | .notT a, env, h, Q, X => wpT Γ cs a env h (fun k h1 => Q (!k) h1) X
def wpTs (Γ : GM) (cs : Nat → Option D) : CTs → Ev → AH → (Bool → AH → Prop) → (EX → AH → Prop) → Prop
  | .nil, _, h, Q, _ => Q true h
  | .cons a r, env, h, Q, X => wpT Γ cs a env h (fun k h1 => if k = true then wpTs Γ cs r env h1 Q X else Q false h1) X
def wpL (Γ : GM) (cs : Nat → Option D) : LE → Ev → AH → (List D → AH → Prop) → (EX → AH → Prop) → Prop
  | .lc it g ifs e, env, h, Q, X => wpI Γ cs it true env h (fun xs guard h1 =>
      lcW guard (wipeE env g.slots) g (fun env' h Q => wpTs Γ cs ifs env' h Q fun _ _ => False) (fun env' h Q => wpE Γ cs e env' h Q fun _ _ => False) xs [] h1 Q) X
  | .dsp es, env, h, Q, X => wpEs Γ cs es env h (fun vs h1 => ∃ xs, vs = xs.map VV.d ∧ xs.length ≤ sizeLine ∧ Q xs h1) X
  | .listE a, env, h, Q, X => wpE Γ cs a env h (fun x h1 => (∃ xs, x.seq h1 = some xs ∧ Q xs h1) ∨ ∃ o xs, x.obj h1 = some o ∧ o.keyList = some xs ∧ Q xs h1) X
  | .listRg a, env, h, Q, X => wpE Γ cs a env h (fun x h1 => ∃ i, x = .d (.int i) ∧ 0 ≤ i ∧ i ≤ 16777216 ∧ Q (rgD 0 i.toNat) h1) X
  | .listRg2 a b, env, h, Q, X => wpE Γ cs a env h (fun x h1 => wpE Γ cs b env h1 (fun y h2 => ∃ i j, x = .d (.int i) ∧ y = .d (.int j) ∧ (-(2 ^ 62) ≤ i ∧ i < 2 ^ 62 ∧ -(2 ^ 62) ≤ j ∧ j < 2 ^ 62) ∧ (j - i).toNat ≤ 16777216 ∧ Q (rgD i (j - i).toNat) h2) X) X
  | .items a, env, h, Q, X => wpE Γ cs a env h (fun x h1 => ∃ n o xs, x = .d (.ref n) ∧ h1[n]? = some o ∧ o.items = some xs ∧ Q xs h1) X
  | .cat a b, env, h, Q, X => wpL Γ cs a env h (fun xs h1 => wpL Γ cs b env h1 (fun ys h2 => xs.length + ys.length ≤ sizeLine ∧ Q (xs ++ ys) h2) X) X
  | .catE a b, env, h, Q, X => wpE Γ cs a env h (fun x h1 => wpE Γ cs b env h1 (fun y h2 => ∃ xs ys, (x.obj h2).bind AO.list = some xs ∧ (y.obj h2).bind AO.list = some ys ∧ xs.length + ys.length ≤ sizeLine ∧ Q (xs ++ ys) h2) X) X
  | .rep a b, env, h, Q, X => wpL Γ cs a env h (fun xs h1 => wpE Γ cs b env h1 (fun y h2 => ∃ k, y = .d (.int k) ∧ -(2 ^ 63) ≤ k ∧ k < 2 ^ 63 ∧ xs.length * k.toNat ≤ sizeLine ∧ Q (List.replicate k.toNat xs).flatten h2) X) X
  | .sortK f a, env, h, Q, X => wpE Γ cs a env h (fun x h1 => ∃ xs, (x.obj h1).bind AO.list = some xs ∧ keysW Γ f xs [] h1 fun ks h2 => srtOk ks ∧ ks.length = xs.length ∧ Q (sortD xs ks) h2) X
  | .srt a, env, h, Q, X => wpE Γ cs a env h (fun x h1 => ∃ xs ns, (x.obj h1).bind AO.list = some xs ∧ intsOf xs = some ns ∧ ∀ ms : List Int, ms.Perm ns → ms.Pairwise (· ≤ ·) → Q (ms.map .int) h1) X
  | .slcL a lo hi, env, h, Q, X => wpE Γ cs a env h (fun x h1 => wpO Γ cs lo env h1 (fun i h2 => wpO Γ cs hi env h2 (fun j h3 => ∃ xs, (x.obj h3).bind AO.list = some xs ∧ Q (cutD xs i j) h3) X) X) X
def wpI (Γ : GM) (cs : Nat → Option D) : CI → Bool → Ev → AH → (List D → (AH → Prop) → AH → Prop) → (EX → AH → Prop) → Prop
  | .val a, cp, env, h, Q, X => wpE Γ cs a env h (fun x h1 => (cp = true ∨ ∀ o, x ≠ .tw o) ∧ ∃ xs, x.seq h1 = some xs ∧ Q xs (fun h => x.seq h = some xs) h1) X
  | .rg1 a, _, env, h, Q, X => wpE Γ cs a env h (fun x h1 => ∃ i, x = .d (.int i) ∧ -(2 ^ 62) ≤ i ∧ i < 2 ^ 62 ∧ Q (rgD 0 i.toNat) (fun _ => True) h1) X
  | .rg2 a b, _, env, h, Q, X => wpE Γ cs a env h (fun x h1 => wpE Γ cs b env h1 (fun y h2 => ∃ i j, x = .d (.int i) ∧ y = .d (.int j) ∧ (-(2 ^ 62) ≤ i ∧ i < 2 ^ 62 ∧ -(2 ^ 62) ≤ j ∧ j < 2 ^ 62) ∧ Q (rgD i (j - i).toNat) (fun _ => True) h2) X) X
  | .enum a, cp, env, h, Q, X => wpE Γ cs a env h (fun x h1 => (cp = true ∨ ∀ o, x ≠ .tw o) ∧ ∃ xs, (x.obj h1).bind AO.list = some xs ∧ Q (enumD xs) (fun h => (x.obj h).bind AO.list = some xs) h1) X
  | .zip a b, _, env, h, Q, X => wpE Γ cs a env h (fun x h1 => wpE Γ cs b env h1 (fun y h2 => ∃ xs ys, x = .d (.tup xs) ∧ y = .d (.tup ys) ∧ Q (zipD xs ys) (fun _ => True) h2) X) X
end

/-- what is wanted behind a statement -/
structure CEnds where
  nx : Ev → AH → Prop
  rt : RR → AH → Prop
  bk : Ev → AH → Prop
  ct : Ev → AH → Prop
  ex : EX → Ev → AH → Prop
def frzE (env : Ev) : Ev := env.map fun s => match s with
  | some (.own (.lst xs)) => some (.val (.fz xs))
  | s => s
/-- an except suite's end -/
def ehW (s : EH) (n : Option Nat) (x : EX) (env : Ev) (h : AH) (R : CEnds) : Prop := (match n with
  | some k => decide (k < env.length) = true
  | none => True) ∧ match s with
  | .asg i e => R.nx (wipeE (env.set i (some (.val (e.val x.c)))) n.toList) h
  | .ret e => R.rt (.d (e.val x.c)) h
/-- the ends, where one's own is only read for a while -/
def borR (i : Nat) (o : AO) (R : CEnds) : CEnds := ⟨fun e h => e[i]? = some (some (.bor o)) ∧ R.nx (e.set i (some (.own o))) h, R.rt, fun _ _ => False, fun _ _ => False, fun x e h => e[i]? = some (some (.bor o)) ∧ R.ex x (e.set i (some (.own o))) h⟩
/-- the turns of a loop -/
def forW (guard : AH → Prop) (g : CG) (B : Ev → AH → CEnds → Prop) : List D → Ev → AH → CEnds → Prop
  | [], env, h, R => guard h ∧ R.nx env h
  | x :: xs, env, h, R => guard h ∧ gW g x env fun env' => B env' h { R with nx := fun e h => forW guard g B xs e h R, ct := fun e h => forW guard g B xs e h R, bk := R.nx }
mutual
def wpS (Γ : GM) (cs : Nat → Option D) : CS → Ev → AH → CEnds → Prop
  | .asg g e, env, h, R => wpE Γ cs e env h (fun v h' => ∃ x, v = .d x ∧ gW g x env fun env' => R.nx env' h') (fun x h' => R.ex x env h')
  | .asgO i l, env, h, R => wpL Γ cs l env h (fun xs h' => R.nx (env.set i (some (.own (.lst xs)))) h') (fun x h' => R.ex x env h')
  | .asgD i, env, h, R => R.nx (env.set i (some (.own (.dK [])))) h ∨ R.nx (env.set i (some (.own (.dT [])))) h
  | .asgC i f es, env, h, R => wpEs Γ cs es env h (fun vs h1 => Γ f (vs.map toArg) h1 (fun r h2 => match r with
      | .d x => R.nx (env.set i (some (.val x))) h2
      | .mv o => R.nx (env.set i (some (.own o))) h2) (fun x h' => R.ex x env h')) (fun x h' => R.ex x env h')
  | .aug i o e, env, h, R => ∃ x, env[i]? = some (some (.val x)) ∧ wpE Γ cs e env h (fun v h' => ∃ y, v = .d y ∧ augW o x y fun z => R.nx (env.set i (some (.val z))) h') (fun x h' => R.ex x env h')
  | .setix i k e, env, h, R => ∃ o, env[i]? = some (some (.own o)) ∧ wpE Γ cs e env h (fun v h1 => wpE Γ cs k env h1 (fun u h2 => ∃ x y, v = .d x ∧ u = .d y ∧
      ((∃ xs z j, o = .lst xs ∧ y = .int z ∧ ixN xs.length z = some j ∧ R.nx (env.set i (some (.own (.lst (xs.set j x))))) h2) ∨
       ∃ o', o.put y x = some o' ∧ R.nx (env.set i (some (.own o'))) h2)) (fun x h' => R.ex x env h')) (fun x h' => R.ex x env h')
  | .app i e, env, h, R => ∃ xs, env[i]? = some (some (.own (.lst xs))) ∧ wpE Γ cs e env h (fun v h1 => ∃ x, v = .d x ∧ xs.length < sizeLine ∧ R.nx (env.set i (some (.own (.lst (xs ++ [x]))))) h1) (fun x h' => R.ex x env h')
  | .ext i l, env, h, R => ∃ xs, env[i]? = some (some (.own (.lst xs))) ∧ wpL Γ cs l env h (fun ys h1 => xs.length + ys.length ≤ sizeLine ∧ R.nx (env.set i (some (.own (.lst (xs ++ ys))))) h1) (fun x h' => R.ex x env h')
  | .extV i j, env, h, R => ∃ xs ys, env[i]? = some (some (.own (.lst xs))) ∧ env[j]? = some (some (.own (.lst ys))) ∧ xs.length + ys.length ≤ sizeLine ∧ R.nx (env.set i (some (.own (.lst (xs ++ ys))))) h
  | .clr i, env, h, R => ∃ xs, env[i]? = some (some (.own (.lst xs))) ∧ R.nx (env.set i (some (.own (.lst [])))) h
  | .exp e, env, h, R => wpE Γ cs e env h (fun _ h' => R.nx env h') (fun x h' => R.ex x env h')
  | .ret e, env, h, R => wpE Γ cs e (frzE env) h (fun v h' => ∃ x, v = .d x ∧ R.rt (.d x) h') (fun x h' => R.ex x (frzE env) h')
  | .retM i, env, h, R => ∃ o, env[i]? = some (some (.own o)) ∧ R.rt (.mv o) h
  | .retN, _, h, R => R.rt (.d .non) h
  | .retL l, env, h, R => wpL Γ cs l env h (fun xs h' => R.rt (.mv (.lst xs)) h') (fun x h' => R.ex x env h')
  | .exte i e, env, h, R => ∃ xs, env[i]? = some (some (.own (.lst xs))) ∧ wpE Γ cs e env h (fun v h1 => ∃ ys, v = .d (.tup ys) ∧ xs.length + ys.length ≤ sizeLine ∧ R.nx (env.set i (some (.own (.lst (xs ++ ys))))) h1) (fun x h' => R.ex x env h')
  | .ite t a b, env, h, R => wpT Γ cs t env h (fun k h' => if k = true then wpSs Γ cs a env h' R else wpSs Γ cs b env h' R) (fun x h' => R.ex x env h')
  | .whl t a, env, h, R => ∃ W : Nat → Ev → AH → Prop, (∃ m, W m env h) ∧ ∀ m env h, W m env h → wpT Γ cs t env h (fun k h' =>
      if k = true then wpSs Γ cs a env h' { R with nx := fun e h => ∃ m', m' < m ∧ W m' e h, ct := fun e h => ∃ m', m' < m ∧ W m' e h, bk := R.nx } else R.nx env h') (fun x h' => R.ex x env h')
  | .for g it a, env, h, R => wpI Γ cs it false env h (fun xs guard h' => forW guard g (fun env h R => wpSs Γ cs a env h R) xs env h' R) (fun x h' => R.ex x env h')
  | .asgV i j, env, h, R => ∃ o, env[j]? = some (some (.own o)) ∧ i ≠ j ∧ i < env.length ∧ R.nx ((env.set j none).set i (some (.own o))) h
  | .forO g i a, env, h, R => ∃ xs, env[i]? = some (some (.own (.lst xs))) ∧ forW (fun h' => (VV.bw (.lst xs)).seq h' = some xs) g (fun env h R => wpSs Γ cs a env h R) xs (env.set i (some (.bor (.lst xs)))) h (borR i (.lst xs) R)
  | .brk, env, h, R => R.bk env h
  | .cnt, env, h, R => R.ct env h
  | .pas, env, h, R => R.nx env h
  | .frz i, env, h, R => ∃ xs, env[i]? = some (some (.own (.lst xs))) ∧ R.nx (env.set i (some (.val (.fz xs)))) h
  | .asgD1 i k v, env, h, R => wpE Γ cs k env h (fun y h1 => wpE Γ cs v env h1 (fun z h2 => ∃ u w ks, y = .d u ∧ z = .d w ∧ u.keys = some ks ∧ R.nx (env.set i (some (.own (.dT [(ks, w)])))) h2) (fun x h' => R.ex x env h')) (fun x h' => R.ex x env h')
  | .asg2 i j a b, env, h, R => wpE Γ cs a env h (fun y h1 => wpE Γ cs b env h1 (fun z h2 => ∃ u w, y = .d u ∧ z = .d w ∧ R.nx ((env.set i (some (.val u))).set j (some (.val w))) h2) (fun x h' => R.ex x env h')) (fun x h' => R.ex x env h')
  | .setixE o k e, env, h, R => wpE Γ cs e env h (fun v h1 => wpE Γ cs o env h1 (fun x h2 => wpE Γ cs k env h2 (fun u h3 => ∃ d n ob y, v = .d d ∧ x = .d (.ref n) ∧ h3[n]? = some ob ∧ u = .d y ∧
      ((∃ xs z j, ob = .lst xs ∧ y = .int z ∧ ixN xs.length z = some j ∧ R.nx env (h3.set n (.lst (xs.set j d)))) ∨ ∃ o', ob.put y d = some o' ∧ R.nx env (h3.set n o'))) (fun x h' => R.ex x env h')) (fun x h' => R.ex x env h')) (fun x h' => R.ex x env h')
  | .setf k o f e, env, h, R => wpE Γ cs e env h (fun v h1 => wpE Γ cs o env h1 (fun x h2 => ∃ d n c fs, v = .d d ∧ x = .d (.ref n) ∧ h2[n]? = some (.ins c fs) ∧ c < k ∧ fs.length < 1000 ∧ R.nx env (h2.set n (.ins c (putFD f d fs)))) (fun x h' => R.ex x env h')) (fun x h' => R.ex x env h')
  | .raise c, env, h, R => R.ex ⟨c, []⟩ env h
  | .tryX k l _ n a s, env, h, R => wpSs Γ cs a env h { R with ex := fun x e h' => x.c < k ∧ if l.contains x.c = true then x.fs = [] ∧ ehW s n x e h' R else R.ex x e h' }
def wpSs (Γ : GM) (cs : Nat → Option D) : CSs → Ev → AH → CEnds → Prop
  | .nil, env, h, R => R.nx env h
  | .cons a r, env, h, R => wpS Γ cs a env h { R with nx := fun e h => wpSs Γ cs r e h R }
end

/-! ### defs -/
structure FD where
  np : Nat
  ns : Nat
  body : CSs
def startE (fd : FD) (vs : List VV) : Ev := vs.map argSl ++ List.replicate (fd.ns - vs.length) none
/-- the called defs to the depth k -/
def wpF (T : Nat → Option FD) (cs : Nat → Option D) : Nat → GM
  | 0 => fun _ _ _ _ _ => False
  | k + 1 => fun f vs h Q X => (∃ fd, T f = some fd ∧ vs.length = fd.np ∧ wpSs (wpF T cs k) cs fd.body (startE fd vs) h
      { nx := fun _ h' => Q (.d .non) h', rt := Q, bk := fun _ _ => False, ct := fun _ _ => False, ex := fun x _ h' => X x h' }) ∨ (T f = none ∧ 1000 ≤ f ∧ wpF T cs k (f - 1000) vs h Q X)
end G

/-! Core2: how the core's values lie in the abstract heap; steps; the frame's state. -/
namespace G
open PySem PySem.Spec PyProof.Rows L2

/-- a list that stays as it is -/
def FzL (K : PySem.W.Frag) (H : Hp) (m : Addr → Prop) (a : Addr) (vs : List V) : Prop :=
  (H a = some (.lst vs) ∧ ¬ m a) ∨ (∃ o, H a = some (.frz o (.lst vs))) ∨
    ∃ (o : Obj) (its : Array Value) (n : Nat), K.lookup a = some o ∧ o.cls = .type "list" ∧ o.dict = none ∧ o.data = .seq its n ∧ its.size ≤ sizeLine ∧ Vals vs its.toList
theorem FzL.sq {K : PySem.W.Frag} {H : Hp} {m : Addr → Prop} {a : Addr} {vs : List V} (h : FzL K H m a vs) : SqL K H a vs := by
  rcases h with ⟨h, _⟩ | ⟨o, h⟩ | h
  · exact .inl (.inl h)
  · exact .inl (.inr ⟨o, h⟩)
  · exact .inr h
mutual
/-- the value v of the heap H is d: ρ the addresses of the core's heap, m what may change -/
inductive RD (K : PySem.W.Frag) (H : Hp) (ρ : List Addr) (m : Addr → Prop) : D → V → Prop where
  | non : RD K H ρ m .non .non
  | bl (b : Bool) : RD K H ρ m (.bl b) (.bl b)
  | int (i : Int) : RD K H ρ m (.int i) (.int i)
  | str (z : Str) : RD K H ρ m (.str z) (.str z)
  | tup {a : Addr} {vs : List V} {ds : List D} : H a = some (.tup vs) → RDs K H ρ m ds vs → RD K H ρ m (.tup ds) (.ref a)
  | fz {a : Addr} {vs : List V} {ds : List D} : FzL K H m a vs → RDs K H ρ m ds vs → RD K H ρ m (.fz ds) (.ref a)
  | ref {n : Nat} {a : Addr} : ρ[n]? = some a → RD K H ρ m (.ref n) (.ref a)
inductive RDs (K : PySem.W.Frag) (H : Hp) (ρ : List Addr) (m : Addr → Prop) : List D → List V → Prop where
  | nil : RDs K H ρ m [] []
  | cons {d : D} {v : V} {ds : List D} {vs : List V} : RD K H ρ m d v → RDs K H ρ m ds vs → RDs K H ρ m (d :: ds) (v :: vs)
end
/-- values under keys -/
def RK (K : PySem.W.Frag) (H : Hp) (ρ : List Addr) (m : Addr → Prop) {κ : Type} : List (κ × D) → List (κ × V) → Prop := Paired fun (p : κ × D) (q : κ × V) => p.1 = q.1 ∧ RD K H ρ m p.2 q.2
/-- the object at a is o (C: where the classes stand) -/
def RO (C : Nat → Addr) (K : PySem.W.Frag) (H : Hp) (ρ : List Addr) (m : Addr → Prop) : AO → Addr → Prop
  | .lst ds, a => ∃ vs, H a = some (.lst vs) ∧ RDs K H ρ m ds vs
  | .dK kvs, a => ∃ ws, H a = some (.dK ws) ∧ RK K H ρ m kvs ws
  | .dT kvs, a => ∃ ws, H a = some (.dT ws) ∧ RK K H ρ m kvs ws
  | .ins c fs, a => ∃ dx ws, H a = some (.ins (C c) dx ws) ∧ RK K H ρ m fs ws

/-- a step of the heap: what is known of what doesn't change stays -/
structure Grow (H : Hp) (ρ : List Addr) (m : Addr → Prop) (H' : Hp) (ρ' : List Addr) (m' : Addr → Prop) : Prop where
  tup : ∀ a xs, H a = some (.tup xs) → H' a = some (.tup xs)
  frz : ∀ a o u, H a = some (.frz o u) → H' a = some (.frz o u)
  pre : ∀ (n : Nat) (a : Addr), ρ[n]? = some a → ρ'[n]? = some a
  lst : ∀ a xs, H a = some (.lst xs) → ¬ m a → H' a = some (.lst xs) ∧ ¬ m' a
section
variable {C : Nat → Addr} {K : PySem.W.Frag} {H H' H1 H2 : Hp} {ρ ρ' ρ1 ρ2 : List Addr} {m m' m1 m2 : Addr → Prop}
theorem Grow.refl : Grow H ρ m H ρ m := ⟨fun _ _ h => h, fun _ _ _ h => h, fun _ _ h => h, fun _ _ h n => ⟨h, n⟩⟩
theorem Grow.trans (g : Grow H ρ m H1 ρ1 m1) (g' : Grow H1 ρ1 m1 H2 ρ2 m2) : Grow H ρ m H2 ρ2 m2 :=
  ⟨fun a xs h => g'.tup a xs (g.tup a xs h), fun a o u h => g'.frz a o u (g.frz a o u h), fun n a h => g'.pre n a (g.pre n a h), fun a xs h n => let ⟨h1, n1⟩ := g.lst a xs h n; g'.lst a xs h1 n1⟩
theorem Grow.sqT (g : Grow H ρ m H1 ρ1 m1) {a : Addr} {vs : List V} (h : SqT K H a vs) : SqT K H1 a vs := by
  rcases h with (h | ⟨o, h⟩) | h
  · exact .inl (.inl (g.tup _ _ h))
  · exact .inl (.inr ⟨o, g.frz _ _ _ h⟩)
  · exact .inr h
theorem Grow.fzL (g : Grow H ρ m H1 ρ1 m1) {a : Addr} {vs : List V} (h : FzL K H m a vs) : FzL K H1 m1 a vs := by
  rcases h with ⟨h, n⟩ | ⟨o, h⟩ | h
  · exact .inl (g.lst _ _ h n)
  · exact .inr (.inl ⟨o, g.frz _ _ _ h⟩)
  · exact .inr (.inr h)
mutual
theorem RD.grow (g : Grow H ρ m H1 ρ1 m1) : ∀ {d : D} {v : V}, RD K H ρ m d v → RD K H1 ρ1 m1 d v
  | _, _, .non => .non
  | _, _, .bl b => .bl b
  | _, _, .int i => .int i
  | _, _, .str z => .str z
  | _, _, .tup h r => .tup (g.tup _ _ h) (RDs.grow g r)
  | _, _, .fz h r => .fz (g.fzL h) (RDs.grow g r)
  | _, _, .ref h => .ref (g.pre _ _ h)
theorem RDs.grow (g : Grow H ρ m H1 ρ1 m1) : ∀ {ds : List D} {vs : List V}, RDs K H ρ m ds vs → RDs K H1 ρ1 m1 ds vs
  | _, _, .nil => .nil
  | _, _, .cons r rs => .cons (RD.grow g r) (RDs.grow g rs)
end
theorem RK.grow {κ : Type} (g : Grow H ρ m H1 ρ1 m1) {xs : List (κ × D)} {ys : List (κ × V)} (h : RK K H ρ m xs ys) : RK K H1 ρ1 m1 xs ys :=
  Paired.mapP h fun _ _ z => ⟨z.1, z.2.grow g⟩
/-- the object itself unchanged -/
theorem RO.grow (g : Grow H ρ m H1 ρ1 m1) {o : AO} {a : Addr} (e : H1 a = H a) (h : RO C K H ρ m o a) : RO C K H1 ρ1 m1 o a := by
  cases o with
  | lst ds => obtain ⟨vs, h1, h2⟩ := h; exact ⟨vs, e.trans h1, h2.grow g⟩
  | dK ds => obtain ⟨vs, h1, h2⟩ := h; exact ⟨vs, e.trans h1, h2.grow g⟩
  | dT ds => obtain ⟨vs, h1, h2⟩ := h; exact ⟨vs, e.trans h1, h2.grow g⟩
  | ins c ds => obtain ⟨dx, vs, h1, h2⟩ := h; exact ⟨dx, vs, e.trans h1, h2.grow g⟩
/-- an object that may change: neither a tuple nor locked -/
theorem RO.kind {o : AO} {a : Addr} (h : RO C K H ρ m o a) : ∃ u, H a = some u ∧ (∀ xs, u ≠ .tup xs) ∧ (∀ o u', u ≠ .frz o u') := by
  cases o with
  | lst ds => obtain ⟨vs, h1, h2⟩ := h; exact ⟨_, h1, ⟨fun _ z => (by cases z), fun _ _ z => (by cases z)⟩⟩
  | dK ds => obtain ⟨vs, h1, h2⟩ := h; exact ⟨_, h1, ⟨fun _ z => (by cases z), fun _ _ z => (by cases z)⟩⟩
  | dT ds => obtain ⟨vs, h1, h2⟩ := h; exact ⟨_, h1, ⟨fun _ z => (by cases z), fun _ _ z => (by cases z)⟩⟩
  | ins c ds => obtain ⟨dx, vs, h1, h2⟩ := h; exact ⟨_, h1, ⟨fun _ z => (by cases z), fun _ _ z => (by cases z)⟩⟩
theorem RDs.length : ∀ {ds : List D} {vs : List V}, RDs K H ρ m ds vs → ds.length = vs.length
  | _, _, .nil => rfl
  | _, _, .cons _ rs => by simp [rs.length]
theorem RDs.append : ∀ {ds es : List D} {vs us : List V}, RDs K H ρ m ds vs → RDs K H ρ m es us → RDs K H ρ m (ds ++ es) (vs ++ us)
  | _, _, _, _, .nil, s => s
  | _, _, _, _, .cons r rs, s => .cons r (rs.append s)
theorem RDs.reverse : ∀ {ds : List D} {vs : List V}, RDs K H ρ m ds vs → RDs K H ρ m ds.reverse vs.reverse
  | _, _, .nil => .nil
  | _, _, .cons r rs => by
    rw [List.reverse_cons, List.reverse_cons]
    exact rs.reverse.append (.cons r .nil)
theorem RDs.get : ∀ {ds : List D} {vs : List V} {i : Nat} {d : D}, RDs K H ρ m ds vs → ds[i]? = some d → ∃ v, vs[i]? = some v ∧ RD K H ρ m d v
  | _, _, _, _, .nil, e => by simp at e
  | _, _, 0, _, .cons r _, e => by simp at e; subst e; exact ⟨_, rfl, r⟩
  | _, _, i + 1, d, .cons _ t, e => by
    obtain ⟨u, h1, h2⟩ := RDs.get (i := i) (d := d) t (by simpa using e)
    exact ⟨u, by simpa using h1, h2⟩
theorem RDs.getV : ∀ {ds : List D} {vs : List V} {i : Nat} {v : V}, RDs K H ρ m ds vs → vs[i]? = some v → ∃ d, ds[i]? = some d ∧ RD K H ρ m d v
  | _, _, _, _, .nil, e => by simp at e
  | _, _, 0, _, .cons r _, e => by simp at e; subst e; exact ⟨_, rfl, r⟩
  | _, _, i + 1, d, .cons _ t, e => by
    obtain ⟨u, h1, h2⟩ := RDs.getV (i := i) (v := d) t (by simpa using e)
    exact ⟨u, by simpa using h1, h2⟩
theorem RDs.set {d : D} {v : V} (r : RD K H ρ m d v) : ∀ {ds : List D} {vs : List V} (i : Nat), RDs K H ρ m ds vs → RDs K H ρ m (ds.set i d) (vs.set i v)
  | _, _, _, .nil => .nil
  | _, _, 0, .cons _ t => .cons r t
  | _, _, i + 1, .cons q t => .cons q (RDs.set r i t)
theorem RDs.take : ∀ {ds : List D} {vs : List V} (n : Nat), RDs K H ρ m ds vs → RDs K H ρ m (ds.take n) (vs.take n)
  | _, _, 0, _ => .nil
  | _, _, _ + 1, .nil => .nil
  | _, _, n + 1, .cons r t => .cons r (RDs.take n t)
theorem RDs.drop : ∀ {ds : List D} {vs : List V} (n : Nat), RDs K H ρ m ds vs → RDs K H ρ m (ds.drop n) (vs.drop n)
  | _, _, 0, r => r
  | _, _, _ + 1, .nil => .nil
  | _, _, n + 1, .cons _ t => RDs.drop n t
theorem RDs.ints : ∀ (ns : List Int) {vs : List V}, RDs K H ρ m (ns.map .int) vs → vs = ns.map V.int
  | [], _, .nil => rfl
  | n :: ns, _, .cons (.int _) t => by rw [RDs.ints ns t]; rfl
theorem RDs.of_ints : ∀ (ns : List Int), RDs K H ρ m (ns.map .int) (ns.map V.int)
  | [] => .nil
  | n :: ns => .cons (.int n) (RDs.of_ints ns)
theorem intsOf_eq : ∀ {xs : List D} {ns : List Int}, intsOf xs = some ns → xs = ns.map .int
  | [], ns, h => by simp [intsOf] at h; subst h; rfl
  | .int i :: r, ns, h => by
    simp only [intsOf, Option.map_eq_some_iff] at h
    obtain ⟨ms, h1, rfl⟩ := h
    rw [intsOf_eq h1]; rfl
  | .non :: _, _, h => by simp [intsOf] at h
  | .bl _ :: _, _, h => by simp [intsOf] at h
  | .str _ :: _, _, h => by simp [intsOf] at h
  | .tup _ :: _, _, h => by simp [intsOf] at h
  | .fz _ :: _, _, h => by simp [intsOf] at h
  | .ref _ :: _, _, h => by simp [intsOf] at h
theorem boolsOf_eq : ∀ {xs : List D} {ns : List Bool}, boolsOf xs = some ns → xs = ns.map .bl
  | [], ns, h => by simp [boolsOf] at h; subst h; rfl
  | .bl i :: r, ns, h => by
    simp only [boolsOf, Option.map_eq_some_iff] at h
    obtain ⟨ms, h1, rfl⟩ := h
    rw [boolsOf_eq h1]; rfl
  | .non :: _, _, h => by simp [boolsOf] at h
  | .int _ :: _, _, h => by simp [boolsOf] at h
  | .str _ :: _, _, h => by simp [boolsOf] at h
  | .tup _ :: _, _, h => by simp [boolsOf] at h
  | .fz _ :: _, _, h => by simp [boolsOf] at h
  | .ref _ :: _, _, h => by simp [boolsOf] at h
theorem RDs.bools : ∀ (ns : List Bool) {vs : List V}, RDs K H ρ m (ns.map .bl) vs → vs = ns.map V.bl
  | [], _, .nil => rfl
  | n :: ns, _, .cons (.bl _) t => by rw [RDs.bools ns t]; rfl
theorem RD.key {d : D} {v : V} {k : Key} (h : RD K H ρ m d v) (e : d.key = some k) : v = kV k := by
  cases h with
  | int i => simp [D.key] at e; subst e; rfl
  | str i => simp [D.key] at e; subst e; rfl
  | _ => simp [D.key] at e
theorem RDs.keysOf : ∀ {ds : List D} {vs : List V} {ks : List Key}, RDs K H ρ m ds vs → G.keysOf ds = some ks → vs = ks.map kV
  | _, _, _, .nil, e => by simp [G.keysOf] at e; subst e; rfl
  | _, _, ks, .cons (d := d) (ds := ds) r rs, e => by
    simp only [G.keysOf] at e
    split at e
    · rename_i k ks' h1 h2
      cases e
      rw [r.key h1, rs.keysOf h2]; rfl
    · cases e
theorem RD.kD (k : Key) : RD K H ρ m (kD k) (kV k) := by
  cases k with
  | inl i => exact .int i
  | inr z => exact .str z
theorem RDs.kDs : ∀ (ks : List Key), RDs K H ρ m (ks.map G.kD) (ks.map kV)
  | [] => .nil
  | k :: ks => .cons (.kD k) (RDs.kDs ks)
end
end G

/-! Core3: the frame's state against the machine's; what steps keep. -/
namespace G
open PySem PySem.Spec PyProof.Rows L2

/-- what may change: a caller's own, the heap's, one's own -/
def ms (ω ρ U : List Addr) : Addr → Prop := fun a => a ∈ ω ∨ a ∈ ρ ∨ a ∈ U
/-- an object that may change is neither a tuple nor locked -/
def MutO (u : HO) : Prop := (∀ xs, u ≠ .tup xs) ∧ ∀ o u', u ≠ .frz o u'
theorem MutO.lst (vs : List V) : MutO (.lst vs) := ⟨fun _ z => (by cases z), fun _ _ z => (by cases z)⟩
theorem MutO.dK (vs : List (Key × V)) : MutO (.dK vs) := ⟨fun _ z => (by cases z), fun _ _ z => (by cases z)⟩
theorem MutO.dT (vs : List (List Key × V)) : MutO (.dT vs) := ⟨fun _ z => (by cases z), fun _ _ z => (by cases z)⟩
structure HR (C : Nat → Addr) (K : PySem.W.Frag) (ω ρ U : List Addr) (h : AH) (H : Hp) : Prop where
  lh : h.length = ρ.length
  hp : ∀ (n : Nat) (o : AO), h[n]? = some o → ∃ a : Addr, ρ[n]? = some a ∧ RO C K H ρ (ms ω ρ U) o a
  nd : ρ.Nodup
  dj : ∀ a ∈ ρ, a ∉ ω ∧ a ∉ U
  du : ∀ a ∈ U, a ∉ ω
  pr : ∀ a, ms ω ρ U a → ∃ u, H a = some u ∧ MutO u
def RSl (C : Nat → Addr) (K : PySem.W.Frag) (ω ρ U : List Addr) (H : Hp) : Sl → V → Prop
  | .val d, v => RD K H ρ (ms ω ρ U) d v
  | .own o, v => ∃ a, v = .ref a ∧ a ∈ U ∧ RO C K H ρ (ms ω ρ U) o a
  | .bor o, v => ∃ a, v = .ref a ∧ a ∈ ω ∧ RO C K H ρ (ms ω ρ U) o a
def RV (C : Nat → Addr) (K : PySem.W.Frag) (ω ρ U : List Addr) (H : Hp) : VV → V → Prop
  | .d d, v => RD K H ρ (ms ω ρ U) d v
  | .tw o, v => ∃ a, v = .ref a ∧ a ∈ U ∧ RO C K H ρ (ms ω ρ U) o a
  | .bw o, v => ∃ a, v = .ref a ∧ a ∈ ω ∧ RO C K H ρ (ms ω ρ U) o a
theorem RSl.rv {C : Nat → Addr} {K : PySem.W.Frag} {ω ρ U : List Addr} {H : Hp} {s : Sl} {v : V} (h : RSl C K ω ρ U H s v) : RV C K ω ρ U H (slV s) v := by
  cases s <;> exact h
structure RS (C : Nat → Addr) (K : PySem.W.Frag) (β : Nat → Option Addr) (ω ρ U : List Addr) (env : Ev) (h : AH) (σ : L2.St) (H : Hp) : Prop where
  hr : HR C K ω ρ U h H
  len : env.length = σ.length
  sl : ∀ (i : Nat) (s : Sl), env[i]? = some (some s) → ∃ v, σ[i]? = some (some v) ∧ RSl C K ω ρ U H s v
  inj : ∀ (i j : Nat) (o o' : AO) (a : Addr), env[i]? = some (some (.own o)) → env[j]? = some (some (.own o')) → σ[i]? = some (some (.ref a)) → σ[j]? = some (some (.ref a)) → i = j
  bo : ∀ (i : Nat) (o : AO), env[i]? = some (some (.bor o)) → ∃ a : Addr, β i = some a ∧ σ[i]? = some (some (.ref a))
/-- a step that leaves a caller's own and one's own -/
structure Stp (ω U : List Addr) (H : Hp) (ρ : List Addr) (H' : Hp) (ρ' : List Addr) : Prop where
  gr : Grow H ρ (ms ω ρ U) H' ρ' (ms ω ρ' U)
  own : ∀ a, a ∈ ω ∨ a ∈ U → H' a = H a
section
variable {C : Nat → Addr} {K : PySem.W.Frag} {H H' H1 H2 : Hp} {ω ρ ρ' ρ1 ρ2 U : List Addr} {β : Nat → Option Addr} {env : Ev} {h h' : AH} {σ : L2.St}
theorem Stp.refl : Stp ω U H ρ H ρ := ⟨.refl, fun _ _ => rfl⟩
theorem Stp.trans (g : Stp ω U H ρ H1 ρ1) (g' : Stp ω U H1 ρ1 H2 ρ2) : Stp ω U H ρ H2 ρ2 := ⟨g.gr.trans g'.gr, fun a h => (g'.own a h).trans (g.own a h)⟩
theorem RSl.step (g : Stp ω U H ρ H1 ρ1) {s : Sl} {v : V} (r : RSl C K ω ρ U H s v) : RSl C K ω ρ1 U H1 s v := by
  cases s with
  | val d => exact RD.grow g.gr r
  | own o => obtain ⟨a, e, hu, r⟩ := r; exact ⟨a, e, hu, r.grow g.gr (g.own a (.inr hu))⟩
  | bor o => obtain ⟨a, e, hu, r⟩ := r; exact ⟨a, e, hu, r.grow g.gr (g.own a (.inl hu))⟩
theorem RV.step (g : Stp ω U H ρ H1 ρ1) {s : VV} {v : V} (r : RV C K ω ρ U H s v) : RV C K ω ρ1 U H1 s v := by
  cases s with
  | d d => exact RD.grow g.gr r
  | tw o => obtain ⟨a, e, hu, r⟩ := r; exact ⟨a, e, hu, r.grow g.gr (g.own a (.inr hu))⟩
  | bw o => obtain ⟨a, e, hu, r⟩ := r; exact ⟨a, e, hu, r.grow g.gr (g.own a (.inl hu))⟩
theorem RS.step (r : RS C K β ω ρ U env h σ H) (hr : HR C K ω ρ1 U h' H1) (g : Stp ω U H ρ H1 ρ1) : RS C K β ω ρ1 U env h' σ H1 :=
  ⟨hr, r.len, fun i s e => let ⟨v, e1, r1⟩ := r.sl i s e; ⟨v, e1, r1.step g⟩, r.inj, r.bo⟩
theorem HR.fresh (r : HR C K ω ρ U h H) {p : Addr} (hp : H p = none) : ¬ ms ω ρ U p := fun z => by
  obtain ⟨u, e, _⟩ := r.pr p z
  rw [hp] at e; cases e
/-- a new object, not of the core's heap -/
theorem HR.laid (r : HR C K ω ρ U h H) {p : Addr} (hp : H p = none) (u : HO) : HR C K ω ρ U h (upd H p u) ∧ Stp ω U H ρ (upd H p u) ρ := by
  have nm := r.fresh hp
  have ne : ∀ a, ms ω ρ U a → a ≠ p := fun a z e => nm (e ▸ z)
  have g : Grow H ρ (ms ω ρ U) (upd H p u) ρ (ms ω ρ U) :=
    ⟨fun a xs e => by rw [upd_ne (ne_of_none e hp)]; exact e, fun a o v e => by rw [upd_ne (ne_of_none e hp)]; exact e, fun _ _ e => e,
      fun a xs e n => ⟨by rw [upd_ne (ne_of_none e hp)]; exact e, n⟩⟩
  refine ⟨⟨r.lh, fun n o e => ?_, r.nd, r.dj, r.du, fun a z => ?_⟩, g, fun a z => ?_⟩
  · obtain ⟨a, e1, r1⟩ := r.hp n o e
    exact ⟨a, e1, r1.grow g (upd_ne (ne a (.inr (.inl (List.mem_of_getElem? e1)))))⟩
  · rw [upd_ne (ne a z)]; exact r.pr a z
  · exact upd_ne (ne a (z.elim .inl fun q => .inr (.inr q)))
/-- a new list stays as it is -/
theorem HR.new_fz (r : HR C K ω ρ U h H) {p : Addr} (hp : H p = none) {ds : List D} {vs : List V} (q : RDs K H ρ (ms ω ρ U) ds vs) : RD K (upd H p (.lst vs)) ρ (ms ω ρ U) (.fz ds) (.ref p) :=
  .fz (.inl ⟨upd_same, r.fresh hp⟩) (q.grow (r.laid hp (.lst vs)).2.gr)
theorem HR.new_tup (r : HR C K ω ρ U h H) {p : Addr} (hp : H p = none) {ds : List D} {vs : List V} (q : RDs K H ρ (ms ω ρ U) ds vs) : RD K (upd H p (.tup vs)) ρ (ms ω ρ U) (.tup ds) (.ref p) :=
  .tup upd_same (q.grow (r.laid hp (.tup vs)).2.gr)
/-- one's own object is changed -/
theorem HR.write (r : HR C K ω ρ U h H) {a : Addr} (ha : a ∈ U) {u : HO} (hu : MutO u) :
    HR C K ω ρ U h (upd H a u) ∧ Grow H ρ (ms ω ρ U) (upd H a u) ρ (ms ω ρ U) := by
  have hm : ms ω ρ U a := .inr (.inr ha)
  obtain ⟨u0, e0, m0⟩ := r.pr a hm
  have g : Grow H ρ (ms ω ρ U) (upd H a u) ρ (ms ω ρ U) :=
    ⟨fun b xs e => by rw [upd_ne (fun z => by subst z; rw [e0] at e; exact m0.1 _ (Option.some.inj e))]; exact e,
      fun b o v e => by rw [upd_ne (fun z => by subst z; rw [e0] at e; exact m0.2 _ _ (Option.some.inj e))]; exact e, fun _ _ e => e,
      fun b xs e n => ⟨by rw [upd_ne (fun z => by subst z; exact n hm)]; exact e, n⟩⟩
  refine ⟨⟨r.lh, fun n o e => ?_, r.nd, r.dj, r.du, fun b z => ?_⟩, g⟩
  · obtain ⟨b, e1, r1⟩ := r.hp n o e
    have hb : b ∈ ρ := List.mem_of_getElem? e1
    exact ⟨b, e1, r1.grow g (upd_ne (fun z => (r.dj b hb).2 (z ▸ ha)))⟩
  · by_cases hb : b = a
    · subst hb; exact ⟨u, upd_same, hu⟩
    · rw [upd_ne hb]; exact r.pr b z
/-- the object of the slot i is changed -/
theorem RS.write (r : RS C K β ω ρ U env h σ H) {i : Nat} {a : Addr} {o o' : AO} {u : HO} (e : env[i]? = some (some (.own o))) (es : σ[i]? = some (some (.ref a))) (ha : a ∈ U) (hu : MutO u)
    (ro : RO C K (upd H a u) ρ (ms ω ρ U) o' a) : RS C K β ω ρ U (env.set i (some (.own o'))) h σ (upd H a u) := by
  obtain ⟨hr, g⟩ := r.hr.write (h := h) ha hu
  have hi : i < env.length := (List.getElem?_eq_some_iff.mp e).1
  refine ⟨hr, by rw [List.length_set]; exact r.len, fun j s ej => ?_, fun j k o1 o2 b e1 e2 s1 s2 => ?_, fun j o1 ej => ?_⟩
  · by_cases hj : j = i
    · subst hj
      rw [List.getElem?_set_self hi] at ej
      cases ej
      exact ⟨_, es, a, rfl, ha, ro⟩
    · rw [List.getElem?_set_ne (Ne.symm hj)] at ej
      obtain ⟨v, ev, rv⟩ := r.sl j s ej
      refine ⟨v, ev, ?_⟩
      cases s with
      | val d => exact RD.grow g rv
      | own o1 =>
        obtain ⟨b, rfl, hb, rb⟩ := rv
        refine ⟨b, rfl, hb, rb.grow g (upd_ne fun z => hj ?_)⟩
        subst z
        exact r.inj j i o1 o b ej e ev es
      | bor o1 =>
        obtain ⟨b, rfl, hb, rb⟩ := rv
        exact ⟨b, rfl, hb, rb.grow g (upd_ne fun z => r.hr.du a ha (z ▸ hb))⟩
  · have q : ∀ k o2, (env.set i (some (.own o')))[k]? = some (some (Sl.own o2)) → ∃ o3, env[k]? = some (some (Sl.own o3)) := fun k o2 ek => by
      by_cases hk : k = i
      · subst hk; exact ⟨o, e⟩
      · rw [List.getElem?_set_ne (Ne.symm hk)] at ek; exact ⟨o2, ek⟩
    obtain ⟨o3, e3⟩ := q j o1 e1
    obtain ⟨o4, e4⟩ := q k o2 e2
    exact r.inj j k o3 o4 b e3 e4 s1 s2
  · by_cases hj : j = i
    · subst hj
      rw [List.getElem?_set_self hi] at ej
      cases ej
    · rw [List.getElem?_set_ne (Ne.symm hj)] at ej
      exact r.bo j o1 ej
/-- a slot takes a value -/
theorem RS.set (r : RS C K β ω ρ U env h σ H) (i : Nat) {d : D} {v : V} (q : RD K H ρ (ms ω ρ U) d v) : RS C K β ω ρ U (env.set i (some (.val d))) h (σ.set i (some v)) H := by
  refine ⟨r.hr, by simpa using r.len, fun j s ej => ?_, fun j k o1 o2 b e1 e2 s1 s2 => ?_, fun j o1 ej => ?_⟩
  · by_cases hj : j = i
    · subst hj
      have hi : j < env.length := by
        have := (List.getElem?_eq_some_iff.mp ej).1
        simpa using this
      rw [List.getElem?_set_self hi] at ej
      cases ej
      exact ⟨v, List.getElem?_set_self (r.len ▸ hi), q⟩
    · rw [List.getElem?_set_ne (Ne.symm hj)] at ej ⊢
      exact r.sl j s ej
  · have p : ∀ (k : Nat) (o2 : AO), (env.set i (some (.val d)))[k]? = some (some (Sl.own o2)) → k ≠ i := fun k o2 ek z => by
      subst z
      have hi : k < env.length := by
        have := (List.getElem?_eq_some_iff.mp ek).1
        simpa using this
      rw [List.getElem?_set_self hi] at ek
      cases ek
    have n1 := p j o1 e1
    have n2 := p k o2 e2
    rw [List.getElem?_set_ne (Ne.symm n1)] at e1 s1
    rw [List.getElem?_set_ne (Ne.symm n2)] at e2 s2
    exact r.inj j k o1 o2 b e1 e2 s1 s2
  · have n : j ≠ i := fun z => by
      subst z
      have hi : j < env.length := by
        have := (List.getElem?_eq_some_iff.mp ej).1
        simpa using this
      rw [List.getElem?_set_self hi] at ej
      cases ej
    rw [List.getElem?_set_ne (Ne.symm n)] at ej ⊢
    exact r.bo j o1 ej
/-- a slot is forgotten -/
theorem RS.wipe (r : RS C K β ω ρ U env h σ H) (i : Nat) (x : Option V) : RS C K β ω ρ U (env.set i none) h (σ.set i x) H := by
  have p : ∀ (k : Nat) (s : Sl), (env.set i none)[k]? = some (some s) → k ≠ i := fun k s ek z => by
    subst z
    have hi : k < env.length := by
      have := (List.getElem?_eq_some_iff.mp ek).1
      simpa using this
    rw [List.getElem?_set_self hi] at ek
    cases ek
  refine ⟨r.hr, by simpa using r.len, fun j s ej => ?_, fun j k o1 o2 b e1 e2 s1 s2 => ?_, fun j o1 ej => ?_⟩
  · have n := p j s ej
    rw [List.getElem?_set_ne (Ne.symm n)] at ej ⊢
    exact r.sl j s ej
  · have n1 := p j _ e1
    have n2 := p k _ e2
    rw [List.getElem?_set_ne (Ne.symm n1)] at e1 s1
    rw [List.getElem?_set_ne (Ne.symm n2)] at e2 s2
    exact r.inj j k o1 o2 b e1 e2 s1 s2
  · have n := p j _ ej
    rw [List.getElem?_set_ne (Ne.symm n)] at ej ⊢
    exact r.bo j o1 ej
/-- one more of one's own -/
theorem HR.adopt (r : HR C K ω ρ U h H) {p : Addr} (hp : H p = none) {u : HO} (hu : MutO u) :
    HR C K ω ρ (p :: U) h (upd H p u) ∧ Grow H ρ (ms ω ρ U) (upd H p u) ρ (ms ω ρ (p :: U)) := by
  have nm := r.fresh hp
  have ne : ∀ a, ms ω ρ U a → a ≠ p := fun a z e => nm (e ▸ z)
  have g : Grow H ρ (ms ω ρ U) (upd H p u) ρ (ms ω ρ (p :: U)) :=
    ⟨fun a xs e => by rw [upd_ne (ne_of_none e hp)]; exact e, fun a o v e => by rw [upd_ne (ne_of_none e hp)]; exact e, fun _ _ e => e,
      fun a xs e n => ⟨by rw [upd_ne (ne_of_none e hp)]; exact e, fun z => by
        rcases z with z | z | z
        · exact n (.inl z)
        · exact n (.inr (.inl z))
        · rcases List.mem_cons.mp z with z | z
          · exact ne_of_none e hp z
          · exact n (.inr (.inr z))⟩⟩
  refine ⟨⟨r.lh, fun n o e => ?_, r.nd, fun a ha => ⟨(r.dj a ha).1, fun z => ?_⟩, fun a ha => ?_, fun a z => ?_⟩, g⟩
  · obtain ⟨a, e1, r1⟩ := r.hp n o e
    exact ⟨a, e1, r1.grow g (upd_ne (ne a (.inr (.inl (List.mem_of_getElem? e1)))))⟩
  · rcases List.mem_cons.mp z with z | z
    · exact ne a (.inr (.inl ha)) z
    · exact (r.dj a ha).2 z
  · rcases List.mem_cons.mp ha with z | z
    · subst z; exact fun q => nm (.inl q)
    · exact r.du a z
  · by_cases hb : a = p
    · subst hb; exact ⟨u, upd_same, hu⟩
    · rw [upd_ne hb]
      refine r.pr a ?_
      rcases z with z | z | z
      · exact .inl z
      · exact .inr (.inl z)
      · rcases List.mem_cons.mp z with z | z
        · exact absurd z hb
        · exact .inr (.inr z)
/-- a slot takes an object that nobody else knows -/
theorem RS.setOwn (r : RS C K β ω ρ U env h σ H) {U' : List Addr} {H1 : Hp} {ρ1 : List Addr} (hr : HR C K ω ρ1 U' h' H1) (g : Grow H ρ (ms ω ρ U) H1 ρ1 (ms ω ρ1 U')) (own : ∀ a, a ∈ ω ∨ a ∈ U → H1 a = H a) (hU : ∀ a ∈ U, a ∈ U')
    (i : Nat) {p : Addr} {o : AO} (hp : p ∈ U') (nU : p ∉ U) (ro : RO C K H1 ρ1 (ms ω ρ1 U') o p) : RS C K β ω ρ1 U' (env.set i (some (.own o))) h' (σ.set i (some (.ref p))) H1 := by
  have lift : ∀ (j : Nat) (s : Sl), env[j]? = some (some s) → ∃ v, σ[j]? = some (some v) ∧ RSl C K ω ρ1 U' H1 s v ∧ v ≠ .ref p ∨ ∃ v, σ[j]? = some (some v) ∧ RSl C K ω ρ1 U' H1 s v ∧ ∀ o, s ≠ .own o := fun j s e => by
    obtain ⟨v, ev, rv⟩ := r.sl j s e
    cases s with
    | val d => exact ⟨v, .inr ⟨v, ev, RD.grow g rv, fun _ z => (by cases z)⟩⟩
    | own o1 =>
      obtain ⟨b, rfl, hb, rb⟩ := rv
      exact ⟨_, .inl ⟨ev, ⟨b, rfl, hU b hb, rb.grow g (own b (.inr hb))⟩, fun z => nU (by cases z; exact hb)⟩⟩
    | bor o1 =>
      obtain ⟨b, rfl, hb, rb⟩ := rv
      exact ⟨.ref b, .inr ⟨.ref b, ev, ⟨b, rfl, hb, rb.grow g (own b (.inl hb))⟩, fun _ z => (by cases z)⟩⟩
  refine ⟨hr, by simpa using r.len, fun j s ej => ?_, fun j k o1 o2 b e1 e2 s1 s2 => ?_, fun j o1 ej => ?_⟩
  · by_cases hj : j = i
    · subst hj
      have hi : j < env.length := by
        have := (List.getElem?_eq_some_iff.mp ej).1
        simpa using this
      rw [List.getElem?_set_self hi] at ej
      cases ej
      exact ⟨_, List.getElem?_set_self (r.len ▸ hi), p, rfl, hp, ro⟩
    · rw [List.getElem?_set_ne (Ne.symm hj)] at ej ⊢
      obtain ⟨v, q⟩ := lift j s ej
      rcases q with ⟨a, b, _⟩ | ⟨v', a, b, _⟩
      · exact ⟨v, a, b⟩
      · exact ⟨v', a, b⟩
  · have q : ∀ (k : Nat) (o2 : AO), (env.set i (some (.own o)))[k]? = some (some (Sl.own o2)) → (σ.set i (some (.ref p)))[k]? = some (some (.ref b)) → (k = i ∧ b = p) ∨ (k ≠ i ∧ b ≠ p ∧ env[k]? = some (some (Sl.own o2)) ∧ σ[k]? = some (some (.ref b))) := fun k o2 ek sk => by
      by_cases hk : k = i
      · subst hk
        have hi : k < σ.length := by
          have := (List.getElem?_eq_some_iff.mp sk).1
          simpa using this
        rw [List.getElem?_set_self hi] at sk
        cases sk
        exact .inl ⟨rfl, rfl⟩
      · rw [List.getElem?_set_ne (Ne.symm hk)] at ek sk
        refine .inr ⟨hk, fun z => ?_, ek, sk⟩
        subst z
        obtain ⟨v, ev, b', rfl, hb, _⟩ := r.sl k _ ek
        rw [sk] at ev
        cases ev
        exact nU hb
    rcases q j o1 e1 s1 with ⟨a1, a2⟩ | ⟨a1, a2, a3, a4⟩
    · rcases q k o2 e2 s2 with ⟨b1, b2⟩ | ⟨b1, b2, b3, b4⟩
      · rw [a1, b1]
      · exact absurd a2 b2
    · rcases q k o2 e2 s2 with ⟨b1, b2⟩ | ⟨b1, b2, b3, b4⟩
      · exact absurd b2 a2
      · exact r.inj j k o1 o2 b a3 b3 a4 b4
  · have n : j ≠ i := fun z => by
      subst z
      have hi : j < env.length := by
        have := (List.getElem?_eq_some_iff.mp ej).1
        simpa using this
      rw [List.getElem?_set_self hi] at ej
      cases ej
    rw [List.getElem?_set_ne (Ne.symm n)] at ej ⊢
    exact r.bo j o1 ej
end
end G

set_option maxHeartbeats 1000000
/-! Core4: operators and built-in calls, by values. -/
namespace G
open PySem PySem.Spec PyProof.Rows L2

section
variable {C : Nat → Addr} {K : PySem.W.Frag} {H : Hp} {ω ρ U : List Addr} {h : AH} {Q : VK}
/-- what a value's end wants -/
abbrev EndD (C : Nat → Addr) (K : PySem.W.Frag) (ω ρ U : List Addr) (h : AH) (H : Hp) (P : D → Prop) (Q : VK) : Prop :=
  ∀ (z : D) (w : V) (H' : Hp), HR C K ω ρ U h H' → Stp ω U H ρ H' ρ → RD K H' ρ (ms ω ρ U) z w → P z → Q w H'
theorem RDs.reps {K : PySem.W.Frag} {H : Hp} {ρ : List Addr} {m : Addr → Prop} {xs : List D} {vs : List V} (r : RDs K H ρ m xs vs) : ∀ n : Nat, RDs K H ρ m (List.replicate n xs).flatten (List.replicate n vs).flatten
  | 0 => .nil
  | n + 1 => by simp only [List.replicate_succ, List.flatten_cons]; exact r.append (r.reps n)
theorem tuple_mul1 (l : Addr) (items : Array Value) (n : Nat) (dd : Option Addr) (sl : Array (Option Value)) (u : Tok) :
    Meets (Builtin.«tuple.__mul__» ⟨[.ref l, .int 1 u], []⟩) (fun _ R s => s.heap.get? l = some { cls := .type "tuple", dict := dd, data := .seq items n, slots := sl } ∧ R (.ok (.ret (Value.ref l))) s) :=
  .of_wp fun prog w A R s h => by
    obtain ⟨hp, g, d, tk, os⟩ := s
    obtain ⟨hl, h⟩ := h
    have f1 := AutoSeq1.idx_int
    have c0 : (decide ((1 : Int) < -(2 ^ 63)) || decide ((1 : Int) ≥ 2 ^ 63)) = false := by decide
    have c1 : (items.isEmpty || (1 : Int) == 1) = true := by simp
    wp_walk using wpAny_loadPart' hl
    repeat (first
      | (refine wpAny_ite_false (decide_eq_false (by rw [c0]; exact Bool.false_ne_true)) ?_; wp_walk using wpAny_loadPart' hl)
      | (refine wpAny_ite_true (decide_eq_true (by rw [c1])) ?_; wp_walk using wpAny_loadPart' hl))
    exact ⟨_, rfl, h⟩
/-- (..) * 1 -/
def rRepT1 (K : PySem.W.Frag) : R2 := fun x y H Q => ∃ l xs, x = .ref l ∧ y = .int 1 ∧ SqT K H l xs ∧ Q (.ref l) H
theorem op_repT1 {X : Cx} : OpR X (binaryOp .Mult) (rRepT1 X.K) := by
  intro pins s σ H x y v u Q I rx ry h
  obtain ⟨l, xs, rfl, rfl, hT, q⟩ := h
  cases rx
  obtain ⟨t, rfl⟩ := ry
  obtain ⟨its, r, ⟨⟨cls, dd, data, sl⟩, ho, hc, n, hd⟩, hs⟩ := I.tuple hT
  simp only at hc hd
  subst hc hd
  refine wpAny_binaryOp_repeat_ref (T := "tuple") (U := "int") (by decide) ⟨_, ho, rfl⟩ (fun s' => typeIs_int s' 1 t) noFill_tuple_mul F.fills_int_mul F.slot_int_rmul repeat_tuple F.slot_int_index.lookup
    (call_meets F.slot_int_rmul (typeIs_int s 1 t) F.entry_int_rmul (F.args_int_rmul_2 _ _) (int_rmul_tuple 1 t l its.toArray n dd sl)
      ⟨ho, rfl, ⟨_, ho, rfl⟩, call_meets F.slot_tuple_mul ⟨_, ho, rfl⟩ F.entry_tuple_mul (F.args_tuple_mul_2 _ _) (tuple_mul1 l its.toArray n dd sl t) ⟨ho, ?_⟩⟩)
  exact ⟨.ref l, _, I, rfl, q⟩
theorem Un.at' {fs : List Addr} {H Hj : Hp} {h hj h' : Heap} {a : Addr} {ob : HO} (u : Un fs [] H Hj h hj) (k : ∀ b o, b < h.objs.size → hj.get? b = some o → h'.get? b = some o) (ha : h.objs.size ≤ a) (hn : H a = none) : Un fs [] H (upd Hj a ob) h h' := by
  have na : ∀ b o, h.get? b = some o → b ≠ a := fun b o e => Nat.ne_of_lt (Nat.lt_of_lt_of_le (Heap.lt_size e) ha)
  have nh : ∀ b o, H b = some o → b ≠ a := fun b o e z => by rw [z, hn] at e; cases e
  refine ⟨fun b o e n hf hx => k b o (Heap.lt_size e) (u.keep b o e n hf hx), fun b o e n hf hx => ?_, fun b o e n hx => ?_, fun b o e hx => ?_, fun b xs e => ?_, fun b o v e => ?_, fun b ps e => ?_⟩
  · obtain ⟨sl, q⟩ := u.slot b o e n hf hx
    exact ⟨sl, k b _ (Heap.lt_size e) q⟩
  · rw [upd_ne (na b o e)]; exact u.free b o e n hx
  · obtain ⟨o', q⟩ := u.there b o e hx
    exact ⟨o', k b _ (Heap.lt_size e) q⟩
  · rw [upd_ne (nh b _ e)]; exact u.tups b xs e
  · rw [upd_ne (nh b _ e)]; exact u.frzs b o v e
  · rw [upd_ne (nh b _ e)]; exact u.tbls b ps e
theorem HOk.open' {P : Program} {w : World} {H : Hp} {h h' : Heap} {a e : Addr} {ob : HO} (x : HOk P w H h) (na : H a = none) (ne : H e = none) (k : ∀ b u, b ≠ a → b ≠ e → h.get? b = some u → h'.get? b = some u) (new : ObjOk P w (upd H a ob) h' a ob) : HOk P w (upd H a ob) h' := by
  intro b u q
  by_cases hb : b = a
  · subst hb; rw [upd_same] at q; cases q; exact new
  · rw [upd_ne hb] at q
    have nz : ∀ c v, H c = some v → c ≠ a ∧ c ≠ e := fun c v r => ⟨(fun z => by rw [z, na] at r; cases r), (fun z => by rw [z, ne] at r; cases r)⟩
    refine (x b u q).stay (fun c v hc r => ?_) (fun c r => by rw [upd_ne (nz c _ r).1]; exact r) fun c xs r => by rw [upd_ne (nz c _ r).1]; exact r
    rcases hc with hc | hc
    · subst hc
      exact k c v (nz c _ q).1 (nz c _ q).2 r
    · exact k c v (nz c _ hc).1 (nz c _ hc).2 r
theorem tuple_mul0 (l : Addr) (items : Array Value) (n : Nat) (dd : Option Addr) (sl : Array (Option Value)) (u : Tok) (k : Int) (hk : k ≤ 0) (hk2 : -(2 ^ 63) ≤ k) (hi : items.isEmpty = false) :
    Meets (Builtin.«tuple.__mul__» ⟨[.ref l, .int k u], []⟩) (fun _ R s => s.heap.get? l = some { cls := .type "tuple", dict := dd, data := .seq items n, slots := sl } ∧
      R (.ok (.ret (.ref s.heap.objs.size))) { s with heap := s.heap.push { cls := .type "tuple", data := .seq #[] } }) :=
  .of_wp fun prog w A R s h => by
    obtain ⟨hp, g, d, tk, os⟩ := s
    obtain ⟨hl, h⟩ := h
    have f1 := AutoSeq1.idx_int
    have c0 : (decide (k < -(2 ^ 63)) || decide (k ≥ 2 ^ 63)) = false := by simp; omega
    have c1 : (items.isEmpty || k == 1) = false := by rw [hi]; simp; omega
    have hp0 : (items.size : Int) * k ≤ 0 := by
      have := Int.mul_le_mul_of_nonneg_left hk (Int.natCast_nonneg items.size)
      rw [Int.mul_zero] at this; exact this
    have c3 : ¬ (items.size : Int) * k > (2 ^ 63 - 1) / 8 := by omega
    have c4 : Builtin.Tuple.tupleTooMany (↑items.size * k) = false := decide_eq_false (by have : (0 : Int) ≤ (sizeLine : Nat) := Int.natCast_nonneg _; omega)
    have c5 : k.toNat = 0 := by omega
    wp_walk using wpAny_loadPart' hl
    repeat (first
      | (refine wpAny_ite_false (decide_eq_false (by rw [c0]; exact Bool.false_ne_true)) ?_; wp_walk using wpAny_loadPart' hl)
      | (refine wpAny_ite_false (decide_eq_false (by rw [c1]; exact Bool.false_ne_true)) ?_; wp_walk using wpAny_loadPart' hl))
    all_goals exact ⟨_, rfl, h⟩
/-- (..) * 0 -/
def rRepT0 (K : PySem.W.Frag) : R2 := fun x y H Q => ∃ l k xs, x = .ref l ∧ y = .int k ∧ -(2 ^ 63) ≤ k ∧ k ≤ 0 ∧ xs ≠ [] ∧ SqT K H l xs ∧ ∀ p, H p = none → Q (.ref p) (upd H p (.tup []))
theorem op_repT0 {X : Cx} : OpR X (binaryOp .Mult) (rRepT0 X.K) := by
  intro pins s σ H x y v u Q I rx ry h
  obtain ⟨l, k, xs, rfl, rfl, hk2, hk, hne, hT, q⟩ := h
  cases rx
  obtain ⟨t, rfl⟩ := ry
  obtain ⟨its, r, ⟨⟨cls, dd, data, sl⟩, ho, hc, n, hd⟩, hs⟩ := I.tuple hT
  simp only at hc hd
  subst hc hd
  have hi : its.toArray.isEmpty = false := by
    have := r.length
    cases its with
    | nil => cases xs with
      | nil => exact absurd rfl hne
      | cons _ _ => simp at this
    | cons a b => rfl
  refine wpAny_binaryOp_repeat_ref (T := "tuple") (U := "int") (by decide) ⟨_, ho, rfl⟩ (fun s' => typeIs_int s' k t) noFill_tuple_mul F.fills_int_mul F.slot_int_rmul repeat_tuple F.slot_int_index.lookup
    (call_meets F.slot_int_rmul (typeIs_int s k t) F.entry_int_rmul (F.args_int_rmul_2 _ _) (int_rmul_tuple k t l its.toArray n dd sl)
      ⟨ho, rfl, ⟨_, ho, rfl⟩, call_meets F.slot_tuple_mul ⟨_, ho, rfl⟩ F.entry_tuple_mul (F.args_tuple_mul_2 _ _) (tuple_mul0 l its.toArray n dd sl t k hk hk2 hi) ⟨ho, ?_⟩⟩)
  refine ⟨.ref s.heap.objs.size, upd H s.heap.objs.size (.tup []), ?_, rfl, q _ I.fresh⟩
  refine I.un (t' := s.toks) (Un.at' Un.refl (fun b o hb e => Heap.get?_push_of_some _ e) (Nat.le_refl _) I.fresh) (HOk.open' (e := s.heap.objs.size) I.hok I.fresh I.fresh (fun b u _ _ e => Heap.get?_push_of_some _ e) ?_)
  exact ⟨Nat.zero_le _, [], .nil, ⟨_, Heap.get?_push_size _ rfl, rfl, 0, rfl⟩⟩
/-! ### + - * // % ** -/
def rBin (K : PySem.W.Frag) (u : Nat) : BO → R2
  | .add => fun x y H Q => (rI0 fun i j => .int (i + j)) x y H Q ∨ (∃ i j, x = .str i ∧ y = .str j ∧ i.length + j.length ≤ sizeLine ∧ Q (.str (i ++ j)) H) ∨ rCatA K x y H Q
  | .sub => rI0 fun i j => .int (i - j)
  | .mul => fun x y H Q => rI CMul (fun i j => .int (i * j)) x y H Q ∨ rRepT K x y H Q ∨ rRepT1 K x y H Q ∨ rRepT0 K x y H Q
  | .fdiv => rI CDiv fun i j => .int (i / j)
  | .mod => rI (fun _ j => 0 < j) fun i j => .int (i % j)
  | .pow => rI CPow fun i j => .int (i ^ j.toNat)
def BO.op : BO → Operator
  | .add => .Add | .sub => .Sub | .mul => .Mult | .fdiv => .FloorDiv | .mod => .Mod | .pow => .Pow
theorem op_bin {X : Cx} (o : BO) : OpR X (binaryOp o.op) (rBin X.K 0 o) := by
  cases o with
  | add => exact op_add.or (op_add_str.or op_catA)
  | sub => exact op_sub
  | mul => exact op_mul.or (op_repT.or (op_repT1.or op_repT0))
  | fdiv => exact op_fdiv
  | mod => exact op_mod
  | pow => exact op_pow
theorem bin_ok (hr : HR C K ω ρ U h H) {o : BO} {d e : D} {x y : V} {P : D → Prop} (rx : RD K H ρ (ms ω ρ U) d x) (ry : RD K H ρ (ms ω ρ U) e y) (w : binW o d e P) (hQ : EndD C K ω ρ U h H P Q) : rBin K 0 o x y H Q := by
  unfold binW at w
  split at w
  · cases rx; cases ry; exact .inl ⟨_, _, rfl, rfl, hQ _ _ _ hr .refl (.int _) w⟩
  · cases rx; cases ry; exact .inr (.inl ⟨_, _, rfl, rfl, w.1, hQ _ _ _ hr .refl (.str _) w.2⟩)
  · cases rx with
    | tup sx rx =>
    cases ry with
    | tup sy ry =>
    obtain ⟨hl, w⟩ := w
    refine .inr (.inr ⟨_, _, _, _, rfl, rfl, SqT.of sx, SqT.of sy, by rw [← rx.length, ← ry.length]; exact hl, fun e => ?_, fun e1 e2 => ?_, fun e1 e2 p hp => ?_⟩)
    · subst e
      cases rx
      exact hQ _ _ _ hr .refl (.tup sy ry) w
    · subst e2
      cases ry
      rw [List.append_nil] at w
      exact hQ _ _ _ hr .refl (.tup sx rx) w
    · exact hQ _ _ _ (hr.laid hp _).1 (hr.laid hp _).2 (hr.new_tup hp (rx.append ry)) w
  · cases rx; cases ry; exact ⟨_, _, rfl, rfl, hQ _ _ _ hr .refl (.int _) w⟩
  · cases rx; cases ry; exact .inl ⟨_, _, rfl, rfl, w.1, hQ _ _ _ hr .refl (.int _) w.2⟩
  · rename_i xs k
    cases rx with
    | tup sx rx =>
    cases ry
    obtain ⟨h0, h1, h2, h3, w⟩ := w
    by_cases e : k = 1
    · subst e
      have e2 : (List.replicate (1 : Int).toNat xs).flatten = xs := by show (List.replicate 1 xs).flatten = xs; simp
      rw [e2] at w
      exact .inr (.inr (.inl ⟨_, _, rfl, rfl, SqT.of sx, hQ _ _ _ hr .refl (.tup sx rx) w⟩))
    · by_cases e0 : k ≤ 0
      · have e2 : (List.replicate k.toNat xs).flatten = [] := by
          have : k.toNat = 0 := by omega
          rw [this]; rfl
        rw [e2] at w
        exact .inr (.inr (.inr ⟨_, _, _, rfl, rfl, h1, e0, fun z => h0 (by subst z; cases rx; rfl), SqT.of sx, fun p hp => hQ _ _ _ (hr.laid hp _).1 (hr.laid hp _).2 (hr.new_tup hp .nil) w⟩))
      refine .inr (.inl ⟨_, _, _, rfl, rfl, SqT.of sx, fun z => h0 ?_, by omega, h2, by rw [← rx.length]; exact h3, fun p hp => ?_⟩)
      · subst z; cases rx; rfl
      · exact hQ _ _ _ (hr.laid hp _).1 (hr.laid hp _).2 (hr.new_tup hp (rx.reps _)) w
  · cases rx; cases ry; exact ⟨_, _, rfl, rfl, w.1, hQ _ _ _ hr .refl (.int _) w.2⟩
  · cases rx; cases ry; exact ⟨_, _, rfl, rfl, w.1, hQ _ _ _ hr .refl (.int _) w.2⟩
  · cases rx; cases ry; exact ⟨_, _, rfl, rfl, w.1, hQ _ _ _ hr .refl (.int _) w.2⟩
  · exact w.elim

/-! ### equality -/
mutual
def D.py : D → PyData
  | .non => .none
  | .bl b => .bool b
  | .int i => .int i
  | .str z => .str z
  | .tup xs => .tuple (D.pys xs)
  | .fz xs => .list (D.pys xs)
  | .ref _ => .none
def D.pys : List D → List PyData
  | [] => []
  | x :: xs => D.py x :: D.pys xs
end
mutual
theorem D.fla_lay : ∀ (d : D) (n : Nat), d.fla n = true → d.py.canLay0 = true ∧ d.py.depth ≤ n
  | .non, _, _ => ⟨rfl, Nat.zero_le _⟩
  | .bl _, _, _ => ⟨rfl, Nat.zero_le _⟩
  | .int _, _, _ => ⟨rfl, Nat.zero_le _⟩
  | .str z, _, e => ⟨e, Nat.zero_le _⟩
  | .tup xs, 0, e => by simp [D.fla] at e
  | .tup xs, n + 1, e => by
    have q := D.flas_lay xs n (by simpa [D.fla] using e)
    exact ⟨by simpa [D.py, PyData.canLay0] using q.1, by simp only [D.py, PyData.depth]; have := q.2; omega⟩
  | .fz xs, 0, e => by simp [D.fla] at e
  | .fz xs, n + 1, e => by
    have q := D.flas_lay xs n (by simpa [D.fla] using e)
    exact ⟨by simpa [D.py, PyData.canLay0] using q.1, by simp only [D.py, PyData.depth]; have := q.2; omega⟩
  | .ref _, _, e => by simp [D.fla] at e
theorem D.flas_lay : ∀ (ds : List D) (n : Nat), D.flas n ds = true → PyData.canLayAll0 (D.pys ds) = true ∧ PyData.depthAll (D.pys ds) ≤ n
  | [], _, _ => ⟨rfl, Nat.zero_le _⟩
  | d :: ds, n, e => by
    simp only [D.flas, Bool.and_eq_true] at e
    have q1 := D.fla_lay d n e.1
    have q2 := D.flas_lay ds n e.2
    refine ⟨by simp only [D.pys, PyData.canLayAll0, q1.1, q2.1, Bool.and_self], ?_⟩
    simp only [D.pys, PyData.depthAll]
    have := q1.2; have := q2.2; omega
end
theorem D.fla_shaped {d : D} (e : d.fla 60 = true) : SeqAt.shaped d.py = true := by
  obtain ⟨a, b⟩ := D.fla_lay d 60 e
  unfold SeqAt.shaped
  rw [a, Bool.true_and]
  exact decide_eq_true (by omega)
theorem D.flas_shaped {ds : List D} (e : D.flas 59 ds = true) : SeqAt.shaped (.list (D.pys ds)) = true := by
  obtain ⟨a, b⟩ := D.flas_lay ds 59 e
  unfold SeqAt.shaped
  have : PyData.canLay0 (.list (D.pys ds)) = true := by simpa [PyData.canLay0] using a
  rw [this, Bool.true_and]
  exact decide_eq_true (by simp only [PyData.depth]; omega)
mutual
theorem D.py_eqv : ∀ (d e : D) (n k : Nat), d.fla n = true → e.fla k = true → PyData.eqv d.py e.py = D.eqv d e := by
  intro d e n k h1 h2
  match d, e with
  | .tup xs, .tup ys =>
    cases n with
    | zero => simp [D.fla] at h1
    | succ n =>
    cases k with
    | zero => simp [D.fla] at h2
    | succ k =>
    have := D.pys_eqv xs ys n k (by simpa [D.fla] using h1) (by simpa [D.fla] using h2)
    simpa [D.py, PyData.eqv, D.eqv] using this
  | .fz xs, .fz ys =>
    cases n with
    | zero => simp [D.fla] at h1
    | succ n =>
    cases k with
    | zero => simp [D.fla] at h2
    | succ k =>
    have := D.pys_eqv xs ys n k (by simpa [D.fla] using h1) (by simpa [D.fla] using h2)
    simpa [D.py, PyData.eqv, D.eqv] using this
  | .ref _, _ => simp [D.fla] at h1
  | _, .ref _ => simp [D.fla] at h2
  | .non, .non => simp [D.py, PyData.eqv, D.eqv]
  | .non, .bl _ => simp [D.py, PyData.eqv, D.eqv]
  | .non, .int _ => simp [D.py, PyData.eqv, D.eqv]
  | .non, .str _ => simp [D.py, PyData.eqv, D.eqv]
  | .non, .tup _ => simp [D.py, PyData.eqv, D.eqv]
  | .non, .fz _ => simp [D.py, PyData.eqv, D.eqv]
  | .bl _, .non => simp [D.py, PyData.eqv, D.eqv]
  | .bl _, .bl _ => simp [D.py, PyData.eqv, D.eqv]
  | .bl _, .int _ => simp [D.py, PyData.eqv, D.eqv]
  | .bl _, .str _ => simp [D.py, PyData.eqv, D.eqv]
  | .bl _, .tup _ => simp [D.py, PyData.eqv, D.eqv]
  | .bl _, .fz _ => simp [D.py, PyData.eqv, D.eqv]
  | .int _, .non => simp [D.py, PyData.eqv, D.eqv]
  | .int _, .bl _ => simp [D.py, PyData.eqv, D.eqv]
  | .int _, .int _ => simp [D.py, PyData.eqv, D.eqv]
  | .int _, .str _ => simp [D.py, PyData.eqv, D.eqv]
  | .int _, .tup _ => simp [D.py, PyData.eqv, D.eqv]
  | .int _, .fz _ => simp [D.py, PyData.eqv, D.eqv]
  | .str _, .non => simp [D.py, PyData.eqv, D.eqv]
  | .str _, .bl _ => simp [D.py, PyData.eqv, D.eqv]
  | .str _, .int _ => simp [D.py, PyData.eqv, D.eqv]
  | .str _, .str _ => simp [D.py, PyData.eqv, D.eqv]
  | .str _, .tup _ => simp [D.py, PyData.eqv, D.eqv]
  | .str _, .fz _ => simp [D.py, PyData.eqv, D.eqv]
  | .tup _, .non => simp [D.py, PyData.eqv, D.eqv]
  | .tup _, .bl _ => simp [D.py, PyData.eqv, D.eqv]
  | .tup _, .int _ => simp [D.py, PyData.eqv, D.eqv]
  | .tup _, .str _ => simp [D.py, PyData.eqv, D.eqv]
  | .tup _, .fz _ => simp [D.py, PyData.eqv, D.eqv]
  | .fz _, .non => simp [D.py, PyData.eqv, D.eqv]
  | .fz _, .bl _ => simp [D.py, PyData.eqv, D.eqv]
  | .fz _, .int _ => simp [D.py, PyData.eqv, D.eqv]
  | .fz _, .str _ => simp [D.py, PyData.eqv, D.eqv]
  | .fz _, .tup _ => simp [D.py, PyData.eqv, D.eqv]
theorem D.pys_eqv : ∀ (ds es : List D) (n k : Nat), D.flas n ds = true → D.flas k es = true → PyData.eqvAll (D.pys ds) (D.pys es) = D.eqvs ds es
  | [], [], _, _, _, _ => rfl
  | [], _ :: _, _, _, _, _ => rfl
  | _ :: _, [], _, _, _, _ => rfl
  | d :: ds, e :: es, n, k, h1, h2 => by
    simp only [D.flas, Bool.and_eq_true] at h1 h2
    simp only [D.pys, PyData.eqvAll, D.eqvs, D.py_eqv d e n k h1.1 h2.1, D.pys_eqv ds es n k h1.2 h2.2]
end
mutual
theorem RD.dp {m : Addr → Prop} : ∀ {d : D} {v : V} {n : Nat}, RD K H ρ m d v → d.fla n = true → Dp K H v d.py
  | _, _, _, .non, _ => .non
  | _, _, _, .bl b, _ => .bl b
  | _, _, _, .int b, _ => .int b
  | _, _, _, .str b, _ => .str b
  | _, _, 0, .tup _ _, e => by simp [D.fla] at e
  | _, _, n + 1, .tup s r, e => .tup (SqT.of s) (RDs.dp (n := n) r (by simpa [D.fla] using e))
  | _, _, 0, .fz _ _, e => by simp [D.fla] at e
  | _, _, n + 1, .fz s r, e => .lst s.sq (RDs.dp (n := n) r (by simpa [D.fla] using e))
  | _, _, _, .ref _, e => by simp [D.fla] at e
theorem RDs.dp {m : Addr → Prop} : ∀ {d : List D} {v : List V} {n : Nat}, RDs K H ρ m d v → D.flas n d = true → DpAll K H v (D.pys d)
  | _, _, _, .nil, _ => .nil
  | _, _, n, .cons r rs, e => by
    simp only [D.flas, Bool.and_eq_true] at e
    exact .cons (RD.dp (n := n) r e.1) (RDs.dp (n := n) rs e.2)
end
theorem RV.obj (hr : HR C K ω ρ U h H) {x : VV} {v : V} {o : AO} (r : RV C K ω ρ U H x v) (e : x.obj h = some o) :
    ∃ a, v = .ref a ∧ (RO C K H ρ (ms ω ρ U) o a ∨ ∃ ds vs, o = .lst ds ∧ FzL K H (ms ω ρ U) a vs ∧ RDs K H ρ (ms ω ρ U) ds vs) := by
  cases x with
  | tw o' => cases e; obtain ⟨a, e, _, r⟩ := r; exact ⟨a, e, .inl r⟩
  | bw o' => cases e; obtain ⟨a, e, _, r⟩ := r; exact ⟨a, e, .inl r⟩
  | d d =>
    cases d with
    | ref n =>
      cases r with
      | ref hn =>
      obtain ⟨a, e1, r1⟩ := hr.hp n o e
      rw [hn] at e1; cases e1
      exact ⟨_, rfl, .inl r1⟩
    | fz xs =>
      cases e
      cases r with
      | fz s q => exact ⟨_, rfl, .inr ⟨_, _, rfl, s, q⟩⟩
    | _ => cases e
theorem RV.list (hr : HR C K ω ρ U h H) {x : VV} {v : V} {xs : List D} (r : RV C K ω ρ U H x v) (e : (x.obj h).bind AO.list = some xs) :
    ∃ a vs, v = .ref a ∧ SqL K H a vs ∧ RDs K H ρ (ms ω ρ U) xs vs := by
  cases eo : x.obj h with
  | none => rw [eo] at e; cases e
  | some o =>
    rw [eo] at e
    cases o with
    | lst ds =>
      cases e
      obtain ⟨a, rfl, q⟩ := r.obj hr eo
      rcases q with ⟨vs, h1, h2⟩ | ⟨ds', vs, e', h1, h2⟩
      · exact ⟨a, vs, rfl, SqL.of h1, h2⟩
      · cases e'; exact ⟨a, vs, rfl, h1.sq, h2⟩
    | _ => cases e
theorem RV.seq (hr : HR C K ω ρ U h H) {x : VV} {v : V} {xs : List D} (r : RV C K ω ρ U H x v) (e : x.seq h = some xs) :
    ∃ a vs, v = .ref a ∧ (SqL K H a vs ∨ SqT K H a vs) ∧ RDs K H ρ (ms ω ρ U) xs vs := by
  unfold VV.seq at e
  split at e
  · cases e
    cases r with
    | tup s q => exact ⟨_, _, rfl, .inr (SqT.of s), q⟩
  · obtain ⟨a, vs, h1, h2, h3⟩ := r.list hr e
    exact ⟨a, vs, h1, .inl h2, h3⟩
theorem RV.dp (hr : HR C K ω ρ U h H) {x : VV} {v : V} {d : D} (r : RV C K ω ρ U H x v) (e : x.dat h = some d) (f : d.fla 60 = true) : Dp K H v d.py := by
  have lst : ∀ (o : AO), x.obj h = some o → o.list.map D.fz = some d → Dp K H v d.py := fun o eo e => by
    cases o with
    | lst ds =>
      cases e
      obtain ⟨a, vs, rfl, s, q⟩ := r.list hr (xs := ds) (by rw [eo]; rfl)
      exact .lst s (q.dp (n := 59) (by simpa [D.fla] using f))
    | _ => cases e
  cases x with
  | tw o => exact lst o rfl e
  | bw o => exact lst o rfl e
  | d d' =>
    cases d' with
    | ref n =>
      have e : (h[n]?).bind (fun o => o.list.map D.fz) = some d := e
      cases eo : h[n]? with
      | none => rw [eo] at e; cases e
      | some o => rw [eo] at e; exact lst o eo e
    | non => cases e; exact RD.dp r f
    | bl _ => cases e; exact RD.dp r f
    | int _ => cases e; exact RD.dp r f
    | str _ => cases e; exact RD.dp r f
    | tup _ => cases e; exact RD.dp r f
    | fz _ => cases e; exact RD.dp r f
mutual
theorem DV.dp (hr : HR C K ω ρ U h H) : ∀ {d d' : D} {v : V} {n : Nat}, DV h d d' → RD K H ρ (ms ω ρ U) d v → d'.fla n = true → Dp K H v d'.py
  | _, _, _, _, .flat, r, f => r.dp f
  | _, _, _, n, .ref e s, r, f => by
    cases n with
    | zero => simp [D.fla] at f
    | succ n =>
      obtain ⟨a, vs, rfl, s1, q⟩ := RV.list (x := .d (.ref _)) hr r (xs := _) (by show (h[_]?).bind AO.list = _; rw [e]; rfl)
      exact .lst s1 (DVs.dp hr s q (n := n) (by simpa [D.fla] using f))
  | _, _, _, n, .tup s, r, f => by
    cases n with
    | zero => simp [D.fla] at f
    | succ n =>
      cases r with
      | tup s1 q => exact .tup (SqT.of s1) (DVs.dp hr s q (n := n) (by simpa [D.fla] using f))
  | _, _, _, n, .fz s, r, f => by
    cases n with
    | zero => simp [D.fla] at f
    | succ n =>
      cases r with
      | fz s1 q => exact .lst s1.sq (DVs.dp hr s q (n := n) (by simpa [D.fla] using f))
theorem DVs.dp (hr : HR C K ω ρ U h H) : ∀ {d d' : List D} {v : List V} {n : Nat}, DVs h d d' → RDs K H ρ (ms ω ρ U) d v → D.flas n d' = true → DpAll K H v (D.pys d')
  | _, _, _, _, .nil, r, _ => by cases r; exact .nil
  | _, _, _, n, .cons s ss, r, f => by
    cases r with
    | cons r rs =>
      simp only [D.flas, Bool.and_eq_true] at f
      exact .cons (DV.dp hr s r f.1) (DVs.dp hr ss rs f.2)
end
theorem RV.dv (hr : HR C K ω ρ U h H) {x : VV} {v : V} {d : D} (r : RV C K ω ρ U H x v) (e : x.dv h d) (f : d.fla 60 = true) : Dp K H v d.py := by
  rcases e with e | e
  · exact r.dp hr e f
  have own : ∀ (xs : List D), x.obj h = some (.lst xs) → (∃ ys, d = .fz ys ∧ DVs h xs ys) → Dp K H v d.py := fun xs eo e => by
    obtain ⟨ys, rfl, s⟩ := e
    obtain ⟨a, vs, rfl, s1, q⟩ := r.list hr (xs := xs) (by rw [eo]; rfl)
    exact .lst s1 (DVs.dp hr s q (n := 59) (by simpa [D.fla] using f))
  cases x with
  | d d' => exact DV.dp hr e r f
  | tw o =>
    cases o with
    | lst xs => exact own xs rfl e
    | _ => cases e
  | bw o =>
    cases o with
    | lst xs => exact own xs rfl e
    | _ => cases e
theorem RD.isNon {m : Addr → Prop} {d : D} {v : V} (r : RD K H ρ m d v) : decide (v = .non) = (match d with | .non => true | _ => false) := by
  cases r <;> simp
theorem RV.isNon {x : VV} {v : V} (r : RV C K ω ρ U H x v) : decide (v = .non) = (match x with | .d .non => true | _ => false) := by
  cases x with
  | d d => have := RD.isNon r; rw [this]; cases d <;> rfl
  | tw o => obtain ⟨a, rfl, _⟩ := r; simp
  | bw o => obtain ⟨a, rfl, _⟩ := r; simp
theorem RK.get {κ : Type} [DecidableEq κ] {m : Addr → Prop} (k : κ) : ∀ {kvs : List (κ × D)} {ws : List (κ × V)}, RK K H ρ m kvs ws →
    (gV kvs k = none ∧ valV ws k = none) ∨ ∃ d v, gV kvs k = some d ∧ valV ws k = some v ∧ RD K H ρ m d v
  | [], [], .nil => .inl ⟨rfl, rfl⟩
  | p :: kvs, q :: ws, .cons r t => by
    obtain ⟨e, rd⟩ := r
    by_cases hk : p.1 = k
    · exact .inr ⟨p.2, q.2, by simp [gV, List.find?_cons, hk], by rw [valV_pos (e ▸ hk)], rd⟩
    · have := RK.get k t
      have e1 : gV (p :: kvs) k = gV kvs k := by simp [gV, List.find?_cons, hk]
      rw [e1, valV_neg (fun z => hk (e.trans z))]
      exact this
/-- a look into a dict -/
theorem RV.dget (hr : HR C K ω ρ U h H) {x : VV} {v y : V} {o : AO} {k : D} {r : Option D} (rx : RV C K ω ρ U H x v) (eo : x.obj h = some o) (rk : RD K H ρ (ms ω ρ U) k y) (e : o.get k = some r) :
    ∃ a rv, v = .ref a ∧ DGet H a y rv ∧ ((r = none ∧ rv = none) ∨ ∃ d w, r = some d ∧ rv = some w ∧ RD K H ρ (ms ω ρ U) d w) := by
  obtain ⟨a, rfl, q⟩ := rx.obj hr eo
  cases o with
  | lst ds => cases e
  | ins c fs => cases e
  | dK kvs =>
    rcases q with ⟨ws, h1, h2⟩ | ⟨_, _, z, _⟩
    · simp only [AO.get, Option.map_eq_some_iff] at e
      obtain ⟨j, ej, er⟩ := e
      cases rk.key ej
      refine ⟨a, valV ws j, rfl, DGet.k h1, ?_⟩
      rcases RK.get j h2 with ⟨g1, g2⟩ | ⟨d, w, g1, g2, g3⟩
      · exact .inl ⟨er ▸ g1, g2⟩
      · exact .inr ⟨d, w, er ▸ g1, g2, g3⟩
    · cases z
  | dT kvs =>
    rcases q with ⟨ws, h1, h2⟩ | ⟨_, _, z, _⟩
    · simp only [AO.get, Option.map_eq_some_iff] at e
      obtain ⟨j, ej, er⟩ := e
      cases rk with
      | tup s rs =>
        rename_i b vs ds
        have ev := rs.keysOf (ks := j) (by simpa [D.keys] using ej)
        subst ev
        refine ⟨a, valV ws j, rfl, DGet.t h1 s, ?_⟩
        rcases RK.get j h2 with ⟨g1, g2⟩ | ⟨d, w, g1, g2, g3⟩
        · exact .inl ⟨er ▸ g1, g2⟩
        · exact .inr ⟨d, w, er ▸ g1, g2, g3⟩
      | _ => simp [D.keys] at ej
    · cases z

theorem RK.any {κ : Type} [DecidableEq κ] {m : Addr → Prop} (k : κ) : ∀ {kvs : List (κ × D)} {ws : List (κ × V)}, RK K H ρ m kvs ws → (kvs.any fun kv => decide (kv.1 = k)) = ws.any fun kv => decide (kv.1 = k)
  | [], [], .nil => rfl
  | p :: kvs, q :: ws, .cons r t => by simp only [List.any_cons, r.1, RK.any k t]
theorem RK.mapPut {κ : Type} [DecidableEq κ] {m : Addr → Prop} (k : κ) {d : D} {v : V} (rd : RD K H ρ m d v) : ∀ {kvs : List (κ × D)} {ws : List (κ × V)}, RK K H ρ m kvs ws →
    RK K H ρ m (kvs.map fun kv => if kv.1 = k then (kv.1, d) else kv) (ws.map fun kv => if kv.1 = k then (kv.1, v) else kv)
  | [], [], .nil => .nil
  | p :: kvs, q :: ws, .cons r t => by
    refine .cons ?_ (RK.mapPut k rd t)
    dsimp only
    by_cases hk : p.1 = k
    · rw [if_pos hk, if_pos (r.1 ▸ hk)]; exact ⟨r.1, rd⟩
    · rw [if_neg hk, if_neg (fun z => hk (r.1.trans z))]; exact r
theorem RK.app {κ : Type} {m : Addr → Prop} : ∀ {kvs : List (κ × D)} {ws : List (κ × V)} {kvs' : List (κ × D)} {ws' : List (κ × V)}, RK K H ρ m kvs ws → RK K H ρ m kvs' ws' → RK K H ρ m (kvs ++ kvs') (ws ++ ws')
  | [], [], _, _, .nil, s => s
  | p :: kvs, q :: ws, _, _, .cons r t, s => .cons r (RK.app t s)
theorem RK.put {κ : Type} [DecidableEq κ] {m : Addr → Prop} (k : κ) {d : D} {v : V} (rd : RD K H ρ m d v) {kvs : List (κ × D)} {ws : List (κ × V)} (h : RK K H ρ m kvs ws) : RK K H ρ m (pV kvs k d) (putK ws k v) := by
  unfold pV putK
  rw [RK.any k h]
  split
  · exact RK.mapPut k rd h
  · exact RK.app h (.cons ⟨rfl, rd⟩ .nil)
theorem RK.length {κ : Type} {m : Addr → Prop} {kvs : List (κ × D)} {ws : List (κ × V)} (h : RK K H ρ m kvs ws) : kvs.length = ws.length := Paired.length h

/-! ### comparisons -/
def CO.op : CO → CmpOp
  | .eq => .Eq | .ne => .NotEq | .lt => .Lt | .le => .LtE | .gt => .Gt | .ge => .GtE | .isN => .Is | .notN => .IsNot | .isB => .Is | .notB => .IsNot | .isIn => .In | .notIn => .NotIn | .ltD => .Lt | .leD => .LtE | .gtD => .Gt | .geD => .GtE
/-! ### the order of data -/
mutual
theorem D.py_alike : ∀ (a b : D), D.alike a b = true → PySem.W.alike a.py b.py = true ∧ a.py ≠ .none := by
  intro a b h
  match a, b with
  | .bl _, .bl _ => exact ⟨rfl, fun z => (by cases z)⟩
  | .int _, .int _ => exact ⟨rfl, fun z => (by cases z)⟩
  | .str _, .str _ => simp [D.alike] at h
  | .fz xs, .fz ys => exact ⟨by simpa [D.py, PySem.W.alike] using D.pys_alike xs ys (by simpa [D.alike] using h), fun z => (by simp [D.py] at z)⟩
  | .tup xs, .tup ys => exact ⟨by simpa [D.py, PySem.W.alike] using D.pys_alike xs ys (by simpa [D.alike] using h), fun z => (by simp [D.py] at z)⟩
  | .non, _ => simp [D.alike] at h
  | .ref _, _ => simp [D.alike] at h
  | .bl _, .non => simp [D.alike] at h
  | .bl _, .int _ => simp [D.alike] at h
  | .bl _, .str _ => simp [D.alike] at h
  | .bl _, .fz _ => simp [D.alike] at h
  | .bl _, .tup _ => simp [D.alike] at h
  | .bl _, .ref _ => simp [D.alike] at h
  | .int _, .non => simp [D.alike] at h
  | .int _, .bl _ => simp [D.alike] at h
  | .int _, .str _ => simp [D.alike] at h
  | .int _, .fz _ => simp [D.alike] at h
  | .int _, .tup _ => simp [D.alike] at h
  | .int _, .ref _ => simp [D.alike] at h
  | .str _, .non => simp [D.alike] at h
  | .str _, .bl _ => simp [D.alike] at h
  | .str _, .int _ => simp [D.alike] at h
  | .str _, .fz _ => simp [D.alike] at h
  | .str _, .tup _ => simp [D.alike] at h
  | .str _, .ref _ => simp [D.alike] at h
  | .fz _, .non => simp [D.alike] at h
  | .fz _, .bl _ => simp [D.alike] at h
  | .fz _, .int _ => simp [D.alike] at h
  | .fz _, .str _ => simp [D.alike] at h
  | .fz _, .tup _ => simp [D.alike] at h
  | .fz _, .ref _ => simp [D.alike] at h
  | .tup _, .non => simp [D.alike] at h
  | .tup _, .bl _ => simp [D.alike] at h
  | .tup _, .int _ => simp [D.alike] at h
  | .tup _, .str _ => simp [D.alike] at h
  | .tup _, .fz _ => simp [D.alike] at h
  | .tup _, .ref _ => simp [D.alike] at h
theorem D.pys_alike : ∀ (xs ys : List D), D.alikes xs ys = true → PySem.W.alikeAll (D.pys xs) (D.pys ys) = true
  | [], _, _ => by simp [D.pys, PySem.W.alikeAll]
  | _ :: _, [], _ => by simp [D.pys, PySem.W.alikeAll]
  | x :: xs, y :: ys, h => by
    simp only [D.alikes, Bool.and_eq_true] at h
    simp only [D.pys, PySem.W.alikeAll, (D.py_alike x y h.1).1, D.pys_alike xs ys h.2, Bool.and_self]
end
mutual
theorem D.alike_comm : ∀ (a b : D), D.alike a b = D.alike b a := by
  intro a b
  cases a <;> cases b <;> simp only [D.alike] <;> exact D.alikes_comm _ _
theorem D.alikes_comm : ∀ (a b : List D), D.alikes a b = D.alikes b a
  | [], [] => rfl
  | [], _ :: _ => by simp [D.alikes]
  | _ :: _, [] => by simp [D.alikes]
  | x :: xs, y :: ys => by simp only [D.alikes, D.alike_comm x y, D.alikes_comm xs ys]
end
theorem lt_atom {p q : Int ⊕ List Nat} : PyProof.Rows.lexLt PyProof.Rows.itemOrd [p] [q] = PyProof.Rows.itemOrd.blt p q := by
  by_cases h : p = q
  · subst h
    rw [PyProof.Rows.lex_self (O := PyProof.Rows.itemOrd)]
    rw [PyProof.Rows.itemOrd.irrefl]
    rfl
  · exact PyProof.Rows.lex_diff (O := PyProof.Rows.itemOrd) h
mutual
theorem D.py_lt : ∀ (a b : D) (n k : Nat), a.fla n = true → b.fla k = true → D.alike a b = true → PySem.W.dataLt a.py b.py = D.ltd a b := by
  intro a b n k f1 f2 h
  match a, b with
  | .bl x, .bl y =>
    show PyProof.Rows.lexLt PyProof.Rows.itemOrd [.inl _] [.inl _] = _
    rw [lt_atom]
    cases x <;> cases y <;> rfl
  | .int i, .int j =>
    show PyProof.Rows.lexLt PyProof.Rows.itemOrd [.inl _] [.inl _] = _
    rw [lt_atom]
    rfl
  | .str _, .str _ => simp [D.alike] at h
  | .fz xs, .fz ys =>
    cases n with
    | zero => simp [D.fla] at f1
    | succ n =>
    cases k with
    | zero => simp [D.fla] at f2
    | succ k =>
    have := D.pys_lt xs ys n k (by simpa [D.fla] using f1) (by simpa [D.fla] using f2) (by simpa [D.alike] using h)
    show PyProof.Rows.lexLt PyProof.Rows.itemOrd (PySem.W.keyToks (.list (D.pys xs))) (PySem.W.keyToks (.list (D.pys ys))) = _
    simp only [PySem.W.keyToks, D.ltd]
    exact this
  | .tup xs, .tup ys =>
    cases n with
    | zero => simp [D.fla] at f1
    | succ n =>
    cases k with
    | zero => simp [D.fla] at f2
    | succ k =>
    have := D.pys_lt xs ys n k (by simpa [D.fla] using f1) (by simpa [D.fla] using f2) (by simpa [D.alike] using h)
    show PyProof.Rows.lexLt PyProof.Rows.itemOrd (PySem.W.keyToks (.tuple (D.pys xs))) (PySem.W.keyToks (.tuple (D.pys ys))) = _
    simp only [PySem.W.keyToks, D.ltd]
    exact this
  | .non, _ => simp [D.alike] at h
  | .ref _, _ => simp [D.alike] at h
  | .bl _, .non => simp [D.alike] at h
  | .bl _, .int _ => simp [D.alike] at h
  | .bl _, .str _ => simp [D.alike] at h
  | .bl _, .fz _ => simp [D.alike] at h
  | .bl _, .tup _ => simp [D.alike] at h
  | .bl _, .ref _ => simp [D.alike] at h
  | .int _, .non => simp [D.alike] at h
  | .int _, .bl _ => simp [D.alike] at h
  | .int _, .str _ => simp [D.alike] at h
  | .int _, .fz _ => simp [D.alike] at h
  | .int _, .tup _ => simp [D.alike] at h
  | .int _, .ref _ => simp [D.alike] at h
  | .str _, .non => simp [D.alike] at h
  | .str _, .bl _ => simp [D.alike] at h
  | .str _, .int _ => simp [D.alike] at h
  | .str _, .fz _ => simp [D.alike] at h
  | .str _, .tup _ => simp [D.alike] at h
  | .str _, .ref _ => simp [D.alike] at h
  | .fz _, .non => simp [D.alike] at h
  | .fz _, .bl _ => simp [D.alike] at h
  | .fz _, .int _ => simp [D.alike] at h
  | .fz _, .str _ => simp [D.alike] at h
  | .fz _, .tup _ => simp [D.alike] at h
  | .fz _, .ref _ => simp [D.alike] at h
  | .tup _, .non => simp [D.alike] at h
  | .tup _, .bl _ => simp [D.alike] at h
  | .tup _, .int _ => simp [D.alike] at h
  | .tup _, .str _ => simp [D.alike] at h
  | .tup _, .fz _ => simp [D.alike] at h
  | .tup _, .ref _ => simp [D.alike] at h
theorem D.pys_lt : ∀ (xs ys : List D) (n k : Nat), D.flas n xs = true → D.flas k ys = true → D.alikes xs ys = true → PyProof.Rows.lexLt PyProof.Rows.itemOrd (PySem.W.keyToksAll (D.pys xs)) (PySem.W.keyToksAll (D.pys ys)) = D.ltds xs ys
  | [], [], _, _, _, _, _ => by
    simp only [D.pys, PySem.W.keyToksAll, D.ltds]
    rw [lt_atom]
    rfl
  | [], y :: ys, _, _, _, _, _ => by
    simp only [D.pys, PySem.W.keyToksAll, D.ltds]
    exact (PyProof.Rows.lex_diff (O := PyProof.Rows.itemOrd) (show (Sum.inl 0 : Int ⊕ List Nat) ≠ Sum.inl 1 from by decide)).trans rfl
  | x :: xs, [], _, _, _, _, _ => by
    simp only [D.pys, PySem.W.keyToksAll, D.ltds]
    exact (PyProof.Rows.lex_diff (O := PyProof.Rows.itemOrd) (show (Sum.inl 1 : Int ⊕ List Nat) ≠ Sum.inl 0 from by decide)).trans rfl
  | x :: xs, y :: ys, n, k, f1, f2, h => by
    simp only [D.alikes, Bool.and_eq_true] at h
    simp only [D.flas, Bool.and_eq_true] at f1 f2
    simp only [D.pys, PySem.W.keyToksAll, D.ltds]
    rw [PyProof.Rows.lex_self (O := PyProof.Rows.itemOrd)]
    obtain ⟨e1, e2⟩ := PySem.W.toks_eqv x.py y.py (D.py_alike x y h.1).1
    rw [D.py_eqv x y n k f1.1 f2.1] at e1 e2
    by_cases he : D.eqv x y = true
    · rw [if_pos he, e1 he, PySem.W.lex_pre]
      exact D.pys_lt xs ys n k f1.2 f2.2 h.2
    · rw [if_neg he, e2 (by simpa using he)]
      exact D.py_lt x y n k f1.1 f2.1 h.1
end
def rOrd (K : PySem.W.Frag) (g : PyData → PyData → Bool) : R2 := fun x y H Q => ∃ d e, Dp K H x d ∧ Dp K H y e ∧ PySem.W.alike d e = true ∧ d ≠ .none ∧ d.depth ≤ 60 ∧ Q (.bl (g d e)) H
theorem op_ord {X : Cx} {k : Nat} (hr : Room k X.A) {op : CmpOp} {g : PyData → PyData → Bool} (rule : ∀ {prog : Program} {w : World} {A : Around} {E : Value → Shared → Prop} {s : Shared} {a b : Value} {da db : PyData} {as bs : List Addr} {Q : Value → Shared → Prop},
    Reads s.heap a da as → Reads s.heap b db bs → PySem.W.alike da db = true → da ≠ .none → A.units + min da.depth db.depth < cLine → Q (.bool (g da db)) s → wpAny (model prog w) A (compareOp op a b) Q E s) : OpR X (compareOp op) (rOrd X.K g) := by
  intro pins s σ H x y v u Q I rx ry q
  obtain ⟨d, e, dx, dy, al, nn, dd, q⟩ := q
  obtain ⟨as, ra⟩ := Dp.reads I d x v dx rx
  obtain ⟨bs, rb⟩ := Dp.reads I e y u dy ry
  have hu := hr.un
  exact rule ra rb al nn (by have := Nat.min_le_left d.depth e.depth; omega) ⟨.bl _, H, I, rfl, q⟩
def rDIn (b : Bool) : R2 := fun x y H Q => ∃ a o, y = .ref a ∧ DGet H a x o ∧ Q (.bl (if b = true then o.isSome else !o.isSome)) H
def rCmp (K : PySem.W.Frag) : CO → R2
  | .eq => rEqD K
  | .ne => rNeD K
  | .lt => rI0 fun i j => .bl (decide (i < j))
  | .le => rI0 fun i j => .bl (decide (i ≤ j))
  | .gt => rI0 fun i j => .bl (decide (j < i))
  | .ge => rI0 fun i j => .bl (decide (j ≤ i))
  | .ltD => rOrd K fun a b => PySem.W.dataLt a b
  | .leD => rOrd K fun a b => !PySem.W.dataLt b a
  | .gtD => rOrd K fun a b => PySem.W.dataLt b a
  | .geD => rOrd K fun a b => !PySem.W.dataLt a b
  | .isN => fun x y H Q => y = .non ∧ Q (.bl (decide (x = .non))) H
  | .notN => fun x y H Q => y = .non ∧ Q (.bl (!decide (x = .non))) H
  | .isB => fun x y H Q => ∃ a b, x = .bl a ∧ y = .bl b ∧ Q (.bl (decide (a = b))) H
  | .notB => fun x y H Q => ∃ a b, x = .bl a ∧ y = .bl b ∧ Q (.bl (!decide (a = b))) H
  | .isIn => fun x y H Q => rDIn true x y H Q ∨ rInD K x y H Q
  | .notIn => fun x y H Q => rDIn false x y H Q ∨ rNotInD K x y H Q
theorem op_dIn {X : Cx} (hu : X.A.units + 1 < cLine) : OpR X (compareOp .In) (rDIn true) := by
  intro pins s σ H x y v u Q I rx ry q
  obtain ⟨a, o, rfl, g, q⟩ := q
  cases ry
  exact d_in hu I g rx fun s' I' => ⟨.bl o.isSome, H, I', rfl, q⟩
theorem op_dNotIn {X : Cx} (hu : X.A.units + 1 < cLine) : OpR X (compareOp .NotIn) (rDIn false) := by
  intro pins s σ H x y v u Q I rx ry q
  obtain ⟨a, o, rfl, g, q⟩ := q
  cases ry
  exact d_notIn hu I g rx fun s' I' => ⟨.bl (!o.isSome), H, I', rfl, q⟩
theorem op_cmp {X : Cx} {k : Nat} (hr : Room k X.A) (o : CO) : OpR X (compareOp o.op) (rCmp X.K o) := by
  have hu := hr.un
  cases o with
  | eq => exact op_eqD hr.units
  | ne => exact op_neD hr.units
  | lt => exact op_lt
  | le => exact op_le
  | gt => exact op_gt
  | ge => exact op_ge
  | ltD => exact op_ord hr PySem.W.lt_data
  | leD => exact op_ord hr PySem.W.le_data
  | gtD => exact op_ord hr PySem.W.gt_data
  | geD => exact op_ord hr PySem.W.ge_data
  | isN => exact op_isN
  | notN => exact op_notN
  | isB => exact op_is_bl
  | notB => exact op_isnot_bl
  | isIn => exact (op_dIn (by omega)).or (op_inD (by omega))
  | notIn => exact (op_dNotIn (by omega)).or (op_notInD (by omega))
theorem any_py {a : D} : ∀ {xs : List D} (f : D.flas 59 xs = true) (fa : a.fla 60 = true), ((D.pys xs).any fun z => PyData.eqv z a.py) = xs.any fun z => D.eqv z a
  | [], _, _ => rfl
  | x :: xs, f, fa => by
    simp only [D.flas, Bool.and_eq_true] at f
    simp only [D.pys, List.any_cons, any_py f.2 fa, D.py_eqv x a 59 60 f.1 fa]
theorem cmp_ok (hr : HR C K ω ρ U h H) {o : CO} {x y : VV} {v u : V} {P : D → Prop} (rx : RV C K ω ρ U H x v) (ry : RV C K ω ρ U H y u) (w : cmpW o h x y P) (hQ : EndD C K ω ρ U h H P Q) : rCmp K o v u H Q := by
  cases o with
  | eq =>
    obtain ⟨a, b, ea, eb, fa, fb, w⟩ := w
    exact ⟨_, _, rx.dv hr ea fa, ry.dv hr eb fb, D.fla_shaped fa, D.fla_shaped fb, by rw [D.py_eqv a b 60 60 fa fb]; exact hQ _ _ _ hr .refl (.bl _) w⟩
  | ne =>
    obtain ⟨a, b, ea, eb, fa, fb, w⟩ := w
    exact ⟨_, _, rx.dv hr ea fa, ry.dv hr eb fb, D.fla_shaped fa, D.fla_shaped fb, by rw [D.py_eqv a b 60 60 fa fb]; exact hQ _ _ _ hr .refl (.bl _) w⟩
  | lt => obtain ⟨i, j, rfl, rfl, w⟩ := w; cases rx; cases ry; exact ⟨_, _, rfl, rfl, hQ _ _ _ hr .refl (.bl _) w⟩
  | le => obtain ⟨i, j, rfl, rfl, w⟩ := w; cases rx; cases ry; exact ⟨_, _, rfl, rfl, hQ _ _ _ hr .refl (.bl _) w⟩
  | gt => obtain ⟨i, j, rfl, rfl, w⟩ := w; cases rx; cases ry; exact ⟨_, _, rfl, rfl, hQ _ _ _ hr .refl (.bl _) w⟩
  | ge => obtain ⟨i, j, rfl, rfl, w⟩ := w; cases rx; cases ry; exact ⟨_, _, rfl, rfl, hQ _ _ _ hr .refl (.bl _) w⟩
  | ltD =>
    obtain ⟨a, b, ea, eb, fa, fb, al, w⟩ := w
    exact ⟨_, _, rx.dp hr ea fa, ry.dp hr eb fb, (D.py_alike a b al).1, (D.py_alike a b al).2, (D.fla_lay a 60 fa).2, by dsimp only; rw [D.py_lt a b 60 60 fa fb al]; exact hQ _ _ _ hr .refl (.bl _) w⟩
  | leD =>
    obtain ⟨a, b, ea, eb, fa, fb, al, w⟩ := w
    exact ⟨_, _, rx.dp hr ea fa, ry.dp hr eb fb, (D.py_alike a b al).1, (D.py_alike a b al).2, (D.fla_lay a 60 fa).2, by dsimp only; rw [D.py_lt b a 60 60 fb fa (by rw [D.alike_comm]; exact al)]; exact hQ _ _ _ hr .refl (.bl _) w⟩
  | gtD =>
    obtain ⟨a, b, ea, eb, fa, fb, al, w⟩ := w
    exact ⟨_, _, rx.dp hr ea fa, ry.dp hr eb fb, (D.py_alike a b al).1, (D.py_alike a b al).2, (D.fla_lay a 60 fa).2, by dsimp only; rw [D.py_lt b a 60 60 fb fa (by rw [D.alike_comm]; exact al)]; exact hQ _ _ _ hr .refl (.bl _) w⟩
  | geD =>
    obtain ⟨a, b, ea, eb, fa, fb, al, w⟩ := w
    exact ⟨_, _, rx.dp hr ea fa, ry.dp hr eb fb, (D.py_alike a b al).1, (D.py_alike a b al).2, (D.fla_lay a 60 fa).2, by dsimp only; rw [D.py_lt a b 60 60 fa fb al]; exact hQ _ _ _ hr .refl (.bl _) w⟩
  | isN =>
    obtain ⟨rfl, w⟩ := w
    cases ry
    refine ⟨rfl, ?_⟩
    rw [rx.isNon]
    refine hQ (.bl _) _ _ hr .refl (.bl _) ?_
    cases x with
    | d d => cases d <;> exact w
    | tw _ => exact w
    | bw _ => exact w
  | notN =>
    obtain ⟨rfl, w⟩ := w
    cases ry
    refine ⟨rfl, ?_⟩
    rw [rx.isNon]
    refine hQ (.bl _) _ _ hr .refl (.bl _) ?_
    cases x with
    | d d => cases d <;> exact w
    | tw _ => exact w
    | bw _ => exact w
  | isB =>
    obtain ⟨a, b, rfl, rfl, w⟩ := w
    cases rx
    cases ry
    exact ⟨a, b, rfl, rfl, hQ (.bl _) _ _ hr .refl (.bl _) w⟩
  | notB =>
    obtain ⟨a, b, rfl, rfl, w⟩ := w
    cases rx
    cases ry
    exact ⟨a, b, rfl, rfl, hQ (.bl _) _ _ hr .refl (.bl _) w⟩
  | isIn =>
    obtain ⟨a, rfl, w⟩ := w
    rcases w with ⟨o, r, eo, eg, w⟩ | ⟨xs, ex, fa, fx, w⟩
    · obtain ⟨p, rv, rfl, g, q⟩ := ry.dget hr eo rx eg
      refine .inl ⟨p, rv, rfl, g, ?_⟩
      have e : rv.isSome = r.isSome := by
        rcases q with ⟨rfl, rfl⟩ | ⟨_, _, rfl, rfl, _⟩ <;> rfl
      rw [if_pos rfl, e]
      exact hQ _ _ _ hr .refl (.bl _) w
    · obtain ⟨p, vs, rfl, s, q⟩ := ry.list hr ex
      refine .inr ⟨_, _, RD.dp rx fa, .lst s (q.dp fx), D.fla_shaped fa, D.flas_shaped fx, ?_⟩
      rw [any_py fx fa]
      exact hQ _ _ _ hr .refl (.bl _) w
  | notIn =>
    obtain ⟨a, rfl, w⟩ := w
    rcases w with ⟨o, r, eo, eg, w⟩ | ⟨xs, ex, fa, fx, w⟩
    · obtain ⟨p, rv, rfl, g, q⟩ := ry.dget hr eo rx eg
      refine .inl ⟨p, rv, rfl, g, ?_⟩
      have e : rv.isSome = r.isSome := by
        rcases q with ⟨rfl, rfl⟩ | ⟨_, _, rfl, rfl, _⟩ <;> rfl
      rw [if_neg (by decide), e]
      exact hQ _ _ _ hr .refl (.bl _) w
    · obtain ⟨p, vs, rfl, s, q⟩ := ry.list hr ex
      refine .inr ⟨_, _, RD.dp rx fa, .lst s (q.dp fx), D.fla_shaped fa, D.flas_shaped fx, ?_⟩
      rw [any_py fx fa]
      exact hQ _ _ _ hr .refl (.bl _) w

theorem cmpW_bl {o : CO} {x y : VV} {P : D → Prop} (w : cmpW o h x y P) : cmpW o h x y fun z => ∃ b, z = .bl b ∧ P (.bl b) := by
  cases o with
  | eq => obtain ⟨a, b, h1, h2, h3, h4, w⟩ := w; exact ⟨a, b, h1, h2, h3, h4, _, rfl, w⟩
  | ne => obtain ⟨a, b, h1, h2, h3, h4, w⟩ := w; exact ⟨a, b, h1, h2, h3, h4, _, rfl, w⟩
  | lt => obtain ⟨a, b, h1, h2, w⟩ := w; exact ⟨a, b, h1, h2, _, rfl, w⟩
  | le => obtain ⟨a, b, h1, h2, w⟩ := w; exact ⟨a, b, h1, h2, _, rfl, w⟩
  | gt => obtain ⟨a, b, h1, h2, w⟩ := w; exact ⟨a, b, h1, h2, _, rfl, w⟩
  | ge => obtain ⟨a, b, h1, h2, w⟩ := w; exact ⟨a, b, h1, h2, _, rfl, w⟩
  | ltD => obtain ⟨a, b, h1, h2, h3, h4, h5, w⟩ := w; exact ⟨a, b, h1, h2, h3, h4, h5, _, rfl, w⟩
  | leD => obtain ⟨a, b, h1, h2, h3, h4, h5, w⟩ := w; exact ⟨a, b, h1, h2, h3, h4, h5, _, rfl, w⟩
  | gtD => obtain ⟨a, b, h1, h2, h3, h4, h5, w⟩ := w; exact ⟨a, b, h1, h2, h3, h4, h5, _, rfl, w⟩
  | geD => obtain ⟨a, b, h1, h2, h3, h4, h5, w⟩ := w; exact ⟨a, b, h1, h2, h3, h4, h5, _, rfl, w⟩
  | isN => obtain ⟨h1, w⟩ := w; exact ⟨h1, _, rfl, w⟩
  | notN => obtain ⟨h1, w⟩ := w; exact ⟨h1, _, rfl, w⟩
  | isB => obtain ⟨a, b, h1, h2, w⟩ := w; exact ⟨a, b, h1, h2, _, rfl, w⟩
  | notB => obtain ⟨a, b, h1, h2, w⟩ := w; exact ⟨a, b, h1, h2, _, rfl, w⟩
  | isIn =>
    obtain ⟨a, h1, w⟩ := w
    rcases w with ⟨o, r, h2, h3, w⟩ | ⟨xs, h2, h3, h4, w⟩
    · exact ⟨a, h1, .inl ⟨o, r, h2, h3, _, rfl, w⟩⟩
    · exact ⟨a, h1, .inr ⟨xs, h2, h3, h4, _, rfl, w⟩⟩
  | notIn =>
    obtain ⟨a, h1, w⟩ := w
    rcases w with ⟨o, r, h2, h3, w⟩ | ⟨xs, h2, h3, h4, w⟩
    · exact ⟨a, h1, .inl ⟨o, r, h2, h3, _, rfl, w⟩⟩
    · exact ⟨a, h1, .inr ⟨xs, h2, h3, h4, _, rfl, w⟩⟩
/-! ### subscripts -/
def rDIx : R2 := fun x y H Q => ∃ a v, x = .ref a ∧ DGet H a y (some v) ∧ Q v H
def rIx (K : PySem.W.Frag) : R2 := fun x y H Q => rIxL K x y H Q ∨ rIxT K x y H Q ∨ rDIx x y H Q
theorem ix_dict {X : Cx} (hu : X.A.units + 1 < cLine) : IxR X rDIx := by
  intro value slice pins s σ H x y v u Q I rx ry h hs
  obtain ⟨a, z, rfl, g, q⟩ := h
  cases rx
  exact tail_any (dict_typeIs I g) PySem.F.slot_dict_getitem.lookup (d_getItem hu I g ry fun w' s' I' r' => ⟨z, H, I', r', q⟩) hs
theorem ix_all {X : Cx} {k : Nat} (hr : Room k X.A) : IxR X (rIx X.K) := by
  have hu := hr.un
  exact ix_list.or (ix_tup.or (ix_dict (by omega)))
theorem atI_rel {m : Addr → Prop} {xs : List D} {vs : List V} (r : RDs K H ρ m xs vs) {i : Int} {d : D} (e : atI xs i = some d) : ∃ v, atI vs i = some v ∧ RD K H ρ m d v := by
  unfold atI at e ⊢
  rw [r.length] at e
  cases ej : ixN vs.length i with
  | none => rw [ej] at e; cases e
  | some j =>
    rw [ej] at e
    obtain ⟨v, h1, h2⟩ := r.get e
    exact ⟨v, h1, h2⟩
theorem ix_ok (hr : HR C K ω ρ U h H) {x y : VV} {v u : V} {P : D → Prop} (rx : RV C K ω ρ U H x v) (ry : RV C K ω ρ U H y u) (w : ixW h x y P) (hQ : EndD C K ω ρ U h H P Q) : rIx K v u H Q := by
  rcases w with ⟨xs, i, z, ex, rfl, ei, w⟩ | ⟨o, k, z, eo, rfl, ek, w⟩
  · obtain ⟨a, vs, rfl, s, r⟩ := rx.seq hr ex
    obtain ⟨z', e1, r1⟩ := atI_rel r ei
    cases ry
    rcases s with s | s
    · exact .inl ⟨a, vs, i, z', rfl, rfl, s, e1, hQ _ _ _ hr .refl r1 w⟩
    · exact .inr (.inl ⟨a, vs, i, z', rfl, rfl, s, e1, hQ _ _ _ hr .refl r1 w⟩)
  · obtain ⟨p, rv, rfl, g, q⟩ := rx.dget hr eo ry ek
    rcases q with ⟨z, _⟩ | ⟨d, w', e1, e2, r1⟩
    · cases z
    · cases e1; subst e2
      exact .inr (.inr ⟨p, w', rfl, g, hQ _ _ _ hr .refl r1 w⟩)

/-! ### built-in functions -/
theorem CallR.or {X : Cx} {f : Value} {r r' : List V → Hp → VK → Prop} (h : CallR X f r) (h' : CallR X f r') : CallR X f (fun x H Q => r x H Q ∨ r' x H Q) := by
  intro pins s σ H x v Q I rx q
  rcases q with q | q
  · exact h pins s σ H x v Q I rx q
  · exact h' pins s σ H x v Q I rx q
/-- arguments' values -/
abbrev RVs (C : Nat → Addr) (K : PySem.W.Frag) (ω ρ U : List Addr) (H : Hp) : List VV → List V → Prop := Paired (RV C K ω ρ U H)
def rLen (K : PySem.W.Frag) : List V → Hp → VK → Prop := fun xs H Q => (∃ x n, xs = [x] ∧ LenV K x H n ∧ Q (.int n) H) ∨ (∃ a kvs, xs = [V.ref a] ∧ H a = some (.dK kvs) ∧ Q (.int kvs.length) H) ∨ rLenT xs H Q
theorem call_lenA {X : Cx} : CallR X (.builtin "len") (rLen X.K) := call_len.or (call_lenD.or call_len_dT)
theorem len_ok (hr : HR C K ω ρ U h H) {x : VV} {v : V} {n : Nat} {P : D → Prop} (rx : RV C K ω ρ U H x v) (e : x.len h = some n) (w : P (.int n)) (hQ : EndD C K ω ρ U h H P Q) : rLen K [v] H Q := by
  have fin : Q (.int n) H := hQ _ _ _ hr .refl (.int _) w
  unfold VV.len at e
  split at e
  · cases e
    cases rx with
    | tup s q => exact .inl ⟨_, _, rfl, .inr ⟨_, SqT.of s, q.length⟩, fin⟩
  · cases rx with
    | str z =>
    split at e
    · rename_i hz
      cases e
      exact .inl ⟨_, _, rfl, ⟨hz, rfl⟩, fin⟩
    · cases e
  · cases eo : x.obj h with
    | none => rw [eo] at e; cases e
    | some o =>
      rw [eo] at e
      cases o with
      | lst ds =>
        cases e
        obtain ⟨a, vs, rfl, s, q⟩ := rx.list hr (xs := ds) (by rw [eo]; rfl)
        exact .inl ⟨_, _, rfl, .inl ⟨_, s, q.length⟩, fin⟩
      | dK kvs =>
        cases e
        obtain ⟨a, rfl, q⟩ := rx.obj hr eo
        rcases q with ⟨ws, h1, h2⟩ | ⟨_, _, z, _⟩
        · exact .inr (.inl ⟨a, ws, rfl, h1, by rw [← h2.length]; exact fin⟩)
        · cases z
      | dT kvs =>
        cases e
        obtain ⟨a, rfl, q⟩ := rx.obj hr eo
        rcases q with ⟨ws, h1, h2⟩ | ⟨_, _, z, _⟩
        · exact .inr (.inr ⟨a, ws, rfl, h1, by rw [← h2.length]; exact fin⟩)
        · cases z
      | ins _ _ => cases e
def rIsI (K : PySem.W.Frag) (T : String) : List V → Hp → VK → Prop := fun xs H Q => ∃ x, xs = [x, .ty T] ∧ rIsi K xs H Q
theorem kit_b {K : PySem.W.Frag} {a b : String} {r : Bool} (h : kitB a b = some r) : PySem.W.kitOne K (.type a) (.type b) = some r := kit_ty h
theorem isI_ok (hr : HR C K ω ρ U h H) {T : String} (hT : T = "int" ∨ T = "bool" ∨ T = "tuple" ∨ T = "list" ∨ T = "str") {x : VV} {v : V} {b : Bool} {P : D → Prop} (rx : RV C K ω ρ U H x v) (e : isT T h x = some b) (w : P (.bl b)) (hQ : EndD C K ω ρ U h H P Q) : rIsi K [v, .ty T] H Q := by
  have fin : Q (.bl b) H := hQ _ _ _ hr .refl (.bl _) w
  have go : ∀ (t : String), TyX K H v (.type t) → kitB t T = some b → rIsi K [v, .ty T] H Q := fun t ty hk => ⟨v, .ty T, .type t, .type T, b, rfl, .ty T, ty, kit_ty hk, fin⟩
  have lst : ∀ a vs, v = .ref a → FzL K H (ms ω ρ U) a vs → TyX K H v (.type "list") := fun a vs ev s => by
    subst ev
    rcases s with ⟨s, _⟩ | ⟨o, s⟩ | ⟨o, its, n, s, c, _⟩
    · exact .base (.lst s)
    · exact .base (.frz s)
    · exact .kList s c
  cases x with
  | d d =>
    cases d with
    | int i => cases rx; cases e; exact go "int" (.base (.int i)) (by rcases hT with rfl | rfl | rfl | rfl | rfl <;> decide +kernel)
    | bl i => cases rx; cases e; exact go "bool" (.base (.bl i)) (by rcases hT with rfl | rfl | rfl | rfl | rfl <;> decide +kernel)
    | non => cases rx; cases e; exact go "NoneType" (.base .non) (by rcases hT with rfl | rfl | rfl | rfl | rfl <;> decide +kernel)
    | str i => cases rx; cases e; exact go "str" (.base (.str i)) (by rcases hT with rfl | rfl | rfl | rfl | rfl <;> decide +kernel)
    | tup xs =>
      cases e
      cases rx with
      | tup s q => exact go "tuple" (.base (.tup s)) (by rcases hT with rfl | rfl | rfl | rfl | rfl <;> decide +kernel)
    | fz xs =>
      cases e
      cases rx with
      | fz s q => exact go "list" (lst _ _ rfl s) (by rcases hT with rfl | rfl | rfl | rfl | rfl <;> decide +kernel)
    | ref n =>
      simp only [isT] at e
      cases rx with
      | ref hr2 =>
        cases eo : h[n]? with
        | none => rw [eo] at e; cases e
        | some o =>
          rw [eo] at e
          cases o with
          | lst ds =>
            cases e
            obtain ⟨a, e1, vs, h1, _⟩ := hr.hp n _ eo
            rw [hr2] at e1
            cases e1
            exact go "list" (.base (.lst h1)) (by rcases hT with rfl | rfl | rfl | rfl | rfl <;> decide +kernel)
          | _ => cases e
  | tw o =>
    cases o with
    | lst ds =>
      cases e
      obtain ⟨a, rfl, _, vs, h1, _⟩ := rx
      exact go "list" (.base (.lst h1)) (by rcases hT with rfl | rfl | rfl | rfl | rfl <;> decide +kernel)
    | _ => cases e
  | bw o =>
    cases o with
    | lst ds =>
      cases e
      obtain ⟨a, rfl, _, vs, h1, _⟩ := rx
      exact go "list" (.base (.lst h1)) (by rcases hT with rfl | rfl | rfl | rfl | rfl <;> decide +kernel)
    | _ => cases e
theorem maxI_spec : ∀ (ns : List Int) (n : Int), maxI n ns ∈ n :: ns ∧ ∀ y ∈ n :: ns, y ≤ maxI n ns
  | [], n => ⟨by simp [maxI], fun y hy => by simp at hy; subst hy; simp [maxI]⟩
  | x :: xs, n => by
    obtain ⟨h1, h2⟩ := maxI_spec xs (if n < x then x else n)
    simp only [maxI]
    refine ⟨?_, fun y hy => ?_⟩
    · rcases List.mem_cons.mp h1 with z | z
      · rw [z]; split <;> simp
      · simp [z]
    · have h0 := h2 _ (List.mem_cons_self ..)
      by_cases hc : n < x
      · rw [if_pos hc] at h0 ⊢
        rw [if_pos hc] at h2
        rcases List.mem_cons.mp hy with rfl | hy
        · omega
        · rcases List.mem_cons.mp hy with rfl | hy
          · omega
          · exact h2 y (List.mem_cons_of_mem _ hy)
      · rw [if_neg hc] at h0 ⊢
        rw [if_neg hc] at h2
        rcases List.mem_cons.mp hy with rfl | hy
        · omega
        · rcases List.mem_cons.mp hy with rfl | hy
          · omega
          · exact h2 y (List.mem_cons_of_mem _ hy)
theorem minI_spec : ∀ (ns : List Int) (n : Int), minI n ns ∈ n :: ns ∧ ∀ y ∈ n :: ns, minI n ns ≤ y
  | [], n => ⟨by simp [minI], fun y hy => by simp at hy; subst hy; simp [minI]⟩
  | x :: xs, n => by
    obtain ⟨h1, h2⟩ := minI_spec xs (if x < n then x else n)
    simp only [minI]
    refine ⟨?_, fun y hy => ?_⟩
    · rcases List.mem_cons.mp h1 with z | z
      · rw [z]; split <;> simp
      · simp [z]
    · have h0 := h2 _ (List.mem_cons_self ..)
      by_cases hc : x < n
      · rw [if_pos hc] at h0 ⊢
        rw [if_pos hc] at h2
        rcases List.mem_cons.mp hy with rfl | hy
        · omega
        · rcases List.mem_cons.mp hy with rfl | hy
          · omega
          · exact h2 y (List.mem_cons_of_mem _ hy)
      · rw [if_neg hc] at h0 ⊢
        rw [if_neg hc] at h2
        rcases List.mem_cons.mp hy with rfl | hy
        · omega
        · rcases List.mem_cons.mp hy with rfl | hy
          · omega
          · exact h2 y (List.mem_cons_of_mem _ hy)
def BI.id : BI → Value
  | .len => .builtin "len" | .abs => .builtin "abs" | .min2 => .builtin "min" | .max2 => .builtin "max" | .sumL => .builtin "sum" | .maxL => .builtin "max" | .minL => .builtin "min"
  | .allL => .builtin "all" | .anyL => .builtin "any" | .intOf => .type "int" | .isI _ => .builtin "isinstance"
def rBi (K : PySem.W.Frag) : BI → List V → Hp → VK → Prop
  | .len => rLen K
  | .abs => fun xs H Q => ∃ i, xs = [.int i] ∧ Q (.int (if i < 0 then -i else i)) H
  | .min2 => fun xs H Q => ∃ i j, xs = [.int i, .int j] ∧ Q (.int (if j < i then j else i)) H
  | .max2 => fun xs H Q => ∃ i j, xs = [.int i, .int j] ∧ Q (.int (if j > i then j else i)) H
  | .sumL => rSum K
  | .maxL => rMax K
  | .minL => rMin K
  | .allL => rAll K
  | .anyL => rAny K
  | .intOf => fun xs H Q => (∃ i, xs = [.int i] ∧ Q (.int i) H) ∨ ∃ k, xs = [.bl k] ∧ Q (.int (if k then 1 else 0)) H
  | .isI _ => rIsi K
theorem call_bi {X : Cx} (hc : X.calm = true) (b : BI) : CallR X b.id (rBi X.K b) := by
  cases b with
  | len => exact call_lenA
  | abs => exact call_abs
  | min2 => exact call_min2 hc
  | max2 => exact call_max2 hc
  | sumL => exact cr_sum hc
  | maxL => exact cr_max hc
  | minL => exact cr_min hc
  | allL => exact cr_all hc
  | anyL => exact cr_any hc
  | intOf => exact call_int1
  | isI T => exact call_isi
def BI.okT : BI → Bool
  | .isI T => T == "int" || T == "bool" || T == "tuple" || T == "list" || T == "str"
  | _ => true
/-- the values that the call is given: a class more for isinstance -/
def BI.more : BI → List V
  | .isI T => [.ty T]
  | _ => []
theorem bi_ok (hr : HR C K ω ρ U h H) {b : BI} (hb : b.okT = true) {xs : List VV} {vs : List V} {P : D → Prop} (rx : RVs C K ω ρ U H xs vs) (w : biW b h xs P) (hQ : EndD C K ω ρ U h H P Q) : rBi K b (vs ++ b.more) H Q := by
  have one : ∀ {v : V} {ns : List Int} {x : VV} {xs : List D}, RV C K ω ρ U H x v → (x.obj h).bind AO.list = some xs → intsOf xs = some ns → ∃ a, v = .ref a ∧ SqL K H a (ns.map V.int) := fun {v ns x xs} r e e2 => by
    obtain ⟨a, vs, rfl, s, q⟩ := r.list hr e
    rw [intsOf_eq e2] at q
    rw [q.ints ns] at s
    exact ⟨a, rfl, s⟩
  have oneb : ∀ {v : V} {ns : List Bool} {x : VV} {xs : List D}, RV C K ω ρ U H x v → (x.obj h).bind AO.list = some xs → boolsOf xs = some ns → ∃ a, v = .ref a ∧ SqL K H a (ns.map V.bl) := fun {v ns x xs} r e e2 => by
    obtain ⟨a, vs, rfl, s, q⟩ := r.list hr e
    rw [boolsOf_eq e2] at q
    rw [q.bools ns] at s
    exact ⟨a, rfl, s⟩
  unfold biW at w
  split at w
  · cases rx with
    | cons r t => cases t; obtain ⟨n, e, w⟩ := w; exact len_ok hr r e w hQ
  · cases rx with
    | cons r t => cases t; cases r; exact ⟨_, rfl, hQ _ _ _ hr .refl (.int _) w⟩
  · cases rx with
    | cons r t => cases t with
      | cons r2 t => cases t; cases r; cases r2; exact ⟨_, _, rfl, hQ _ _ _ hr .refl (.int _) w⟩
  · cases rx with
    | cons r t => cases t with
      | cons r2 t => cases t; cases r; cases r2; exact ⟨_, _, rfl, hQ _ _ _ hr .refl (.int _) w⟩
  · cases rx with
    | cons r t =>
      cases t
      obtain ⟨xs, ns, e, e2, w⟩ := w
      obtain ⟨a, rfl, s⟩ := one r e e2
      exact ⟨a, ns, rfl, s, hQ _ _ _ hr .refl (.int _) w⟩
  · cases rx with
    | cons r t =>
      cases t
      obtain ⟨xs, n, ns, e, e2, w⟩ := w
      obtain ⟨a, rfl, s⟩ := one r e e2
      refine ⟨a, n :: ns, rfl, s, by simp, fun m hm hy => ?_⟩
      obtain ⟨h1, h2⟩ := maxI_spec ns n
      have : m = maxI n ns := by have := h2 m hm; have := hy _ h1; omega
      subst this
      exact hQ _ _ _ hr .refl (.int _) w
  · cases rx with
    | cons r t =>
      cases t
      obtain ⟨xs, n, ns, e, e2, w⟩ := w
      obtain ⟨a, rfl, s⟩ := one r e e2
      refine ⟨a, n :: ns, rfl, s, by simp, fun m hm hy => ?_⟩
      obtain ⟨h1, h2⟩ := minI_spec ns n
      have : m = minI n ns := by have := h2 m hm; have := hy _ h1; omega
      subst this
      exact hQ _ _ _ hr .refl (.int _) w
  · cases rx with
    | cons r t =>
      cases t
      obtain ⟨xs, ns, e, e2, w⟩ := w
      obtain ⟨a, rfl, s⟩ := oneb r e e2
      exact ⟨a, ns, rfl, s, hQ _ _ _ hr .refl (.bl _) w⟩
  · cases rx with
    | cons r t =>
      cases t
      obtain ⟨xs, ns, e, e2, w⟩ := w
      obtain ⟨a, rfl, s⟩ := oneb r e e2
      exact ⟨a, ns, rfl, s, hQ _ _ _ hr .refl (.bl _) w⟩
  · cases rx with
    | cons r t => cases t; cases r; exact .inl ⟨_, rfl, hQ _ _ _ hr .refl (.int _) w⟩
  · cases rx with
    | cons r t => cases t; cases r; exact .inr ⟨_, rfl, hQ _ _ _ hr .refl (.int _) w⟩
  · cases rx with
    | cons r t =>
      cases t
      obtain ⟨b, e, w⟩ := w
      refine isI_ok hr ?_ r e w hQ
      simp only [BI.okT, Bool.or_eq_true, beq_iff_eq] at hb
      rcases hb with (((h | h) | h) | h) | h
      · exact .inl h
      · exact .inr (.inl h)
      · exact .inr (.inr (.inl h))
      · exact .inr (.inr (.inr (.inl h)))
      · exact .inr (.inr (.inr (.inr h)))
  · exact w.elim
/-! ### truth -/
theorem tru_rel (hr : HR C K ω ρ U h H) {x : VV} {v : V} {b : Bool} (r : RV C K ω ρ U H x v) (e : x.tru h = some b) : TruV K v H b := by
  have lst : ∀ {y : VV}, RV C K ω ρ U H y v → ((y.obj h).bind AO.list).map (fun xs => !xs.isEmpty) = some b → TruV K v H b := fun {y} r e => by
    cases eo : (y.obj h).bind AO.list with
    | none => rw [eo] at e; cases e
    | some xs =>
      rw [eo] at e
      cases e
      obtain ⟨a, vs, rfl, s, q⟩ := r.list hr eo
      refine .inl ⟨vs, s, ?_⟩
      cases q <;> rfl
  unfold VV.tru at e
  split at e
  · cases r; cases e; rfl
  · cases r; cases e; rfl
  · cases r; cases e; rfl
  · cases r
    split at e
    · rename_i hz; cases e; exact ⟨hz, rfl⟩
    · cases e
  · cases e
    cases r with
    | tup s q =>
      refine .inr (.inl ⟨_, SqT.of s, ?_⟩)
      cases q <;> rfl
  · exact lst r e
end
end G

set_option maxHeartbeats 1000000
/-! Core5: is this expression that text of the core? Expressions keep what the core says. -/
namespace G
open PySem PySem.Spec PyProof.Rows L2

/-! ### the look -/
/-- the names of a module: defs; exceptions' classes; the classes that an except clause or isinstance may name, with what stands below them; classes, with their __init__; fields; methods -/
structure NT where
  fn : Nat → Option Str
  xn : Nat → Option Str
  nx : Nat
  xl : List (Str × List Nat)
  cl : Nat → Option (Str × Nat)
  nc : Nat
  fl : List Str
  mt : Nat → Option (Nat × Str)
instance : CoeFun NT fun _ => Nat → Option Str := ⟨NT.fn⟩
def nameAt (N : List Str) (i : Nat) (x : Str) : Bool := match N[i]? with
  | some y => decide (y = x)
  | none => false
def visB (sc : Scope) (x : Str) : Bool := (match sc.names.lookup x with
  | some .local => true
  | some .cell => true
  | some .free => true
  | _ => false) && !(x == ("__debug__" : Str)) && !(x == ("__classdict__" : Str))
def locB (sc : Scope) (x : Str) : Bool := match sc.names.lookup x with
  | some .local => true
  | some .cell => true
  | _ => false
def loc1B (sc : Scope) (x : Str) : Bool := match sc.names.lookup x with
  | some .local => true
  | _ => false
def glB (sc : Scope) (x : Str) : Bool := (match sc.names.lookup x with
  | some .globalImplicit => true
  | _ => false) && !(x == ("__debug__" : Str))
def notStar : Expr → Bool
  | .Starred _ _ => false
  | _ => true
def bltNames : List Str := ["len", "abs", "min", "max", "sum", "all", "any", "int", "isinstance", "tuple", "list", "range", "bool", "str", "enumerate", "zip", "divmod", "sorted", "reversed"]
def BI.name : BI → Str
  | .len => "len" | .abs => "abs" | .min2 => "min" | .max2 => "max" | .sumL => "sum" | .maxL => "max" | .minL => "min"
  | .allL => "all" | .anyL => "any" | .intOf => "int" | .isI _ => "isinstance"
def BI.isIsi : BI → Bool
  | .isI _ => true
  | _ => false
def BI.ty : BI → String
  | .isI T => T
  | _ => ""
def chkG (N : List Str) (sc : Scope) : CG → Expr → Bool
  | .nm i, .Name x _ => nameAt N i x && locB sc x
  | .tp is, .Tuple es _ _ => go is es
  | _, _ => false
where go : List Nat → List Expr → Bool
  | [], [] => true
  | i :: is, .Name x _ :: es => nameAt N i x && locB sc x && go is es
  | _, _ => false
def ownOf : CG → Expr → List (Str × Nat)
  | .nm i, .Name x _ => [(x, i)]
  | .tp is, .Tuple es _ _ => go is es
  | _, _ => []
where go : List Nat → List Expr → List (Str × Nat)
  | i :: is, .Name x _ :: es => (x, i) :: go is es
  | _, _ => []
def okTest : CE → Bool
  | .andV _ _ => false
  | .orV _ _ => false
  | .notV _ => false
  | .ite _ _ _ => false
  | _ => true
/-- nothing that may be super() -/
def plainOb : Expr → Bool
  | .Name _ _ => true
  | .Attribute _ _ _ => true
  | .Subscript _ _ _ => true
  | _ => false
def bmB (a c : Pos) : Bool := a.endLine == c.line
def xlAt : List (Str × List Nat) → Str → Option (List Nat)
  | [], _ => none
  | q :: r, x => if q.1 = x then some q.2 else xlAt r x
section
variable (N : List Str) (nm : NT) (cn : Nat → Option Str)
mutual
def chkE : CE → Scope → Expr → Bool
  | .var i, sc, e => (match e with
    | .Name x _ => nameAt N i x && visB sc x
    | _ => false)
  | .int i, sc, e => (match e with
    | .Constant (.int j) _ _ => decide (i = j)
    | _ => false)
  | .bl b, sc, e => (match e with
    | .Constant (.bool c) _ _ => b == c
    | _ => false)
  | .non, sc, e => (match e with
    | .Constant .none _ _ => true
    | _ => false)
  | .str z, sc, e => (match e with
    | .Constant (.str y) _ _ => decide (z = y)
    | _ => false)
  | .glob j, sc, e => (match e with
    | .Name x _ => glB sc x && (match cn j with
      | some y => decide (y = x)
      | none => false)
    | _ => false)
  | .bin o a b, sc, e => (match e with
    | .BinOp x op y _ => decide (op = o.op) && chkE a sc x && chkE b sc y
    | _ => false)
  | .neg a, sc, e => (match e with
    | .UnaryOp .USub x _ => chkE a sc x
    | _ => false)
  | .cmp o a b, sc, e => (match e with
    | .Compare x [op] [y] _ => decide (op = o.op) && (!behindInMarks op y) && chkE a sc x && chkE b sc y
    | _ => false)
  | .chain o o' a b c, sc, e => (match e with
    | .Compare x [op, op'] [y, z] _ => decide (op = o.op) && decide (op' = o'.op) && (!lastMarks [op, op'] [y, z]) && chkE a sc x && chkE b sc y && chkE c sc z
    | _ => false)
  | .andV a b, sc, e => (match e with
    | .BoolOp .And [x, y] _ => chkE a sc x && chkE b sc y
    | .BoolOp .And (x :: y :: z :: r) p => chkE a sc x && chkE b sc (.BoolOp .And (y :: z :: r) p)
    | _ => false)
  | .orV a b, sc, e => (match e with
    | .BoolOp .Or [x, y] _ => chkE a sc x && chkE b sc y
    | .BoolOp .Or (x :: y :: z :: r) p => chkE a sc x && chkE b sc (.BoolOp .Or (y :: z :: r) p)
    | _ => false)
  | .notV a, sc, e => (match e with
    | .UnaryOp .Not x _ => chkE a sc x
    | _ => false)
  | .ite t a b, sc, e => (match e with
    | .IfExp c x y _ => chkT t sc c && chkE a sc x && chkE b sc y
    | _ => false)
  | .tup es, sc, e => (match e with
    | .Tuple xs _ _ => chkEs es sc xs
    | _ => false)
  | .ix a b, sc, e => (match e with
    | .Subscript x y _ => chkE a sc x && chkE b sc y
    | _ => false)
  | .slc a lo hi, sc, e => (match e with
    | .Subscript x (.Slice l u none _) _ => chkE a sc x && chkO lo sc l && chkO hi sc u
    | _ => false)
  | .call f es, sc, e => (match e with
    | .Call (.Name x _) (y :: ys) [] _ => glB sc x && (match nm f with
      | some z => decide (z = x)
      | none => false) && chkEs es sc (y :: ys)
    | _ => false)
  | .bi b es, sc, e => (match e with
    | .Call (.Name x _) ys [] _ => glB sc x && decide (x = b.name) && b.okT && (match b.isIsi, es, ys with
      | true, .cons a .nil, [y, .Name t _] => chkE a sc y && glB sc t && decide (t = PySem.Str.ofString b.ty)
      | false, .cons a r, y :: ys => chkE a sc y && chkEs r sc ys
      | _, _, _ => false)
    | _ => false)
  | .tupOf l, sc, e => (match e with
    | .Call (.Name x _) [y] [] _ => glB sc x && decide (x = ("tuple" : Str)) && chkL l sc y
    | _ => false)
  | .tupE a, sc, e => (match e with
    | .Call (.Name x _) [y] [] _ => glB sc x && decide (x = ("tuple" : Str)) && chkE a sc y
    | _ => false)
  | .tupRev a, sc, e => (match e with
    | .Call (.Name x _) [.Call (.Name r _) [y] [] _] [] _ => glB sc x && decide (x = ("tuple" : Str)) && glB sc r && decide (r = ("reversed" : Str)) && chkE a sc y
    | _ => false)
  | .fzOf l, sc, e => chkL l sc e
  | .getD o k, sc, e => (match e with
    | .Call (.Attribute ob m a) [x] [] c => plainOb ob && decide (m = ("get" : Str)) && bmB a c && chkE o sc ob && chkE k sc x
    | _ => false)
  | .getD2 o k d, sc, e => (match e with
    | .Call (.Attribute ob m a) [x, y] [] c => plainOb ob && decide (m = ("get" : Str)) && bmB a c && chkE o sc ob && chkE k sc x && chkE d sc y
    | _ => false)
  | .newL l, sc, e => chkL l sc e
  | .newD t, sc, e => (match e with
    | .Dict [] [] _ => true
    | _ => false)
  | .sdf o k v, sc, e => (match e with
    | .Call (.Attribute ob m a) [x, y] [] c => plainOb ob && decide (m = ("setdefault" : Str)) && bmB a c && chkE o sc ob && chkE k sc x && chkE v sc y
    | _ => false)
  | .appX o v, sc, e => (match e with
    | .Call (.Attribute ob m a) [x] [] c => plainOb ob && decide (m = ("append" : Str)) && bmB a c && chkE o sc ob && chkE v sc x
    | _ => false)
  | .extX o l, sc, e => (match e with
    | .Call (.Attribute ob m a) [x] [] c => plainOb ob && decide (m = ("extend" : Str)) && bmB a c && chkE o sc ob && chkL l sc x
    | _ => false)
  | .clrX o, sc, e => (match e with
    | .Call (.Attribute ob m a) [] [] c => plainOb ob && decide (m = ("clear" : Str)) && bmB a c && chkE o sc ob
    | _ => false)
  | .popX o, sc, e => (match e with
    | .Call (.Attribute ob m a) [] [] c => plainOb ob && decide (m = ("pop" : Str)) && bmB a c && chkE o sc ob
    | _ => false)
  | .popAt o i, sc, e => (match e with
    | .Call (.Attribute ob m a) [x] [] c => plainOb ob && decide (m = ("pop" : Str)) && bmB a c && chkE o sc ob && chkE i sc x
    | _ => false)
  | .insX o i v, sc, e => (match e with
    | .Call (.Attribute ob m a) [x, y] [] c => plainOb ob && decide (m = ("insert" : Str)) && bmB a c && chkE o sc ob && chkE i sc x && chkE v sc y
    | _ => false)
  | .idx o v, sc, e => (match e with
    | .Call (.Attribute ob m a) [x] [] c => plainOb ob && decide (m = ("index" : Str)) && bmB a c && chkE o sc ob && chkE v sc x
    | _ => false)
  | .divm a b, sc, e => (match e with
    | .Call (.Name x _) [y, z] [] _ => glB sc x && decide (x = ("divmod" : Str)) && chkE a sc y && chkE b sc z
    | _ => false)
  | .fld k o f, sc, e => (match e with
    | .Attribute ob m _ => plainOb ob && decide (m = f) && nm.fl.contains f && decide (k ≤ nm.nc) && chkE o sc ob
    | _ => false)
  | .meth c m f o es, sc, e => (match e with
    | .Call (.Attribute ob m2 a) ys [] p => plainOb ob && decide (m2 = m) && bmB a p && decide (ys.length < 29) && decide (nm.mt f = some (c, m)) && chkE o sc ob && chkEs es sc ys
    | _ => false)
  | .mk c f es, sc, e => (match e with
    | .Call (.Name x _) ys [] _ => glB sc x && decide (nm.cl c = some (x, f)) && chkEs es sc ys
    | _ => false)
def chkO : CO2 → Scope → Option Expr → Bool
  | .no, sc, e => e.isNone
  | .so a, sc, e => (match e with
    | some x => chkE a sc x
    | none => false)
def chkEs : CEs → Scope → List Expr → Bool
  | .nil, sc, es => es.isEmpty
  | .cons a r, sc, es => (match es with
    | x :: xs => chkE a sc x && chkEs r sc xs
    | [] => false)
def chkT : CT → Scope → Expr → Bool
  | .e a, sc, e => okTest a && chkE a sc e
  | .andT a b, sc, e => (match e with
    | .BoolOp .And [x, y] _ => chkT a sc x && chkT b sc y
    | .BoolOp .And (x :: y :: z :: r) p => chkT a sc x && chkT b sc (.BoolOp .And (y :: z :: r) p)
    | _ => false)
  | .orT a b, sc, e => (match e with
    | .BoolOp .Or [x, y] _ => chkT a sc x && chkT b sc y
    | .BoolOp .Or (x :: y :: z :: r) p => chkT a sc x && chkT b sc (.BoolOp .Or (y :: z :: r) p)
    | _ => false)
  | .notT a, sc, e => (match e with
    | .UnaryOp .Not x _ => chkT a sc x
    | _ => false)
def chkTs : CTs → Scope → List Expr → Bool
  | .nil, sc, es => es.isEmpty
  | .cons a .nil, sc, es => (match es with
    | [x] => chkT a sc x
    | _ => false)
  | _, _, _ => false
def chkL : LE → Scope → Expr → Bool
  | .lc it g ifs el, sc, e => (match e with
    | .ListComp elt [⟨tg, iter, fs, na⟩] scope _ => decide (na = 0) && chkI it sc tg iter && chkG N scope g tg && blkC N sc scope (ownOf g tg) && decide ((ownOf g tg).map (·.2) = g.slots) && chkTs ifs (relS scope sc) fs && chkE el (relS scope sc) elt
    | _ => false)
  | .dsp es, sc, e => (match e with
    | .List xs _ => chkEs es sc xs
    | _ => false)
  | .listE a, sc, e => (match e with
    | .Call (.Name x _) [y] [] _ => glB sc x && decide (x = ("list" : Str)) && chkE a sc y
    | _ => false)
  | .listRg a, sc, e => (match e with
    | .Call (.Name x _) [.Call (.Name r _) [y] [] _] [] _ => glB sc x && decide (x = ("list" : Str)) && glB sc r && decide (r = ("range" : Str)) && chkE a sc y
    | _ => false)
  | .listRg2 a b, sc, e => (match e with
    | .Call (.Name x _) [.Call (.Name r _) [y, z] [] _] [] _ => glB sc x && decide (x = ("list" : Str)) && glB sc r && decide (r = ("range" : Str)) && chkE a sc y && chkE b sc z
    | _ => false)
  | .items a, sc, e => false
  | .cat a b, sc, e => (match e with
    | .BinOp x .Add y _ => chkL a sc x && chkL b sc y
    | _ => false)
  | .catE a b, sc, e => (match e with
    | .BinOp x .Add y _ => chkE a sc x && chkE b sc y
    | _ => false)
  | .rep a b, sc, e => (match e with
    | .BinOp x .Mult y _ => chkL a sc x && chkE b sc y
    | _ => false)
  | .sortK f a, sc, e => (match e with
    | .Call (.Name x _) [y] [⟨some kn, .Name z _, _⟩] _ => glB sc x && decide (x = ("sorted" : Str)) && decide (kn = ("key" : Str)) && glB sc z && (match nm f with
      | some z' => decide (z' = z)
      | none => false) && chkE a sc y
    | _ => false)
  | .srt a, sc, e => (match e with
    | .Call (.Name x _) [y] [] _ => glB sc x && decide (x = ("sorted" : Str)) && chkE a sc y
    | _ => false)
  | .slcL a lo hi, sc, e => (match e with
    | .Subscript x (.Slice l u none _) _ => chkE a sc x && chkO lo sc l && chkO hi sc u
    | _ => false)
def chkI : CI → Scope → Expr → Expr → Bool
  | .val a, sc, tg, e => chkE a sc e
  | .rg1 a, sc, tg, e => (match e with
    | .Call (.Name x _) [y] [] _ => glB sc x && decide (x = ("range" : Str)) && chkE a sc y
    | _ => false)
  | .rg2 a b, sc, tg, e => (match e with
    | .Call (.Name x _) [y, z] [] _ => glB sc x && decide (x = ("range" : Str)) && chkE a sc y && chkE b sc z
    | _ => false)
  | .enum a, sc, tg, e => (match e with
    | .Call (.Name x _) [y] [] _ => glB sc x && decide (x = ("enumerate" : Str)) && (match tg with
      | .Tuple _ _ _ => true
      | _ => false) && chkE a sc y
    | _ => false)
  | .zip a b, sc, tg, e => (match e with
    | .Call (.Name x _) [y, z] [] _ => glB sc x && decide (x = ("zip" : Str)) && (match tg with
      | .Tuple _ _ _ => true
      | _ => false) && chkE a sc y && chkE b sc z
    | _ => false)
end
end

/-! ### plain syntax -/
/-- what no accepted expression is -/
structure Plain (e : Expr) : Prop where
  star : notStar e = true
  slice : ∀ l u s p, e ≠ .Slice l u s p
  set : ∀ l k p, e ≠ .Set l k p
theorem star_cons {e : Expr} {es : List Expr} {env : Env} (h : notStar e = true) : starEach (e :: es) env = (false, eval e env) :: starEach es env := by
  cases e <;> first | rfl | cases h
theorem star_any : ∀ {es : List Expr} {env : Env} {pos : Pos}, (∀ e ∈ es, notStar e = true) → (backTo pos (starEach es env)).any (·.1) = false
  | [], _, _, _ => rfl
  | e :: es, env, pos, h => by
    rw [star_cons (h e (by simp))]
    show (backTo pos ((false, eval e env) :: starEach es env)).any (·.1) = false
    have q := star_any (es := es) (env := env) (pos := pos) fun e he => h e (by simp [he])
    simpa [backTo] using q
theorem folded {e : Expr} {env : Env} (h : ∀ l k p, e ≠ .Set l k p) : ∀ x, foldedSetIterable e env x = pure x := by
  cases e <;> first | (intro _; rfl) | exact absurd rfl (h _ _ _)
theorem plainIx {e : Expr} (h : ∀ l u s p, e ≠ .Slice l u s p) (h2 : ∀ xs k p, e ≠ .Tuple xs k p) : PlainIx e := by
  intro o i
  cases e <;> first | rfl | exact absurd rfl (h _ _ _ _) | exact absurd rfl (h2 _ _ _)
end G

set_option maxHeartbeats 2000000
/-! Core6: an accepted expression gives what the core says. -/
namespace G
open PySem PySem.Spec PyProof.Rows L2

/-- a step of statements: one's own may turn -/
structure SStp (ω : List Addr) (H : Hp) (ρ U : List Addr) (H' : Hp) (ρ' U' : List Addr) : Prop where
  gr : Grow H ρ (ms ω ρ U) H' ρ' (ms ω ρ' U')
  own : ∀ a ∈ ω, H' a = H a
theorem SStp.refl {ω : List Addr} {H : Hp} {ρ U : List Addr} : SStp ω H ρ U H ρ U := ⟨.refl, fun _ _ => rfl⟩
theorem SStp.trans {ω : List Addr} {H H1 H2 : Hp} {ρ U ρ1 U1 ρ2 U2 : List Addr} (g : SStp ω H ρ U H1 ρ1 U1) (g' : SStp ω H1 ρ1 U1 H2 ρ2 U2) : SStp ω H ρ U H2 ρ2 U2 :=
  ⟨g.gr.trans g'.gr, fun a h => (g'.own a h).trans (g.own a h)⟩
theorem Stp.s {ω U : List Addr} {H H' : Hp} {ρ ρ' : List Addr} (g : Stp ω U H ρ H' ρ') : SStp ω H ρ U H' ρ' U := ⟨g.gr, fun a h => g.own a (.inl h)⟩
/-- how an exception lies -/
def RX (C : Nat → Addr) (K : PySem.W.Frag) (ω ρ U : List Addr) (H : Hp) (x : EX) (cls : Value) (dd : Option Addr) : Prop :=
  cls = .ref (C (x.c + 1000)) ∧ ((x.fs = [] ∧ dd = none) ∨ (x.fs ≠ [] ∧ ∃ a ws, dd = some a ∧ H a = some (.xd ws) ∧ RK K H ρ (ms ω ρ U) x.fs ws))
/-- how a def's value lies -/
def RRel (C : Nat → Addr) (K : PySem.W.Frag) (ω ρ U : List Addr) (H : Hp) : RR → V → Prop
  | .d x, v => RD K H ρ (ms ω ρ U) x v
  | .mv o, v => ∃ a, v = .ref a ∧ a ∈ U ∧ RO C K H ρ (ms ω ρ U) o a
/-- a def's promise, by the core -/
def spI (C : Nat → Addr) (K : PySem.W.Frag) (Γ : GM) (f : Nat) : Sp := fun vs H Q E => ∃ (ω ρ : List Addr) (h : AH) (as : List VV) (Q' : RR → AH → Prop) (X' : EX → AH → Prop),
  HR C K ω ρ [] h H ∧ RVs C K ω ρ [] H as vs ∧ Γ f as h Q' X' ∧
  (∀ r v h' ρ' U' H', HR C K ω ρ' U' h' H' → SStp ω H ρ [] H' ρ' U' → RRel C K ω ρ' U' H' r v → Q' r h' → Q v H') ∧
  (∀ x cls dd h' ρ' U' H', HR C K ω ρ' U' h' H' → SStp ω H ρ [] H' ρ' U' → RX C K ω ρ' U' H' x cls dd → X' x h' → E cls dd H')

/-- where one stands: the called defs, the constants, the built-ins -/
structure CC (C : Nat → Addr) (Γ : GM) (nm : NT) (cs : Nat → Option (Str × D)) (k : Nat) (N : List Str) (X : Cx) : Prop where
  hN : X.N = N
  calm : X.calm = true
  room : Room k X.A
  nd : X.N.Nodup
  fns : ∀ f x, nm f = some x → ∃ fa fd ps, X.mg x = some (.ref fa) ∧ PySem.W.keepIn X.K (.ref fa) = true ∧ Binds X.K fd ps [] ∧ FnOk X.prog X.w X.K X.mg X.base (L2.CX X.prog X.w) k fa fd ps (spI C X.K Γ f)
  cst : ∀ j x d, cs j = some (x, d) → ∃ u v, X.mg x = some u ∧ RelV v u ∧ ∀ H ρ m, RD X.K H ρ m d v
  blt : ∀ x ∈ bltNames, X.mg x = none
  exn : ∀ c x, nm.xn c = some x → X.mg x = some (.ref (C (c + 1000))) ∧ PySem.W.excIn X.K (C (c + 1000)) He.veBase "ValueError.__new__" = true ∧ PySem.W.keepIn X.K (.ref (C (c + 1000))) = true ∧ Raises X (.ref (C (c + 1000)))
  exc : ∀ c, c < nm.nx → ExcC X.K (C (c + 1000))
  exl : ∀ x l, xlAt nm.xl x = some l → ∃ (cc : V) (cv : Value), ClsV cc cv ∧ RelV cc cv ∧ (X.mg x = some cv ∨ (X.mg x = none ∧ bootBuiltins x = some cv ∧ x ≠ "__name__")) ∧
    ∀ c, c < nm.nx → PySem.W.exmOne X.K (.ref (C (c + 1000))) cv = some (l.contains c) ∧ PySem.W.kitOne X.K (.ref (C (c + 1000))) cv = some (l.contains c)
  cls : ∀ c, c < nm.nc → Cls X.K (C c) ∧ ∀ f ∈ nm.fl, NoAttr X.K (C c) f
  mth : ∀ f c m, nm.mt f = some (c, m) → ∃ fa fd ps, Cls X.K (C c) ∧ Meth X.K (C c) m fa ∧ Binds X.K fd ps [] ∧ FnOk X.prog X.w X.K X.mg X.base (L2.CX X.prog X.w) k fa fd ps (spI C X.K Γ f)
  mks : ∀ c x f, nm.cl c = some (x, f) → ∃ kk fa fd ps, X.mg x = some (.ref (C c)) ∧ Mk X.K (C c) fa ∧ Binds X.K fd ps [] ∧ FnOk X.prog X.w X.K X.mg X.base (L2.CX X.prog X.w) kk fa fd ps (spI C X.K Γ (f + 1000)) ∧ Room (kk + 1) X.A
  srt : ∀ f x, nm f = some x → ∃ kk fa fd ps, X.mg x = some (.ref fa) ∧ Binds X.K fd ps [] ∧ FnOk X.prog X.w X.K X.mg X.base (L2.CX X.prog X.w) kk fa fd ps (spI C X.K Γ (f + 1000)) ∧ Room (kk + 1) X.A
abbrev cval (cs : Nat → Option (Str × D)) : Nat → Option D := fun j => (cs j).map (·.2)
abbrev cnam (cs : Nat → Option (Str × D)) : Nat → Option Str := fun j => (cs j).map (·.1)

/-- a reading by the core: w the core's, R how values lie -/
def tG {A B : Type} (C : Nat → Addr) (K : PySem.W.Frag) (W : WX) (w : Ev → AH → (A → AH → Prop) → (EX → AH → Prop) → Prop) (R : List Addr → List Addr → List Addr → Hp → A → B → Prop) : L2.St → Hp → (B → Hp → Prop) → Prop :=
  fun σ H Q => ∃ (ω : List Addr) (β : Nat → Option Addr) (ρ U : List Addr) (env : Ev) (h : AH) (Q' : A → AH → Prop) (X' : EX → AH → Prop),
    RS C K β ω ρ U env h σ H ∧ w env h Q' X' ∧
    (∀ d v h' ρ' H', RS C K β ω ρ' U env h' σ H' → Stp ω U H ρ H' ρ' → R ω ρ' U H' d v → Q' d h' → Q v H') ∧
    (∀ x cls dd h' ρ' H', RS C K β ω ρ' U env h' σ H' → Stp ω U H ρ H' ρ' → RX C K ω ρ' U H' x cls dd → X' x h' → W cls dd σ H')
abbrev tE (C : Nat → Addr) (K : PySem.W.Frag) (W : WX) (Γ : GM) (cs : Nat → Option D) (c : CE) : TE := tG C K W (fun env h Q X => wpE Γ cs c env h Q X) (RV C K)
abbrev tT (C : Nat → Addr) (K : PySem.W.Frag) (W : WX) (Γ : GM) (cs : Nat → Option D) (c : CT) : TT := tG C K W (fun env h Q X => wpT Γ cs c env h Q X) (fun _ _ _ _ a b => a = b)
abbrev tTs (C : Nat → Addr) (K : PySem.W.Frag) (W : WX) (Γ : GM) (cs : Nat → Option D) (c : CTs) : TT := tG C K W (fun env h Q X => wpTs Γ cs c env h Q X) (fun _ _ _ _ a b => a = b)
abbrev tEs (C : Nat → Addr) (K : PySem.W.Frag) (W : WX) (Γ : GM) (cs : Nat → Option D) (c : CEs) : TA := tG C K W (fun env h Q X => wpEs Γ cs c env h Q X) (RVs C K)
abbrev tO (C : Nat → Addr) (K : PySem.W.Frag) (W : WX) (Γ : GM) (cs : Nat → Option D) (c : CO2) : TO := tG C K W (fun env h Q X => wpO Γ cs c env h Q X) (fun _ _ _ _ a b => a = b)
/-- a new list: at a free place -/
def tL (C : Nat → Addr) (K : PySem.W.Frag) (W : WX) (Γ : GM) (cs : Nat → Option D) (c : LE) : TE := fun σ H Q =>
  tG C K W (fun env h Q X => wpL Γ cs c env h Q X) (fun ω ρ U H => RDs K H ρ (ms ω ρ U)) σ H fun vs H1 => ∀ p, H1 p = none → Q (.ref p) (upd H1 p (.lst vs))
/-- a walk of the items xs, guarded by gd, begun at H -/
structure Wlk (C : Nat → Addr) (K : PySem.W.Frag) (ω ρ U : List Addr) (H : Hp) (xs : List D) (gd : AH → Prop) (cp : Bool) (J : It) : Prop where
  go : ∀ (i : Nat) (x : D) (h1 : AH) (ρ1 U1 : List Addr) (H1 : Hp), HR C K ω ρ1 U1 h1 H1 → SStp ω H ρ U H1 ρ1 U1 → (cp = true → ∀ a ∈ U, H1 a = H a) → gd h1 → xs[i]? = some x → J.go i H1 ∧
    ∀ v H2, J.yld i H1 v H2 → HR C K ω ρ1 U1 h1 H2 ∧ Stp ω U1 H1 ρ1 H2 ρ1 ∧ RD K H2 ρ1 (ms ω ρ1 U1) x v
  stop : ∀ (i : Nat) (h1 : AH) (ρ1 U1 : List Addr) (H1 : Hp), HR C K ω ρ1 U1 h1 H1 → SStp ω H ρ U H1 ρ1 U1 → (cp = true → ∀ a ∈ U, H1 a = H a) → gd h1 → xs.length ≤ i → J.stop i H1
def tI (C : Nat → Addr) (K : PySem.W.Frag) (W : WX) (Γ : GM) (cs : Nat → Option D) (c : CI) (cp : Bool) : TI := fun σ H R =>
  ∃ (ω : List Addr) (β : Nat → Option Addr) (ρ U : List Addr) (env : Ev) (h : AH) (Q' : List D → (AH → Prop) → AH → Prop) (X' : EX → AH → Prop),
    RS C K β ω ρ U env h σ H ∧ wpI Γ cs c cp env h Q' X' ∧
    (∀ xs gd J h' ρ' H', RS C K β ω ρ' U env h' σ H' → Stp ω U H ρ H' ρ' → Wlk C K ω ρ' U H' xs gd cp J → Q' xs gd h' → R J H') ∧
    (∀ x cls dd h' ρ' H', RS C K β ω ρ' U env h' σ H' → Stp ω U H ρ H' ρ' → RX C K ω ρ' U H' x cls dd → X' x h' → W cls dd σ H')

theorem PE.imp {X : Cx} {e : Expr} {t t' : TE} (h : PE X e t) (w : ∀ σ H Q, t' σ H Q → t σ H Q) : PE X e t' := ⟨fun pins s σ H Q I q => h.run pins s σ H Q I (w σ H Q q)⟩
theorem PT.imp {X : Cx} {e : Expr} {t t' : TT} (h : PT X e t) (w : ∀ σ H Q, t' σ H Q → t σ H Q) : PT X e t' := ⟨fun pins s σ H Q I q => h.run pins s σ H Q I (w σ H Q q)⟩
theorem PW.imp {X : Cx} {e : Expr} {t t' : TT} (h : PW X e t) (w : ∀ σ H Q, t' σ H Q → t σ H Q) : PW X e t' := ⟨fun wh pins s σ H Q I q => h.run wh pins s σ H Q I (w σ H Q q)⟩
theorem PA.imp {X : Cx} {e : List Expr} {t t' : TA} (h : PA X e t) (w : ∀ σ H Q, t' σ H Q → t σ H Q) : PA X e t' := ⟨fun pos pins s σ H Q I q => h.run pos pins s σ H Q I (w σ H Q q)⟩
theorem PO.imp {X : Cx} {e : Option Expr} {t t' : TO} (h : PO X e t) (w : ∀ σ H Q, t' σ H Q → t σ H Q) : PO X e t' := ⟨fun pins s σ H Q I q => h.run pins s σ H Q I (w σ H Q q)⟩
theorem PI.imp {X : Cx} {tg e : Expr} {t t' : TI} (h : PI X tg e t) (w : ∀ σ H Q, t' σ H Q → t σ H Q) : PI X tg e t' := ⟨fun pins s σ H Q I q => h.run pins s σ H Q I (w σ H Q q)⟩

section
variable {C : Nat → Addr} {K : PySem.W.Frag} {W : WX} {ω ρ ρ1 U : List Addr} {β : Nat → Option Addr} {env : Ev} {h h1 : AH} {σ : L2.St} {H H1 : Hp} {Q : VK} {Q' : VV → AH → Prop} {X' : EX → AH → Prop}
theorem endD (rs : RS C K β ω ρ1 U env h1 σ H1) (g : Stp ω U H ρ H1 ρ1) (hq : ∀ d v h' ρ' H', RS C K β ω ρ' U env h' σ H' → Stp ω U H ρ H' ρ' → RV C K ω ρ' U H' d v → Q' d h' → Q v H') :
    EndD C K ω ρ1 U h1 H1 (fun z => Q' (.d z) h1) Q := fun z w H' hr st rd p => hq (.d z) w h1 ρ1 H' (rs.step hr st) (g.trans st) rd p
theorem upX (g : Stp ω U H ρ H1 ρ1) (hx : ∀ x cls dd h' ρ' H', RS C K β ω ρ' U env h' σ H' → Stp ω U H ρ H' ρ' → RX C K ω ρ' U H' x cls dd → X' x h' → W cls dd σ H') :
    ∀ x cls dd h' ρ' H', RS C K β ω ρ' U env h' σ H' → Stp ω U H1 ρ1 H' ρ' → RX C K ω ρ' U H' x cls dd → X' x h' → W cls dd σ H' :=
  fun x cls dd h' ρ' H' rs g' rx xx => hx x cls dd h' ρ' H' rs (g.trans g') rx xx
/-! ### calls -/
theorem ms_call {a : Addr} : ms (ω ++ U) ρ [] a ↔ ms ω ρ U a := by
  unfold ms
  simp only [List.mem_append, List.not_mem_nil, or_false]
  constructor
  · rintro ((h | h) | h)
    · exact .inl h
    · exact .inr (.inr h)
    · exact .inr (.inl h)
  · rintro (h | h | h)
    · exact .inl (.inl h)
    · exact .inr h
    · exact .inl (.inr h)
theorem Grow.same {m m' : Addr → Prop} (h : ∀ a, m' a → m a) : Grow H ρ m H ρ m' := ⟨fun _ _ h => h, fun _ _ _ h => h, fun _ _ h => h, fun a _ e n => ⟨e, fun z => n (h a z)⟩⟩
theorem HR.call (r : HR C K ω ρ U h H) : HR C K (ω ++ U) ρ [] h H :=
  ⟨r.lh, fun n o e => let ⟨a, e1, r1⟩ := r.hp n o e; ⟨a, e1, r1.grow (.same fun a z => ms_call.mp z) rfl⟩, r.nd,
    fun a ha => ⟨fun z => (List.mem_append.mp z).elim (r.dj a ha).1 (r.dj a ha).2, by simp⟩, fun a ha => by simp at ha, fun a z => r.pr a (ms_call.mp z)⟩
theorem RV.arg {x : VV} {v : V} (r : RV C K ω ρ U H x v) : RV C K (ω ++ U) ρ [] H (toArg x) v := by
  have g : Grow H ρ (ms ω ρ U) H ρ (ms (ω ++ U) ρ []) := .same fun a z => ms_call.mp z
  cases x with
  | d d => exact RD.grow g r
  | tw o => obtain ⟨a, e, hu, r⟩ := r; exact ⟨a, e, List.mem_append_right _ hu, r.grow g rfl⟩
  | bw o => obtain ⟨a, e, hu, r⟩ := r; exact ⟨a, e, List.mem_append_left _ hu, r.grow g rfl⟩
theorem RVs.args : ∀ {xs : List VV} {vs : List V}, RVs C K ω ρ U H xs vs → RVs C K (ω ++ U) ρ [] H (xs.map toArg) vs
  | [], [], .nil => .nil
  | x :: xs, v :: vs, .cons r t => .cons r.arg (RVs.args t)
theorem HR.ret {U1 : List Addr} (r : HR C K (ω ++ U) ρ1 U1 h1 H1) (du : ∀ a ∈ U, a ∉ ω) : HR C K ω ρ1 U h1 H1 :=
  ⟨r.lh, fun n o e => let ⟨a, e1, r1⟩ := r.hp n o e; ⟨a, e1, r1.grow (.same fun a z => by
      rcases z with z | z | z
      · exact .inl (List.mem_append_left _ z)
      · exact .inr (.inl z)
      · exact .inl (List.mem_append_right _ z)) rfl⟩, r.nd,
    fun a ha => ⟨fun z => (r.dj a ha).1 (List.mem_append_left _ z), fun z => (r.dj a ha).1 (List.mem_append_right _ z)⟩, du, fun a z => r.pr a (by
      rcases z with z | z | z
      · exact .inl (List.mem_append_left _ z)
      · exact .inr (.inl z)
      · exact .inl (List.mem_append_right _ z))⟩
theorem SStp.ret {U1 : List Addr} (g : SStp (ω ++ U) H ρ [] H1 ρ1 U1) : Stp ω U H ρ H1 ρ1 :=
  ⟨((Grow.same fun a z => ms_call.mp z).trans g.gr).trans (.same fun a z => by
      rcases z with z | z | z
      · exact .inl (List.mem_append_left _ z)
      · exact .inr (.inl z)
      · exact .inl (List.mem_append_right _ z)), fun a z => g.own a (z.elim (List.mem_append_left _) (List.mem_append_right _))⟩
theorem ms_ret {U1 : List Addr} {a : Addr} (z : ms ω ρ1 U a) : ms (ω ++ U) ρ1 U1 a := by
  rcases z with z | z | z
  · exact .inl (List.mem_append_left _ z)
  · exact .inr (.inl z)
  · exact .inl (List.mem_append_right _ z)
theorem RX.ret {U1 : List Addr} {x : EX} {cls : Value} {dd : Option Addr} (r : RX C K (ω ++ U) ρ1 U1 H1 x cls dd) : RX C K ω ρ1 U H1 x cls dd := by
  obtain ⟨e, r⟩ := r
  refine ⟨e, ?_⟩
  rcases r with r | ⟨n, a, ws, e1, e2, r⟩
  · exact .inl r
  · exact .inr ⟨n, a, ws, e1, e2, r.grow (.same fun a z => ms_ret z)⟩
/-- a call's promise, from the caller -/
theorem spI_call {Γ : GM} {f : Nat} {xs : List VV} {vs : List V} {E : XK} (rs : RS C K β ω ρ U env h σ H) (rv : RVs C K ω ρ U H xs vs) {Qr : RR → AH → Prop} (w : Γ f (xs.map toArg) h Qr X')
    (hq : ∀ r v h' ρ' U' H', RS C K β ω ρ' U env h' σ H' → Stp ω U H ρ H' ρ' → HR C K (ω ++ U) ρ' U' h' H' → Grow H ρ (ms ω ρ U) H' ρ' (ms (ω ++ U) ρ' U') → RRel C K (ω ++ U) ρ' U' H' r v → Qr r h' → Q v H')
    (hx : ∀ x cls dd h' ρ' H', RS C K β ω ρ' U env h' σ H' → Stp ω U H ρ H' ρ' → RX C K ω ρ' U H' x cls dd → X' x h' → E cls dd H') : spI C K Γ f vs H Q E :=
  ⟨ω ++ U, ρ, h, _, Qr, X', rs.hr.call, rv.args, w,
    fun r v h' ρ' U' H' hr g rr q => hq r v h' ρ' U' H' (rs.step (hr.ret rs.hr.du) g.ret) g.ret hr ((Grow.same fun a z => ms_call.mp z).trans g.gr) rr q,
    fun x cls dd h' ρ' U' H' hr g rx q => hx x cls dd h' ρ' H' (rs.step (hr.ret rs.hr.du) g.ret) g.ret rx.ret q⟩
/-- what is handed back, read -/
theorem RRel.rd {U1 : List Addr} {r : RR} {v : V} (hr : HR C K (ω ++ U) ρ1 U1 h1 H1) (rr : RRel C K (ω ++ U) ρ1 U1 H1 r v) (q : RR.rd Q' r h1) : ∃ d, RV C K ω ρ1 U H1 (.d d) v ∧ Q' (.d d) h1 := by
  have g : Grow H1 ρ1 (ms (ω ++ U) ρ1 U1) H1 ρ1 (ms ω ρ1 U) := .same fun a z => ms_ret z
  cases r with
  | d x => exact ⟨x, RD.grow g rr, q⟩
  | mv o =>
    cases o with
    | lst xs =>
      obtain ⟨a, rfl, hu, vs, h2, h3⟩ := rr
      refine ⟨.fz xs, .fz (.inl ⟨h2, fun z => ?_⟩) (h3.grow g), q⟩
      rcases z with z | z | z
      · exact hr.du a hu (List.mem_append_left _ z)
      · exact (hr.dj a z).2 hu
      · exact hr.du a hu (List.mem_append_right _ z)
    | _ => exact q.elim
end
end G

set_option maxHeartbeats 4000000
/-! Core7: the parts that the look's soundness wants: targets, walks, comprehensions. -/
namespace G
open PySem PySem.Spec PyProof.Rows L2

theorem PTs.imp {X : Cx} {e : List Expr} {t t' : TT} (h : PTs X e t) (w : ∀ σ H Q, t' σ H Q → t σ H Q) : PTs X e t' := ⟨fun pins s σ H Q I q => h.run pins s σ H Q I (w σ H Q q)⟩
/-! ### names -/
theorem nameAt_ok {N : List Str} {i : Nat} {x : Str} (h : nameAt N i x = true) : N[i]? = some x := by
  unfold nameAt at h
  split at h
  · rename_i y e
    rw [e, of_decide_eq_true h]
  · cases h
theorem visB_ok {sc : Scope} {x : Str} (h : visB sc x = true) : Vis sc x ∧ (x == ("__debug__" : Str)) = false ∧ (x == ("__classdict__" : Str)) = false := by
  unfold visB at h
  simp only [Bool.and_eq_true, Bool.not_eq_true'] at h
  obtain ⟨⟨h1, h2⟩, h3⟩ := h
  refine ⟨?_, h2, h3⟩
  unfold Vis
  split at h1
  · rename_i e; exact .inl e
  · rename_i e; exact .inr (.inl e)
  · rename_i e; exact .inr (.inr e)
  · cases h1
theorem locB_ok {sc : Scope} {x : Str} (h : locB sc x = true) : Loc sc x := by
  unfold locB at h
  split at h
  · rename_i e; exact .inl e
  · rename_i e; exact .inr e
  · cases h
theorem loc1B_ok {sc : Scope} {x : Str} (h : loc1B sc x = true) : sc.names.lookup x = some .local := by
  unfold loc1B at h
  split at h
  · rename_i e; exact e
  · cases h
theorem glB_ok {X : Cx} {sc : Scope} {x : Str} (hs : X.env.scope = sc) (h : glB sc x = true) : Gl X x ∧ (x == ("__debug__" : Str)) = false := by
  unfold glB at h
  simp only [Bool.and_eq_true, Bool.not_eq_true'] at h
  refine ⟨?_, h.2⟩
  unfold Gl
  show X.env.scope.names.lookup x = _
  rw [hs]
  have h1 := h.1
  split at h1
  · rename_i e; exact e
  · cases h1

/-! ### targets -/
def gsR : List Nat → TGs
  | [] => gNil
  | i :: is => gCons (gName i) (gsR is)
def gR (K : PySem.W.Frag) : CG → TG
  | .nm i => gName i
  | .tp is => gTup K is.length (gsR is)
theorem goG_len {N : List Str} {sc : Scope} : ∀ {is : List Nat} {es : List Expr}, chkG.go N sc is es = true → ∀ env : Env, (assignEach es env).length = is.length ∧ (assignEach es env).findIdx? (·.1) = none
  | [], [], _, _ => ⟨rfl, rfl⟩
  | i :: is, e :: es, h, env => by
    cases e with
    | Name x p =>
      simp only [chkG.go, Bool.and_eq_true] at h
      obtain ⟨a, b⟩ := goG_len h.2 env
      have e : assignEach (.Name x p :: es) env = (false, assign (.Name x p) env) :: assignEach es env := rfl
      rw [e]
      refine ⟨by simp [a], ?_⟩
      rw [List.findIdx?_cons]
      simp [b]
    | _ => simp [chkG.go] at h
  | [], _ :: _, h, _ => by simp [chkG.go] at h
  | _ :: _, [], h, _ => by simp [chkG.go] at h
section
variable {X : Cx} {N : List Str} {sc : Scope}
theorem hT_body (hs : X.env.scope = sc) (hf : ∀ x, X.env.scope.names.lookup x = some .cell → X.fn x = true) : ∀ x, locB sc x = true → Loc X.env.scope x ∧ (X.fn x = true ∨ X.env.scope.names.lookup x = some .local) := fun x h => by
  have hl : Loc X.env.scope x := by rw [hs]; exact locB_ok h
  exact ⟨hl, hl.elim .inr fun z => .inl (hf x z)⟩
theorem pgs_go (hN : X.N = N) (nd : X.N.Nodup) (hT : ∀ x, locB sc x = true → Loc X.env.scope x ∧ (X.fn x = true ∨ X.env.scope.names.lookup x = some .local)) : ∀ {is : List Nat} {es : List Expr}, chkG.go N sc is es = true → PGs X es (gsR is)
  | [], [], _ => pgs_nil
  | i :: is, e :: es, h => by
    cases e with
    | Name x p =>
      simp only [chkG.go, Bool.and_eq_true] at h
      exact pgs_cons (pg_name nd (by rw [hN]; exact nameAt_ok h.1.1) (hT x h.1.2).1 (hT x h.1.2).2) (pgs_go hN nd hT h.2)
    | _ => simp [chkG.go] at h
  | [], _ :: _, h => by simp [chkG.go] at h
  | _ :: _, [], h => by simp [chkG.go] at h
theorem soundG (hN : X.N = N) (nd : X.N.Nodup) (hT : ∀ x, locB sc x = true → Loc X.env.scope x ∧ (X.fn x = true ∨ X.env.scope.names.lookup x = some .local)) (hc : X.calm = true) {g : CG} {e : Expr} (h : chkG N sc g e = true) : PG X e (gR X.K g) := by
  cases g with
  | nm i =>
    cases e with
    | Name x p =>
      simp only [chkG, Bool.and_eq_true] at h
      exact pg_name nd (by rw [hN]; exact nameAt_ok h.1) (hT x h.2).1 (hT x h.2).2
    | _ => simp [chkG] at h
  | tp is =>
    cases e with
    | Tuple es k p =>
      have h' : chkG.go N sc is es = true := by simpa [chkG] using h
      exact pg_tup hc (pgs_go hN nd hT h') (goG_len h' _).1 (goG_len h' _).2
    | _ => simp [chkG] at h
end
section
variable {C : Nat → Addr} {K : PySem.W.Frag} {ω ρ U : List Addr} {β : Nat → Option Addr} {env : Ev} {h : AH} {σ : L2.St} {H : Hp}
theorem gs_ok : ∀ {is : List Nat} {xs : List D} {vs : List V} {env : Ev} {σ : L2.St} {R : L2.St → Hp → Prop}, is.length = xs.length → RS C K β ω ρ U env h σ H → RDs K H ρ (ms ω ρ U) xs vs →
    (∀ σ', RS C K β ω ρ U (setsE is xs env) h σ' H → (∀ j, j ∉ is → σ'[j]? = σ[j]?) → σ'.length = σ.length → R σ' H) → gsR is vs σ H R
  | [], [], [], _, _, _, _, rs, .nil, k => ⟨rfl, k _ rs (fun _ _ => rfl) rfl⟩
  | i :: is, x :: xs, v :: vs, env, σ, R, e, rs, .cons r t, k => by
    refine ⟨v, vs, rfl, ?_⟩
    refine gs_ok (env := env.set i (some (.val x))) (by simpa using e) (rs.set i r) t fun σ' rs' hk hl => k σ' rs' (fun j hj => ?_) (by simpa using hl)
    simp only [List.mem_cons, not_or] at hj
    rw [hk j hj.2, List.getElem?_set_ne (Ne.symm hj.1)]
  | [], _ :: _, _, _, _, _, e, _, _, _ => by simp at e
  | _ :: _, [], _, _, _, _, e, _, _, _ => by simp at e
theorem g_ok {g : CG} {x : D} {v : V} {P : Ev → Prop} {R : L2.St → Hp → Prop} (rs : RS C K β ω ρ U env h σ H) (r : RD K H ρ (ms ω ρ U) x v) (w : gW g x env P)
    (k : ∀ env' σ', RS C K β ω ρ U env' h σ' H → (∀ j, j ∉ g.slots → σ'[j]? = σ[j]?) → σ'.length = σ.length → P env' → R σ' H) : gR K g v σ H R := by
  cases g with
  | nm i => exact k _ _ (rs.set i r) (fun j hj => List.getElem?_set_ne (Ne.symm (by simpa [CG.slots] using hj))) (by simp) w
  | tp is =>
    obtain ⟨xs, rfl, hl, w⟩ := w
    cases r with
    | tup s q =>
    exact ⟨_, _, rfl, SqT.of s, by rw [← q.length]; exact hl, gs_ok hl.symm rs q fun σ' rs' hk hl => k _ σ' rs' hk hl w⟩
theorem wipe_rs (rs : RS C K β ω ρ U env h σ H) : ∀ is : List Nat, RS C K β ω ρ U (wipeE env is) h (wipe σ is) H
  | [] => rs
  | i :: is => (wipe_rs rs is).wipe i none
theorem wipe_get {σ : L2.St} {j : Nat} : ∀ {is : List Nat}, j ∈ is → j < σ.length → (wipe σ is)[j]? = some none
  | i :: is, hj, hl => by
    show ((wipe σ is).set i none)[j]? = some none
    by_cases e : j = i
    · subst e; exact List.getElem?_set_self (by rw [wipe_length]; exact hl)
    · rw [List.getElem?_set_ne (Ne.symm e)]
      rcases List.mem_cons.mp hj with z | z
      · exact absurd z e
      · exact wipe_get z hl
theorem wipe_not {σ : L2.St} {j : Nat} : ∀ {is : List Nat}, j ∉ is → (wipe σ is)[j]? = σ[j]?
  | [], _ => rfl
  | i :: is, hj => by
    simp only [List.mem_cons, not_or] at hj
    show ((wipe σ is).set i none)[j]? = _
    rw [List.getElem?_set_ne (Ne.symm hj.1)]
    exact wipe_not hj.2
theorem wipe_eq {σ σ' : L2.St} {is : List Nat} (hl : σ'.length = σ.length) (hk : ∀ j, j ∉ is → σ'[j]? = σ[j]?) : wipe σ' is = wipe σ is := by
  apply List.ext_getElem?
  intro j
  by_cases hj : j ∈ is
  · by_cases hlt : j < σ.length
    · rw [wipe_get hj hlt, wipe_get hj (by omega)]
    · rw [List.getElem?_eq_none (by rw [wipe_length]; omega), List.getElem?_eq_none (by rw [wipe_length]; omega)]
  · rw [wipe_not hj, wipe_not hj, hk j hj]
theorem wipe_wipe {σ : L2.St} {is : List Nat} : wipe (wipe σ is) is = wipe σ is := wipe_eq (wipe_length _ _) fun _ hj => wipe_not hj
end

/-! ### a list or a tuple, walked -/
def iSeq (K : PySem.W.Frag) (tl : TE) : TI := fun σ H R => tl σ H fun x H1 => ∃ a, x = .ref a ∧ (((∃ xs, SqL K H1 a xs) ∧ R (Itl K a) H1) ∨ ((∃ xs, SqT K H1 a xs) ∧ R (Itt K a) H1))
/-- the walk of a value that is read already -/
theorem walk_val {X : Cx} {tg l : Expr} {tl : TE} (hl : PE X l tl) : PI X tg l (iSeq X.K tl) := by
  constructor
  intro pins s σ H R I hw
  apply thn (hl.run pins s σ H _ I hw)
  rintro v s1 ⟨x, H1, I1, r1, a, e, q⟩
  subst e
  have ev : v = Value.ref a := r1
  subst ev
  have hnew : H1 s1.heap.objs.size = none := I1.hok.fresh (Nat.le_refl _)
  rcases q with ⟨⟨xs, hq⟩, q⟩ | ⟨⟨xs, hq⟩, q⟩
  · obtain ⟨its, rv, p, hz⟩ := I1.list hq
    apply wpAny_pyIter_list p.isList
    exact ⟨_, [s1.heap.objs.size], _, _, H1, rfl, I1.kept (t' := s1.toks) (fun b o e => Heap.get?_push_of_some _ e), turn_list a _, ⟨_, Heap.get?_push_size _ rfl, rfl, rfl⟩,
      (fun b hb => (List.mem_singleton.mp hb) ▸ I1.fpOk (Nat.le_refl _) hnew), q⟩
  · obtain ⟨its, rv, p, hz⟩ := I1.tuple hq
    apply wpAny_pyIter_tuple (show s1.heap.IsTuple a its.toArray from p)
    exact ⟨_, [s1.heap.objs.size], _, _, H1, rfl, I1.kept (t' := s1.toks) (fun b o e => Heap.get?_push_of_some _ e), turn_tuple a _, ⟨_, Heap.get?_push_size _ rfl, rfl, rfl⟩,
      (fun b hb => (List.mem_singleton.mp hb) ▸ I1.fpOk (Nat.le_refl _) hnew), q⟩
section
variable {C : Nat → Addr} {X : Cx} {pins : List (Addr × Obj)} {K : PySem.W.Frag} {ω ρ U : List Addr} {h : AH} {H : Hp}
/-- a walk's list: what lies at its address at any later turn -/
theorem Wlk.lst {xs : List D} {gd : AH → Prop} {cp : Bool} {a : Addr}
    (at_ : ∀ (h1 : AH) (ρ1 U1 : List Addr) (H1 : Hp), HR C K ω ρ1 U1 h1 H1 → SStp ω H ρ U H1 ρ1 U1 → (cp = true → ∀ a ∈ U, H1 a = H a) → gd h1 → ∃ vs, SqL K H1 a vs ∧ RDs K H1 ρ1 (ms ω ρ1 U1) xs vs) : Wlk C K ω ρ U H xs gd cp (Itl K a) where
  go := fun i x h1 ρ1 U1 H1 hr g o gh e => by
    obtain ⟨vs, s, r⟩ := at_ h1 ρ1 U1 H1 hr g o gh
    obtain ⟨v, ev, rv⟩ := r.get e
    refine ⟨⟨vs, v, s, ev⟩, fun v' H2 y => ?_⟩
    obtain ⟨rfl, y⟩ := y
    have := y vs s
    rw [ev] at this; cases this
    exact ⟨hr, .refl, rv⟩
  stop := fun i h1 ρ1 U1 H1 hr g o gh e => by
    obtain ⟨vs, s, r⟩ := at_ h1 ρ1 U1 H1 hr g o gh
    exact ⟨vs, s, by rw [← r.length]; exact e⟩
end
end G

set_option maxHeartbeats 4000000
/-! Core8: an accepted expression gives what the core says. -/
namespace G
open PySem PySem.Spec PyProof.Rows L2

theorem blt_val (b : BI) : bootBuiltins b.name = some b.id := by
  cases b with
  | isI T => show bootBuiltins ("isinstance" : Str) = some (.builtin "isinstance"); decide +kernel
  | _ => decide +kernel
theorem blt_mem (b : BI) : b.name ∈ bltNames := by
  cases b with
  | isI T => show ("isinstance" : Str) ∈ bltNames; decide +kernel
  | _ => decide +kernel
theorem blt_name (b : BI) : b.name ≠ "__name__" := by
  cases b with
  | isI T => show ("isinstance" : Str) ≠ "__name__"; decide +kernel
  | _ => decide +kernel
theorem ty_val {T : String} (h : T = "int" ∨ T = "bool" ∨ T = "tuple" ∨ T = "list" ∨ T = "str") : bootBuiltins (PySem.Str.ofString T) = some (.type T) ∧ PySem.Str.ofString T ∈ bltNames ∧ PySem.Str.ofString T ≠ "__name__" := by
  rcases h with rfl | rfl | rfl | rfl | rfl <;> decide +kernel
mutual
theorem plainE {N : List Str} {nm : NT} {cn : Nat → Option Str} : ∀ {c : CE} {sc : Scope} {e : Expr}, chkE N nm cn c sc e = true → Plain e := by
  intro c sc e h
  cases e with
  | Starred _ _ => cases c <;> first | (simp [chkE] at h; done) | (rename_i l; cases l <;> simp [chkE, chkL] at h)
  | Slice _ _ _ _ => cases c <;> first | (simp [chkE] at h; done) | (rename_i l; cases l <;> simp [chkE, chkL] at h)
  | Set _ _ _ => cases c <;> first | (simp [chkE] at h; done) | (rename_i l; cases l <;> simp [chkE, chkL] at h)
  | _ => exact ⟨rfl, fun _ _ _ _ z => (by cases z), fun _ _ _ z => (by cases z)⟩
end
theorem plainL {N : List Str} {nm : NT} {cn : Nat → Option Str} {c : LE} {sc : Scope} {e : Expr} (h : chkL N nm cn c sc e = true) : Plain e := by
  cases e with
  | Starred _ _ => cases c <;> simp [chkL] at h
  | Slice _ _ _ _ => cases c <;> simp [chkL] at h
  | Set _ _ _ => cases c <;> simp [chkL] at h
  | _ => exact ⟨rfl, fun _ _ _ _ z => (by cases z), fun _ _ _ z => (by cases z)⟩
theorem plainI {N : List Str} {nm : NT} {cn : Nat → Option Str} {c : CI} {sc : Scope} {tg e : Expr} (h : chkI N nm cn c sc tg e = true) : Plain e := by
  cases c with
  | val a => exact plainE h
  | _ => cases e with
    | Call _ _ _ _ => exact ⟨rfl, fun _ _ _ _ z => (by cases z), fun _ _ _ z => (by cases z)⟩
    | _ => simp [chkI] at h
/-- a truth test of plain make -/
theorem plainTest {N : List Str} {nm : NT} {cn : Nat → Option Str} {c : CE} {sc : Scope} {e : Expr} {env : Env} (h : chkE N nm cn c sc e = true) (ho : okTest c = true) (h1 : ∀ o a b, c ≠ .cmp o a b) (h2 : ∀ o o' a b d, c ≠ .chain o o' a b d) :
    ∀ whole, isTrue e env whole = (do let v ← whole; standAt e.pos; holding [v] (truthy v)) := by
  cases c with
  | cmp o a b => exact absurd rfl (h1 o a b)
  | chain o o' a b d => exact absurd rfl (h2 o o' a b d)
  | andV _ _ => cases ho
  | orV _ _ => cases ho
  | notV _ => cases ho
  | ite _ _ _ => cases ho
  | fzOf l => cases l <;> cases e <;> first | (intro _; rfl) | (simp [chkE, chkL] at h; done)
  | newL l => cases l <;> cases e <;> first | (intro _; rfl) | (simp [chkE, chkL] at h; done)
  | neg a =>
    cases e with
    | UnaryOp op _ _ => cases op <;> first | (intro _; rfl) | (simp [chkE] at h; done)
    | _ => simp [chkE] at h
  | _ => cases e <;> first | (intro _; rfl) | (simp [chkE] at h; done)
theorem chkEs_star {N : List Str} {nm : NT} {cn : Nat → Option Str} : ∀ {c : CEs} {sc : Scope} {es : List Expr}, chkEs N nm cn c sc es = true → ∀ e ∈ es, notStar e = true
  | .nil, _, es, h => by
    have : es = [] := by simpa [chkEs] using h
    subst this; simp
  | .cons a r, sc, [], h => by simp [chkEs] at h
  | .cons a r, sc, e :: es, h => by
    simp only [chkEs, Bool.and_eq_true] at h
    intro x hx
    rcases List.mem_cons.mp hx with rfl | hx
    · exact (plainE h.1).star
    · exact chkEs_star h.2 x hx

section
variable {C : Nat → Addr} {K : PySem.W.Frag} {ω ρ U : List Addr} {β : Nat → Option Addr} {env : Ev} {h : AH} {σ : L2.St} {H : Hp}
def eraseH (H : Hp) (p : Addr) : Hp := fun b => if b = p then none else H b
theorem eraseH_ne {p b : Addr} (n : b ≠ p) : eraseH H p b = H b := if_neg n
theorem eraseH_same {p : Addr} : eraseH H p p = none := if_pos rfl
theorem eraseH_upd {p : Addr} {u : HO} (e : H p = some u) : upd (eraseH H p) p u = H := by
  funext b
  by_cases hb : b = p
  · subst hb; rw [upd_same, e]
  · rw [upd_ne hb, eraseH_ne hb]
theorem ms_cons {p a : Addr} : ms ω ρ (p :: U) a ↔ a = p ∨ ms ω ρ U a := by
  unfold ms
  simp only [List.mem_cons]
  constructor
  · rintro (h | h | h | h)
    · exact .inr (.inl h)
    · exact .inr (.inr (.inl h))
    · exact .inl h
    · exact .inr (.inr (.inr h))
  · rintro (h | h | h | h)
    · exact .inr (.inr (.inl h))
    · exact .inl h
    · exact .inr (.inl h)
    · exact .inr (.inr (.inr h))
theorem Grow.erase {p : Addr} {vs : List V} (e : H p = some (.lst vs)) : Grow H ρ (ms ω ρ (p :: U)) (eraseH H p) ρ (ms ω ρ U) :=
  ⟨fun a xs z => by rw [eraseH_ne (fun q => by subst q; rw [e] at z; cases z)]; exact z, fun a o u z => by rw [eraseH_ne (fun q => by subst q; rw [e] at z; cases z)]; exact z, fun _ _ z => z,
    fun a xs z n => ⟨by rw [eraseH_ne (fun q => n (ms_cons.mpr (.inl q)))]; exact z, fun q => n (ms_cons.mpr (.inr q))⟩⟩
/-- the last of one's own, taken away -/
theorem RS.erase {p : Addr} {vs : List V} (r : RS C K β ω ρ (p :: U) env h σ H) (nU : p ∉ U) (no : ∀ (i : Nat) (o : AO), env[i]? = some (some (Sl.own o)) → σ[i]? ≠ some (some (V.ref p))) (e : H p = some (.lst vs)) : RS C K β ω ρ U env h σ (eraseH H p) := by
  have hr := r.hr
  have g : Grow H ρ (ms ω ρ (p :: U)) (eraseH H p) ρ (ms ω ρ U) := .erase e
  refine ⟨⟨hr.lh, fun n o z => ?_, hr.nd, fun a ha => ⟨(hr.dj a ha).1, fun z => (hr.dj a ha).2 (List.mem_cons_of_mem _ z)⟩, fun a ha => hr.du a (List.mem_cons_of_mem _ ha), fun a z => ?_⟩, r.len, fun i s z => ?_, r.inj, r.bo⟩
  · obtain ⟨a, e1, r1⟩ := hr.hp n o z
    exact ⟨a, e1, r1.grow g (eraseH_ne fun q => (hr.dj a (List.mem_of_getElem? e1)).2 (q ▸ List.mem_cons_self ..))⟩
  · obtain ⟨u, e1, m1⟩ := hr.pr a (ms_cons.mpr (.inr z))
    have na : a ≠ p := fun q => by
      subst q
      rcases z with z | z | z
      · exact hr.du a (List.mem_cons_self ..) z
      · exact (hr.dj a z).2 (List.mem_cons_self ..)
      · exact nU z
    exact ⟨u, by rw [eraseH_ne na]; exact e1, m1⟩
  · obtain ⟨v, ev, rv⟩ := r.sl i s z
    refine ⟨v, ev, ?_⟩
    cases s with
    | val d => exact RD.grow g rv
    | own o =>
      obtain ⟨a, rfl, ha, ra⟩ := rv
      have na : a ≠ p := fun q => no i o z (q ▸ ev)
      exact ⟨a, rfl, (List.mem_cons.mp ha).resolve_left na, ra.grow g (eraseH_ne na)⟩
    | bor o =>
      obtain ⟨a, rfl, ha, ra⟩ := rv
      exact ⟨a, rfl, ha, ra.grow g (eraseH_ne fun q => hr.du p (List.mem_cons_self ..) (q ▸ ha))⟩
/-- one's own, one more -/
theorem RS.more {p : Addr} (r : RS C K β ω ρ U env h σ H) {u : HO} (hp : H p = none) (hu : MutO u) : RS C K β ω ρ (p :: U) env h σ (upd H p u) := by
  obtain ⟨hr, g⟩ := r.hr.adopt hp hu
  have ne : ∀ a, ms ω ρ U a → a ≠ p := fun a z q => r.hr.fresh hp (q ▸ z)
  refine ⟨hr, r.len, fun i s z => ?_, r.inj, r.bo⟩
  obtain ⟨v, ev, rv⟩ := r.sl i s z
  refine ⟨v, ev, ?_⟩
  cases s with
  | val d => exact RD.grow g rv
  | own o =>
    obtain ⟨a, rfl, ha, ra⟩ := rv
    exact ⟨a, rfl, List.mem_cons_of_mem _ ha, ra.grow g (upd_ne (ne a (.inr (.inr ha))))⟩
  | bor o =>
    obtain ⟨a, rfl, ha, ra⟩ := rv
    exact ⟨a, rfl, ha, ra.grow g (upd_ne (ne a (.inl ha)))⟩
theorem Wlk.tup {xs : List D} {gd : AH → Prop} {cp : Bool} {a : Addr} {vs : List V} (e : H a = some (.tup vs)) (r : RDs K H ρ (ms ω ρ U) xs vs) : Wlk C K ω ρ U H xs gd cp (Itt K a) where
  go := fun i x h1 ρ1 U1 H1 hr g o gh ex => by
    obtain ⟨v, ev, rv⟩ := (r.grow g.gr).get ex
    refine ⟨⟨vs, v, SqT.of (g.gr.tup _ _ e), ev⟩, fun v' H2 y => ?_⟩
    obtain ⟨rfl, y⟩ := y
    have := y vs (SqT.of (g.gr.tup _ _ e))
    rw [ev] at this; cases this
    exact ⟨hr, .refl, rv⟩
  stop := fun i h1 ρ1 U1 H1 hr g o gh ex => ⟨vs, SqT.of (g.gr.tup _ _ e), by rw [← r.length]; exact ex⟩
/-- a walk of a value -/
theorem Wlk.val {x : VV} {v : V} {xs : List D} {cp : Bool} (hr : HR C K ω ρ U h H) (rx : RV C K ω ρ U H x v) (ncp : cp = true ∨ ∀ o, x ≠ .tw o) (e : x.seq h = some xs) :
    ∃ a, v = .ref a ∧ (((∃ vs, SqL K H a vs) ∧ Wlk C K ω ρ U H xs (fun h => x.seq h = some xs) cp (Itl K a)) ∨ ((∃ vs, SqT K H a vs) ∧ Wlk C K ω ρ U H xs (fun h => x.seq h = some xs) cp (Itt K a))) := by
  cases x with
  | d d =>
    cases d with
    | tup ds =>
      cases rx with
      | tup s q =>
      cases e
      exact ⟨_, rfl, .inr ⟨⟨_, SqT.of s⟩, .tup s q⟩⟩
    | fz ds =>
      cases rx with
      | fz s q =>
      cases e
      exact ⟨_, rfl, .inl ⟨⟨_, s.sq⟩, .lst fun h1 ρ1 U1 H1 hr g o gh => ⟨_, (g.gr.fzL s).sq, q.grow g.gr⟩⟩⟩
    | ref n =>
      cases rx with
      | ref hn =>
      obtain ⟨a, vs, ea, s, q⟩ := RV.list hr (x := .d (.ref n)) (RD.ref hn) e
      cases ea
      refine ⟨_, rfl, .inl ⟨⟨vs, s⟩, .lst fun h1 ρ1 U1 H1 hr g o gh => ?_⟩⟩
      obtain ⟨a2, vs2, ea2, s2, q2⟩ := RV.list hr (x := .d (.ref n)) (RD.ref (g.gr.pre _ _ hn)) gh
      cases ea2
      exact ⟨vs2, s2, q2⟩
    | _ => cases e
  | tw o =>
    cases o with
    | lst ds =>
      obtain ⟨a, rfl, ha, vs, h1, h2⟩ := rx
      cases e
      rcases ncp with rfl | ncp
      · exact ⟨a, rfl, .inl ⟨⟨vs, SqL.of h1⟩, .lst fun h1' ρ1 U1 H1 hr g o gh => ⟨vs, SqL.of ((o rfl a ha).trans h1), h2.grow g.gr⟩⟩⟩
      · exact absurd rfl (ncp _)
    | _ => cases e
  | bw o =>
    cases o with
    | lst ds =>
      obtain ⟨a, rfl, ha, vs, h1, h2⟩ := rx
      cases e
      exact ⟨a, rfl, .inl ⟨⟨vs, SqL.of h1⟩, .lst fun h1' ρ1 U1 H1 hr g o gh => ⟨vs, SqL.of ((g.own a ha).trans h1), h2.grow g.gr⟩⟩⟩
    | _ => cases e
theorem RDs.rg {m : Addr → Prop} (lo : Int) : ∀ n : Nat, RDs K H ρ m (rgD lo n) ((List.range n).map fun (k : Nat) => V.int (lo + (k : Int))) := by
  intro n
  unfold rgD
  induction List.range n with
  | nil => exact .nil
  | cons a r ih => exact .cons (.int _) ih
theorem Wlk.rg {gd : AH → Prop} {cp : Bool} {lo : Int} {n : Nat} : Wlk C K ω ρ U H (rgD lo n) gd cp (Itr lo n) where
  go := fun i x h1 ρ1 U1 H1 hr g o gh ex => by
    have hi : i < n := by
      have := (List.getElem?_eq_some_iff.mp ex).1
      simpa [rgD] using this
    refine ⟨hi, fun v' H2 y => ?_⟩
    obtain ⟨rfl, rfl⟩ := y
    have : x = .int (lo + (i : Int)) := by
      simp [rgD, List.getElem?_map, hi] at ex
      exact ex.symm
    subst this
    exact ⟨hr, .refl, .int _⟩
  stop := fun i h1 ρ1 U1 H1 hr g o gh ex => by
    show n ≤ i
    simpa [rgD] using ex
end
end G

set_option maxHeartbeats 4000000
/-! Core9: comprehensions; the mutual theorem on expressions. -/
namespace G
open PySem PySem.Spec PyProof.Rows L2

section
variable {C : Nat → Addr} {K : PySem.W.Frag} {ω ρ U : List Addr} {β : Nat → Option Addr} {env : Ev} {h : AH} {σ : L2.St} {H : Hp}
/-- one's own that no slot holds is changed -/
theorem RS.writeX (r : RS C K β ω ρ U env h σ H) {a : Addr} (ha : a ∈ U) {u : HO} (hu : MutO u) (no : ∀ (i : Nat) (o : AO), env[i]? = some (some (Sl.own o)) → σ[i]? ≠ some (some (V.ref a))) :
    RS C K β ω ρ U env h σ (upd H a u) ∧ Grow H ρ (ms ω ρ U) (upd H a u) ρ (ms ω ρ U) := by
  obtain ⟨hr, g⟩ := r.hr.write ha hu
  refine ⟨⟨hr, r.len, fun i s z => ?_, r.inj, r.bo⟩, g⟩
  obtain ⟨v, ev, rv⟩ := r.sl i s z
  refine ⟨v, ev, ?_⟩
  cases s with
  | val d => exact RD.grow g rv
  | own o =>
    obtain ⟨b, rfl, hb, rb⟩ := rv
    exact ⟨b, rfl, hb, rb.grow g (upd_ne fun q => no i o z (q ▸ ev))⟩
  | bor o =>
    obtain ⟨b, rfl, hb, rb⟩ := rv
    exact ⟨b, rfl, hb, rb.grow g (upd_ne fun q => r.hr.du a ha (q ▸ hb))⟩
end
/-- in a comprehension nothing is raised -/
abbrev W0 : WX := fun _ _ _ _ => False
section
variable {C : Nat → Addr} {Γ : GM} {nm : NT} {cs : Nat → Option (Str × D)} {k : Nat} {N : List Str}
theorem CC.blk {X : Cx} (c : CC C Γ nm cs k N X) (s : Shared) (H : Hp) (scope : Scope) (Cd : Addr) (cl : List (Str × Addr)) (fp : List Addr) : CC C Γ nm cs k N (X.blk s H scope (compEnvC scope cl Cd X.env) fp) :=
  ⟨c.hN, c.calm, c.room, c.nd, c.fns, c.cst, c.blt, c.exn, c.exc, c.exl, c.cls, c.mth, c.mks, c.srt⟩
theorem hT_blk {X : Cx} (s : Shared) (H : Hp) (scope : Scope) (Cd : Addr) (cl : List (Str × Addr)) (fp : List Addr) : ∀ x, locB scope x = true →
    Loc (X.blk s H scope (compEnvC scope cl Cd X.env) fp).env.scope x ∧ ((X.blk s H scope (compEnvC scope cl Cd X.env) fp).fn x = true ∨ (X.blk s H scope (compEnvC scope cl Cd X.env) fp).env.scope.names.lookup x = some .local) := fun x h => by
  have e : (X.blk s H scope (compEnvC scope cl Cd X.env) fp).env.scope = relS scope X.env.scope := rfl
  rcases locB_ok h with z | z
  · have q : (relS scope X.env.scope).names.lookup x = some .local := lookup_relS_keep (by decide) z
    rw [e]
    exact ⟨.inl q, .inr q⟩
  · have q : (relS scope X.env.scope).names.lookup x = some .cell := lookup_relS_keep (by decide) z
    refine ⟨by rw [e]; exact .inr q, .inl ?_⟩
    show (scope.names.lookup x == some .cell) = true
    rw [z]; rfl
theorem lc_ok {X : Cx} {W : WX} {it : CI} {g : CG} {ifsC : CTs} {el : CE} {elt tg iter : Expr} {ifs : List Expr} {scope : Scope} {own : List (Str × Nat)} {pos : Pos} (hc : X.calm = true) (hN : X.N.Nodup)
    (hi : PI X tg iter (tI C X.K W Γ (cval cs) it true)) (ok : BlkOk X.N X.env.scope scope own) (hown : own.map (·.2) = g.slots)
    (hg : ∀ (s : Shared) (H : Hp) (Cd : Addr) (cl : List (Str × Addr)) (fp : List Addr), PG (X.blk s H scope (compEnvC scope cl Cd X.env) fp) tg (gR X.K g))
    (ht : ∀ (s : Shared) (H : Hp) (Cd : Addr) (cl : List (Str × Addr)) (fp : List Addr), PTs (X.blk s H scope (compEnvC scope cl Cd X.env) fp) ifs (tTs C X.K W0 Γ (cval cs) ifsC))
    (he : ∀ (s : Shared) (H : Hp) (Cd : Addr) (cl : List (Str × Addr)) (fp : List Addr), PE (X.blk s H scope (compEnvC scope cl Cd X.env) fp) elt (tE C X.K W0 Γ (cval cs) el))
    {σ : L2.St} {H : Hp} {Q : VK} (hq : tL C X.K W Γ (cval cs) (.lc it g ifsC el) σ H Q) : tLc (tI C X.K W Γ (cval cs) it true) (gR X.K g) (tTs C X.K W0 Γ (cval cs) ifsC) (tE C X.K W0 Γ (cval cs) el) (own.map (·.2)) σ H Q := by
  rw [hown]
  obtain ⟨ω, β, ρ, U, env, h, Q', X', rs, w, hq, hx⟩ := hq
  refine ⟨ω, β, ρ, U, env, h, _, X', rs, w, fun xs gd J h1 ρ1 H1 rs1 g1 wk w1 D hD => ?_, hx⟩
  have no : ∀ (i : Nat) (o : AO), env[i]? = some (some (Sl.own o)) → σ[i]? ≠ some (some (V.ref D)) := fun i o e z => by
    obtain ⟨v, ev, a, rfl, ha, ra⟩ := rs1.sl i _ e
    rw [z] at ev; cases ev
    obtain ⟨u, hu, _⟩ := ra.kind
    rw [hD] at hu; cases hu
  have nU : D ∉ U := fun z => rs1.hr.fresh hD (.inr (.inr z))
  refine ⟨fun i m Hc => i ≤ xs.length ∧ m = xs.length - i ∧ ∃ ρ2 h2 acc accV, RS C X.K β ω ρ2 (D :: U) env h2 σ Hc ∧ SStp ω H1 ρ1 U Hc ρ2 (D :: U) ∧ (∀ a ∈ U, Hc a = H1 a) ∧ Hc D = some (.lst accV) ∧
    RDs X.K Hc ρ2 (ms ω ρ2 (D :: U)) acc accV ∧ lcW gd (wipeE env g.slots) g (fun env' h Q => wpTs Γ (cval cs) ifsC env' h Q fun _ _ => False) (fun env' h Q => wpE Γ (cval cs) el env' h Q fun _ _ => False) (xs.drop i) acc h2 Q', ?_, ?_⟩
  · refine ⟨xs.length, Nat.zero_le _, rfl, ρ1, h1, [], [], rs1.more hD (.lst _), ⟨(rs1.hr.adopt hD (.lst _)).2, fun a ha => upd_ne fun z => rs1.hr.fresh hD (.inl (z ▸ ha))⟩, fun a ha => upd_ne fun z => nU (z ▸ ha), upd_same, .nil, w1⟩
  · rintro i m Hc ⟨hi1, rfl, ρ2, h2, acc, accV, rs2, g2, o2, eD, rac, w2⟩
    by_cases hlt : i < xs.length
    · obtain ⟨x, ex⟩ : ∃ x, xs[i]? = some x := ⟨_, List.getElem?_eq_getElem hlt⟩
      have ed : xs.drop i = x :: xs.drop (i + 1) := by
        rw [List.drop_eq_getElem_cons hlt]
        rw [List.getElem?_eq_getElem hlt] at ex
        rw [Option.some.inj ex]
      rw [ed] at w2
      obtain ⟨gdh, w2⟩ := w2
      obtain ⟨jgo, jy⟩ := wk.go i x h2 ρ2 (D :: U) Hc rs2.hr g2 (fun _ => o2) gdh ex
      refine .inr ⟨jgo, fun H' => ∃ m', m' < xs.length - i ∧ (i + 1 ≤ xs.length ∧ m' = xs.length - (i + 1) ∧ ∃ ρ2 h2 acc accV, RS C X.K β ω ρ2 (D :: U) env h2 σ H' ∧ SStp ω H1 ρ1 U H' ρ2 (D :: U) ∧ (∀ a ∈ U, H' a = H1 a) ∧ H' D = some (.lst accV) ∧
        RDs X.K H' ρ2 (ms ω ρ2 (D :: U)) acc accV ∧ lcW gd (wipeE env g.slots) g (fun env' h Q => wpTs Γ (cval cs) ifsC env' h Q fun _ _ => False) (fun env' h Q => wpE Γ (cval cs) el env' h Q fun _ _ => False) (xs.drop (i + 1)) acc h2 Q'), fun H' z => z, fun v H2 y => ?_⟩
      obtain ⟨hr2, st2, rdx⟩ := jy v H2 y
      have rsH2 : RS C X.K β ω ρ2 (D :: U) env h2 σ H2 := rs2.step hr2 st2
      refine g_ok (wipe_rs rsH2 g.slots) rdx w2 fun env' σ' rs' hk hl w3 => ⟨?_, ?_⟩
      · rw [wipe_eq hl hk, wipe_wipe]
      · refine ⟨ω, β, ρ2, D :: U, env', h2, _, _, rs', w3, fun b b' h3 ρ3 H3 rs3 g3 eb w4 => ?_, fun _ _ _ _ _ _ _ _ _ z => z⟩
        subst eb
        have fin : ∀ (h5 : AH) (ρ5 : List Addr) (H5 : Hp), RS C X.K β ω ρ5 (D :: U) env' h5 σ' H5 → Stp ω (D :: U) H2 ρ2 H5 ρ5 → RS C X.K β ω ρ5 (D :: U) env h5 σ H5 ∧ SStp ω H1 ρ1 U H5 ρ5 (D :: U) ∧ (∀ a ∈ U, H5 a = H1 a) ∧ H5 D = some (.lst accV) ∧ RDs X.K H5 ρ5 (ms ω ρ5 (D :: U)) acc accV := fun h5 ρ5 H5 rs5 g5 =>
          ⟨rsH2.step rs5.hr g5, g2.trans (st2.trans g5).s, fun a ha => ((st2.trans g5).own a (.inr (List.mem_cons_of_mem _ ha))).trans (o2 a ha), ((st2.trans g5).own D (.inr (List.mem_cons_self ..))).trans eD, rac.grow (st2.trans g5).gr⟩
        cases b with
        | false =>
          rw [if_neg (by decide)] at w4 ⊢
          obtain ⟨a1, a2, a3, a4, a5⟩ := fin h3 ρ3 H3 rs3 g3
          exact ⟨_, by omega, by omega, rfl, ρ3, h3, acc, accV, a1, a2, a3, a4, a5, w4⟩
        | true =>
          rw [if_pos rfl] at w4 ⊢
          refine ⟨ω, β, ρ3, D :: U, env', h3, _, _, rs3, w4, fun d v4 h4 ρ4 H4 rs4 g4 rv w5 => ?_, fun _ _ _ _ _ _ _ _ _ z => z⟩
          obtain ⟨yd, rfl, hlen, w5⟩ := w5
          obtain ⟨a1, a2, a3, a4, a5⟩ := fin h4 ρ4 H4 rs4 (g3.trans g4)
          have mD : D ∈ D :: U := List.mem_cons_self ..
          obtain ⟨b1, b2⟩ := a1.writeX mD (.lst (accV ++ [v4])) no
          refine ⟨accV, a4, by rw [← a5.length]; exact hlen, _, by omega, by omega, rfl, ρ4, h4, _, _, b1, a2.trans ⟨b2, fun a ha => upd_ne fun z => a1.hr.du D mD (z ▸ ha)⟩, fun a ha => (upd_ne fun z => by subst z; exact nU ha).trans (a3 a ha), upd_same, (a5.append (.cons rv .nil)).grow b2, w5⟩
    · have e0 : xs.drop i = [] := List.drop_eq_nil_of_le (by omega)
      rw [e0] at w2
      obtain ⟨gdh, w2⟩ := w2
      refine .inl ⟨wk.stop i h2 ρ2 (D :: U) Hc rs2.hr g2 (fun _ => o2) gdh (by omega), ?_⟩
      have ge : Grow Hc ρ2 (ms ω ρ2 (D :: U)) (eraseH Hc D) ρ2 (ms ω ρ2 U) := .erase eD
      have nω : D ∉ ω := fun z => rs1.hr.fresh hD (.inl z)
      have q := hq acc accV h2 ρ2 (eraseH Hc D) (rs2.erase nU no eD) (g1.trans ⟨g2.gr.trans ge, fun a ha => by
        rcases ha with ha | ha
        · rw [eraseH_ne (fun z => by subst z; exact nω ha)]; exact g2.own a ha
        · rw [eraseH_ne (fun z => by subst z; exact nU ha)]; exact o2 a ha⟩) (rac.grow ge) w2 D eraseH_same
      rw [eraseH_upd eD] at q
      exact q
end

/-! ### the heap's objects: made, changed -/
section
variable {C : Nat → Addr} {K : PySem.W.Frag} {ω ρ U : List Addr} {h : AH} {H : Hp}
theorem ms_snoc {p a : Addr} : ms ω (ρ ++ [p]) U a ↔ a = p ∨ ms ω ρ U a := by
  unfold ms
  simp only [List.mem_append, List.mem_cons, List.not_mem_nil, or_false]
  constructor
  · rintro (h | (h | h) | h)
    · exact .inr (.inl h)
    · exact .inr (.inr (.inl h))
    · exact .inl h
    · exact .inr (.inr (.inr h))
  · rintro (h | h | h | h)
    · exact .inr (.inl (.inr h))
    · exact .inl h
    · exact .inr (.inl (.inl h))
    · exact .inr (.inr h)
theorem HR.growA (r : HR C K ω ρ U h H) {p : Addr} (hp : H p = none) (u : HO) : Grow H ρ (ms ω ρ U) (upd H p u) (ρ ++ [p]) (ms ω (ρ ++ [p]) U) :=
  ⟨fun a xs e => by rw [upd_ne (ne_of_none e hp)]; exact e, fun a o v e => by rw [upd_ne (ne_of_none e hp)]; exact e,
    fun n a e => by rw [List.getElem?_append_left (List.getElem?_eq_some_iff.mp e).1]; exact e,
    fun a xs e n => ⟨by rw [upd_ne (ne_of_none e hp)]; exact e, fun z => (ms_snoc.mp z).elim (ne_of_none e hp) n⟩⟩
/-- a new object of the core's heap -/
theorem HR.alloc (r : HR C K ω ρ U h H) {p : Addr} (hp : H p = none) {u : HO} (hu : MutO u) {o : AO} (ro : RO C K (upd H p u) (ρ ++ [p]) (ms ω (ρ ++ [p]) U) o p) :
    HR C K ω (ρ ++ [p]) U (h ++ [o]) (upd H p u) ∧ Stp ω U H ρ (upd H p u) (ρ ++ [p]) := by
  have nm := r.fresh hp
  have ne : ∀ a, ms ω ρ U a → a ≠ p := fun a z e => nm (e ▸ z)
  have g := r.growA hp u
  refine ⟨⟨by simp [r.lh], fun n o' e => ?_, ?_, fun a ha => ?_, r.du, fun a z => ?_⟩, g, fun a z => upd_ne (ne a (z.elim .inl fun q => .inr (.inr q)))⟩
  · by_cases hn : n < h.length
    · rw [List.getElem?_append_left hn] at e
      obtain ⟨a, e1, r1⟩ := r.hp n o' e
      exact ⟨a, g.pre n a e1, r1.grow g (upd_ne (ne a (.inr (.inl (List.mem_of_getElem? e1)))))⟩
    · have hn' : n = h.length := by
        have := (List.getElem?_eq_some_iff.mp e).1
        simp at this; omega
      subst hn'
      rw [List.getElem?_append_right (Nat.le_refl _)] at e
      simp at e
      subst e
      exact ⟨p, by rw [r.lh, List.getElem?_append_right (Nat.le_refl _)]; simp, ro⟩
  · rw [List.nodup_append]
    exact ⟨r.nd, by simp, by rintro a ha b hb rfl; simp at hb; subst hb; exact ne a (.inr (.inl ha)) rfl⟩
  · rcases List.mem_append.mp ha with ha | ha
    · exact r.dj a ha
    · simp at ha; subst ha
      exact ⟨fun z => nm (.inl z), fun z => nm (.inr (.inr z))⟩
  · rcases ms_snoc.mp z with z | z
    · subst z; exact ⟨u, upd_same, hu⟩
    · rw [upd_ne (ne a z)]; exact r.pr a z
/-- an object of the core's heap is changed -/
theorem HR.mut (r : HR C K ω ρ U h H) {n : Nat} {a : Addr} {u : HO} (hn : ρ[n]? = some a) (hu : MutO u) {o : AO} (ro : Grow H ρ (ms ω ρ U) (upd H a u) ρ (ms ω ρ U) → RO C K (upd H a u) ρ (ms ω ρ U) o a) :
    HR C K ω ρ U (h.set n o) (upd H a u) ∧ Stp ω U H ρ (upd H a u) ρ := by
  have haρ : a ∈ ρ := List.mem_of_getElem? hn
  have hm : ms ω ρ U a := .inr (.inl haρ)
  obtain ⟨u0, e0, m0⟩ := r.pr a hm
  have g : Grow H ρ (ms ω ρ U) (upd H a u) ρ (ms ω ρ U) :=
    ⟨fun b xs e => by rw [upd_ne (fun z => by subst z; rw [e0] at e; exact m0.1 _ (Option.some.inj e))]; exact e,
      fun b o v e => by rw [upd_ne (fun z => by subst z; rw [e0] at e; exact m0.2 _ _ (Option.some.inj e))]; exact e, fun _ _ e => e,
      fun b xs e n => ⟨by rw [upd_ne (fun z => by subst z; exact n hm)]; exact e, n⟩⟩
  have hln : n < h.length := by rw [r.lh]; exact (List.getElem?_eq_some_iff.mp hn).1
  refine ⟨⟨by simp [r.lh], fun m o' e => ?_, r.nd, r.dj, r.du, fun b z => ?_⟩, g, fun b hb => upd_ne fun z => ?_⟩
  · by_cases hmn : m = n
    · subst hmn
      rw [List.getElem?_set_self hln] at e
      cases e
      exact ⟨a, hn, ro g⟩
    · rw [List.getElem?_set_ne (Ne.symm hmn)] at e
      obtain ⟨b, e1, r1⟩ := r.hp m o' e
      refine ⟨b, e1, r1.grow g (upd_ne fun z => hmn ?_)⟩
      subst z
      exact (List.getElem?_inj (List.getElem?_eq_some_iff.mp e1).1 r.nd).mp (e1.trans hn.symm)
  · by_cases hb : b = a
    · subst hb; exact ⟨u, upd_same, hu⟩
    · rw [upd_ne hb]; exact r.pr b z
  · subst z
    exact hb.elim (r.dj _ haρ).1 (r.dj _ haρ).2
theorem hL_ok (r : HR C K ω ρ U h H) {x : VV} {v : V} {n : Nat} {xs : List D} (rv : RV C K ω ρ U H x v) (e : hL h x = some (n, xs)) :
    ∃ a vs, v = .ref a ∧ x = .d (.ref n) ∧ ρ[n]? = some a ∧ h[n]? = some (.lst xs) ∧ H a = some (.lst vs) ∧ RDs K H ρ (ms ω ρ U) xs vs := by
  unfold hL at e
  split at e
  · rename_i m
    split at e
    · rename_i ys e2
      cases e
      cases rv with
      | ref hn =>
      obtain ⟨a, e1, vs, h1, h2⟩ := r.hp _ _ e2
      rw [hn] at e1
      cases e1
      exact ⟨_, vs, rfl, rfl, hn, e2, h1, h2⟩
    · cases e
  · cases e
/-- a list of the core's heap is changed -/
theorem HR.mutL (r : HR C K ω ρ U h H) {n : Nat} {a : Addr} {xs : List D} {vs : List V} (hn : ρ[n]? = some a) (q : RDs K H ρ (ms ω ρ U) xs vs) : HR C K ω ρ U (h.set n (.lst xs)) (upd H a (.lst vs)) ∧ Stp ω U H ρ (upd H a (.lst vs)) ρ :=
  r.mut hn (.lst vs) fun g => ⟨vs, upd_same, q.grow g⟩
theorem RDs.eraseIdx {m : Addr → Prop} : ∀ {ds : List D} {vs : List V} (i : Nat), RDs K H ρ m ds vs → RDs K H ρ m (ds.eraseIdx i) (vs.eraseIdx i)
  | _, _, _, .nil => .nil
  | _, _, 0, .cons _ t => t
  | _, _, i + 1, .cons r t => .cons r (RDs.eraseIdx i t)
theorem RDs.dropLast {m : Addr → Prop} {ds : List D} {vs : List V} (r : RDs K H ρ m ds vs) : RDs K H ρ m ds.dropLast vs.dropLast := by
  rw [List.dropLast_eq_take, List.dropLast_eq_take, r.length]
  exact r.take _
theorem base_ok {o : Expr} {name : Str} {env : Env} (h : plainOb o = true) : attributeBase o name env (eval o env) = eval o env := by
  cases o <;> first | rfl | cases h
/-- an instance of the core's heap -/
theorem ins_ok (r : HR C K ω ρ U h H) {v : V} {n c : Nat} {fs : List (Str × D)} (rv : RV C K ω ρ U H (.d (.ref n)) v) (e : h[n]? = some (.ins c fs)) : ∃ a dx ws, v = .ref a ∧ ρ[n]? = some a ∧ H a = some (.ins (C c) dx ws) ∧ RK K H ρ (ms ω ρ U) fs ws := by
  cases rv with
  | ref hn =>
  obtain ⟨a, e1, dx, ws, h1, h2⟩ := r.hp _ _ e
  rw [hn] at e1
  cases e1
  exact ⟨_, dx, ws, rfl, hn, h1, h2⟩
theorem RK.look {m : Addr → Prop} {f : Str} {d : D} : ∀ {fs : List (Str × D)} {ws : List (Str × V)}, RK K H ρ m fs ws → fs.lookup f = some d → ∃ v, ws.lookup f = some v ∧ RD K H ρ m d v := by
  intro fs ws r
  unfold RK at r
  induction r with
  | nil => intro e; cases e
  | @cons p q ps qs z t ih =>
    intro e
    obtain ⟨k1, d1⟩ := p
    obtain ⟨k2, v1⟩ := q
    obtain ⟨rfl, rd⟩ := z
    rw [List.lookup_cons] at e ⊢
    by_cases hf : (f == k1) = true
    · rw [hf] at e ⊢
      cases e
      exact ⟨v1, rfl, rd⟩
    · rw [Bool.not_eq_true] at hf
      rw [hf] at e ⊢
      exact ih e
theorem RK.lookN {m : Addr → Prop} {f : Str} : ∀ {fs : List (Str × D)} {ws : List (Str × V)}, RK K H ρ m fs ws → fs.lookup f = none → ws.lookup f = none := by
  intro fs ws r
  unfold RK at r
  induction r with
  | nil => intro _; rfl
  | @cons p q ps qs z t ih =>
    intro e
    obtain ⟨k1, d1⟩ := p
    obtain ⟨k2, v1⟩ := q
    obtain ⟨rfl, rd⟩ := z
    rw [List.lookup_cons] at e ⊢
    by_cases hf : (f == k1) = true
    · rw [hf] at e; cases e
    · rw [Bool.not_eq_true] at hf
      rw [hf] at e ⊢
      exact ih e
theorem RK.putF {m : Addr → Prop} {f : Str} {d : D} {v : V} (rd : RD K H ρ m d v) : ∀ {fs : List (Str × D)} {ws : List (Str × V)}, RK K H ρ m fs ws → RK K H ρ m (putFD f d fs) (L2.putF f v ws) := by
  intro fs ws r
  unfold RK at r
  induction r with
  | nil => exact .cons ⟨rfl, rd⟩ .nil
  | @cons p q ps qs z t ih =>
    obtain ⟨k1, d1⟩ := p
    obtain ⟨k2, v1⟩ := q
    obtain ⟨rfl, rd1⟩ := z
    unfold putFD L2.putF
    by_cases hf : k1 = f
    · simp only [if_pos hf]
      exact .cons ⟨rfl, rd⟩ t
    · simp only [if_neg hf]
      exact .cons ⟨rfl, rd1⟩ ih
theorem RK.len {m : Addr → Prop} {κ : Type} {fs : List (κ × D)} {ws : List (κ × V)} (r : RK K H ρ m fs ws) : fs.length = ws.length := Paired.length r
end

/-! ### {k: v} with one tuple as its key; setdefault with a tuple as its key -/
section
variable {X : Cx} {pos : Pos} {k v : Expr} {tk tv : TE}
def tDisp1T (tk tv : TE) : TE := fun σ H Q => ∀ p, H p = none → tk σ (upd H p (.dT [])) fun x Ha => tv σ Ha fun y Hb => Hb p = some (.dT []) ∧ ∃ b ks, x = .ref b ∧ Hb b = some (.tup (ks.map kV)) ∧ Q (.ref p) (upd Hb p (.dT [(ks, y)]))
theorem pe_disp1T (hu : X.A.units + 1 < cLine) (hk : PE X k tk) (hv : PE X v tv) : PE X (.Dict [some k] [v] pos) (tDisp1T tk tv) := by
  refine ⟨fun pn s σ H Q I q => ?_⟩
  have hnw := I.hok.fresh (Nat.le_refl s.heap.objs.size)
  have Ia := I.laid (a := s.heap.objs.size) (o := .dT []) (h' := s.heap.push { cls := .type "dict", data := .dict #[] }) (t' := s.toks) (fun _ _ q => Heap.get?_push_of_some _ q) (Nat.le_refl _) (dt_empty s.heap I.big)
  have hq := q _ hnw
  rw [arm_eval_Dict, zip_pairTrees [some k] [v] X.env pos rfl rfl, dictDisplay_pairs (pairTrees [some k] [v] X.env pos) (by simp [pairTrees]) (by simp [pairTrees])]
  refine wpAny_bind (wpAny_standAt (wpAny_bind ?_))
  unfold subDict
  refine wpAny_bind (wpAny_alloc ?_)
  refine wpAny_bind (wpAny_holding ?_)
  rw [if_pos (show (pairTrees [some k] [v] X.env pos).length ≤ 15 from by simp [pairTrees])]
  refine wpAny_bind (pairTrees_cons_walk (thn (hk.run pn _ σ _ _ Ia hq) fun u sa ⟨x, Ha, Ib, rx, qa⟩ => thn (hv.run pn sa σ Ha _ Ib qa) fun w2 sb ⟨y, Hb, Ic, ry, e, b, ks, ex, eb, qb⟩ => pairTrees_nil_walk ?_))
  subst ex
  cases (show u = Value.ref b from rx)
  obtain ⟨z, hsm, xs, rl, dk⟩ := dt_of Ic.hok e
  have hx : xs = [] := by cases rl; rfl
  subst hx
  refine wpAny_holding ?_
  rw [List.forIn_cons]
  refine wpAny_bind (wpAny_bind (wpAny_bind (wpAny_dictSet_heap (hsz := by rw [sizeLine_eq]; simp) (show X.A.units < cLine from Nat.lt_of_succ_lt hu) (key_of Ic.hok eb) dk fun h' dk' hs => wpAny_pure ?_)))
  dsimp only
  rw [List.forIn_nil]
  refine wpAny_pure (wpAny_pure (wpAny_pure (wpAny_pure ?_)))
  refine ⟨.ref s.heap.objs.size, _, ?_, rfl, qb⟩
  obtain ⟨q0, es, ep, hq0, h2, h3, h4, _, h5⟩ := dk'
  have hl : (putK ([] : List (List Key × V)) ks y).length ≤ sizeLine := by have := length_putK ([] : List (List Key × V)) ks y; rw [sizeLine_eq]; simp at this ⊢; omega
  refine d_write Ic (by rw [e]; exact True.intro) hs ⟨q0, hq0⟩ ⟨hl, hsm, _, (rl.put ks eb ry).keeps fun c ys ec => ?_, q0, es, ep, hq0, h2, h3, h4, h5⟩
  rw [upd_ne (ne_of ec e (fun z => nomatch z))]
  exact ec
/-- d.setdefault(y, z), whatever the keys -/
def tDSetdA (td ty tx : TE) : TE := fun σ H Q => td σ H fun x Ha => ∃ a, x = .ref a ∧ IsD Ha a ∧ ty σ Ha fun y Hb => tx σ Hb fun z Hc =>
  (∃ (kvs : List (Key × V)) (k : Key), Hc a = some (.dK kvs) ∧ y = kV k ∧ kvs.length < sizeLine ∧ (∀ v, valV kvs k = some v → Q v Hc) ∧ (valV kvs k = none → Q z (upd Hc a (.dK (putK kvs k z))))) ∨
  (∃ (kvs : List (List Key × V)) (k : List Key) (b : Addr), Hc a = some (.dT kvs) ∧ y = .ref b ∧ Hc b = some (.tup (k.map kV)) ∧ kvs.length < sizeLine ∧ (∀ v, valV kvs k = some v → Q v Hc) ∧ (valV kvs k = none → Q z (upd Hc a (.dT (putK kvs k z)))))
theorem d_setdT {A : Around} {E : Value → Shared → Prop} {pn : List (Addr × Obj)} {σ : L2.St} {H : Hp} {s : Shared} {a b : Addr} {r : Value} {d : V} {kk : List Key} {kvs : List (List Key × V)} {Q : Value → Shared → Prop} (hu : A.units + 1 < cLine) (I : Inv X pn σ H s) (e : H a = some (.dT kvs)) (eb : H b = some (.tup (kk.map kV))) (rd : RelV d r) (hl : kvs.length < sizeLine)
    (h1 : ∀ v, valV kvs kk = some v → ∀ (w' : Value) (s' : Shared), Inv X pn σ H s' → RelV v w' → Q w' s') (h2 : valV kvs kk = none → ∀ (w' : Value) (s' : Shared), Inv X pn σ (upd H a (.dT (putK kvs kk d))) s' → RelV d w' → Q w' s') :
    wpAny (model X.prog X.w) A (call (.builtin "dict.setdefault") [.ref a, .ref b, r]) Q E s := by
  obtain ⟨z, hsm, xs, rl, dk⟩ := dt_of I.hok e
  have hz : xs.length ≤ sizeLine := by rw [← Paired.length rl]; exact z
  refine call_meetsIn PySem.F.slot_dict_setdefault dk.typeIs PySem.F.entry_dict_setdefault (PySem.F.args_dict_setdefault_3 _ _ _) (meetsH_dict_setdefault (tupleKind (mixKind X.prog X.w)) a b hsm r) ⟨tupleKind_room_in1 hu, kk, xs, key_of I.hok eb, dk, hz, fun p hp => ?_, fun hnw h' dk' hs => ?_⟩
  · have q := rl.val kk
    rw [show (atKey xs kk).map (·.2) = some p.2 from by rw [hp]; rfl] at q
    cases q0 : valV kvs kk with
    | none => rw [q0] at q; exact (show False from q).elim
    | some v0 => rw [q0] at q; exact h1 v0 q0 _ _ (I.tok _) q
  · have q := rl.val kk
    rw [show (atKey xs kk).map (·.2) = none from by rw [hnw]; rfl] at q
    cases q0 : valV kvs kk with
    | some v0 => rw [q0] at q; exact (show False from q).elim
    | none =>
      have hl2 : (putK kvs kk d).length ≤ sizeLine := by
        have := length_putK kvs kk d
        omega
      obtain ⟨qa, es, ep, hq, g2, g3, g4, _, g5⟩ := dk'
      refine h2 q0 _ _ (d_write I (by rw [e]; exact True.intro) hs ⟨qa, hq⟩ ⟨hl2, hsm, _, (rl.put kk eb rd).keeps fun c ys ec => ?_, qa, es, ep, hq, g2, g3, g4, g5⟩) rd
      rw [upd_ne (ne_of ec e (fun z => nomatch z))]
      exact ec
theorem pe_dsetdA {o e f : Expr} {td ty tx : TE} {apos cpos : Pos} (hu : X.A.units + 1 < cLine) (ho : PE X o td) (he : PE X e ty) (hf : PE X f tx) (m : M2 X o "setdefault" apos e f cpos) : PE X (.Call (.Attribute o "setdefault" apos) [e, f] [] cpos) (tDSetdA td ty tx) := by
  refine ⟨fun pn s σ H Q I h => ?_⟩
  refine wpAny_Call_method m.base m.few m.line PySem.F.plainAttrs_dict PySem.F.slot_dict_setdefault PySem.F.type_dict_setdefault (thn (ho.run pn s σ H _ I h) fun u sa ⟨x, Ha, Ia, rx, a, ex, d, qa⟩ => ?_)
  subst ex
  obtain rfl : u = Value.ref a := rx
  obtain ⟨ta, tb, _⟩ := isD_at Ia d
  refine ⟨ta, tb, ?_⟩
  rw [m.trees]
  refine Calls.callWith_builtin rfl (Calls.evalArgs_plain (Calls.spliced_cons (thn (he.run pn sa σ Ha _ Ia qa) fun iv sb ⟨y, Hb, Ib, ry, qb⟩ =>
    Calls.spliced_cons (thn (hf.run pn sb σ Hb _ Ib qb) fun fv sc ⟨z, Hc, Ic, rz, qc⟩ => Calls.spliced_nil ?_))))
  rcases qc with ⟨kvs, k, ea, ey, hl, qc, qd⟩ | ⟨kvs, k, b, ea, ey, eb, hl, qc, qd⟩
  · subst ey
    exact d_setd Ic ea ry rz hl (fun v hv w' sd Id rw' => ⟨v, _, Id, rw', qc v hv⟩) fun hnw w' sd Id rw' => ⟨z, _, Id, rw', qd hnw⟩
  · subst ey
    cases (show iv = Value.ref b from ry)
    exact d_setdT hu Ic ea eb rz hl (fun v hv w' sd Id rw' => ⟨v, _, Id, rw', qc v hv⟩) fun hnw w' sd Id rw' => ⟨z, _, Id, rw', qd hnw⟩
end

/-! ### methods, new instances: what they may let out by the slots -/
theorem meth_tree {o : Expr} {m : Str} {apos pos : Pos} {args : List Expr} {env : Env} (h : plainOb o = true) (hl : bmB apos pos = true) (hn : args.length < 29) (hs : (backTo pos (starEach args env)).any (·.1) = false) : eval (.Call (.Attribute o m apos) args [] pos) env = (do
    let ov ← eval o env
    standAt apos.atName
    let (f, first) ← holding [ov] (getMethod ov m (do return (← importBound o env).getD true))
    callWith pos f first (backTo pos (starEach args env)) (backToKw pos (keywordEach [] env))) := by
  have hform : methodCallForm (args.length + ([] : List Keyword).length) (backTo pos (starEach args env)) (backToKw pos (keywordEach [] env)) = true := by
    have e : (backTo pos (starEach args env)).all (fun x => !x.1) = true := by
      rw [List.all_eq_true]
      intro y hy
      have := List.any_eq_false.mp hs y hy
      simpa using this
    unfold methodCallForm
    rw [e]
    have e2 : backToKw pos (keywordEach [] env) = [] := rfl
    rw [e2]
    simp; omega
  have hpos : methodCallPos true o env apos pos = pure pos := by
    unfold methodCallPos
    have : (apos.endLine == pos.line) = true := hl
    simp [this]
  rw [arm_eval_Call, base_ok h]
  unfold methodCall
  simp only [hform, hpos, pure_bind, calleeOf, if_true]
section
variable {X : Cx} {CX : CXT} {k : Nat} {f Ca : Addr} {fd : FuncData} {ps : List Str} {sp : Sp} {E : L2.St → XK} {x m : Str} {p pos apos : Pos} {e o : Expr} {es : List Expr} {ta : TE} {t : TA}
def tMethE (Ca : Addr) (m : Str) (sp : Sp) (E : L2.St → XK) (ta : TE) (t : TA) : TE := fun σ H Q => ta σ H fun x Ha => ∃ a dx fs, x = .ref a ∧ Ha a = some (.ins Ca dx fs) ∧ fs.lookup m = none ∧ t σ Ha fun vs Hb => sp (x :: vs) Hb Q (E σ)
theorem pe_methE (hp : plainOb o = true) (he : PE X o ta) (c : Cls X.K Ca) (hm : Meth X.K Ca m f) (F : FnOk X.prog X.w X.K X.mg X.base CX k f fd ps sp) (hr : Room k X.A) (hb : Binds X.K fd ps []) (hx : ∀ σ, PassesAt CX X σ (E σ)) (ha : PA X (e :: es) t)
    (hst : starEach (e :: es) X.env = (false, eval e X.env) :: starEach es X.env) (hpl : (backTo pos (starEach es X.env)).any (·.1) = false) (hal : (backTo pos (starEach (e :: es) X.env)).any (·.1) = false) (hl : bmB apos pos = true) (hn : (e :: es).length < 29) : PE X (.Call (.Attribute o m apos) (e :: es) [] pos) (tMethE Ca m sp E ta t) := by
  have ht := meth_tree (m := m) (apos := apos) (pos := pos) (args := e :: es) (env := X.env) hp hl hn hal
  refine ⟨fun pn s σ H Q I h => ?_⟩
  refine PySem.W.methodCall_KW (thn (he.run pn s σ H _ I h) fun u sa ⟨x, Ha, Ia, rx, a, dx, fs, ex, ea, l, q⟩ => ?_) ht
  subst ex
  cases (show u = Value.ref a from rx)
  refine getmeth_ok Ia ea c hm l ?_
  refine PySem.W.callWith_K (first := [.ref a]) (h₀ := X.base) I.ok.mod.kin hm.kp (thn (ha.run pos pn sa σ Ha _ Ia q) fun us sb ⟨vs, Hb, Ib, r, qb⟩ => ⟨Ib.kIn, ?_⟩) hst hpl
  exact run_fnS (us := .ref a :: us) (vs := .ref a :: vs) F hr hb (hx σ) Ib (.cons rfl r) qb
theorem pe_methE0 (hp : plainOb o = true) (he : PE X o ta) (c : Cls X.K Ca) (hm : Meth X.K Ca m f) (F : FnOk X.prog X.w X.K X.mg X.base CX k f fd ps sp) (hr : Room k X.A) (hb : Binds X.K fd ps []) (hx : ∀ σ, PassesAt CX X σ (E σ)) (hl : bmB apos pos = true) :
    PE X (.Call (.Attribute o m apos) [] [] pos) (tMethE Ca m sp E ta tNil) := by
  have ht := meth_tree (m := m) (apos := apos) (pos := pos) (args := []) (env := X.env) hp hl (by decide) rfl
  refine ⟨fun pn s σ H Q I h => ?_⟩
  refine PySem.W.methodCall_KW (thn (he.run pn s σ H _ I h) fun u sa ⟨x, Ha, Ia, rx, a, dx, fs, ex, ea, l, q⟩ => ?_) ht
  subst ex
  cases (show u = Value.ref a from rx)
  refine getmeth_ok Ia ea c hm l ?_
  exact PySem.W.callWith_K0 (first := [.ref a]) Ia.kIn hm.kp (run_fnS (us := [.ref a]) (vs := [.ref a]) F hr hb (hx σ) Ia (.cons rfl .nil) q)
def tMakeE (Ca : Addr) (sp : Sp) (E : L2.St → XK) (t : TA) : TE := fun σ H Q => t σ H fun vs Ha => ∀ x dx, Ha x = none → Ha dx = none → dx ≠ x →
  sp (.ref x :: vs) (upd (upd Ha dx (.own x)) x (.ins Ca dx [])) (fun v Hb => v = .non ∧ Q (.ref x) Hb) (E σ)
theorem run_makeE {pn : List (Addr × Obj)} {σ : L2.St} {H : Hp} {s : Shared} {Q : VK} {us : List Value} {vs : List V} (M : Mk X.K Ca f) (F : FnOk X.prog X.w X.K X.mg X.base CX k f fd ps sp) (hr : Room (k + 1) X.A) (hb : Binds X.K fd ps [])
    (hx : PassesAt CX X σ (E σ)) (I : Inv X pn σ H s) (r : Vals vs us)
    (h : ∀ x dx, H x = none → H dx = none → dx ≠ x → sp (.ref x :: vs) (upd (upd H dx (.own x)) x (.ins Ca dx [])) (fun v Hb => v = .non ∧ Q (.ref x) Hb) (E σ)) :
    wpAny (model X.prog X.w) X.A (call (.ref Ca) us) (EP X pn σ Q) X.xe s := by
  have hq := h (s.heap.objs.size + 1) s.heap.objs.size (I.hok.fresh (Nat.le_succ _)) (I.hok.fresh (Nat.le_refl _)) (Nat.ne_of_lt (Nat.lt_succ_self _))
  have Ib := Inv.made (C := Ca) I
  have rb : Vals (V.ref (s.heap.objs.size + 1) :: vs) (Value.ref (s.heap.objs.size + 1) :: us) := .cons rfl r
  have hl : (Value.ref (s.heap.objs.size + 1) :: us).length = ps.length := (rb.length.symm).trans (F.len _ _ _ _ hq)
  have bb := hb _ (Value.ref (s.heap.objs.size + 1) :: us) Ib.kIn (by rw [List.append_nil]; exact hl)
  rw [List.append_nil] at bb
  refine wpAny_call (make_map (f := f) I.kIn M.makes M.init (beq_iff_eq.mp M.fn) (codeAny_mono (F.run _ X.stack _ _ ⟨Value.ref (s.heap.objs.size + 1) :: us, []⟩ (Value.ref (s.heap.objs.size + 1) :: us) _ _ (E σ) (hr.make Ca us [])
    (Ib.env0.make Ca us []) bb rb hq) fun z s' hz => ?_))
  cases z with
  | error e => exact hx pn _ _ e s' Ib hz
  | ok fl =>
    cases fl with
    | ret u =>
      obtain ⟨v, H', Ic, rv, ev, qc⟩ := Ib.after hz
      subst ev
      exact ⟨rv, ⟨V.ref (s.heap.objs.size + 1), H', Ic, rfl, qc⟩⟩
    | next => exact False.elim hz
    | brk => exact False.elim hz
    | cont => exact False.elim hz
theorem pe_makeE (M : Mk X.K Ca f) (F : FnOk X.prog X.w X.K X.mg X.base CX k f fd ps sp) (hr : Room (k + 1) X.A) (hg : Gl X x) (hm : X.mg x = some (.ref Ca)) (hb : Binds X.K fd ps []) (hx : ∀ σ, PassesAt CX X σ (E σ))
    (ha : PA X (e :: es) t) (hdb : (x == ("__debug__" : Str)) = false) (he : starEach (e :: es) X.env = (false, eval e X.env) :: starEach es X.env) (hpl : (backTo pos (starEach es X.env)).any (·.1) = false) :
    PE X (.Call (.Name x p) (e :: es) [] pos) (tMakeE Ca sp E t) := by
  refine ⟨fun pn s σ H Q I h => wpAny_Call_Name_kw (ld_glob I hg hm ?_ hdb)⟩
  refine PySem.W.callWith_K (h₀ := X.base) I.ok.mod.kin M.kp (thn (ha.run pos pn s σ H _ I h) fun us sa ⟨vs, Ha, Ia, r, q⟩ => ⟨Ia.kIn, ?_⟩) he hpl
  exact run_makeE M F hr hb (hx σ) Ia r q
theorem pe_makeE0 (M : Mk X.K Ca f) (F : FnOk X.prog X.w X.K X.mg X.base CX k f fd ps sp) (hr : Room (k + 1) X.A) (hg : Gl X x) (hm : X.mg x = some (.ref Ca)) (hb : Binds X.K fd ps []) (hx : ∀ σ, PassesAt CX X σ (E σ))
    (hdb : (x == ("__debug__" : Str)) = false) : PE X (.Call (.Name x p) [] [] pos) (tMakeE Ca sp E tNil) := by
  refine ⟨fun pn s σ H Q I h => wpAny_Call_Name_kw (ld_glob I hg hm ?_ hdb)⟩
  exact PySem.W.callWith_K0 I.kIn M.kp (run_makeE (us := []) M F hr hb (hx σ) I .nil h)
end
/-- a dict, by its reading -/
theorem isD_rel {C : Nat → Addr} {K : PySem.W.Frag} {ω ρ U : List Addr} {h : AH} {H : Hp} (hr : HR C K ω ρ U h H) {x : VV} {v : V} {o : AO} (rx : RV C K ω ρ U H x v) (eo : x.obj h = some o) (ed : o.isD = true) : ∃ a, v = .ref a ∧ IsD H a := by
  obtain ⟨a, rfl, q⟩ := rx.obj hr eo
  cases o with
  | lst _ => cases ed
  | ins _ _ => cases ed
  | dK kvs =>
    rcases q with ⟨ws, h1, h2⟩ | ⟨_, _, z, _⟩
    · exact ⟨a, rfl, .inl ⟨ws, .inl h1⟩⟩
    · cases z
  | dT kvs =>
    rcases q with ⟨ws, h1, h2⟩ | ⟨_, _, z, _⟩
    · exact ⟨a, rfl, .inr ⟨ws, .inl h1⟩⟩
    · cases z
theorem pys_map : ∀ xs : List D, D.pys xs = xs.map D.py
  | [] => rfl
  | x :: xs => by simp only [D.pys, List.map_cons, pys_map xs]
theorem flas_at {n : Nat} : ∀ {xs : List D} {x : D}, D.flas n xs = true → x ∈ xs → x.fla n = true
  | y :: ys, x, h, hx => by
    simp only [D.flas, Bool.and_eq_true] at h
    rcases List.mem_cons.mp hx with e | e
    · subst e; exact h.1
    · exact flas_at h.2 e
section
variable {C : Nat → Addr} {K : PySem.W.Frag} {ω ρ U : List Addr} {β : Nat → Option Addr} {env : Ev} {h : AH} {σ : L2.St} {H : Hp} {W : WX} {X' : EX → AH → Prop}
theorem RVs.step {ρ1 : List Addr} {H1 : Hp} (g : Stp ω U H ρ H1 ρ1) : ∀ {xs : List VV} {vs : List V}, RVs C K ω ρ U H xs vs → RVs C K ω ρ1 U H1 xs vs
  | [], [], .nil => .nil
  | x :: xs, v :: vs, .cons r t => .cons (RV.step g r) (RVs.step g t)
/-- d.setdefault(k, v) of the core's heap -/
theorem setd_ok (hr : HR C K ω ρ U h H) {x y z : VV} {a : Addr} {vy vz : V} (rx : RV C K ω ρ U H x (.ref a)) (ry : RV C K ω ρ U H y vy) (rz : RV C K ω ρ U H z vz) {Q' : VV → AH → Prop} {Q : VK} (w : setdW h x y z Q')
    (kq : ∀ d v h' H', HR C K ω ρ U h' H' → Stp ω U H ρ H' ρ → RV C K ω ρ U H' (.d d) v → Q' (.d d) h' → Q v H') :
    (∃ (kvs : List (Key × V)) (k : Key), H a = some (.dK kvs) ∧ vy = kV k ∧ kvs.length < sizeLine ∧ (∀ v, valV kvs k = some v → Q v H) ∧ (valV kvs k = none → Q vz (upd H a (.dK (putK kvs k vz))))) ∨
    (∃ (kvs : List (List Key × V)) (k : List Key) (b : Addr), H a = some (.dT kvs) ∧ vy = .ref b ∧ H b = some (.tup (k.map kV)) ∧ kvs.length < sizeLine ∧ (∀ v, valV kvs k = some v → Q v H) ∧ (valV kvs k = none → Q vz (upd H a (.dT (putK kvs k vz))))) := by
  obtain ⟨n, o, k, v, r, rfl, eo, rfl, rfl, eg, ⟨m, es, hm⟩, w⟩ := w
  cases rx with
  | ref hn =>
  obtain ⟨a', ea, ro⟩ := hr.hp n o eo
  rw [hn] at ea
  cases ea
  cases o with
  | lst _ => cases eg
  | ins _ _ => cases eg
  | dK kvs =>
    obtain ⟨ws, h1, h2⟩ := ro
    simp only [AO.get, Option.map_eq_some_iff] at eg
    obtain ⟨j, ej, er⟩ := eg
    cases RD.key ry ej
    cases es
    refine .inl ⟨ws, j, h1, rfl, by rw [← h2.length]; exact hm, fun u eu => ?_, fun en => ?_⟩
    · rcases RK.get j h2 with ⟨g1, g2⟩ | ⟨d, w1, g1, g2, g3⟩
      · rw [g2] at eu; cases eu
      · rw [g2] at eu; cases eu
        rw [← er, g1] at w
        exact kq d _ h H hr .refl g3 w
    · rcases RK.get j h2 with ⟨g1, g2⟩ | ⟨d, w1, g1, g2, g3⟩
      · rw [← er, g1] at w
        obtain ⟨o', ep, w⟩ := w
        simp only [AO.put, ej, Option.bind_some] at ep
        rw [if_pos hm] at ep
        cases ep
        obtain ⟨a1, a2⟩ := hr.mut hn (.dK (putK ws j vz)) (o := .dK (pV kvs j v)) fun g => ⟨_, upd_same, (h2.put j rz).grow g⟩
        exact kq v _ _ _ a1 a2 (RD.grow a2.gr rz) w
      · rw [g2] at en; cases en
  | dT kvs =>
    obtain ⟨ws, h1, h2⟩ := ro
    simp only [AO.get, Option.map_eq_some_iff] at eg
    obtain ⟨j, ej, er⟩ := eg
    cases ry with
    | tup s rs =>
      have ev := rs.keysOf (ks := j) (by simpa [D.keys] using ej)
      subst ev
      cases es
      refine .inr ⟨ws, j, _, h1, rfl, s, by rw [← h2.length]; exact hm, fun u eu => ?_, fun en => ?_⟩
      · rcases RK.get j h2 with ⟨g1, g2⟩ | ⟨d, w1, g1, g2, g3⟩
        · rw [g2] at eu; cases eu
        · rw [g2] at eu; cases eu
          rw [← er, g1] at w
          exact kq d _ h H hr .refl g3 w
      · rcases RK.get j h2 with ⟨g1, g2⟩ | ⟨d, w1, g1, g2, g3⟩
        · rw [← er, g1] at w
          obtain ⟨o', ep, w⟩ := w
          simp only [AO.put, ej, Option.bind_some] at ep
          rw [if_pos hm] at ep
          cases ep
          obtain ⟨a1, a2⟩ := hr.mut hn (.dT (putK ws j vz)) (o := .dT (pV kvs j v)) fun g => ⟨_, upd_same, (h2.put j rz).grow g⟩
          exact kq v _ _ _ a1 a2 (RD.grow a2.gr rz) w
        · rw [g2] at en; cases en
    | _ => simp [D.keys] at ej
/-- a new instance, made by its __init__ -/
theorem mk_sp {Γ : GM} {f c : Nat} {xs : List VV} {us : List V} {xa dx : Addr} {Q : VK} {Q' : VV → AH → Prop} (rs : RS C K β ω ρ U env h σ H) (rv : RVs C K ω ρ U H xs us) (hxa : H xa = none) (hdx : H dx = none) (hne : dx ≠ xa)
    (w : Γ (f + 1000) (.d (.ref h.length) :: xs.map toArg) (h ++ [.ins c []]) (fun r h2 => r = .d .non ∧ Q' (.d (.ref h.length)) h2) X')
    (hq : ∀ h' ρ' H', RS C K β ω ρ' U env h' σ H' → Stp ω U H ρ H' ρ' → RV C K ω ρ' U H' (.d (.ref h.length)) (.ref xa) → Q' (.d (.ref h.length)) h' → Q (.ref xa) H')
    (hx : ∀ x cls dd h' ρ' H', RS C K β ω ρ' U env h' σ H' → Stp ω U H ρ H' ρ' → RX C K ω ρ' U H' x cls dd → X' x h' → W cls dd σ H') :
    spI C K Γ (f + 1000) (.ref xa :: us) (upd (upd H dx (.own xa)) xa (.ins (C c) dx [])) (fun v Hb => v = .non ∧ Q (.ref xa) Hb) (fun cls d Hb => W cls d σ Hb) := by
  obtain ⟨a1, a2⟩ := rs.hr.laid hdx (.own xa)
  have rs1 := rs.step a1 a2
  have hxa' : upd H dx (.own xa) xa = none := by rw [upd_ne (Ne.symm hne)]; exact hxa
  obtain ⟨b1, b2⟩ := rs1.hr.alloc hxa' (u := .ins (C c) dx []) ⟨fun _ z => (by cases z), fun _ _ z => (by cases z)⟩ (o := .ins c []) ⟨dx, [], upd_same, .nil⟩
  have rs2 := rs1.step b1 b2
  have gg := a2.trans b2
  have hat : (ρ ++ [xa])[h.length]? = some xa := by rw [rs.hr.lh, List.getElem?_append_right (Nat.le_refl _)]; simp
  refine spI_call (xs := .d (.ref h.length) :: xs) rs2 (.cons (RD.ref hat) (RVs.step gg rv)) w (fun r v h' ρ' U' H' rs' g' hr' gr' rr' q' => ?_) (upX gg hx)
  obtain ⟨rfl, q'⟩ := q'
  cases rr'
  exact ⟨rfl, hq _ _ _ rs' (gg.trans g') (RD.ref (g'.gr.pre _ _ hat)) q'⟩
end
/-! ### sorted(xs, key=f), f a def -/
/-- the keys, item by item -/
def kW (sp : Sp) : List V → List V → Hp → (List V → Hp → Prop) → Prop
  | [], acc, H, R => R acc H
  | x :: xs, acc, H, R => sp [x] H (fun k H1 => kW sp xs (acc ++ [k]) H1 R) (fun _ _ _ => False)
def sortPy (vs : List V) (ds : List PyData) : List V := ((vs.zip ds).mergeSort (PySem.W.dataLe false Prod.snd)).map Prod.fst
theorem each_zip : ∀ {vs : List V} {us : List Value} {ds : List PyData}, Vals vs us → ds.length = vs.length → PySem.W.EachIs (fun u (p : V × PyData) => RelV p.1 u) us (vs.zip ds)
  | [], _, [], .nil, _ => .nil
  | _ :: _, _, d :: ds, .cons r t, h => .cons r (each_zip t (by simpa using h))
theorem vals_each : ∀ {us : List Value} {ps : List (V × PyData)}, PySem.W.EachIs (fun u (p : V × PyData) => RelV p.1 u) us ps → Vals (ps.map Prod.fst) us
  | _, _, .nil => .nil
  | _, _, .cons r t => .cons r (vals_each t)
theorem each_reads {X : Cx} {pins : List (Addr × Obj)} {σ : L2.St} {H : Hp} {s : Shared} (I : Inv X pins σ H s) : ∀ {vs : List V} {us : List Value} {ds : List PyData}, Vals vs us → DpAll X.K H vs ds → PySem.W.EachIs (fun v k => ∃ as, Reads s.heap v k as) us ds
  | [], _, _, .nil, .nil => .nil
  | _ :: _, _, _, .cons r t, .cons h q => .cons (Dp.reads I _ _ _ h r) (each_reads I t q)
theorem DpAll.length {K : PySem.W.Frag} {H : Hp} : ∀ {vs : List V} {ds : List PyData}, DpAll K H vs ds → vs.length = ds.length
  | _, _, .nil => rfl
  | _, _, .cons _ t => by simp [DpAll.length t]
/-- what stood at the start stays -/
theorem Un.to' {fs : List Addr} {H Hj : Hp} {h hj h' : Heap} (u : Un fs [] H Hj h hj) (k : ∀ b o, b < h.objs.size → hj.get? b = some o → h'.get? b = some o) : Un fs [] H Hj h h' := by
  refine ⟨fun b o e n hf hx => k b o (Heap.lt_size e) (u.keep b o e n hf hx), fun b o e n hf hx => ?_, u.free, fun b o e hx => ?_, u.tups, u.frzs, u.tbls⟩
  · obtain ⟨sl, q⟩ := u.slot b o e n hf hx
    exact ⟨sl, k b _ (Heap.lt_size e) q⟩
  · obtain ⟨o', q⟩ := u.there b o e hx
    exact ⟨o', k b _ (Heap.lt_size e) q⟩
theorem Room.in2 {k : Nat} {A : Around} (r : Room (k + 1) A) : Room k A.in1.in1 :=
  ⟨r.hd, by have := r.dp; show A.depth + 3 * k + 5 < _; omega, by have := r.un; show A.units + 1 + 1 + 16 * k + 200 < _; omega⟩
theorem wp_sortKey {X : Cx} {pins : List (Addr × Obj)} {s : Shared} {σ : L2.St} {H : Hp} {l fa : Addr} {vs : List V} {fd : FuncData} {ps : List Str} {kk : Nat} {sp : Sp} {Q : VK} (I : Inv X pins σ H s) (hl : SqL X.K H l vs)
    (F : FnOk X.prog X.w X.K X.mg X.base (L2.CX X.prog X.w) kk fa fd ps sp) (hb : Binds X.K fd ps []) (hr : Room (kk + 1) X.A)
    (w : kW sp vs [] H fun ks H' => ∃ ds : List PyData, DpAll X.K H' ks ds ∧ PySem.W.AllAlike ds ∧ PySem.W.Sortable ds ∧ (∀ d ∈ ds, d.depth ≤ 60) ∧ ds.length = vs.length ∧ ∀ p, H' p = none → Q (.ref p) (upd H' p (.lst (sortPy vs ds)))) :
    wpAny (model X.prog X.w) X.A (call (.builtin "sorted") [.ref l] [(Str.ofString "key", .ref fa)]) (EP X pins σ Q) X.xe s := by
  obtain ⟨its, rv, p', hz⟩ := I.list hl
  have hlen := rv.length
  refine PySem.W.sorted_of_sort p'.isList (by omega) (ksk_s1 _ _) (fun _ => ksk_l1 _ _) fun E' => ?_
  rw [ksk_t1]
  have ho := PySem.W.copyHeap_at s.heap its
  have hsz : (PySem.W.copyHeap s.heap its).objs.size = s.heap.objs.size + 2 := by
    unfold PySem.W.copyHeap
    rw [size_push', Heap.size_update, size_push']
  have old : ∀ b o, s.heap.get? b = some o → b < s.heap.objs.size := fun b o e => Heap.lt_size e
  generalize ha : s.heap.objs.size + 1 = a at ho ⊢
  obtain ⟨h1, eh1⟩ : ∃ h1, h1 = PySem.W.copyHeap s.heap its := ⟨_, rfl⟩
  have k1 : ∀ b o, s.heap.get? b = some o → h1.get? b = some o := fun b o e => by rw [eh1]; exact PySem.W.copyHeap_old e
  rw [← eh1] at ho hsz ⊢
  obtain ⟨h2, eh2⟩ : ∃ h2, h2 = h1.update a (Obj.mapSeq fun _ => (#[] : Array Value)) := ⟨_, rfl⟩
  obtain ⟨e1, ho1⟩ : ∃ e1, h2.get? a = some (seqObj "list" #[] e1) := by rw [eh2]; exact ⟨_, get?_update_seq ho fun _ => #[]⟩
  have hsz2 : h2.objs.size = s.heap.objs.size + 2 := by rw [eh2, Heap.size_update, hsz]
  have k2 : ∀ b o, b ≠ a → h1.get? b = some o → h2.get? b = some o := fun b o hb e => by rw [eh2, Heap.get?_update_ne _ _ _ _ hb]; exact e
  unfold ksk_tree
  refine wpAny_bind (listItems_at ho rfl ?_)
  refine wpAny_bind (listUpdate_at ho rfl ?_ (by rw [List.size_toArray]; omega) (Nat.zero_le _))
  rw [← eh2]
  refine wpAny_bind (seqEpoch_at ho1 rfl ?_)
  refine wpAny_bind (wpAny_newTuple ?_ (by show its.length ≤ _; omega))
  refine wpAny_bind (wpAny_newList ?_ (Nat.zero_le _))
  refine wpAny_holding ?_
  obtain ⟨kS, ekS⟩ : ∃ kS, kS = (h2.push (seqObj "tuple" its.toArray 0)).objs.size := ⟨_, rfl⟩
  obtain ⟨h3, eh3⟩ : ∃ h3, h3 = (h2.push (seqObj "tuple" its.toArray 0)).push (seqObj "list" #[] 0) := ⟨_, rfl⟩
  have k3 : ∀ b o, h2.get? b = some o → h3.get? b = some o := fun b o e => by rw [eh3]; exact Heap.get?_push_of_some _ (Heap.get?_push_of_some _ e)
  have nS : h3.get? kS = some (seqObj "list" #[] 0) := by rw [eh3, ekS]; exact Heap.get?_push_size _ rfl
  have hkS : kS = s.heap.objs.size + 3 := by rw [ekS, size_push', hsz2]
  have hka : kS ≠ a := by omega
  have kall : ∀ b o, s.heap.get? b = some o → h3.get? b = some o := fun b o e => k3 b o (k2 b o (fun z => by have q := old b o e; rw [z, ← ha] at q; exact absurd q (Nat.not_lt.mpr (Nat.le_succ _))) (k1 b o e))
  show wpAny _ _ (ksk_rest a (.ref fa) false its.toArray e1 (.ref (h2.push (seqObj "tuple" its.toArray 0)).objs.size)) _ _ { s with heap := (h2.push (seqObj "tuple" its.toArray 0)).push (seqObj "list" #[] 0) }
  rw [← ekS, ← eh3]
  have Hf : ∀ b, s.heap.objs.size ≤ b → H b = none ∧ b ≠ X.env.locals ∧ b ∉ X.fs := fun b hb => ⟨I.hok.fresh hb, fun z => by have q := I.lt; rw [z] at hb; exact absurd q (Nat.not_lt.mpr hb), I.nofs hb⟩
  have I0 : Inv X ((kS, seqObj "list" #[] 0) :: (a, seqObj "list" #[] e1) :: pins) σ H { s with heap := h3 } := by
    have Ik : Inv X pins σ H { s with heap := h3 } := I.kept (t' := s.toks) kall
    refine Ik.pins_of fun p hp => ?_
    rcases List.mem_cons.mp hp with z | hp
    · subst z
      obtain ⟨q1, q2, q3⟩ := Hf kS (by omega)
      exact ⟨nS, q1, q2, q3, fun v z => by cases z⟩
    · rcases List.mem_cons.mp hp with z | hp
      · subst z
        obtain ⟨q1, q2, q3⟩ := Hf a (by omega)
        exact ⟨k3 _ _ ho1, q1, q2, q3, fun v z => by cases z⟩
      · exact Ik.pin p (List.mem_append_right _ hp)
  obtain ⟨R, eR⟩ : ∃ R : List V → Hp → Prop, R = fun ks H' => ∃ ds : List PyData, DpAll X.K H' ks ds ∧ PySem.W.AllAlike ds ∧ PySem.W.Sortable ds ∧ (∀ d ∈ ds, d.depth ≤ 60) ∧ ds.length = vs.length ∧ ∀ p, H' p = none → Q (.ref p) (upd H' p (.lst (sortPy vs ds))) := ⟨_, rfl⟩
  rw [← eR] at w
  have pold : ∀ p ∈ pins, p.1 < s.heap.objs.size := fun p hp => Heap.lt_size (I.pin p (List.mem_append_right _ hp)).1
  have xold : ∀ p ∈ X.pn, p.1 < s.heap.objs.size := fun p hp => Heap.lt_size (I.pin p (List.mem_append_left _ hp)).1
  have cold : ∀ x c, X.env.cells.lookup x = some c → c < s.heap.objs.size := fun x c e => by
    obtain ⟨v, o, q, _⟩ := I.cell x c e
    exact Heap.lt_size q
  unfold ksk_rest
  refine wpAny_bind (wpAny_rule ?_)
  rw [List.forIn_toArray]
  refine wpAny_bind (ksk_fold (fun i s' => ∃ (kA : Array Value) (e : Nat) (H' : Hp) (acc : List V), Inv X ((kS, seqObj "list" kA e) :: (a, seqObj "list" #[] e1) :: pins) σ H' s' ∧ Un (frs X.stack) [] H H' s.heap s'.heap ∧
    Vals acc kA.toList ∧ acc.length = i ∧ kW sp (vs.drop i) acc H' R) its 0 _ ⟨#[], 0, H, [], I0, Un.kept kall, .nil, rfl, w⟩ ?_ ?_)
  · rintro j x s' hx ⟨kA, e, H', acc, I', U', rk, hacc, hw⟩
    simp only [Nat.zero_add] at hacc hw ⊢
    have hj : j < its.length := (List.getElem?_eq_some_iff.mp hx).1
    obtain ⟨v, hv⟩ : ∃ v, vs[j]? = some v := ⟨_, List.getElem?_eq_getElem (by omega)⟩
    obtain ⟨x', hx', rvx⟩ := rv.get hv
    rw [hx] at hx'
    cases hx'
    have ed : vs.drop j = v :: vs.drop (j + 1) := by
      rw [List.drop_eq_getElem_cons (by omega)]
      rw [List.getElem?_eq_getElem (by omega)] at hv
      rw [Option.some.inj hv]
    rw [ed] at hw
    have nk := (I'.pin (kS, seqObj "list" kA e) (List.mem_append_right _ (List.mem_cons_self ..))).1
    have hlenp : ([x] ++ ([] : List Value)).length = ps.length := by
      have := F.len _ _ _ _ hw
      simpa using this
    refine wpAny_bind (wpAny_attempt (wpAny_mono (Q := fun u s2 => L2.CE X.stack X.prog X.w H' s' (fun k H1 => kW sp (vs.drop (j + 1)) (acc ++ [k]) H1 R) u s2) (E := fun _ _ => False) ?_ (fun u s2 he => ?_) fun _ _ hF => hF.elim))
    · refine wpAny_call (codeAny_mono (F.run X.A.in1.in1 X.stack s' H' ⟨[x], []⟩ [x] [v] _ _ (Room.in2 hr) I'.env0.in1.in1 (hb s' [x] I'.kIn hlenp) (.cons rvx .nil) hw) fun r s2 hq => ?_)
      cases r with
      | error er =>
        obtain ⟨_, _, _, _, _, _, _, _, _, _, _, _, hE⟩ := hq
        exact hE.elim
      | ok fl =>
        cases fl with
        | ret u => exact hq
        | next => exact False.elim hq
        | brk => exact False.elim hq
        | cont => exact False.elim hq
    obtain ⟨kv, H2, os2, bare2, un2, hok2, rkv, hw2⟩ := he
    have I2 := I'.call' (ch := []) os2 un2 hok2 bare2 (fun b z => absurd z (by simp))
    have U2 := U'.trans un2
    have nk2 := (I2.pin (kS, seqObj "list" kA e) (List.mem_append_right _ (List.mem_cons_self ..))).1
    have pk2 := (I2.pin (kS, seqObj "list" kA e) (List.mem_append_right _ (List.mem_cons_self ..))).2
    have hz2 : kA.size = j := by
      have q1 : acc.length = kA.size := by rw [Vals.length rk, Array.length_toList]
      omega
    dsimp only
    refine wpAny_bind (listUpdate_at nk2 rfl ?_ (by omega) (by rw [Array.size_push]; omega))
    obtain ⟨c2, hc2⟩ : ∃ c2, (s2.heap.update kS (Obj.mapSeq (·.push u))).get? kS = some (seqObj "list" (kA.push u) c2) := ⟨_, get?_update_seq nk2 (·.push u)⟩
    have kk2 : ∀ b o, b ≠ kS → s2.heap.get? b = some o → (s2.heap.update kS (Obj.mapSeq (·.push u))).get? b = some o := fun b o hb e => by rw [Heap.get?_update_ne _ _ _ _ hb]; exact e
    have I3 : Inv X ((a, seqObj "list" #[] e1) :: pins) σ H2 { s2 with heap := s2.heap.update kS (Obj.mapSeq (·.push u)) } := by
      have Ia : Inv X ((a, seqObj "list" #[] e1) :: pins) σ H2 s2 := I2.pins_of fun p hp => I2.pin p (List.mem_append_right _ (List.mem_cons_of_mem _ hp))
      refine Ia.turned (t' := s2.toks) kk2 pk2.1 pk2.2.1 (.inr (by have := I.sz; omega)) (fun x c e z => by have q := cold x c e; rw [z, hkS] at q; exact absurd q (Nat.not_lt.mpr (Nat.le_add_right _ 3))) fun p hp z => ?_
      rcases List.mem_append.mp hp with hp | hp
      · have q := xold p hp; rw [z, hkS] at q; exact absurd q (Nat.not_lt.mpr (Nat.le_add_right _ 3))
      · rcases List.mem_cons.mp hp with y | hp
        · subst y; exact hka z.symm
        · have q := pold p hp; rw [z, hkS] at q; exact absurd q (Nat.not_lt.mpr (Nat.le_add_right _ 3))
    refine wpAny_pure ⟨rfl, kA.push u, c2, H2, acc ++ [kv], ?_, Un.to' U2 (fun b o hb e => kk2 b o (fun z => by rw [z, hkS] at hb; exact absurd hb (by omega)) e), ?_, by simp [hacc], hw2⟩
    · refine I3.pins_of fun p hp => ?_
      rcases List.mem_cons.mp hp with z | hp
      · subst z
        exact ⟨hc2, pk2.1, pk2.2.1, pk2.2.2.1, fun v z => by cases z⟩
      · exact I3.pin p (List.mem_append_right _ hp)
    · rw [Array.toList_push]
      exact rk.append (.cons rkv .nil)
  · rintro s' ⟨kA, e, H', acc, I', U', rk, hacc, hw⟩
    simp only [Nat.zero_add] at hacc hw
    rw [List.drop_eq_nil_of_le (by omega)] at hw
    subst eR
    obtain ⟨ds, hd, hal, hso, hdep, hdl, hq⟩ := hw
    have nk := I'.pin (kS, seqObj "list" kA e) (List.mem_append_right _ (List.mem_cons_self ..))
    have na := I'.pin (a, seqObj "list" #[] e1) (List.mem_append_right _ (List.mem_cons_of_mem _ (List.mem_cons_self ..)))
    refine wpAny_bind (listItems_at nk.1 rfl ?_)
    obtain ⟨G, g1, g2⟩ := restrict s'.heap fun b => decide (b ≠ kS)
    have hk' := each_reads I' rk hd
    have hsz' : kA.size = its.length := by
      have q1 : acc.length = kA.size := by rw [Vals.length rk, Array.length_toList]
      have q2 := DpAll.length hd
      omega
    refine PySem.W.keyH_end (κ := PySem.W.dataKind s'.heap ds) (h₁ := G) (fun b o hb e => ?_) (g2 kS (by simp)) nk.1 na.1 hka (PySem.W.SortsAt.data (s := s') hk' hal hso fun d hd => ?_) hsz' (by omega) fun h4 tk4 c k4 n4 => ?_
    · by_cases hbk : b = kS
      · subst hbk; rw [g2 b (by simp)] at e; cases e
      · rw [← g1 b (by simpa using hbk)]; exact e
    · have := hr.un
      have := hdep d hd
      show X.A.units + 1 + 1 + d.depth < cLine
      omega
    refine ⟨rfl, .ref a, upd H' a (.lst (sortPy vs ds)), ?_, rfl, hq a na.2.1⟩
    have kf : ∀ b o, b ≠ a → b ≠ kS → s'.heap.get? b = some o → h4.get? b = some o := fun b o h1 h2 e => k4 b o h1 (by rw [g1 b (by simpa using h2)]; exact e)
    have ko : PySem.W.KeyedOut false ((vs.zip ds).map Prod.snd) its (PySem.W.sortVals (PySem.W.dataKind s'.heap ds) false kA.toList its) := by
      rw [show (vs.zip ds).map Prod.snd = ds from by rw [List.map_snd_zip (by omega)]]
      exact ⟨s'.heap, kA.toList, hal, rfl, hk'⟩
    have out := vals_each (PySem.W.keyedOut_each Prod.snd ko (each_zip rv hdl))
    refine I.call' (ch := []) (s' := { s' with heap := h4, toks := tk4 }) (I'.os.trans I.os.symm) (Un.at' U' (fun b o hb e => kf b o (fun z => by rw [z, ← ha] at hb; exact absurd hb (by omega)) (fun z => by rw [z, hkS] at hb; exact absurd hb (by omega)) e) (by omega) (Hf a (by omega)).1) (HOk.open' I'.hok na.2.1 nk.2.1 kf ?_) I'.bare (fun b z => absurd z (by simp))
    refine ⟨?_, _, c, out, n4⟩
    have : (sortPy vs ds).length = vs.length := by
      unfold sortPy
      rw [List.length_map, (List.mergeSort_perm _ _).length_eq, List.length_zip]
      omega
    omega
def rSortK (K : PySem.W.Frag) (sp : Sp) (fa : Addr) : List V → List V → Hp → VK → Prop := fun xs zs H Q => ∃ l vs, xs = [V.ref l] ∧ zs = [V.ref fa] ∧ SqL K H l vs ∧
  kW sp vs [] H fun ks H' => ∃ ds : List PyData, DpAll K H' ks ds ∧ PySem.W.AllAlike ds ∧ PySem.W.Sortable ds ∧ (∀ d ∈ ds, d.depth ≤ 60) ∧ ds.length = vs.length ∧ ∀ p, H' p = none → Q (.ref p) (upd H' p (.lst (sortPy vs ds)))
theorem cr_sortK {X : Cx} {kk : Nat} {fa : Addr} {fd : FuncData} {ps : List Str} {sp : Sp} (F : FnOk X.prog X.w X.K X.mg X.base (L2.CX X.prog X.w) kk fa fd ps sp) (hb : Binds X.K fd ps []) (hr : Room (kk + 1) X.A) : CallRK X (.builtin "sorted") [Str.ofString "key"] (rSortK X.K sp fa) := by
  intro pins s σ H xs zs us ws Q I r1 r2 h
  obtain ⟨l, vs, rfl, rfl, hs, w⟩ := h
  obtain ⟨u, rfl, ru⟩ := r1.one
  obtain ⟨u2, rfl, ru2⟩ := r2.one
  cases ru
  cases ru2
  exact wp_sortKey I hs F hb hr w
theorem rds_map {K : PySem.W.Frag} {H : Hp} {ρ : List Addr} {m : Addr → Prop} {α : Type} (f : α → D) (g : α → V) : ∀ {l : List α}, (∀ t ∈ l, RD K H ρ m (f t) (g t)) → RDs K H ρ m (l.map f) (l.map g)
  | [], _ => .nil
  | t :: l, h => .cons (h t (by simp)) (rds_map f g fun x hx => h x (by simp [hx]))
theorem rds_zip {K : PySem.W.Frag} {H : Hp} {ρ : List Addr} {m : Addr → Prop} : ∀ {xs : List D} {vs : List V}, RDs K H ρ m xs vs → ∀ p ∈ xs.zip vs, RD K H ρ m p.1 p.2
  | _, _, .nil, p, h => by simp at h
  | _, _, .cons r t, p, h => by
    simp only [List.zip_cons_cons, List.mem_cons] at h
    rcases h with h | h
    · subst h; exact r
    · exact rds_zip t p h
theorem rds_dp {K : PySem.W.Frag} {H : Hp} {ρ : List Addr} {m : Addr → Prop} : ∀ {ks : List D} {vs : List V}, RDs K H ρ m ks vs → (∀ k ∈ ks, k.fla 60 = true) → DpAll K H vs (ks.map D.py)
  | _, _, .nil, _ => .nil
  | _, _, .cons r t, h => .cons (r.dp (h _ (by simp))) (rds_dp t fun k hk => h k (by simp [hk]))
/-- the sorted values lie as the sorted data -/
theorem sort_rel {K : PySem.W.Frag} {H : Hp} {ρ : List Addr} {m : Addr → Prop} {xs : List D} {vs : List V} {ks : List D} (r : RDs K H ρ m xs vs) (hl : ks.length = xs.length) (hk : srtOk ks) : RDs K H ρ m (sortD xs ks) (sortPy vs (ks.map D.py)) := by
  have hlen := r.length
  have e1 : xs.zip ks = ((xs.zip vs).zip ks).map fun t => (t.1.1, t.2) := by
    refine List.ext_getElem (by simp; omega) fun i h1 h2 => ?_
    simp
  have e2 : vs.zip (ks.map D.py) = ((xs.zip vs).zip ks).map fun t => (t.1.2, t.2.py) := by
    refine List.ext_getElem (by simp; omega) fun i h1 h2 => ?_
    simp
  have hm : ∀ t ∈ (xs.zip vs).zip ks, t.2 ∈ ks := fun t ht => (List.of_mem_zip ht).2
  unfold sortD sortPy
  rw [e1, e2, ← List.map_mergeSort (r := fun p q => !D.ltd q.2 p.2) (f := fun t : (D × V) × D => (t.1.1, t.2)) (fun a _ b _ => rfl),
    ← List.map_mergeSort (r := fun p q => !D.ltd q.2 p.2) (f := fun t : (D × V) × D => (t.1.2, t.2.py)) (fun a ha b hb => ?_), List.map_map, List.map_map]
  · refine rds_map _ _ fun t ht => ?_
    have ht := (List.mergeSort_perm _ _).mem_iff.mp ht
    exact rds_zip r t.1 (List.of_mem_zip ht).1
  · show (!D.ltd b.2 a.2) = PySem.W.dataLe false Prod.snd (a.1.2, a.2.py) (b.1.2, b.2.py)
    rw [← D.py_lt b.2 a.2 60 60 (hk.1 _ (hm b hb)).1 (hk.1 _ (hm a ha)).1 (hk.2 _ (hm b hb) _ (hm a ha))]
    rfl
section
variable {C : Nat → Addr} {Γ : GM} {K : PySem.W.Frag} {ω U : List Addr} {β : Nat → Option Addr} {env : Ev} {σ : L2.St}
/-- the keys, by calls -/
theorem keys_ok {f : Nat} {R : List V → Hp → Prop} : ∀ {xs : List D} {vs : List V} {acc : List D} {av : List V} {ρ : List Addr} {h : AH} {H : Hp} {Q : List D → AH → Prop}, RS C K β ω ρ U env h σ H → RDs K H ρ (ms ω ρ U) xs vs → RDs K H ρ (ms ω ρ U) acc av → keysW Γ f xs acc h Q →
    (∀ ks kv h' ρ' H', RS C K β ω ρ' U env h' σ H' → Stp ω U H ρ H' ρ' → RDs K H' ρ' (ms ω ρ' U) ks kv → Q ks h' → R kv H') → kW (spI C K Γ (f + 1000)) vs av H R
  | [], _, acc, av, ρ, h, H, Q, rs, .nil, ra, w, hq => hq _ _ _ _ _ rs .refl ra w
  | x :: xs, v :: vs, acc, av, ρ, h, H, Q, rs, .cons r t, ra, w, hq => by
    refine spI_call (xs := [.d x]) (vs := [v]) rs (.cons r .nil) w (fun r' kv h' ρ' U' H' rs' g' hr' gr' rr' q' => ?_) fun _ _ _ _ _ _ _ _ _ z => z.elim
    obtain ⟨k, rfl, w'⟩ := q'
    obtain ⟨d, rd, q⟩ := RRel.rd (Q' := fun y _ => y = .d k) hr' rr' rfl
    cases q
    exact keys_ok rs' (t.grow g'.gr) ((ra.grow g'.gr).append (.cons rd .nil)) w' fun ks kv h'' ρ'' H'' rs'' g'' rk q => hq _ _ _ _ _ rs'' (g'.trans g'') rk q
end
end G

set_option maxHeartbeats 4000000
/-! Core10: the mutual theorem on expressions. -/
namespace G
open PySem PySem.Spec PyProof.Rows L2
section
variable {C : Nat → Addr} {Γ : GM} {nm : NT} {cs : Nat → Option (Str × D)} {k : Nat} {N : List Str}
theorem RV.int {C : Nat → Addr} {K : PySem.W.Frag} {ω ρ U : List Addr} {H : Hp} (i : Int) : RV C K ω ρ U H (.d (.int i)) (.int i) := RD.int i
theorem RV.bl {C : Nat → Addr} {K : PySem.W.Frag} {ω ρ U : List Addr} {H : Hp} (i : Bool) : RV C K ω ρ U H (.d (.bl i)) (.bl i) := RD.bl i
theorem RV.str {C : Nat → Addr} {K : PySem.W.Frag} {ω ρ U : List Addr} {H : Hp} (i : Str) : RV C K ω ρ U H (.d (.str i)) (.str i) := RD.str i
theorem RV.non {C : Nat → Addr} {K : PySem.W.Frag} {ω ρ U : List Addr} {H : Hp} : RV C K ω ρ U H (.d .non) .non := RD.non
theorem cutD_rel {K : PySem.W.Frag} {H : Hp} {ρ : List Addr} {m : Addr → Prop} {xs : List D} {vs : List V} (r : RDs K H ρ m xs vs) (i j : Option Int) : RDs K H ρ m (cutD xs i j) (cutV vs i j) := by
  unfold cutD cutV
  rw [r.length]
  exact (r.drop _).take _
theorem cutD_whole {xs : List D} {vs : List V} (e : xs.length = vs.length) {i j : Option Int} (h : HT.sIx vs.length 0 i = 0 ∧ HT.sIx vs.length vs.length j = vs.length) : cutD xs i j = xs := by
  unfold cutD
  rw [e, h.1, h.2]
  simp [← e]
theorem map_d {C : Nat → Addr} {K : PySem.W.Frag} {ω ρ U : List Addr} {H : Hp} : ∀ {xs : List D} {vs : List V}, RVs C K ω ρ U H (xs.map VV.d) vs → RDs K H ρ (ms ω ρ U) xs vs
  | [], [], .nil => .nil
  | x :: xs, v :: vs, .cons r t => .cons r (map_d t)
theorem keyList_rel {C : Nat → Addr} {K : PySem.W.Frag} {ω ρ U : List Addr} {h : AH} {H : Hp} (hr : HR C K ω ρ U h H) {x : VV} {v : V} {o : AO} {xs : List D} (rx : RV C K ω ρ U H x v) (eo : x.obj h = some o) (ek : o.keyList = some xs) :
    ∃ a, v = .ref a ∧ ((∃ kvs : List (Key × V), H a = some (.dK kvs) ∧ RDs K H ρ (ms ω ρ U) xs (kvs.map fun kv => kV kv.1)) ∨
      ∃ kvs : List (List Key × V), H a = some (.dT kvs) ∧ ∀ (H' : Hp) (m' : Addr → Prop) (bs : List Addr), IsKeys H' kvs bs → RDs K H' ρ m' xs (bs.map V.ref)) := by
  obtain ⟨a, rfl, q⟩ := rx.obj hr eo
  cases o with
  | lst _ => cases ek
  | ins _ _ => cases ek
  | dK kvs =>
    cases ek
    rcases q with ⟨ws, h1, h2⟩ | ⟨_, _, z, _⟩
    · refine ⟨a, rfl, .inl ⟨ws, h1, ?_⟩⟩
      have go : ∀ {kvs : List (Key × D)} {ws : List (Key × V)}, RK K H ρ (ms ω ρ U) kvs ws → RDs K H ρ (ms ω ρ U) (kvs.map fun kv => kD kv.1) (ws.map fun kv => kV kv.1) := by
        intro kvs ws r
        induction r with
        | nil => exact .nil
        | cons r t ih => simp only [List.map_cons, r.1]; exact .cons (RD.kD _) ih
      exact go h2
    · cases z
  | dT kvs =>
    cases ek
    rcases q with ⟨ws, h1, h2⟩ | ⟨_, _, z, _⟩
    · refine ⟨a, rfl, .inr ⟨ws, h1, fun H' m' bs hk => ?_⟩⟩
      have go : ∀ {kvs : List (List Key × D)} {ws : List (List Key × V)} {bs : List Addr}, RK K H ρ (ms ω ρ U) kvs ws → IsKeys H' ws bs → RDs K H' ρ m' (kvs.map fun kv => .tup (kv.1.map kD)) (bs.map V.ref) := by
        intro kvs ws bs r
        induction r generalizing bs with
        | nil => intro hk; cases hk; exact .nil
        | cons r t ih =>
          intro hk
          cases hk with
          | cons e hk =>
            simp only [List.map_cons, r.1]
            exact .cons (.tup e (RDs.kDs _)) (ih hk)
      exact go h2 hk
    · cases z
theorem rgV_rel {K : PySem.W.Frag} {H : Hp} {ρ : List Addr} {m : Addr → Prop} {i : Int} (h0 : 0 ≤ i) : RDs K H ρ m (rgD 0 i.toNat) (rgV 0 i) := by
  have e : (i - 0).toNat = i.toNat := by omega
  unfold rgV
  rw [e]
  have q := RDs.rg (K := K) (H := H) (ρ := ρ) (m := m) 0 i.toNat
  simpa using q
/-- a list and a list, be they values or objects -/
def rCatS (K : PySem.W.Frag) : R2 := fun x y H Q => ∃ l b xs zs, x = .ref l ∧ y = .ref b ∧ SqL K H l xs ∧ SqL K H b zs ∧ xs.length + zs.length ≤ sizeLine ∧ ∀ p, H p = none → Q (.ref p) (upd H p (.lst (xs ++ zs)))
theorem op_catS {X : Cx} : OpR X (binaryOp .Add) (rCatS X.K) := by
  intro pins s σ H x y v u Q I rx ry h
  obtain ⟨l, b, xs, zs, rfl, rfl, hH, hB, hz, q⟩ := h
  cases rx
  cases ry
  obtain ⟨its, r, p1, _⟩ := I.list hH
  obtain ⟨its2, r2, p2, _⟩ := I.list hB
  obtain ⟨⟨cls, dd, data, sl⟩, n, e, c, d, sq⟩ := p1
  obtain ⟨⟨cls2, dd2, data2, sl2⟩, n2, e2, c2, d2, sq2⟩ := p2
  dsimp only at c d sq c2 d2 sq2
  subst c; subst d; subst sq; subst c2; subst d2; subst sq2
  have l1 := r.length
  have l2 := r2.length
  refine concat_meets ⟨_, e, rfl⟩ ⟨_, e2, rfl⟩ noFill_list_add seq_list_add PySem.F.slot_list_add PySem.F.entry_list_add (PySem.F.args_list_add_2 _ _) (list_addW l b its.toArray its2.toArray n n2 none none sl sl2 (by simp only [List.size_toArray]; omega)) ⟨e, e2, ?_⟩
  have ea : its.toArray ++ its2.toArray = (its ++ its2).toArray := by simp
  rw [ea]
  exact ⟨.ref _, _, I.lnew (t' := s.toks) (r.append r2) (by rw [List.length_append]; omega), rfl, q _ I.fresh⟩
theorem RDs.rep {K : PySem.W.Frag} {H : Hp} {ρ : List Addr} {m : Addr → Prop} {xs : List D} {vs : List V} (r : RDs K H ρ m xs vs) : ∀ n : Nat, RDs K H ρ m (List.replicate n xs).flatten (List.replicate n vs).flatten
  | 0 => .nil
  | n + 1 => by simp only [List.replicate_succ, List.flatten_cons]; exact r.append (r.rep n)
theorem Wlk.enum {C : Nat → Addr} {K : PySem.W.Frag} {ω ρ U : List Addr} {h : AH} {H : Hp} {x : VV} {v : V} {xs : List D} {cp : Bool} (hr : HR C K ω ρ U h H) (rx : RV C K ω ρ U H x v) (ncp : cp = true ∨ ∀ o, x ≠ .tw o) (e : (x.obj h).bind AO.list = some xs) :
    ∃ a vs, v = .ref a ∧ SqL K H a vs ∧ Wlk C K ω ρ U H (enumD xs) (fun h => (x.obj h).bind AO.list = some xs) cp (Ite K a) := by
  have nt : ∀ h' : AH, (x.obj h').bind AO.list = some xs → x.seq h' = some xs := fun h' e => by
    cases x with
    | d d => cases d <;> first | exact e | cases e
    | tw _ => exact e
    | bw _ => exact e
  obtain ⟨a, vs, rfl, s, r⟩ := rx.list hr e
  obtain ⟨a', ea, q⟩ := Wlk.val (cp := cp) hr rx ncp (nt h e)
  cases ea
  refine ⟨a, vs, rfl, s, ?_⟩
  have wk : Wlk C K ω ρ U H xs (fun h => x.seq h = some xs) cp (Itl K a) := by
    rcases q with ⟨_, q⟩ | ⟨⟨ts, z⟩, _⟩
    · exact q
    · cases x with
      | d d =>
        cases d with
        | tup _ => cases e
        | fz ds =>
          cases rx with
          | fz s2 q2 =>
          cases e
          exact .lst fun h1 ρ1 U1 H1 hr g o gh => ⟨_, (g.gr.fzL s2).sq, q2.grow g.gr⟩
        | ref n =>
          cases rx with
          | ref hn =>
          refine .lst fun h1 ρ1 U1 H1 hr g o gh => ?_
          obtain ⟨a2, vs2, ea2, s2, q2⟩ := RV.list hr (x := .d (.ref n)) (RD.ref (g.gr.pre _ _ hn)) gh
          cases ea2
          exact ⟨vs2, s2, q2⟩
        | _ => cases e
      | tw o =>
        cases o with
        | lst ds =>
          obtain ⟨a2, ea2, ha, vs2, h1, h2⟩ := rx
          cases ea2
          cases e
          rcases ncp with rfl | ncp
          · exact .lst fun h1' ρ1 U1 H1 hr g o gh => ⟨vs2, SqL.of ((o rfl a ha).trans h1), h2.grow g.gr⟩
          · exact absurd rfl (ncp _)
        | _ => cases e
      | bw o =>
        cases o with
        | lst ds =>
          obtain ⟨a2, ea2, ha, vs2, h1, h2⟩ := rx
          cases ea2
          cases e
          exact .lst fun h1' ρ1 U1 H1 hr g o gh => ⟨vs2, SqL.of ((g.own a ha).trans h1), h2.grow g.gr⟩
        | _ => cases e
  have len : (enumD xs).length = xs.length := by simp [enumD]
  constructor
  · intro i y h1 ρ1 U1 H1 hr1 g o gh ey
    have hi : i < xs.length := by
      have := (List.getElem?_eq_some_iff.mp ey).1
      omega
    obtain ⟨z, ez⟩ : ∃ z, xs[i]? = some z := ⟨_, List.getElem?_eq_getElem hi⟩
    have ey' : y = .tup [.int (i : Int), z] := by
      simp [enumD, List.getElem?_mapIdx, ez] at ey
      exact ey.symm
    subst ey'
    obtain ⟨⟨us, u, su, eu⟩, jy⟩ := wk.go i z h1 ρ1 U1 H1 hr1 g o (nt _ gh) ez
    refine ⟨⟨us, u, su, eu⟩, fun w H2 yl => ?_⟩
    obtain ⟨T, u2, rfl, hT, rfl, all⟩ := yl
    obtain ⟨_, _, rd⟩ := jy u2 H1 ⟨rfl, all⟩
    have l := hr1.laid hT (.tup [.int (i : Nat), u2])
    exact ⟨l.1, l.2, hr1.new_tup hT (.cons (.int _) (.cons rd .nil))⟩
  · intro i h1 ρ1 U1 H1 hr1 g o gh ei
    exact wk.stop i h1 ρ1 U1 H1 hr1 g o (nt _ gh) (by omega)
theorem zipD_at : ∀ {as bs : List D} {i : Nat} {p : D}, (zipD as bs)[i]? = some p → ∃ x y, p = .tup [x, y] ∧ as[i]? = some x ∧ bs[i]? = some y
  | [], _, i, p, e => by simp [zipD] at e
  | _ :: _, [], i, p, e => by simp [zipD] at e
  | x :: as, y :: bs, 0, p, e => by simp [zipD] at e; exact ⟨x, y, e.symm, rfl, rfl⟩
  | x :: as, y :: bs, i + 1, p, e => by
    obtain ⟨u, w, h1, h2, h3⟩ := zipD_at (as := as) (bs := bs) (i := i) (p := p) (by simpa [zipD] using e)
    exact ⟨u, w, h1, by simpa using h2, by simpa using h3⟩
theorem zipD_len : ∀ {as bs : List D}, (zipD as bs).length = min as.length bs.length
  | [], _ => by simp [zipD]
  | _ :: _, [] => by simp [zipD]
  | x :: as, y :: bs => by simp [zipD, zipD_len (as := as) (bs := bs)]
theorem Wlk.zipT {C : Nat → Addr} {K : PySem.W.Frag} {ω ρ U : List Addr} {H : Hp} {as bs : List D} {v u : V} {cp : Bool} (rx : RV C K ω ρ U H (.d (.tup as)) v) (ry : RV C K ω ρ U H (.d (.tup bs)) u) :
    ∃ a b vs us, v = .ref a ∧ u = .ref b ∧ SqT K H a vs ∧ SqT K H b us ∧ Wlk C K ω ρ U H (zipD as bs) (fun _ => True) cp (RZ.ItzT K a b) := by
  cases rx with
  | tup s1 r1 =>
  cases ry with
  | tup s2 r2 =>
  refine ⟨_, _, _, _, rfl, rfl, SqT.of s1, SqT.of s2, ⟨fun i p h1 ρ1 U1 H1 hr1 g o _ ep => ?_, fun i h1 ρ1 U1 H1 hr1 g o _ hi => ?_⟩⟩
  · obtain ⟨x, y, rfl, ex, ey⟩ := zipD_at ep
    obtain ⟨w1, e1, rw1⟩ := r1.get ex
    obtain ⟨w2, e2, rw2⟩ := r2.get ey
    refine ⟨⟨_, _, w1, w2, SqT.of (g.gr.tup _ _ s1), SqT.of (g.gr.tup _ _ s2), e1, e2⟩, fun z H2 yl => ?_⟩
    obtain ⟨T, a1, b1, rfl, hT, rfl, q1, q2⟩ := yl
    have f1 := q1 _ (SqT.of (g.gr.tup _ _ s1))
    have f2 := q2 _ (SqT.of (g.gr.tup _ _ s2))
    rw [e1] at f1
    rw [e2] at f2
    cases f1
    cases f2
    have l := hr1.laid hT (.tup [w1, w2])
    exact ⟨l.1, l.2, hr1.new_tup hT (.cons (rw1.grow g.gr) (.cons (rw2.grow g.gr) .nil))⟩
  · rw [zipD_len] at hi
    have l1 := r1.length
    have l2 := r2.length
    exact ⟨_, _, SqT.of (g.gr.tup _ _ s1), SqT.of (g.gr.tup _ _ s2), by omega⟩
theorem noBool {N : List Str} {nm : NT} {cn : Nat → Option Str} {q : CE} {sc : Scope} {op : BoolOp} {xs : List Expr} {p : Pos} (ho : okTest q = true) (h : chkE N nm cn q sc (.BoolOp op xs p) = true) : False := by
  cases q with
  | andV _ _ => cases ho
  | orV _ _ => cases ho
  | notV _ => cases ho
  | ite _ _ _ => cases ho
  | fzOf l => cases l <;> simp [chkE, chkL] at h
  | newL l => cases l <;> simp [chkE, chkL] at h
  | bi b es => unfold chkE at h; cases h
  | _ => simp [chkE] at h
theorem consA {a : CE} {r : CEs} {X : Cx} {W : WX} {x : Expr} {xs : List Expr} (pa : PE X x (tE C X.K W Γ (cval cs) a)) (pr : PA X xs (tEs C X.K W Γ (cval cs) r)) (st : notStar x = true) : PA X (x :: xs) (tEs C X.K W Γ (cval cs) (.cons a r)) := by
  refine PA.imp (pa_cons pa pr (star_cons st)) fun σ H Q ⟨ω, β, ρ, U, env, h, Q', X', rs, w, hq, hx⟩ => ?_
  exact ⟨ω, β, ρ, U, env, h, _, X', rs, w, fun d v h1 ρ1 H1 rs1 g1 rv1 w1 => ⟨ω, β, ρ1, U, env, h1, _, X', rs1, w1, fun e u h2 ρ2 H2 rs2 g2 rv2 w2 =>
    hq _ _ _ _ _ rs2 (g1.trans g2) (.cons (rv1.step g2) rv2) w2, upX g1 hx⟩, hx⟩
mutual
theorem soundE : ∀ (c : CE) {X : Cx} {sc : Scope} {W : WX} {e : Expr}, CC C Γ nm cs k N X → X.env.scope = sc → Takes X W → chkE N nm (cnam cs) c sc e = true → PE X e (tE C X.K W Γ (cval cs) c)
  | .var i, X, sc, W, e, cc, hs, tk, h => by
    cases e with
    | Name x p =>
      simp only [chkE, Bool.and_eq_true] at h
      obtain ⟨v1, v2, v3⟩ := visB_ok h.2
      refine PE.imp (pe_var (i := i) (by rw [cc.hN]; exact nameAt_ok h.1) (by rw [hs]; exact v1) v2 v3) fun σ H Q ⟨ω, β, ρ, U, env, h, Q', X', rs, ⟨s, es, q⟩, hq, hx⟩ => ?_
      obtain ⟨v, ev, rv⟩ := rs.sl i s es
      exact ⟨v, ev, hq _ _ _ _ _ rs .refl rv.rv q⟩
    | _ => simp [chkE] at h
  | .int i, X, sc, W, e, cc, hs, tk, h => by
    cases e with
    | Constant c n p =>
      cases c with
      | int j =>
        have e : i = j := by simpa [chkE] using h
        subst e
        exact PE.imp pe_int fun σ H Q ⟨ω, β, ρ, U, env, h, Q', X', rs, w, hq, hx⟩ => hq _ _ _ _ _ rs .refl (.int _) w
      | _ => simp [chkE] at h
    | _ => simp [chkE] at h
  | .bl i, X, sc, W, e, cc, hs, tk, h => by
    cases e with
    | Constant c n p =>
      cases c with
      | bool j =>
        have e : i = j := by simpa [chkE] using h
        subst e
        exact PE.imp pe_bl fun σ H Q ⟨ω, β, ρ, U, env, h, Q', X', rs, w, hq, hx⟩ => hq _ _ _ _ _ rs .refl (.bl _) w
      | _ => simp [chkE] at h
    | _ => simp [chkE] at h
  | .non, X, sc, W, e, cc, hs, tk, h => by
    cases e with
    | Constant c n p =>
      cases c with
      | none => exact PE.imp pe_non fun σ H Q ⟨ω, β, ρ, U, env, h, Q', X', rs, w, hq, hx⟩ => hq _ _ _ _ _ rs .refl .non w
      | _ => simp [chkE] at h
    | _ => simp [chkE] at h
  | .str i, X, sc, W, e, cc, hs, tk, h => by
    cases e with
    | Constant c n p =>
      cases c with
      | str j =>
        have e : i = j := by simpa [chkE] using h
        subst e
        exact PE.imp pe_str fun σ H Q ⟨ω, β, ρ, U, env, h, Q', X', rs, w, hq, hx⟩ => hq _ _ _ _ _ rs .refl (.str _) w
      | _ => simp [chkE] at h
    | _ => simp [chkE] at h
  | .glob j, X, sc, W, e, cc, hs, tk, h => by
    cases e with
    | Name x p =>
      simp only [chkE, Bool.and_eq_true] at h
      obtain ⟨g1, g2⟩ := glB_ok hs h.1
      have h2 := h.2
      cases ec : cs j with
      | none => simp [cnam, ec] at h2
      | some q =>
        obtain ⟨y, d⟩ := q
        have ey : y = x := by simpa [cnam, ec] using h2
        subst ey
        obtain ⟨u, v, hm, rv, rd⟩ := cc.cst j y d ec
        refine PE.imp (pe_glob g1 hm rv g2) fun σ H Q ⟨ω, β, ρ, U, env, h, Q', X', rs, ⟨d', ed, w⟩, hq, hx⟩ => ?_
        have : d' = d := by simpa [cval, ec] using ed.symm
        subst this
        exact hq (.d d') _ _ _ _ rs .refl (rd _ _ _) w
    | _ => simp [chkE] at h
  | .bin o a b, X, sc, W, e, cc, hs, tk, h => by
    cases e with
    | BinOp x op y p =>
      simp only [chkE, Bool.and_eq_true, decide_eq_true_eq] at h
      obtain ⟨⟨rfl, ha⟩, hb⟩ := h
      have pa := soundE a cc hs tk ha
      have pb := soundE b cc hs tk hb
      refine PE.imp (pe_op (op_bin o) pa pb) fun σ H Q ⟨ω, β, ρ, U, env, h, Q', X', rs, w, hq, hx⟩ => ?_
      exact ⟨ω, β, ρ, U, env, h, _, X', rs, w, fun d v h1 ρ1 H1 rs1 g1 rv1 w1 => ⟨ω, β, ρ1, U, env, h1, _, X', rs1, w1, fun e u h2 ρ2 H2 rs2 g2 rv2 w2 => by
        obtain ⟨d', e', rfl, rfl, w2⟩ := w2
        exact bin_ok rs2.hr (RV.step g2 rv1) rv2 w2 (endD rs2 (g1.trans g2) hq), upX g1 hx⟩, hx⟩
    | _ => simp [chkE] at h
  | .neg a, X, sc, W, e, cc, hs, tk, h => by
    cases e with
    | UnaryOp op x p =>
      cases op with
      | USub =>
        have pa := soundE a cc hs tk (by simpa [chkE] using h)
        refine PE.imp (pe_un un_neg pa) fun σ H Q ⟨ω, β, ρ, U, env, h, Q', X', rs, w, hq, hx⟩ => ?_
        exact ⟨ω, β, ρ, U, env, h, _, X', rs, w, fun d v h1 ρ1 H1 rs1 g1 rv1 w1 => by
          obtain ⟨i, rfl, w1⟩ := w1
          cases rv1
          exact ⟨i, rfl, hq _ _ _ _ _ rs1 g1 (.int _) w1⟩, hx⟩
      | _ => simp [chkE] at h
    | _ => simp [chkE] at h
  | .cmp o a b, X, sc, W, e, cc, hs, tk, h => by
    cases e with
    | Compare x ops ys p =>
      match ops, ys, h with
      | [op], [y], h =>
        simp only [chkE, Bool.and_eq_true, decide_eq_true_eq, Bool.not_eq_true'] at h
        obtain ⟨⟨⟨rfl, hm⟩, ha⟩, hb⟩ := h
        have pa := soundE a cc hs tk ha
        have pb := soundE b cc hs tk hb
        refine PE.imp (pe_cmpR (op_cmp cc.room o) pa pb hm) fun σ H Q ⟨ω, β, ρ, U, env, h, Q', X', rs, w, hq, hx⟩ => ?_
        exact ⟨ω, β, ρ, U, env, h, _, X', rs, w, fun d v h1 ρ1 H1 rs1 g1 rv1 w1 => ⟨ω, β, ρ1, U, env, h1, _, X', rs1, w1, fun e u h2 ρ2 H2 rs2 g2 rv2 w2 =>
          cmp_ok rs2.hr (rv1.step g2) rv2 w2 (endD rs2 (g1.trans g2) hq), upX g1 hx⟩, hx⟩
      | [], _, h => simp [chkE] at h
      | _ :: _ :: _, _, h => simp [chkE] at h
      | [_], [], h => simp [chkE] at h
      | [_], _ :: _ :: _, h => simp [chkE] at h
    | _ => simp [chkE] at h
  | .chain o o' a b c, X, sc, W, e, cc, hs, tk, h => by
    cases e with
    | Compare x ops ys p =>
      match ops, ys, h with
      | [op, op'], [y, z], h =>
        simp only [chkE, Bool.and_eq_true, decide_eq_true_eq, Bool.not_eq_true'] at h
        obtain ⟨⟨⟨⟨⟨rfl, rfl⟩, hm⟩, ha⟩, hb⟩, hc⟩ := h
        have pa := soundE a cc hs tk ha
        have pb := soundE b cc hs tk hb
        have pc := soundE c cc hs tk hc
        refine PE.imp (pe_chain (op_cmp cc.room o) (op_cmp cc.room o') pa pb pc hm) fun σ H Q ⟨ω, β, ρ, U, env, h, Q', X', rs, w, hq, hx⟩ => ?_
        exact ⟨ω, β, ρ, U, env, h, _, X', rs, w, fun d v h1 ρ1 H1 rs1 g1 rv1 w1 => ⟨ω, β, ρ1, U, env, h1, _, X', rs1, w1, fun e u h2 ρ2 H2 rs2 g2 rv2 w2 =>
          cmp_ok rs2.hr (rv1.step g2) rv2 w2 (fun zd zv H3 hr3 st3 rd3 w3 => by
            obtain ⟨kk, rfl, w3⟩ := w3
            cases rd3
            refine ⟨kk, rfl, ?_⟩
            have rs3 := rs2.step hr3 st3
            by_cases hk : kk = true
            · rw [if_pos hk] at w3 ⊢
              exact ⟨ω, β, ρ2, U, env, h2, _, X', rs3, w3, fun f t h4 ρ4 H4 rs4 g4 rv4 w4 => cmp_ok rs4.hr ((rv2.step st3).step g4) rv4 w4 (endD rs4 (((g1.trans g2).trans st3).trans g4) hq), upX ((g1.trans g2).trans st3) hx⟩
            · rw [if_neg hk] at w3 ⊢
              exact hq _ _ _ _ _ rs3 ((g1.trans g2).trans st3) (.bl _) w3), upX g1 hx⟩, hx⟩
      | [], _, h => simp [chkE] at h
      | [_], _, h => simp [chkE] at h
      | _ :: _ :: _ :: _, _, h => simp [chkE] at h
      | [_, _], [], h => simp [chkE] at h
      | [_, _], [_], h => simp [chkE] at h
      | [_, _], _ :: _ :: _ :: _, h => simp [chkE] at h
    | _ => simp [chkE] at h
  | .andV a b, X, sc, W, e, cc, hs, tk, h => by
    cases e with
    | BoolOp op xs p =>
      cases op with
      | Or => simp [chkE] at h
      | And =>
      match xs, h with
      | [x, y], h =>
        simp only [chkE, Bool.and_eq_true] at h
        have pa := soundE a cc hs tk h.1
        have pb := soundE b cc hs tk h.2
        refine PE.imp (pe_and pa (pe_one pb)) fun σ H Q ⟨ω, β, ρ, U, env, h, Q', X', rs, w, hq, hx⟩ => ?_
        exact ⟨ω, β, ρ, U, env, h, _, X', rs, w, fun d v h1 ρ1 H1 rs1 g1 rv1 w1 => by
          obtain ⟨kk, rfl, w1⟩ := w1
          cases rv1
          refine ⟨kk, rfl, ?_⟩
          by_cases hk : kk = true
          · rw [if_pos hk] at w1 ⊢
            exact ⟨ω, β, ρ1, U, env, h1, Q', X', rs1, w1, fun e u h2 ρ2 H2 rs2 g2 rv2 w2 => hq _ _ _ _ _ rs2 (g1.trans g2) rv2 w2, upX g1 hx⟩
          · rw [if_neg hk] at w1 ⊢
            exact hq _ _ _ _ _ rs1 g1 (.bl _) w1, hx⟩
      | x :: y :: z :: r, h =>
        simp only [chkE, Bool.and_eq_true] at h
        have pa := soundE a cc hs tk h.1
        have pb := soundE b cc hs tk h.2
        refine PE.imp (pe_and pa pb) fun σ H Q ⟨ω, β, ρ, U, env, h, Q', X', rs, w, hq, hx⟩ => ?_
        exact ⟨ω, β, ρ, U, env, h, _, X', rs, w, fun d v h1 ρ1 H1 rs1 g1 rv1 w1 => by
          obtain ⟨kk, rfl, w1⟩ := w1
          cases rv1
          refine ⟨kk, rfl, ?_⟩
          by_cases hk : kk = true
          · rw [if_pos hk] at w1 ⊢
            exact ⟨ω, β, ρ1, U, env, h1, Q', X', rs1, w1, fun e u h2 ρ2 H2 rs2 g2 rv2 w2 => hq _ _ _ _ _ rs2 (g1.trans g2) rv2 w2, upX g1 hx⟩
          · rw [if_neg hk] at w1 ⊢
            exact hq _ _ _ _ _ rs1 g1 (.bl _) w1, hx⟩
      | [], h => simp [chkE] at h
      | [_], h => simp [chkE] at h
    | _ => simp [chkE] at h
  | .orV a b, X, sc, W, e, cc, hs, tk, h => by
    cases e with
    | BoolOp op xs p =>
      cases op with
      | And => simp [chkE] at h
      | Or =>
      match xs, h with
      | [x, y], h =>
        simp only [chkE, Bool.and_eq_true] at h
        have pa := soundE a cc hs tk h.1
        have pb := soundE b cc hs tk h.2
        refine PE.imp (pe_or pa (pe_one pb)) fun σ H Q ⟨ω, β, ρ, U, env, h, Q', X', rs, w, hq, hx⟩ => ?_
        exact ⟨ω, β, ρ, U, env, h, _, X', rs, w, fun d v h1 ρ1 H1 rs1 g1 rv1 w1 => by
          obtain ⟨kk, rfl, w1⟩ := w1
          cases rv1
          refine ⟨kk, rfl, ?_⟩
          by_cases hk : kk = true
          · rw [if_pos hk] at w1 ⊢
            exact hq _ _ _ _ _ rs1 g1 (.bl _) w1
          · rw [if_neg hk] at w1 ⊢
            exact ⟨ω, β, ρ1, U, env, h1, Q', X', rs1, w1, fun e u h2 ρ2 H2 rs2 g2 rv2 w2 => hq _ _ _ _ _ rs2 (g1.trans g2) rv2 w2, upX g1 hx⟩, hx⟩
      | x :: y :: z :: r, h =>
        simp only [chkE, Bool.and_eq_true] at h
        have pa := soundE a cc hs tk h.1
        have pb := soundE b cc hs tk h.2
        refine PE.imp (pe_or pa pb) fun σ H Q ⟨ω, β, ρ, U, env, h, Q', X', rs, w, hq, hx⟩ => ?_
        exact ⟨ω, β, ρ, U, env, h, _, X', rs, w, fun d v h1 ρ1 H1 rs1 g1 rv1 w1 => by
          obtain ⟨kk, rfl, w1⟩ := w1
          cases rv1
          refine ⟨kk, rfl, ?_⟩
          by_cases hk : kk = true
          · rw [if_pos hk] at w1 ⊢
            exact hq _ _ _ _ _ rs1 g1 (.bl _) w1
          · rw [if_neg hk] at w1 ⊢
            exact ⟨ω, β, ρ1, U, env, h1, Q', X', rs1, w1, fun e u h2 ρ2 H2 rs2 g2 rv2 w2 => hq _ _ _ _ _ rs2 (g1.trans g2) rv2 w2, upX g1 hx⟩, hx⟩
      | [], h => simp [chkE] at h
      | [_], h => simp [chkE] at h
    | _ => simp [chkE] at h
  | .notV a, X, sc, W, e, cc, hs, tk, h => by
    cases e with
    | UnaryOp op x p =>
      cases op with
      | Not =>
        have pa := soundE a cc hs tk (by simpa [chkE] using h)
        refine PE.imp (pe_notT pa) fun σ H Q ⟨ω, β, ρ, U, env, h, Q', X', rs, w, hq, hx⟩ => ?_
        exact ⟨ω, β, ρ, U, env, h, _, X', rs, w, fun d v h1 ρ1 H1 rs1 g1 rv1 w1 => by
          obtain ⟨b, eb, w1⟩ := w1
          exact ⟨b, tru_rel rs1.hr rv1 eb, hq _ _ _ _ _ rs1 g1 (.bl _) w1⟩, hx⟩
      | _ => simp [chkE] at h
    | _ => simp [chkE] at h
  | .ite t a b, X, sc, W, e, cc, hs, tk, h => by
    cases e with
    | IfExp c x y p =>
      simp only [chkE, Bool.and_eq_true] at h
      obtain ⟨⟨ht, ha⟩, hb⟩ := h
      have pt := soundT t cc hs tk ht
      have pa := soundE a cc hs tk ha
      have pb := soundE b cc hs tk hb
      refine PE.imp (pe_ifExp pt.1 pa pb) fun σ H Q ⟨ω, β, ρ, U, env, h, Q', X', rs, w, hq, hx⟩ => ?_
      exact ⟨ω, β, ρ, U, env, h, _, X', rs, w, fun d v h1 ρ1 H1 rs1 g1 ev w1 => by
        subst ev
        by_cases hk : d = true
        · rw [if_pos hk] at w1 ⊢
          exact ⟨ω, β, ρ1, U, env, h1, Q', X', rs1, w1, fun e u h2 ρ2 H2 rs2 g2 rv2 w2 => hq _ _ _ _ _ rs2 (g1.trans g2) rv2 w2, upX g1 hx⟩
        · rw [if_neg hk] at w1 ⊢
          exact ⟨ω, β, ρ1, U, env, h1, Q', X', rs1, w1, fun e u h2 ρ2 H2 rs2 g2 rv2 w2 => hq _ _ _ _ _ rs2 (g1.trans g2) rv2 w2, upX g1 hx⟩, hx⟩
    | _ => simp [chkE] at h
  | .tup es, X, sc, W, e, cc, hs, tk, h => by
    cases e with
    | Tuple xs kk p =>
      have pa := soundEs es cc hs tk (es := xs) (by simpa [chkE] using h)
      refine PE.imp (pe_tup pa) fun σ H Q ⟨ω, β, ρ, U, env, h, Q', X', rs, w, hq, hx⟩ => ?_
      exact ⟨ω, β, ρ, U, env, h, _, X', rs, w, fun d v h1 ρ1 H1 rs1 g1 rv1 w1 => by
        obtain ⟨ds, rfl, hl, w1⟩ := w1
        have r := map_d rv1
        refine ⟨by rw [← r.length]; exact hl, fun p hp => ?_⟩
        exact hq (.d (.tup ds)) _ _ _ _ (rs1.step (rs1.hr.laid hp _).1 (rs1.hr.laid hp _).2) (g1.trans (rs1.hr.laid hp _).2) (rs1.hr.new_tup hp r) w1, hx⟩
    | _ => simp [chkE] at h
  | .ix a b, X, sc, W, e, cc, hs, tk, h => by
    cases e with
    | Subscript x y p =>
      simp only [chkE, Bool.and_eq_true] at h
      have pa := soundE a cc hs tk h.1
      have pb := soundE b cc hs tk h.2
      have pl : PlainIx y := fun o i => by
        have q := (plainE h.2).slice
        cases y <;> first | rfl | exact absurd rfl (q _ _ _ _)
      refine PE.imp (pe_ix (ix_all cc.room) pa pb pl) fun σ H Q ⟨ω, β, ρ, U, env, h, Q', X', rs, w, hq, hx⟩ => ?_
      exact ⟨ω, β, ρ, U, env, h, _, X', rs, w, fun d v h1 ρ1 H1 rs1 g1 rv1 w1 => ⟨ω, β, ρ1, U, env, h1, _, X', rs1, w1, fun e u h2 ρ2 H2 rs2 g2 rv2 w2 =>
        ix_ok rs2.hr (rv1.step g2) rv2 w2 (endD rs2 (g1.trans g2) hq), upX g1 hx⟩, hx⟩
    | _ => simp [chkE] at h
  | .slc a lo hi, X, sc, W, e, cc, hs, tk, h => by
    cases e with
    | Subscript x y p =>
      cases y with
      | Slice l u s q =>
        cases s with
        | some _ => simp [chkE] at h
        | none =>
        simp only [chkE, Bool.and_eq_true] at h
        obtain ⟨⟨ha, hl⟩, hu⟩ := h
        have pa := soundE a cc hs tk ha
        have pl := soundO lo cc hs tk hl
        have pu := soundO hi cc hs tk hu
        refine PE.imp (pe_slice sl_tupA pa pl pu) fun σ H Q ⟨ω, β, ρ, U, env, h, Q', X', rs, w, hq, hx⟩ => ?_
        exact ⟨ω, β, ρ, U, env, h, _, X', rs, w, fun d v h1 ρ1 H1 rs1 g1 rv1 w1 => ⟨ω, β, ρ1, U, env, h1, _, X', rs1, w1, fun i i' h2 ρ2 H2 rs2 g2 ei w2 =>
          ⟨ω, β, ρ2, U, env, h2, _, X', rs2, w2, fun j j' h3 ρ3 H3 rs3 g3 ej w3 => by
            subst ei; subst ej
            obtain ⟨xs, rfl, w3⟩ := w3
            have rv3 := (rv1.step g2).step g3
            have gg := (g1.trans g2).trans g3
            cases rv3 with
            | tup s r =>
            refine ⟨_, _, rfl, SqT.of s, fun hw => ?_, fun hw p hp => ?_⟩
            · refine hq (.d (.tup _)) _ _ _ _ rs3 gg ?_ w3
              rw [cutD_whole r.length hw]
              exact .tup s r
            · exact hq (.d (.tup _)) _ _ _ _ (rs3.step (rs3.hr.laid hp _).1 (rs3.hr.laid hp _).2) (gg.trans (rs3.hr.laid hp _).2) (rs3.hr.new_tup hp (cutD_rel r i j)) w3, upX (g1.trans g2) hx⟩, upX g1 hx⟩, hx⟩
      | _ => simp [chkE] at h
    | _ => simp [chkE] at h
  | .call f es, X, sc, W, e, cc, hs, tk, h => by
    cases e with
    | Call fn xs kw p =>
      cases fn with
      | Name x pn =>
        cases kw with
        | cons _ _ => cases xs <;> simp [chkE] at h
        | nil =>
        cases xs with
        | nil => simp [chkE] at h
        | cons y ys =>
        simp only [chkE, Bool.and_eq_true] at h
        obtain ⟨⟨hg, hf⟩, he⟩ := h
        obtain ⟨g1, g2⟩ := glB_ok hs hg
        cases en : nm f with
        | none => rw [en] at hf; cases hf
        | some z =>
          rw [en] at hf
          have ez : z = x := of_decide_eq_true hf
          subst ez
          obtain ⟨fa, fd, ps, hm, hk, hb, F⟩ := cc.fns f z en
          have pa := soundEs es cc hs tk he
          have st := chkEs_star he
          refine PE.imp (pe_callSD (dvs := []) (ds := []) (E := fun σ cls d H => W cls d σ H) F cc.room g1 hm hk hb .nil (fun σ => passAt tk σ) pa g2 (star_cons (st y (by simp))) (star_any fun e he => st e (by simp [he])))
            fun σ H Q ⟨ω, β, ρ, U, env, h, Q', X', rs, w, hq, hx⟩ => ?_
          exact ⟨ω, β, ρ, U, env, h, _, X', rs, w, fun d v h1 ρ1 H1 rs1 g1 rv1 w1 => by
            show spI C X.K Γ f (v ++ []) H1 Q (fun cls d H => W cls d σ H)
            rw [List.append_nil]
            exact spI_call rs1 rv1 w1 (fun r v h' ρ' U' H' rs' g' hr' gr' rr' q' => by
              obtain ⟨d, rd, q⟩ := rr'.rd hr' q'
              exact hq _ _ _ _ _ rs' (g1.trans g') rd q) (upX g1 hx), hx⟩
      | _ => simp [chkE] at h
    | _ => simp [chkE] at h
  | .bi b es, X, sc, W, e, cc, hs, tk, h => by
    cases e with
    | Call fn ys kw p =>
      cases fn with
      | Name x pn =>
        cases kw with
        | cons _ _ => unfold chkE at h; cases h
        | nil =>
        unfold chkE at h
        simp only [Bool.and_eq_true, decide_eq_true_eq] at h
        obtain ⟨⟨⟨hg, rfl⟩, hb⟩, h4⟩ := h
        obtain ⟨g1, g2⟩ := glB_ok hs hg
        have hm := cc.blt _ (blt_mem b)
        cases eb : b.isIsi with
        | true =>
          rw [eb] at h4
          cases es with
          | nil => simp at h4
          | cons a r =>
          cases r with
          | cons _ _ => simp at h4
          | nil =>
          match ys, h4 with
          | [], h4 => simp at h4
          | [_], h4 => simp at h4
          | _ :: _ :: _ :: _, h4 => simp at h4
          | [y, z], h4 =>
            cases z with
            | Name t pt =>
              simp only [Bool.and_eq_true, decide_eq_true_eq] at h4
              obtain ⟨⟨ha, ht⟩, et⟩ := h4
              cases b with
              | isI T =>
                obtain ⟨t1, t2⟩ := glB_ok hs ht
                have hT : T = "int" ∨ T = "bool" ∨ T = "tuple" ∨ T = "list" ∨ T = "str" := by
                  simp only [BI.okT, Bool.or_eq_true, beq_iff_eq] at hb
                  rcases hb with (((h | h) | h) | h) | h
                  · exact .inl h
                  · exact .inr (.inl h)
                  · exact .inr (.inr (.inl h))
                  · exact .inr (.inr (.inr (.inl h)))
                  · exact .inr (.inr (.inr (.inr h)))
                obtain ⟨v1, v2, v3⟩ := ty_val hT
                have et' : t = PySem.Str.ofString T := et
                subst et'
                have pa := soundE a cc hs tk ha
                have pt : PE X (.Name (PySem.Str.ofString T) pt) (tC (.ty T)) := pe_bltn t1 (cc.blt _ v2) v1 rfl v3 t2
                refine PE.imp (pe_callB (call_bi cc.calm (.isI T)) g1 hm (blt_val (.isI T)) (pa_cons pa (pa_cons pt pa_nil (star_cons rfl)) (star_cons (plainE ha).star)) (blt_name _) g2 (star_cons (plainE ha).star) rfl) fun σ H Q ⟨ω, β, ρ, U, env, h, Q', X', rs, w, hq, hx⟩ => ?_
                exact ⟨ω, β, ρ, U, env, h, _, X', rs, w, fun d v h1 ρ1 H1 rs1 g1 rv1 w1 =>
                  bi_ok (vs := [v]) (P := fun z => Q' (.d z) h1) rs1.hr hb (.cons rv1 .nil) w1 (endD rs1 g1 hq), hx⟩
              | _ => cases eb
            | _ => simp at h4
        | false =>
          rw [eb] at h4
          cases es with
          | nil => simp at h4
          | cons a r =>
          match ys, h4 with
          | [], h4 => simp at h4
          | y :: ys, h4 =>
            have he : chkEs N nm (cnam cs) (.cons a r) sc (y :: ys) = true := by simpa [chkEs] using h4
            have h5 := h4
            simp only [Bool.and_eq_true] at h5
            have pa := consA (soundE a cc hs tk h5.1) (soundEs r cc hs tk h5.2) (plainE h5.1).star
            have st := chkEs_star he
            have em : b.more = [] := by cases b <;> first | rfl | cases eb
            have hp : PE X (.Call (.Name b.name pn) (y :: ys) [] p) (tCB (rBi X.K b) (tEs C X.K W Γ (cval cs) (.cons a r))) := by
              have s1 := star_cons (es := ys) (env := X.env) (st y (by simp))
              have s2 := star_any (es := ys) (env := X.env) (pos := p) fun e he => st e (by simp [he])
              cases b with
              | intOf => exact pe_callTy (call_bi cc.calm .intOf) g1 hm (blt_val .intOf) pa (blt_name _) g2 s1 s2
              | isI T => cases eb
              | len => exact pe_callB (call_bi cc.calm .len) g1 hm (blt_val .len) pa (blt_name _) g2 s1 s2
              | abs => exact pe_callB (call_bi cc.calm .abs) g1 hm (blt_val .abs) pa (blt_name _) g2 s1 s2
              | min2 => exact pe_callB (call_bi cc.calm .min2) g1 hm (blt_val .min2) pa (blt_name _) g2 s1 s2
              | max2 => exact pe_callB (call_bi cc.calm .max2) g1 hm (blt_val .max2) pa (blt_name _) g2 s1 s2
              | sumL => exact pe_callB (call_bi cc.calm .sumL) g1 hm (blt_val .sumL) pa (blt_name _) g2 s1 s2
              | maxL => exact pe_callB (call_bi cc.calm .maxL) g1 hm (blt_val .maxL) pa (blt_name _) g2 s1 s2
              | minL => exact pe_callB (call_bi cc.calm .minL) g1 hm (blt_val .minL) pa (blt_name _) g2 s1 s2
              | allL => exact pe_callB (call_bi cc.calm .allL) g1 hm (blt_val .allL) pa (blt_name _) g2 s1 s2
              | anyL => exact pe_callB (call_bi cc.calm .anyL) g1 hm (blt_val .anyL) pa (blt_name _) g2 s1 s2
            refine PE.imp hp fun σ H Q ⟨ω, β, ρ, U, env, h, Q', X', rs, w, hq, hx⟩ => ?_
            exact ⟨ω, β, ρ, U, env, h, _, X', rs, w, fun d v h1 ρ1 H1 rs1 g1 rv1 w1 => by
              have q := bi_ok rs1.hr hb rv1 w1 (endD rs1 g1 hq)
              rw [em, List.append_nil] at q
              exact q, hx⟩
      | _ => unfold chkE at h; cases h
    | _ => unfold chkE at h; cases h
  | .tupOf l, X, sc, W, e, cc, hs, tk, h => by
    cases e with
    | Call fn ys kw p =>
      cases fn with
      | Name x pn =>
        match ys, kw, h with
        | [y], [], h =>
          simp only [chkE, Bool.and_eq_true, decide_eq_true_eq] at h
          obtain ⟨⟨hg, rfl⟩, hl⟩ := h
          obtain ⟨g1, g2⟩ := glB_ok hs hg
          have pl := soundL l cc hs tk hl
          have s1 := star_cons (es := []) (env := X.env) (plainL hl).star
          refine PE.imp (pe_callTy call_tuple_of g1 (cc.blt _ (by decide +kernel)) (by decide +kernel) (pa_cons pl pa_nil s1) (by decide +kernel) g2 s1 rfl) fun σ H Q ⟨ω, β, ρ, U, env, h, Q', X', rs, w, hq, hx⟩ => ?_
          exact ⟨ω, β, ρ, U, env, h, _, X', rs, w, fun d v h1 ρ1 H1 rs1 g1 rv1 w1 p hp => by
            have l1 := rs1.hr.laid hp (.lst v)
            refine ⟨p, v, rfl, .inl ⟨SqL.of upd_same, fun q hq' => ?_⟩⟩
            have rs2 := rs1.step l1.1 l1.2
            have l2 := rs2.hr.laid hq' (.tup v)
            exact hq (.d (.tup d)) _ _ _ _ (rs2.step l2.1 l2.2) ((g1.trans l1.2).trans l2.2) (rs2.hr.new_tup hq' (rv1.grow l1.2.gr)) w1, hx⟩
        | [], _, h => simp [chkE] at h
        | _ :: _ :: _, _, h => simp [chkE] at h
        | [_], _ :: _, h => simp [chkE] at h
      | _ => simp [chkE] at h
    | _ => simp [chkE] at h
  | .tupE a, X, sc, W, e, cc, hs, tk, h => by
    cases e with
    | Call fn ys kw p =>
      cases fn with
      | Name x pn =>
        match ys, kw, h with
        | [y], [], h =>
          simp only [chkE, Bool.and_eq_true, decide_eq_true_eq] at h
          obtain ⟨⟨hg, rfl⟩, hl⟩ := h
          obtain ⟨g1, g2⟩ := glB_ok hs hg
          have pl := soundE a cc hs tk hl
          have s1 := star_cons (es := []) (env := X.env) (plainE hl).star
          refine PE.imp (pe_callTy call_tuple_of g1 (cc.blt _ (by decide +kernel)) (by decide +kernel) (pa_cons pl pa_nil s1) (by decide +kernel) g2 s1 rfl) fun σ H Q ⟨ω, β, ρ, U, env, h, Q', X', rs, w, hq, hx⟩ => ?_
          exact ⟨ω, β, ρ, U, env, h, _, X', rs, w, fun d v h1 ρ1 H1 rs1 g1 rv1 w1 => by
            obtain ⟨xs, ex, w1⟩ := w1
            have go : ∀ (a : Addr) (vs : List V), v = .ref a → SqL X.K H1 a vs → RDs X.K H1 ρ1 (ms ω ρ1 U) xs vs → ∃ p ys, [v] = [.ref p] ∧ ((SqL X.K H1 p ys ∧ ∀ l, H1 l = none → Q (.ref l) (upd H1 l (.tup ys))) ∨ (SqT X.K H1 p ys ∧ Q (.ref p) H1)) := fun a vs ev s r => by
              subst ev
              refine ⟨a, vs, rfl, .inl ⟨s, fun q hq' => ?_⟩⟩
              have l2 := rs1.hr.laid hq' (.tup vs)
              exact hq (.d (.tup xs)) _ _ _ _ (rs1.step l2.1 l2.2) (g1.trans l2.2) (rs1.hr.new_tup hq' r) w1
            unfold VV.seq at ex
            split at ex
            · cases ex
              cases rv1 with
              | tup s r => exact ⟨_, _, rfl, .inr ⟨SqT.of s, hq (.d (.tup _)) _ _ _ _ rs1 g1 (.tup s r) w1⟩⟩
            · obtain ⟨a, vs, ev, s, r⟩ := rv1.list rs1.hr ex
              exact go a vs ev s r, hx⟩
        | [], _, h => simp [chkE] at h
        | _ :: _ :: _, _, h => simp [chkE] at h
        | [_], _ :: _, h => simp [chkE] at h
      | _ => simp [chkE] at h
    | _ => simp [chkE] at h
  | .tupRev a, X, sc, W, e, cc, hs, tk, h => by
    cases e with
    | Call fn ys kw p =>
      cases fn with
      | Name x pn =>
        match ys, kw, h with
        | [yy], [], h =>
          cases yy with
          | Call f2 y2 k2 p2 =>
            cases f2 with
            | Name r pr =>
              match y2, k2, h with
              | [z], [], h =>
                simp only [chkE, Bool.and_eq_true, decide_eq_true_eq] at h
                obtain ⟨⟨⟨⟨hg, rfl⟩, hg2⟩, rfl⟩, hl⟩ := h
                obtain ⟨g1, g2⟩ := glB_ok hs hg
                obtain ⟨g3, g4⟩ := glB_ok hs hg2
                have pl := soundE a cc hs tk hl
                refine PE.imp (RT.pe_tupRev cc.calm g1 (cc.blt _ (by decide +kernel)) g3 (cc.blt _ (by decide +kernel)) pl (hs := star_cons (es := []) (env := X.env) (plainE hl).star)) fun σ H Q ⟨ω, β, ρ, U, env, h, Q', X', rs, w, hq, hx⟩ => ?_
                exact ⟨ω, β, ρ, U, env, h, _, X', rs, w, fun d v h1 ρ1 H1 rs1 g1 rv1 w1 => by
                  obtain ⟨xs, ex, w1⟩ := w1
                  obtain ⟨a, vs, rfl, s, r⟩ := rv1.list rs1.hr ex
                  refine ⟨a, vs, rfl, s, fun q hq' => ?_⟩
                  have l2 := rs1.hr.laid hq' (.tup vs.reverse)
                  exact hq (.d (.tup xs.reverse)) _ _ _ _ (rs1.step l2.1 l2.2) (g1.trans l2.2) (rs1.hr.new_tup hq' r.reverse) w1, hx⟩
              | [], _, h => simp [chkE] at h
              | _ :: _ :: _, _, h => simp [chkE] at h
              | [_], _ :: _, h => simp [chkE] at h
            | _ => simp [chkE] at h
          | _ => simp [chkE] at h
        | [], _, h => simp [chkE] at h
        | _ :: _ :: _, _, h => simp [chkE] at h
        | [_], _ :: _, h => simp [chkE] at h
      | _ => simp [chkE] at h
    | _ => simp [chkE] at h
  | .fzOf l, X, sc, W, e, cc, hs, tk, h => by
    have pl := soundL l cc hs tk (by simpa [chkE] using h)
    refine PE.imp pl fun σ H Q ⟨ω, β, ρ, U, env, h, Q', X', rs, w, hq, hx⟩ => ?_
    exact ⟨ω, β, ρ, U, env, h, _, X', rs, w, fun d v h1 ρ1 H1 rs1 g1 rv1 w1 p hp =>
      hq (.d (.fz d)) _ _ _ _ (rs1.step (rs1.hr.laid hp _).1 (rs1.hr.laid hp _).2) (g1.trans (rs1.hr.laid hp _).2) (rs1.hr.new_fz hp rv1) w1, hx⟩
  | .newL l, X, sc, W, e, cc, hs, tk, h => by
    have pl := soundL l cc hs tk (by simpa [chkE] using h)
    refine PE.imp pl fun σ H Q ⟨ω, β, ρ, U, env, h, Q', X', rs, w, hq, hx⟩ => ?_
    exact ⟨ω, β, ρ, U, env, h, _, X', rs, w, fun d v h1 ρ1 H1 rs1 g1 rv1 w1 p hp => by
      obtain ⟨a1, a2⟩ := rs1.hr.alloc hp (.lst v) (o := .lst d) ⟨v, upd_same, rv1.grow (rs1.hr.growA hp _)⟩
      exact hq (.d (.ref h1.length)) _ _ _ _ (rs1.step a1 a2) (g1.trans a2) (.ref (by rw [rs1.hr.lh, List.getElem?_append_right (Nat.le_refl _)]; simp)) w1, hx⟩
  | .newD t, X, sc, W, e, cc, hs, tk, h => by
    cases e with
    | Dict ks vs p =>
      cases ks with
      | cons _ _ => simp [chkE] at h
      | nil =>
      cases vs with
      | cons _ _ => simp [chkE] at h
      | nil =>
      have pd : PE X (.Dict [] [] p) (fun σ H Q => tDNewK σ H Q ∨ tDNewT σ H Q) := ⟨fun pins s σ H Q I q => q.elim (pe_dnewK.run pins s σ H Q I) (pe_dnewT.run pins s σ H Q I)⟩
      refine PE.imp pd fun σ H Q ⟨ω, β, ρ, U, env, hh, Q', X', rs, w, hq, hx⟩ => ?_
      cases t with
      | true =>
        refine .inr fun p hp => ?_
        obtain ⟨a1, a2⟩ := rs.hr.alloc hp (.dT []) (o := .dT []) ⟨[], upd_same, .nil⟩
        exact hq (.d (.ref hh.length)) _ _ _ _ (rs.step a1 a2) a2 (.ref (by rw [rs.hr.lh, List.getElem?_append_right (Nat.le_refl _)]; simp)) w
      | false =>
        refine .inl fun p hp => ?_
        obtain ⟨a1, a2⟩ := rs.hr.alloc hp (.dK []) (o := .dK []) ⟨[], upd_same, .nil⟩
        exact hq (.d (.ref hh.length)) _ _ _ _ (rs.step a1 a2) a2 (.ref (by rw [rs.hr.lh, List.getElem?_append_right (Nat.le_refl _)]; simp)) w
    | _ => simp [chkE] at h
  | .appX o v, X, sc, W, e, cc, hs, tk, h => by
    cases e with
    | Call fn xs kw c =>
      cases fn with
      | Attribute ob m ap =>
        match xs, kw, h with
        | [x], [], h =>
          simp only [chkE, Bool.and_eq_true, decide_eq_true_eq] at h
          obtain ⟨⟨⟨⟨hp, rfl⟩, hb⟩, ho⟩, h0⟩ := h
          have po := soundE o cc hs tk ho
          have pv := soundE v cc hs tk h0
          have s1 := star_cons (es := []) (env := X.env) (plainE h0).star
          refine PE.imp (pe_bm PySem.F.plainAttrs_list PySem.F.slot_list_append PySem.F.type_list_append mt_append po (pa_cons pv pa_nil s1) (base_ok hp) (by rw [s1]; rfl) hb s1 rfl) fun σ H Q ⟨ω, β, ρ, U, env, h, Q', X', rs, w, hq, hx⟩ => ?_
          exact ⟨ω, β, ρ, U, env, h, _, X', rs, w, fun d u h1 ρ1 H1 rs1 g1 rv1 w1 => by
            obtain ⟨⟨n0, xs0, e0⟩, w1⟩ := w1
            obtain ⟨a0, vs0, rfl, _, _, _, b0, _⟩ := hL_ok rs1.hr rv1 e0
            refine ⟨.inl ⟨rfl, vs0, SqL.of b0⟩, ω, β, ρ1, U, env, h1, _, X', rs1, w1, fun d2 v2 h2 ρ2 H2 rs2 g2 rv2 w2 => ?_, upX g1 hx⟩
            obtain ⟨n, xs, y, e1, rfl, hl, w2⟩ := w2
            obtain ⟨a, vs, ea, rfl, hn, eh, b1, b2⟩ := hL_ok rs2.hr (rv1.step g2) e1
            cases ea
            obtain ⟨a1, a2⟩ := rs2.hr.mutL hn (b2.append (.cons rv2 .nil))
            exact ⟨_, vs, v2, rfl, rfl, b1, by rw [← b2.length]; exact hl, hq (.d .non) _ _ _ _ (rs2.step a1 a2) ((g1.trans g2).trans a2) .non w2⟩, hx⟩
        | [], _, h => simp [chkE] at h
        | _ :: _ :: _, _, h => simp [chkE] at h
        | [_], _ :: _, h => simp [chkE] at h
      | _ => simp [chkE] at h
    | _ => simp [chkE] at h
  | .extX o l, X, sc, W, e, cc, hs, tk, h => by
    cases e with
    | Call fn xs kw c =>
      cases fn with
      | Attribute ob m ap =>
        match xs, kw, h with
        | [x], [], h =>
          simp only [chkE, Bool.and_eq_true, decide_eq_true_eq] at h
          obtain ⟨⟨⟨⟨hp, rfl⟩, hb⟩, ho⟩, h0⟩ := h
          have po := soundE o cc hs tk ho
          have pv := soundL l cc hs tk h0
          have s1 := star_cons (es := []) (env := X.env) (plainL h0).star
          refine PE.imp (pe_bm PySem.F.plainAttrs_list PySem.F.slot_list_extend PySem.F.type_list_extend mt_extend po (pa_cons pv pa_nil s1) (base_ok hp) (by rw [s1]; rfl) hb s1 rfl) fun σ H Q ⟨ω, β, ρ, U, env, h, Q', X', rs, w, hq, hx⟩ => ?_
          exact ⟨ω, β, ρ, U, env, h, _, X', rs, w, fun d u h1 ρ1 H1 rs1 g1 rv1 w1 => by
            obtain ⟨⟨n0, xs0, e0⟩, w1⟩ := w1
            obtain ⟨a0, vs0, rfl, _, _, _, b0, _⟩ := hL_ok rs1.hr rv1 e0
            refine ⟨.inl ⟨rfl, vs0, SqL.of b0⟩, ω, β, ρ1, U, env, h1, _, X', rs1, w1, fun ys v2 h2 ρ2 H2 rs2 g2 rv2 w2 p hp => ?_, upX g1 hx⟩
            obtain ⟨n, xs, e1, hl, w2⟩ := w2
            have l1 := rs2.hr.laid hp (.lst v2)
            have rs3 := rs2.step l1.1 l1.2
            have gg := g2.trans l1.2
            obtain ⟨a, vs, ea, rfl, hn, eh, b1, b2⟩ := hL_ok rs3.hr (rv1.step gg) e1
            cases ea
            obtain ⟨a1, a2⟩ := rs3.hr.mutL hn (b2.append (rv2.grow l1.2.gr))
            exact ⟨_, p, vs, v2, rfl, rfl, b1, upd_same, by rw [← b2.length, ← rv2.length]; exact hl, hq (.d .non) _ _ _ _ (rs3.step a1 a2) ((g1.trans gg).trans a2) .non w2⟩, hx⟩
        | [], _, h => simp [chkE] at h
        | _ :: _ :: _, _, h => simp [chkE] at h
        | [_], _ :: _, h => simp [chkE] at h
      | _ => simp [chkE] at h
    | _ => simp [chkE] at h
  | .clrX o, X, sc, W, e, cc, hs, tk, h => by
    cases e with
    | Call fn xs kw c =>
      cases fn with
      | Attribute ob m ap =>
        match xs, kw, h with
        | [], [], h =>
          simp only [chkE, Bool.and_eq_true, decide_eq_true_eq] at h
          obtain ⟨⟨⟨hp, rfl⟩, hb⟩, ho⟩ := h
          have po := soundE o cc hs tk ho
          refine PE.imp (pe_bm0 PySem.F.plainAttrs_list PySem.F.slot_list_clear PySem.F.type_list_clear mt_clear po (base_ok hp) hb) fun σ H Q ⟨ω, β, ρ, U, env, h, Q', X', rs, w, hq, hx⟩ => ?_
          exact ⟨ω, β, ρ, U, env, h, _, X', rs, w, fun d u h1 ρ1 H1 rs1 g1 rv1 w1 => by
            obtain ⟨n, xs, e1, w1⟩ := w1
            obtain ⟨a, vs, rfl, rfl, hn, eh, b1, b2⟩ := hL_ok rs1.hr rv1 e1
            obtain ⟨a1, a2⟩ := rs1.hr.mutL hn (xs := []) .nil
            exact ⟨.inl ⟨rfl, vs, SqL.of b1⟩, _, vs, rfl, rfl, b1, hq (.d .non) _ _ _ _ (rs1.step a1 a2) (g1.trans a2) .non w1⟩, hx⟩
        | _ :: _, _, h => simp [chkE] at h
        | [], _ :: _, h => simp [chkE] at h
      | _ => simp [chkE] at h
    | _ => simp [chkE] at h
  | .popX o, X, sc, W, e, cc, hs, tk, h => by
    cases e with
    | Call fn xs kw c =>
      cases fn with
      | Attribute ob m ap =>
        match xs, kw, h with
        | [], [], h =>
          simp only [chkE, Bool.and_eq_true, decide_eq_true_eq] at h
          obtain ⟨⟨⟨hp, rfl⟩, hb⟩, ho⟩ := h
          have po := soundE o cc hs tk ho
          refine PE.imp (pe_bm0 PySem.F.plainAttrs_list PySem.F.slot_list_pop PySem.F.type_list_pop mt_pop po (base_ok hp) hb) fun σ H Q ⟨ω, β, ρ, U, env, h, Q', X', rs, w, hq, hx⟩ => ?_
          exact ⟨ω, β, ρ, U, env, h, _, X', rs, w, fun d u h1 ρ1 H1 rs1 g1 rv1 w1 => by
            obtain ⟨n, xs, y, e1, ey, w1⟩ := w1
            obtain ⟨a, vs, rfl, rfl, hn, eh, b1, b2⟩ := hL_ok rs1.hr rv1 e1
            obtain ⟨vy, ev, ry⟩ := b2.get ey
            rw [b2.length] at ev
            obtain ⟨a1, a2⟩ := rs1.hr.mutL hn b2.dropLast
            exact ⟨.inl ⟨rfl, vs, SqL.of b1⟩, _, vs, vy, rfl, rfl, b1, ev, hq (.d y) _ _ _ _ (rs1.step a1 a2) (g1.trans a2) (RD.grow a2.gr ry) w1⟩, hx⟩
        | _ :: _, _, h => simp [chkE] at h
        | [], _ :: _, h => simp [chkE] at h
      | _ => simp [chkE] at h
    | _ => simp [chkE] at h
  | .popAt o i, X, sc, W, e, cc, hs, tk, h => by
    cases e with
    | Call fn xs kw c =>
      cases fn with
      | Attribute ob m ap =>
        match xs, kw, h with
        | [x], [], h =>
          simp only [chkE, Bool.and_eq_true, decide_eq_true_eq] at h
          obtain ⟨⟨⟨⟨hp, rfl⟩, hb⟩, ho⟩, h0⟩ := h
          have po := soundE o cc hs tk ho
          have pv := soundE i cc hs tk h0
          have s1 := star_cons (es := []) (env := X.env) (plainE h0).star
          refine PE.imp (pe_bm PySem.F.plainAttrs_list PySem.F.slot_list_pop PySem.F.type_list_pop mt_popAt po (pa_cons pv pa_nil s1) (base_ok hp) (by rw [s1]; rfl) hb s1 rfl) fun σ H Q ⟨ω, β, ρ, U, env, h, Q', X', rs, w, hq, hx⟩ => ?_
          exact ⟨ω, β, ρ, U, env, h, _, X', rs, w, fun d u h1 ρ1 H1 rs1 g1 rv1 w1 => by
            obtain ⟨⟨n0, xs0, e0⟩, w1⟩ := w1
            obtain ⟨a0, vs0, rfl, _, _, _, b0, _⟩ := hL_ok rs1.hr rv1 e0
            refine ⟨.inl ⟨rfl, vs0, SqL.of b0⟩, ω, β, ρ1, U, env, h1, _, X', rs1, w1, fun d2 v2 h2 ρ2 H2 rs2 g2 rv2 w2 => ?_, upX g1 hx⟩
            obtain ⟨n, xs, j, kk, y, e1, rfl, j0, j1, ek, ey, w2⟩ := w2
            cases rv2
            obtain ⟨a, vs, ea, rfl, hn, eh, b1, b2⟩ := hL_ok rs2.hr (rv1.step g2) e1
            cases ea
            obtain ⟨vy, ev, ry⟩ := b2.get ey
            rw [b2.length] at ek
            obtain ⟨a1, a2⟩ := rs2.hr.mutL hn (b2.eraseIdx kk)
            exact ⟨_, vs, j, kk, vy, rfl, rfl, b1, j0, j1, ek, ev, hq (.d y) _ _ _ _ (rs2.step a1 a2) ((g1.trans g2).trans a2) (RD.grow a2.gr ry) w2⟩, hx⟩
        | [], _, h => simp [chkE] at h
        | _ :: _ :: _, _, h => simp [chkE] at h
        | [_], _ :: _, h => simp [chkE] at h
      | _ => simp [chkE] at h
    | _ => simp [chkE] at h
  | .insX o i v, X, sc, W, e, cc, hs, tk, h => by
    cases e with
    | Call fn xs kw c =>
      cases fn with
      | Attribute ob m ap =>
        match xs, kw, h with
        | [x, y], [], h =>
          simp only [chkE, Bool.and_eq_true, decide_eq_true_eq] at h
          obtain ⟨⟨⟨⟨⟨hp, rfl⟩, hb⟩, ho⟩, h0⟩, h1⟩ := h
          have po := soundE o cc hs tk ho
          have pv := soundE i cc hs tk h0
          have pw := soundE v cc hs tk h1
          have s2 := star_cons (es := [y]) (env := X.env) (plainE h0).star
          have s1 := star_cons (es := []) (env := X.env) (plainE h1).star
          refine PE.imp (pe_bm PySem.F.plainAttrs_list PySem.F.slot_list_insert PySem.F.type_list_insert mt_insert po (pa_cons pv (pa_cons pw pa_nil s1) s2) (base_ok hp) (by rw [s2, s1]; rfl) hb s2 (by rw [s1]; rfl)) fun σ H Q ⟨ω, β, ρ, U, env, h, Q', X', rs, w, hq, hx⟩ => ?_
          exact ⟨ω, β, ρ, U, env, h, _, X', rs, w, fun d u h1 ρ1 H1 rs1 g1 rv1 w1 => by
            obtain ⟨⟨n0, xs0, e0⟩, w1⟩ := w1
            obtain ⟨a0, vs0, rfl, _, _, _, b0, _⟩ := hL_ok rs1.hr rv1 e0
            refine ⟨.inl ⟨rfl, vs0, SqL.of b0⟩, ω, β, ρ1, U, env, h1, _, X', rs1, w1, fun d2 v2 h2 ρ2 H2 rs2 g2 rv2 w2 => ⟨ω, β, ρ2, U, env, h2, _, X', rs2, w2, fun d3 v3 h3 ρ3 H3 rs3 g3 rv3 w3 => ?_, upX (g1.trans g2) hx⟩, upX g1 hx⟩
            obtain ⟨n, xs, j, z, e1, rfl, rfl, j0, j1, hl, w3⟩ := w3
            cases rv2
            obtain ⟨a, vs, ea, rfl, hn, eh, b1, b2⟩ := hL_ok rs3.hr ((rv1.step g2).step g3) e1
            cases ea
            have q := ((b2.take j.toNat).append (.cons rv3 .nil)).append (b2.drop j.toNat)
            rw [List.append_assoc] at q
            obtain ⟨a1, a2⟩ := rs3.hr.mutL hn q
            exact ⟨_, vs, j, v3, rfl, rfl, b1, by rw [← b2.length]; exact hl, j0, j1, hq (.d .non) _ _ _ _ (rs3.step a1 a2) (((g1.trans g2).trans g3).trans a2) .non w3⟩, hx⟩
        | [], _, h => simp [chkE] at h
        | [_], _, h => simp [chkE] at h
        | _ :: _ :: _ :: _, _, h => simp [chkE] at h
        | [_, _], _ :: _, h => simp [chkE] at h
      | _ => simp [chkE] at h
    | _ => simp [chkE] at h
  | .idx o v, X, sc, W, e, cc, hs, tk, h => by
    cases e with
    | Call fn xs kw c =>
      cases fn with
      | Attribute ob m ap =>
        match xs, kw, h with
        | [x], [], h =>
          simp only [chkE, Bool.and_eq_true, decide_eq_true_eq] at h
          obtain ⟨⟨⟨⟨hp, rfl⟩, hb⟩, ho⟩, h0⟩ := h
          have po := soundE o cc hs tk ho
          have pv := soundE v cc hs tk h0
          have s1 := star_cons (es := []) (env := X.env) (plainE h0).star
          refine PE.imp (pe_bm PySem.F.plainAttrs_list PySem.F.slot_list_index PySem.F.type_list_index (mt_indexD (by have := cc.room.un; omega)) po (pa_cons pv pa_nil s1) (base_ok hp) (by rw [s1]; rfl) hb s1 rfl) fun σ H Q ⟨ω, β, ρ, U, env, h, Q', X', rs, w, hq, hx⟩ => ?_
          exact ⟨ω, β, ρ, U, env, h, _, X', rs, w, fun d u h1 ρ1 H1 rs1 g1 rv1 w1 => by
            obtain ⟨⟨xs0, e0⟩, w1⟩ := w1
            obtain ⟨a0, vs0, rfl, s0, _⟩ := rv1.list rs1.hr e0
            refine ⟨.inl ⟨rfl, vs0, s0⟩, ω, β, ρ1, U, env, h1, _, X', rs1, w1, fun d2 v2 h2 ρ2 H2 rs2 g2 rv2 w2 => ?_, upX g1 hx⟩
            obtain ⟨xs, y, j, e1, rfl, f1, f2, ej, w2⟩ := w2
            obtain ⟨a, vs, ea, s3, r3⟩ := (rv1.step g2).list rs2.hr e1
            cases ea
            obtain ⟨hj, hz, hno⟩ := List.findIdx?_eq_some_iff_getElem.mp ej
            have at_ : ∀ m, (hm : m < xs.length) → (D.pys xs)[m]? = some (xs[m]).py := fun m hm => by rw [pys_map, List.getElem?_map, List.getElem?_eq_getElem hm]; rfl
            have fl : ∀ m, (hm : m < xs.length) → (xs[m]).fla 59 = true := fun m hm => flas_at f2 (List.getElem_mem hm)
            refine ⟨_, v2, y.py, D.pys xs, j, (xs[j]).py, rfl, rfl, .lst s3 (r3.dp f2), RD.dp rv2 f1, D.flas_shaped f2, D.fla_shaped f1, at_ j hj, by rw [D.py_eqv _ _ 59 60 (fl j hj) f1]; exact hz, fun m z' hm ez => ?_, hq (.d (.int (j : Nat))) _ _ _ _ rs2 (g1.trans g2) (.int _) w2⟩
            have hml : m < xs.length := by omega
            rw [at_ m hml] at ez
            cases ez
            rw [D.py_eqv _ _ 59 60 (fl m hml) f1]
            simpa using hno m hm, hx⟩
        | [], _, h => simp [chkE] at h
        | _ :: _ :: _, _, h => simp [chkE] at h
        | [_], _ :: _, h => simp [chkE] at h
      | _ => simp [chkE] at h
    | _ => simp [chkE] at h
  | .getD o k, X, sc, W, e, cc, hs, tk, h => by
    cases e with
    | Call fn xs kw c =>
      cases fn with
      | Attribute ob m ap =>
        match xs, kw, h with
        | [x], [], h =>
          simp only [chkE, Bool.and_eq_true, decide_eq_true_eq] at h
          obtain ⟨⟨⟨⟨hp, rfl⟩, hb⟩, ho⟩, h0⟩ := h
          have po := soundE o cc hs tk ho
          have pv := soundE k cc hs tk h0
          have s1 := star_cons (es := []) (env := X.env) (plainE h0).star
          refine PE.imp (pe_dget1 (by have := cc.room.un; omega) po pv ⟨base_ok hp, by rw [s1]; rfl, hb, by rw [s1]; rfl⟩) fun σ H Q ⟨ω, β, ρ, U, env, h, Q', X', rs, w, hq, hx⟩ => ?_
          exact ⟨ω, β, ρ, U, env, h, _, X', rs, w, fun d u h1 ρ1 H1 rs1 g1 rv1 w1 => by
            obtain ⟨⟨ob, eo, ed⟩, w1⟩ := w1
            obtain ⟨a0, rfl, i0⟩ := isD_rel rs1.hr rv1 eo ed
            refine ⟨a0, rfl, i0, ω, β, ρ1, U, env, h1, _, X', rs1, w1, fun d2 v2 h2 ρ2 H2 rs2 g2 rv2 w2 => ?_, upX g1 hx⟩
            obtain ⟨oa, y, r, e1, rfl, e2, w2⟩ := w2
            obtain ⟨a, rv, ea, dg, rr⟩ := RV.dget rs2.hr (rv1.step g2) e1 rv2 e2
            cases ea
            rcases rr with ⟨rfl, rfl⟩ | ⟨z, zv, rfl, rfl, rz⟩
            · exact ⟨_, dg, hq (.d .non) _ _ _ _ rs2 (g1.trans g2) .non w2⟩
            · exact ⟨_, dg, hq (.d z) _ _ _ _ rs2 (g1.trans g2) rz w2⟩, hx⟩
        | [], _, h => simp [chkE] at h
        | _ :: _ :: _, _, h => simp [chkE] at h
        | [_], _ :: _, h => simp [chkE] at h
      | _ => simp [chkE] at h
    | _ => simp [chkE] at h
  | .getD2 o k v, X, sc, W, e, cc, hs, tk, h => by
    cases e with
    | Call fn xs kw c =>
      cases fn with
      | Attribute ob m ap =>
        match xs, kw, h with
        | [x, y], [], h =>
          simp only [chkE, Bool.and_eq_true, decide_eq_true_eq] at h
          obtain ⟨⟨⟨⟨⟨hp, rfl⟩, hb⟩, ho⟩, h0⟩, h1⟩ := h
          have po := soundE o cc hs tk ho
          have pv := soundE k cc hs tk h0
          have pw := soundE v cc hs tk h1
          have s2 := star_cons (es := [y]) (env := X.env) (plainE h0).star
          have s1 := star_cons (es := []) (env := X.env) (plainE h1).star
          refine PE.imp (pe_dget2 (by have := cc.room.un; omega) po pv pw ⟨base_ok hp, by rw [s2, s1]; rfl, hb, by rw [s2, s1]; rfl⟩) fun σ H Q ⟨ω, β, ρ, U, env, h, Q', X', rs, w, hq, hx⟩ => ?_
          exact ⟨ω, β, ρ, U, env, h, _, X', rs, w, fun d u h1 ρ1 H1 rs1 g1 rv1 w1 => by
            obtain ⟨⟨ob, eo, ed⟩, w1⟩ := w1
            obtain ⟨a0, rfl, i0⟩ := isD_rel rs1.hr rv1 eo ed
            refine ⟨a0, rfl, i0, ω, β, ρ1, U, env, h1, _, X', rs1, w1, fun d2 v2 h2 ρ2 H2 rs2 g2 rv2 w2 => ⟨ω, β, ρ2, U, env, h2, _, X', rs2, w2, fun d3 v3 h3 ρ3 H3 rs3 g3 rv3 w3 => ?_, upX (g1.trans g2) hx⟩, upX g1 hx⟩
            obtain ⟨oa, y, dw, r, e1, rfl, rfl, e2, w3⟩ := w3
            obtain ⟨a, rv, ea, dg, rr⟩ := RV.dget rs3.hr ((rv1.step g2).step g3) e1 (RD.grow g3.gr rv2) e2
            cases ea
            rcases rr with ⟨rfl, rfl⟩ | ⟨z, zv, rfl, rfl, rz⟩
            · exact ⟨_, dg, hq (.d dw) _ _ _ _ rs3 ((g1.trans g2).trans g3) rv3 w3⟩
            · exact ⟨_, dg, hq (.d z) _ _ _ _ rs3 ((g1.trans g2).trans g3) rz w3⟩, hx⟩
        | [], _, h => simp [chkE] at h
        | [_], _, h => simp [chkE] at h
        | _ :: _ :: _ :: _, _, h => simp [chkE] at h
        | [_, _], _ :: _, h => simp [chkE] at h
      | _ => simp [chkE] at h
    | _ => simp [chkE] at h
  | .sdf o k v, X, sc, W, e, cc, hs, tk, h => by
    cases e with
    | Call fn xs kw c =>
      cases fn with
      | Attribute ob m ap =>
        match xs, kw, h with
        | [x, y], [], h =>
          simp only [chkE, Bool.and_eq_true, decide_eq_true_eq] at h
          obtain ⟨⟨⟨⟨⟨hp, rfl⟩, hb⟩, ho⟩, h0⟩, h1⟩ := h
          have po := soundE o cc hs tk ho
          have pv := soundE k cc hs tk h0
          have pw := soundE v cc hs tk h1
          have s2 := star_cons (es := [y]) (env := X.env) (plainE h0).star
          have s1 := star_cons (es := []) (env := X.env) (plainE h1).star
          refine PE.imp (pe_dsetdA (by have := cc.room.un; omega) po pv pw ⟨base_ok hp, by rw [s2, s1]; rfl, hb, by rw [s2, s1]; rfl⟩) fun σ H Q ⟨ω, β, ρ, U, env, h, Q', X', rs, w, hq, hx⟩ => ?_
          exact ⟨ω, β, ρ, U, env, h, _, X', rs, w, fun d u h1 ρ1 H1 rs1 g1 rv1 w1 => by
            obtain ⟨⟨ob, eo, ed⟩, w1⟩ := w1
            obtain ⟨a0, rfl, i0⟩ := isD_rel rs1.hr rv1 eo ed
            refine ⟨a0, rfl, i0, ω, β, ρ1, U, env, h1, _, X', rs1, w1, fun d2 v2 h2 ρ2 H2 rs2 g2 rv2 w2 => ⟨ω, β, ρ2, U, env, h2, _, X', rs2, w2, fun d3 v3 h3 ρ3 H3 rs3 g3 rv3 w3 => ?_, upX (g1.trans g2) hx⟩, upX g1 hx⟩
            have gg := (g1.trans g2).trans g3
            exact setd_ok rs3.hr ((rv1.step g2).step g3) (rv2.step g3) rv3 w3 (fun d v h' H' hr' st' rd' q => hq _ _ _ _ _ (rs3.step hr' st') (gg.trans st') rd' q), hx⟩
        | [], _, h => simp [chkE] at h
        | [_], _, h => simp [chkE] at h
        | _ :: _ :: _ :: _, _, h => simp [chkE] at h
        | [_, _], _ :: _, h => simp [chkE] at h
      | _ => simp [chkE] at h
    | _ => simp [chkE] at h
  | .divm a b, X, sc, W, e, cc, hs, tk, h => by
    cases e with
    | Call fn ys kw p =>
      cases fn with
      | Name x pn =>
        match ys, kw, h with
        | [y, z], [], h =>
          simp only [chkE, Bool.and_eq_true, decide_eq_true_eq] at h
          obtain ⟨⟨⟨hg, rfl⟩, h0⟩, h1⟩ := h
          obtain ⟨g1, g2⟩ := glB_ok hs hg
          have pv := soundE a cc hs tk h0
          have pw := soundE b cc hs tk h1
          have s2 := star_cons (es := [z]) (env := X.env) (plainE h0).star
          have s1 := star_cons (es := []) (env := X.env) (plainE h1).star
          refine PE.imp (pe_callB call_divmod g1 (cc.blt _ (by decide +kernel)) (by decide +kernel) (pa_cons pv (pa_cons pw pa_nil s1) s2) (by decide +kernel) g2 s2 (by rw [s1]; rfl)) fun σ H Q ⟨ω, β, ρ, U, env, h, Q', X', rs, w, hq, hx⟩ => ?_
          exact ⟨ω, β, ρ, U, env, h, _, X', rs, w, fun d v h1 ρ1 H1 rs1 g1 rv1 w1 => ⟨ω, β, ρ1, U, env, h1, _, X', rs1, w1, fun d2 v2 h2 ρ2 H2 rs2 g2 rv2 w2 => by
            obtain ⟨i, j, rfl, rfl, cd, w2⟩ := w2
            cases rv1
            cases rv2
            refine ⟨i, j, rfl, cd, fun p hp => ?_⟩
            exact hq (.d (.tup [.int (i / j), .int (i % j)])) _ _ _ _ (rs2.step (rs2.hr.laid hp _).1 (rs2.hr.laid hp _).2) ((g1.trans g2).trans (rs2.hr.laid hp _).2) (rs2.hr.new_tup hp (.cons (.int _) (.cons (.int _) .nil))) w2, upX g1 hx⟩, hx⟩
        | [], _, h => simp [chkE] at h
        | [_], _, h => simp [chkE] at h
        | _ :: _ :: _ :: _, _, h => simp [chkE] at h
        | [_, _], _ :: _, h => simp [chkE] at h
      | _ => simp [chkE] at h
    | _ => simp [chkE] at h
  | .fld k0 o f, X, sc, W, e, cc, hs, tk, h => by
    cases e with
    | Attribute ob m ap =>
      simp only [chkE, Bool.and_eq_true, decide_eq_true_eq] at h
      obtain ⟨⟨⟨⟨hp, rfl⟩, hf⟩, hk⟩, ho⟩ := h
      have po := soundE o cc hs tk ho
      refine PE.imp (pe_fld po (base_ok hp)) fun σ H Q ⟨ω, β, ρ, U, env, h, Q', X', rs, w, hq, hx⟩ => ?_
      exact ⟨ω, β, ρ, U, env, h, _, X', rs, w, fun d u h1 ρ1 H1 rs1 g1 rv1 w1 => by
        obtain ⟨n, c, fs, dd, rfl, eh, hc, el, w1⟩ := w1
        obtain ⟨a, dx, ws, rfl, hn, ha, rk⟩ := ins_ok rs1.hr rv1 eh
        obtain ⟨v, ev, rd⟩ := rk.look el
        have cl := cc.cls c (by omega)
        exact ⟨a, C c, dx, ws, v, rfl, ha, cl.1, cl.2 m (by simpa using hf), ev, hq (.d dd) _ _ _ _ rs1 g1 rd w1⟩, hx⟩
    | _ => simp [chkE] at h
  | .meth c m f o es, X, sc, W, e, cc, hs, tk, h => by
    cases e with
    | Call fn ys kw p =>
      cases fn with
      | Attribute ob m2 ap =>
        cases kw with
        | cons _ _ => simp [chkE] at h
        | nil =>
        simp only [chkE, Bool.and_eq_true, decide_eq_true_eq] at h
        obtain ⟨⟨⟨⟨⟨⟨hp, rfl⟩, hb⟩, hn⟩, em⟩, ho⟩, he⟩ := h
        obtain ⟨fa, fd, ps, cl, hm, hbd, F⟩ := cc.mth f c m2 em
        have po := soundE o cc hs tk ho
        have fin : ∀ σ H Q, tE C X.K W Γ (cval cs) (.meth c m2 f o es) σ H Q → tMethE (C c) m2 (spI C X.K Γ f) (fun σ cls d H => W cls d σ H) (tE C X.K W Γ (cval cs) o) (tEs C X.K W Γ (cval cs) es) σ H Q := by
          rintro σ H Q ⟨ω, β, ρ, U, env, h, Q', X', rs, w, hq, hx⟩
          exact ⟨ω, β, ρ, U, env, h, _, X', rs, w, fun d u h1 ρ1 H1 rs1 g1 rv1 w1 => by
            obtain ⟨n, fs, rfl, eh, en, w1⟩ := w1
            obtain ⟨a, dx, ws, rfl, hn, ha, rk⟩ := ins_ok rs1.hr rv1 eh
            refine ⟨a, dx, ws, rfl, ha, rk.lookN en, ω, β, ρ1, U, env, h1, _, X', rs1, w1, fun vs us h2 ρ2 H2 rs2 g2 rv2 w2 => ?_, upX g1 hx⟩
            exact spI_call (xs := .d (.ref n) :: vs) rs2 (.cons (rv1.step g2) rv2) w2 (fun r v h' ρ' U' H' rs' g' hr' gr' rr' q' => by
              obtain ⟨d, rd, q⟩ := rr'.rd hr' q'
              exact hq _ _ _ _ _ rs' ((g1.trans g2).trans g') rd q) (upX (g1.trans g2) hx), hx⟩
        have st := chkEs_star he
        cases es with
        | nil =>
          cases ys with
          | cons _ _ => simp [chkEs] at he
          | nil =>
          refine PE.imp (pe_methE0 (E := fun σ cls d H => W cls d σ H) hp po cl hm F cc.room hbd (fun σ => passAt tk σ) hb) ?_
          rintro σ H Q ⟨ω, β, ρ, U, env, h, Q', X', rs, w, hq, hx⟩
          exact ⟨ω, β, ρ, U, env, h, _, X', rs, w, fun d u h1 ρ1 H1 rs1 g1 rv1 w1 => by
            obtain ⟨n, fs, rfl, eh, en, w1⟩ := w1
            obtain ⟨a, dx, ws, rfl, hn, ha, rk⟩ := ins_ok rs1.hr rv1 eh
            refine ⟨a, dx, ws, rfl, ha, rk.lookN en, ?_⟩
            exact spI_call (xs := [.d (.ref n)]) rs1 (.cons rv1 .nil) w1 (fun r v h' ρ' U' H' rs' g' hr' gr' rr' q' => by
              obtain ⟨d, rd, q⟩ := rr'.rd hr' q'
              exact hq _ _ _ _ _ rs' (g1.trans g') rd q) (upX g1 hx), hx⟩
        | cons a r =>
          cases ys with
          | nil => simp [chkEs] at he
          | cons y ys =>
          have pa := soundEs (.cons a r) cc hs tk he
          exact PE.imp (pe_methE (E := fun σ cls d H => W cls d σ H) hp po cl hm F cc.room hbd (fun σ => passAt tk σ) pa (star_cons (st y (by simp))) (star_any fun e he => st e (by simp [he])) (star_any st) hb hn) fin
      | _ => simp [chkE] at h
    | _ => simp [chkE] at h
  | .mk c f es, X, sc, W, e, cc, hs, tk, h => by
    cases e with
    | Call fn ys kw p =>
      cases fn with
      | Name x pn =>
        cases kw with
        | cons _ _ => simp [chkE] at h
        | nil =>
        simp only [chkE, Bool.and_eq_true, decide_eq_true_eq] at h
        obtain ⟨⟨hg, em⟩, he⟩ := h
        obtain ⟨g1, g2⟩ := glB_ok hs hg
        have st := chkEs_star he
        have pa := soundEs es cc hs tk he
        obtain ⟨kk, fa, fd, ps, hmx, M, hbd, F, hr⟩ := cc.mks c x f em
        cases es with
        | nil =>
          cases ys with
          | cons _ _ => simp [chkEs] at he
          | nil =>
          refine PE.imp (pe_makeE0 (E := fun σ cls d H => W cls d σ H) M F hr g1 hmx hbd (fun σ => passAt tk σ) g2) ?_
          rintro σ H Q ⟨ω, β, ρ, U, env, h, Q', X', rs, w, hq, hx⟩
          exact fun xa dx hxa hdx hne => mk_sp rs .nil hxa hdx hne w (fun h' ρ' H' rs' st' rd' q' => hq _ _ _ _ _ rs' st' rd' q') hx
        | cons a r =>
          cases ys with
          | nil => simp [chkEs] at he
          | cons y ys =>
          refine PE.imp (pe_makeE (E := fun σ cls d H => W cls d σ H) M F hr g1 hmx hbd (fun σ => passAt tk σ) pa g2 (star_cons (st y (by simp))) (star_any fun e he => st e (by simp [he]))) ?_
          rintro σ H Q ⟨ω, β, ρ, U, env, h, Q', X', rs, w, hq, hx⟩
          exact ⟨ω, β, ρ, U, env, h, _, X', rs, w, fun vs us h1 ρ1 H1 rs1 g1 rv1 w1 xa dx hxa hdx hne =>
            mk_sp rs1 rv1 hxa hdx hne w1 (fun h' ρ' H' rs' st' rd' q' => hq _ _ _ _ _ rs' (g1.trans st') rd' q') (upX g1 hx), hx⟩
      | _ => simp [chkE] at h
    | _ => simp [chkE] at h
termination_by c => sizeOf c
theorem soundO : ∀ (c : CO2) {X : Cx} {sc : Scope} {W : WX} {e : Option Expr}, CC C Γ nm cs k N X → X.env.scope = sc → Takes X W → chkO N nm (cnam cs) c sc e = true → PO X e (tO C X.K W Γ (cval cs) c)
  | .no, X, sc, W, e, cc, hs, tk, h => by
    cases e with
    | some _ => simp [chkO] at h
    | none => exact PO.imp po_none fun σ H Q ⟨ω, β, ρ, U, env, h, Q', X', rs, w, hq, hx⟩ => hq _ _ _ _ _ rs .refl rfl w
  | .so a, X, sc, W, e, cc, hs, tk, h => by
    cases e with
    | none => simp [chkO] at h
    | some x =>
      have pa := soundE a cc hs tk (by simpa [chkO] using h)
      refine PO.imp (po_some pa) fun σ H Q ⟨ω, β, ρ, U, env, h, Q', X', rs, w, hq, hx⟩ => ?_
      exact ⟨ω, β, ρ, U, env, h, _, X', rs, w, fun d v h1 ρ1 H1 rs1 g1 rv1 w1 => by
        obtain ⟨i, rfl, w1⟩ := w1
        cases rv1
        exact ⟨i, rfl, hq _ _ _ _ _ rs1 g1 rfl w1⟩, hx⟩
termination_by c => sizeOf c
theorem soundEs : ∀ (c : CEs) {X : Cx} {sc : Scope} {W : WX} {es : List Expr}, CC C Γ nm cs k N X → X.env.scope = sc → Takes X W → chkEs N nm (cnam cs) c sc es = true → PA X es (tEs C X.K W Γ (cval cs) c)
  | .nil, X, sc, W, es, cc, hs, tk, h => by
    cases es with
    | cons _ _ => simp [chkEs] at h
    | nil => exact PA.imp pa_nil fun σ H Q ⟨ω, β, ρ, U, env, h, Q', X', rs, w, hq, hx⟩ => hq _ _ _ _ _ rs .refl .nil w
  | .cons a r, X, sc, W, es, cc, hs, tk, h => by
    cases es with
    | nil => simp [chkEs] at h
    | cons x xs =>
      have h' := h
      simp only [chkEs, Bool.and_eq_true] at h'
      have pa := soundE a cc hs tk h'.1
      have pr := soundEs r cc hs tk h'.2
      refine PA.imp (pa_cons pa pr (star_cons (plainE h'.1).star)) fun σ H Q ⟨ω, β, ρ, U, env, h, Q', X', rs, w, hq, hx⟩ => ?_
      exact ⟨ω, β, ρ, U, env, h, _, X', rs, w, fun d v h1 ρ1 H1 rs1 g1 rv1 w1 => ⟨ω, β, ρ1, U, env, h1, _, X', rs1, w1, fun e u h2 ρ2 H2 rs2 g2 rv2 w2 =>
        hq _ _ _ _ _ rs2 (g1.trans g2) (.cons (rv1.step g2) rv2) w2, upX g1 hx⟩, hx⟩
termination_by c => sizeOf c
theorem soundT : ∀ (c : CT) {X : Cx} {sc : Scope} {W : WX} {e : Expr}, CC C Γ nm cs k N X → X.env.scope = sc → Takes X W → chkT N nm (cnam cs) c sc e = true →
    PT X e (tT C X.K W Γ (cval cs) c) ∧ ((∀ a, c ≠ .e a) → (∀ a, c ≠ .notT a) → PW X e (tT C X.K W Γ (cval cs) c))
  | .e a, X, sc, W, e, cc, hs, tk, h => by
    simp only [chkT, Bool.and_eq_true] at h
    have pa := soundE a cc hs tk h.2
    refine ⟨?_, fun z => absurd rfl (z a)⟩
    by_cases h1 : ∃ o x y, a = .cmp o x y
    · obtain ⟨o, x, y, rfl⟩ := h1
      have h2 := h.2
      cases e with
      | Compare ex ops ys p =>
        match ops, ys, h2 with
        | [op], [ey], h2 =>
          simp only [chkE, Bool.and_eq_true, decide_eq_true_eq, Bool.not_eq_true'] at h2
          obtain ⟨⟨⟨rfl, hm⟩, ha⟩, hb⟩ := h2
          have p1 := soundE x cc hs tk ha
          have p2 := soundE y cc hs tk hb
          refine PT.imp (pt_cmpR (op_cmp cc.room o) p1 p2 hm) fun σ H Q ⟨ω, β, ρ, U, env, h, Q', X', rs, w, hq, hx⟩ => ?_
          exact ⟨ω, β, ρ, U, env, h, _, X', rs, w, fun d v h1 ρ1 H1 rs1 g1 rv1 w1 => ⟨ω, β, ρ1, U, env, h1, _, X', rs1, w1, fun e u h2 ρ2 H2 rs2 g2 rv2 w2 =>
            cmp_ok rs2.hr (rv1.step g2) rv2 (cmpW_bl w2) (fun z zv H3 hr3 st3 rd3 ⟨b', ez, b, eb, w3⟩ => by
              subst ez
              cases rd3
              cases eb
              exact ⟨_, rfl, hq _ _ _ _ _ (rs2.step hr3 st3) ((g1.trans g2).trans st3) rfl w3⟩), upX g1 hx⟩, hx⟩
        | [], _, h2 => simp [chkE] at h2
        | _ :: _ :: _, _, h2 => simp [chkE] at h2
        | [_], [], h2 => simp [chkE] at h2
        | [_], _ :: _ :: _, h2 => simp [chkE] at h2
      | _ => simp [chkE] at h2
    · by_cases h1' : ∃ o o' x y z, a = .chain o o' x y z
      · obtain ⟨o, o', x, y, z, rfl⟩ := h1'
        have h2 := h.2
        cases e with
        | Compare ex ops ys p =>
          match ops, ys, h2 with
          | [op, op'], [ey, ez], h2 =>
            simp only [chkE, Bool.and_eq_true, decide_eq_true_eq, Bool.not_eq_true'] at h2
            obtain ⟨⟨⟨⟨⟨rfl, rfl⟩, hm⟩, ha⟩, hb⟩, hc⟩ := h2
            have p1 := soundE x cc hs tk ha
            have p2 := soundE y cc hs tk hb
            have p3 := soundE z cc hs tk hc
            refine PT.imp (pt_chain (op_cmp cc.room o) (op_cmp cc.room o') p1 p2 p3 hm) fun σ H Q ⟨ω, β, ρ, U, env, h, Q', X', rs, w, hq, hx⟩ => ?_
            exact ⟨ω, β, ρ, U, env, h, _, X', rs, w, fun d v h1 ρ1 H1 rs1 g1 rv1 w1 => ⟨ω, β, ρ1, U, env, h1, _, X', rs1, w1, fun e u h2 ρ2 H2 rs2 g2 rv2 w2 =>
              cmp_ok rs2.hr (rv1.step g2) rv2 w2 (fun zd zv H3 hr3 st3 rd3 w3 => by
                obtain ⟨kk, rfl, w3⟩ := w3
                cases rd3
                refine ⟨kk, rfl, ?_⟩
                have rs3 := rs2.step hr3 st3
                by_cases hk : kk = true
                · rw [if_pos hk] at w3 ⊢
                  exact ⟨ω, β, ρ2, U, env, h2, _, X', rs3, w3, fun f t h4 ρ4 H4 rs4 g4 rv4 w4 => cmp_ok rs4.hr ((rv2.step st3).step g4) rv4 (cmpW_bl w4) (fun z zv H5 hr5 st5 rd5 ⟨b', ez, b, eb, w5⟩ => by
                    subst ez
                    cases rd5
                    cases eb
                    exact ⟨_, rfl, hq _ _ _ _ _ (rs4.step hr5 st5) ((((g1.trans g2).trans st3).trans g4).trans st5) rfl w5⟩), upX ((g1.trans g2).trans st3) hx⟩
                · rw [if_neg hk] at w3 ⊢
                  obtain ⟨b, eb, w3⟩ := w3
                  cases eb
                  exact ⟨_, rfl, hq _ _ _ _ _ rs3 ((g1.trans g2).trans st3) rfl w3⟩), upX g1 hx⟩, hx⟩
          | [], _, h2 => simp [chkE] at h2
          | [_], _, h2 => simp [chkE] at h2
          | _ :: _ :: _ :: _, _, h2 => simp [chkE] at h2
          | [_, _], [], h2 => simp [chkE] at h2
          | [_, _], [_], h2 => simp [chkE] at h2
          | [_, _], _ :: _ :: _ :: _, h2 => simp [chkE] at h2
        | _ => simp [chkE] at h2
      · refine PT.imp (pt_truth pa (plainTest h.2 h.1 (fun o x y z => h1 ⟨o, x, y, z⟩) fun o o' x y z q => h1' ⟨o, o', x, y, z, q⟩)) fun σ H Q ⟨ω, β, ρ, U, env, h, Q', X', rs, w, hq, hx⟩ => ?_
        exact ⟨ω, β, ρ, U, env, h, _, X', rs, w, fun d v h1 ρ1 H1 rs1 g1 rv1 w1 => by
          obtain ⟨b, eb, w1⟩ := w1
          exact ⟨b, tru_rel rs1.hr rv1 eb, hq _ _ _ _ _ rs1 g1 rfl w1⟩, hx⟩
  | .andT a b, X, sc, W, e, cc, hs, tk, h => by
    suffices hw : PW X e (tT C X.K W Γ (cval cs) (.andT a b)) from ⟨hw.pt, fun _ _ => hw⟩
    have fin : ∀ σ H Q, tT C X.K W Γ (cval cs) (.andT a b) σ H Q → tAnd (tT C X.K W Γ (cval cs) a) (tT C X.K W Γ (cval cs) b) σ H Q := fun σ H Q ⟨ω, β, ρ, U, env, h, Q', X', rs, w, hq, hx⟩ =>
      ⟨ω, β, ρ, U, env, h, _, X', rs, w, fun d v h1 ρ1 H1 rs1 g1 ev w1 => by
        subst ev
        by_cases hk : d = true
        · rw [if_pos hk] at w1 ⊢
          exact ⟨ω, β, ρ1, U, env, h1, Q', X', rs1, w1, fun e u h2 ρ2 H2 rs2 g2 rv2 w2 => hq _ _ _ _ _ rs2 (g1.trans g2) rv2 w2, upX g1 hx⟩
        · rw [if_neg hk] at w1 ⊢
          exact hq _ _ _ _ _ rs1 g1 rfl w1, hx⟩
    cases e with
    | BoolOp op xs p =>
      cases op with
      | Or => simp [chkT] at h
      | And =>
      match xs, h with
      | [x, y], h =>
        simp only [chkT, Bool.and_eq_true] at h
        exact PW.imp (pw_and (soundT a cc hs tk h.1).1 (pw_and1 (soundT b cc hs tk h.2).1)) fin
      | x :: y :: z :: r, h =>
        simp only [chkT, Bool.and_eq_true] at h
        have qb := (soundT b cc hs tk h.2).2 (fun q e => by
          subst e
          have h2 := h.2
          simp only [chkT, Bool.and_eq_true] at h2
          exact noBool h2.1 h2.2) (fun q e => by
          subst e
          have h2 := h.2
          simp [chkT] at h2)
        exact PW.imp (pw_and (soundT a cc hs tk h.1).1 qb) fin
      | [], h => simp [chkT] at h
      | [_], h => simp [chkT] at h
    | _ => simp [chkT] at h
  | .orT a b, X, sc, W, e, cc, hs, tk, h => by
    suffices hw : PW X e (tT C X.K W Γ (cval cs) (.orT a b)) from ⟨hw.pt, fun _ _ => hw⟩
    have fin : ∀ σ H Q, tT C X.K W Γ (cval cs) (.orT a b) σ H Q → tOr (tT C X.K W Γ (cval cs) a) (tT C X.K W Γ (cval cs) b) σ H Q := fun σ H Q ⟨ω, β, ρ, U, env, h, Q', X', rs, w, hq, hx⟩ =>
      ⟨ω, β, ρ, U, env, h, _, X', rs, w, fun d v h1 ρ1 H1 rs1 g1 ev w1 => by
        subst ev
        by_cases hk : d = true
        · rw [if_pos hk] at w1 ⊢
          exact hq _ _ _ _ _ rs1 g1 rfl w1
        · rw [if_neg hk] at w1 ⊢
          exact ⟨ω, β, ρ1, U, env, h1, Q', X', rs1, w1, fun e u h2 ρ2 H2 rs2 g2 rv2 w2 => hq _ _ _ _ _ rs2 (g1.trans g2) rv2 w2, upX g1 hx⟩, hx⟩
    cases e with
    | BoolOp op xs p =>
      cases op with
      | And => simp [chkT] at h
      | Or =>
      match xs, h with
      | [x, y], h =>
        simp only [chkT, Bool.and_eq_true] at h
        exact PW.imp (pw_or (soundT a cc hs tk h.1).1 (pw_or1 (soundT b cc hs tk h.2).1)) fin
      | x :: y :: z :: r, h =>
        simp only [chkT, Bool.and_eq_true] at h
        have qb := (soundT b cc hs tk h.2).2 (fun q e => by
          subst e
          have h2 := h.2
          simp only [chkT, Bool.and_eq_true] at h2
          exact noBool h2.1 h2.2) (fun q e => by
          subst e
          have h2 := h.2
          simp [chkT] at h2)
        exact PW.imp (pw_or (soundT a cc hs tk h.1).1 qb) fin
      | [], h => simp [chkT] at h
      | [_], h => simp [chkT] at h
    | _ => simp [chkT] at h
  | .notT a, X, sc, W, e, cc, hs, tk, h => by
    refine ⟨?_, fun _ z => absurd rfl (z a)⟩
    cases e with
    | UnaryOp op x p =>
      cases op with
      | Not =>
        have pa := (soundT a cc hs tk (by simpa [chkT] using h)).1
        exact PT.imp (pt_not pa) fun σ H Q ⟨ω, β, ρ, U, env, h, Q', X', rs, w, hq, hx⟩ =>
          ⟨ω, β, ρ, U, env, h, _, X', rs, w, fun d v h1 ρ1 H1 rs1 g1 ev w1 => by subst ev; exact hq _ _ _ _ _ rs1 g1 rfl w1, hx⟩
      | _ => simp [chkT] at h
    | _ => simp [chkT] at h
termination_by c => sizeOf c
theorem soundTs : ∀ (c : CTs) {X : Cx} {sc : Scope} {W : WX} {es : List Expr}, CC C Γ nm cs k N X → X.env.scope = sc → Takes X W → chkTs N nm (cnam cs) c sc es = true → PTs X es (tTs C X.K W Γ (cval cs) c)
  | .nil, X, sc, W, es, cc, hs, tk, h => by
    cases es with
    | cons _ _ => simp [chkTs] at h
    | nil => exact PTs.imp pts_nil fun σ H Q ⟨ω, β, ρ, U, env, h, Q', X', rs, w, hq, hx⟩ => hq _ _ _ _ _ rs .refl rfl w
  | .cons a .nil, X, sc, W, es, cc, hs, tk, h => by
    match es, h with
    | [x], h =>
      have pa := (soundT a cc hs tk (by simpa [chkTs] using h)).1
      exact PTs.imp (pts_one pa) fun σ H Q ⟨ω, β, ρ, U, env, h, Q', X', rs, w, hq, hx⟩ =>
        ⟨ω, β, ρ, U, env, h, _, X', rs, w, fun d v h1 ρ1 H1 rs1 g1 ev w1 => by
          subst ev
          cases d with
          | true => rw [if_pos rfl] at w1; exact hq _ _ _ _ _ rs1 g1 rfl w1
          | false => rw [if_neg (by decide)] at w1; exact hq _ _ _ _ _ rs1 g1 rfl w1, hx⟩
    | [], h => simp [chkTs] at h
    | _ :: _ :: _, h => simp [chkTs] at h
  | .cons _ (.cons _ _), X, sc, W, es, cc, hs, tk, h => by simp [chkTs] at h
termination_by c => sizeOf c
theorem soundL : ∀ (c : LE) {X : Cx} {sc : Scope} {W : WX} {e : Expr}, CC C Γ nm cs k N X → X.env.scope = sc → Takes X W → chkL N nm (cnam cs) c sc e = true → PE X e (tL C X.K W Γ (cval cs) c)
  | .lc it g ifs el, X, sc, W, e, cc, hs, tk, h => by
    cases e with
    | ListComp elt gs scope p =>
      match gs, h with
      | [⟨tg, iter, fs, na⟩], h =>
        simp only [chkL, Bool.and_eq_true, decide_eq_true_eq] at h
        obtain ⟨⟨⟨⟨⟨⟨rfl, hi⟩, hg⟩, hb⟩, ho⟩, ht⟩, he⟩ := h
        have pi := soundI it (cp := true) cc hs tk hi
        have ok := blkOk_by hb
        rw [← hs, ← cc.hN] at ok
        have esc : ∀ (s : Shared) (H : Hp) (Cd : Addr) (cl : List (Str × Addr)) (fp : List Addr), (X.blk s H scope (compEnvC scope cl Cd X.env) fp).env.scope = relS scope sc := fun s H Cd cl fp => by rw [← hs]; rfl
        exact PE.imp (pe_lc cc.calm cc.nd pi ok (fun s H Cd cl fp => soundG (cc.blk s H scope Cd cl fp).hN (cc.blk s H scope Cd cl fp).nd (hT_blk s H scope Cd cl fp) cc.calm hg)
          (fun s H Cd cl fp => soundTs ifs (cc.blk s H scope Cd cl fp) (esc s H Cd cl fp) takes0 ht) (fun s H Cd cl fp => soundE el (cc.blk s H scope Cd cl fp) (esc s H Cd cl fp) takes0 he) (folded (plainI hi).set)) fun σ H Q q =>
            lc_ok cc.calm cc.nd pi ok ho (fun s H Cd cl fp => soundG (cc.blk s H scope Cd cl fp).hN (cc.blk s H scope Cd cl fp).nd (hT_blk s H scope Cd cl fp) cc.calm hg)
              (fun s H Cd cl fp => soundTs ifs (cc.blk s H scope Cd cl fp) (esc s H Cd cl fp) takes0 ht) (fun s H Cd cl fp => soundE el (cc.blk s H scope Cd cl fp) (esc s H Cd cl fp) takes0 he) (pos := p) q
      | [], h => simp [chkL] at h
      | _ :: _ :: _, h => simp [chkL] at h
    | _ => simp [chkL] at h
  | .dsp es, X, sc, W, e, cc, hs, tk, h => by
    cases e with
    | List xs p =>
      have pa := soundEs es cc hs tk (es := xs) (by simpa [chkL] using h)
      refine PE.imp (pe_lst pa) fun σ H Q ⟨ω, β, ρ, U, env, h, Q', X', rs, w, hq, hx⟩ => ?_
      exact ⟨ω, β, ρ, U, env, h, _, X', rs, w, fun d v h1 ρ1 H1 rs1 g1 rv1 w1 => by
        obtain ⟨ds, rfl, hl, w1⟩ := w1
        have r := map_d rv1
        exact ⟨by rw [← r.length]; exact hl, hq _ _ _ _ _ rs1 g1 r w1⟩, hx⟩
    | _ => simp [chkL] at h
  | .sortK f a, X, sc, W, e, cc, hs, tk, h => by
    cases e with
    | Call fn ys kw p =>
      cases fn with
      | Name x pn =>
        match ys, kw, h with
        | [y], [⟨ka, kv, kp⟩], h =>
          cases ka with
          | none => simp [chkL] at h
          | some kn =>
            cases kv with
            | Name z pz =>
                simp only [chkL, Bool.and_eq_true, decide_eq_true_eq] at h
                obtain ⟨⟨⟨⟨⟨hg, rfl⟩, rfl⟩, hg2⟩, hf⟩, ha⟩ := h
                obtain ⟨g1, g2⟩ := glB_ok hs hg
                obtain ⟨g3, g4⟩ := glB_ok hs hg2
                cases en : nm f with
                | none => rw [en] at hf; cases hf
                | some z' =>
                  rw [en] at hf
                  have ez : z' = z := of_decide_eq_true hf
                  subst ez
                  obtain ⟨kk, fa, fd, ps, hm, hb, F, hr⟩ := cc.srt f z' en
                  have pa := soundE a cc hs tk ha
                  have s1 := star_cons (es := []) (env := X.env) (plainE ha).star
                  refine PE.imp (pe_callBK (ks := [Str.ofString "key"]) (cr_sortK F hb hr) g1 (cc.blt _ (by decide +kernel)) (by decide +kernel) (pa_cons pa pa_nil s1) (pk_cons (pe_glob (v := .ref fa) g3 hm rfl g4) pk_nil) (by decide +kernel) g2 (by rw [s1]; rfl) (by rw [s1]; rfl)) fun σ H Q ⟨ω, β, ρ, U, env, h, Q', X', rs, w, hq, hx⟩ => ?_
                  exact ⟨ω, β, ρ, U, env, h, _, X', rs, w, fun d v h1 ρ1 H1 rs1 g1 rv1 w1 => by
                    obtain ⟨xs, ex, w1⟩ := w1
                    obtain ⟨a, vs, rfl, s, r⟩ := rv1.list rs1.hr ex
                    refine ⟨a, vs, rfl, rfl, s, ?_⟩
                    refine keys_ok rs1 r .nil w1 fun ks kv h2 ρ2 H2 rs2 g2 rk w2 => ?_
                    obtain ⟨hk, hl, w2⟩ := w2
                    refine ⟨ks.map D.py, rds_dp rk fun k hk' => (hk.1 k hk').1, fun d hd d' hd' => ?_, .inl fun d hd => ?_, fun d hd => ?_, by rw [List.length_map, hl, r.length], ?_⟩
                    · obtain ⟨k, hk1, rfl⟩ := List.mem_map.mp hd
                      obtain ⟨k', hk2, rfl⟩ := List.mem_map.mp hd'
                      exact (D.py_alike _ _ (hk.2 k hk1 k' hk2)).1
                    · obtain ⟨k, hk1, rfl⟩ := List.mem_map.mp hd
                      obtain ⟨_, y, r, rfl⟩ := hk.1 k hk1
                      exact ⟨y.py, D.pys r, rfl⟩
                    · obtain ⟨k, hk1, rfl⟩ := List.mem_map.mp hd
                      exact (D.fla_lay k 60 (hk.1 k hk1).1).2
                    · exact hq _ _ _ _ _ rs2 (g1.trans g2) (sort_rel (r.grow g2.gr) hl hk) w2, hx⟩
            | _ => simp [chkL] at h
        | [], _, h => simp [chkL] at h
        | _ :: _ :: _, _, h => simp [chkL] at h
        | [_], [], h => simp [chkL] at h
        | [_], _ :: _ :: _, h => simp [chkL] at h
      | _ => simp [chkL] at h
    | _ => simp [chkL] at h
  | .srt a, X, sc, W, e, cc, hs, tk, h => by
    cases e with
    | Call fn ys kw p =>
      cases fn with
      | Name x pn =>
        match ys, kw, h with
        | [y], [], h =>
          simp only [chkL, Bool.and_eq_true, decide_eq_true_eq] at h
          obtain ⟨⟨hg, rfl⟩, hl⟩ := h
          obtain ⟨g1, g2⟩ := glB_ok hs hg
          have pl := soundE a cc hs tk hl
          have s1 := star_cons (es := []) (env := X.env) (plainE hl).star
          refine PE.imp (pe_callB cr_sortedI g1 (cc.blt _ (by decide +kernel)) (by decide +kernel) (pa_cons pl pa_nil s1) (by decide +kernel) g2 s1 rfl) fun σ H Q ⟨ω, β, ρ, U, env, h, Q', X', rs, w, hq, hx⟩ => ?_
          exact ⟨ω, β, ρ, U, env, h, _, X', rs, w, fun d v h1 ρ1 H1 rs1 g1 rv1 w1 => by
            obtain ⟨xs, ns, ex, ei, w1⟩ := w1
            obtain ⟨a, vs, rfl, s, r⟩ := rv1.list rs1.hr ex
            have ev := intsOf_eq ei
            subst ev
            have eu := RDs.ints ns r
            subst eu
            exact ⟨a, ns, rfl, s, fun ms p hp hw hf => hq _ _ _ _ _ rs1 g1 (RDs.of_ints ms) (w1 ms hp hw) p hf⟩, hx⟩
        | [], _, h => simp [chkL] at h
        | _ :: _ :: _, _, h => simp [chkL] at h
        | [_], _ :: _, h => simp [chkL] at h
      | _ => simp [chkL] at h
    | _ => simp [chkL] at h
  | .listE a, X, sc, W, e, cc, hs, tk, h => by
    cases e with
    | Call fn ys kw p =>
      cases fn with
      | Name x pn =>
        match ys, kw, h with
        | [y], [], h =>
          simp only [chkL, Bool.and_eq_true, decide_eq_true_eq] at h
          obtain ⟨⟨hg, rfl⟩, hl⟩ := h
          obtain ⟨g1, g2⟩ := glB_ok hs hg
          have pl := soundE a cc hs tk hl
          have s1 := star_cons (es := []) (env := X.env) (plainE hl).star
          refine PE.imp (pe_callTy (call_list_of.or ((call_list_dK cc.calm).or (call_list_dT cc.calm))) g1 (cc.blt _ (by decide +kernel)) (by decide +kernel) (pa_cons pl pa_nil s1) (by decide +kernel) g2 s1 rfl) fun σ H Q ⟨ω, β, ρ, U, env, h, Q', X', rs, w, hq, hx⟩ => ?_
          exact ⟨ω, β, ρ, U, env, h, _, X', rs, w, fun d v h1 ρ1 H1 rs1 g1 rv1 w1 => by
            rcases w1 with ⟨xs, ex, w1⟩ | ⟨o, xs, eo, ek, w1⟩
            · obtain ⟨a, vs, rfl, s, r⟩ := rv1.seq rs1.hr ex
              exact .inl ⟨a, vs, rfl, s, hq _ _ _ _ _ rs1 g1 r w1⟩
            · obtain ⟨a, rfl, q⟩ := keyList_rel rs1.hr rv1 eo ek
              rcases q with ⟨kvs, h1, r⟩ | ⟨kvs, h1, r⟩
              · exact .inr (.inl ⟨a, kvs, rfl, h1, hq _ _ _ _ _ rs1 g1 r w1⟩)
              · exact .inr (.inr ⟨a, kvs, rfl, .inl h1, fun p bs hp hk => hq _ _ _ _ _ rs1 g1 (r _ _ bs hk) w1 p hp⟩), hx⟩
        | [], _, h => simp [chkL] at h
        | _ :: _ :: _, _, h => simp [chkL] at h
        | [_], _ :: _, h => simp [chkL] at h
      | _ => simp [chkL] at h
    | _ => simp [chkL] at h
  | .listRg a, X, sc, W, e, cc, hs, tk, h => by
    cases e with
    | Call fn ys kw p =>
      cases fn with
      | Name x pn =>
        match ys, kw, h with
        | [.Call (.Name r pr) [y] [] p2], [], h =>
          simp only [chkL, Bool.and_eq_true, decide_eq_true_eq] at h
          obtain ⟨⟨⟨⟨hg, rfl⟩, hg2⟩, rfl⟩, hl⟩ := h
          obtain ⟨g1, g2⟩ := glB_ok hs hg
          obtain ⟨g3, g4⟩ := glB_ok hs hg2
          have pl := soundE a cc hs tk hl
          refine PE.imp (pe_listRg cc.calm g1 (cc.blt _ (by decide +kernel)) (prg_1 g3 (cc.blt _ (by decide +kernel)) pl (star_cons (plainE hl).star))) fun σ H Q ⟨ω, β, ρ, U, env, h, Q', X', rs, w, hq, hx⟩ => ?_
          exact ⟨ω, β, ρ, U, env, h, _, X', rs, w, fun d v h1 ρ1 H1 rs1 g1 rv1 w1 => by
            obtain ⟨i, rfl, i0, i1, w1⟩ := w1
            cases rv1
            exact ⟨i, rfl, RgOk.of_le (Int.le_refl 0) i1 (by decide) i0, hq _ _ _ _ _ rs1 g1 (rgV_rel i0) w1⟩, hx⟩
        | [], _, h => simp [chkL] at h
        | _ :: _ :: _, _, h => simp [chkL] at h
        | [y], kw, h =>
          cases kw with
          | cons _ _ => simp [chkL] at h
          | nil =>
            cases y with
            | Call f2 y2 k2 p2 =>
              cases f2 with
              | Name r pr =>
                match y2, k2, h with
                | [z], [], h =>
                  simp only [chkL, Bool.and_eq_true, decide_eq_true_eq] at h
                  obtain ⟨⟨⟨⟨hg, rfl⟩, hg2⟩, rfl⟩, hl⟩ := h
                  obtain ⟨g1, g2⟩ := glB_ok hs hg
                  obtain ⟨g3, g4⟩ := glB_ok hs hg2
                  have pl := soundE a cc hs tk hl
                  refine PE.imp (pe_listRg cc.calm g1 (cc.blt _ (by decide +kernel)) (prg_1 g3 (cc.blt _ (by decide +kernel)) pl (star_cons (plainE hl).star))) fun σ H Q ⟨ω, β, ρ, U, env, h, Q', X', rs, w, hq, hx⟩ => ?_
                  exact ⟨ω, β, ρ, U, env, h, _, X', rs, w, fun d v h1 ρ1 H1 rs1 g1 rv1 w1 => by
                    obtain ⟨i, rfl, i0, i1, w1⟩ := w1
                    cases rv1
                    exact ⟨i, rfl, RgOk.of_le (Int.le_refl 0) i1 (by decide) i0, hq _ _ _ _ _ rs1 g1 (rgV_rel i0) w1⟩, hx⟩
                | [], _, h => simp [chkL] at h
                | _ :: _ :: _, _, h => simp [chkL] at h
                | [_], _ :: _, h => simp [chkL] at h
              | _ => simp [chkL] at h
            | _ => simp [chkL] at h
      | _ => simp [chkL] at h
    | _ => simp [chkL] at h
  | .items _, X, sc, W, e, cc, hs, tk, h => by simp [chkL] at h
  | .listRg2 a b, X, sc, W, e, cc, hs, tk, h => by
    cases e with
    | Call fn ys kw p =>
      cases fn with
      | Name x pn =>
        cases kw with
        | cons _ _ => simp [chkL] at h
        | nil =>
        match ys, h with
        | [], h => simp [chkL] at h
        | _ :: _ :: _, h => simp [chkL] at h
        | [y], h =>
          cases y with
          | Call f2 y2 k2 p2 =>
            cases f2 with
            | Name r pr =>
              match y2, k2, h with
              | [z, u], [], h =>
                simp only [chkL, Bool.and_eq_true, decide_eq_true_eq] at h
                obtain ⟨⟨⟨⟨⟨hg, rfl⟩, hg2⟩, rfl⟩, hl⟩, hl2⟩ := h
                obtain ⟨g1, g2⟩ := glB_ok hs hg
                obtain ⟨g3, g4⟩ := glB_ok hs hg2
                have pa := soundE a cc hs tk hl
                have pb := soundE b cc hs tk hl2
                have s1 := star_cons (es := []) (env := X.env) (plainE hl2).star
                refine PE.imp (pe_listRg cc.calm g1 (cc.blt _ (by decide +kernel)) (prg_2 g3 (cc.blt _ (by decide +kernel)) pa pb (star_cons (plainE hl).star) s1 (by rw [s1]; rfl))) fun σ H Q ⟨ω, β, ρ, U, env, h, Q', X', rs, w, hq, hx⟩ => ?_
                exact ⟨ω, β, ρ, U, env, h, _, X', rs, w, fun d v h1 ρ1 H1 rs1 g1 rv1 w1 => ⟨ω, β, ρ1, U, env, h1, _, X', rs1, w1, fun d2 v2 h2 ρ2 H2 rs2 g2 rv2 w2 => by
                  obtain ⟨i, j, rfl, rfl, ⟨i0, i1, i2, i3⟩, hl, w2⟩ := w2
                  cases rv1
                  cases rv2
                  exact ⟨i, j, rfl, rfl, ⟨i0, i1, i2, i3, hl⟩, hq _ _ _ _ _ rs2 (g1.trans g2) (RDs.rg i (j - i).toNat) w2⟩, upX g1 hx⟩, hx⟩
              | [], _, h => simp [chkL] at h
              | [_], _, h => simp [chkL] at h
              | _ :: _ :: _ :: _, _, h => simp [chkL] at h
              | [_, _], _ :: _, h => simp [chkL] at h
            | _ => simp [chkL] at h
          | _ => simp [chkL] at h
      | _ => simp [chkL] at h
    | _ => simp [chkL] at h
  | .cat a b, X, sc, W, e, cc, hs, tk, h => by
    cases e with
    | BinOp x op y p =>
      cases op with
      | Add =>
        simp only [chkL, Bool.and_eq_true] at h
        have pa := soundL a cc hs tk h.1
        have pb := soundL b cc hs tk h.2
        refine PE.imp (pe_op op_cat pa pb) fun σ H Q ⟨ω, β, ρ, U, env, h, Q', X', rs, w, hq, hx⟩ => ?_
        exact ⟨ω, β, ρ, U, env, h, _, X', rs, w, fun d v h1 ρ1 H1 rs1 g1 rv1 w1 p hp => by
          have l1 := rs1.hr.laid hp (.lst v)
          have np := rs1.hr.fresh hp
          have gg := g1.trans l1.2
          exact ⟨ω, β, ρ1, U, env, h1, _, X', rs1.step l1.1 l1.2, w1, fun e u h2 ρ2 H2 rs2 g2 rv2 w2 p2 hp2 => by
            have eL := (g2.gr.lst p v upd_same np).1
            have l2 := rs2.hr.laid hp2 (.lst u)
            have r1 := ((rv1.grow l1.2.gr).grow g2.gr)
            refine ⟨p, p2, v, u, rfl, rfl, by rw [upd_ne (ne_of_none eL hp2)]; exact eL, upd_same, by rw [← rv1.length, ← rv2.length]; exact w2.1, fun q hq2 => ?_⟩
            exact hq _ _ _ _ _ (rs2.step l2.1 l2.2) ((gg.trans g2).trans l2.2) ((r1.append rv2).grow l2.2.gr) w2.2 q hq2, upX gg hx⟩, hx⟩
      | _ => simp [chkL] at h
    | _ => simp [chkL] at h
  | .catE a b, X, sc, W, e, cc, hs, tk, h => by
    cases e with
    | BinOp x op y p =>
      cases op with
      | Add =>
        simp only [chkL, Bool.and_eq_true] at h
        have pa := soundE a cc hs tk h.1
        have pb := soundE b cc hs tk h.2
        refine PE.imp (pe_op op_catS pa pb) fun σ H Q ⟨ω, β, ρ, U, env, h, Q', X', rs, w, hq, hx⟩ => ?_
        exact ⟨ω, β, ρ, U, env, h, _, X', rs, w, fun d v h1 ρ1 H1 rs1 g1 rv1 w1 => ⟨ω, β, ρ1, U, env, h1, _, X', rs1, w1, fun e u h2 ρ2 H2 rs2 g2 rv2 w2 => by
          obtain ⟨xs, ys, ex, ey, hl, w2⟩ := w2
          obtain ⟨a, vs, rfl, s, r⟩ := (rv1.step g2).list rs2.hr ex
          obtain ⟨b, us, rfl, s2, r2⟩ := rv2.list rs2.hr ey
          exact ⟨a, b, vs, us, rfl, rfl, s, s2, by rw [← r.length, ← r2.length]; exact hl, hq _ _ _ _ _ rs2 (g1.trans g2) (r.append r2) w2⟩, upX g1 hx⟩, hx⟩
      | _ => simp [chkL] at h
    | _ => simp [chkL] at h
  | .rep a b, X, sc, W, e, cc, hs, tk, h => by
    cases e with
    | BinOp x op y p =>
      cases op with
      | Mult =>
        simp only [chkL, Bool.and_eq_true] at h
        have pa := soundL a cc hs tk h.1
        have pb := soundE b cc hs tk h.2
        refine PE.imp (pe_op op_rep pa pb) fun σ H Q ⟨ω, β, ρ, U, env, h, Q', X', rs, w, hq, hx⟩ => ?_
        exact ⟨ω, β, ρ, U, env, h, _, X', rs, w, fun d v h1 ρ1 H1 rs1 g1 rv1 w1 p hp => by
          have l1 := rs1.hr.laid hp (.lst v)
          have np := rs1.hr.fresh hp
          have gg := g1.trans l1.2
          exact ⟨ω, β, ρ1, U, env, h1, _, X', rs1.step l1.1 l1.2, w1, fun e u h2 ρ2 H2 rs2 g2 rv2 w2 => by
            obtain ⟨kk, rfl, k1, k2, kl, w2⟩ := w2
            cases rv2
            have eL := (g2.gr.lst p v upd_same np).1
            have r1 := ((rv1.grow l1.2.gr).grow g2.gr)
            refine ⟨p, kk, v, rfl, rfl, eL, k1, k2, by rw [← rv1.length]; exact kl, fun q hq2 => ?_⟩
            exact hq _ _ _ _ _ rs2 (gg.trans g2) (r1.rep kk.toNat) w2 q hq2, upX gg hx⟩, hx⟩
      | _ => simp [chkL] at h
    | _ => simp [chkL] at h
  | .slcL a lo hi, X, sc, W, e, cc, hs, tk, h => by
    cases e with
    | Subscript x y p =>
      cases y with
      | Slice l u s q =>
        cases s with
        | some _ => simp [chkL] at h
        | none =>
        simp only [chkL, Bool.and_eq_true] at h
        obtain ⟨⟨ha, hl⟩, hu⟩ := h
        have pa := soundE a cc hs tk ha
        have pl := soundO lo cc hs tk hl
        have pu := soundO hi cc hs tk hu
        refine PE.imp (pe_slice sl_list pa pl pu) fun σ H Q ⟨ω, β, ρ, U, env, h, Q', X', rs, w, hq, hx⟩ => ?_
        exact ⟨ω, β, ρ, U, env, h, _, X', rs, w, fun d v h1 ρ1 H1 rs1 g1 rv1 w1 => ⟨ω, β, ρ1, U, env, h1, _, X', rs1, w1, fun i i' h2 ρ2 H2 rs2 g2 ei w2 =>
          ⟨ω, β, ρ2, U, env, h2, _, X', rs2, w2, fun j j' h3 ρ3 H3 rs3 g3 ej w3 => by
            subst ei; subst ej
            obtain ⟨xs, ex, w3⟩ := w3
            obtain ⟨a, vs, rfl, s, r⟩ := ((rv1.step g2).step g3).list rs3.hr ex
            exact ⟨a, vs, rfl, s, hq _ _ _ _ _ rs3 ((g1.trans g2).trans g3) (cutD_rel r i j) w3⟩, upX (g1.trans g2) hx⟩, upX g1 hx⟩, hx⟩
      | _ => simp [chkL] at h
    | _ => simp [chkL] at h
termination_by c => sizeOf c
theorem soundI : ∀ (c : CI) {cp : Bool} {X : Cx} {sc : Scope} {W : WX} {e tg : Expr}, CC C Γ nm cs k N X → X.env.scope = sc → Takes X W → chkI N nm (cnam cs) c sc tg e = true → PI X tg e (tI C X.K W Γ (cval cs) c cp)
  | .val a, cp, X, sc, W, e, tg, cc, hs, tk, h => by
    have pa := soundE a cc hs tk (by simpa [chkI] using h)
    refine PI.imp (walk_val pa) fun σ H R ⟨ω, β, ρ, U, env, h, Q', X', rs, w, hq, hx⟩ => ?_
    exact ⟨ω, β, ρ, U, env, h, _, X', rs, w, fun d v h1 ρ1 H1 rs1 g1 rv1 w1 => by
      obtain ⟨nc, xs, ex, w1⟩ := w1
      obtain ⟨a, rfl, q⟩ := Wlk.val (cp := cp) rs1.hr rv1 nc ex
      rcases q with ⟨q1, q2⟩ | ⟨q1, q2⟩
      · exact ⟨a, rfl, .inl ⟨q1, hq _ _ _ _ _ _ rs1 g1 q2 w1⟩⟩
      · exact ⟨a, rfl, .inr ⟨q1, hq _ _ _ _ _ _ rs1 g1 q2 w1⟩⟩, hx⟩
  | .rg1 a, cp, X, sc, W, e, tg, cc, hs, tk, h => by
    cases e with
    | Call fn ys kw p =>
      cases fn with
      | Name x pn =>
        match ys, kw, h with
        | [y], [], h =>
          simp only [chkI, Bool.and_eq_true, decide_eq_true_eq] at h
          obtain ⟨⟨hgl, rfl⟩, hl⟩ := h
          obtain ⟨g1, g2⟩ := glB_ok hs hgl
          have pl := soundE a cc hs tk hl
          have s1 := star_cons (es := []) (env := X.env) (plainE hl).star
          refine PI.imp (pi_range1 g1 (cc.blt _ (by decide +kernel)) (pa_cons pl pa_nil s1) s1) fun σ H R ⟨ω, β, ρ, U, env, h, Q', X', rs, w, hq, hx⟩ => ?_
          exact ⟨ω, β, ρ, U, env, h, _, X', rs, w, fun d v h1 ρ1 H1 rs1 g1 rv1 w1 => by
            obtain ⟨i, rfl, i0, i1, w1⟩ := w1
            cases rv1
            exact ⟨i, rfl, i0, i1, hq _ _ _ _ _ _ rs1 g1 Wlk.rg w1⟩, hx⟩
        | [], _, h => simp [chkI] at h
        | _ :: _ :: _, _, h => simp [chkI] at h
        | [_], _ :: _, h => simp [chkI] at h
      | _ => simp [chkI] at h
    | _ => simp [chkI] at h
  | .rg2 a b, cp, X, sc, W, e, tg, cc, hs, tk, h => by
    cases e with
    | Call fn ys kw p =>
      cases fn with
      | Name x pn =>
        match ys, kw, h with
        | [y, z], [], h =>
          simp only [chkI, Bool.and_eq_true, decide_eq_true_eq] at h
          obtain ⟨⟨⟨hgl, rfl⟩, ha⟩, hb⟩ := h
          obtain ⟨g1, g2⟩ := glB_ok hs hgl
          have pa := soundE a cc hs tk ha
          have pb := soundE b cc hs tk hb
          have s1 := star_cons (es := []) (env := X.env) (plainE hb).star
          have s2 := star_cons (es := [z]) (env := X.env) (plainE ha).star
          refine PI.imp (pi_range2 g1 (cc.blt _ (by decide +kernel)) (pa_cons pa (pa_cons pb pa_nil s1) s2) (by rw [s2, s1]; rfl) s1) fun σ H R ⟨ω, β, ρ, U, env, h, Q', X', rs, w, hq, hx⟩ => ?_
          exact ⟨ω, β, ρ, U, env, h, _, X', rs, w, fun d v h1 ρ1 H1 rs1 g1 rv1 w1 => ⟨ω, β, ρ1, U, env, h1, _, X', rs1, w1, fun e u h2 ρ2 H2 rs2 g2 rv2 w2 => by
            obtain ⟨i, j, rfl, rfl, ij, w2⟩ := w2
            cases rv1
            cases rv2
            exact ⟨i, j, rfl, ij, hq _ _ _ _ _ _ rs2 (g1.trans g2) Wlk.rg w2⟩, upX g1 hx⟩, hx⟩
        | [], _, h => simp [chkI] at h
        | [_], _, h => simp [chkI] at h
        | _ :: _ :: _ :: _, _, h => simp [chkI] at h
        | [_, _], _ :: _, h => simp [chkI] at h
      | _ => simp [chkI] at h
    | _ => simp [chkI] at h
  | .enum a, cp, X, sc, W, e, tg, cc, hs, tk, h => by
    cases e with
    | Call fn ys kw p =>
      cases fn with
      | Name x pn =>
        match ys, kw, h with
        | [y], [], h =>
          simp only [chkI, Bool.and_eq_true, decide_eq_true_eq] at h
          obtain ⟨⟨⟨hgl, rfl⟩, ht⟩, hl⟩ := h
          obtain ⟨g1, g2⟩ := glB_ok hs hgl
          have pl := soundE a cc hs tk hl
          have s1 := star_cons (es := []) (env := X.env) (plainE hl).star
          cases tg with
          | Tuple elts kk tpos =>
            refine PI.imp (pi_enum g1 (cc.blt _ (by decide +kernel)) (pa_cons pl pa_nil s1) s1) fun σ H R ⟨ω, β, ρ, U, env, h, Q', X', rs, w, hq, hx⟩ => ?_
            exact ⟨ω, β, ρ, U, env, h, _, X', rs, w, fun d v h1 ρ1 H1 rs1 g1 rv1 w1 => by
              obtain ⟨nc, xs, ex, w1⟩ := w1
              obtain ⟨a, vs, rfl, s, wk⟩ := Wlk.enum (cp := cp) rs1.hr rv1 nc ex
              exact ⟨a, vs, rfl, s, hq _ _ _ _ _ _ rs1 g1 wk w1⟩, hx⟩
          | _ => simp at ht
        | [], _, h => simp [chkI] at h
        | _ :: _ :: _, _, h => simp [chkI] at h
        | [_], _ :: _, h => simp [chkI] at h
      | _ => simp [chkI] at h
    | _ => simp [chkI] at h
  | .zip a b, cp, X, sc, W, e, tg, cc, hs, tk, h => by
    cases e with
    | Call fn ys kw p =>
      cases fn with
      | Name x pn =>
        match ys, kw, h with
        | [y, z], [], h =>
          simp only [chkI, Bool.and_eq_true, decide_eq_true_eq] at h
          obtain ⟨⟨⟨⟨hgl, rfl⟩, ht⟩, ha⟩, hb⟩ := h
          obtain ⟨g1, g2⟩ := glB_ok hs hgl
          have pa := soundE a cc hs tk ha
          have pb := soundE b cc hs tk hb
          have s1 := star_cons (es := []) (env := X.env) (plainE hb).star
          have s2 := star_cons (es := [z]) (env := X.env) (plainE ha).star
          cases tg with
          | Tuple elts kk tpos =>
            refine PI.imp (RZ.pi_zipA g1 (cc.blt _ (by decide +kernel)) (pa_cons pa (pa_cons pb pa_nil s1) s2) s2 (by rw [s1]; rfl)) fun σ H R ⟨ω, β, ρ, U, env, h, Q', X', rs, w, hq, hx⟩ => ?_
            exact ⟨ω, β, ρ, U, env, h, _, X', rs, w, fun d v h1 ρ1 H1 rs1 g1 rv1 w1 => ⟨ω, β, ρ1, U, env, h1, _, X', rs1, w1, fun e u h2 ρ2 H2 rs2 g2 rv2 w2 => by
              obtain ⟨xs, ys, rfl, rfl, w2⟩ := w2
              obtain ⟨a1, b1, vs, us, rfl, rfl, t1, t2, wk⟩ := Wlk.zipT (C := C) (cp := cp) (rv1.grow g2.gr) rv2
              exact ⟨a1, b1, vs, us, rfl, .inr ⟨t1, t2, hq _ _ _ _ _ _ rs2 (g1.trans g2) wk w2⟩⟩, upX g1 hx⟩, hx⟩
          | _ => simp at ht
        | [], _, h => simp [chkI] at h
        | [_], _, h => simp [chkI] at h
        | _ :: _ :: _ :: _, _, h => simp [chkI] at h
        | [_, _], _ :: _, h => simp [chkI] at h
      | _ => simp [chkI] at h
    | _ => simp [chkI] at h
termination_by c => sizeOf c
decreasing_by all_goals (simp_wf <;> omega)
end
end
end G

set_option maxHeartbeats 4000000
/-! Core11: statements: the look, what it says. -/
namespace G
open PySem PySem.Spec PyProof.Rows L2
/-! ### the look -/
/-- is a comprehension -/
def isLC : Expr → Bool
  | .ListComp _ _ _ _ => true
  | .SetComp _ _ _ _ => true
  | .DictComp _ _ _ _ _ => true
  | _ => false
def cellB (sc : Scope) (x : Str) : Bool := match sc.names.lookup x with
  | some .cell => true
  | _ => false
theorem cellB_ok {sc : Scope} {x : Str} (h : cellB sc x = true) : sc.names.lookup x = some .cell := by
  unfold cellB at h
  split at h
  · assumption
  · cases h
/-- an assignment to tg of v is the plain one, or a comprehension's to a local on one line -/
def asgB (sc : Scope) : Expr → Expr → Bool
  | .Name y py, .ListComp _ _ scope pos => cellB sc y || loc1B sc y && (match sc.kind with
      | .function => true
      | _ => false) && (py.line == pos.line) && !(scope.names.any fun (n, k) => n == y && (k == .local || k == .cell))
  | .Name _ _, v => !isLC v
  | .Tuple _ _ _, v => !isLC v && (match v with
      | .Tuple _ _ _ => false
      | _ => true)
  | _, _ => false
section
variable (N : List Str) (nm : NT) (sc : Scope)
def EE.isB : EE → Bool
  | .bl _ => true
  | .isE _ _ => true
  | .notE a => a.isB
  | .andE a b => a.isB && b.isB
  | _ => false
/-- an except suite's expression; n: the exception's slot -/
def chkEE (n : Option Nat) : EE → Expr → Bool
  | .bl b, e => (match e with
    | .Constant (.bool c) _ _ => b == c
    | _ => false)
  | .non, e => (match e with
    | .Constant .none _ _ => true
    | _ => false)
  | .str z, e => (match e with
    | .Constant (.str y) _ _ => decide (z = y)
    | _ => false)
  | .isE l x, e => (match e with
    | .Call (.Name f _) [.Name y _, .Name z _] [] _ => glB sc f && decide (f = ("isinstance" : Str)) && (match n with
      | some i => nameAt N i y && visB sc y
      | none => false) && glB sc z && decide (z = x) && decide (xlAt nm.xl x = some l)
    | _ => false)
  | .notE a, e => (match e with
    | .UnaryOp .Not v _ => a.isB && chkEE n a v
    | _ => false)
  | .andE a b, e => (match e with
    | .BoolOp .And [v, w] _ => a.isB && b.isB && chkEE n a v && chkEE n b w
    | .BoolOp .And (v :: w :: u :: r) p => a.isB && b.isB && chkEE n a v && chkEE n b (.BoolOp .And (w :: u :: r) p)
    | _ => false)
def chkEH (n : Option Nat) : EH → List Stmt → Bool
  | .asg i e, sts => (match sts with
    | [.Assign [.Name y _] v _] => nameAt N i y && locB sc y && decide (n ≠ some i) && chkEE N nm sc n e v
    | _ => false)
  | .ret e, sts => (match sts with
    | [.Return (some v) _] => chkEE N nm sc n e v
    | _ => false)
def chkXN : Option Nat → Option Str → Bool
  | none, none => true
  | some i, some z => nameAt N i z && loc1B sc z
  | _, _ => false
end
section
variable (N : List Str) (nm : NT) (cn : Nat → Option Str) (sc : Scope)
mutual
def chkS : CS → Stmt → Bool
  | .asg g e, st => (match st with
    | .Assign [tg] v _ => chkG N sc g tg && chkE N nm cn e sc v && asgB sc tg v
    | _ => false)
  | .asgO i l, st => (match st with
    | .Assign [tg] v _ => chkG N sc (.nm i) tg && chkL N nm cn l sc v && asgB sc tg v
    | _ => false)
  | .asgD i, st => (match st with
    | .Assign [tg] (.Dict [] [] _) _ => chkG N sc (.nm i) tg
    | _ => false)
  | .asgC i f es, st => (match st with
    | .Assign [tg] (.Call (.Name x _) (y :: ys) [] _) _ => chkG N sc (.nm i) tg && glB sc x && (match nm f with
      | some z => decide (z = x)
      | none => false) && chkEs N nm cn es sc (y :: ys)
    | _ => false)
  | .aug i o e, st => (match st with
    | .AugAssign (.Name x _) op v _ => nameAt N i x && locB sc x && decide (op = o.op) && chkE N nm cn e sc v && (match o with
      | .add => true
      | .sub => true
      | .mul => true
      | _ => false)
    | _ => false)
  | .setix i k e, st => (match st with
    | .Assign [.Subscript (.Name x _) y _] v _ => nameAt N i x && visB sc x && chkE N nm cn k sc y && chkE N nm cn e sc v && !isLC v
    | _ => false)
  | .app i e, st => (match st with
    | .Expr (.Call (.Attribute (.Name x _) m a) [v] [] c) _ => nameAt N i x && visB sc x && decide (m = ("append" : Str)) && bmB a c && chkE N nm cn e sc v
    | _ => false)
  | .ext i l, st => (match st with
    | .Expr (.Call (.Attribute (.Name x _) m a) [v] [] c) _ => nameAt N i x && visB sc x && decide (m = ("extend" : Str)) && bmB a c && chkL N nm cn l sc v
    | _ => false)
  | .extV i j, st => (match st with
    | .Expr (.Call (.Attribute (.Name x _) m a) [.Name y _] [] c) _ => nameAt N i x && visB sc x && decide (m = ("extend" : Str)) && bmB a c && nameAt N j y && visB sc y
    | _ => false)
  | .clr i, st => (match st with
    | .Expr (.Call (.Attribute (.Name x _) m a) [] [] c) _ => nameAt N i x && visB sc x && decide (m = ("clear" : Str)) && bmB a c
    | _ => false)
  | .exp e, st => (match st with
    | .Expr v _ => chkE N nm cn e sc v && !isLC v
    | _ => false)
  | .ret e, st => (match st with
    | .Return (some v) _ => chkE N nm cn e sc v
    | _ => false)
  | .retM i, st => (match st with
    | .Return (some (.Name x _)) _ => nameAt N i x && visB sc x
    | _ => false)
  | .retN, st => (match st with
    | .Return none _ => true
    | _ => false)
  | .retL l, st => (match st with
    | .Return (some v) _ => chkL N nm cn l sc v
    | _ => false)
  | .exte i e, st => (match st with
    | .Expr (.Call (.Attribute (.Name x _) m a) [v] [] c) _ => nameAt N i x && visB sc x && decide (m = ("extend" : Str)) && bmB a c && chkE N nm cn e sc v
    | _ => false)
  | .ite t a b, st => (match st with
    | .If c x y _ => chkT N nm cn t sc c && chkSs a x && chkSs b y
    | _ => false)
  | .whl t a, st => (match st with
    | .While c x [] _ => chkT N nm cn t sc c && chkSs a x
    | _ => false)
  | .for g it a, st => (match st with
    | .For tg iter x [] _ => chkG N sc g tg && chkI N nm cn it sc tg iter && chkSs a x
    | _ => false)
  | .asgV i j, st => (match st with
    | .Assign [tg] (.Name y py) _ => chkG N sc (.nm i) tg && nameAt N j y && visB sc y && asgB sc tg (.Name y py)
    | _ => false)
  | .forO g i a, st => (match st with
    | .For tg iter x [] _ => chkG N sc g tg && chkI N nm cn (.val (.var i)) sc tg iter && chkSs a x
    | _ => false)
  | .brk, st => (match st with
    | .Break _ => true
    | _ => false)
  | .cnt, st => (match st with
    | .Continue _ => true
    | _ => false)
  | .pas, st => (match st with
    | .Pass _ => true
    | .Expr (.Constant (.str _) _ _) _ => true
    | _ => false)
  | .frz _, _ => false
  | .asgD1 i k v, st => (match st with
    | .Assign [tg] (.Dict [some x] [y] _) _ => chkG N sc (.nm i) tg && chkE N nm cn k sc x && chkE N nm cn v sc y
    | _ => false)
  | .asg2 _ _ _ _, _ => false
  | .setixE o k e, st => (match st with
    | .Assign [.Subscript ob y _] v _ => chkE N nm cn o sc ob && chkE N nm cn k sc y && chkE N nm cn e sc v && !isLC v
    | _ => false)
  | .setf k o f e, st => (match st with
    | .Assign [.Attribute ob m _] v _ => decide (m = f) && nm.fl.contains f && decide (k ≤ nm.nc) && chkE N nm cn o sc ob && chkE N nm cn e sc v && !isLC v
    | _ => false)
  | .raise c, st => (match st with
    | .Raise (some (.Call (.Name x _) [.Constant (.str _) _ _] [] _)) none _ => glB sc x && decide (nm.xn c = some x)
    | _ => false)
  | .tryX k l x n a s, st => (match st with
    | .Try body [.ExceptHandler (some (.Name y _)) z (s0 :: sr) _] [] [] _ => glB sc y && decide (y = x) && decide (xlAt nm.xl x = some l) && decide (k ≤ nm.nx) && chkXN N sc n z && chkEH N nm sc n s (s0 :: sr) && chkSs a body
    | _ => false)
def chkSs : CSs → List Stmt → Bool
  | .nil, sts => sts.isEmpty
  | .cons a r, sts => (match a with
    | .frz _ => chkSs r sts
    | _ => match sts with
      | st :: rest => chkS a st && chkSs r rest
      | [] => false)
end
end

/-! ### readings -/
structure EndsOk (C : Nat → Addr) (K : PySem.W.Frag) (W : WX) (β : Nat → Option Addr) (ω : List Addr) (H : Hp) (ρ U : List Addr) (R : CEnds) (D : Ends) : Prop where
  nx : ∀ env' h' ρ' U' σ' H', RS C K β ω ρ' U' env' h' σ' H' → SStp ω H ρ U H' ρ' U' → R.nx env' h' → D.nx σ' H'
  bk : ∀ env' h' ρ' U' σ' H', RS C K β ω ρ' U' env' h' σ' H' → SStp ω H ρ U H' ρ' U' → R.bk env' h' → D.bk σ' H'
  ct : ∀ env' h' ρ' U' σ' H', RS C K β ω ρ' U' env' h' σ' H' → SStp ω H ρ U H' ρ' U' → R.ct env' h' → D.ct σ' H'
  rt : ∀ r v h' ρ' U' H', HR C K ω ρ' U' h' H' → SStp ω H ρ U H' ρ' U' → RRel C K ω ρ' U' H' r v → R.rt r h' → D.rt v H'
  ex : ∀ x cls dd env' h' ρ' U' σ' H', RS C K β ω ρ' U' env' h' σ' H' → SStp ω H ρ U H' ρ' U' → RX C K ω ρ' U' H' x cls dd → R.ex x env' h' → W cls dd σ' H'
theorem EndsOk.step {C : Nat → Addr} {K : PySem.W.Frag} {W : WX} {β : Nat → Option Addr} {ω : List Addr} {H H1 : Hp} {ρ U ρ1 U1 : List Addr} {R : CEnds} {D : Ends} (e : EndsOk C K W β ω H ρ U R D) (g : SStp ω H ρ U H1 ρ1 U1) : EndsOk C K W β ω H1 ρ1 U1 R D :=
  ⟨fun _ _ _ _ _ _ rs st q => e.nx _ _ _ _ _ _ rs (g.trans st) q, fun _ _ _ _ _ _ rs st q => e.bk _ _ _ _ _ _ rs (g.trans st) q, fun _ _ _ _ _ _ rs st q => e.ct _ _ _ _ _ _ rs (g.trans st) q,
    fun _ _ _ _ _ _ hr st rr q => e.rt _ _ _ _ _ _ hr (g.trans st) rr q, fun _ _ _ _ _ _ _ _ _ rs st rx q => e.ex _ _ _ _ _ _ _ _ _ rs (g.trans st) rx q⟩
def tSG (C : Nat → Addr) (K : PySem.W.Frag) (W : WX) (w : Ev → AH → CEnds → Prop) : TS := fun D σ H =>
  ∃ (ω : List Addr) (β : Nat → Option Addr) (ρ U : List Addr) (env : Ev) (h : AH) (R : CEnds), RS C K β ω ρ U env h σ H ∧ w env h R ∧ EndsOk C K W β ω H ρ U R D
theorem PS.imp {X : Cx} {e : Stmt} {t t' : TS} (h : PS X e t) (w : ∀ D σ H, t' D σ H → t D σ H) : PS X e t' := ⟨fun pins s σ H D I q => h.run pins s σ H D I (w D σ H q)⟩
theorem PSs.imp {X : Cx} {e : List Stmt} {t t' : TS} (h : PSs X e t) (w : ∀ D σ H, t' D σ H → t D σ H) : PSs X e t' := ⟨fun pins s σ H D I q => h.run pins s σ H D I (w D σ H q)⟩

/-! ### the syntax of assignments -/
theorem swaps_no {v : Expr} {t : Option Expr} {l : Nat} {env : Env} (h : isLC v = false) : swapsWith v t l env = pure false := by
  cases v <;> first | rfl | cases h
theorem sole_no {tg v : Expr} {l : Nat} {env : Env} (h : isLC v = false) : swapsWithSole [tg] v l env = pure false := swaps_no (t := some tg) h
theorem sole_cell {elt : Expr} {gs : List Comprehension} {scope : Scope} {pos py : Pos} {y : Str} {l : Nat} {env : Env} (hy : env.scope.names.lookup y = some .cell) : swapsWithSole [.Name y py] (.ListComp elt gs scope pos) l env = pure false := by
  have ky : env.kindOf y = some .cell := hy
  have e : ((some NameKind.cell : Option NameKind) == some .local) = false := by decide
  have q : swapsWith (.ListComp elt gs scope pos) (some (.Name y py)) l env = pure false := by
    unfold swapsWith
    simp only [ky, e, Bool.and_false, Bool.false_and]
  exact q
theorem stores_no {tg v : Expr} {env : Env} (h : ∀ a b c d e f, tg = .Tuple a b c → v ≠ .Tuple d e f) (h2 : ∀ a b, tg ≠ .List a b) : swappedStores [tg] v env = pure none := by
  cases tg with
  | Tuple a b c => cases v <;> first | rfl | exact absurd rfl (h a b c _ _ _ rfl)
  | List a b => exact absurd rfl (h2 a b)
  | _ => rfl
theorem each_one {tg : Expr} {env : Env} (h : notStar tg = true) : (assignEach [tg] env).map (·.2) = [assign tg env] := by
  cases tg <;> first | rfl | cases h

section
variable {C : Nat → Addr} {K : PySem.W.Frag} {ω ρ U : List Addr} {β : Nat → Option Addr} {env : Ev} {h : AH} {σ : L2.St} {H : Hp}
/-- one's own list is given away: nobody changes it any more -/
theorem RS.freeze (r : RS C K β ω ρ U env h σ H) {i : Nat} {xs : List D} (e : env[i]? = some (some (.own (.lst xs)))) : ∃ U', (∀ a ∈ U', a ∈ U) ∧ RS C K β ω ρ U' (env.set i (some (.val (.fz xs)))) h σ H ∧ SStp ω H ρ U H ρ U' := by
  obtain ⟨v, ev, a, rfl, ha, vs, h1, h2⟩ := r.sl i _ e
  have hi : i < env.length := (List.getElem?_eq_some_iff.mp e).1
  have sub : ∀ b ∈ U.filter (fun b => decide (b ≠ a)), b ∈ U ∧ b ≠ a := fun b hb => by
    have := List.mem_filter.mp hb
    exact ⟨this.1, by simpa using this.2⟩
  have mem : ∀ b ∈ U, b ≠ a → b ∈ U.filter (fun b => decide (b ≠ a)) := fun b hb n => List.mem_filter.mpr ⟨hb, by simpa using n⟩
  have g : Grow H ρ (ms ω ρ U) H ρ (ms ω ρ (U.filter fun b => decide (b ≠ a))) := .same fun b z => by
    rcases z with z | z | z
    · exact .inl z
    · exact .inr (.inl z)
    · exact .inr (.inr (sub b z).1)
  refine ⟨U.filter fun b => decide (b ≠ a), fun b hb => (sub b hb).1, ⟨⟨r.hr.lh, fun n o z => ?_, r.hr.nd, fun b hb => ⟨(r.hr.dj b hb).1, fun z => (r.hr.dj b hb).2 (sub b z).1⟩, fun b hb => r.hr.du b (sub b hb).1, fun b z => r.hr.pr b ?_⟩,
    by simpa using r.len, fun j s z => ?_, fun j k o1 o2 b e1 e2 s1 s2 => ?_, fun j o1 z => ?_⟩, ⟨g, fun _ _ => rfl⟩⟩
  · obtain ⟨b, e1, r1⟩ := r.hr.hp n o z
    exact ⟨b, e1, r1.grow g rfl⟩
  · rcases z with z | z | z
    · exact .inl z
    · exact .inr (.inl z)
    · exact .inr (.inr (sub b z).1)
  · by_cases hj : j = i
    · subst hj
      rw [List.getElem?_set_self hi] at z
      cases z
      refine ⟨_, ev, .fz (.inl ⟨h1, fun z => ?_⟩) (h2.grow g)⟩
      rcases z with z | z | z
      · exact r.hr.du a ha z
      · exact (r.hr.dj a z).2 ha
      · exact (sub a z).2 rfl
    · rw [List.getElem?_set_ne (Ne.symm hj)] at z
      obtain ⟨v, ev', rv⟩ := r.sl j s z
      refine ⟨v, ev', ?_⟩
      cases s with
      | val d => exact RD.grow g rv
      | own o =>
        obtain ⟨b, rfl, hb, rb⟩ := rv
        have nb : b ≠ a := fun q => hj (by subst q; exact r.inj j i _ _ b z e ev' ev)
        exact ⟨b, rfl, mem b hb nb, rb.grow g rfl⟩
      | bor o =>
        obtain ⟨b, rfl, hb, rb⟩ := rv
        exact ⟨b, rfl, hb, rb.grow g rfl⟩
  · have q : ∀ (k : Nat) (o2 : AO), (env.set i (some (.val (.fz xs))))[k]? = some (some (Sl.own o2)) → env[k]? = some (some (Sl.own o2)) := fun k o2 ek => by
      by_cases hk : k = i
      · subst hk
        rw [List.getElem?_set_self hi] at ek
        cases ek
      · rw [List.getElem?_set_ne (Ne.symm hk)] at ek
        exact ek
    exact r.inj j k o1 o2 b (q j o1 e1) (q k o2 e2) s1 s2
  · have n : j ≠ i := fun q => by
      subst q
      rw [List.getElem?_set_self hi] at z
      cases z
    rw [List.getElem?_set_ne (Ne.symm n)] at z
    exact r.bo j o1 z
def frz1 (env : Ev) (i : Nat) : Ev := match env[i]? with
  | some (some (.own (.lst xs))) => env.set i (some (.val (.fz xs)))
  | _ => env
theorem frz1_get {env : Ev} {i j : Nat} : (frz1 env i)[j]? = if j = i then (match env[i]? with
  | some (some (.own (.lst xs))) => some (some (Sl.val (.fz xs)))
  | z => z) else env[j]? := by
  unfold frz1
  by_cases hj : j = i
  · subst hj
    rw [if_pos rfl]
    split
    · rename_i xs e
      rw [List.getElem?_set_self (List.getElem?_eq_some_iff.mp e).1]
    · rename_i n
      cases e : env[j]? with
      | none => rfl
      | some s =>
        cases s with
        | none => rfl
        | some s =>
          cases s with
          | own o => cases o <;> first | rfl | exact absurd e (n _)
          | _ => rfl
  · rw [if_neg hj]
    split
    · rw [List.getElem?_set_ne (Ne.symm hj)]
    · rfl
theorem RS.frzN (r : RS C K β ω ρ U env h σ H) : ∀ n : Nat, ∃ U' env', RS C K β ω ρ U' env' h σ H ∧ SStp ω H ρ U H ρ U' ∧ ∀ j, env'[j]? = if j < n then (match env[j]? with
    | some (some (.own (.lst xs))) => some (some (Sl.val (.fz xs)))
    | z => z) else env[j]?
  | 0 => ⟨U, env, r, .refl, fun j => by rw [if_neg (by omega)]⟩
  | n + 1 => by
    obtain ⟨U', env', r', g', e'⟩ := RS.frzN r n
    have en : env'[n]? = env[n]? := by rw [e', if_neg (by omega)]
    have key : ∃ U'', RS C K β ω ρ U'' (frz1 env' n) h σ H ∧ SStp ω H ρ U' H ρ U'' := by
      unfold frz1
      split
      · rename_i xs e
        obtain ⟨U'', _, r'', g''⟩ := r'.freeze e
        exact ⟨U'', r'', g''⟩
      · exact ⟨U', r', .refl⟩
    obtain ⟨U'', r'', g''⟩ := key
    refine ⟨U'', _, r'', g'.trans g'', fun j => ?_⟩
    rw [frz1_get, en]
    by_cases hj : j = n
    · subst hj
      rw [if_pos rfl, if_pos (by omega)]
    · rw [if_neg hj, e']
      by_cases hlt : j < n
      · rw [if_pos hlt, if_pos (by omega)]
      · rw [if_neg hlt, if_neg (by omega)]
theorem RS.frzAll (r : RS C K β ω ρ U env h σ H) : ∃ U', RS C K β ω ρ U' (frzE env) h σ H ∧ SStp ω H ρ U H ρ U' := by
  obtain ⟨U', env', r', g', e'⟩ := r.frzN env.length
  have : env' = frzE env := by
    apply List.ext_getElem?
    intro j
    rw [e']
    unfold frzE
    rw [List.getElem?_map]
    cases e : env[j]? with
    | none => simp
    | some s =>
      have hj : j < env.length := (List.getElem?_eq_some_iff.mp e).1
      rw [if_pos hj]
      cases s with
      | none => rfl
      | some s =>
        cases s with
        | own o => cases o <;> rfl
        | _ => rfl
  subst this
  exact ⟨U', r', g'⟩
end

/-- a def's call, whose new object is kept -/
theorem pe_callR {C : Nat → Addr} {Γ : GM} {nm : NT} {cs : Nat → Option (Str × D)} {k : Nat} {N : List Str} {X : Cx} {sc : Scope} {W : WX} {f : Nat} {es : CEs} {x : Str} {y : Expr} {ys : List Expr} {pn p : Pos} (cc : CC C Γ nm cs k N X) (hs : X.env.scope = sc) (tk : Takes X W)
    (hg : glB sc x = true) (hf : nm f = some x) (he : chkEs N nm (cnam cs) es sc (y :: ys) = true) : PE X (.Call (.Name x pn) (y :: ys) [] p) (fun σ H Q =>
      ∃ (ω : List Addr) (β : Nat → Option Addr) (ρ U : List Addr) (env : Ev) (h : AH) (Q' : RR → AH → Prop) (X' : EX → AH → Prop), RS C X.K β ω ρ U env h σ H ∧ wpEs Γ (cval cs) es env h (fun vs h1 => Γ f (vs.map toArg) h1 Q' X') X' ∧
        (∀ r v h' ρ' U' H', RS C X.K β ω ρ' U env h' σ H' → Stp ω U H ρ H' ρ' → HR C X.K (ω ++ U) ρ' U' h' H' → Grow H ρ (ms ω ρ U) H' ρ' (ms (ω ++ U) ρ' U') → RRel C X.K (ω ++ U) ρ' U' H' r v → Q' r h' → Q v H') ∧
        (∀ x cls dd h' ρ' H', RS C X.K β ω ρ' U env h' σ H' → Stp ω U H ρ H' ρ' → RX C X.K ω ρ' U H' x cls dd → X' x h' → W cls dd σ H')) := by
  obtain ⟨g1, g2⟩ := glB_ok hs hg
  obtain ⟨fa, fd, ps, hm, hk, hb, F⟩ := cc.fns f x hf
  have pa := soundEs es cc hs tk he
  have st := chkEs_star he
  refine PE.imp (pe_callSD (dvs := []) (ds := []) (E := fun σ cls d H => W cls d σ H) F cc.room g1 hm hk hb .nil (fun σ => passAt tk σ) pa g2 (star_cons (st y (by simp))) (star_any fun e he => st e (by simp [he])))
    fun σ H Q ⟨ω, β, ρ, U, env, h, Q', X', rs, w, hq, hx⟩ => ?_
  exact ⟨ω, β, ρ, U, env, h, _, X', rs, w, fun d v h1 ρ1 H1 rs1 g1 rv1 w1 => by
    show spI C X.K Γ f (v ++ []) H1 Q (fun cls d H => W cls d σ H)
    rw [List.append_nil]
    exact spI_call rs1 rv1 w1 (fun r v h' ρ' U' H' rs' g' hr' gr' rr' q' => hq r v h' ρ' U' H' rs' (g1.trans g') hr' (g1.gr.trans gr') rr' q') (upX g1 hx), hx⟩

/-! ### except suites -/
def dV : D → V
  | .bl b => .bl b
  | .str z => .str z
  | _ => .non
theorem EE.val_rd {K : PySem.W.Frag} {H : Hp} {ρ : List Addr} {m : Addr → Prop} (c : Nat) : ∀ e : EE, RD K H ρ m (e.val c) (dV (e.val c))
  | .bl b => .bl b
  | .non => .non
  | .str z => .str z
  | .isE l x => .bl _
  | .notE a => by
    unfold EE.val
    split
    · exact .bl _
    · exact .non
  | .andE a b => by
    unfold EE.val
    split
    · exact EE.val_rd c b
    · exact .bl _
theorem EE.val_bl (c : Nat) : ∀ e : EE, e.isB = true → ∃ b, e.val c = .bl b
  | .bl b, _ => ⟨b, rfl⟩
  | .non, h => by cases h
  | .str _, h => by cases h
  | .isE l x, _ => ⟨_, rfl⟩
  | .notE a, h => by
    obtain ⟨b, e⟩ := EE.val_bl c a h
    exact ⟨!b, by unfold EE.val; rw [e]⟩
  | .andE a b, h => by
    simp only [EE.isB, Bool.and_eq_true] at h
    obtain ⟨b1, e1⟩ := EE.val_bl c a h.1
    obtain ⟨b2, e2⟩ := EE.val_bl c b h.2
    cases b1 with
    | true => exact ⟨b2, by unfold EE.val; rw [e1]; exact e2⟩
    | false => exact ⟨false, by unfold EE.val; rw [e1]⟩
theorem xl_pe {C : Nat → Addr} {Γ : GM} {nm : NT} {cs : Nat → Option (Str × D)} {k : Nat} {N : List Str} {X Y : Cx} {sc : Scope} {z : Str} {p : Pos} (cc : CC C Γ nm cs k N X) (hs : Y.env.scope = sc) (hmg : Y.mg = X.mg) {l : List Nat} (hg : glB sc z = true) (e : xlAt nm.xl z = some l) :
    ∃ (c : V) (cv : Value), PE Y (.Name z p) (tC c) ∧ (∀ u, RelV c u → u = cv) ∧ Names Y z cv ∧ ∀ c, c < nm.nx → PySem.W.exmOne X.K (.ref (C (c + 1000))) cv = some (l.contains c) ∧ PySem.W.kitOne X.K (.ref (C (c + 1000))) cv = some (l.contains c) := by
  obtain ⟨c, cv, h1, h2, h3, h4⟩ := cc.exl z l e
  obtain ⟨g1, g2⟩ := glB_ok hs hg
  refine ⟨c, cv, ?_, fun u r => h1.eq r, ⟨g1, g2, ?_⟩, h4⟩
  · rcases h3 with h3 | ⟨h3, h5, h6⟩
    · exact pe_glob g1 (by rw [hmg]; exact h3) h2 g2
    · exact pe_bltn g1 (by rw [hmg]; exact h3) h5 h2 h6 g2
  · rw [hmg]; exact h3
/-- an except suite's expression, asked -/
theorem soundEE {C : Nat → Addr} {Γ : GM} {nm : NT} {cs : Nat → Option (Str × D)} {k : Nat} {N : List Str} {X : Cx} {sc : Scope} {n : Option Nat} {c : Nat} {a : Addr} {oe : Obj} {pn : List (Addr × Obj)} (cc : CC C Γ nm cs k N X) (hs : X.env.scope = sc) (hc : c < nm.nx) (hz : Zc (.ref (C (c + 1000))) none oe) (hf : ∃ vs, oe.data = .fields vs) :
    ∀ (e : EE) {v : Expr}, chkEE N nm sc n e v = true → PE (X.suite a ((a, oe) :: pn)) v (fun σ H Q => (∀ i, n = some i → σ[i]? = some (some (V.ref a))) ∧ Q (dV (e.val c)) H)
  | .bl b, v, h => by
    cases v with
    | Constant q _ _ =>
      cases q with
      | bool d =>
        have e : b = d := by simpa [chkEE] using h
        subst e
        exact PE.imp pe_bl fun σ H Q q => q.2
      | _ => simp [chkEE] at h
    | _ => simp [chkEE] at h
  | .non, v, h => by
    cases v with
    | Constant q _ _ =>
      cases q with
      | none => exact PE.imp pe_non fun σ H Q q => q.2
      | _ => simp [chkEE] at h
    | _ => simp [chkEE] at h
  | .str z, v, h => by
    cases v with
    | Constant q _ _ =>
      cases q with
      | str d =>
        have e : z = d := by simpa [chkEE] using h
        subst e
        exact PE.imp pe_str fun σ H Q q => q.2
      | _ => simp [chkEE] at h
    | _ => simp [chkEE] at h
  | .isE l x, v, h => by
    cases v with
    | Call fn xs kw p =>
      cases fn with
      | Name f pf =>
        match xs, kw, h with
        | [y, z], [], h =>
          cases y with
          | Name y py =>
            cases z with
            | Name z pz =>
              simp only [chkEE, Bool.and_eq_true, decide_eq_true_eq] at h
              obtain ⟨⟨⟨⟨⟨h1, rfl⟩, h2⟩, h3⟩, rfl⟩, h5⟩ := h
              obtain ⟨g1, g2⟩ := glB_ok (X := X.suite a ((a, oe) :: pn)) hs h1
              obtain ⟨cv, u, pz', hu, _, hk⟩ := xl_pe (Y := X.suite a ((a, oe) :: pn)) (p := pz) cc hs rfl h3 h5
              cases n with
              | none => simp at h2
              | some i =>
                simp only [Bool.and_eq_true] at h2
                obtain ⟨v1, v2, v3⟩ := visB_ok h2.2
                have py' : PE (X.suite a ((a, oe) :: pn)) (.Name y py) (tVar i) := pe_var (i := i) (by show X.N[i]? = _; rw [cc.hN]; exact nameAt_ok h2.1) (by show Vis X.env.scope y; rw [hs]; exact v1) v2 v3
                refine PE.imp (pe_callB (call_isE (cc.exc c hc) hz hf) g1 (cc.blt _ (by decide +kernel)) (by decide +kernel) (pa_cons py' (pa_cons pz' pa_nil)) (by decide +kernel) g2) fun σ H Q ⟨q1, q2⟩ => ?_
                exact ⟨_, q1 i rfl, cv, u, l.contains c, rfl, hu, (hk c hc).2, q2⟩
            | _ => simp [chkEE] at h
          | _ => cases z <;> simp [chkEE] at h
        | [], _, h => simp [chkEE] at h
        | [_], _, h => simp [chkEE] at h
        | _ :: _ :: _ :: _, _, h => simp [chkEE] at h
        | [y, z], _ :: _, h => cases y <;> cases z <;> simp [chkEE] at h
      | _ => simp [chkEE] at h
    | _ => simp [chkEE] at h
  | .notE b, v, h => by
    cases v with
    | UnaryOp op w p =>
      cases op with
      | Not =>
        simp only [chkEE, Bool.and_eq_true] at h
        have pb := soundEE cc hs hc hz hf b h.2 (a := a) (pn := pn)
        obtain ⟨b1, e1⟩ := EE.val_bl c b h.1
        refine PE.imp (pe_not pb) fun σ H Q ⟨q1, q2⟩ => ⟨q1, b1, by rw [e1]; rfl, ?_⟩
        unfold EE.val at q2
        rw [e1] at q2
        exact q2
      | _ => simp [chkEE] at h
    | _ => simp [chkEE] at h
  | .andE b d, v, h => by
    have fin : b.isB = true → d.isB = true → ∀ (σ : L2.St) (H : Hp) (Q : VK), ((∀ i, n = some i → σ[i]? = some (some (V.ref a))) ∧ Q (dV ((EE.andE b d).val c)) H) →
        tAndV (fun σ H Q => (∀ i, n = some i → σ[i]? = some (some (V.ref a))) ∧ Q (dV (b.val c)) H) (fun σ H Q => (∀ i, n = some i → σ[i]? = some (some (V.ref a))) ∧ Q (dV (d.val c)) H) σ H Q := fun hb hd σ H Q ⟨q1, q2⟩ => by
      obtain ⟨b1, e1⟩ := EE.val_bl c b hb
      refine ⟨q1, b1, by rw [e1]; rfl, ?_⟩
      unfold EE.val at q2
      rw [e1] at q2
      cases b1 with
      | true => exact ⟨q1, q2⟩
      | false => exact q2
    cases v with
    | BoolOp op xs p =>
      cases op with
      | Or => simp [chkEE] at h
      | And =>
      match xs, h with
      | [x, y], h =>
        simp only [chkEE, Bool.and_eq_true] at h
        obtain ⟨⟨⟨h1, h2⟩, h3⟩, h4⟩ := h
        exact PE.imp (pe_and (soundEE cc hs hc hz hf b h3 (a := a) (pn := pn)) (pe_one (soundEE cc hs hc hz hf d h4 (a := a) (pn := pn)))) (fin h1 h2)
      | x :: y :: z :: r, h =>
        simp only [chkEE, Bool.and_eq_true] at h
        obtain ⟨⟨⟨h1, h2⟩, h3⟩, h4⟩ := h
        exact PE.imp (pe_and (soundEE cc hs hc hz hf b h3 (a := a) (pn := pn)) (soundEE cc hs hc hz hf d h4 (a := a) (pn := pn))) (fin h1 h2)
      | [], h => simp [chkEE] at h
      | [_], h => simp [chkEE] at h
    | _ => simp [chkEE] at h
end G

set_option maxHeartbeats 4000000
/-! Core12: the mutual theorem on statements; defs. -/
namespace G
open PySem PySem.Spec PyProof.Rows L2

/-- where statements stand -/
structure SC (C : Nat → Addr) (Γ : GM) (nm : NT) (cs : Nat → Option (Str × D)) (k : Nat) (N : List Str) (sc : Scope) (X : Cx) : Prop where
  cc : CC C Γ nm cs k N X
  hs : X.env.scope = sc
  fn : ∀ x, X.env.scope.names.lookup x = some .cell → X.fn x = true
  po : PassesOwn (model X.prog X.w) X.A X.env X.xe
  kd : X.env.scope.kind = .function
  st : X.stack = X.env :: X.outer
  fr : X.env.frame = some X.env.locals
section
variable {C : Nat → Addr} {Γ : GM} {nm : NT} {cs : Nat → Option (Str × D)} {k : Nat} {N : List Str} {sc : Scope}
abbrev tS (C : Nat → Addr) (K : PySem.W.Frag) (W : WX) (Γ : GM) (cs : Nat → Option D) (c : CS) : TS := tSG C K W (wpS Γ cs c)
abbrev tSs (C : Nat → Addr) (K : PySem.W.Frag) (W : WX) (Γ : GM) (cs : Nat → Option D) (c : CSs) : TS := tSG C K W (wpSs Γ cs c)
theorem goodS {X : Cx} {g : CG} {tg v : Expr} {te : TE} {pos : Pos} (S : SC C Γ nm cs k N sc X) (hg : chkG N sc g tg = true) (hb : asgB sc tg v = true) (he : PE X v te)
    (hl : ∀ elt gs scope p, v = .ListComp elt gs scope p → ∀ y py, tg = .Name y py → ∀ i, g = .nm i → X.N[i]? = some y → X.env.scope.names.lookup y = some .local → swapsWith v (some tg) pos.line X.env = pure true → PS X (.Assign [tg] v pos) (tAsg te (gName i))) :
    PS X (.Assign [tg] v pos) (tAsg te (gR X.K g)) := by
  have pg := soundG S.cc.hN S.cc.nd (hT_body S.hs S.fn) S.cc.calm hg
  by_cases hv : isLC v = false
  · refine ps_asg he pg (sole_no hv) (stores_no (fun a b c d e f et ev => ?_) fun a b et => ?_) (each_one ?_)
    · subst et; subst ev; simp [asgB] at hb
    · subst et; simp [asgB] at hb
    · cases tg <;> first | rfl | (simp [asgB] at hb; done)
  · cases tg with
    | Name y py =>
      cases v with
      | ListComp elt gs scope p =>
        simp only [asgB, Bool.or_eq_true, Bool.and_eq_true, Bool.not_eq_true'] at hb
        rcases hb with hb | hb
        · exact ps_asg he pg (sole_cell (by rw [S.hs]; exact cellB_ok hb)) (stores_no (fun a b c d e f et ev => by cases et) fun a b et => by cases et) (each_one rfl)
        obtain ⟨⟨⟨h1, h2⟩, h3⟩, h4⟩ := hb
        cases g with
        | nm i =>
          simp only [chkG, Bool.and_eq_true] at hg
          have el : X.env.scope.names.lookup y = some .local := by rw [S.hs]; exact loc1B_ok h1
          exact hl elt gs scope p rfl y py rfl i rfl (by rw [S.cc.hN]; exact nameAt_ok hg.1) el (sw_true S.kd el h3 h4)
        | tp is => simp [chkG] at hg
      | SetComp _ _ _ _ => simp [asgB, isLC] at hb
      | DictComp _ _ _ _ _ => simp [asgB, isLC] at hb
      | _ => exact absurd rfl hv
    | Tuple _ _ _ => simp [asgB, hv] at hb
    | _ => simp [asgB] at hb
/-- a list's assignment -/
theorem asgL {X : Cx} {W : WX} {l : LE} {i : Nat} {tg v : Expr} {pos : Pos} (S : SC C Γ nm cs k N sc X) (tk : Takes X W) (hg : chkG N sc (.nm i) tg = true) (hb : asgB sc tg v = true) (h : chkL N nm (cnam cs) l sc v = true) :
    PS X (.Assign [tg] v pos) (tAsg (tL C X.K W Γ (cval cs) l) (gName i)) := by
  have he := soundL l S.cc S.hs tk h
  refine goodS (g := .nm i) S hg hb he fun elt gs scope p ev y py et j ej hy hyl hsw => ?_
  cases ej
  subst ev
  subst et
  cases l with
  | lc it g ifs el =>
    match gs, h with
    | [⟨tg, iter, fs, na⟩], h =>
      simp only [chkL, Bool.and_eq_true, decide_eq_true_eq] at h
      obtain ⟨⟨⟨⟨⟨⟨rfl, hi⟩, hg2⟩, hb2⟩, ho⟩, ht⟩, he2⟩ := h
      have pi := soundI it (cp := true) S.cc S.hs tk hi
      have ok := blkOk_by hb2
      rw [← S.hs, ← S.cc.hN] at ok
      have esc : ∀ (s : Shared) (H : Hp) (Cd : Addr) (cl : List (Str × Addr)) (fp : List Addr), (X.blk s H scope (compEnvC scope cl Cd X.env) fp).env.scope = relS scope sc := fun s H Cd cl fp => by rw [← S.hs]; rfl
      have p1 := fun (s : Shared) (H : Hp) (Cd : Addr) (cl : List (Str × Addr)) (fp : List Addr) => soundG (S.cc.blk s H scope Cd cl fp).hN (S.cc.blk s H scope Cd cl fp).nd (hT_blk s H scope Cd cl fp) S.cc.calm hg2
      have p2 := fun (s : Shared) (H : Hp) (Cd : Addr) (cl : List (Str × Addr)) (fp : List Addr) => soundTs ifs (S.cc.blk s H scope Cd cl fp) (esc s H Cd cl fp) (takes0 (X := X.blk s H scope (compEnvC scope cl Cd X.env) fp)) ht
      have p3 := fun (s : Shared) (H : Hp) (Cd : Addr) (cl : List (Str × Addr)) (fp : List Addr) => soundE el (S.cc.blk s H scope Cd cl fp) (esc s H Cd cl fp) (takes0 (X := X.blk s H scope (compEnvC scope cl Cd X.env) fp)) he2
      exact PS.imp (ps_setLc S.cc.calm S.cc.nd hy hyl hsw pi ok p1 p2 p3 (folded (plainI hi).set)) fun D σ H q => lc_ok S.cc.calm S.cc.nd pi ok ho p1 p2 p3 (pos := p) q
    | [], h => simp [chkL] at h
    | _ :: _ :: _, h => simp [chkL] at h
  | _ => simp [chkL] at h
/-- a value's assignment -/
theorem asgE {X : Cx} {W : WX} {c : CE} {g : CG} {tg v : Expr} {pos : Pos} (S : SC C Γ nm cs k N sc X) (tk : Takes X W) (hg : chkG N sc g tg = true) (hb : asgB sc tg v = true) (h : chkE N nm (cnam cs) c sc v = true) :
    PS X (.Assign [tg] v pos) (tAsg (tE C X.K W Γ (cval cs) c) (gR X.K g)) := by
  have he := soundE c S.cc S.hs tk h
  refine goodS S hg hb he fun elt gs scope p ev y py et j ej hy hyl hsw => ?_
  subst ej
  subst ev
  cases c with
  | fzOf l =>
    have q := asgL (l := l) (pos := pos) S tk hg hb (by simpa [chkE] using h)
    refine PS.imp q fun D σ H ⟨ω, β, ρ, U, env, h, Q', X', rs, w, hq, hx⟩ => ?_
    exact ⟨ω, β, ρ, U, env, h, _, X', rs, w, fun d v h1 ρ1 H1 rs1 g1 rv1 w1 p hp =>
      hq (.d (.fz d)) _ _ _ _ (rs1.step (rs1.hr.laid hp _).1 (rs1.hr.laid hp _).2) (g1.trans (rs1.hr.laid hp _).2) (rs1.hr.new_fz hp rv1) w1, hx⟩
  | newL l =>
    have q := asgL (l := l) (pos := pos) S tk hg hb (by simpa [chkE] using h)
    refine PS.imp q fun D σ H ⟨ω, β, ρ, U, env, h, Q', X', rs, w, hq, hx⟩ => ?_
    exact ⟨ω, β, ρ, U, env, h, _, X', rs, w, fun d v h1 ρ1 H1 rs1 g1 rv1 w1 p hp => by
      obtain ⟨a1, a2⟩ := rs1.hr.alloc hp (.lst v) (o := .lst d) ⟨v, upd_same, rv1.grow (rs1.hr.growA hp _)⟩
      exact hq (.d (.ref h1.length)) _ _ _ _ (rs1.step a1 a2) (g1.trans a2) (.ref (by rw [rs1.hr.lh, List.getElem?_append_right (Nat.le_refl _)]; simp)) w1, hx⟩
  | bi b es => unfold chkE at h; cases h
  | _ => simp [chkE] at h
/-- the ends of an expression's reading from a statement's -/
theorem EndsOk.exE {K : PySem.W.Frag} {W : WX} {β : Nat → Option Addr} {ω : List Addr} {H : Hp} {ρ U : List Addr} {R : CEnds} {D : Ends} {env : Ev} {σ : L2.St} (e : EndsOk C K W β ω H ρ U R D) :
    ∀ x cls dd h' ρ' H', RS C K β ω ρ' U env h' σ H' → Stp ω U H ρ H' ρ' → RX C K ω ρ' U H' x cls dd → R.ex x env h' → W cls dd σ H' := fun x cls dd h' ρ' H' rs g rx q => e.ex x cls dd env h' ρ' U σ H' rs g.s rx q
theorem aug_ok {X : Cx} (o : BO) (ho : o = .add ∨ o = .sub ∨ o = .mul) : ∃ t : TIp, PIp X o.op t ∧ ∀ {K : PySem.W.Frag} {ω ρ U : List Addr} {H : Hp} {d e : D} {x y : V} {P : D → Prop} {Q : VK}, RD K H ρ (ms ω ρ U) d x → RD K H ρ (ms ω ρ U) e y → augW o d e P →
    (∀ z w, RD K H ρ (ms ω ρ U) z w → P z → Q w H) → t x y H Q := by
  rcases ho with rfl | rfl | rfl
  · refine ⟨_, iop_add.or iop_add_str, fun rx ry w k => ?_⟩
    unfold augW at w
    split at w <;> first | (rename_i h; cases h; done) | skip
    · cases rx; cases ry; exact .inl ⟨_, _, rfl, rfl, k _ _ (.int _) w⟩
    · cases rx; cases ry; exact .inr ⟨_, _, rfl, rfl, w.1, k _ _ (.str _) w.2⟩
    · exact w.elim
  · refine ⟨_, iop_sub, fun rx ry w k => ?_⟩
    unfold augW at w
    split at w <;> first | (rename_i h; cases h; done) | skip
    · cases rx; cases ry; exact ⟨_, _, rfl, rfl, k _ _ (.int _) w⟩
    · exact w.elim
  · refine ⟨_, iop_mul, fun rx ry w k => ?_⟩
    unfold augW at w
    split at w <;> first | (rename_i h; cases h; done) | skip
    · cases rx; cases ry; exact ⟨_, _, rfl, rfl, w.1, k _ _ (.int _) w.2⟩
    · exact w.elim
theorem varPE {X : Cx} {i : Nat} {x : Str} {p : Pos} (S : SC C Γ nm cs k N sc X) (h1 : nameAt N i x = true) (h2 : visB sc x = true) : PE X (.Name x p) (tVar i) := by
  obtain ⟨v1, v2, v3⟩ := visB_ok h2
  exact pe_var (i := i) (by rw [S.cc.hN]; exact nameAt_ok h1) (by rw [S.hs]; exact v1) v2 v3
theorem varDget {K : PySem.W.Frag} {ω ρ U : List Addr} {β : Nat → Option Addr} {env : Ev} {h : AH} {σ : L2.St} {H : Hp} (r : RS C K β ω ρ U env h σ H) {i : Nat} {o : AO} (e : env[i]? = some (some (.own o))) : ∃ a, σ[i]? = some (some (.ref a)) ∧ a ∈ U ∧ RO C K H ρ (ms ω ρ U) o a := by
  obtain ⟨v, ev, a, rfl, ha, ro⟩ := r.sl i _ e
  exact ⟨a, ev, ha, ro⟩
/-- d[k] = v of one's own -/
theorem put_ok {K : PySem.W.Frag} {ω ρ U : List Addr} {H : Hp} {a : Addr} {o o' : AO} {y x : D} {vy vx : V} (ro : RO C K H ρ (ms ω ρ U) o a) (e : o.put y x = some o') (ry : RD K H ρ (ms ω ρ U) y vy) (rx : RD K H ρ (ms ω ρ U) x vx) :
    ∃ u, DPut H a vy vx (upd H a u) ∧ MutO u ∧ ∀ g : Grow H ρ (ms ω ρ U) (upd H a u) ρ (ms ω ρ U), RO C K (upd H a u) ρ (ms ω ρ U) o' a := by
  cases o with
  | lst _ => cases e
  | ins _ _ => cases e
  | dK kvs =>
    obtain ⟨ws, h1, h2⟩ := ro
    simp only [AO.put, Option.bind_eq_some_iff] at e
    obtain ⟨j, ej, e⟩ := e
    split at e
    · rename_i hl
      cases e
      cases ry.key ej
      exact ⟨_, DPut.k h1 (by rw [← h2.length]; exact hl), .dK _, fun g => ⟨_, upd_same, (h2.put j rx).grow g⟩⟩
    · cases e
  | dT kvs =>
    obtain ⟨ws, h1, h2⟩ := ro
    simp only [AO.put, Option.bind_eq_some_iff] at e
    obtain ⟨j, ej, e⟩ := e
    split at e
    · rename_i hl
      cases e
      cases ry with
      | tup s rs =>
        have ev := rs.keysOf (ks := j) (by simpa [D.keys] using ej)
        subst ev
        exact ⟨_, DPut.t h1 s (by rw [← h2.length]; exact hl), .dT _, fun g => ⟨_, upd_same, (h2.put j rx).grow g⟩⟩
      | _ => simp [D.keys] at ej
    · cases e
theorem DPut.eq {H H' : Hp} {a : Addr} {y v : V} {u : HO} (h : DPut H a y v (upd H a u)) : DPut H a y v (upd H a u) := h
theorem PSet.or {X : Cx} {t t' : TSet} (h : PSet X t) (h' : PSet X t') : PSet X (fun o i v H Q => t o i v H Q ∨ t' o i v H Q) := by
  intro pins s σ H o i v ov iv u Q I r1 r2 r3 q
  rcases q with q | q
  · exact h pins s σ H o i v ov iv u Q I r1 r2 r3 q
  · exact h' pins s σ H o i v ov iv u Q I r1 r2 r3 q
theorem ixN_set {K : PySem.W.Frag} {H : Hp} {ρ : List Addr} {m : Addr → Prop} {xs : List D} {vs : List V} (r : RDs K H ρ m xs vs) {z : Int} {j : Nat} (e : ixN xs.length z = some j) : ixN vs.length z = some j := by rw [← r.length]; exact e
/-- one's own at slot i is changed to the object u -/
theorem RS.wr {K : PySem.W.Frag} {ω ρ U : List Addr} {β : Nat → Option Addr} {env : Ev} {h : AH} {σ : L2.St} {H : Hp} (r : RS C K β ω ρ U env h σ H) {i : Nat} {a : Addr} {o o' : AO} {u : HO} (e : env[i]? = some (some (.own o))) (es : σ[i]? = some (some (.ref a))) (ha : a ∈ U) (hu : MutO u)
    (ro : Grow H ρ (ms ω ρ U) (upd H a u) ρ (ms ω ρ U) → RO C K (upd H a u) ρ (ms ω ρ U) o' a) : RS C K β ω ρ U (env.set i (some (.own o'))) h σ (upd H a u) ∧ SStp ω H ρ U (upd H a u) ρ U := by
  have g := (r.hr.write ha hu).2
  exact ⟨r.write e es ha hu (ro g), ⟨g, fun b hb => upd_ne fun z => by subst z; exact r.hr.du _ ha hb⟩⟩
theorem asg_end {K : PySem.W.Frag} {W : WX} {ω ρ U : List Addr} {β : Nat → Option Addr} {env : Ev} {h : AH} {σ : L2.St} {H : Hp} {R : CEnds} {De : Ends} {g : CG} {x : D} {v : V} (e : EndsOk C K W β ω H ρ U R De) (rs : RS C K β ω ρ U env h σ H) (rd : RD K H ρ (ms ω ρ U) x v) (w : gW g x env fun env' => R.nx env' h) : gR K g v σ H De.nx :=
  g_ok rs rd w fun env' σ' rs' _ _ q => e.nx _ _ _ _ _ _ rs' .refl q
theorem CC.tr {X : Cx} (c : CC C Γ nm cs k N X) (pn : List (Addr × Obj)) (xe : Value → Shared → Prop) : CC C Γ nm cs k N (X.tr pn xe) :=
  ⟨c.hN, c.calm, c.room, c.nd, c.fns, c.cst, c.blt, c.exn, c.exc, c.exl, c.cls, c.mth, c.mks, c.srt⟩
theorem SC.tr {X : Cx} (S : SC C Γ nm cs k N sc X) (pn : List (Addr × Obj)) (xe : Value → Shared → Prop) (po : PassesOwn (model X.prog X.w) X.A X.env xe) : SC C Γ nm cs k N sc (X.tr pn xe) :=
  ⟨S.cc.tr pn xe, S.hs, S.fn, po, S.kd, S.st, S.fr⟩
/-- xs.extend(t), t a tuple -/
def rExtT (K : PySem.W.Frag) : V → List V → Hp → VK → Prop := fun x vs H Q => ∃ l b xs zs, x = .ref l ∧ vs = [.ref b] ∧ H l = some (.lst xs) ∧ SqT K H b zs ∧ xs.length + zs.length ≤ sizeLine ∧ Q .non (upd H l (.lst (xs ++ zs)))
theorem list_extend_tup (l : Addr) (items : Array Value) (n : Nat) (b : Addr) (items2 : Array Value) (hs0 : ¬(!items.isEmpty && Builtin.List.listTooLong (items.size + items2.size)) = true) (hs1 : items.size ≤ sizeLine) (hs2 : items.size + items2.size ≤ sizeLine + 1) :
    Meets (Builtin.«list.extend» ⟨[.ref l, .ref b], []⟩) (fun _ R s => s.heap.get? l = some { cls := .type "list", dict := none, data := .seq items n, slots := #[] } ∧ IsTup s.heap b items2 ∧ R (.ok (.ret Value.none)) { s with heap := s.heap.update l (Obj.mapSeq fun x => x ++ items2), toks := s.toks }) :=
  .of_wp fun prog w A R s h => by
    obtain ⟨hp, g, d, tk, os⟩ := s; obtain ⟨hl, ⟨⟨oc, od, odt, osl⟩, hb, hcl, n2, hdt⟩, h⟩ := h
    subst hcl hdt
    have f1 := AutoSeq1.idx_int; have f2 := AutoSeq1.sub_tuple_tuple; have f3 := AutoSeq1.sub_list_list; have f4 := AutoSeq1.sub_tuple_list; have f5 := AutoSeq1.sub_list_tuple
    have hz' : (items ++ items2).size ≤ sizeLine + 1 := by rw [Array.size_append]; exact hs2
    wp_walk using (wpAny_updateSeq hl rfl (hz := hs1) (_hz' := hz')), wpAny_loadPart' hl, wpAny_loadPart' hb; exact ⟨_, rfl, h⟩
theorem mt_extendT {X : Cx} : MtM X "list.extend" (rExtT X.K) := by
  intro pins s σ H x vs v us Q I rx rv h
  obtain ⟨l, b, xs, zs, rfl, rfl, hH, hB, hz, q⟩ := h
  cases rx
  obtain ⟨u, rfl, ru⟩ := rv.one
  cases ru
  obtain ⟨z, its, n, r, hl, e⟩ := I.lstM hH
  obtain ⟨its2, r2, e2, _⟩ := I.tuple hB
  have hl2 := r2.length
  have hsz : its.toArray.size + its2.toArray.size ≤ sizeLine := by rw [List.size_toArray, List.size_toArray]; omega
  have hlong : ¬ (!its.toArray.isEmpty && Builtin.List.listTooLong (its.toArray.size + its2.toArray.size)) = true := by
    rw [notLongL hsz, Bool.and_false]
    exact Bool.false_ne_true
  refine call_meets F.slot_list_extend ⟨_, e, rfl⟩ F.entry_list_extend (F.args_list_extend_2 _ _)
    (list_extend_tup l its.toArray n b its2.toArray hlong (by rw [List.size_toArray]; omega) (by omega)) ⟨e, e2, ?_⟩
  refine ⟨.non, _, I.lset (its' := its ++ its2) hH e (by simp) (r.append r2) ?_, rfl, q⟩
  rw [List.length_append]
  omega
/-- a reading that holds for one of many -/
theorem PSs.ex {X : Cx} {sts : List Stmt} {α : Type} {P : α → Prop} {t : α → TS} (h : ∀ x, P x → PSs X sts (t x)) : PSs X sts (fun D σ H => ∃ x, P x ∧ t x D σ H) :=
  ⟨fun pn s σ H D I ⟨x, hx, q⟩ => (h x hx).run pn s σ H D I q⟩
theorem ms_move {ω ρ U : List Addr} {a : Addr} : ms (a :: ω) ρ (U.filter (· ≠ a)) = ms ω ρ (a :: U) := by
  funext b
  refine propext ⟨?_, ?_⟩
  · rintro (z | z | z)
    · rcases List.mem_cons.mp z with z | z
      · subst z; exact .inr (.inr (List.mem_cons_self ..))
      · exact .inl z
    · exact .inr (.inl z)
    · exact .inr (.inr (List.mem_cons_of_mem _ (List.mem_filter.mp z).1))
  · rintro (z | z | z)
    · exact .inl (List.mem_cons_of_mem _ z)
    · exact .inr (.inl z)
    · by_cases e : b = a
      · subst e; exact .inl (List.mem_cons_self ..)
      · rcases List.mem_cons.mp z with z | z
        · exact absurd z e
        · exact .inr (.inr (List.mem_filter.mpr ⟨z, by simpa using e⟩))
theorem ms_move' {ω ρ U : List Addr} {a : Addr} : ms (a :: ω) ρ U = ms ω ρ (a :: U) := by
  funext b
  refine propext ⟨?_, ?_⟩
  · rintro (z | z | z)
    · rcases List.mem_cons.mp z with z | z
      · subst z; exact .inr (.inr (List.mem_cons_self ..))
      · exact .inl z
    · exact .inr (.inl z)
    · exact .inr (.inr (List.mem_cons_of_mem _ z))
  · rintro (z | z | z)
    · exact .inl (List.mem_cons_of_mem _ z)
    · exact .inr (.inl z)
    · rcases List.mem_cons.mp z with z | z
      · subst z; exact .inl (List.mem_cons_self ..)
      · exact .inr (.inr z)
theorem ms_in {ω ρ U : List Addr} {a : Addr} (ha : a ∈ U) : ms ω ρ (a :: U) = ms ω ρ U := by
  funext b
  refine propext ⟨?_, ?_⟩
  · rintro (z | z | z)
    · exact .inl z
    · exact .inr (.inl z)
    · rcases List.mem_cons.mp z with z | z
      · subst z; exact .inr (.inr ha)
      · exact .inr (.inr z)
  · rintro (z | z | z)
    · exact .inl z
    · exact .inr (.inl z)
    · exact .inr (.inr (List.mem_cons_of_mem _ z))
/-- one's own is read for a while: back -/
theorem RS.back {K : PySem.W.Frag} {ω ρ U : List Addr} {β : Nat → Option Addr} {env : Ev} {h : AH} {σ : L2.St} {H : Hp} {i : Nat} {a : Addr} {o : AO} (r : RS C K (fun j => if j = i then some a else if β j = some a then none else β j) (a :: ω) ρ U env h σ H) (na : a ∉ ω) (e : env[i]? = some (some (.bor o))) :
    RS C K β ω ρ (a :: U) (env.set i (some (.own o))) h σ H := by
  have hi : i < env.length := (List.getElem?_eq_some_iff.mp e).1
  have em : ms (a :: ω) ρ U = ms ω ρ (a :: U) := ms_move'
  obtain ⟨b, eb, es⟩ := r.bo i o e
  rw [if_pos rfl] at eb
  cases eb
  refine ⟨⟨r.hr.lh, fun n o e => by rw [← em]; exact r.hr.hp n o e, r.hr.nd, fun b hb => ⟨fun z => (r.hr.dj b hb).1 (List.mem_cons_of_mem _ z), fun z => ?_⟩, fun b hb z => ?_, fun b hb => r.hr.pr b (by rw [em]; exact hb)⟩, by rw [List.length_set]; exact r.len, fun j s ej => ?_, fun j j' o1 o2 b e1 e2 s1 s2 => ?_, fun j o1 ej => ?_⟩
  · rcases List.mem_cons.mp z with z | z
    · subst z; exact (r.hr.dj b hb).1 (List.mem_cons_self ..)
    · exact (r.hr.dj b hb).2 z
  · rcases List.mem_cons.mp hb with y | y
    · subst y; exact na z
    · exact r.hr.du b y (List.mem_cons_of_mem _ z)
  · by_cases hj : j = i
    · subst hj
      rw [List.getElem?_set_self hi] at ej
      cases ej
      obtain ⟨v, ev, c, rfl, _, ro⟩ := r.sl j _ e
      rw [es] at ev
      cases ev
      exact ⟨_, es, _, rfl, List.mem_cons_self .., by rw [← em]; exact ro⟩
    · rw [List.getElem?_set_ne (Ne.symm hj)] at ej
      obtain ⟨v, ev, rl⟩ := r.sl j s ej
      refine ⟨v, ev, ?_⟩
      cases s with
      | val d => show RD K H ρ (ms ω ρ (a :: U)) d v; rw [← em]; exact rl
      | own o1 =>
        obtain ⟨c, rfl, hc, ro⟩ := rl
        exact ⟨c, rfl, List.mem_cons_of_mem _ hc, em ▸ ro⟩
      | bor o1 =>
        obtain ⟨c, rfl, hc, ro⟩ := rl
        refine ⟨c, rfl, ?_, em ▸ ro⟩
        obtain ⟨c', ec, es'⟩ := r.bo j o1 ej
        rw [es'] at ev
        cases ev
        rw [if_neg hj] at ec
        rcases List.mem_cons.mp hc with z | z
        · subst z
          split at ec
          · cases ec
          · rename_i hn; exact absurd ec hn
        · exact z
  · have key : ∀ (j : Nat) (o1 : AO), j ≠ i → (env.set i (some (.own o)))[j]? = some (some (.own o1)) → σ[j]? = some (some (.ref a)) → False := fun j o1 hj ej sj => by
      rw [List.getElem?_set_ne (Ne.symm hj)] at ej
      obtain ⟨v, ev, c, rfl, hc, ro⟩ := r.sl j _ ej
      rw [sj] at ev
      cases ev
      exact r.hr.du _ hc (List.mem_cons_self ..)
    by_cases h1 : j = i
    · by_cases h2 : j' = i
      · rw [h1, h2]
      · subst h1
        rw [es] at s1
        cases s1
        exact (key j' o2 h2 e2 s2).elim
    · by_cases h2 : j' = i
      · subst h2
        rw [es] at s2
        cases s2
        exact (key j o1 h1 e1 s1).elim
      · rw [List.getElem?_set_ne (Ne.symm h1)] at e1
        rw [List.getElem?_set_ne (Ne.symm h2)] at e2
        exact r.inj j j' o1 o2 b e1 e2 s1 s2
  · by_cases hj : j = i
    · subst hj
      rw [List.getElem?_set_self hi] at ej
      cases ej
    · rw [List.getElem?_set_ne (Ne.symm hj)] at ej
      obtain ⟨c, ec, ev⟩ := r.bo j o1 ej
      rw [if_neg hj] at ec
      split at ec
      · cases ec
      · exact ⟨c, ec, ev⟩
theorem RS.lend {K : PySem.W.Frag} {ω ρ U : List Addr} {β : Nat → Option Addr} {env : Ev} {h : AH} {σ : L2.St} {H : Hp} {i : Nat} {a : Addr} {o : AO} (r : RS C K β ω ρ U env h σ H) (e : env[i]? = some (some (.own o))) (es : σ[i]? = some (some (.ref a))) (ha : a ∈ U) :
    RS C K (fun j => if j = i then some a else if β j = some a then none else β j) (a :: ω) ρ (U.filter (· ≠ a)) (env.set i (some (.bor o))) h σ H := by
  have hi : i < env.length := (List.getElem?_eq_some_iff.mp e).1
  have em : ms (a :: ω) ρ (U.filter (· ≠ a)) = ms ω ρ U := ms_move.trans (ms_in ha)
  refine ⟨⟨r.hr.lh, fun n o e => by rw [em]; exact r.hr.hp n o e, r.hr.nd, fun b hb => ⟨fun z => ?_, fun z => (r.hr.dj b hb).2 (List.mem_filter.mp z).1⟩, fun b hb z => ?_, fun b hb => r.hr.pr b (by rw [← em]; exact hb)⟩, by rw [List.length_set]; exact r.len, fun j s ej => ?_, fun j j' o1 o2 b e1 e2 s1 s2 => ?_, fun j o1 ej => ?_⟩
  · rcases List.mem_cons.mp z with z | z
    · subst z; exact (r.hr.dj b hb).2 ha
    · exact (r.hr.dj b hb).1 z
  · have hb := List.mem_filter.mp hb
    rcases List.mem_cons.mp z with z | z
    · exact absurd z (by simpa using hb.2)
    · exact r.hr.du b hb.1 z
  · by_cases hj : j = i
    · subst hj
      rw [List.getElem?_set_self hi] at ej
      cases ej
      obtain ⟨v, ev, c, rfl, _, ro⟩ := r.sl j _ e
      rw [es] at ev
      cases ev
      exact ⟨_, es, _, rfl, List.mem_cons_self .., by rw [em]; exact ro⟩
    · rw [List.getElem?_set_ne (Ne.symm hj)] at ej
      obtain ⟨v, ev, rl⟩ := r.sl j s ej
      refine ⟨v, ev, ?_⟩
      cases s with
      | val d => show RD K H ρ (ms (a :: ω) ρ (U.filter (· ≠ a))) d v; rw [em]; exact rl
      | own o1 =>
        obtain ⟨c, rfl, hc, ro⟩ := rl
        refine ⟨c, rfl, List.mem_filter.mpr ⟨hc, ?_⟩, em.symm ▸ ro⟩
        simp only [ne_eq, decide_eq_true_eq, decide_not, Bool.not_eq_true', decide_eq_false_iff_not]
        intro z
        subst z
        exact hj (r.inj j i o1 o c ej e ev es)
      | bor o1 =>
        obtain ⟨c, rfl, hc, ro⟩ := rl
        exact ⟨c, rfl, List.mem_cons_of_mem _ hc, em.symm ▸ ro⟩
  · have n1 : j ≠ i := fun z => by
      subst z
      rw [List.getElem?_set_self hi] at e1
      cases e1
    have n2 : j' ≠ i := fun z => by
      subst z
      rw [List.getElem?_set_self hi] at e2
      cases e2
    rw [List.getElem?_set_ne (Ne.symm n1)] at e1
    rw [List.getElem?_set_ne (Ne.symm n2)] at e2
    exact r.inj j j' o1 o2 b e1 e2 s1 s2
  · by_cases hj : j = i
    · subst hj
      exact ⟨a, by simp, es⟩
    · rw [List.getElem?_set_ne (Ne.symm hj)] at ej
      obtain ⟨c, ec, ev⟩ := r.bo j o1 ej
      refine ⟨c, ?_, ev⟩
      rw [if_neg hj, if_neg (fun z => ?_), ec]
      rw [z] at ec
      cases ec
      obtain ⟨v, ev', c', rfl, hc, _⟩ := r.sl j _ ej
      rw [ev] at ev'
      cases ev'
      exact r.hr.du _ ha hc
theorem EndsOk.lend {K : PySem.W.Frag} {W : WX} {β : Nat → Option Addr} {ω : List Addr} {H : Hp} {ρ U : List Addr} {R : CEnds} {D : Ends} {i : Nat} {a : Addr} {o : AO} (ek : EndsOk C K W β ω H ρ U R D) (ha : a ∈ U) (na : a ∉ ω) :
    EndsOk C K W (fun j => if j = i then some a else if β j = some a then none else β j) (a :: ω) H ρ (U.filter (· ≠ a)) (borR i o R) D := by
  have em0 : ms (a :: ω) ρ (U.filter (· ≠ a)) = ms ω ρ U := ms_move.trans (ms_in ha)
  have st : ∀ {H' ρ' U'}, SStp (a :: ω) H ρ (U.filter (· ≠ a)) H' ρ' U' → SStp ω H ρ U H' ρ' (a :: U') := fun g =>
    ⟨by have := g.gr; rw [em0, ms_move'] at this; exact this, fun b hb => g.own b (List.mem_cons_of_mem _ hb)⟩
  refine ⟨fun env' h' ρ' U' σ' H' rs g q => ek.nx _ _ _ _ _ _ (rs.back na q.1) (st g) q.2, fun _ _ _ _ _ _ _ _ q => q.elim, fun _ _ _ _ _ _ _ _ q => q.elim, fun r v h' ρ' U' H' hr g rr q => ?_, fun x cls dd env' h' ρ' U' σ' H' rs g rx q => ek.ex x cls dd _ h' ρ' (a :: U') σ' H' (rs.back na q.1) (st g) ?_ q.2⟩
  · have hr' : HR C K ω ρ' (a :: U') h' H' := by
      refine ⟨hr.lh, fun n o e => by rw [← ms_move']; exact hr.hp n o e, hr.nd, fun b hb => ⟨fun z => (hr.dj b hb).1 (List.mem_cons_of_mem _ z), fun z => ?_⟩, fun b hb z => ?_, fun b hb => hr.pr b (by rw [ms_move']; exact hb)⟩
      · rcases List.mem_cons.mp z with z | z
        · subst z; exact (hr.dj b hb).1 (List.mem_cons_self ..)
        · exact (hr.dj b hb).2 z
      · rcases List.mem_cons.mp hb with y | y
        · subst y; exact na z
        · exact hr.du b y (List.mem_cons_of_mem _ z)
    refine ek.rt r v h' ρ' (a :: U') H' hr' (st g) ?_ q
    cases r with
    | d x => show RD K H' ρ' (ms ω ρ' (a :: U')) x v; rw [← ms_move']; exact rr
    | mv o1 =>
      obtain ⟨c, rfl, hc, ro⟩ := rr
      exact ⟨c, rfl, List.mem_cons_of_mem _ hc, by rw [← ms_move']; exact ro⟩
  · unfold RX at rx ⊢
    rw [← ms_move']
    exact rx
theorem for_ok {X : Cx} {W : WX} {g : CG} {it : CI} {a : CSs} {tg iter : Expr} {x : List Stmt} {pos : Pos} (S : SC C Γ nm cs k N sc X) (tk : Takes X W) (hg : chkG N sc g tg = true) (hi : chkI N nm (cnam cs) it sc tg iter = true) (pa : PSs X x (tSs C X.K W Γ (cval cs) a)) :
    PS X (.For tg iter x [] pos) (tS C X.K W Γ (cval cs) (.for g it a)) := by
  have pg := soundG S.cc.hN S.cc.nd (hT_body S.hs S.fn) S.cc.calm hg
  have pi := soundI it (cp := false) S.cc S.hs tk hi
  refine PS.imp (ps_for S.po S.cc.calm pi pg pa (folded (plainI hi).set)) fun D σ H ⟨ω, β, ρ, U, env, h, R, rs, w, ek⟩ => ?_
  refine ⟨ω, β, ρ, U, env, h, _, _, rs, w, fun xs gd J h1 ρ1 H1 rs1 g1 wk w1 => ?_, ek.exE⟩
  refine ⟨fun i m σ' H' => i ≤ xs.length ∧ m = xs.length - i ∧ ∃ env' h' ρ' U', RS C X.K β ω ρ' U' env' h' σ' H' ∧ SStp ω H1 ρ1 U H' ρ' U' ∧ forW gd g (fun env h R => wpSs Γ (cval cs) a env h R) (xs.drop i) env' h' R,
    ⟨xs.length, Nat.zero_le _, rfl, env, h1, ρ1, U, rs1, .refl, w1⟩, ?_⟩
  rintro i m σ2 H2 ⟨hi1, rfl, env2, h2, ρ2, U2, rs2, g2, w2⟩
  have ek2 := (ek.step g1.s).step g2
  by_cases hlt : i < xs.length
  · obtain ⟨x, ex⟩ : ∃ x, xs[i]? = some x := ⟨_, List.getElem?_eq_getElem hlt⟩
    have ed : xs.drop i = x :: xs.drop (i + 1) := by
      rw [List.drop_eq_getElem_cons hlt]
      rw [List.getElem?_eq_getElem hlt] at ex
      rw [Option.some.inj ex]
    rw [ed] at w2
    obtain ⟨gdh, w2⟩ := w2
    obtain ⟨jgo, jy⟩ := wk.go i x h2 ρ2 U2 H2 rs2.hr g2 (fun z => by cases z) gdh ex
    refine .inr ⟨jgo, fun σ' H' => ∃ m', m' < xs.length - i ∧ (i + 1 ≤ xs.length ∧ m' = xs.length - (i + 1) ∧ ∃ env' h' ρ' U', RS C X.K β ω ρ' U' env' h' σ' H' ∧ SStp ω H1 ρ1 U H' ρ' U' ∧ forW gd g (fun env h R => wpSs Γ (cval cs) a env h R) (xs.drop (i + 1)) env' h' R),
      fun σ' H' z => z, fun v H3 y => ?_⟩
    obtain ⟨hr3, st3, rdx⟩ := jy v H3 y
    have rs3 := rs2.step hr3 st3
    refine g_ok rs3 rdx w2 fun env' σ' rs' hk hl w3 => ?_
    refine ⟨ω, β, ρ2, U2, env', h2, _, rs', w3, ?_⟩
    have ek3 := ek2.step st3.s
    have gg := g2.trans st3.s
    exact ⟨fun env' h' ρ' U' σ' H' rs' st' q => ⟨_, by omega, by omega, rfl, env', h', ρ', U', rs', gg.trans st', q⟩, ek3.nx, fun env' h' ρ' U' σ' H' rs' st' q => ⟨_, by omega, by omega, rfl, env', h', ρ', U', rs', gg.trans st', q⟩, ek3.rt, ek3.ex⟩
  · have e0 : xs.drop i = [] := List.drop_eq_nil_of_le (by omega)
    rw [e0] at w2
    obtain ⟨gdh, w2⟩ := w2
    exact .inl ⟨wk.stop i h2 ρ2 U2 H2 rs2.hr g2 (fun z => by cases z) gdh (by omega), ek2.nx _ _ _ _ _ _ rs2 .refl w2⟩
/-- one's own changes its name -/
theorem RS.mvOwn {K : PySem.W.Frag} {ω ρ U : List Addr} {β : Nat → Option Addr} {env : Ev} {h : AH} {σ : L2.St} {H : Hp} {i j : Nat} {a : Addr} {o : AO} (r : RS C K β ω ρ U env h σ H) (e : env[j]? = some (some (.own o))) (es : σ[j]? = some (some (.ref a))) (ne : i ≠ j) (hi : i < env.length) :
    RS C K β ω ρ U ((env.set j none).set i (some (.own o))) h (σ.set i (some (.ref a))) H := by
  have hl := r.len
  have hi1 : i < (env.set j none).length := by rw [List.length_set]; exact hi
  have hi2 : i < σ.length := by omega
  have hj : j < env.length := (List.getElem?_eq_some_iff.mp e).1
  have at' : ∀ (k : Nat) (s : Sl), k ≠ i → ((env.set j none).set i (some (.own o)))[k]? = some (some s) → k ≠ j ∧ env[k]? = some (some s) := fun k s hk ek => by
    rw [List.getElem?_set_ne (Ne.symm hk)] at ek
    by_cases hkj : k = j
    · subst hkj; rw [List.getElem?_set_self hj] at ek; cases ek
    · rw [List.getElem?_set_ne (Ne.symm hkj)] at ek; exact ⟨hkj, ek⟩
  obtain ⟨v, ev, c, rfl, hc, ro⟩ := r.sl j _ e
  rw [es] at ev
  cases ev
  refine ⟨r.hr, by simp [hl], fun k s ek => ?_, fun k k' o1 o2 b e1 e2 s1 s2 => ?_, fun k o1 ek => ?_⟩
  · by_cases hk : k = i
    · subst hk
      rw [List.getElem?_set_self hi1] at ek
      cases ek
      exact ⟨_, List.getElem?_set_self hi2, _, rfl, hc, ro⟩
    · obtain ⟨hkj, ek⟩ := at' k s hk ek
      rw [List.getElem?_set_ne (Ne.symm hk)]
      exact r.sl k s ek
  · have key : ∀ (k : Nat) (o1 : AO), k ≠ i → ((env.set j none).set i (some (.own o)))[k]? = some (some (.own o1)) → (σ.set i (some (.ref a)))[k]? = some (some (.ref a)) → False := fun k o1 hk ek sk => by
      obtain ⟨hkj, ek⟩ := at' k _ hk ek
      rw [List.getElem?_set_ne (Ne.symm hk)] at sk
      exact hkj (r.inj k j o1 o a ek e sk es)
    by_cases h1 : k = i
    · by_cases h2 : k' = i
      · rw [h1, h2]
      · subst h1
        rw [List.getElem?_set_self hi2] at s1
        cases s1
        exact (key k' o2 h2 e2 s2).elim
    · by_cases h2 : k' = i
      · subst h2
        rw [List.getElem?_set_self hi2] at s2
        cases s2
        exact (key k o1 h1 e1 s1).elim
      · obtain ⟨_, e1⟩ := at' k _ h1 e1
        obtain ⟨_, e2⟩ := at' k' _ h2 e2
        rw [List.getElem?_set_ne (Ne.symm h1)] at s1
        rw [List.getElem?_set_ne (Ne.symm h2)] at s2
        exact r.inj k k' o1 o2 b e1 e2 s1 s2
  · by_cases hk : k = i
    · subst hk; rw [List.getElem?_set_self hi1] at ek; cases ek
    · obtain ⟨_, ek⟩ := at' k _ hk ek
      obtain ⟨b, eb, sb⟩ := r.bo k o1 ek
      exact ⟨b, eb, by rw [List.getElem?_set_ne (Ne.symm hk)]; exact sb⟩
/-- what an except suite does -/
def ehT (n : Option Nat) (s : EH) (c : Nat) (a : Addr) : TS := match s with
  | .asg i e => fun D σ H => (∀ j, n = some j → σ[j]? = some (some (V.ref a))) ∧ D.nx (σ.set i (some (dV (e.val c)))) H
  | .ret e => fun D σ H => (∀ j, n = some j → σ[j]? = some (some (V.ref a))) ∧ D.rt (dV (e.val c)) H
theorem chk_asg {n : Option Nat} {i : Nat} {e : EE} {sts : List Stmt} (h : chkEH N nm sc n (.asg i e) sts = true) :
    ∃ y py v pos, sts = [.Assign [.Name y py] v pos] ∧ nameAt N i y = true ∧ locB sc y = true ∧ n ≠ some i ∧ chkEE N nm sc n e v = true := by
  unfold chkEH at h
  dsimp only at h
  split at h
  · simp only [Bool.and_eq_true, decide_eq_true_eq] at h
    obtain ⟨⟨⟨h1, h2⟩, h3⟩, h4⟩ := h
    exact ⟨_, _, _, _, rfl, h1, h2, h3, h4⟩
  · cases h
theorem chk_ret {n : Option Nat} {e : EE} {sts : List Stmt} (h : chkEH N nm sc n (.ret e) sts = true) : ∃ v pos, sts = [.Return (some v) pos] ∧ chkEE N nm sc n e v = true := by
  unfold chkEH at h
  dsimp only at h
  split at h
  · exact ⟨_, _, rfl, h⟩
  · cases h
theorem eh_ok {X : Cx} {n : Option Nat} {s : EH} {sts : List Stmt} {c : Nat} {a : Addr} {oe : Obj} {pn : List (Addr × Obj)} (S : SC C Γ nm cs k N sc X) (hc : c < nm.nx) (hz : Zc (.ref (C (c + 1000))) none oe) (hf : ∃ vs, oe.data = .fields vs) (h : chkEH N nm sc n s sts = true) :
    PSs (X.suite a ((a, oe) :: pn)) sts (ehT n s c a) := by
  cases s with
  | asg i e =>
    obtain ⟨y, py, v, pos, rfl, h1, h2, h3, h4⟩ := chk_asg h
    have hl := hT_body S.hs S.fn y h2
    have hv : isLC v = false := by cases v <;> first | rfl | (cases e <;> simp [chkEE] at h4)
    have pe := soundEE (a := a) (pn := pn) S.cc S.hs hc hz hf e h4
    have pg : PG (X.suite a ((a, oe) :: pn)) (.Name y py) (gName i) := pg_name (i := i) S.cc.nd (by show X.N[i]? = _; rw [S.cc.hN]; exact nameAt_ok h1) hl.1 hl.2
    exact PSs.imp (pss_cons (ps_asg pe pg (sole_no hv) (stores_no (fun _ _ _ _ _ _ z => (by cases z)) fun _ _ z => (by cases z)) (each_one rfl)) pss_nil) fun D σ H q => q
  | ret e =>
    obtain ⟨v, pos, rfl, h4⟩ := chk_ret h
    have pe := soundEE (a := a) (pn := pn) S.cc S.hs hc hz hf e h4
    exact PSs.imp (pss_cons (ps_ret pe) pss_nil) fun D σ H q => q
theorem set_sw {σ : L2.St} {i j : Nat} {u v : Option V} (n : i ≠ j) : ((σ.set i u).set j v).set i none = (σ.set j v).set i none := by
  rw [List.set_comm _ _ n, List.set_set]
/-- the body's ends, where an exception may be caught; Wc: what the clause wishes -/
theorem EndsOk.body {K : PySem.W.Frag} {W Wc : WX} {β : Nat → Option Addr} {ω : List Addr} {H : Hp} {ρ U : List Addr} {R : CEnds} {D : Ends} {kk : Nat} {l : List Nat} {n : Option Nat} {s : EH} (ek : EndsOk C K W β ω H ρ U R D)
    (hw : ∀ (x : EX) env' h' ρ' U' σ' H', x.c < kk → RS C K β ω ρ' U' env' h' σ' H' → SStp ω H ρ U H' ρ' U' → (l.contains x.c = true → x.fs = [] ∧ ehW s n x env' h' R) → (∀ dd, RX C K ω ρ' U' H' x (.ref (C (x.c + 1000))) dd → l.contains x.c = false → W (.ref (C (x.c + 1000))) dd σ' H') →
      ∀ dd, RX C K ω ρ' U' H' x (.ref (C (x.c + 1000))) dd → Wc (.ref (C (x.c + 1000))) dd σ' H') :
    EndsOk C K Wc β ω H ρ U { R with ex := fun x e h' => x.c < kk ∧ if l.contains x.c = true then x.fs = [] ∧ ehW s n x e h' R else R.ex x e h' } D := by
  refine ⟨ek.nx, ek.bk, ek.ct, ek.rt, fun x cls dd env' h' ρ' U' σ' H' rs st rx q => ?_⟩
  obtain ⟨hk, q⟩ := q
  have ec := rx.1
  subst ec
  refine hw x env' h' ρ' U' σ' H' hk rs st (fun hl => ?_) (fun dd rx hl => ?_) dd rx
  · rw [if_pos hl] at q; exact q
  · rw [if_neg (by rw [hl]; decide)] at q
    exact ek.ex x _ dd env' h' ρ' U' σ' H' rs st rx q
/-- what an except suite leaves, by the core -/
theorem eh_end {W : WX} {K : PySem.W.Frag} {β : Nat → Option Addr} {ω : List Addr} {H H' : Hp} {ρ U ρ' U' : List Addr} {R : CEnds} {D : Ends} {x : EX} {s : EH} {env' : Ev} {h' : AH} {σ' : L2.St} (ek : EndsOk C K W β ω H ρ U R D)
    (rs : RS C K β ω ρ' U' env' h' σ' H') (st : SStp ω H ρ U H' ρ' U') {n : Option Nat} (hn : ∀ j, n = some j → ∀ e, s ≠ .asg j e) (q : ehW s n x env' h' R) (a : Addr) :
    ehT n s x.c a { D with nx := fun σ2 H2 => D.nx (match n with | some j => σ2.set j none | none => σ2) H2, bk := fun σ2 H2 => D.bk (match n with | some j => σ2.set j none | none => σ2) H2, ct := fun σ2 H2 => D.ct (match n with | some j => σ2.set j none | none => σ2) H2 } (match n with | some j => σ'.set j (some (.ref a)) | none => σ') H' := by
  obtain ⟨ql, q⟩ := q
  have hlen : ∀ j, n = some j → j < σ'.length := fun j e => by
    subst e
    have := of_decide_eq_true ql
    rw [← rs.len]; exact this
  cases s with
  | asg i e =>
    refine ⟨fun j ej => ?_, ?_⟩
    · subst ej
      exact List.getElem?_set_self (hlen j rfl)
    · have rs2 := rs.set i (EE.val_rd x.c e)
      cases n with
      | none => exact ek.nx _ _ _ _ _ _ rs2 st q
      | some j =>
        show D.nx (((σ'.set j (some (.ref a))).set i (some (dV (e.val x.c)))).set j none) H'
        rw [set_sw (fun z => hn j rfl e (by rw [z]))]
        exact ek.nx _ _ _ _ _ _ (rs2.wipe j none) st q
  | ret e =>
    refine ⟨fun j ej => ?_, ?_⟩
    · subst ej
      exact List.getElem?_set_self (hlen j rfl)
    · exact ek.rt (.d (e.val x.c)) _ _ _ _ _ rs.hr st (EE.val_rd x.c e) q
theorem eh_ne {n : Option Nat} {s : EH} {sts : List Stmt} (h : chkEH N nm sc n s sts = true) : ∀ j, n = some j → ∀ e, s ≠ .asg j e := by
  intro j ej e es
  subst es ej
  obtain ⟨_, _, _, _, _, _, _, h3, _⟩ := chk_asg h
  exact h3 rfl
theorem soundS_asg (g : CG) (e : CE) {X : Cx} {W : WX} {st : Stmt} (S : SC C Γ nm cs k N sc X) (tk : Takes X W) (h : chkS N nm (cnam cs) sc (.asg g e) st = true) : PS X st (tS C X.K W Γ (cval cs) (.asg g e)) := by
  cases st with
  | Assign tgs v pos =>
    match tgs, h with
    | [tg], h =>
      simp only [chkS, Bool.and_eq_true] at h
      obtain ⟨⟨hg, he⟩, hb⟩ := h
      refine PS.imp (asgE S tk hg hb he) fun D σ H ⟨ω, β, ρ, U, env, h, R, rs, w, ek⟩ => ?_
      exact ⟨ω, β, ρ, U, env, h, _, _, rs, w, fun d v h1 ρ1 H1 rs1 g1 rv1 w1 => by
        obtain ⟨x, rfl, w1⟩ := w1
        exact asg_end (ek.step g1.s) rs1 rv1 w1, ek.exE⟩
    | [], h => simp [chkS] at h
    | _ :: _ :: _, h => simp [chkS] at h
  | _ => simp [chkS] at h
theorem soundS_asgO (i : Nat) (l : LE) {X : Cx} {W : WX} {st : Stmt} (S : SC C Γ nm cs k N sc X) (tk : Takes X W) (h : chkS N nm (cnam cs) sc (.asgO i l) st = true) : PS X st (tS C X.K W Γ (cval cs) (.asgO i l)) := by
  cases st with
  | Assign tgs v pos =>
    match tgs, h with
    | [tg], h =>
      simp only [chkS, Bool.and_eq_true] at h
      obtain ⟨⟨hg, he⟩, hb⟩ := h
      refine PS.imp (asgL S tk hg hb he) fun D σ H ⟨ω, β, ρ, U, env, h, R, rs, w, ek⟩ => ?_
      exact ⟨ω, β, ρ, U, env, h, _, _, rs, w, fun d v h1 ρ1 H1 rs1 g1 rv1 w1 p hp => by
        obtain ⟨hr, g⟩ := rs1.hr.adopt hp (.lst v)
        have own : ∀ a, a ∈ ω ∨ a ∈ U → upd H1 p (.lst v) a = H1 a := fun a ha => upd_ne fun z => by
          subst z
          exact rs1.hr.fresh hp (ha.elim .inl fun q => .inr (.inr q))
        have nU : p ∉ U := fun z => rs1.hr.fresh hp (.inr (.inr z))
        have rs2 := rs1.setOwn hr g own (fun a ha => List.mem_cons_of_mem _ ha) i (o := .lst d) (List.mem_cons_self ..) nU ⟨v, upd_same, rv1.grow g⟩
        exact ek.nx _ _ _ _ _ _ rs2 (g1.s.trans ⟨g, fun a ha => own a (.inl ha)⟩) w1, ek.exE⟩
    | [], h => simp [chkS] at h
    | _ :: _ :: _, h => simp [chkS] at h
  | _ => simp [chkS] at h
theorem soundS_asgD (i : Nat) {X : Cx} {W : WX} {st : Stmt} (S : SC C Γ nm cs k N sc X) (tk : Takes X W) (h : chkS N nm (cnam cs) sc (.asgD i) st = true) : PS X st (tS C X.K W Γ (cval cs) (.asgD i)) := by
  cases st with
  | Assign tgs v pos =>
    match tgs, h with
    | [], h => simp [chkS] at h
    | _ :: _ :: _, h => simp [chkS] at h
    | [tg], h =>
    cases v with
    | Dict ks vs pd =>
      cases ks with
      | cons _ _ => simp [chkS] at h
      | nil =>
      cases vs with
      | cons _ _ => simp [chkS] at h
      | nil =>
      have hg : chkG N sc (.nm i) tg = true := by simpa [chkS] using h
      have pg := soundG S.cc.hN S.cc.nd (hT_body S.hs S.fn) S.cc.calm hg
      have htn : ∃ y py, tg = .Name y py := by cases tg <;> first | exact ⟨_, _, rfl⟩ | (simp [chkG] at hg; done)
      obtain ⟨y, py, rfl⟩ := htn
      have pd : PE X (.Dict [] [] pd) (fun σ H Q => tDNewK σ H Q ∨ tDNewT σ H Q) := ⟨fun pins s σ H Q I q => q.elim (pe_dnewK.run pins s σ H Q I) (pe_dnewT.run pins s σ H Q I)⟩
      refine PS.imp (ps_asg pd pg (sole_no rfl) (stores_no (fun _ _ _ _ _ _ z => (by cases z)) fun _ _ z => (by cases z)) (each_one rfl)) fun D σ H ⟨ω, β, ρ, U, env, h, R, rs, w, ek⟩ => ?_
      have fin : ∀ (o : AO) (u : HO), MutO u → (∀ (H' : Hp) (p : Addr) (m : Addr → Prop), H' p = some u → RO C X.K H' ρ m o p) → R.nx (env.set i (some (.own o))) h → ∀ p, H p = none → gR X.K (.nm i) (.ref p) σ (upd H p u) D.nx := fun o u mu ro wn p hp => by
        obtain ⟨hr, g⟩ := rs.hr.adopt hp mu
        have own : ∀ a, a ∈ ω ∨ a ∈ U → upd H p u a = H a := fun a ha => upd_ne fun z => by
          subst z
          exact rs.hr.fresh hp (ha.elim .inl fun q => .inr (.inr q))
        have nU : p ∉ U := fun z => rs.hr.fresh hp (.inr (.inr z))
        have rs2 := rs.setOwn hr g own (fun a ha => List.mem_cons_of_mem _ ha) i (o := o) (List.mem_cons_self ..) nU (ro _ _ _ upd_same)
        exact ek.nx _ _ _ _ _ _ rs2 ⟨g, fun a ha => own a (.inl ha)⟩ wn
      rcases w with w | w
      · exact .inl fun p hp => fin (AO.dK []) (HO.dK []) (.dK []) (fun H' p m e => ⟨[], e, .nil⟩) w p hp
      · exact .inr fun p hp => fin (AO.dT []) (HO.dT []) (.dT []) (fun H' p m e => ⟨[], e, .nil⟩) w p hp
    | _ => simp [chkS] at h
  | _ => simp [chkS] at h
theorem soundS_asgC (i : Nat) (f : Nat) (es : CEs) {X : Cx} {W : WX} {st : Stmt} (S : SC C Γ nm cs k N sc X) (tk : Takes X W) (h : chkS N nm (cnam cs) sc (.asgC i f es) st = true) : PS X st (tS C X.K W Γ (cval cs) (.asgC i f es)) := by
  cases st with
  | Assign tgs v pos =>
    match tgs, h with
    | [tg], h =>
      cases v with
      | Call fn xs kw p =>
        cases fn with
        | Name x pn =>
          match xs, kw, h with
          | y :: ys, [], h =>
            simp only [chkS, Bool.and_eq_true] at h
            obtain ⟨⟨⟨hg, hgl⟩, hf⟩, he⟩ := h
            have pg := soundG S.cc.hN S.cc.nd (hT_body S.hs S.fn) S.cc.calm hg
            have htn : ∃ y py, tg = .Name y py := by cases tg <;> first | exact ⟨_, _, rfl⟩ | (simp [chkG] at hg; done)
            obtain ⟨yn, py, rfl⟩ := htn
            have en : nm f = some x := by
              cases en : nm f with
              | none => rw [en] at hf; cases hf
              | some z => rw [en] at hf; rw [of_decide_eq_true hf]
            refine PS.imp (ps_asg (pe_callR S.cc S.hs tk hgl en he) pg (sole_no rfl) (stores_no (fun _ _ _ _ _ _ z => (by cases z)) fun _ _ z => (by cases z)) (each_one rfl)) fun D σ H ⟨ω, β, ρ, U, env, h, R, rs, w, ek⟩ => ?_
            exact ⟨ω, β, ρ, U, env, h, _, _, rs, w, fun r v h1 ρ1 U1 H1 rs1 g1 hr1 gr1 rr w1 => by
              cases r with
              | d d =>
                have rd : RD X.K H1 ρ1 (ms ω ρ1 U) d v := RD.grow (.same fun a z => ms_ret z) rr
                exact ek.nx _ _ _ _ _ _ (rs1.set i rd) g1.s w1
              | mv o =>
                obtain ⟨a, rfl, hu, ro⟩ := rr
                have nω : a ∉ ω := fun z => hr1.du a hu (List.mem_append_left _ z)
                have nU : a ∉ U := fun z => hr1.du a hu (List.mem_append_right _ z)
                have nρ : a ∉ ρ1 := fun z => (hr1.dj a z).2 hu
                have le : ∀ b, ms ω ρ1 (a :: U) b → ms (ω ++ U) ρ1 U1 b := fun b z => by
                  rcases ms_cons.mp z with z | z
                  · subst z; exact .inr (.inr hu)
                  · exact ms_ret z
                have gs : Grow H1 ρ1 (ms (ω ++ U) ρ1 U1) H1 ρ1 (ms ω ρ1 (a :: U)) := .same le
                have hr2 : HR C X.K ω ρ1 (a :: U) h1 H1 := ⟨hr1.lh, fun n o z => let ⟨b, e1, r1⟩ := hr1.hp n o z; ⟨b, e1, r1.grow gs rfl⟩, hr1.nd,
                  fun b hb => ⟨(rs1.hr.dj b hb).1, fun z => (List.mem_cons.mp z).elim (fun q => nρ (q ▸ hb)) (rs1.hr.dj b hb).2⟩,
                  fun b hb => (List.mem_cons.mp hb).elim (fun q => q ▸ nω) (rs1.hr.du b), fun b z => hr1.pr b (le b z)⟩
                have rs2 := rs.setOwn hr2 (gr1.trans gs) g1.own (fun b hb => List.mem_cons_of_mem _ hb) i (o := o) (List.mem_cons_self ..) nU (ro.grow gs rfl)
                exact ek.nx _ _ _ _ _ _ rs2 ⟨gr1.trans gs, fun b hb => g1.own b (.inl hb)⟩ w1, ek.exE⟩
          | [], _, h => simp [chkS] at h
          | _ :: _, _ :: _, h => simp [chkS] at h
        | _ => simp [chkS] at h
      | _ => simp [chkS] at h
    | [], h => simp [chkS] at h
    | _ :: _ :: _, h => simp [chkS] at h
  | _ => simp [chkS] at h
theorem soundS_aug (i : Nat) (o : BO) (e : CE) {X : Cx} {W : WX} {st : Stmt} (S : SC C Γ nm cs k N sc X) (tk : Takes X W) (h : chkS N nm (cnam cs) sc (.aug i o e) st = true) : PS X st (tS C X.K W Γ (cval cs) (.aug i o e)) := by
  cases st with
  | AugAssign tg op v pos =>
    cases tg with
    | Name x px =>
      simp only [chkS, Bool.and_eq_true, decide_eq_true_eq] at h
      obtain ⟨⟨⟨⟨h1, h2⟩, rfl⟩, he⟩, ho⟩ := h
      have hl := hT_body S.hs S.fn x h2
      obtain ⟨t, pt, ot⟩ := aug_ok (X := X) o (by cases o <;> simp at ho <;> simp)
      have pe := soundE e S.cc S.hs tk he
      refine PS.imp (ps_aug S.cc.nd (by rw [S.cc.hN]; exact nameAt_ok h1) hl.1 pe pt hl.2) fun D σ H ⟨ω, β, ρ, U, env, h, R, rs, ⟨x, ex, w⟩, ek⟩ => ?_
      obtain ⟨v, ev, rv⟩ := rs.sl i _ ex
      exact ⟨v, ev, ω, β, ρ, U, env, h, _, _, rs, w, fun d v h1 ρ1 H1 rs1 g1 rv1 w1 => by
        obtain ⟨y, rfl, w1⟩ := w1
        exact ot (RD.grow g1.gr rv) rv1 w1 fun z w rz q => ek.nx _ _ _ _ _ _ (rs1.set i rz) g1.s q, ek.exE⟩
    | _ => simp [chkS] at h
  | _ => simp [chkS] at h
theorem soundS_setix (i : Nat) (kk : CE) (e : CE) {X : Cx} {W : WX} {st : Stmt} (S : SC C Γ nm cs k N sc X) (tk : Takes X W) (h : chkS N nm (cnam cs) sc (.setix i kk e) st = true) : PS X st (tS C X.K W Γ (cval cs) (.setix i kk e)) := by
  cases st with
  | Assign tgs v pos =>
    match tgs, h with
    | [tg], h =>
      cases tg with
      | Subscript xo y ps =>
        cases xo with
        | Name x px =>
          simp only [chkS, Bool.and_eq_true, Bool.not_eq_true'] at h
          obtain ⟨⟨⟨⟨h1, h2⟩, hk⟩, he⟩, hv⟩ := h
          have pk := soundE kk S.cc S.hs tk hk
          have pe := soundE e S.cc S.hs tk he
          have pl := (plainE hk).slice
          have pg : PG X (.Subscript (.Name x px) y ps) _ := pg_sub (varPE (p := px) S h1 h2) pk (PSet.or set_list (set_dict (by have := S.cc.room.un; omega))) (fun v => by cases y <;> first | rfl | exact absurd rfl (pl _ _ _ _))
          refine PS.imp (ps_asg pe pg (sole_no hv) (stores_no (fun _ _ _ _ _ _ z => (by cases z)) fun _ _ z => (by cases z)) (each_one rfl)) fun D σ H ⟨ω, β, ρ, U, env, h, R, rs, w, ek⟩ => ?_
          obtain ⟨o, eo, w⟩ := w
          obtain ⟨a, es, ha, _⟩ := varDget rs eo
          refine ⟨ω, β, ρ, U, env, h, _, _, rs, w, fun d v h1 ρ1 H1 rs1 g1 rv1 w1 => ⟨_, es, ?_⟩, ek.exE⟩
          refine ⟨ω, β, ρ1, U, env, h1, _, _, rs1, w1, fun u vu h2 ρ2 H2 rs2 g2 rv2 w2 => ?_, upX g1 ek.exE⟩
          obtain ⟨x, y, rfl, rfl, w2⟩ := w2
          have rx := RD.grow g2.gr rv1
          obtain ⟨a2, es2, _, ro⟩ := varDget rs2 eo
          rw [es] at es2
          cases es2
          rcases w2 with ⟨xs, z, j, rfl, rfl, ej, w2⟩ | ⟨o', ep, w2⟩
          · obtain ⟨vs, h3, h4⟩ := ro
            cases rv2
            obtain ⟨rs3, g3⟩ := rs2.wr eo es ha (.lst (vs.set j v)) (o' := .lst (xs.set j x)) fun g => ⟨_, upd_same, (h4.set rx j).grow g⟩
            exact .inl ⟨a, vs, z, j, rfl, rfl, h3, ixN_set h4 ej, ek.nx _ _ _ _ _ _ rs3 ((g1.trans g2).s.trans g3) w2⟩
          · obtain ⟨un, dp, mu, rg⟩ := put_ok ro ep rv2 rx
            obtain ⟨rs3, g3⟩ := rs2.wr eo es ha mu (o' := o') rg
            exact .inr ⟨a, _, rfl, dp, ek.nx _ _ _ _ _ _ rs3 ((g1.trans g2).s.trans g3) w2⟩
        | _ => simp [chkS] at h
      | _ => simp [chkS] at h
    | [], h => simp [chkS] at h
    | _ :: _ :: _, h => simp [chkS] at h
  | _ => simp [chkS] at h
theorem soundS_app (i : Nat) (e : CE) {X : Cx} {W : WX} {st : Stmt} (S : SC C Γ nm cs k N sc X) (tk : Takes X W) (h : chkS N nm (cnam cs) sc (.app i e) st = true) : PS X st (tS C X.K W Γ (cval cs) (.app i e)) := by
  cases st with
  | Expr v pos =>
    cases v with
    | Call fn xs kw c =>
      cases fn with
      | Attribute ob m ap =>
        cases ob with
        | Name x px =>
          match xs, kw, h with
          | [v], [], h =>
            simp only [chkS, Bool.and_eq_true, decide_eq_true_eq] at h
            obtain ⟨⟨⟨⟨h1, h2⟩, rfl⟩, hb⟩, he⟩ := h
            have pe := soundE e S.cc S.hs tk he
            have s1 := star_cons (es := []) (env := X.env) (plainE he).star
            refine PS.imp (ps_expr (pe_bm PySem.F.plainAttrs_list PySem.F.slot_list_append PySem.F.type_list_append mt_append (varPE (p := px) S h1 h2) (pa_cons pe pa_nil s1) rfl (by rw [s1]; rfl) hb s1 rfl)) fun D σ H ⟨ω, β, ρ, U, env, h, R, rs, ⟨xs, eo, w⟩, ek⟩ => ?_
            obtain ⟨a, es, ha, vs, h3, h4⟩ := varDget rs eo
            refine ⟨_, es, .inl ⟨rfl, vs, SqL.of h3⟩, ω, β, ρ, U, env, h, _, _, rs, w, fun d v h1 ρ1 H1 rs1 g1 rv1 w1 => ?_, ek.exE⟩
            obtain ⟨y, rfl, hl, w1⟩ := w1
            obtain ⟨rs3, g3⟩ := rs1.wr eo es ha (.lst (vs ++ [v])) (o' := .lst (xs ++ [y])) fun g => ⟨_, upd_same, ((h4.grow g1.gr).append (.cons rv1 .nil)).grow g⟩
            exact ⟨a, vs, v, rfl, rfl, (g1.own a (.inr ha)).trans h3, by rw [← h4.length]; exact hl, ek.nx _ _ _ _ _ _ rs3 (g1.s.trans g3) w1⟩
          | [], _, h => simp [chkS] at h
          | _ :: _ :: _, _, h => simp [chkS] at h
          | [_], _ :: _, h => simp [chkS] at h
        | _ => simp [chkS] at h
      | _ => simp [chkS] at h
    | _ => simp [chkS] at h
  | _ => simp [chkS] at h
theorem soundS_ext (i : Nat) (l : LE) {X : Cx} {W : WX} {st : Stmt} (S : SC C Γ nm cs k N sc X) (tk : Takes X W) (h : chkS N nm (cnam cs) sc (.ext i l) st = true) : PS X st (tS C X.K W Γ (cval cs) (.ext i l)) := by
  cases st with
  | Expr v pos =>
    cases v with
    | Call fn xs kw c =>
      cases fn with
      | Attribute ob m ap =>
        cases ob with
        | Name x px =>
          match xs, kw, h with
          | [v], [], h =>
            simp only [chkS, Bool.and_eq_true, decide_eq_true_eq] at h
            obtain ⟨⟨⟨⟨h1, h2⟩, rfl⟩, hb⟩, he⟩ := h
            have pe := soundL l S.cc S.hs tk he
            have s1 := star_cons (es := []) (env := X.env) (plainL he).star
            refine PS.imp (ps_expr (pe_bm PySem.F.plainAttrs_list PySem.F.slot_list_extend PySem.F.type_list_extend mt_extend (varPE (p := px) S h1 h2) (pa_cons pe pa_nil s1) rfl (by rw [s1]; rfl) hb s1 rfl)) fun D σ H ⟨ω, β, ρ, U, env, h, R, rs, ⟨xs, eo, w⟩, ek⟩ => ?_
            obtain ⟨a, es, ha, vs, h3, h4⟩ := varDget rs eo
            refine ⟨_, es, .inl ⟨rfl, vs, SqL.of h3⟩, ω, β, ρ, U, env, h, _, _, rs, w, fun d v h1 ρ1 H1 rs1 g1 rv1 w1 p hp => ?_, ek.exE⟩
            have l1 := rs1.hr.laid hp (.lst v)
            have rs2 := rs1.step l1.1 l1.2
            have gg := g1.trans l1.2
            obtain ⟨rs3, g3⟩ := rs2.wr eo es ha (.lst (vs ++ v)) (o' := .lst (xs ++ d)) fun g => ⟨_, upd_same, ((h4.grow gg.gr).append (rv1.grow l1.2.gr)).grow g⟩
            exact ⟨a, p, vs, v, rfl, rfl, (gg.own a (.inr ha)).trans h3, upd_same, by rw [← h4.length, ← rv1.length]; exact w1.1, ek.nx _ _ _ _ _ _ rs3 (gg.s.trans g3) w1.2⟩
          | [], _, h => simp [chkS] at h
          | _ :: _ :: _, _, h => simp [chkS] at h
          | [_], _ :: _, h => simp [chkS] at h
        | _ => simp [chkS] at h
      | _ => simp [chkS] at h
    | _ => simp [chkS] at h
  | _ => simp [chkS] at h
theorem soundS_extV (i : Nat) (j : Nat) {X : Cx} {W : WX} {st : Stmt} (S : SC C Γ nm cs k N sc X) (tk : Takes X W) (h : chkS N nm (cnam cs) sc (.extV i j) st = true) : PS X st (tS C X.K W Γ (cval cs) (.extV i j)) := by
  cases st with
  | Expr v pos =>
    cases v with
    | Call fn xs kw c =>
      cases fn with
      | Attribute ob m ap =>
        cases ob with
        | Name x px =>
          match xs, kw, h with
          | [], _, h => simp [chkS] at h
          | _ :: _ :: _, _, h => simp [chkS] at h
          | [_], _ :: _, h => simp [chkS] at h
          | [v], [], h =>
            cases v with
            | Name y py =>
              simp only [chkS, Bool.and_eq_true, decide_eq_true_eq] at h
              obtain ⟨⟨⟨⟨⟨h1, h2⟩, rfl⟩, hb⟩, h5⟩, h6⟩ := h
              have pe := varPE (p := py) S h5 h6
              refine PS.imp (ps_expr (pe_bm PySem.F.plainAttrs_list PySem.F.slot_list_extend PySem.F.type_list_extend mt_extend (varPE (p := px) S h1 h2) (pa_cons pe pa_nil) rfl rfl hb rfl rfl)) fun D σ H ⟨ω, β, ρ, U, env, h, R, rs, ⟨xs, ys, eo, eo2, hl, w⟩, ek⟩ => ?_
              obtain ⟨a, es, ha, vs, h3, h4⟩ := varDget rs eo
              obtain ⟨a2, es2, ha2, vs2, h7, h8⟩ := varDget rs eo2
              obtain ⟨rs3, g3⟩ := rs.wr eo es ha (.lst (vs ++ vs2)) (o' := .lst (xs ++ ys)) fun g => ⟨_, upd_same, (h4.append h8).grow g⟩
              exact ⟨_, es, .inl ⟨rfl, vs, SqL.of h3⟩, _, es2, a, a2, vs, vs2, rfl, rfl, h3, h7, by rw [← h4.length, ← h8.length]; exact hl, ek.nx _ _ _ _ _ _ rs3 g3 w⟩
            | _ => simp [chkS] at h
        | _ => simp [chkS] at h
      | _ => simp [chkS] at h
    | _ => simp [chkS] at h
  | _ => simp [chkS] at h
theorem soundS_clr (i : Nat) {X : Cx} {W : WX} {st : Stmt} (S : SC C Γ nm cs k N sc X) (tk : Takes X W) (h : chkS N nm (cnam cs) sc (.clr i) st = true) : PS X st (tS C X.K W Γ (cval cs) (.clr i)) := by
  cases st with
  | Expr v pos =>
    cases v with
    | Call fn xs kw c =>
      cases fn with
      | Attribute ob m ap =>
        cases ob with
        | Name x px =>
          match xs, kw, h with
          | [], [], h =>
            simp only [chkS, Bool.and_eq_true, decide_eq_true_eq] at h
            obtain ⟨⟨⟨h1, h2⟩, rfl⟩, hb⟩ := h
            refine PS.imp (ps_expr (pe_bm0 PySem.F.plainAttrs_list PySem.F.slot_list_clear PySem.F.type_list_clear mt_clear (varPE (p := px) S h1 h2) rfl hb)) fun D σ H ⟨ω, β, ρ, U, env, h, R, rs, ⟨xs, eo, w⟩, ek⟩ => ?_
            obtain ⟨a, es, ha, vs, h3, h4⟩ := varDget rs eo
            obtain ⟨rs3, g3⟩ := rs.wr eo es ha (.lst []) (o' := .lst []) fun g => ⟨_, upd_same, .nil⟩
            exact ⟨_, es, .inl ⟨rfl, vs, SqL.of h3⟩, a, vs, rfl, rfl, h3, ek.nx _ _ _ _ _ _ rs3 g3 w⟩
          | _ :: _, _, h => simp [chkS] at h
          | [], _ :: _, h => simp [chkS] at h
        | _ => simp [chkS] at h
      | _ => simp [chkS] at h
    | _ => simp [chkS] at h
  | _ => simp [chkS] at h
theorem soundS_exp (e : CE) {X : Cx} {W : WX} {st : Stmt} (S : SC C Γ nm cs k N sc X) (tk : Takes X W) (h : chkS N nm (cnam cs) sc (.exp e) st = true) : PS X st (tS C X.K W Γ (cval cs) (.exp e)) := by
  cases st with
  | Expr v pos =>
    simp only [chkS, Bool.and_eq_true, Bool.not_eq_true'] at h
    have pe := soundE e S.cc S.hs tk h.1
    refine PS.imp (ps_expr pe (swaps_no h.2)) fun D σ H ⟨ω, β, ρ, U, env, h, R, rs, w, ek⟩ => ?_
    exact ⟨ω, β, ρ, U, env, h, _, _, rs, w, fun d v h1 ρ1 H1 rs1 g1 rv1 w1 => ek.nx _ _ _ _ _ _ rs1 g1.s w1, ek.exE⟩
  | _ => simp [chkS] at h
theorem soundS_ret (e : CE) {X : Cx} {W : WX} {st : Stmt} (S : SC C Γ nm cs k N sc X) (tk : Takes X W) (h : chkS N nm (cnam cs) sc (.ret e) st = true) : PS X st (tS C X.K W Γ (cval cs) (.ret e)) := by
  cases st with
  | Return v pos =>
    cases v with
    | none => simp [chkS] at h
    | some v =>
      have pe := soundE e S.cc S.hs tk (by simpa [chkS] using h)
      refine PS.imp (ps_ret pe) fun D σ H ⟨ω, β, ρ, U, env, h, R, rs, w, ek⟩ => ?_
      obtain ⟨U', rs', g'⟩ := rs.frzAll
      have ek' := ek.step g'
      exact ⟨ω, β, ρ, U', frzE env, h, _, _, rs', w, fun d v h1 ρ1 H1 rs1 g1 rv1 w1 => by
        obtain ⟨x, rfl, w1⟩ := w1
        exact ek'.rt (.d x) v h1 ρ1 U' H1 rs1.hr g1.s rv1 w1, ek'.exE⟩
  | _ => simp [chkS] at h
theorem soundS_retM (i : Nat) {X : Cx} {W : WX} {st : Stmt} (S : SC C Γ nm cs k N sc X) (tk : Takes X W) (h : chkS N nm (cnam cs) sc (.retM i) st = true) : PS X st (tS C X.K W Γ (cval cs) (.retM i)) := by
  cases st with
  | Return v pos =>
    cases v with
    | none => simp [chkS] at h
    | some v =>
      cases v with
      | Name x p =>
        simp only [chkS, Bool.and_eq_true] at h
        refine PS.imp (ps_ret (varPE S h.1 h.2)) fun D σ H ⟨ω, β, ρ, U, env, h, R, rs, ⟨o, eo, w⟩, ek⟩ => ?_
        obtain ⟨a, es, ha, ro⟩ := varDget rs eo
        exact ⟨_, es, ek.rt (.mv o) _ _ _ _ _ rs.hr .refl ⟨a, rfl, ha, ro⟩ w⟩
      | _ => simp [chkS] at h
  | _ => simp [chkS] at h
theorem soundS_retN  {X : Cx} {W : WX} {st : Stmt} (S : SC C Γ nm cs k N sc X) (tk : Takes X W) (h : chkS N nm (cnam cs) sc .retN st = true) : PS X st (tS C X.K W Γ (cval cs) .retN) := by
  cases st with
  | Return v pos =>
    cases v with
    | some v => simp [chkS] at h
    | none => exact PS.imp ps_retN fun D σ H ⟨ω, β, ρ, U, env, h, R, rs, w, ek⟩ => ek.rt (.d .non) .non _ _ _ _ rs.hr .refl RD.non w
  | _ => simp [chkS] at h
theorem soundS_retL (l : LE) {X : Cx} {W : WX} {st : Stmt} (S : SC C Γ nm cs k N sc X) (tk : Takes X W) (h : chkS N nm (cnam cs) sc (.retL l) st = true) : PS X st (tS C X.K W Γ (cval cs) (.retL l)) := by
  cases st with
  | Return v pos =>
    cases v with
    | none => simp [chkS] at h
    | some v =>
      have pe := soundL l S.cc S.hs tk (by simpa [chkS] using h)
      refine PS.imp (ps_ret pe) fun D σ H ⟨ω, β, ρ, U, env, h, R, rs, w, ek⟩ => ?_
      exact ⟨ω, β, ρ, U, env, h, _, _, rs, w, fun d v h1 ρ1 H1 rs1 g1 rv1 w1 p hp => by
        obtain ⟨hr, g⟩ := rs1.hr.adopt hp (.lst v)
        have own : ∀ a, a ∈ ω ∨ a ∈ U → upd H1 p (.lst v) a = H1 a := fun a ha => upd_ne fun z => by
          subst z
          exact rs1.hr.fresh hp (ha.elim .inl fun q => .inr (.inr q))
        exact ek.rt (.mv (.lst d)) (.ref p) h1 ρ1 (p :: U) _ hr (g1.s.trans ⟨g, fun a ha => own a (.inl ha)⟩) ⟨p, rfl, List.mem_cons_self .., v, upd_same, rv1.grow g⟩ w1, ek.exE⟩
  | _ => simp [chkS] at h
theorem soundS_exte (i : Nat) (e : CE) {X : Cx} {W : WX} {st : Stmt} (S : SC C Γ nm cs k N sc X) (tk : Takes X W) (h : chkS N nm (cnam cs) sc (.exte i e) st = true) : PS X st (tS C X.K W Γ (cval cs) (.exte i e)) := by
  cases st with
  | Expr v pos =>
    cases v with
    | Call fn xs kw c =>
      cases fn with
      | Attribute ob m ap =>
        cases ob with
        | Name x px =>
          match xs, kw, h with
          | [v], [], h =>
            simp only [chkS, Bool.and_eq_true, decide_eq_true_eq] at h
            obtain ⟨⟨⟨⟨h1, h2⟩, rfl⟩, hb⟩, he⟩ := h
            have pe := soundE e S.cc S.hs tk he
            have s1 := star_cons (es := []) (env := X.env) (plainE he).star
            refine PS.imp (ps_expr (pe_bm PySem.F.plainAttrs_list PySem.F.slot_list_extend PySem.F.type_list_extend mt_extendT (varPE (p := px) S h1 h2) (pa_cons pe pa_nil s1) rfl (by rw [s1]; rfl) hb s1 rfl)) fun D σ H ⟨ω, β, ρ, U, env, h, R, rs, ⟨xs, eo, w⟩, ek⟩ => ?_
            obtain ⟨a, es, ha, vs, h3, h4⟩ := varDget rs eo
            refine ⟨_, es, .inl ⟨rfl, vs, SqL.of h3⟩, ω, β, ρ, U, env, h, _, _, rs, w, fun d v h1 ρ1 H1 rs1 g1 rv1 w1 => ?_, ek.exE⟩
            obtain ⟨ys, rfl, hl, w1⟩ := w1
            cases rv1 with
            | tup sv rys =>
              obtain ⟨rs3, g3⟩ := rs1.wr eo es ha (.lst (vs ++ _)) (o' := .lst (xs ++ ys)) fun g => ⟨_, upd_same, ((h4.grow g1.gr).append rys).grow g⟩
              exact ⟨a, _, vs, _, rfl, rfl, (g1.own a (.inr ha)).trans h3, SqT.of sv, by rw [← h4.length, ← rys.length]; exact hl, ek.nx _ _ _ _ _ _ rs3 (g1.s.trans g3) w1⟩
          | [], _, h => simp [chkS] at h
          | _ :: _ :: _, _, h => simp [chkS] at h
          | [_], _ :: _, h => simp [chkS] at h
        | _ => simp [chkS] at h
      | _ => simp [chkS] at h
    | _ => simp [chkS] at h
  | _ => simp [chkS] at h
theorem soundS_asgV (i : Nat) (j : Nat) {X : Cx} {W : WX} {st : Stmt} (S : SC C Γ nm cs k N sc X) (tk : Takes X W) (h : chkS N nm (cnam cs) sc (.asgV i j) st = true) : PS X st (tS C X.K W Γ (cval cs) (.asgV i j)) := by
  cases st with
  | Assign tgs v pos =>
    match tgs, h with
    | [tg], h =>
      cases v with
      | Name y py =>
        simp only [chkS, Bool.and_eq_true] at h
        obtain ⟨⟨⟨hg, h1⟩, h2⟩, hb⟩ := h
        refine PS.imp (goodS (g := .nm i) S hg hb (varPE (p := py) S h1 h2) fun _ _ _ _ z => (by cases z)) fun D σ H ⟨ω, β, ρ, U, env, h, R, rs, ⟨o, eo, ne, hi, w⟩, ek⟩ => ?_
        obtain ⟨a, es, ha, ro⟩ := varDget rs eo
        exact ⟨_, es, ek.nx _ _ _ _ _ _ (rs.mvOwn eo es ne hi) .refl w⟩
      | _ => simp [chkS] at h
    | [], h => simp [chkS] at h
    | _ :: _ :: _, h => simp [chkS] at h
  | _ => simp [chkS] at h
theorem soundS_brk  {X : Cx} {W : WX} {st : Stmt} (S : SC C Γ nm cs k N sc X) (tk : Takes X W) (h : chkS N nm (cnam cs) sc .brk st = true) : PS X st (tS C X.K W Γ (cval cs) .brk) := by
  cases st with
  | Break p => exact PS.imp ps_break fun D σ H ⟨ω, β, ρ, U, env, h, R, rs, w, ek⟩ => ek.bk _ _ _ _ _ _ rs .refl w
  | _ => simp [chkS] at h
theorem soundS_cnt  {X : Cx} {W : WX} {st : Stmt} (S : SC C Γ nm cs k N sc X) (tk : Takes X W) (h : chkS N nm (cnam cs) sc .cnt st = true) : PS X st (tS C X.K W Γ (cval cs) .cnt) := by
  cases st with
  | Continue p => exact PS.imp ps_continue fun D σ H ⟨ω, β, ρ, U, env, h, R, rs, w, ek⟩ => ek.ct _ _ _ _ _ _ rs .refl w
  | _ => simp [chkS] at h
theorem soundS_pas  {X : Cx} {W : WX} {st : Stmt} (S : SC C Γ nm cs k N sc X) (tk : Takes X W) (h : chkS N nm (cnam cs) sc .pas st = true) : PS X st (tS C X.K W Γ (cval cs) .pas) := by
  cases st with
  | Pass p => exact PS.imp ps_pass fun D σ H ⟨ω, β, ρ, U, env, h, R, rs, w, ek⟩ => ek.nx _ _ _ _ _ _ rs .refl w
  | Expr v p =>
    cases v with
    | Constant c kk pc =>
      cases c with
      | str z => exact PS.imp ps_doc fun D σ H ⟨ω, β, ρ, U, env, h, R, rs, w, ek⟩ => ek.nx _ _ _ _ _ _ rs .refl w
      | _ => simp [chkS] at h
    | _ => simp [chkS] at h
  | _ => simp [chkS] at h
theorem soundS_asgD1 (i : Nat) (kk : CE) (e : CE) {X : Cx} {W : WX} {st : Stmt} (S : SC C Γ nm cs k N sc X) (tk : Takes X W) (h : chkS N nm (cnam cs) sc (.asgD1 i kk e) st = true) : PS X st (tS C X.K W Γ (cval cs) (.asgD1 i kk e)) := by
  cases st with
  | Assign tgs v pos =>
    match tgs, h with
    | [], h => simp [chkS] at h
    | _ :: _ :: _, h => simp [chkS] at h
    | [tg], h =>
    cases v with
    | Dict ks vs pd =>
      match ks, vs, h with
      | [some x], [y], h =>
        simp only [chkS, Bool.and_eq_true] at h
        obtain ⟨⟨hg, hk⟩, he⟩ := h
        have pg := soundG S.cc.hN S.cc.nd (hT_body S.hs S.fn) S.cc.calm hg
        have htn : ∃ y py, tg = .Name y py := by cases tg <;> first | exact ⟨_, _, rfl⟩ | (simp [chkG] at hg; done)
        obtain ⟨yn, py, rfl⟩ := htn
        have pk := soundE kk S.cc S.hs tk hk
        have pe := soundE e S.cc S.hs tk he
        refine PS.imp (ps_asg (pe_disp1T (by have := S.cc.room.un; omega) pk pe) pg (sole_no rfl) (stores_no (fun _ _ _ _ _ _ z => (by cases z)) fun _ _ z => (by cases z)) (each_one rfl)) fun D σ H ⟨ω, β, ρ, U, env, h, R, rs, w, ek⟩ p hp => ?_
        have nf := rs.hr.fresh hp
        obtain ⟨hr0, g0⟩ := rs.hr.adopt hp (.dT [])
        have rs0 := rs.more hp (.dT [])
        have s0 : SStp ω H ρ U (upd H p (.dT [])) ρ (p :: U) := ⟨g0, fun a ha => upd_ne fun z => nf (.inl (z ▸ ha))⟩
        have ek0 := ek.step s0
        refine ⟨ω, β, ρ, p :: U, env, h, _, _, rs0, w, fun d vx h1 ρ1 H1 rs1 g1 rv1 w1 => ⟨ω, β, ρ1, p :: U, env, h1, _, _, rs1, w1, fun d2 vy h2 ρ2 H2 rs2 g2 rv2 w2 => ?_, upX g1 ek0.exE⟩, ek0.exE⟩
        obtain ⟨u, z, kl, rfl, rfl, eu, w2⟩ := w2
        have mp : p ∈ p :: U := List.mem_cons_self ..
        have e2 : H2 p = some (.dT []) := ((g1.trans g2).own p (.inr mp)).trans upd_same
        have ru := RD.grow g2.gr rv1
        cases ru with
        | tup st rt =>
          have ev := rt.keysOf (ks := kl) (by simpa [G.D.keys] using eu)
          subst ev
          obtain ⟨hr3, g3⟩ := rs2.hr.write (h := h2) mp (.dT [(kl, vy)])
          have own : ∀ a, a ∈ ω ∨ a ∈ U → upd H2 p (.dT [(kl, vy)]) a = H a := fun a ha => by
            have na : a ≠ p := fun q => nf (by subst q; exact ha.elim .inl fun q => .inr (.inr q))
            rw [upd_ne na, (g1.trans g2).own a (ha.elim .inl fun q => .inr (List.mem_cons_of_mem _ q)), upd_ne na]
          have gg := (g0.trans (g1.trans g2).gr).trans g3
          have rs4 := rs.setOwn hr3 gg own (fun a ha => List.mem_cons_of_mem _ ha) i (o := .dT [(kl, z)]) mp (fun q => nf (.inr (.inr q))) ⟨_, upd_same, .cons ⟨rfl, RD.grow g3 rv2⟩ .nil⟩
          exact ⟨e2, _, kl, rfl, st, ek.nx _ _ _ _ _ _ rs4 ⟨gg, fun a ha => own a (.inl ha)⟩ w2⟩
        | _ => simp [G.D.keys] at eu
      | [], _, h => simp [chkS] at h
      | [none], _, h => simp [chkS] at h
      | _ :: _ :: _, _, h => simp [chkS] at h
      | [some _], [], h => simp [chkS] at h
      | [some _], _ :: _ :: _, h => simp [chkS] at h
    | _ => simp [chkS] at h
  | _ => simp [chkS] at h
theorem soundS_setixE (o : CE) (kk : CE) (e : CE) {X : Cx} {W : WX} {st : Stmt} (S : SC C Γ nm cs k N sc X) (tk : Takes X W) (h : chkS N nm (cnam cs) sc (.setixE o kk e) st = true) : PS X st (tS C X.K W Γ (cval cs) (.setixE o kk e)) := by
  cases st with
  | Assign tgs v pos =>
    match tgs, h with
    | [tg], h =>
      cases tg with
      | Subscript xo y ps =>
          simp only [chkS, Bool.and_eq_true, Bool.not_eq_true'] at h
          obtain ⟨⟨⟨ho, hk⟩, he⟩, hv⟩ := h
          have po := soundE o S.cc S.hs tk ho
          have pk := soundE kk S.cc S.hs tk hk
          have pe := soundE e S.cc S.hs tk he
          have pl := (plainE hk).slice
          have pg : PG X (.Subscript xo y ps) _ := pg_sub po pk (PSet.or set_list (set_dict (by have := S.cc.room.un; omega))) (fun v => by cases y <;> first | rfl | exact absurd rfl (pl _ _ _ _))
          refine PS.imp (ps_asg pe pg (sole_no hv) (stores_no (fun _ _ _ _ _ _ z => (by cases z)) fun _ _ z => (by cases z)) (each_one rfl)) fun D σ H ⟨ω, β, ρ, U, env, h, R, rs, w, ek⟩ => ?_
          refine ⟨ω, β, ρ, U, env, h, _, _, rs, w, fun d v h1 ρ1 H1 rs1 g1 rv1 w1 => ?_, ek.exE⟩
          refine ⟨ω, β, ρ1, U, env, h1, _, _, rs1, w1, fun xo vo h2 ρ2 H2 rs2 g2 rv2 w2 => ?_, upX g1 ek.exE⟩
          refine ⟨ω, β, ρ2, U, env, h2, _, _, rs2, w2, fun u vu h3 ρ3 H3 rs3 g3 rv3 w3 => ?_, upX (g1.trans g2) ek.exE⟩
          obtain ⟨x, n, ob, y, rfl, rfl, eo, rfl, w3⟩ := w3
          have rx := RD.grow g3.gr (RD.grow g2.gr rv1)
          have ro := RD.grow g3.gr rv2
          have gg := (g1.trans g2).trans g3
          cases ro with
          | ref hn =>
          obtain ⟨a, ea, ro⟩ := rs3.hr.hp n ob eo
          rw [hn] at ea
          cases ea
          rcases w3 with ⟨xs, z, j, rfl, rfl, ej, w3⟩ | ⟨o', ep, w3⟩
          · obtain ⟨vs, h4, h5⟩ := ro
            cases rv3
            obtain ⟨a1, a2⟩ := rs3.hr.mutL hn (h5.set rx j)
            exact .inl ⟨_, vs, z, j, rfl, rfl, h4, ixN_set h5 ej, ek.nx _ _ _ _ _ _ (rs3.step a1 a2) (gg.trans a2).s w3⟩
          · obtain ⟨un, dp, mu, rg⟩ := put_ok ro ep rv3 rx
            obtain ⟨a1, a2⟩ := rs3.hr.mut hn mu (o := o') rg
            exact .inr ⟨_, _, rfl, dp, ek.nx _ _ _ _ _ _ (rs3.step a1 a2) (gg.trans a2).s w3⟩
      | _ => simp [chkS] at h
    | [], h => simp [chkS] at h
    | _ :: _ :: _, h => simp [chkS] at h
  | _ => simp [chkS] at h
theorem soundS_setf (k0 : Nat) (o : CE) (f : Str) (e : CE) {X : Cx} {W : WX} {st : Stmt} (S : SC C Γ nm cs k N sc X) (tk : Takes X W) (h : chkS N nm (cnam cs) sc (.setf k0 o f e) st = true) : PS X st (tS C X.K W Γ (cval cs) (.setf k0 o f e)) := by
  cases st with
  | Assign tgs v pos =>
    match tgs, h with
    | [tg], h =>
      cases tg with
      | Attribute ob m ps =>
          simp only [chkS, Bool.and_eq_true, Bool.not_eq_true', decide_eq_true_eq] at h
          obtain ⟨⟨⟨⟨⟨rfl, hf⟩, hk⟩, ho⟩, he⟩, hv⟩ := h
          have po := soundE o S.cc S.hs tk ho
          have pe := soundE e S.cc S.hs tk he
          refine PS.imp (ps_fld po pe (swaps_no hv)) fun D σ H ⟨ω, β, ρ, U, env, h, R, rs, w, ek⟩ => ?_
          refine ⟨ω, β, ρ, U, env, h, _, _, rs, w, fun d v h1 ρ1 H1 rs1 g1 rv1 w1 => ?_, ek.exE⟩
          refine ⟨ω, β, ρ1, U, env, h1, _, _, rs1, w1, fun xo vo h2 ρ2 H2 rs2 g2 rv2 w2 => ?_, upX g1 ek.exE⟩
          obtain ⟨x, n, c, fs, rfl, rfl, eo, hc, hl, w2⟩ := w2
          obtain ⟨a, dx, ws, rfl, hn, ha, rk⟩ := ins_ok rs2.hr rv2 eo
          have cl := S.cc.cls c (by omega)
          have rx := RD.grow g2.gr rv1
          obtain ⟨a1, a2⟩ := rs2.hr.mut hn (u := .ins (C c) dx (L2.putF m v ws)) ⟨fun _ z => (by cases z), fun _ _ z => (by cases z)⟩ (o := .ins c (putFD m x fs)) fun g => ⟨dx, _, upd_same, (RK.putF rx rk).grow g⟩
          exact ⟨a, C c, dx, ws, rfl, ha, cl.1, cl.2 m (by simpa using hf), by rw [← rk.len]; exact hl, ek.nx _ _ _ _ _ _ (rs2.step a1 a2) ((g1.trans g2).trans a2).s w2⟩
      | _ => simp [chkS] at h
    | [], h => simp [chkS] at h
    | _ :: _ :: _, h => simp [chkS] at h
  | _ => simp [chkS] at h
theorem soundS_raise (c : Nat) {X : Cx} {W : WX} {st : Stmt} (S : SC C Γ nm cs k N sc X) (tk : Takes X W) (h : chkS N nm (cnam cs) sc (.raise c) st = true) : PS X st (tS C X.K W Γ (cval cs) (.raise c)) := by
  cases st with
  | Raise e from_ pos =>
    match e, from_, h with
    | some (.Call (.Name x px) [.Constant (.str m) j p2] [] p), none, h =>
      simp only [chkS, Bool.and_eq_true, decide_eq_true_eq] at h
      obtain ⟨g1, g2⟩ := glB_ok S.hs h.1
      obtain ⟨m1, m2, m3, m4⟩ := S.cc.exn c x h.2
      refine PS.imp (ps_raise S.cc.calm tk (pmk_own PySem.F.excBase_ValueError m2 m1 m3 m4 g1 g2)) fun D σ H ⟨ω, β, ρ, U, env, h, R, rs, w, ek⟩ => ?_
      exact ek.ex ⟨c, []⟩ _ none _ _ _ _ _ _ rs .refl ⟨rfl, .inl ⟨rfl, rfl⟩⟩ w
  | _ => simp [chkS] at h
mutual
theorem soundS : ∀ (c : CS) {X : Cx} {W : WX} {st : Stmt}, SC C Γ nm cs k N sc X → Takes X W → chkS N nm (cnam cs) sc c st = true → PS X st (tS C X.K W Γ (cval cs) c)
  | .asg g e, X, W, st, S, tk, h => soundS_asg g e S tk h
  | .asgO i l, X, W, st, S, tk, h => soundS_asgO i l S tk h
  | .asgD i, X, W, st, S, tk, h => soundS_asgD i S tk h
  | .asgC i f es, X, W, st, S, tk, h => soundS_asgC i f es S tk h
  | .aug i o e, X, W, st, S, tk, h => soundS_aug i o e S tk h
  | .setix i kk e, X, W, st, S, tk, h => soundS_setix i kk e S tk h
  | .app i e, X, W, st, S, tk, h => soundS_app i e S tk h
  | .ext i l, X, W, st, S, tk, h => soundS_ext i l S tk h
  | .extV i j, X, W, st, S, tk, h => soundS_extV i j S tk h
  | .clr i, X, W, st, S, tk, h => soundS_clr i S tk h
  | .exp e, X, W, st, S, tk, h => soundS_exp e S tk h
  | .ret e, X, W, st, S, tk, h => soundS_ret e S tk h
  | .retM i, X, W, st, S, tk, h => soundS_retM i S tk h
  | .retN, X, W, st, S, tk, h => soundS_retN S tk h
  | .retL l, X, W, st, S, tk, h => soundS_retL l S tk h
  | .exte i e, X, W, st, S, tk, h => soundS_exte i e S tk h
  | .ite t a b, X, W, st, S, tk, h => by
    cases st with
    | If c x y pos =>
      simp only [chkS, Bool.and_eq_true] at h
      obtain ⟨⟨ht, ha⟩, hb⟩ := h
      have pt := (soundT t S.cc S.hs tk ht).1
      have pa := soundSs a S tk ha
      have pb := soundSs b S tk hb
      refine PS.imp (ps_if pt pa pb) fun D σ H ⟨ω, β, ρ, U, env, h, R, rs, w, ek⟩ => ?_
      exact ⟨ω, β, ρ, U, env, h, _, _, rs, w, fun d v h1 ρ1 H1 rs1 g1 ev w1 => by
        subst ev
        by_cases hk : d = true
        · rw [if_pos hk] at w1 ⊢
          exact ⟨ω, β, ρ1, U, env, h1, R, rs1, w1, ek.step g1.s⟩
        · rw [if_neg hk] at w1 ⊢
          exact ⟨ω, β, ρ1, U, env, h1, R, rs1, w1, ek.step g1.s⟩, ek.exE⟩
    | _ => simp [chkS] at h
  | .whl t a, X, W, st, S, tk, h => by
    cases st with
    | While c x els pos =>
      cases els with
      | cons _ _ => simp [chkS] at h
      | nil =>
      simp only [chkS, Bool.and_eq_true] at h
      have pt := (soundT t S.cc S.hs tk h.1).1
      have pa := soundSs a S tk h.2
      refine PS.imp (ps_while S.po pt pa) fun D σ H ⟨ω, β, ρ, U, env, h, R, rs, ⟨Wv, ⟨m0, w0⟩, turn⟩, ek⟩ => ?_
      refine ⟨fun m σ' H' => ∃ env' h' ρ' U', RS C X.K β ω ρ' U' env' h' σ' H' ∧ SStp ω H ρ U H' ρ' U' ∧ Wv m env' h', ⟨m0, env, h, ρ, U, rs, .refl, w0⟩, ?_⟩
      rintro m σ1 H1 ⟨env1, h1, ρ1, U1, rs1, g1, w1⟩
      have ek1 := ek.step g1
      refine ⟨ω, β, ρ1, U1, env1, h1, _, _, rs1, turn m env1 h1 w1, fun d v h2 ρ2 H2 rs2 g2 ev w2 => ?_, ek1.exE⟩
      subst ev
      by_cases hk : d = true
      · rw [if_pos hk] at w2 ⊢
        refine ⟨fun σ' H' => ∃ m', m' < m ∧ ∃ env' h' ρ' U', RS C X.K β ω ρ' U' env' h' σ' H' ∧ SStp ω H ρ U H' ρ' U' ∧ Wv m' env' h', fun _ _ z => z, ω, β, ρ2, U1, env1, h2, _, rs2, w2, ?_⟩
        have ek2 := ek1.step g2.s
        have gg := g1.trans g2.s
        exact ⟨fun env' h' ρ' U' σ' H' rs' st' ⟨m', hm, q⟩ => ⟨m', hm, env', h', ρ', U', rs', gg.trans st', q⟩, ek2.nx, fun env' h' ρ' U' σ' H' rs' st' ⟨m', hm, q⟩ => ⟨m', hm, env', h', ρ', U', rs', gg.trans st', q⟩, ek2.rt, ek2.ex⟩
      · rw [if_neg hk] at w2 ⊢
        exact ek1.nx _ _ _ _ _ _ rs2 g2.s w2
    | _ => simp [chkS] at h
  | .for g it a, X, W, st, S, tk, h => by
    cases st with
    | For tg iter x els pos =>
      cases els with
      | cons _ _ => simp [chkS] at h
      | nil =>
      simp only [chkS, Bool.and_eq_true] at h
      obtain ⟨⟨hg, hi⟩, ha⟩ := h
      exact for_ok S tk hg hi (soundSs a S tk ha)
    | _ => simp [chkS] at h
  | .asgV i j, X, W, st, S, tk, h => soundS_asgV i j S tk h
  | .forO g i a, X, W, st, S, tk, h => by
    cases st with
    | For tg iter x els pos =>
      cases els with
      | cons _ _ => simp [chkS] at h
      | nil =>
      simp only [chkS, Bool.and_eq_true] at h
      obtain ⟨⟨hg, hi⟩, ha⟩ := h
      refine PS.imp (for_ok S tk hg hi (soundSs a S tk ha)) fun D σ H ⟨ω, β, ρ, U, env, h, R, rs, ⟨xs, eo, w⟩, ek⟩ => ?_
      obtain ⟨b, es, hb, _⟩ := varDget rs eo
      have hi' : i < env.length := (List.getElem?_eq_some_iff.mp eo).1
      exact ⟨b :: ω, _, ρ, U.filter (· ≠ b), env.set i (some (.bor (.lst xs))), h, borR i (.lst xs) R, rs.lend eo es hb, ⟨.bor (.lst xs), List.getElem?_set_self hi', .inr (fun o z => by cases z), xs, rfl, w⟩, ek.lend hb (rs.hr.du b hb)⟩
    | _ => simp [chkS] at h
  | .brk, X, W, st, S, tk, h => soundS_brk S tk h
  | .cnt, X, W, st, S, tk, h => soundS_cnt S tk h
  | .pas, X, W, st, S, tk, h => soundS_pas S tk h
  | .frz i, X, W, st, S, tk, h => by simp [chkS] at h
  | .asg2 _ _ _ _, X, W, st, S, tk, h => by simp [chkS] at h
  | .asgD1 i kk e, X, W, st, S, tk, h => soundS_asgD1 i kk e S tk h
  | .setixE o kk e, X, W, st, S, tk, h => soundS_setixE o kk e S tk h
  | .setf k0 o f e, X, W, st, S, tk, h => soundS_setf k0 o f e S tk h
  | .tryX kk l x n a s, X, W, st, S, tk, h => by
    cases st with
    | Try body hds orelse fin pos =>
      match hds, orelse, fin, h with
      | [.ExceptHandler (some (.Name y py)) z (s0 :: sr) ph], [], [], h =>
        simp only [chkS, Bool.and_eq_true, decide_eq_true_eq] at h
        obtain ⟨⟨⟨⟨⟨⟨hg, rfl⟩, hxl⟩, hk⟩, hn⟩, he⟩, ha⟩ := h
        obtain ⟨cv0, cv, pe0, hu, hN, hl⟩ := xl_pe (Y := X) (p := py) S.cc S.hs rfl hg hxl
        have pb : ∀ (W : WX) (pn : List (Addr × Obj)) (xe : Value → Shared → Prop), Takes (X.tr pn xe) W → PassesOwn (model X.prog X.w) X.A X.env xe → PSs (X.tr pn xe) body (tSs C X.K W Γ (cval cs) a) := fun W pn xe tk' po => soundSs a (S.tr pn xe po) tk' ha
        have su : ∀ (a0 : Addr) (oe : Obj) (cls : Value) (d : Option Addr) (pn : List (Addr × Obj)), Zc cls d oe → (∃ vs, oe.data = .fields vs) → PSs (X.suite a0 ((a0, oe) :: pn)) (s0 :: sr) (fun D σ H => ∃ c, (c < nm.nx ∧ cls = .ref (C (c + 1000)) ∧ d = none) ∧ ehT n s c a0 D σ H) :=
          fun a0 oe cls d pn hz hf => PSs.ex fun c ⟨h1, h2, h3⟩ => by subst h2; subst h3; exact eh_ok S h1 hz hf he
        have fin : ∀ {ω : List Addr} {H' : Hp} {ρ' U' : List Addr} {x : EX} {dd : Option Addr}, RX C X.K ω ρ' U' H' x (.ref (C (x.c + 1000))) dd → x.fs = [] → dd = none := fun rx f0 => by
          rcases rx.2 with r | r
          · exact r.2
          · exact absurd f0 r.1
        cases n with
        | none =>
          cases z with
          | some _ => simp [chkXN] at hn
          | none =>
          refine PS.imp (ps_try_only S.st S.fr hN tk pb su) fun D σ H ⟨ω, β, ρ, U, env, h, R, rs, w, ek⟩ => ?_
          refine ⟨ω, β, ρ, U, env, h, _, rs, w, ek.body fun x env' h' ρ' U' σ' H' hk' rs' st' h1 h2 dd rx => ?_⟩
          refine ⟨l.contains x.c, (hl x.c (by omega)).1, fun hc a0 na => ?_, fun hc => h2 dd rx hc⟩
          obtain ⟨f0, q⟩ := h1 hc
          exact ⟨x.c, ⟨by omega, rfl, fin rx f0⟩, eh_end ek rs' st' (eh_ne he) q a0⟩
        | some i =>
          cases z with
          | none => simp [chkXN] at hn
          | some z =>
          simp only [chkXN, Bool.and_eq_true] at hn
          refine PS.imp (ps_try_as (i := i) S.st S.fr S.cc.nd (by rw [S.cc.hN]; exact nameAt_ok hn.1) (by show X.env.scope.names.lookup z = _; rw [S.hs]; exact loc1B_ok hn.2) hN tk pb su) fun D σ H ⟨ω, β, ρ, U, env, h, R, rs, w, ek⟩ => ?_
          refine ⟨ω, β, ρ, U, env, h, _, rs, w, ek.body fun x env' h' ρ' U' σ' H' hk' rs' st' h1 h2 dd rx => ?_⟩
          refine ⟨l.contains x.c, (hl x.c (by omega)).1, fun hc a0 na => ?_, fun hc => h2 dd rx hc⟩
          obtain ⟨f0, q⟩ := h1 hc
          exact ⟨x.c, ⟨by omega, rfl, fin rx f0⟩, eh_end ek rs' st' (eh_ne he) q a0⟩
    | _ => simp [chkS] at h
  | .raise c, X, W, st, S, tk, h => soundS_raise c S tk h
termination_by c => sizeOf c
theorem soundSs : ∀ (c : CSs) {X : Cx} {W : WX} {sts : List Stmt}, SC C Γ nm cs k N sc X → Takes X W → chkSs N nm (cnam cs) sc c sts = true → PSs X sts (tSs C X.K W Γ (cval cs) c)
  | .nil, X, W, sts, S, tk, h => by
    cases sts with
    | cons _ _ => simp [chkSs] at h
    | nil => exact PSs.imp pss_nil fun D σ H ⟨ω, β, ρ, U, env, h, R, rs, w, ek⟩ => ek.nx _ _ _ _ _ _ rs .refl w
  | .cons a r, X, W, sts, S, tk, h => by
    by_cases hf : ∃ i, a = .frz i
    · obtain ⟨i, rfl⟩ := hf
      have pr := soundSs r S tk (sts := sts) (by simpa [chkSs] using h)
      refine PSs.imp pr fun D σ H ⟨ω, β, ρ, U, env, h, R, rs, ⟨xs, ex, w⟩, ek⟩ => ?_
      obtain ⟨U', _, rs', g'⟩ := rs.freeze ex
      exact ⟨ω, β, ρ, U', _, h, R, rs', w, ek.step g'⟩
    · cases sts with
      | nil => cases a <;> first | (simp [chkSs] at h; done) | exact absurd ⟨_, rfl⟩ hf
      | cons st rest =>
        have h' : chkS N nm (cnam cs) sc a st = true ∧ chkSs N nm (cnam cs) sc r rest = true := by
          cases a <;> first | (simpa [chkSs] using h; done) | exact absurd ⟨_, rfl⟩ hf
        have pa := soundS a S tk h'.1
        have pr := soundSs r S tk h'.2
        refine PSs.imp (pss_cons pa pr) fun D σ H ⟨ω, β, ρ, U, env, h, R, rs, w, ek⟩ => ?_
        exact ⟨ω, β, ρ, U, env, h, _, rs, w, ⟨fun env' h' ρ' U' σ' H' rs' st' q => ⟨ω, β, ρ', U', env', h', R, rs', q, ek.step st'⟩, ek.bk, ek.ct, ek.rt, ek.ex⟩⟩
termination_by c => sizeOf c
decreasing_by all_goals (simp_wf <;> omega)
end
end
end G

set_option maxHeartbeats 4000000
/-! Core13: defs at their levels; a law's end. -/
namespace G
open PySem PySem.Spec PyProof.Rows L2

def clsBody (s : Stmt) : List Stmt := match s with
  | .ClassDef _ _ _ b _ _ _ _ _ _ _ => b
  | _ => []
/-- a def: where it stands, its row, its names by slot, its parameters, its text in the core; a method: its class's number, its name -/
structure DI where
  d : He.DefD
  x : Str
  N : List Str
  ps : List Str
  fd : FD
  mc : Option (Nat × Str) := none
/-- a module: its defs and methods; its classes, with where their __init__ stands in the table; its exceptions' classes; what isinstance and except may name (a built-in's type), with the exceptions below it; the fields of instances -/
structure Tabs where
  tbl : List DI
  cls : List (Str × Nat) := []
  xns : List Str := []
  xl : List (Str × Option String × List Nat) := []
  fl : List Str := []
def Tabs.nt (t : Tabs) : NT where
  fn := fun f => (t.tbl[f]?).bind fun y => match y.mc with
    | none => some y.x
    | some _ => none
  xn := fun c => t.xns[c]?
  nx := t.xns.length
  xl := t.xl.map fun q => (q.1, q.2.2)
  cl := fun c => t.cls[c]?
  nc := t.cls.length
  fl := t.fl
  mt := fun f => (t.tbl[f]?).bind DI.mc
def scopeB (N ps : List Str) (sc : Scope) : Bool := (match sc.kind with
  | .function => true
  | _ => false) && !sc.isCoroutine && !sc.isGenerator && decide N.Nodup && decide (N.take ps.length = ps) && (ps.all fun x => locB sc x) && (sc.names.all fun y => match y.2 with
  | .free => false
  | _ => true)
theorem scopeB_ok {N ps : List Str} {sc : Scope} (h : scopeB N ps sc = true) : FnScope N ps sc := by
  unfold scopeB at h
  simp only [Bool.and_eq_true, Bool.not_eq_true', decide_eq_true_eq, List.all_eq_true] at h
  obtain ⟨⟨⟨⟨⟨⟨h1, h2⟩, h3⟩, h4⟩, h5⟩, h6⟩, h7⟩ := h
  refine ⟨?_, h2, h3, h4, h5, fun x hx => locB_ok (h6 x hx), fun y hy e => ?_⟩
  · split at h1
    · assumption
    · cases h1
  · have := h7 y hy
    rw [e] at this
    cases this
def diB (t : Tabs) (cn : Nat → Option Str) (y : DI) : Bool := scopeB y.N y.ps y.d.scope && chkSs y.N t.nt cn y.d.scope y.fd.body y.d.body && decide (y.fd.np = y.ps.length) && decide (y.fd.ns = y.N.length) && (match y.mc with
  | none => decide (y.d.at_ = (y.x, none))
  | some (c, m) => (match t.cls[c]? with
    | some q => decide (y.d.at_ = (q.1, some m))
    | none => false)) && y.d.dfl.isEmpty && y.d.kwd.isEmpty
/-- how a def without defaults binds -/
def BindN (y : DI) : Prop := ∀ (kV doc pm : Value) (an : Option Addr) (cdv ct : Value) (us : List Value), us.length = y.ps.length → bindArgs (PySem.W.fnOf y.d.name y.d.qual y.d.params y.d.body y.d.scope .none kV doc pm an cdv ct) ⟨us, []⟩ = pure (y.ps.zip us)

section
variable {C : Nat → Addr} {P : Program} {w : World} {K : PySem.W.Frag} {mg : Str → Option Value} {base : Heap}
theorem start_rs {ω ρ : List Addr} {h : AH} {H : Hp} {as : List VV} {vs : List V} {fd : FD} {N : List Str} (hr : HR C K ω ρ [] h H) (rv : RVs C K ω ρ [] H as vs) (hl : vs.length ≤ N.length) (hn : fd.ns = N.length) :
    RS C K (fun i => match as[i]?, vs[i]? with
      | some (.bw _), some (.ref a) => some a
      | _, _ => none) ω ρ [] (startE fd as) h (start N vs) H := by
  have el : as.length = vs.length := Paired.length rv
  have get : ∀ {as : List VV} {vs : List V} {i : Nat} {a : VV}, RVs C K ω ρ [] H as vs → as[i]? = some a → ∃ v, vs[i]? = some v ∧ RV C K ω ρ [] H a v := by
    intro as vs i a r
    induction r generalizing i with
    | nil => intro e; simp at e
    | cons r t ih =>
      cases i with
      | zero => intro e; simp at e; subst e; exact ⟨_, rfl, r⟩
      | succ i => intro e; obtain ⟨v, h1, h2⟩ := ih (i := i) (by simpa using e); exact ⟨v, by simpa using h1, h2⟩
  have key : ∀ (i : Nat) (s : Sl), (startE fd as)[i]? = some (some s) → ∃ a v, as[i]? = some a ∧ vs[i]? = some v ∧ argSl a = some s ∧ RV C K ω ρ [] H a v ∧ (start N vs)[i]? = some (some v) := fun i s e => by
    unfold startE at e
    by_cases hi : i < as.length
    · rw [List.getElem?_append_left (by simpa using hi), List.getElem?_map] at e
      cases ea : as[i]? with
      | none => rw [ea] at e; cases e
      | some a =>
        rw [ea] at e
        obtain ⟨v, ev, r⟩ := get rv ea
        refine ⟨a, v, rfl, ev, by simpa using e, r, ?_⟩
        unfold L2.start
        rw [List.getElem?_append_left (by simpa using el ▸ hi), List.getElem?_map, ev]
        rfl
    · rw [List.getElem?_append_right (by simpa using hi), List.getElem?_replicate] at e
      split at e <;> cases e
  have noTw : ∀ (o : AO) (v : V), ¬ RV C K ω ρ [] H (.tw o) v := fun o v ⟨a, _, z, _⟩ => by simp at z
  refine ⟨hr, ?_, fun i s e => ?_, fun i j o o' a e1 e2 _ _ => ?_, fun i o e => ?_⟩
  · unfold startE L2.start
    simp
    omega
  · obtain ⟨a, v, ea, ev, es, r, e3⟩ := key i s e
    refine ⟨v, e3, ?_⟩
    cases a with
    | d d => cases es; exact r
    | tw o => exact absurd r (noTw _ _)
    | bw o => cases es; exact r
  · obtain ⟨b, v, ea, ev, es, r, e3⟩ := key i _ e1
    cases b with
    | d d => cases es
    | tw o => cases es
    | bw o => cases es
  · obtain ⟨b, v, ea, ev, es, r, e3⟩ := key i _ e
    cases b with
    | d d => cases es
    | tw o => exact absurd r (noTw _ _)
    | bw o =>
      obtain ⟨a, rfl, _, _⟩ := r
      exact ⟨a, by rw [ea, ev], e3⟩
variable {T : Nat → Option FD} {nm : NT} {cs : Nat → Option (Str × D)}
/-- a def's body -/
theorem body_ok {k kk : Nat} {y : DI} {X : Cx} {W : WX} (S : SC C (wpF T (cval cs) k) nm cs kk y.N y.d.scope X) (tk : Takes X W) (hc : chkSs y.N nm (cnam cs) y.d.scope y.fd.body y.d.body = true) (hnp : y.fd.np = y.ps.length) (hns : y.fd.ns = y.N.length) (hps : y.ps.length ≤ y.N.length)
    {f : Nat} (hT : T f = some y.fd) {vs : List V} {H : Hp} {Q : VK} {E : XK} (hW : ∀ cls dd σ H, E cls dd H → W cls dd σ H) (sp : spI C X.K (wpF T (cval cs) (k + 1)) f vs H Q E) :
    ∃ t, PSs X y.d.body t ∧ t { nx := fun _ H' => Q .non H', rt := Q } (start y.N vs) H := by
  obtain ⟨ω, ρ, h, as, Q', X', hr, rv, g, hq, hx⟩ := sp
  rcases g with ⟨fd, eT, hlen, w⟩ | ⟨eT, _⟩
  case inr => rw [hT] at eT; cases eT
  rw [hT] at eT
  cases eT
  refine ⟨_, soundSs y.fd.body S tk hc, ω, _, ρ, [], _, h, _, start_rs (N := y.N) hr rv (by rw [← Paired.length rv, hlen, hnp]; exact hps) hns, w, ?_⟩
  exact ⟨fun env' h' ρ' U' σ' H' rs st q => hq (.d .non) .non h' ρ' U' H' rs.hr st RD.non q, fun _ _ _ _ _ _ _ _ z => z.elim, fun _ _ _ _ _ _ _ _ z => z.elim,
    fun r v h' ρ' U' H' hr st rr q => hq r v h' ρ' U' H' hr st rr q, fun x cls dd env' h' ρ' U' σ' H' rs st rx q => hW _ _ _ _ (hx x cls dd h' ρ' U' H' rs.hr st rx q)⟩
theorem sp_len {k f : Nat} {n : Nat} (hf : f < 1000) (hT : ∀ fd, T f = some fd → fd.np = n) {vs : List V} {H : Hp} {Q : VK} {E : XK} (sp : spI C K (wpF T (cval cs) k) f vs H Q E) : vs.length = n := by
  obtain ⟨ω, ρ, h, as, Q', X', hr, rv, g, hq, hx⟩ := sp
  cases k with
  | zero => exact g.elim
  | succ k =>
    rcases g with ⟨fd, eT, hlen, _⟩ | ⟨_, z, _⟩
    · rw [← Paired.length rv, hlen, hT fd eT]
    · omega
abbrev tT' (tbl : List DI) : Nat → Option FD := fun f => (tbl[f]?).map DI.fd
/-- where the classes stand -/
def Cof (K : PySem.W.Frag) (t : Tabs) : Nat → Addr := fun n => if n < 1000 then He.ga K (((t.cls[n]?).map (·.1)).getD ("" : Str)) else He.ga K ((t.xns[n - 1000]?).getD ("" : Str))
/-- what is known of the module -/
structure Mo (C : Nat → Addr) (P : Program) (w : World) (K : PySem.W.Frag) (mg : Str → Option Value) (cs : Nat → Option (Str × D)) (t : Tabs) : Prop where
  defs : ∀ y ∈ t.tbl, (∃ fd : FuncData, FunD K y.d.name y.d.qual y.d.params y.d.body y.d.scope [] [] (He.fAd K y.d.at_) fd) ∧ (y.mc = none → mg y.x = some (.ref (He.fAd K y.d.at_))) ∧ ∀ c m, y.mc = some (c, m) → Cls K (C c) ∧ Meth K (C c) m (He.fAd K y.d.at_)
  cst : ∀ j x d, cs j = some (x, d) → ∃ u v, mg x = some u ∧ RelV v u ∧ ∀ H ρ m, RD K H ρ m d v
  blt : ∀ x ∈ bltNames, mg x = none
  chk : ∀ y ∈ t.tbl, diB t (cnam cs) y = true
  bind : ∀ y ∈ t.tbl, BindN y
  small : t.tbl.length ≤ 1000
  exn : ∀ (c : Nat) (x : Str), t.xns[c]? = some x → mg x = some (.ref (C (c + 1000))) ∧ PySem.W.excIn K (C (c + 1000)) He.veBase "ValueError.__new__" = true ∧ PySem.W.keepIn K (.ref (C (c + 1000))) = true ∧ PySem.W.subIn K (.ref (C (c + 1000))) (.type "BaseException") = some true ∧
    PySem.W.typeIn K (.ref (C (c + 1000))) = some (.type "type")
  exc : ∀ c, c < t.xns.length → ExcC K (C (c + 1000))
  exl : ∀ x l, xlAt t.nt.xl x = some l → ∃ (cc : V) (cv : Value), ClsV cc cv ∧ RelV cc cv ∧ (mg x = some cv ∨ (mg x = none ∧ bootBuiltins x = some cv ∧ x ≠ "__name__")) ∧
    ∀ c, c < t.xns.length → PySem.W.exmOne K (.ref (C (c + 1000))) cv = some (l.contains c) ∧ PySem.W.kitOne K (.ref (C (c + 1000))) cv = some (l.contains c)
  cls : ∀ c, c < t.cls.length → Cls K (C c) ∧ ∀ f ∈ t.fl, NoAttr K (C c) f
  mks : ∀ (c : Nat) (x : Str) (f : Nat), t.cls[c]? = some (x, f) → mg x = some (.ref (C c)) ∧ ∃ y, t.tbl[f]? = some y ∧ Mk K (C c) (He.fAd K y.d.at_)
variable {t : Tabs}
theorem Mo.parts (M : Mo C P w K mg cs t) {y : DI} (hy : y ∈ t.tbl) : FnScope y.N y.ps y.d.scope ∧ chkSs y.N t.nt (cnam cs) y.d.scope y.fd.body y.d.body = true ∧ y.fd.np = y.ps.length ∧ y.fd.ns = y.N.length := by
  have h := M.chk y hy
  unfold diB at h
  simp only [Bool.and_eq_true, decide_eq_true_eq] at h
  obtain ⟨⟨⟨⟨⟨⟨b1, b2⟩, b3⟩, b4⟩, _⟩, _⟩, _⟩ := h
  exact ⟨scopeB_ok b1, b2, b3, b4⟩
theorem scope_ple {N ps : List Str} {sc : Scope} (S : FnScope N ps sc) : ps.length ≤ N.length := by
  have h := congrArg List.length S.pre
  rw [List.length_take] at h
  omega
/-- the defs of the table do what the core says, to the depth k -/
structure Lev (C : Nat → Addr) (P : Program) (w : World) (K : PySem.W.Frag) (mg : Str → Option Value) (base : Heap) (cs : Nat → Option (Str × D)) (t : Tabs) (k : Nat) : Prop where
  fns : ∀ (f : Nat) (y : DI), t.tbl[f]? = some y → ∃ fd, PySem.W.keepIn K (.ref (He.fAd K y.d.at_)) = true ∧ Binds K fd y.ps [] ∧ FnOk P w K mg base (L2.CX P w) (k + 1) (He.fAd K y.d.at_) fd y.ps (spI C K (wpF (tT' t.tbl) (cval cs) k) f)
  mks : ∀ (f : Nat) (y : DI), t.tbl[f]? = some y → ∃ fd, Binds K fd y.ps [] ∧ FnOk P w K mg base (L2.CX P w) k (He.fAd K y.d.at_) fd y.ps (spI C K (wpF (tT' t.tbl) (cval cs) k) (f + 1000))
theorem Mo.cc (M : Mo C P w K mg cs t) {k : Nat} {N : List Str} {X : Cx} (e1 : X.prog = P) (e2 : X.w = w) (e3 : X.K = K) (e4 : X.mg = mg) (e5 : X.base = base) (hN : X.N = N) (nd : N.Nodup) (calm : X.calm = true) (room : Room (k + 1) X.A)
    (L : Lev C P w K mg base cs t k) : CC C (wpF (tT' t.tbl) (cval cs) k) t.nt cs (k + 1) N X := by
  subst e1; subst e2; subst e3; subst e4; subst e5; subst hN
  refine ⟨rfl, calm, room, nd, fun f x e => ?_, M.cst, M.blt, fun c x e => ?_, M.exc, M.exl, M.cls, fun f c m e => ?_, fun c x f e => ?_, fun f x e => ?_⟩
  · cases ey : t.tbl[f]? with
    | none => simp [Tabs.nt, ey] at e
    | some y =>
      have hy : y ∈ t.tbl := List.mem_of_getElem? ey
      cases em : y.mc with
      | some q => simp [Tabs.nt, ey, em] at e
      | none =>
        have : y.x = x := by simpa [Tabs.nt, ey, em] using e
        subst this
        obtain ⟨fd, q2, q3, q4⟩ := L.fns f y ey
        exact ⟨_, fd, y.ps, (M.defs y hy).2.1 em, q2, q3, q4⟩
  · obtain ⟨a1, a2, a3, a4, a5⟩ := M.exn c x e
    exact ⟨a1, a2, a3, raises_own a4 a5⟩
  · cases ey : t.tbl[f]? with
    | none => simp [Tabs.nt, ey] at e
    | some y =>
      have hy : y ∈ t.tbl := List.mem_of_getElem? ey
      have em : y.mc = some (c, m) := by simpa [Tabs.nt, ey] using e
      obtain ⟨fd, q2, q3, q4⟩ := L.fns f y ey
      obtain ⟨b1, b2⟩ := (M.defs y hy).2.2 c m em
      exact ⟨_, fd, y.ps, b1, b2, q3, q4⟩
  · obtain ⟨a1, y, ey, a2⟩ := M.mks c x f e
    obtain ⟨fd, q3, q4⟩ := L.mks f y ey
    exact ⟨k, _, fd, y.ps, a1, a2, q3, q4, room⟩
  · cases ey : t.tbl[f]? with
    | none => simp [Tabs.nt, ey] at e
    | some y =>
      have hy : y ∈ t.tbl := List.mem_of_getElem? ey
      cases em : y.mc with
      | some q => simp [Tabs.nt, ey, em] at e
      | none =>
        have : y.x = x := by simpa [Tabs.nt, ey, em] using e
        subst this
        obtain ⟨fd, q3, q4⟩ := L.mks f y ey
        exact ⟨k, _, fd, y.ps, (M.defs y hy).2.1 em, q3, q4, room⟩
theorem fnOk_none {n : Nat} {fa : Addr} {fd : FuncData} {ps : List Str} {f : Nat} : FnOk P w K mg base (L2.CX P w) n fa fd ps (spI C K (wpF T (cval cs) 0) f) :=
  ⟨fun vs H Q E sp => by obtain ⟨_, _, _, _, _, _, _, _, g, _⟩ := sp; exact g.elim, fun A outer s H args us vs Q E _ _ _ _ sp => by obtain ⟨_, _, _, _, _, _, _, _, g, _⟩ := sp; exact g.elim⟩
theorem spI_down (M : Mo C P w K mg cs t) {k f : Nat} {vs : List V} {H : Hp} {Q : VK} {E : XK} (h : spI C K (wpF (tT' t.tbl) (cval cs) (k + 1)) (f + 1000) vs H Q E) : spI C K (wpF (tT' t.tbl) (cval cs) k) f vs H Q E := by
  obtain ⟨ω, ρ, hh, as, Q', X', hr, rv, g, hq, hx⟩ := h
  have hn : tT' t.tbl (f + 1000) = none := by
    have := M.small
    simp only [tT']
    rw [List.getElem?_eq_none (by omega)]; rfl
  rcases g with ⟨fd, e, _⟩ | ⟨_, _, g⟩
  · rw [hn] at e; cases e
  · rw [Nat.add_sub_cancel] at g
    exact ⟨ω, ρ, hh, as, Q', X', hr, rv, g, hq, hx⟩
theorem Mo.lev (M : Mo C P w K mg cs t) : ∀ k : Nat, Lev C P w K mg base cs t k := by
  intro k
  induction k with
  | zero =>
    refine ⟨fun f y e => ?_, fun f y e => ?_⟩
    · obtain ⟨⟨fd, F⟩, _⟩ := M.defs y (List.mem_of_getElem? e)
      exact ⟨fd, F.kp, F.bindsN (ps := y.ps) (M.bind y (List.mem_of_getElem? e)), fnOk_none⟩
    · obtain ⟨⟨fd, F⟩, _⟩ := M.defs y (List.mem_of_getElem? e)
      exact ⟨fd, F.bindsN (ps := y.ps) (M.bind y (List.mem_of_getElem? e)), fnOk_none⟩
  | succ k ih =>
    refine ⟨fun f y e => ?_, fun f y e => ?_⟩
    · have hy : y ∈ t.tbl := List.mem_of_getElem? e
      obtain ⟨⟨fd, F⟩, _⟩ := M.defs y hy
      obtain ⟨S, hc, hnp, hns⟩ := M.parts hy
      have eT : tT' t.tbl f = some y.fd := by simp [tT', e]
      have hs : f < 1000 := by have := M.small; have := (List.getElem?_eq_some_iff.mp e).1; omega
      refine ⟨fd, F.kp, F.bindsN (ps := y.ps) (M.bind y hy), F.ok S (fun vs H Q E sp => sp_len (n := y.ps.length) hs (fun fd e => by rw [eT] at e; cases e; exact hnp) sp) fun cdv A outer s H vs Q E hr sp => ?_⟩
      refine body_ok (W := fun cls dd _ H => E cls dd H) ⟨M.cc rfl rfl rfl rfl rfl rfl S.nd rfl hr ih, rfl, fun _ _ => rfl, passes_of rfl, S.kind, rfl, rfl⟩ (takes_of rfl rfl rfl rfl) hc hnp hns (scope_ple S) eT (fun _ _ _ _ z => z) sp
    · obtain ⟨fd, q2, q3, q4⟩ := ih.fns f y e
      exact ⟨fd, q3, ⟨fun vs H Q E sp => q4.len vs H Q E (spI_down M sp), fun A outer s H args us vs Q E h1 h2 h3 h4 sp => q4.run A outer s H args us vs Q E h1 h2 h3 h4 (spI_down M sp)⟩⟩
/-- the law's def: nothing leaves it -/
theorem Mo.law (M : Mo C P w K mg cs t) {k f : Nat} {y : DI} (e : t.tbl[f]? = some y) (hm : y.mc = none) : ∃ fd, mg y.x = some (.ref (He.fAd K y.d.at_)) ∧ (∀ (s : Shared) (us : List Value), us.length = y.ps.length → BindsTo s fd ⟨us, []⟩ (y.ps.zip us)) ∧
    ∀ base : Heap, FnOk P w K mg base CX0 (k + 2) (He.fAd K y.d.at_) fd y.ps (fun vs H Q _ => spI C K (wpF (tT' t.tbl) (cval cs) (k + 1)) f vs H Q fun _ _ _ => False) := by
  have hy : y ∈ t.tbl := List.mem_of_getElem? e
  obtain ⟨⟨fd, F⟩, hg, _⟩ := M.defs y hy
  obtain ⟨S, hc, hnp, hns⟩ := M.parts hy
  have eT : tT' t.tbl f = some y.fd := by simp [tT', e]
  have hs : f < 1000 := by have := M.small; have := (List.getElem?_eq_some_iff.mp e).1; omega
  refine ⟨fd, hg hm, FunD.bindsA (ps := y.ps) F (M.bind y hy), fun base => F.ok S (fun vs H Q E sp => sp_len (n := y.ps.length) hs (fun fd e => by rw [eT] at e; cases e; exact hnp) sp) fun cdv A outer s H vs Q E hr sp => ?_⟩
  exact body_ok (W := W0) ⟨M.cc rfl rfl rfl rfl rfl rfl S.nd rfl hr (M.lev (base := base) k), rfl, fun _ _ => rfl, passes_of rfl, S.kind, rfl, rfl⟩ takes0 hc hnp hns (scope_ple S) eT (fun _ _ _ _ z => z) sp
/-- what a law's proof gives -/
theorem spI_law {Γ : GM} {f : Nat} {ns : List Int} (h : Γ f [.d (.fz (ns.map .int))] [] (fun r _ => r = .d (.bl true)) fun _ _ => False) {H : Hp} {a : Addr} (hS : SqL K H a (ns.map V.int)) : spI C K Γ f [.ref a] H (fun v _ => v = .bl true) fun _ _ _ => False := by
  refine ⟨[], [], [], [.d (.fz (ns.map .int))], _, _, ⟨rfl, fun n o e => by simp at e, List.nodup_nil, fun a z => by simp at z, fun a z => by simp at z, fun a z => ?_⟩, .cons (RD.fz ?_ (RDs.of_ints ns)) .nil, h, fun r v h' ρ' U' H' _ _ rr q => ?_, fun _ _ _ _ _ _ _ _ _ _ z => z⟩
  · rcases z with z | z | z <;> simp at z
  · rcases hS with (hS | ⟨o, hS⟩) | hS
    · exact .inl ⟨hS, fun z => by rcases z with z | z | z <;> simp at z⟩
    · exact .inr (.inl ⟨o, hS⟩)
    · exact .inr (.inr hS)
  · subst q
    cases rr
    rfl
end

/-! ### the head's facts, by the tables -/
section
open He
/-- what isinstance asks of an exception's class -/
def excCB (K : PySem.W.Frag) (D : Addr) : Bool := eqO (PySem.W.findIn K (.ref D) "__getattribute__") (some (some (.builtin "BaseException.__getattribute__"))) && (eqO (PySem.W.findIn K (.ref D) "__getattr__") (some none) &&
  (decide (PySem.W.subIn K (.ref D) (.type "BaseException") = some true) && (PySem.W.hasDictIn K D && (eqO (PySem.W.findIn K (.ref D) "__class__") (some (some (.builtin "object.__class__"))) &&
  (eqO (PySem.W.specialIn K (.builtin "object.__class__") "__get__") (some (some (.builtin "getset_descriptor.__get__"))) && (decide (PySem.W.takesIn K (.builtin "object.__class__") = some true) && decide (PySem.W.mroIn K D (.type "object") = some true)))))))
theorem excCB_ok {K : PySem.W.Frag} {D : Addr} (h : excCB K D = true) : ExcC K D := by
  obtain ⟨h1, h⟩ := ba h
  obtain ⟨h2, h⟩ := ba h
  obtain ⟨h3, h⟩ := ba h
  obtain ⟨h4, h⟩ := ba h
  obtain ⟨h5, h⟩ := ba h
  obtain ⟨h6, h⟩ := ba h
  obtain ⟨h7, h8⟩ := ba h
  exact ⟨eqO_ok h1, eqO_ok h2, of_decide_eq_true h3, h4, eqO_ok h5, eqO_ok h6, of_decide_eq_true h7, of_decide_eq_true h8⟩
/-- a class that may be named: own, or a built-in's type -/
def cvOf (K : PySem.W.Frag) (q : Str × Option String × List Nat) : Value := match q.2.1 with
  | some T => .type T
  | none => .ref (ga K q.1)
def xlB (K : PySem.W.Frag) (t : Tabs) : Bool := t.xl.all fun q => ((List.range t.xns.length).all fun c => decide (PySem.W.exmOne K (.ref (Cof K t (c + 1000))) (cvOf K q) = some (q.2.2.contains c)) && decide (PySem.W.kitOne K (.ref (Cof K t (c + 1000))) (cvOf K q) = some (q.2.2.contains c))) &&
  (match q.2.1 with
  | some T => decide (bootBuiltins q.1 = some (.type T)) && decide (q.1 ≠ "__name__")
  | none => true)
def exB (t : Tabs) (K : PySem.W.Frag) : Bool := ((List.range t.xns.length).all fun c => excCB K (Cof K t (c + 1000))) && xlB K t
def csFa (q : Str × D) : Fa := match q.2 with
  | .int i => .int q.1 i
  | .str z => .str q.1 z
  | _ => .free "__no__"
def Tabs.fa (t : Tabs) (csl : List (Str × D)) : List Fa :=
  t.tbl.map (fun y => match y.mc with
    | none => .glo y.x
    | some (c, m) => .meth (((t.cls[c]?).map (·.1)).getD ("" : Str)) m) ++
  (bltNames.map .free ++ (t.cls.map (fun q => .glo q.1) ++ (t.cls.map (fun q => .cls q.1) ++ (t.cls.map (fun q => .mkr q.1) ++ (t.cls.flatMap (fun q => t.fl.map fun f => .noat q.1 f) ++
  (t.xns.map .glo ++ (t.xns.map .exc ++ (t.xl.map (fun q => match q.2.1 with
    | some _ => .free q.1
    | none => .glo q.1) ++ csl.map csFa))))))))
def csB (csl : List (Str × D)) : Bool := csl.all fun q => match q.2 with
  | .int _ => true
  | .str _ => true
  | _ => false
/-- the table is in order -/
def Tabs.okB (t : Tabs) (csl : List (Str × D)) : Bool := (t.tbl.all fun y => diB t (cnam fun j => csl[j]?) y) && (decide (t.tbl.length ≤ 1000) && (decide (t.cls.length ≤ 1000) && (csB csl && (t.cls.all fun q => match t.tbl[q.2]? with
  | some y => decide (y.d.at_ = (q.1, some ("__init__" : Str)))
  | none => false))))
theorem diB_at {t : Tabs} {cn : Nat → Option Str} {y : DI} (h : diB t cn y = true) : (y.mc = none → y.d.at_ = (y.x, none)) ∧ (∀ c m, y.mc = some (c, m) → ∃ q, t.cls[c]? = some q ∧ y.d.at_ = (q.1, some m)) ∧ y.d.dfl = [] ∧ y.d.kwd = [] := by
  unfold diB at h
  simp only [Bool.and_eq_true, List.isEmpty_iff] at h
  obtain ⟨⟨⟨_, h5⟩, h6⟩, h7⟩ := h
  refine ⟨fun e => ?_, fun c m e => ?_, h6, h7⟩
  · rw [e] at h5; exact of_decide_eq_true h5
  · rw [e] at h5
    simp only at h5
    split at h5
    · rename_i q eq
      exact ⟨q, eq, of_decide_eq_true h5⟩
    · cases h5
variable {P : Program} {w : World} {K : PySem.W.Frag} {mg : Str → Option Value} {fn : List DefD} {csl : List (Str × D)} {h : Heap}
theorem facts_of {fa : List Fa} (c : SaysD fa fn K) {f : Fa} (hf : f ∈ fa) : f.ok K = true := by
  obtain ⟨i, hi, e⟩ := List.mem_iff_getElem.mp hf
  exact c.fact i (by rw [List.getElem?_eq_getElem hi, e])
theorem mo_of {t : Tabs} (X : K.In h) (Gl : h.Ns mainGlobals mg) (c : SaysD (t.fa csl) (t.tbl.map DI.d) K) (ex : exB t K = true) (ok : t.okB csl = true) (bind : ∀ y ∈ t.tbl, BindN y) : Mo (Cof K t) P w K mg (fun j => csl[j]?) t := by
  obtain ⟨k1, ok⟩ := ba ok
  obtain ⟨k2, ok⟩ := ba ok
  obtain ⟨k3, ok⟩ := ba ok
  obtain ⟨k4, k5⟩ := ba ok
  obtain ⟨x1, x2⟩ := ba ex
  have small := of_decide_eq_true k2
  have smallc := of_decide_eq_true k3
  have F := fun {f : Fa} (hf : f ∈ t.fa csl) => facts_of c hf
  have cC : ∀ (n : Nat) (q : Str × Nat), t.cls[n]? = some q → Cof K t n = ga K q.1 := fun n q e => by
    have := (List.getElem?_eq_some_iff.mp e).1
    unfold Cof
    rw [if_pos (by omega), e]; rfl
  have cX : ∀ (n : Nat) (x : Str), t.xns[n]? = some x → Cof K t (n + 1000) = ga K x := fun n x e => by
    unfold Cof
    rw [if_neg (by omega), Nat.add_sub_cancel, e]; rfl
  have inA : ∀ {y : DI}, y ∈ t.tbl → (match y.mc with
      | none => Fa.glo y.x
      | some (c, m) => .meth (((t.cls[c]?).map (·.1)).getD ("" : Str)) m) ∈ t.fa csl := fun hy => List.mem_append_left _ (List.mem_map.mpr ⟨_, hy, rfl⟩)
  refine ⟨fun y hy => ?_, fun j x d e => ?_, fun x hx => ?_, fun y hy => List.all_eq_true.mp k1 y hy, bind, small, fun n x e => ?_, fun n hn => ?_, fun x l e => ?_, fun n hn => ?_, fun n x f e => ?_⟩
  · obtain ⟨a1, a2, a3, a4⟩ := diB_at (List.all_eq_true.mp k1 y hy)
    obtain ⟨i, hi, ei⟩ := List.mem_iff_getElem.mp hy
    have e2 : (t.tbl.map DI.d)[i]? = some y.d := by rw [List.getElem?_map, List.getElem?_eq_getElem hi, ei]; rfl
    obtain ⟨fd, Fd⟩ := c.def_ i e2
    have d1 : y.d.dvs K = [] := by unfold DefD.dvs; rw [a3]; rfl
    have d2 : y.d.kws K = [] := by unfold DefD.kws; rw [a4]; rfl
    rw [d1, d2] at Fd
    refine ⟨⟨fd, Fd⟩, fun em => ?_, fun n m em => ?_⟩
    · have q := F (inA hy)
      rw [em] at q
      have ea : fAd K y.d.at_ = ga K y.x := by rw [a1 em]; rfl
      rw [ea]
      exact glo_ok X Gl q
    · obtain ⟨q, eq, ea⟩ := a2 n m em
      have z := F (inA hy)
      rw [em] at z
      have en : ((t.cls[n]?).map (·.1)).getD ("" : Str) = q.1 := by rw [eq]; rfl
      simp only [en] at z
      have hq : q ∈ t.cls := List.mem_of_getElem? eq
      have e3 : fAd K y.d.at_ = ma K (ga K q.1) m := by rw [ea]; rfl
      rw [cC n q eq, e3]
      exact ⟨cls_ok (F (List.mem_append_right _ (List.mem_append_right _ (List.mem_append_right _ (List.mem_append_left _ (List.mem_map.mpr ⟨q, hq, rfl⟩)))))), meth_ok z⟩
  · have hq : (x, d) ∈ csl := List.mem_of_getElem? e
    have z := F (List.mem_append_right _ (List.mem_append_right _ (List.mem_append_right _ (List.mem_append_right _ (List.mem_append_right _ (List.mem_append_right _ (List.mem_append_right _ (List.mem_append_right _ (List.mem_append_right _ (List.mem_map.mpr ⟨_, hq, rfl⟩))))))))))
    have zb := List.all_eq_true.mp k4 _ hq
    cases d with
    | int i =>
      obtain ⟨u, hu⟩ := int_ok X Gl z
      exact ⟨_, .int i, hu, ⟨u, rfl⟩, fun _ _ _ => .int _⟩
    | str s =>
      obtain ⟨u, hu⟩ := str_ok X Gl z
      exact ⟨_, .str s, hu, ⟨u, rfl⟩, fun _ _ _ => .str _⟩
    | _ => cases zb
  · exact free_ok X Gl (F (List.mem_append_right _ (List.mem_append_left _ (List.mem_map.mpr ⟨x, hx, rfl⟩))))
  · have hx : x ∈ t.xns := List.mem_of_getElem? e
    rw [cX n x e]
    have z1 := F (List.mem_append_right _ (List.mem_append_right _ (List.mem_append_right _ (List.mem_append_right _ (List.mem_append_right _ (List.mem_append_right _ (List.mem_append_left _ (List.mem_map.mpr ⟨x, hx, rfl⟩))))))))
    have z2 := F (List.mem_append_right _ (List.mem_append_right _ (List.mem_append_right _ (List.mem_append_right _ (List.mem_append_right _ (List.mem_append_right _ (List.mem_append_right _ (List.mem_append_left _ (List.mem_map.mpr ⟨x, hx, rfl⟩)))))))))
    exact ⟨glo_ok X Gl z1, exc_ok z2⟩
  · exact excCB_ok (List.all_eq_true.mp x1 n (List.mem_range.mpr hn))
  · have key : ∀ (xs : List (Str × Option String × List Nat)), xlAt (xs.map fun q => (q.1, q.2.2)) x = some l → ∃ q ∈ xs, q.1 = x ∧ q.2.2 = l := by
      intro xs
      induction xs with
      | nil => intro e; cases e
      | cons q r ih =>
        intro e
        simp only [List.map_cons, xlAt] at e
        split at e
        · rename_i e1
          cases e
          exact ⟨q, by simp, e1, rfl⟩
        · obtain ⟨q', h1, h2⟩ := ih e
          exact ⟨q', by simp [h1], h2⟩
    obtain ⟨q, hq, rfl, rfl⟩ := key t.xl e
    have z := F (List.mem_append_right _ (List.mem_append_right _ (List.mem_append_right _ (List.mem_append_right _ (List.mem_append_right _ (List.mem_append_right _ (List.mem_append_right _ (List.mem_append_right _ (List.mem_append_left _ (List.mem_map.mpr ⟨q, hq, rfl⟩))))))))))
    obtain ⟨y1, y2⟩ := ba (List.all_eq_true.mp x2 q hq)
    have yk : ∀ n, n < t.xns.length → PySem.W.exmOne K (.ref (Cof K t (n + 1000))) (cvOf K q) = some (q.2.2.contains n) ∧ PySem.W.kitOne K (.ref (Cof K t (n + 1000))) (cvOf K q) = some (q.2.2.contains n) := fun n hn => by
      obtain ⟨u1, u2⟩ := ba (List.all_eq_true.mp y1 n (List.mem_range.mpr hn))
      exact ⟨of_decide_eq_true u1, of_decide_eq_true u2⟩
    obtain ⟨qn, qo, ql⟩ := q
    cases qo with
    | none => exact ⟨.ref (ga K qn), .ref (ga K qn), .own _, rfl, .inl (glo_ok X Gl z), yk⟩
    | some T =>
      obtain ⟨u1, u2⟩ := ba y2
      exact ⟨.ty T, .type T, .ty T, rfl, .inr ⟨free_ok X Gl z, of_decide_eq_true u1, of_decide_eq_true u2⟩, yk⟩
  · obtain ⟨q, eq⟩ : ∃ q, t.cls[n]? = some q := ⟨_, List.getElem?_eq_getElem hn⟩
    have hq : q ∈ t.cls := List.mem_of_getElem? eq
    rw [cC n q eq]
    refine ⟨cls_ok (F (List.mem_append_right _ (List.mem_append_right _ (List.mem_append_right _ (List.mem_append_left _ (List.mem_map.mpr ⟨q, hq, rfl⟩)))))), fun f hf => ?_⟩
    exact noat_ok (F (List.mem_append_right _ (List.mem_append_right _ (List.mem_append_right _ (List.mem_append_right _ (List.mem_append_right _ (List.mem_append_left _ (List.mem_flatMap.mpr ⟨q, hq, List.mem_map.mpr ⟨f, hf, rfl⟩⟩))))))))
  · have hq : (x, f) ∈ t.cls := List.mem_of_getElem? e
    rw [cC n _ e]
    refine ⟨glo_ok X Gl (F (List.mem_append_right _ (List.mem_append_right _ (List.mem_append_left _ (List.mem_map.mpr ⟨_, hq, rfl⟩))))), ?_⟩
    have z := List.all_eq_true.mp k5 _ hq
    have M := mkr_ok (F (List.mem_append_right _ (List.mem_append_right _ (List.mem_append_right _ (List.mem_append_right _ (List.mem_append_left _ (List.mem_map.mpr ⟨_, hq, rfl⟩)))))))
    simp only at z
    split at z
    · rename_i y ey
      have ea := of_decide_eq_true z
      have e3 : fAd K y.d.at_ = ma K (ga K x) "__init__" := by rw [ea]; rfl
      exact ⟨y, ey, by rw [e3]; exact M⟩
    · cases z
/-- the hook: the tables' facts -/
def hookG (n : Nat) (t : Tabs) (csl : List (Str × D)) : PySem.W.Hook where
  α := AlD × Bool
  obs := fun s => (obsDG n (t.fa csl) (t.tbl.map DI.d) s.heap.get?, exB t (frG s.heap.get? (asD s.heap.get? n)))
  val := fun _ => (valD (t.tbl.map DI.d), true)
  says := fun _ h => ∃ K : PySem.W.Frag, K.In h ∧ SaysD (t.fa csl) (t.tbl.map DI.d) K ∧ exB t K = true
  of := fun _ _ e => ⟨_, frG_in, congrArg (fun z : AlD × Bool => z.1) e, congrArg (fun z : AlD × Bool => z.2) e⟩
  keeps := fun _ _ _ ⟨K, hK, c⟩ k => ⟨K, PySem.W.Frag.In.keeps hK k, c⟩
def obG (n : Nat) (t : Tabs) (csl : List (Str × D)) (g : Addr → Option Obj) : AlD × Bool := (obsDG n (t.fa csl) (t.tbl.map DI.d) g, exB t (frG g (asD g n)))
theorem obG_eq {n : Nat} {t : Tabs} {csl : List (Str × D)} {g : Addr → Option Obj} {s : Shared} (h : ∀ a, g a = s.heap.get? a) : obG n t csl g = (hookG n t csl).obs s := by
  have e : g = s.heap.get? := funext h
  rw [e] <;> rfl
end
end G

set_option maxHeartbeats 4000000
/-! Lib1: wp step by step, from the outside. -/
namespace G
open PySem L2
section
variable {Γ : GM} {cs : Nat → Option D} {env : Ev} {h : AH} {X : EX → AH → Prop}
section
variable {Q : VV → AH → Prop}
theorem w_varV {i : Nat} {d : D} (e : env[i]? = some (some (.val d))) (q : Q (.d d) h) : wpE Γ cs (.var i) env h Q X := ⟨_, e, q⟩
theorem w_varO {i : Nat} {o : AO} (e : env[i]? = some (some (.own o))) (q : Q (.tw o) h) : wpE Γ cs (.var i) env h Q X := ⟨_, e, q⟩
theorem w_varB {i : Nat} {o : AO} (e : env[i]? = some (some (.bor o))) (q : Q (.bw o) h) : wpE Γ cs (.var i) env h Q X := ⟨_, e, q⟩
theorem w_int {i : Int} (q : Q (.d (.int i)) h) : wpE Γ cs (.int i) env h Q X := q
theorem w_bl {i : Bool} (q : Q (.d (.bl i)) h) : wpE Γ cs (.bl i) env h Q X := q
theorem w_non (q : Q (.d .non) h) : wpE Γ cs .non env h Q X := q
theorem w_str {z : Str} (q : Q (.d (.str z)) h) : wpE Γ cs (.str z) env h Q X := q
theorem w_glob {j : Nat} {d : D} (e : cs j = some d) (q : Q (.d d) h) : wpE Γ cs (.glob j) env h Q X := ⟨d, e, q⟩
theorem w_bin {o : BO} {a b : CE} (q : wpE Γ cs a env h (fun x h1 => wpE Γ cs b env h1 (fun y h2 => ∃ u v, x = .d u ∧ y = .d v ∧ binW o u v fun z => Q (.d z) h2) X) X) : wpE Γ cs (.bin o a b) env h Q X := q
theorem w_neg {a : CE} (q : wpE Γ cs a env h (fun x h1 => ∃ i, x = .d (.int i) ∧ Q (.d (.int (-i))) h1) X) : wpE Γ cs (.neg a) env h Q X := q
theorem w_cmp {o : CO} {a b : CE} (q : wpE Γ cs a env h (fun x h1 => wpE Γ cs b env h1 (fun y h2 => cmpW o h2 x y fun z => Q (.d z) h2) X) X) : wpE Γ cs (.cmp o a b) env h Q X := q
theorem w_chain {o o' : CO} {a b c : CE} (q : wpE Γ cs a env h (fun x h1 => wpE Γ cs b env h1 (fun y h2 => cmpW o h2 x y fun z =>
      ∃ k, z = .bl k ∧ if k = true then wpE Γ cs c env h2 (fun u h3 => cmpW o' h3 y u fun z => Q (.d z) h3) X else Q (.d (.bl false)) h2) X) X) : wpE Γ cs (.chain o o' a b c) env h Q X := q
theorem w_andV {a b : CE} (q : wpE Γ cs a env h (fun x h1 => ∃ k, x = .d (.bl k) ∧ if k = true then wpE Γ cs b env h1 Q X else Q (.d (.bl false)) h1) X) : wpE Γ cs (.andV a b) env h Q X := q
theorem w_orV {a b : CE} (q : wpE Γ cs a env h (fun x h1 => ∃ k, x = .d (.bl k) ∧ if k = true then Q (.d (.bl true)) h1 else wpE Γ cs b env h1 Q X) X) : wpE Γ cs (.orV a b) env h Q X := q
theorem w_notV {a : CE} (q : wpE Γ cs a env h (fun x h1 => ∃ b, x.tru h1 = some b ∧ Q (.d (.bl (!b))) h1) X) : wpE Γ cs (.notV a) env h Q X := q
theorem w_iteE {t : CT} {a b : CE} (q : wpT Γ cs t env h (fun k h1 => if k = true then wpE Γ cs a env h1 Q X else wpE Γ cs b env h1 Q X) X) : wpE Γ cs (.ite t a b) env h Q X := q
theorem w_tup {es : CEs} (q : wpEs Γ cs es env h (fun vs h1 => ∃ xs, vs = xs.map VV.d ∧ xs.length ≤ sizeLine ∧ Q (.d (.tup xs)) h1) X) : wpE Γ cs (.tup es) env h Q X := q
theorem w_ix {a b : CE} (q : wpE Γ cs a env h (fun x h1 => wpE Γ cs b env h1 (fun y h2 => ixW h2 x y fun z => Q (.d z) h2) X) X) : wpE Γ cs (.ix a b) env h Q X := q
theorem w_slc {a : CE} {lo hi : CO2} (q : wpE Γ cs a env h (fun x h1 => wpO Γ cs lo env h1 (fun i h2 => wpO Γ cs hi env h2 (fun j h3 => ∃ xs, x = .d (.tup xs) ∧ Q (.d (.tup (cutD xs i j))) h3) X) X) X) : wpE Γ cs (.slc a lo hi) env h Q X := q
theorem w_call {f : Nat} {es : CEs} (q : wpEs Γ cs es env h (fun vs h1 => Γ f (vs.map toArg) h1 (RR.rd Q) X) X) : wpE Γ cs (.call f es) env h Q X := q
theorem w_bi {b : BI} {es : CEs} (q : wpEs Γ cs es env h (fun vs h1 => biW b h1 vs fun z => Q (.d z) h1) X) : wpE Γ cs (.bi b es) env h Q X := q
theorem w_tupOf {l : LE} (q : wpL Γ cs l env h (fun xs h1 => Q (.d (.tup xs)) h1) X) : wpE Γ cs (.tupOf l) env h Q X := q
theorem w_tupE {a : CE} (q : wpE Γ cs a env h (fun x h1 => ∃ xs, x.seq h1 = some xs ∧ Q (.d (.tup xs)) h1) X) : wpE Γ cs (.tupE a) env h Q X := q
theorem w_tupRev {a : CE} (q : wpE Γ cs a env h (fun x h1 => ∃ xs, (x.obj h1).bind AO.list = some xs ∧ Q (.d (.tup xs.reverse)) h1) X) : wpE Γ cs (.tupRev a) env h Q X := q
theorem w_fzOf {l : LE} (q : wpL Γ cs l env h (fun xs h1 => Q (.d (.fz xs)) h1) X) : wpE Γ cs (.fzOf l) env h Q X := q
end
theorem w_no {Q : Option Int → AH → Prop} (q : Q none h) : wpO Γ cs .no env h Q X := q
theorem w_so {Q : Option Int → AH → Prop} {a : CE} (q : wpE Γ cs a env h (fun x h1 => ∃ i, x = .d (.int i) ∧ Q (some i) h1) X) : wpO Γ cs (.so a) env h Q X := q
theorem w_nil {Q : List VV → AH → Prop} (q : Q [] h) : wpEs Γ cs .nil env h Q X := q
theorem w_cons {Q : List VV → AH → Prop} {a : CE} {r : CEs} (q : wpE Γ cs a env h (fun x h1 => wpEs Γ cs r env h1 (fun xs h2 => Q (x :: xs) h2) X) X) : wpEs Γ cs (.cons a r) env h Q X := q
section
variable {Q : Bool → AH → Prop}
theorem w_te {a : CE} (q : wpE Γ cs a env h (fun x h1 => ∃ b, x.tru h1 = some b ∧ Q b h1) X) : wpT Γ cs (.e a) env h Q X := q
theorem w_andT {a b : CT} (q : wpT Γ cs a env h (fun k h1 => if k = true then wpT Γ cs b env h1 Q X else Q false h1) X) : wpT Γ cs (.andT a b) env h Q X := q
theorem w_orT {a b : CT} (q : wpT Γ cs a env h (fun k h1 => if k = true then Q true h1 else wpT Γ cs b env h1 Q X) X) : wpT Γ cs (.orT a b) env h Q X := q
theorem w_notT {a : CT} (q : wpT Γ cs a env h (fun k h1 => Q (!k) h1) X) : wpT Γ cs (.notT a) env h Q X := q
theorem w_tsnil (q : Q true h) : wpTs Γ cs .nil env h Q X := q
theorem w_tscons {a : CT} {r : CTs} (q : wpT Γ cs a env h (fun k h1 => if k = true then wpTs Γ cs r env h1 Q X else Q false h1) X) : wpTs Γ cs (.cons a r) env h Q X := q
end
section
variable {Q : List D → AH → Prop}
theorem w_lc {it : CI} {g : CG} {ifs : CTs} {e : CE} (q : wpI Γ cs it true env h (fun xs guard h1 =>
      lcW guard (wipeE env g.slots) g (fun env' h Q => wpTs Γ cs ifs env' h Q fun _ _ => False) (fun env' h Q => wpE Γ cs e env' h Q fun _ _ => False) xs [] h1 Q) X) : wpL Γ cs (.lc it g ifs e) env h Q X := q
theorem w_dsp {es : CEs} (q : wpEs Γ cs es env h (fun vs h1 => ∃ xs, vs = xs.map VV.d ∧ xs.length ≤ sizeLine ∧ Q xs h1) X) : wpL Γ cs (.dsp es) env h Q X := q
theorem w_listE {a : CE} (q : wpE Γ cs a env h (fun x h1 => (∃ xs, x.seq h1 = some xs ∧ Q xs h1) ∨ ∃ o xs, x.obj h1 = some o ∧ o.keyList = some xs ∧ Q xs h1) X) : wpL Γ cs (.listE a) env h Q X := q
theorem w_sortK {f : Nat} {a : CE} (q : wpE Γ cs a env h (fun x h1 => ∃ xs, (x.obj h1).bind AO.list = some xs ∧ keysW Γ f xs [] h1 fun ks h2 => srtOk ks ∧ ks.length = xs.length ∧ Q (sortD xs ks) h2) X) : wpL Γ cs (.sortK f a) env h Q X := q
theorem w_srt {a : CE} (q : wpE Γ cs a env h (fun x h1 => ∃ xs ns, (x.obj h1).bind AO.list = some xs ∧ intsOf xs = some ns ∧ ∀ ms : List Int, ms.Perm ns → ms.Pairwise (· ≤ ·) → Q (ms.map .int) h1) X) : wpL Γ cs (.srt a) env h Q X := q
theorem w_listRg {a : CE} (q : wpE Γ cs a env h (fun x h1 => ∃ i, x = .d (.int i) ∧ 0 ≤ i ∧ i ≤ 16777216 ∧ Q (rgD 0 i.toNat) h1) X) : wpL Γ cs (.listRg a) env h Q X := q
theorem w_cat {a b : LE} (q : wpL Γ cs a env h (fun xs h1 => wpL Γ cs b env h1 (fun ys h2 => xs.length + ys.length ≤ sizeLine ∧ Q (xs ++ ys) h2) X) X) : wpL Γ cs (.cat a b) env h Q X := q
theorem w_catE {a b : CE} (q : wpE Γ cs a env h (fun x h1 => wpE Γ cs b env h1 (fun y h2 => ∃ xs ys, (x.obj h2).bind AO.list = some xs ∧ (y.obj h2).bind AO.list = some ys ∧ xs.length + ys.length ≤ sizeLine ∧ Q (xs ++ ys) h2) X) X) : wpL Γ cs (.catE a b) env h Q X := q
theorem w_rep {a : LE} {b : CE} (q : wpL Γ cs a env h (fun xs h1 => wpE Γ cs b env h1 (fun y h2 => ∃ k, y = .d (.int k) ∧ -(2 ^ 63) ≤ k ∧ k < 2 ^ 63 ∧ xs.length * k.toNat ≤ sizeLine ∧ Q (List.replicate k.toNat xs).flatten h2) X) X) : wpL Γ cs (.rep a b) env h Q X := q
theorem w_slcL {a : CE} {lo hi : CO2} (q : wpE Γ cs a env h (fun x h1 => wpO Γ cs lo env h1 (fun i h2 => wpO Γ cs hi env h2 (fun j h3 => ∃ xs, (x.obj h3).bind AO.list = some xs ∧ Q (cutD xs i j) h3) X) X) X) : wpL Γ cs (.slcL a lo hi) env h Q X := q
end
section
variable {Q : List D → (AH → Prop) → AH → Prop} {cp : Bool}
theorem w_ival {a : CE} (q : wpE Γ cs a env h (fun x h1 => (cp = true ∨ ∀ o, x ≠ .tw o) ∧ ∃ xs, x.seq h1 = some xs ∧ Q xs (fun h => x.seq h = some xs) h1) X) : wpI Γ cs (.val a) cp env h Q X := q
theorem w_irg1 {a : CE} (q : wpE Γ cs a env h (fun x h1 => ∃ i, x = .d (.int i) ∧ -(2 ^ 62) ≤ i ∧ i < 2 ^ 62 ∧ Q (rgD 0 i.toNat) (fun _ => True) h1) X) : wpI Γ cs (.rg1 a) cp env h Q X := q
theorem w_irg2 {a b : CE} (q : wpE Γ cs a env h (fun x h1 => wpE Γ cs b env h1 (fun y h2 => ∃ i j, x = .d (.int i) ∧ y = .d (.int j) ∧ (-(2 ^ 62) ≤ i ∧ i < 2 ^ 62 ∧ -(2 ^ 62) ≤ j ∧ j < 2 ^ 62) ∧ Q (rgD i (j - i).toNat) (fun _ => True) h2) X) X) : wpI Γ cs (.rg2 a b) cp env h Q X := q
theorem w_izip {a b : CE} (q : wpE Γ cs a env h (fun x h1 => wpE Γ cs b env h1 (fun y h2 => ∃ xs ys, x = .d (.tup xs) ∧ y = .d (.tup ys) ∧ Q (zipD xs ys) (fun _ => True) h2) X) X) : wpI Γ cs (.zip a b) cp env h Q X := q
theorem w_ienum {a : CE} (q : wpE Γ cs a env h (fun x h1 => (cp = true ∨ ∀ o, x ≠ .tw o) ∧ ∃ xs, (x.obj h1).bind AO.list = some xs ∧ Q (enumD xs) (fun h => (x.obj h).bind AO.list = some xs) h1) X) : wpI Γ cs (.enum a) cp env h Q X := q
end
section
variable {rn : Ev → AH → Prop} {rt : RR → AH → Prop} {rb rc : Ev → AH → Prop} {rx : EX → Ev → AH → Prop}
theorem w_sasg {g : CG} {e : CE} (q : wpE Γ cs e env h (fun v h' => ∃ x, v = .d x ∧ gW g x env fun env' => rn env' h') (fun x h' => rx x env h')) : wpS Γ cs (.asg g e) env h ⟨rn, rt, rb, rc, rx⟩ := q
theorem w_sasgO {i : Nat} {l : LE} (q : wpL Γ cs l env h (fun xs h' => rn (env.set i (some (.own (.lst xs)))) h') (fun x h' => rx x env h')) : wpS Γ cs (.asgO i l) env h ⟨rn, rt, rb, rc, rx⟩ := q
theorem w_sasgC {i f : Nat} {es : CEs} (q : wpEs Γ cs es env h (fun vs h1 => Γ f (vs.map toArg) h1 (fun r h2 => match r with
      | .d x => rn (env.set i (some (.val x))) h2
      | .mv o => rn (env.set i (some (.own o))) h2) (fun x h' => rx x env h')) (fun x h' => rx x env h')) : wpS Γ cs (.asgC i f es) env h ⟨rn, rt, rb, rc, rx⟩ := q
theorem w_saug {i : Nat} {o : BO} {e : CE} {x : D} (e1 : env[i]? = some (some (.val x))) (q : wpE Γ cs e env h (fun v h' => ∃ y, v = .d y ∧ augW o x y fun z => rn (env.set i (some (.val z))) h') (fun x h' => rx x env h')) : wpS Γ cs (.aug i o e) env h ⟨rn, rt, rb, rc, rx⟩ := ⟨x, e1, q⟩
theorem w_ssetix {i : Nat} {k e : CE} {o : AO} (e1 : env[i]? = some (some (.own o))) (q : wpE Γ cs e env h (fun v h1 => wpE Γ cs k env h1 (fun u h2 => ∃ x y, v = .d x ∧ u = .d y ∧
      ((∃ xs z j, o = .lst xs ∧ y = .int z ∧ ixN xs.length z = some j ∧ rn (env.set i (some (.own (.lst (xs.set j x))))) h2) ∨
       ∃ o', o.put y x = some o' ∧ rn (env.set i (some (.own o'))) h2)) (fun x h' => rx x env h')) (fun x h' => rx x env h')) : wpS Γ cs (.setix i k e) env h ⟨rn, rt, rb, rc, rx⟩ := ⟨o, e1, q⟩
theorem w_sapp {i : Nat} {e : CE} {xs : List D} (e1 : env[i]? = some (some (.own (.lst xs)))) (q : wpE Γ cs e env h (fun v h1 => ∃ x, v = .d x ∧ xs.length < sizeLine ∧ rn (env.set i (some (.own (.lst (xs ++ [x]))))) h1) (fun x h' => rx x env h')) : wpS Γ cs (.app i e) env h ⟨rn, rt, rb, rc, rx⟩ := ⟨xs, e1, q⟩
theorem w_sext {i : Nat} {l : LE} {xs : List D} (e1 : env[i]? = some (some (.own (.lst xs)))) (q : wpL Γ cs l env h (fun ys h1 => xs.length + ys.length ≤ sizeLine ∧ rn (env.set i (some (.own (.lst (xs ++ ys))))) h1) (fun x h' => rx x env h')) : wpS Γ cs (.ext i l) env h ⟨rn, rt, rb, rc, rx⟩ := ⟨xs, e1, q⟩
theorem w_sclr {i : Nat} {xs : List D} (e1 : env[i]? = some (some (.own (.lst xs)))) (q : rn (env.set i (some (.own (.lst [])))) h) : wpS Γ cs (.clr i) env h ⟨rn, rt, rb, rc, rx⟩ := ⟨xs, e1, q⟩
theorem w_sexp {e : CE} (q : wpE Γ cs e env h (fun _ h' => rn env h') (fun x h' => rx x env h')) : wpS Γ cs (.exp e) env h ⟨rn, rt, rb, rc, rx⟩ := q
theorem w_sret {e : CE} (q : wpE Γ cs e (frzE env) h (fun v h' => ∃ x, v = .d x ∧ rt (.d x) h') (fun x h' => rx x (frzE env) h')) : wpS Γ cs (.ret e) env h ⟨rn, rt, rb, rc, rx⟩ := q
theorem w_sretM {i : Nat} {o : AO} (e1 : env[i]? = some (some (.own o))) (q : rt (.mv o) h) : wpS Γ cs (.retM i) env h ⟨rn, rt, rb, rc, rx⟩ := ⟨o, e1, q⟩
theorem w_sretL {l : LE} (q : wpL Γ cs l env h (fun xs h' => rt (.mv (.lst xs)) h') (fun x h' => rx x env h')) : wpS Γ cs (.retL l) env h ⟨rn, rt, rb, rc, rx⟩ := q
theorem w_sexte {i : Nat} {e : CE} {xs : List D} (e1 : env[i]? = some (some (.own (.lst xs)))) (q : wpE Γ cs e env h (fun v h1 => ∃ ys, v = .d (.tup ys) ∧ xs.length + ys.length ≤ sizeLine ∧ rn (env.set i (some (.own (.lst (xs ++ ys))))) h1) (fun x h' => rx x env h')) : wpS Γ cs (.exte i e) env h ⟨rn, rt, rb, rc, rx⟩ := ⟨xs, e1, q⟩
theorem w_sretN (q : rt (.d .non) h) : wpS Γ cs .retN env h ⟨rn, rt, rb, rc, rx⟩ := q
theorem w_site {t : CT} {a b : CSs} (q : wpT Γ cs t env h (fun k h' => if k = true then wpSs Γ cs a env h' ⟨rn, rt, rb, rc, rx⟩ else wpSs Γ cs b env h' ⟨rn, rt, rb, rc, rx⟩) (fun x h' => rx x env h')) : wpS Γ cs (.ite t a b) env h ⟨rn, rt, rb, rc, rx⟩ := q
theorem w_sfor {g : CG} {it : CI} {a : CSs} (q : wpI Γ cs it false env h (fun xs guard h' => forW guard g (fun env h R => wpSs Γ cs a env h R) xs env h' ⟨rn, rt, rb, rc, rx⟩) (fun x h' => rx x env h')) : wpS Γ cs (.for g it a) env h ⟨rn, rt, rb, rc, rx⟩ := q
theorem w_sforO {g : CG} {i : Nat} {a : CSs} {xs : List D} (e1 : env[i]? = some (some (.own (.lst xs)))) (q : forW (fun h' => (VV.bw (.lst xs)).seq h' = some xs) g (fun env h R => wpSs Γ cs a env h R) xs (env.set i (some (.bor (.lst xs)))) h ⟨fun e h => e[i]? = some (some (.bor (.lst xs))) ∧ rn (e.set i (some (.own (.lst xs)))) h, rt, fun _ _ => False, fun _ _ => False, fun x e h => e[i]? = some (some (.bor (.lst xs))) ∧ rx x (e.set i (some (.own (.lst xs)))) h⟩) : wpS Γ cs (.forO g i a) env h ⟨rn, rt, rb, rc, rx⟩ := ⟨xs, e1, q⟩
theorem w_sasgV {i j : Nat} {o : AO} (e1 : env[j]? = some (some (.own o))) (ne : i ≠ j) (hi : i < env.length) (q : rn ((env.set j none).set i (some (.own o))) h) : wpS Γ cs (.asgV i j) env h ⟨rn, rt, rb, rc, rx⟩ := ⟨o, e1, ne, hi, q⟩
theorem w_sbrk (q : rb env h) : wpS Γ cs .brk env h ⟨rn, rt, rb, rc, rx⟩ := q
theorem w_scnt (q : rc env h) : wpS Γ cs .cnt env h ⟨rn, rt, rb, rc, rx⟩ := q
theorem w_spas (q : rn env h) : wpS Γ cs .pas env h ⟨rn, rt, rb, rc, rx⟩ := q
theorem w_sfrz {i : Nat} {xs : List D} (e1 : env[i]? = some (some (.own (.lst xs)))) (q : rn (env.set i (some (.val (.fz xs)))) h) : wpS Γ cs (.frz i) env h ⟨rn, rt, rb, rc, rx⟩ := ⟨xs, e1, q⟩
theorem w_ssnil (q : rn env h) : wpSs Γ cs .nil env h ⟨rn, rt, rb, rc, rx⟩ := q
theorem w_sscons {a : CS} {r : CSs} (q : wpS Γ cs a env h ⟨fun e h => wpSs Γ cs r e h ⟨rn, rt, rb, rc, rx⟩, rt, rb, rc, rx⟩) : wpSs Γ cs (.cons a r) env h ⟨rn, rt, rb, rc, rx⟩ := q
end
end
/-! ### what is left by the operators -/
section
variable {P : D → Prop} {h : AH}
theorem l_bin {o : BO} {u v : D} (q : binW o u v P) : ∃ u' v', VV.d u = .d u' ∧ VV.d v = .d v' ∧ binW o u' v' P := ⟨u, v, rfl, rfl, q⟩
theorem b_add {i j : Int} (q : P (.int (i + j))) : binW .add (.int i) (.int j) P := q
theorem b_sub {i j : Int} (q : P (.int (i - j))) : binW .sub (.int i) (.int j) P := q
theorem b_mul {i j : Int} (c : cMul i j) (q : P (.int (i * j))) : binW .mul (.int i) (.int j) P := ⟨c, q⟩
theorem b_mulT {a : List D} {k : Int} (h0 : a ≠ []) (h1 : -(2 ^ 63) ≤ k) (h2 : k ≤ 1000) (h3 : a.length ≤ 1000) (q : P (.tup (List.replicate k.toNat a).flatten)) : binW .mul (.tup a) (.int k) P := ⟨h0, h1, h2, h3, q⟩
theorem b_mulL {i j : Int} (c1 : -18446744073709551616 < i) (c2 : i < 18446744073709551616) (q : P (.int (i * j))) : binW .mul (.int i) (.int j) P := ⟨.inl ⟨c1, c2⟩, q⟩
theorem b_mulR {i j : Int} (c1 : -18446744073709551616 < j) (c2 : j < 18446744073709551616) (q : P (.int (i * j))) : binW .mul (.int i) (.int j) P := ⟨.inr ⟨c1, c2⟩, q⟩
theorem b_fdivB {i j : Int} (c1 : 0 < j) (c2 : j < 1073741824) (q : P (.int (i / j))) : binW .fdiv (.int i) (.int j) P := ⟨⟨c1, c2⟩, q⟩
theorem b_fdiv {i j : Int} (c : cDiv j) (q : P (.int (i / j))) : binW .fdiv (.int i) (.int j) P := ⟨c, q⟩
theorem b_mod {i j : Int} (c : 0 < j) (q : P (.int (i % j))) : binW .mod (.int i) (.int j) P := ⟨c, q⟩
theorem b_addT {a b : List D} (c : a.length + b.length ≤ sizeLine) (q : P (.tup (a ++ b))) : binW .add (.tup a) (.tup b) P := ⟨c, q⟩
theorem l_dval {P : D → Prop} {d : D} (q : P d) : ∃ x, VV.d d = .d x ∧ P x := ⟨d, rfl, q⟩
theorem l_ival {P : Int → Prop} {i : Int} (q : P i) : ∃ j, VV.d (.int i) = .d (.int j) ∧ P j := ⟨i, rfl, q⟩
theorem l_bval {P : Bool → Prop} {i : Bool} (q : P i) : ∃ j, VV.d (.bl i) = .d (.bl j) ∧ P j := ⟨i, rfl, q⟩
theorem l_bvalD {P : Bool → Prop} {i : Bool} (q : P i) : ∃ j, D.bl i = .bl j ∧ P j := ⟨i, rfl, q⟩
theorem l_tru {P : Bool → Prop} {i : Bool} (q : P i) : ∃ b, (VV.d (.bl i)).tru h = some b ∧ P b := ⟨i, rfl, q⟩
theorem c_lt {i j : Int} (q : P (.bl (decide (i < j)))) : cmpW .lt h (.d (.int i)) (.d (.int j)) P := ⟨i, j, rfl, rfl, q⟩
theorem c_le {i j : Int} (q : P (.bl (decide (i ≤ j)))) : cmpW .le h (.d (.int i)) (.d (.int j)) P := ⟨i, j, rfl, rfl, q⟩
theorem c_gt {i j : Int} (q : P (.bl (decide (j < i)))) : cmpW .gt h (.d (.int i)) (.d (.int j)) P := ⟨i, j, rfl, rfl, q⟩
theorem c_ge {i j : Int} (q : P (.bl (decide (j ≤ i)))) : cmpW .ge h (.d (.int i)) (.d (.int j)) P := ⟨i, j, rfl, rfl, q⟩
theorem c_eqI {i j : Int} (q : P (.bl (decide (i = j)))) : cmpW .eq h (.d (.int i)) (.d (.int j)) P := by
  refine ⟨_, _, .inl rfl, .inl rfl, rfl, rfl, ?_⟩
  have e : D.eqv (.int i) (.int j) = decide (i = j) := by simp only [D.eqv]; rw [Bool.eq_iff_iff]; simp
  rw [e]; exact q
theorem c_neI {i j : Int} (q : P (.bl (!decide (i = j)))) : cmpW .ne h (.d (.int i)) (.d (.int j)) P := by
  refine ⟨_, _, .inl rfl, .inl rfl, rfl, rfl, ?_⟩
  have e : D.eqv (.int i) (.int j) = decide (i = j) := by simp only [D.eqv]; rw [Bool.eq_iff_iff]; simp
  rw [e]; exact q
theorem c_isN {d : D} (q : P (.bl (match d with | .non => true | _ => false))) : cmpW .isN h (.d d) (.d .non) P := ⟨rfl, by cases d <;> exact q⟩
theorem c_isB {a b : Bool} (q : P (.bl (decide (a = b)))) : cmpW .isB h (.d (.bl a)) (.d (.bl b)) P := ⟨a, b, rfl, rfl, q⟩
theorem c_notB {a b : Bool} (q : P (.bl (!decide (a = b)))) : cmpW .notB h (.d (.bl a)) (.d (.bl b)) P := ⟨a, b, rfl, rfl, q⟩
theorem c_notN {d : D} (q : P (.bl (match d with | .non => false | _ => true))) : cmpW .notN h (.d d) (.d .non) P := ⟨rfl, by cases d <;> exact q⟩
theorem i_lenTm {α : Type} {f : α → D} {ns : List α} (q : P (.int ns.length)) : biW .len h [.d (.tup (ns.map f))] P := ⟨_, rfl, by rw [List.length_map]; exact q⟩
theorem i_lenFm {α : Type} {f : α → D} {ns : List α} (q : P (.int ns.length)) : biW .len h [.d (.fz (ns.map f))] P := ⟨_, rfl, by rw [List.length_map]; exact q⟩
theorem i_lenOm {α : Type} {f : α → D} {ns : List α} (q : P (.int ns.length)) : biW .len h [.tw (.lst (ns.map f))] P := ⟨_, rfl, by rw [List.length_map]; exact q⟩
theorem i_lenBm {α : Type} {f : α → D} {ns : List α} (q : P (.int ns.length)) : biW .len h [.bw (.lst (ns.map f))] P := ⟨_, rfl, by rw [List.length_map]; exact q⟩
theorem i_lenT {xs : List D} (q : P (.int xs.length)) : biW .len h [.d (.tup xs)] P := ⟨_, rfl, q⟩
theorem i_lenF {xs : List D} (q : P (.int xs.length)) : biW .len h [.d (.fz xs)] P := ⟨_, rfl, q⟩
theorem i_lenO {xs : List D} (q : P (.int xs.length)) : biW .len h [.tw (.lst xs)] P := ⟨_, rfl, q⟩
theorem i_lenB {xs : List D} (q : P (.int xs.length)) : biW .len h [.bw (.lst xs)] P := ⟨_, rfl, q⟩
theorem i_min2 {i j : Int} (q : P (.int (if j < i then j else i))) : biW .min2 h [.d (.int i), .d (.int j)] P := q
theorem i_max2 {i j : Int} (q : P (.int (if i < j then j else i))) : biW .max2 h [.d (.int i), .d (.int j)] P := q
theorem g_nm {i : Nat} {x : D} {env : Ev} {Q : Ev → Prop} (q : Q (env.set i (some (.val x)))) : gW (.nm i) x env Q := q
theorem ite_i {b : Bool} {A B : Prop} (h1 : b = true → A) (h2 : b = false → B) : if b = true then A else B := by
  cases b with
  | true => exact h1 rfl
  | false => exact h2 rfl
theorem ite_p {C : Prop} [Decidable C] {A B : Prop} (h1 : C → A) (h2 : ¬ C → B) : if decide C = true then A else B := by
  by_cases c : C
  · rw [if_pos (decide_eq_true c)]; exact h1 c
  · rw [if_neg (by simpa using c)]; exact h2 c
theorem ite_t {A B : Prop} (q : A) : if true = true then A else B := by rw [if_pos rfl]; exact q
theorem ite_f {A B : Prop} (q : B) : if false = true then A else B := by rw [if_neg (by decide)]; exact q
theorem ite_nt {A B : Prop} (q : B) : if (!true) = true then A else B := by rw [if_neg (by decide)]; exact q
theorem ite_nf {A B : Prop} (q : A) : if (!false) = true then A else B := by rw [if_pos (by decide)]; exact q
theorem ite_nn {b : Bool} {A B : Prop} (q : if b = true then A else B) : if (!!b) = true then A else B := by rw [Bool.not_not]; exact q
theorem ite_n {C : Prop} [Decidable C] {A B : Prop} (h1 : ¬ C → A) (h2 : C → B) : if (!decide C) = true then A else B := by
  by_cases c : C
  · rw [if_neg (by simpa using c)]; exact h2 c
  · rw [if_pos (by simpa using c)]; exact h1 c
end
end G
namespace G
open PySem L2
/-! ### loops, joins, calls -/
section
variable {Γ : GM} {cs : Nat → Option D} {X : EX → AH → Prop}
theorem r_d {Q : VV → AH → Prop} {x : D} {h : AH} (q : Q (.d x) h) : RR.rd Q (.d x) h := q
theorem r_mv {Q : VV → AH → Prop} {xs : List D} {h : AH} (q : Q (.d (.fz xs)) h) : RR.rd Q (.mv (.lst xs)) h := q
/-- two roads meet -/
theorem w_join {a : CS} {r : CSs} {env : Ev} {h : AH} {rn : Ev → AH → Prop} {rt : RR → AH → Prop} {rb rc : Ev → AH → Prop} {rx : EX → Ev → AH → Prop} (P : Ev → Prop) (hr : ∀ e, P e → wpSs Γ cs r e h ⟨rn, rt, rb, rc, rx⟩) (q : ∀ N : Ev → AH → Prop, (∀ e, P e → N e h) → wpS Γ cs a env h ⟨N, rt, rb, rc, rx⟩) : wpSs Γ cs (.cons a r) env h ⟨rn, rt, rb, rc, rx⟩ :=
  q _ hr
/-- a loop, by what holds before each turn -/
theorem for_ind {g : CG} {B : Ev → AH → CEnds → Prop} {guard : AH → Prop} {h : AH} {rn : Ev → AH → Prop} {rt : RR → AH → Prop} {rb rc : Ev → AH → Prop} {rx : EX → Ev → AH → Prop} (hg : guard h) (I : List D → Ev → Prop) (h0 : ∀ env, I [] env → rn env h)
    (hs : ∀ x xs env, I (x :: xs) env → ∀ N : Ev → AH → Prop, (∀ e, I xs e → N e h) → gW g x env fun env' => B env' h ⟨N, rt, rn, N, rx⟩) :
    ∀ xs env, I xs env → forW guard g B xs env h ⟨rn, rt, rb, rc, rx⟩
  | [], env, i => ⟨hg, h0 env i⟩
  | x :: xs, env, i => ⟨hg, hs x xs env i _ fun e ie => for_ind hg I h0 hs xs e ie⟩
/-- a loop over the numbers below n -/
theorem for_rg {g : Nat} {B : Ev → AH → CEnds → Prop} {guard : AH → Prop} {h : AH} {rn : Ev → AH → Prop} {rt : RR → AH → Prop} {rb rc : Ev → AH → Prop} {rx : EX → Ev → AH → Prop} (hg : guard h) {lo : Int} {n : Nat} (I : Nat → Ev → Prop) {env : Ev} (i0 : I 0 env) (h0 : ∀ env, I n env → rn env h)
    (hs : ∀ (j : Nat) env, j < n → I j env → ∀ N : Ev → AH → Prop, (∀ e, I (j + 1) e → N e h) → B (env.set g (some (.val (.int (lo + j))))) h ⟨N, rt, rn, N, rx⟩) :
    forW guard (.nm g) B (rgD lo n) env h ⟨rn, rt, rb, rc, rx⟩ := by
  have key : ∀ (m j : Nat) env, j + m = n → I j env → forW guard (.nm g) B ((List.range' j m).map fun (k : Nat) => D.int (lo + (k : Int))) env h ⟨rn, rt, rb, rc, rx⟩ := by
    intro m
    induction m with
    | zero => intro j env e i; have : j = n := by omega
              subst this; exact ⟨hg, h0 env i⟩
    | succ m ih => intro j env e i; exact ⟨hg, hs j env (by omega) i _ fun e' i' => ih (j + 1) e' (by omega) i'⟩
  have := key n 0 env (by omega) i0
  rwa [← List.range_eq_range'] at this
theorem for_rg0 {g : Nat} {B : Ev → AH → CEnds → Prop} {guard : AH → Prop} {h : AH} {rn : Ev → AH → Prop} {rt : RR → AH → Prop} {rb rc : Ev → AH → Prop} {rx : EX → Ev → AH → Prop} (hg : guard h) {n : Nat} (I : Nat → Ev → Prop) {env : Ev} (i0 : I 0 env) (h0 : ∀ env, I n env → rn env h)
    (hs : ∀ (j : Nat) env, j < n → I j env → ∀ N : Ev → AH → Prop, (∀ e, I (j + 1) e → N e h) → B (env.set g (some (.val (.int (j : Int))))) h ⟨N, rt, rn, N, rx⟩) :
    forW guard (.nm g) B (rgD 0 n) env h ⟨rn, rt, rb, rc, rx⟩ :=
  for_rg hg I i0 h0 fun j e hj i N hN => by rw [Int.zero_add]; exact hs j e hj i N hN
theorem rgD0 (n : Nat) : rgD 0 n = (List.range n).map fun (g : Nat) => D.int (g : Int) := by
  unfold rgD; congr 1; funext k; rw [Int.zero_add]
/-- a loop over a list's items -/
theorem for_ix {g : Nat} {B : Ev → AH → CEnds → Prop} {guard : AH → Prop} {h : AH} {rn : Ev → AH → Prop} {rt : RR → AH → Prop} {rb rc : Ev → AH → Prop} {rx : EX → Ev → AH → Prop} (hg : guard h) {xs : List D} (I : Nat → Ev → Prop) {env : Ev} (i0 : I 0 env) (h0 : ∀ env, I xs.length env → rn env h)
    (hs : ∀ (j : Nat) (hj : j < xs.length) env, I j env → ∀ N : Ev → AH → Prop, (∀ e, I (j + 1) e → N e h) → B (env.set g (some (.val (xs[j]'hj)))) h ⟨N, rt, rn, N, rx⟩) :
    forW guard (.nm g) B xs env h ⟨rn, rt, rb, rc, rx⟩ := by
  have key : ∀ (m j : Nat) env, j + m = xs.length → I j env → forW guard (.nm g) B (xs.drop j) env h ⟨rn, rt, rb, rc, rx⟩ := by
    intro m
    induction m with
    | zero => intro j env e i; have : j = xs.length := by omega
              subst this; rw [List.drop_length]; exact ⟨hg, h0 env i⟩
    | succ m ih =>
      intro j env e i
      have hj : j < xs.length := by omega
      rw [List.drop_eq_getElem_cons hj]; exact ⟨hg, hs j hj env i _ fun e' i' => ih (j + 1) e' (by omega) i'⟩
  exact key xs.length 0 env (by omega) i0
theorem whl_ind {t : CT} {a : CSs} {env : Ev} {h : AH} {rn : Ev → AH → Prop} {rt : RR → AH → Prop} {rb rc : Ev → AH → Prop} {rx : EX → Ev → AH → Prop} (W : Nat → Ev → Prop) (m : Nat) (i : W m env)
    (hs : ∀ m env, W m env → ∀ N : Ev → AH → Prop, (∀ m' e, m' < m → W m' e → N e h) → wpT Γ cs t env h (fun k h' => if k = true then wpSs Γ cs a env h' ⟨N, rt, rn, N, rx⟩ else rn env h') (fun x h' => rx x env h')) : wpS Γ cs (.whl t a) env h ⟨rn, rt, rb, rc, rx⟩ :=
  ⟨fun m e h' => h' = h ∧ W m e, ⟨m, rfl, i⟩, fun m e h' w => by
    obtain ⟨rfl, w⟩ := w
    exact hs m e w _ fun m' e' l i' => ⟨m', l, rfl, i'⟩⟩
/-- a comprehension with no test whose items are found one by one -/
theorem lc_map {g : Nat} {E : Ev → AH → (VV → AH → Prop) → Prop} {guard : AH → Prop} {h : AH} {Q : List D → AH → Prop} {env : Ev} (hg : guard h) (f : D → D) {xs : List D} (hl : xs.length ≤ sizeLine)
    (hs : ∀ x ∈ xs, ∀ Q : VV → AH → Prop, Q (.d (f x)) h → E (env.set g (some (.val x))) h Q) (q : Q (xs.map f) h) :
    lcW guard env (.nm g) (fun env' h Q => wpTs Γ cs .nil env' h Q fun _ _ => False) E xs [] h Q := by
  have key : ∀ (ys acc : List D), acc.length + ys.length ≤ sizeLine → (∀ y ∈ ys, y ∈ xs) → Q (acc ++ ys.map f) h → lcW guard env (.nm g) (fun env' h Q => wpTs Γ cs .nil env' h Q fun _ _ => False) E ys acc h Q := by
    intro ys
    induction ys with
    | nil => intro acc _ _ q; exact ⟨hg, by simpa using q⟩
    | cons y ys ih =>
      intro acc l m q
      refine ⟨hg, g_nm (w_tsnil ?_)⟩
      rw [if_pos rfl]
      refine hs y (m y (by simp)) _ ⟨_, rfl, by simp at l; omega, ih _ (by simp at l ⊢; omega) (fun z hz => m z (by simp [hz])) (by simpa using q)⟩
  exact key xs [] (by simpa using hl) (fun _ h => h) (by simpa using q)
theorem lc_mapL {α : Type} {g : Nat} {E : Ev → AH → (VV → AH → Prop) → Prop} {guard : AH → Prop} {h : AH} {Q : List D → AH → Prop} {env : Ev} (hg : guard h) {f0 : α → D} (f1 : α → D) {ns : List α} (hl : ns.length ≤ sizeLine)
    (hs : ∀ x ∈ ns, ∀ Q : VV → AH → Prop, Q (.d (f1 x)) h → E (env.set g (some (.val (f0 x)))) h Q) (q : Q (ns.map f1) h) :
    lcW guard env (.nm g) (fun env' h Q => wpTs Γ cs .nil env' h Q fun _ _ => False) E (ns.map f0) [] h Q := by
  have key : ∀ (ys : List α) (acc : List D), acc.length + ys.length ≤ sizeLine → (∀ y ∈ ys, y ∈ ns) → Q (acc ++ ys.map f1) h → lcW guard env (.nm g) (fun env' h Q => wpTs Γ cs .nil env' h Q fun _ _ => False) E (ys.map f0) acc h Q := by
    intro ys
    induction ys with
    | nil => intro acc _ _ q; exact ⟨hg, by simpa using q⟩
    | cons y ys ih =>
      intro acc l m q
      refine ⟨hg, g_nm (w_tsnil ?_)⟩
      rw [if_pos rfl]
      refine hs y (m y (by simp)) _ ⟨_, rfl, by simp at l; omega, ih _ (by simp at l ⊢; omega) (fun z hz => m z (by simp [hz])) (by simpa using q)⟩
  exact key ns [] (by simpa using hl) (fun _ h => h) (by simpa using q)
theorem lc_rgm {g : Nat} {E : Ev → AH → (VV → AH → Prop) → Prop} {guard : AH → Prop} {h : AH} {Q : List D → AH → Prop} {env : Ev} (hg : guard h) (f1 : Nat → D) {n : Nat} (hl : n ≤ sizeLine)
    (hs : ∀ j, j < n → ∀ Q : VV → AH → Prop, Q (.d (f1 j)) h → E (env.set g (some (.val (.int (j : Int))))) h Q) (q : Q ((List.range n).map f1) h) :
    lcW guard env (.nm g) (fun env' h Q => wpTs Γ cs .nil env' h Q fun _ _ => False) E (rgD 0 n) [] h Q := by
  rw [rgD0]
  exact lc_mapL hg f1 (by simpa using hl) (fun x hx => hs x (by simpa using hx)) q
theorem lc_filtL {α : Type} {g : Nat} {t : CT} {E : Ev → AH → (VV → AH → Prop) → Prop} {guard : AH → Prop} {h : AH} {Q : List D → AH → Prop} {env : Ev} (hg : guard h) {f0 : α → D} (p : α → Bool) (f1 : α → D) {xs : List α} (hl : xs.length ≤ sizeLine)
    (ht : ∀ x ∈ xs, ∀ Q : Bool → AH → Prop, Q (p x) h → wpT Γ cs t (env.set g (some (.val (f0 x)))) h Q fun _ _ => False)
    (hs : ∀ x ∈ xs, p x = true → ∀ Q : VV → AH → Prop, Q (.d (f1 x)) h → E (env.set g (some (.val (f0 x)))) h Q) (q : Q ((xs.filter p).map f1) h) :
    lcW guard env (.nm g) (fun env' h Q => wpTs Γ cs (.cons t .nil) env' h Q fun _ _ => False) E (xs.map f0) [] h Q := by
  have key : ∀ (ys : List α) (acc : List D), acc.length + ys.length ≤ sizeLine → (∀ y ∈ ys, y ∈ xs) → Q (acc ++ (ys.filter p).map f1) h → lcW guard env (.nm g) (fun env' h Q => wpTs Γ cs (.cons t .nil) env' h Q fun _ _ => False) E (ys.map f0) acc h Q := by
    intro ys
    induction ys with
    | nil => intro acc _ _ q; exact ⟨hg, by simpa using q⟩
    | cons y ys ih =>
      intro acc l m q
      refine ⟨hg, g_nm (w_tscons (ht y (m y (by simp)) _ ?_))⟩
      cases hp : p y with
      | true =>
        rw [if_pos rfl]
        refine w_tsnil ?_
        rw [if_pos rfl]
        refine hs y (m y (by simp)) hp _ ⟨_, rfl, by simp at l; omega, ih _ (by simp at l ⊢; omega) (fun z hz => m z (by simp [hz])) (by simpa [hp] using q)⟩
      | false =>
        rw [if_neg (by decide)]
        exact ih _ (by simp at l; omega) (fun z hz => m z (by simp [hz])) (by simpa [hp] using q)
  exact key xs [] (by simpa using hl) (fun _ h => h) (by simpa using q)
theorem lc_rgf {g : Nat} {t : CT} {E : Ev → AH → (VV → AH → Prop) → Prop} {guard : AH → Prop} {h : AH} {Q : List D → AH → Prop} {env : Ev} (hg : guard h) (p : Nat → Bool) (f1 : Nat → D) {n : Nat} (hl : n ≤ sizeLine)
    (ht : ∀ j, j < n → ∀ Q : Bool → AH → Prop, Q (p j) h → wpT Γ cs t (env.set g (some (.val (.int (j : Int))))) h Q fun _ _ => False)
    (hs : ∀ j, j < n → p j = true → ∀ Q : VV → AH → Prop, Q (.d (f1 j)) h → E (env.set g (some (.val (.int (j : Int))))) h Q) (q : Q (((List.range n).filter p).map f1) h) :
    lcW guard env (.nm g) (fun env' h Q => wpTs Γ cs (.cons t .nil) env' h Q fun _ _ => False) E (rgD 0 n) [] h Q := by
  rw [rgD0]
  exact lc_filtL hg p f1 (by simpa using hl) (fun x hx => ht x (by simpa using hx)) (fun x hx => hs x (by simpa using hx)) q
/-- a comprehension with one test -/
theorem lc_filt {g : Nat} {t : CT} {E : Ev → AH → (VV → AH → Prop) → Prop} {guard : AH → Prop} {h : AH} {Q : List D → AH → Prop} {env : Ev} (hg : guard h) (p : D → Bool) (f : D → D) {xs : List D} (hl : xs.length ≤ sizeLine)
    (ht : ∀ x ∈ xs, ∀ Q : Bool → AH → Prop, Q (p x) h → wpT Γ cs t (env.set g (some (.val x))) h Q fun _ _ => False)
    (hs : ∀ x ∈ xs, p x = true → ∀ Q : VV → AH → Prop, Q (.d (f x)) h → E (env.set g (some (.val x))) h Q) (q : Q ((xs.filter p).map f) h) :
    lcW guard env (.nm g) (fun env' h Q => wpTs Γ cs (.cons t .nil) env' h Q fun _ _ => False) E xs [] h Q := by
  have key : ∀ (ys acc : List D), acc.length + ys.length ≤ sizeLine → (∀ y ∈ ys, y ∈ xs) → Q (acc ++ (ys.filter p).map f) h → lcW guard env (.nm g) (fun env' h Q => wpTs Γ cs (.cons t .nil) env' h Q fun _ _ => False) E ys acc h Q := by
    intro ys
    induction ys with
    | nil => intro acc _ _ q; exact ⟨hg, by simpa using q⟩
    | cons y ys ih =>
      intro acc l m q
      refine ⟨hg, g_nm (w_tscons (ht y (m y (by simp)) _ ?_))⟩
      cases hp : p y with
      | true =>
        rw [if_pos rfl]
        refine w_tsnil ?_
        rw [if_pos rfl]
        refine hs y (m y (by simp)) hp _ ⟨_, rfl, by simp at l; omega, ih _ (by simp at l ⊢; omega) (fun z hz => m z (by simp [hz])) (by simpa [hp] using q)⟩
      | false =>
        rw [if_neg (by decide)]
        exact ih _ (by simp at l; omega) (fun z hz => m z (by simp [hz])) (by simpa [hp] using q)
  exact key xs [] (by simpa using hl) (fun _ h => h) (by simpa using q)
end
/-! ### items -/
section
variable {α : Type} {f : α → D} {ns : List α} {j : Nat} {P : D → Prop} {h : AH}
theorem x_fz (hj : j < ns.length) (q : P (f (ns[j]'hj))) : ixW h (.d (.fz (ns.map f))) (.d (.int (j : Int))) P := .inl ⟨_, _, _, rfl, rfl, atI_nat (by rw [List.getElem?_map, List.getElem?_eq_getElem hj]; rfl), q⟩
theorem x_fzA {i : Int} (h0 : 0 ≤ i) (h1 : i < ns.length) (q : ∀ x ∈ ns, P (f x)) : ixW h (.d (.fz (ns.map f))) (.d (.int i)) P := by
  obtain ⟨j, rfl⟩ := Int.eq_ofNat_of_zero_le h0
  exact x_fz (by omega) (q _ (List.getElem_mem _))
theorem x_tupA {i : Int} (h0 : 0 ≤ i) (h1 : i < ns.length) (q : ∀ x ∈ ns, P (f x)) : ixW h (.d (.tup (ns.map f))) (.d (.int i)) P := by
  obtain ⟨j, rfl⟩ := Int.eq_ofNat_of_zero_le h0
  exact .inl ⟨_, _, _, rfl, rfl, atI_nat (by rw [List.getElem?_map, List.getElem?_eq_getElem (by omega)]; rfl), q _ (List.getElem_mem _)⟩
theorem x_tup (hj : j < ns.length) (q : P (f (ns[j]'hj))) : ixW h (.d (.tup (ns.map f))) (.d (.int (j : Int))) P := .inl ⟨_, _, _, rfl, rfl, atI_nat (by rw [List.getElem?_map, List.getElem?_eq_getElem hj]; rfl), q⟩
theorem x_tw (hj : j < ns.length) (q : P (f (ns[j]'hj))) : ixW h (.tw (.lst (ns.map f))) (.d (.int (j : Int))) P := .inl ⟨_, _, _, rfl, rfl, atI_nat (by rw [List.getElem?_map, List.getElem?_eq_getElem hj]; rfl), q⟩
theorem x_bw (hj : j < ns.length) (q : P (f (ns[j]'hj))) : ixW h (.bw (.lst (ns.map f))) (.d (.int (j : Int))) P := .inl ⟨_, _, _, rfl, rfl, atI_nat (by rw [List.getElem?_map, List.getElem?_eq_getElem hj]; rfl), q⟩
end
section
variable {P : D → Prop} {h : AH} {a b c d : D} {r : List D}
theorem x0 (q : P a) : ixW h (.d (.tup (a :: r))) (.d (.int 0)) P := .inl ⟨_, _, _, rfl, rfl, atI_nat (j := 0) rfl, q⟩
theorem x1 (q : P b) : ixW h (.d (.tup (a :: b :: r))) (.d (.int 1)) P := .inl ⟨_, _, _, rfl, rfl, atI_nat (j := 1) rfl, q⟩
theorem x2 (q : P c) : ixW h (.d (.tup (a :: b :: c :: r))) (.d (.int 2)) P := .inl ⟨_, _, _, rfl, rfl, atI_nat (j := 2) rfl, q⟩
theorem x3 (q : P d) : ixW h (.d (.tup (a :: b :: c :: d :: r))) (.d (.int 3)) P := .inl ⟨_, _, _, rfl, rfl, atI_nat (j := 3) rfl, q⟩
end
section
variable {h : AH} {α : Type} {f : α → D} {ns : List α} {P : D → Prop}
/-- an own list's item is set -/
theorem set_nat {Pn : List D → Nat → D → Prop} {o' : AO → Prop} {j : Nat} {x : D} (hj : j < ns.length) (q : Pn (ns.map f) j x) :
    ∃ a b, VV.d x = .d a ∧ VV.d (.int (j : Int)) = .d b ∧ ((∃ xs z i, AO.lst (ns.map f) = .lst xs ∧ b = .int z ∧ ixN xs.length z = some i ∧ Pn xs i a) ∨ ∃ o, (AO.lst (ns.map f)).put b a = some o ∧ o' o) := by
  refine ⟨x, _, rfl, rfl, .inl ⟨_, _, j, rfl, rfl, ?_, q⟩⟩
  rw [List.length_map]
  unfold ixN
  rw [if_pos (by omega), if_pos (by omega)]
  simp
theorem isI_tt {xs : List D} (q : P (.bl true)) : biW (.isI "tuple") h [.d (.tup xs)] P := ⟨true, rfl, q⟩
theorem isI_ii {i : Int} (q : P (.bl true)) : biW (.isI "int") h [.d (.int i)] P := ⟨true, rfl, q⟩
theorem isI_bi {i : Int} (q : P (.bl false)) : biW (.isI "bool") h [.d (.int i)] P := ⟨false, rfl, q⟩
theorem isI_lf {xs : List D} (q : P (.bl true)) : biW (.isI "list") h [.d (.fz xs)] P := ⟨true, rfl, q⟩
theorem isI_lo {xs : List D} (q : P (.bl true)) : biW (.isI "list") h [.tw (.lst xs)] P := ⟨true, rfl, q⟩
theorem isI_lr {n : Nat} {xs : List D} (e : h[n]? = some (.lst xs)) (q : P (.bl true)) : biW (.isI "list") h [.d (.ref n)] P := ⟨true, by simp [isT, e], q⟩
theorem isI_lb {xs : List D} (q : P (.bl true)) : biW (.isI "list") h [.bw (.lst xs)] P := ⟨true, rfl, q⟩
end
/-! ### equal data -/
mutual
theorem eqv_self : ∀ (d : D) (n : Nat), d.fla n = true → D.eqv d d = true
  | .non, _, _ => by simp [D.eqv]
  | .bl _, _, _ => by simp [D.eqv]
  | .int _, _, _ => by simp [D.eqv]
  | .str _, _, _ => by simp [D.eqv]
  | .tup xs, 0, h => by simp [D.fla] at h
  | .tup xs, m + 1, h => by simp only [D.fla] at h; simp only [D.eqv]; exact eqvs_self xs m h
  | .fz xs, 0, h => by simp [D.fla] at h
  | .fz xs, m + 1, h => by simp only [D.fla] at h; simp only [D.eqv]; exact eqvs_self xs m h
  | .ref _, _, h => by simp [D.fla] at h
theorem eqvs_self : ∀ (xs : List D) (n : Nat), D.flas n xs = true → D.eqvs xs xs = true
  | [], _, _ => by simp [D.eqvs]
  | x :: xs, n, h => by
    simp only [D.flas, Bool.and_eq_true] at h
    simp only [D.eqvs, Bool.and_eq_true]
    exact ⟨eqv_self x n h.1, eqvs_self xs n h.2⟩
end
theorem flas_map {α : Type} {f : α → D} {n : Nat} : ∀ {ns : List α}, (∀ x ∈ ns, (f x).fla n = true) → D.flas n (ns.map f) = true
  | [], _ => by simp [D.flas]
  | x :: xs, h => by
    simp only [List.map_cons, D.flas, Bool.and_eq_true]
    exact ⟨h x (by simp), flas_map fun y hy => h y (by simp [hy])⟩
theorem fla_int {i : Int} {n : Nat} : (D.int i).fla n = true := by simp [D.fla]
theorem fla_tup {xs : List D} {n : Nat} (h : D.flas n xs = true) : (D.tup xs).fla (n + 1) = true := by simp only [D.fla]; exact h
theorem fla_fz {xs : List D} {n : Nat} (h : D.flas n xs = true) : (D.fz xs).fla (n + 1) = true := by simp only [D.fla]; exact h
theorem c_ne {h : AH} {P : D → Prop} {x y : VV} {a b : D} (e1 : x.dat h = some a) (e2 : y.dat h = some b) (h1 : a.fla 60 = true) (h2 : b.fla 60 = true) (q : P (.bl (!D.eqv a b))) : cmpW .ne h x y P := ⟨a, b, .inl e1, .inl e2, h1, h2, q⟩
theorem c_eq {h : AH} {P : D → Prop} {x y : VV} {a b : D} (e1 : x.dat h = some a) (e2 : y.dat h = some b) (h1 : a.fla 60 = true) (h2 : b.fla 60 = true) (q : P (.bl (D.eqv a b))) : cmpW .eq h x y P := ⟨a, b, .inl e1, .inl e2, h1, h2, q⟩
/-- the two are the same -/
theorem c_neS {h : AH} {P : D → Prop} {x y : VV} {a : D} (e1 : x.dat h = some a) (e2 : y.dat h = some a) (h1 : a.fla 60 = true) (q : P (.bl false)) : cmpW .ne h x y P := c_ne e1 e2 h1 h1 (by rw [eqv_self a 60 h1]; exact q)
theorem c_eqS {h : AH} {P : D → Prop} {x y : VV} {a : D} (e1 : x.dat h = some a) (e2 : y.dat h = some a) (h1 : a.fla 60 = true) (q : P (.bl true)) : cmpW .eq h x y P := c_eq e1 e2 h1 h1 (by rw [eqv_self a 60 h1]; exact q)
theorem c_leD {h : AH} {P : D → Prop} {x y : VV} {a b : D} (e1 : x.dat h = some a) (e2 : y.dat h = some b) (h1 : a.fla 60 = true) (h2 : b.fla 60 = true) (h3 : D.alike a b = true) (q : P (.bl (!D.ltd b a))) : cmpW .leD h x y P := ⟨a, b, e1, e2, h1, h2, h3, q⟩
theorem ltds_int {i j : Int} {xs ys : List D} : D.ltds (.int i :: xs) (.int j :: ys) = if i = j then D.ltds xs ys else decide (i < j) := by
  simp [D.ltds, D.eqv, D.ltd]
theorem cutD_none (xs : List D) (k : Nat) : cutD xs none (some (k : Int)) = xs.take k := by
  unfold cutD
  rw [HT.sIx_none, HT.sIx_nat, Nat.sub_zero, List.drop_zero]
  rcases Nat.le_total k xs.length with h | h
  · rw [Nat.min_eq_left h]
  · rw [Nat.min_eq_right h, List.take_of_length_le (Nat.le_refl _), List.take_of_length_le h]
section
variable {h : AH} {P : List D → Prop} {xs : List D} {R : Prop}
theorem e_tup (q : P xs) : (∃ ys, (VV.d (.tup xs)).seq h = some ys ∧ P ys) ∨ R := .inl ⟨xs, rfl, q⟩
theorem e_fz (q : P xs) : (∃ ys, (VV.d (.fz xs)).seq h = some ys ∧ P ys) ∨ R := .inl ⟨xs, rfl, q⟩
theorem e_tw (q : P xs) : (∃ ys, (VV.tw (.lst xs)).seq h = some ys ∧ P ys) ∨ R := .inl ⟨xs, rfl, q⟩
theorem e_bw (q : P xs) : (∃ ys, (VV.bw (.lst xs)).seq h = some ys ∧ P ys) ∨ R := .inl ⟨xs, rfl, q⟩
end
theorem any_nat {ws : List Nat} {y : Nat} : ((ws.map fun (g : Nat) => D.int (g : Int)).any fun z => D.eqv z (.int (y : Int))) = decide (y ∈ ws) := by
  induction ws with
  | nil => simp
  | cons x xs ih =>
    rw [List.map_cons, List.any_cons, ih]
    simp only [D.eqv, List.mem_cons]
    by_cases e : y = x
    · subst e; simp
    · simp [e]; omega
section
variable {h : AH} {P : D → Prop} {ws : List Nat} {y : Nat} {v : VV}
theorem c_notInN (e : (v.obj h).bind AO.list = some (ws.map fun (g : Nat) => D.int (g : Int))) (q : P (.bl (!decide (y ∈ ws)))) : cmpW .notIn h (.d (.int (y : Int))) v P :=
  ⟨_, rfl, .inr ⟨_, e, fla_int, flas_map fun _ _ => fla_int, by rw [any_nat]; exact q⟩⟩
theorem c_isInN (e : (v.obj h).bind AO.list = some (ws.map fun (g : Nat) => D.int (g : Int))) (q : P (.bl (decide (y ∈ ws)))) : cmpW .isIn h (.d (.int (y : Int))) v P :=
  ⟨_, rfl, .inr ⟨_, e, fla_int, flas_map fun _ _ => fla_int, by rw [any_nat]; exact q⟩⟩
theorem c_geD {x y : VV} {a b : D} (e1 : x.dat h = some a) (e2 : y.dat h = some b) (h1 : a.fla 60 = true) (h2 : b.fla 60 = true) (h3 : D.alike a b = true) (q : P (.bl (!D.ltd a b))) : cmpW .geD h x y P := ⟨a, b, e1, e2, h1, h2, h3, q⟩
theorem c_ltD {x y : VV} {a b : D} (e1 : x.dat h = some a) (e2 : y.dat h = some b) (h1 : a.fla 60 = true) (h2 : b.fla 60 = true) (h3 : D.alike a b = true) (q : P (.bl (D.ltd a b))) : cmpW .ltD h x y P := ⟨a, b, e1, e2, h1, h2, h3, q⟩
end
theorem nodup_le : ∀ (n : Nat) (l : List Nat), l.Nodup → (∀ x ∈ l, x < n) → l.length ≤ n
  | 0, [], _, _ => Nat.le_refl _
  | 0, x :: l, _, h => absurd (h x (by simp)) (by omega)
  | n + 1, l, hn, h => by
    have := nodup_le n (l.erase n) (hn.erase n) (fun x hx => by
      have h1 := (hn.mem_erase_iff).mp hx
      have := h x h1.2
      have := h1.1
      omega)
    rw [List.length_erase] at this
    split at this <;> omega
theorem fla_boolD {b : Bool} {n : Nat} : (D.bl b).fla n = true := by simp [D.fla]
/-! ### enders of w_tup, w_dsp, w_ival, w_irg -/
theorem t_1 {a : D} {P : List D → Prop} (q : P [a]) : ∃ xs, [VV.d a] = xs.map VV.d ∧ xs.length ≤ sizeLine ∧ P xs := ⟨[a], rfl, by simp only [List.length]; decide, q⟩
theorem t_0 {P : List D → Prop} (q : P []) : ∃ xs, ([] : List VV) = xs.map VV.d ∧ xs.length ≤ sizeLine ∧ P xs := ⟨[], rfl, by simp only [List.length]; decide, q⟩
theorem t_2 {a b : D} {P : List D → Prop} (q : P [a, b]) : ∃ xs, [VV.d a, .d b] = xs.map VV.d ∧ xs.length ≤ sizeLine ∧ P xs := ⟨[a, b], rfl, by simp only [List.length]; decide, q⟩
theorem t_3 {a b c : D} {P : List D → Prop} (q : P [a, b, c]) : ∃ xs, [VV.d a, .d b, .d c] = xs.map VV.d ∧ xs.length ≤ sizeLine ∧ P xs := ⟨[a, b, c], rfl, by simp only [List.length]; decide, q⟩
theorem t_4 {a b c d : D} {P : List D → Prop} (q : P [a, b, c, d]) : ∃ xs, [VV.d a, .d b, .d c, .d d] = xs.map VV.d ∧ xs.length ≤ sizeLine ∧ P xs := ⟨[a, b, c, d], rfl, by simp only [List.length]; decide, q⟩
section
variable {h : AH} {P : List D → Prop} {xs : List D}
theorem s_tup (q : P xs) : ∃ ys, (VV.d (.tup xs)).seq h = some ys ∧ P ys := ⟨xs, rfl, q⟩
theorem s_fz (q : P xs) : ∃ ys, (VV.d (.fz xs)).seq h = some ys ∧ P ys := ⟨xs, rfl, q⟩
theorem s_tw (q : P xs) : ∃ ys, (VV.tw (.lst xs)).seq h = some ys ∧ P ys := ⟨xs, rfl, q⟩
theorem s_bw (q : P xs) : ∃ ys, (VV.bw (.lst xs)).seq h = some ys ∧ P ys := ⟨xs, rfl, q⟩
end
section
variable {P : List D → Prop} {h : AH} {xs : List D}
theorem v_tup {cp : Bool} (q : P xs) : (cp = true ∨ ∀ o, VV.d (.tup xs) ≠ .tw o) ∧ ∃ ys, (VV.d (.tup xs)).seq h = some ys ∧ P ys := ⟨.inr (by intro _ e; cases e), xs, rfl, q⟩
theorem v_fz {cp : Bool} (q : P xs) : (cp = true ∨ ∀ o, VV.d (.fz xs) ≠ .tw o) ∧ ∃ ys, (VV.d (.fz xs)).seq h = some ys ∧ P ys := ⟨.inr (by intro _ e; cases e), xs, rfl, q⟩
theorem v_tw (q : P xs) : (true = true ∨ ∀ o, VV.tw (.lst xs) ≠ .tw o) ∧ ∃ ys, (VV.tw (.lst xs)).seq h = some ys ∧ P ys := ⟨.inl rfl, xs, rfl, q⟩
theorem v_bw {cp : Bool} (q : P xs) : (cp = true ∨ ∀ o, VV.bw (.lst xs) ≠ .tw o) ∧ ∃ ys, (VV.bw (.lst xs)).seq h = some ys ∧ P ys := ⟨.inr (by intro _ e; cases e), xs, rfl, q⟩
theorem v_rg1 {i : Int} {P : Prop} (c1 : -(2 ^ 62) ≤ i) (c2 : i < 2 ^ 62) (q : P) : -(2 ^ 62) ≤ i ∧ i < 2 ^ 62 ∧ P := ⟨c1, c2, q⟩
theorem v_rg2 {i j : Int} {P : Int → Int → Prop} (c1 : -(2 ^ 62) ≤ i) (c2 : i < 2 ^ 62) (c3 : -(2 ^ 62) ≤ j) (c4 : j < 2 ^ 62) (q : P i j) : ∃ i' j', VV.d (.int i) = .d (.int i') ∧ VV.d (.int j) = .d (.int j') ∧ (-(2 ^ 62) ≤ i' ∧ i' < 2 ^ 62 ∧ -(2 ^ 62) ≤ j' ∧ j' < 2 ^ 62) ∧ P i' j' := ⟨i, j, rfl, rfl, ⟨c1, c2, c3, c4⟩, q⟩
theorem v_lrg {i : Int} {P : Prop} (c1 : 0 ≤ i) (c2 : i ≤ 16777216) (q : P) : 0 ≤ i ∧ i ≤ 16777216 ∧ P := ⟨c1, c2, q⟩
theorem w_ssv {Γ : GM} {cs : Nat → Option D} {r : CSs} {e e' : Ev} {h : AH} {R : CEnds} (c : e = e') (q : wpSs Γ cs r e' h R) : wpSs Γ cs r e h R := c ▸ q
theorem sz {n : Nat} (h : n < 1000000) : n < sizeLine := Nat.lt_of_lt_of_le h (by decide)
theorem szl {n : Nat} (h : n ≤ 1000000) : n ≤ sizeLine := Nat.le_trans h (by decide)
theorem l_app {P : D → Prop} {d : D} {xs : List D} (c : xs.length < sizeLine) (q : P d) : ∃ x, VV.d d = .d x ∧ xs.length < sizeLine ∧ P x := ⟨d, rfl, c, q⟩
end
theorem x_at {h : AH} {x : VV} {xs : List D} {i : Int} {v : D} {P : D → Prop} (e : x.seq h = some xs) (a : atI xs i = some v) (q : P v) : ixW h x (.d (.int i)) P := .inl ⟨xs, i, v, e, rfl, a, q⟩
end G
namespace G
open PySem L2
/-! ### own dicts with values by value -/
section
variable {κ α β : Type} [DecidableEq κ] [DecidableEq α]
def look (kvs : List (α × β)) (a : α) : Option β := (kvs.find? fun kv => decide (kv.1 = a)).map (·.2)
theorem look_cons {p : α × β} {kvs : List (α × β)} {a : α} : look (p :: kvs) a = if p.1 = a then some p.2 else look kvs a := by
  unfold look
  rw [List.find?_cons]
  by_cases h : p.1 = a
  · rw [if_pos h]; simp [h]
  · rw [if_neg h]; simp [h]
theorem look_nil {a : α} : look ([] : List (α × β)) a = none := rfl
theorem look_app {xs ys : List (α × β)} {a : α} : look (xs ++ ys) a = (look xs a).or (look ys a) := by
  induction xs with
  | nil => simp [look_nil]
  | cons p xs ih =>
    rw [List.cons_append, look_cons, look_cons, ih]
    by_cases h : p.1 = a
    · rw [if_pos h, if_pos h]; rfl
    · rw [if_neg h, if_neg h]
theorem gV_map (e : α → κ) (f : β → D) (he : ∀ a b, e a = e b → a = b) : ∀ (kvs : List (α × β)) (a : α), gV (kvs.map fun p => (e p.1, f p.2)) (e a) = (look kvs a).map f
  | [], a => rfl
  | p :: kvs, a => by
    rw [look_cons]
    have ih := gV_map e f he kvs a
    unfold gV at ih ⊢
    rw [List.map_cons, List.find?_cons]
    by_cases h : p.1 = a
    · rw [if_pos h]; simp [h]
    · have : decide (e p.1 = e a) = false := decide_eq_false fun z => h (he _ _ z)
      rw [if_neg h, ← ih]
      show Option.map _ (match decide (e p.1 = e a) with | true => _ | false => _) = _
      rw [this]
theorem pV_new (e : α → κ) (f : β → D) (he : ∀ a b, e a = e b → a = b) {kvs : List (α × β)} {a : α} (hn : look kvs a = none) (v : β) : pV (kvs.map fun p => (e p.1, f p.2)) (e a) (f v) = (kvs ++ [(a, v)]).map fun p => (e p.1, f p.2) := by
  unfold pV
  rw [if_neg, List.map_append]
  · rfl
  · intro h
    obtain ⟨q, hq, hk⟩ := List.any_eq_true.mp h
    obtain ⟨p, hp, rfl⟩ := List.mem_map.mp hq
    have e1 : p.1 = a := he _ _ (by simpa using hk)
    unfold look at hn
    rw [Option.map_eq_none_iff, List.find?_eq_none] at hn
    exact hn p hp (by simp [e1])
def setV (kvs : List (α × β)) (a : α) (v : β) : List (α × β) := if (look kvs a).isSome = true then kvs.map (fun kv => if kv.1 = a then (kv.1, v) else kv) else kvs ++ [(a, v)]
theorem look_isSome {kvs : List (α × β)} {a : α} : (look kvs a).isSome = kvs.any fun kv => decide (kv.1 = a) := by
  induction kvs with
  | nil => rfl
  | cons p kvs ih =>
    rw [look_cons, List.any_cons, ← ih]
    by_cases h : p.1 = a
    · rw [if_pos h]; simp [h]
    · rw [if_neg h]; simp [h]
theorem pV_map (e : α → κ) (f : β → D) (he : ∀ a b, e a = e b → a = b) (kvs : List (α × β)) (a : α) (v : β) : pV (kvs.map fun p => (e p.1, f p.2)) (e a) (f v) = (setV kvs a v).map fun p => (e p.1, f p.2) := by
  have h1 : ((kvs.map fun p => (e p.1, f p.2)).any fun kv => decide (kv.1 = e a)) = (look kvs a).isSome := by
    rw [look_isSome, List.any_map]
    congr 1
    funext p
    by_cases h : p.1 = a
    · simp [h]
    · have : e p.1 ≠ e a := fun z => h (he _ _ z)
      simp [h, this]
  unfold pV setV
  rw [h1]
  by_cases h : (look kvs a).isSome = true
  · rw [if_pos h, if_pos h, List.map_map, List.map_map]
    refine List.map_congr_left fun p _ => ?_
    by_cases hp : p.1 = a
    · simp [hp]
    · have : e p.1 ≠ e a := fun z => hp (he _ _ z)
      simp [hp, this]
  · rw [if_neg h, if_neg h, List.map_append]; rfl
theorem look_setV {kvs : List (α × β)} {a b : α} {v : β} : look (setV kvs a v) b = if a = b then some v else look kvs b := by
  unfold setV
  by_cases h : (look kvs a).isSome = true
  · rw [if_pos h]
    induction kvs with
    | nil => simp [look_nil] at h
    | cons p kvs ih =>
      rw [List.map_cons, look_cons, look_cons]
      rw [look_cons] at h
      by_cases hp : p.1 = a
      · rw [if_pos hp]
        by_cases hab : a = b
        · rw [if_pos hab]; simp [hp, hab]
        · rw [if_neg hab]
          simp only [hp]
          rw [if_neg hab, if_neg hab]
          by_cases h2 : (look kvs a).isSome = true
          · rw [ih h2, if_neg hab]
          · have : kvs.map (fun kv => if kv.1 = a then (kv.1, v) else kv) = kvs := by
              rw [look_isSome] at h2
              have h3 : ∀ q ∈ kvs, q.1 ≠ a := fun q hq e => h2 (List.any_eq_true.mpr ⟨q, hq, by simp [e]⟩)
              conv => rhs; rw [← List.map_id kvs]
              exact List.map_congr_left fun q hq => by rw [if_neg (h3 q hq)]; rfl
            rw [this]
      · rw [if_neg hp]
        rw [if_neg hp] at h
        rw [ih h]
        by_cases hab : a = b
        · subst hab; simp [hp]
        · simp [hab]
  · rw [if_neg h, look_app, look_cons, look_nil]
    have : look kvs a = none := by cases e : look kvs a <;> simp_all
    by_cases hab : a = b
    · subst hab; rw [this, if_pos rfl]; simp
    · rw [if_neg hab, if_neg hab]; cases look kvs b <;> rfl
theorem setV_len {kvs : List (α × β)} {a : α} {v : β} : (setV kvs a v).length = if (look kvs a).isSome = true then kvs.length else kvs.length + 1 := by
  unfold setV
  split <;> simp
end
/-- keys of a kind, and the dict with them -/
structure KeyT (α : Type) [DecidableEq α] where
  kd : α → D
  ob : {β : Type} → (β → D) → List (α × β) → AO
  get : ∀ {β : Type} (f : β → D) (kvs : List (α × β)) (a : α), (ob f kvs).get (kd a) = some ((look kvs a).map f)
  put : ∀ {β : Type} (f : β → D) (kvs : List (α × β)) (a : α) (v : β), kvs.length < sizeLine → (ob f kvs).put (kd a) (f v) = some (ob f (setV kvs a v))
  size : ∀ {β : Type} (f : β → D) (kvs : List (α × β)), (ob f kvs).size = some kvs.length
  nol : ∀ {β : Type} (f : β → D) (kvs : List (α × β)), (ob f kvs).list = none
  emp : ∀ {β : Type} (f : β → D), ob f [] = .dK [] ∨ ob f [] = .dT []
def intKey : KeyT Int where
  kd := .int
  ob f kvs := .dK (kvs.map fun p => (.inl p.1, f p.2))
  get f kvs a := by
    show some (gV _ _) = _
    exact congrArg some (gV_map (κ := Key) Sum.inl f (fun a b h => by cases h; rfl) kvs a)
  put f kvs a v h := by
    show (if (kvs.map fun p => ((Sum.inl p.1 : Key), f p.2)).length < sizeLine then some (AO.dK (pV _ _ _)) else none) = _
    rw [List.length_map, if_pos h]
    exact congrArg (fun z => some (AO.dK z)) (pV_map (κ := Key) Sum.inl f (fun a b h => by cases h; rfl) kvs a v)
  size f kvs := by show some _ = _; rw [List.length_map]
  nol _ _ := rfl
  emp _ := .inl rfl
def listKey : KeyT (List Int) where
  kd w := .tup (w.map .int)
  ob f kvs := .dT (kvs.map fun p => (p.1.map Sum.inl, f p.2))
  get f kvs a := by
    show (keysOf _).map _ = _
    have e : ∀ w : List Int, keysOf (w.map .int) = some (w.map Sum.inl) := by
      intro w
      induction w with
      | nil => rfl
      | cons i w ih => simp only [List.map_cons, keysOf, D.key, ih]
    rw [e]
    exact congrArg some (gV_map (κ := List Key) (List.map Sum.inl) f (fun a b h => List.map_inj_right (fun _ _ z => Sum.inl.inj z) |>.mp h) kvs a)
  put f kvs a v h := by
    show (keysOf _).bind _ = _
    have e : ∀ w : List Int, keysOf (w.map .int) = some (w.map Sum.inl) := by
      intro w
      induction w with
      | nil => rfl
      | cons i w ih => simp only [List.map_cons, keysOf, D.key, ih]
    rw [e]
    show (if (kvs.map fun p => ((p.1.map Sum.inl : List Key), f p.2)).length < sizeLine then some (AO.dT (pV _ _ _)) else none) = _
    rw [List.length_map, if_pos h]
    exact congrArg (fun z => some (AO.dT z)) (pV_map (κ := List Key) (List.map Sum.inl) f (fun a b h => List.map_inj_right (fun _ _ z => Sum.inl.inj z) |>.mp h) kvs a v)
  size f kvs := by show some _ = _; rw [List.length_map]
  nol _ _ := rfl
  emp _ := .inr rfl
section
variable {α β : Type} [DecidableEq α] {T : KeyT α} {f : β → D} {kvs : List (α × β)} {a : α} {h : AH} {P : D → Prop}
theorem k_notIn (q : P (.bl (!(look kvs a).isSome))) : cmpW .notIn h (.d (T.kd a)) (.tw (T.ob f kvs)) P :=
  ⟨_, rfl, .inl ⟨_, _, rfl, T.get f kvs a, by simpa using q⟩⟩
theorem k_isIn (q : P (.bl (look kvs a).isSome)) : cmpW .isIn h (.d (T.kd a)) (.tw (T.ob f kvs)) P :=
  ⟨_, rfl, .inl ⟨_, _, rfl, T.get f kvs a, by simpa using q⟩⟩
theorem k_get {v : β} (e : look kvs a = some v) (q : P (f v)) : ixW h (.tw (T.ob f kvs)) (.d (T.kd a)) P :=
  .inr ⟨_, _, _, rfl, rfl, by rw [T.get, e]; rfl, q⟩
theorem k_len (q : P (.int kvs.length)) : biW .len h [.tw (T.ob f kvs)] P := ⟨_, T.size f kvs, q⟩
theorem k_put {Pl : List D → Nat → D → Prop} {Po : AO → Prop} {v : β} (hl : kvs.length < sizeLine) (q : Po (T.ob f (setV kvs a v))) :
    ∃ x y, VV.d (f v) = .d x ∧ VV.d (T.kd a) = .d y ∧ ((∃ xs z j, T.ob f kvs = .lst xs ∧ y = .int z ∧ ixN xs.length z = some j ∧ Pl xs j x) ∨ ∃ o', (T.ob f kvs).put y x = some o' ∧ Po o') :=
  ⟨_, _, rfl, rfl, .inr ⟨_, T.put f kvs a v hl, q⟩⟩
theorem w_sasgDk {Γ : GM} {cs : Nat → Option D} {env : Ev} {i : Nat} {rn : Ev → AH → Prop} {rt : RR → AH → Prop} {rb rc : Ev → AH → Prop} {rx : EX → Ev → AH → Prop} (T : KeyT α) (f : β → D) (q : rn (env.set i (some (.own (T.ob f [])))) h) : wpS Γ cs (.asgD i) env h ⟨rn, rt, rb, rc, rx⟩ := by
  rcases T.emp f with e | e
  · rw [e] at q; exact .inl q
  · rw [e] at q; exact .inr q
end
end G

namespace G
open PySem L2
/-! ### the heap's objects; exceptions; instances -/
section
variable {Γ : GM} {cs : Nat → Option D} {env : Ev} {h : AH} {X : EX → AH → Prop} {Q : VV → AH → Prop}
theorem w_getD {o k : CE} (q : wpE Γ cs o env h (fun x h1 => (∃ ob, x.obj h1 = some ob ∧ ob.isD = true) ∧ wpE Γ cs k env h1 (fun y h2 => ∃ a u r, x.obj h2 = some a ∧ y = .d u ∧ a.get u = some r ∧ Q (.d (r.getD .non)) h2) X) X) : wpE Γ cs (.getD o k) env h Q X := q
theorem w_newL {l : LE} (q : wpL Γ cs l env h (fun xs h1 => newW h1 (.lst xs) Q) X) : wpE Γ cs (.newL l) env h Q X := q
theorem w_newD {t : Bool} (q : newW h (if t = true then .dT [] else .dK []) Q) : wpE Γ cs (.newD t) env h Q X := q
theorem l_new {o : AO} (q : Q (.d (.ref h.length)) (h ++ [o])) : newW h o Q := q
theorem w_sdf {o k v : CE} (q : wpE Γ cs o env h (fun x h1 => (∃ ob, x.obj h1 = some ob ∧ ob.isD = true) ∧ wpE Γ cs k env h1 (fun y h2 => wpE Γ cs v env h2 (fun z h3 => setdW h3 x y z Q) X) X) X) : wpE Γ cs (.sdf o k v) env h Q X := q
theorem w_appX {o a : CE} (q : wpE Γ cs o env h (fun x h1 => (∃ n xs, hL h1 x = some (n, xs)) ∧ wpE Γ cs a env h1 (fun y h2 => ∃ n xs v, hL h2 x = some (n, xs) ∧ y = .d v ∧ xs.length < sizeLine ∧ Q (.d .non) (h2.set n (.lst (xs ++ [v])))) X) X) : wpE Γ cs (.appX o a) env h Q X := q
theorem w_extX {o : CE} {l : LE} (q : wpE Γ cs o env h (fun x h1 => (∃ n xs, hL h1 x = some (n, xs)) ∧ wpL Γ cs l env h1 (fun ys h2 => ∃ n xs, hL h2 x = some (n, xs) ∧ xs.length + ys.length ≤ sizeLine ∧ Q (.d .non) (h2.set n (.lst (xs ++ ys)))) X) X) : wpE Γ cs (.extX o l) env h Q X := q
theorem w_clrX {o : CE} (q : wpE Γ cs o env h (fun x h1 => ∃ n xs, hL h1 x = some (n, xs) ∧ Q (.d .non) (h1.set n (.lst []))) X) : wpE Γ cs (.clrX o) env h Q X := q
theorem w_popX {o : CE} (q : wpE Γ cs o env h (fun x h1 => ∃ n xs v, hL h1 x = some (n, xs) ∧ xs[xs.length - 1]? = some v ∧ Q (.d v) (h1.set n (.lst xs.dropLast))) X) : wpE Γ cs (.popX o) env h Q X := q
theorem w_popAt {o i : CE} (q : wpE Γ cs o env h (fun x h1 => (∃ n xs, hL h1 x = some (n, xs)) ∧ wpE Γ cs i env h1 (fun y h2 => ∃ n xs j k v, hL h2 x = some (n, xs) ∧ y = .d (.int j) ∧ -(2 ^ 63) ≤ j ∧ j < 2 ^ 63 ∧ seqIndex? j xs.length = some k ∧ xs[k]? = some v ∧ Q (.d v) (h2.set n (.lst (xs.eraseIdx k)))) X) X) : wpE Γ cs (.popAt o i) env h Q X := q
theorem w_idx {o a : CE} (q : wpE Γ cs o env h (fun x h1 => (∃ xs, (x.obj h1).bind AO.list = some xs) ∧ wpE Γ cs a env h1 (fun y h2 => idxW h2 x y fun z => Q (.d z) h2) X) X) : wpE Γ cs (.idx o a) env h Q X := q
theorem w_divm {a b : CE} (q : wpE Γ cs a env h (fun x h1 => wpE Γ cs b env h1 (fun y h2 => ∃ i j, x = .d (.int i) ∧ y = .d (.int j) ∧ cDiv j ∧ Q (.d (.tup [.int (i / j), .int (i % j)])) h2) X) X) : wpE Γ cs (.divm a b) env h Q X := q
theorem w_fld {k : Nat} {o : CE} {f : Str} (q : wpE Γ cs o env h (fun x h1 => ∃ n c fs d, x = .d (.ref n) ∧ h1[n]? = some (.ins c fs) ∧ c < k ∧ fs.lookup f = some d ∧ Q (.d d) h1) X) : wpE Γ cs (.fld k o f) env h Q X := q
theorem w_meth {c f : Nat} {m : Str} {o : CE} {es : CEs} (q : wpE Γ cs o env h (fun x h1 => ∃ n fs, x = .d (.ref n) ∧ h1[n]? = some (.ins c fs) ∧ fs.lookup m = none ∧ wpEs Γ cs es env h1 (fun vs h2 => Γ f (x :: vs.map toArg) h2 (RR.rd Q) X) X) X) : wpE Γ cs (.meth c m f o es) env h Q X := q
theorem w_mk {c f : Nat} {es : CEs} (q : wpEs Γ cs es env h (fun vs h1 => Γ (f + 1000) (.d (.ref h1.length) :: vs.map toArg) (h1 ++ [.ins c []]) (fun r h2 => r = .d .non ∧ Q (.d (.ref h1.length)) h2) X) X) : wpE Γ cs (.mk c f es) env h Q X := q
theorem w_listRg2 {Ql : List D → AH → Prop} {a b : CE} (q : wpE Γ cs a env h (fun x h1 => wpE Γ cs b env h1 (fun y h2 => ∃ i j, x = .d (.int i) ∧ y = .d (.int j) ∧ (-(2 ^ 62) ≤ i ∧ i < 2 ^ 62 ∧ -(2 ^ 62) ≤ j ∧ j < 2 ^ 62) ∧ (j - i).toNat ≤ 16777216 ∧ Ql (rgD i (j - i).toNat) h2) X) X) : wpL Γ cs (.listRg2 a b) env h Ql X := q
/-! leaves -/
theorem r_list {A : Prop} {n : Nat} {xs : List D} (e : h[n]? = some (.lst xs)) (q : A) : (∃ m ys, hL h (.d (.ref n)) = some (m, ys)) ∧ A := ⟨⟨n, xs, by simp [hL, e]⟩, q⟩
theorem app_at {n : Nat} {xs : List D} {v : D} (e : h[n]? = some (.lst xs)) (l : xs.length < sizeLine) (q : Q (.d .non) (h.set n (.lst (xs ++ [v])))) : ∃ m ys u, hL h (.d (.ref n)) = some (m, ys) ∧ VV.d v = .d u ∧ ys.length < sizeLine ∧ Q (.d .non) (h.set m (.lst (ys ++ [u]))) := ⟨n, xs, v, by simp [hL, e], rfl, l, q⟩
theorem ext_at {n : Nat} {xs zs : List D} (e : h[n]? = some (.lst xs)) (l : xs.length + zs.length ≤ sizeLine) (q : Q (.d .non) (h.set n (.lst (xs ++ zs)))) : ∃ m ys, hL h (.d (.ref n)) = some (m, ys) ∧ ys.length + zs.length ≤ sizeLine ∧ Q (.d .non) (h.set m (.lst (ys ++ zs))) := ⟨n, xs, by simp [hL, e], l, q⟩
theorem pop_at {n : Nat} {xs : List D} {v : D} (e : h[n]? = some (.lst (xs ++ [v]))) (q : Q (.d v) (h.set n (.lst xs))) : ∃ m ys u, hL h (.d (.ref n)) = some (m, ys) ∧ ys[ys.length - 1]? = some u ∧ Q (.d u) (h.set m (.lst ys.dropLast)) :=
  ⟨n, xs ++ [v], v, by simp [hL, e], by simp, by rw [List.dropLast_concat]; exact q⟩
theorem idx_at {P : D → Prop} {v : VV} {xs : List D} {a : D} {j : Nat} (e : (v.obj h).bind AO.list = some xs) (f1 : a.fla 60 = true) (f2 : D.flas 59 xs = true) (ej : (xs.findIdx? fun z => D.eqv z a) = some j) (q : P (.int (j : Nat))) : idxW h v (.d a) P := ⟨xs, a, j, e, rfl, f1, f2, ej, q⟩
theorem fld_at {n c k : Nat} {fs : List (Str × D)} {f : Str} {d : D} (e : h[n]? = some (.ins c fs)) (hc : c < k) (el : fs.lookup f = some d) (q : Q (.d d) h) : ∃ m c' gs u, VV.d (.ref n) = .d (.ref m) ∧ h[m]? = some (.ins c' gs) ∧ c' < k ∧ gs.lookup f = some u ∧ Q (.d u) h := ⟨n, c, fs, d, rfl, e, hc, el, q⟩
theorem meth_at {A : Prop} {n c : Nat} {fs : List (Str × D)} {m : Str} (e : h[n]? = some (.ins c fs)) (el : fs.lookup m = none) (q : A) : ∃ n' gs, VV.d (.ref n) = .d (.ref n') ∧ h[n']? = some (.ins c gs) ∧ gs.lookup m = none ∧ A := ⟨n, fs, rfl, e, el, q⟩
theorem divm_at {i j : Int} (c1 : 0 < j) (c2 : j < 1073741824) (q : Q (.d (.tup [.int (i / j), .int (i % j)])) h) : ∃ i' j', VV.d (.int i) = .d (.int i') ∧ VV.d (.int j) = .d (.int j') ∧ cDiv j' ∧ Q (.d (.tup [.int (i' / j'), .int (i' % j')])) h := ⟨i, j, rfl, rfl, ⟨c1, c2⟩, q⟩
theorem sdf_new {n : Nat} {o o' : AO} {a v : D} (e : h[n]? = some o) (hs : ∃ m, o.size = some m ∧ m < sizeLine) (eg : o.get a = some none) (ep : o.put a v = some o') (q : Q (.d v) (h.set n o')) : setdW h (.d (.ref n)) (.d a) (.d v) Q := ⟨n, o, a, v, none, rfl, e, rfl, rfl, eg, hs, o', ep, q⟩
theorem sdf_old {n : Nat} {o : AO} {a v w : D} (e : h[n]? = some o) (hs : ∃ m, o.size = some m ∧ m < sizeLine) (eg : o.get a = some (some w)) (q : Q (.d w) h) : setdW h (.d (.ref n)) (.d a) (.d v) Q := ⟨n, o, a, v, some w, rfl, e, rfl, rfl, eg, hs, q⟩
section
variable {rn : Ev → AH → Prop} {rt : RR → AH → Prop} {rb rc : Ev → AH → Prop} {rx : EX → Ev → AH → Prop}
theorem w_sasgD1 {i : Nat} {k v : CE} (q : wpE Γ cs k env h (fun y h1 => wpE Γ cs v env h1 (fun z h2 => ∃ u w ks, y = .d u ∧ z = .d w ∧ u.keys = some ks ∧ rn (env.set i (some (.own (.dT [(ks, w)])))) h2) (fun x h' => rx x env h')) (fun x h' => rx x env h')) : wpS Γ cs (.asgD1 i k v) env h ⟨rn, rt, rb, rc, rx⟩ := q
theorem w_ssetixE {o k e : CE} (q : wpE Γ cs e env h (fun v h1 => wpE Γ cs o env h1 (fun x h2 => wpE Γ cs k env h2 (fun u h3 => ∃ d n ob y, v = .d d ∧ x = .d (.ref n) ∧ h3[n]? = some ob ∧ u = .d y ∧
      ((∃ xs z j, ob = .lst xs ∧ y = .int z ∧ ixN xs.length z = some j ∧ rn env (h3.set n (.lst (xs.set j d)))) ∨ ∃ o', ob.put y d = some o' ∧ rn env (h3.set n o'))) (fun x h' => rx x env h')) (fun x h' => rx x env h')) (fun x h' => rx x env h')) : wpS Γ cs (.setixE o k e) env h ⟨rn, rt, rb, rc, rx⟩ := q
theorem w_ssetf {k : Nat} {o e : CE} {f : Str} (q : wpE Γ cs e env h (fun v h1 => wpE Γ cs o env h1 (fun x h2 => ∃ d n c fs, v = .d d ∧ x = .d (.ref n) ∧ h2[n]? = some (.ins c fs) ∧ c < k ∧ fs.length < 1000 ∧ rn env (h2.set n (.ins c (putFD f d fs)))) (fun x h' => rx x env h')) (fun x h' => rx x env h')) : wpS Γ cs (.setf k o f e) env h ⟨rn, rt, rb, rc, rx⟩ := q
theorem w_sraise {c : Nat} (q : rx ⟨c, []⟩ env h) : wpS Γ cs (.raise c) env h ⟨rn, rt, rb, rc, rx⟩ := q
theorem w_stry {k : Nat} {l : List Nat} {x : Str} {n : Option Nat} {a : CSs} {s : EH} (q : wpSs Γ cs a env h ⟨rn, rt, rb, rc, fun x e h' => x.c < k ∧ if l.contains x.c = true then x.fs = [] ∧ ehW s n x e h' ⟨rn, rt, rb, rc, rx⟩ else rx x e h'⟩) : wpS Γ cs (.tryX k l x n a s) env h ⟨rn, rt, rb, rc, rx⟩ := q
/-- a caught exception -/
theorem ex_in {k c : Nat} {l : List Nat} {s : EH} {n : Option Nat} {R : CEnds} {A : Prop} (hk : c < k) (hl : l.contains c = true) (q : ehW s n ⟨c, []⟩ env h R) : (⟨c, []⟩ : EX).c < k ∧ if l.contains (⟨c, []⟩ : EX).c = true then (⟨c, []⟩ : EX).fs = [] ∧ ehW s n ⟨c, []⟩ env h R else A :=
  ⟨hk, by rw [if_pos hl]; exact ⟨rfl, q⟩⟩
theorem eh_asg {i : Nat} {e : EE} {c : Nat} {n : Option Nat} {d : D} (hn : (match n with
  | some k => decide (k < env.length) = true
  | none => True)) (ed : e.val c = d) (q : rn (wipeE (env.set i (some (.val d))) n.toList) h) : ehW (.asg i e) n ⟨c, []⟩ env h ⟨rn, rt, rb, rc, rx⟩ := ⟨hn, by subst ed; exact q⟩
theorem eh_ret {e : EE} {c : Nat} {n : Option Nat} {d : D} (hn : (match n with
  | some k => decide (k < env.length) = true
  | none => True)) (ed : e.val c = d) (q : rt (.d d) h) : ehW (.ret e) n ⟨c, []⟩ env h ⟨rn, rt, rb, rc, rx⟩ := ⟨hn, by subst ed; exact q⟩
end
/-- d[k] = v, an item of a list of the heap -/
theorem setE_nat {α : Type} {f : α → D} {ns : List α} {Pl : List D → AH → Prop} {Po : AO → AH → Prop} {n j : Nat} {x : D} (e : h[n]? = some (.lst (ns.map f))) (hj : j < ns.length) (q : Pl ((ns.map f).set j x) (h.set n (.lst ((ns.map f).set j x)))) :
    ∃ d m ob y, VV.d x = .d d ∧ VV.d (.ref n) = .d (.ref m) ∧ h[m]? = some ob ∧ VV.d (.int (j : Int)) = .d y ∧
      ((∃ xs z i, ob = .lst xs ∧ y = .int z ∧ ixN xs.length z = some i ∧ Pl (xs.set i d) (h.set m (.lst (xs.set i d)))) ∨ ∃ o', ob.put y d = some o' ∧ Po o' (h.set m o')) := by
  refine ⟨x, n, _, _, rfl, rfl, e, rfl, .inl ⟨_, _, j, rfl, rfl, ?_, q⟩⟩
  rw [List.length_map]
  unfold ixN
  rw [if_pos (by omega), if_pos (by omega)]
  simp
end
theorem keysOf_ints : ∀ w : List Int, keysOf (w.map .int) = some (w.map Sum.inl)
  | [] => rfl
  | i :: w => by simp only [List.map_cons, keysOf, D.key, keysOf_ints w]
/-- {k: v} with a tuple of numbers as its key -/
theorem k_disp {β : Type} {f : β → D} {a : List Int} {v : β} {P : List Key → D → Prop} (q : P (a.map Sum.inl) (f v)) : ∃ u w ks, VV.d (listKey.kd a) = .d u ∧ VV.d (f v) = .d w ∧ u.keys = some ks ∧ P ks w := ⟨_, _, a.map Sum.inl, rfl, rfl, keysOf_ints a, q⟩
end G

open PySem PySem.Spec PyProof.Rows L2 G in
local macro_rules | `(tactic| walk_at "w") => `(tactic| first
  | (with_reducible refine v_rg1 ?_ ?_ ?_); omega; omega
  | (with_reducible refine v_rg2 ?_ ?_ ?_ ?_ ?_); omega; omega; omega; omega
  | (with_reducible refine v_lrg ?_ ?_ ?_); omega; omega
  | (with_reducible refine w_varV (d := ?_) ?_ ?_); rotate_left; rfl
  | with_reducible refine w_int ?_
  | with_reducible refine w_bin ?_
  | with_reducible refine l_bin ?_
  | with_reducible refine b_add ?_
  | with_reducible refine b_sub ?_
  | (with_reducible refine b_mulL ?_ ?_ ?_); omega; omega
  | (with_reducible refine b_mulR ?_ ?_ ?_); omega; omega
  | (with_reducible refine b_mod ?_ ?_); omega
  | (with_reducible refine b_fdivB ?_ ?_ ?_); omega; omega
  | with_reducible refine w_sasg ?_
  | with_reducible refine l_dval ?_
  | with_reducible refine g_nm ?_
  | with_reducible refine w_cons ?_
  | with_reducible refine w_nil ?_
  | with_reducible refine w_call ?_
  | with_reducible refine w_cmp ?_
  | with_reducible refine c_lt ?_
  | with_reducible refine c_eqI ?_
  | with_reducible refine c_neI ?_
  | with_reducible refine c_le ?_
  | with_reducible refine c_gt ?_
  | with_reducible refine c_ge ?_
  | with_reducible refine w_te ?_
  | with_reducible refine l_tru ?_
  | with_reducible refine w_site ?_
  | with_reducible refine w_ssnil ?_
  | with_reducible refine w_andT ?_
  | with_reducible refine w_orT ?_
  | with_reducible refine w_notT ?_
  | with_reducible refine w_sret ?_
  | with_reducible refine w_bi ?_
  | with_reducible refine i_lenTm ?_
  | with_reducible refine i_lenFm ?_
  | with_reducible refine i_lenOm ?_
  | with_reducible refine i_lenBm ?_
  | with_reducible refine i_lenT ?_
  | with_reducible refine i_lenF ?_
  | with_reducible refine i_lenO ?_
  | with_reducible refine i_lenB ?_
  | with_reducible refine i_min2 ?_
  | with_reducible refine i_max2 ?_
  | (with_reducible refine w_varO (o := ?_) ?_ ?_); rotate_left; rfl
  | (with_reducible refine w_varB (o := ?_) ?_ ?_); rotate_left; rfl
  | with_reducible refine w_ix ?_
  | with_reducible refine r_d ?_
  | with_reducible refine r_mv ?_
  | with_reducible refine w_bl ?_
  | with_reducible refine w_non ?_
  | with_reducible refine w_str ?_
  | with_reducible refine w_neg ?_
  | with_reducible refine l_ival ?_
  | with_reducible refine l_bval ?_
  | with_reducible refine l_bvalD ?_
  | with_reducible refine w_andV ?_
  | with_reducible refine w_orV ?_
  | with_reducible refine w_notV ?_
  | with_reducible refine w_chain ?_
  | with_reducible refine w_iteE ?_
  | with_reducible refine w_tup ?_
  | (with_reducible refine w_glob (d := ?_) ?_ ?_); rotate_left; rfl
  | with_reducible refine c_isN ?_
  | with_reducible refine c_notN ?_
  | with_reducible refine c_isB ?_
  | with_reducible refine c_notB ?_
  | with_reducible refine w_tupOf ?_
  | with_reducible refine w_tupE ?_
  | with_reducible refine w_fzOf ?_
  | with_reducible refine w_tupRev ?_
  | with_reducible refine w_no ?_
  | with_reducible refine w_so ?_
  | with_reducible refine w_slc ?_
  | with_reducible refine w_lc ?_
  | with_reducible refine w_dsp ?_
  | with_reducible refine w_listE ?_
  | with_reducible refine w_listRg ?_
  | with_reducible refine w_srt ?_
  | with_reducible refine w_cat ?_
  | with_reducible refine w_catE ?_
  | with_reducible refine w_rep ?_
  | with_reducible refine w_slcL ?_
  | with_reducible refine w_ival ?_
  | with_reducible refine w_irg1 ?_
  | with_reducible refine w_irg2 ?_
  | with_reducible refine w_ienum ?_
  | with_reducible refine w_izip ?_
  | with_reducible refine w_sasgO ?_
  | with_reducible refine w_sasgC ?_
  | (with_reducible refine w_saug (x := ?_) ?_ ?_); rotate_left; rfl
  | (with_reducible refine w_ssetix (o := ?_) ?_ ?_); rotate_left; rfl
  | (with_reducible refine w_sapp (xs := ?_) ?_ ?_); rotate_left; rfl
  | (with_reducible refine w_sext (xs := ?_) ?_ ?_); rotate_left; rfl
  | (with_reducible refine w_sexte (xs := ?_) ?_ ?_); rotate_left; rfl
  | (with_reducible refine w_sclr (xs := ?_) ?_ ?_); rotate_left; rfl
  | with_reducible refine w_sexp ?_
  | (with_reducible refine w_sretM (o := ?_) ?_ ?_); rotate_left; rfl
  | with_reducible refine w_sretN ?_
  | with_reducible refine w_sretL ?_
  | with_reducible refine w_sfor ?_
  | (with_reducible refine w_sasgV (o := ?_) ?_ ?_ ?_ ?_); rotate_left; rfl; decide; (exact Nat.le_of_ble_eq_true rfl)
  | (with_reducible refine w_sforO (xs := ?_) ?_ ?_); rotate_left; rfl
  | with_reducible refine w_sbrk ?_
  | with_reducible refine w_scnt ?_
  | with_reducible refine w_spas ?_
  | (with_reducible refine w_sfrz (xs := ?_) ?_ ?_); rotate_left; rfl
  | with_reducible refine ite_t ?_
  | with_reducible refine ite_f ?_
  | with_reducible refine ite_nt ?_
  | with_reducible refine ite_nf ?_
  | with_reducible refine ite_nn ?_
  | with_reducible refine x0 ?_
  | with_reducible refine x1 ?_
  | with_reducible refine x2 ?_
  | with_reducible refine x3 ?_
  | with_reducible refine t_0 ?_
  | with_reducible refine t_1 ?_
  | with_reducible refine t_2 ?_
  | with_reducible refine t_3 ?_
  | with_reducible refine t_4 ?_
  | with_reducible refine s_tup ?_
  | with_reducible refine s_fz ?_
  | with_reducible refine s_tw ?_
  | with_reducible refine s_bw ?_
  | with_reducible refine v_tup ?_
  | with_reducible refine v_fz ?_
  | with_reducible refine v_tw ?_
  | with_reducible refine v_bw ?_
  | with_reducible refine isI_tt ?_
  | with_reducible refine e_tup ?_
  | with_reducible refine e_fz ?_
  | with_reducible refine e_tw ?_
  | with_reducible refine e_bw ?_
  | with_reducible refine isI_ii ?_
  | with_reducible refine isI_bi ?_
  | with_reducible refine isI_lf ?_
  | with_reducible refine isI_lo ?_
  | with_reducible refine isI_lb ?_
  | with_reducible refine w_getD ?_
  | with_reducible refine w_newL ?_
  | with_reducible refine w_newD ?_
  | with_reducible refine l_new ?_
  | with_reducible refine w_sdf ?_
  | with_reducible refine w_appX ?_
  | with_reducible refine w_extX ?_
  | with_reducible refine w_clrX ?_
  | with_reducible refine w_popX ?_
  | with_reducible refine w_popAt ?_
  | with_reducible refine w_idx ?_
  | with_reducible refine w_divm ?_
  | with_reducible refine w_fld ?_
  | with_reducible refine w_meth ?_
  | with_reducible refine w_mk ?_
  | with_reducible refine w_listRg2 ?_
  | with_reducible refine w_sortK ?_
  | with_reducible refine w_sasgD1 ?_
  | with_reducible refine w_ssetixE ?_
  | with_reducible refine w_ssetf ?_
  | with_reducible refine w_sraise ?_
  | with_reducible refine w_stry ?_)
local macro_rules | `(tactic| walk_at "a") => `(tactic| repeat (first | walk_at "w" | (with_reducible refine G.w_sscons ?_)))
local macro_rules | `(tactic| walk_at "s") => `(tactic| ((repeat walk_at "w"); (with_reducible refine G.w_sscons ?_); repeat walk_at "w"))
local macro_rules | `(tactic| walk_at "b") => `(tactic| repeat' (first | walk_at "w" | (with_reducible refine G.w_sscons ?_) | (with_reducible refine G.ite_p (fun _ => ?_) (fun _ => ?_)) | (with_reducible refine G.ite_n (fun _ => ?_) (fun _ => ?_))))

namespace N55
open PySem L2 G
def top (i : Nat) : Stmt := PySem.Challenge.pw_guesswide_k55_whole_says_difference.main.body.getD i (.Pass ⟨0, 0, 0, 0⟩)
def sub (i j : Nat) : Stmt := (clsBody (top i)).getD j (.Pass ⟨0, 0, 0, 0⟩)
def b_is_word : CSs := (.cons (.for (.nm 2) (.val (.var 1)) (.cons (.ite (.orT (.e (.cmp .lt (.var 2) (.int 0))) (.e (.cmp .ge (.var 2) (.var 0)))) (.cons (.ret (.bl false)) .nil) .nil) .nil)) (.cons (.ret (.bl true)) .nil))
def di_is_word : DI := ⟨⟨("is_word", none), "is_word", "is_word", defArgs (top 5), defBody (top 5), defScope (top 5), [], []⟩, "is_word", ["letters", "word", "letter"], ["letters", "word"], ⟨2, 3, b_is_word⟩, none⟩
theorem bn_is_word : BindN di_is_word := fun _ _ _ _ _ _ us hl => match us, hl with | [_, _], _ => rfl
def b_trail : CSs := (.cons (.ite (.notT (.e (.call 0 (.cons (.ix (.var 0) (.int 0)) (.cons (.var 1) .nil))))) (.cons (.raise 2) .nil) .nil) (.cons (.asgO 2 (.dsp (.cons (.int 0) .nil))) (.cons (.for (.nm 3) (.val (.var 1)) (.cons (.app 2 (.ix (.ix (.ix (.var 0) (.int 2)) (.ix (.var 2) (.neg (.int 1)))) (.var 3))) .nil)) (.cons (.retM 2) .nil))))
def di_trail : DI := ⟨⟨("trail", none), "trail", "trail", defArgs (top 7), defBody (top 7), defScope (top 7), [], []⟩, "trail", ["house", "word", "rooms", "letter"], ["house", "word"], ⟨2, 4, b_trail⟩, none⟩
theorem bn_trail : BindN di_trail := fun _ _ _ _ _ _ us hl => match us, hl with | [_, _], _ => rfl
def b_room_behind : CSs := (.cons (.ret (.ix (.call 1 (.cons (.var 0) (.cons (.var 1) .nil))) (.neg (.int 1)))) .nil)
def di_room_behind : DI := ⟨⟨("room_behind", none), "room_behind", "room_behind", defArgs (top 8), defBody (top 8), defScope (top 8), [], []⟩, "room_behind", ["house", "word"], ["house", "word"], ⟨2, 2, b_room_behind⟩, none⟩
theorem bn_room_behind : BindN di_room_behind := fun _ _ _ _ _ _ us hl => match us, hl with | [_, _], _ => rfl
def b_same_letters : CSs := (.cons (.ite (.e (.cmp .ne (.ix (.var 0) (.int 0)) (.ix (.var 1) (.int 0)))) (.cons (.raise 1) .nil) .nil) .nil)
def di_same_letters : DI := ⟨⟨("same_letters", none), "same_letters", "same_letters", defArgs (top 10), defBody (top 10), defScope (top 10), [], []⟩, "same_letters", ["house", "other"], ["house", "other"], ⟨2, 2, b_same_letters⟩, none⟩
theorem bn_same_letters : BindN di_same_letters := fun _ _ _ _ _ _ us hl => match us, hl with | [_, _], _ => rfl
def b_met_from : CSs := (.cons (.asgD1 3 (.var 2) (.bl true)) (.cons (.asgO 4 (.dsp (.cons (.tup (.cons (.var 2) (.cons (.tup .nil) .nil))) .nil))) (.cons (.asg (.nm 5) (.int 0)) (.cons (.whl (.e (.cmp .lt (.var 5) (.bi .len (.cons (.var 4) .nil)))) (.cons (.asg (.nm 6) (.ix (.ix (.var 4) (.var 5)) (.int 0))) (.cons (.for (.nm 7) (.rg1 (.ix (.var 0) (.int 0))) (.cons (.asg (.nm 8) (.tup (.cons (.ix (.ix (.ix (.var 0) (.int 2)) (.ix (.var 6) (.int 0))) (.var 7)) (.cons (.ix (.ix (.ix (.var 1) (.int 2)) (.ix (.var 6) (.int 1))) (.var 7)) .nil)))) (.cons (.ite (.e (.cmp .notIn (.var 8) (.var 3))) (.cons (.setix 3 (.var 8) (.bl true)) (.cons (.app 4 (.tup (.cons (.var 8) (.cons (.bin .add (.ix (.ix (.var 4) (.var 5)) (.int 1)) (.tup (.cons (.var 7) .nil))) .nil)))) .nil)) .nil) .nil))) (.cons (.asg (.nm 5) (.bin .add (.var 5) (.int 1))) .nil)))) (.cons (.retM 4) .nil)))))
def di_met_from : DI := ⟨⟨("met_from", none), "met_from", "met_from", defArgs (top 11), defBody (top 11), defScope (top 11), [], []⟩, "met_from", ["house", "other", "start", "known", "row", "at", "pair", "letter", "behind"], ["house", "other", "start"], ⟨3, 9, b_met_from⟩, none⟩
theorem bn_met_from : BindN di_met_from := fun _ _ _ _ _ _ us hl => match us, hl with | [_, _, _], _ => rfl
def b_unlike_from : CSs := (.cons (.for (.nm 3) (.val (.call 4 (.cons (.var 0) (.cons (.var 1) (.cons (.var 2) .nil))))) (.cons (.ite (.e (.cmp .ne (.ix (.ix (.var 0) (.int 1)) (.ix (.ix (.var 3) (.int 0)) (.int 0))) (.ix (.ix (.var 1) (.int 1)) (.ix (.ix (.var 3) (.int 0)) (.int 1))))) (.cons (.ret (.ix (.var 3) (.int 1))) .nil) .nil) .nil)) (.cons (.ret .non) .nil))
def di_unlike_from : DI := ⟨⟨("unlike_from", none), "unlike_from", "unlike_from", defArgs (top 12), defBody (top 12), defScope (top 12), [], []⟩, "unlike_from", ["house", "other", "start", "step"], ["house", "other", "start"], ⟨3, 4, b_unlike_from⟩, none⟩
theorem bn_unlike_from : BindN di_unlike_from := fun _ _ _ _ _ _ us hl => match us, hl with | [_, _, _], _ => rfl
def b_difference : CSs := (.cons (.exp (.call 3 (.cons (.var 0) (.cons (.var 1) .nil)))) (.cons (.ret (.call 5 (.cons (.var 0) (.cons (.var 1) (.cons (.tup (.cons (.int 0) (.cons (.int 0) .nil))) .nil))))) .nil))
def di_difference : DI := ⟨⟨("difference", none), "difference", "difference", defArgs (top 13), defBody (top 13), defScope (top 13), [], []⟩, "difference", ["house", "other"], ["house", "other"], ⟨2, 2, b_difference⟩, none⟩
theorem bn_difference : BindN di_difference := fun _ _ _ _ _ _ us hl => match us, hl with | [_, _], _ => rfl
def b_marked_rows : CSs := (.cons (.asgO 2 (.dsp .nil)) (.cons (.for (.nm 3) (.val (.ix (.var 0) (.int 1))) (.cons (.ite (.e (.cmp .notIn (.var 3) (.var 1))) (.cons (.setixE (.var 1) (.var 3) (.bi .len (.cons (.var 1) .nil))) .nil) .nil) (.cons (.app 2 (.ix (.var 1) (.var 3))) .nil))) (.cons (.ret (.tup (.cons (.ix (.var 0) (.int 0)) (.cons (.tupE (.var 2)) (.cons (.ix (.var 0) (.int 2)) .nil))))) .nil)))
def di_marked_rows : DI := ⟨⟨("marked_rows", none), "marked_rows", "marked_rows", defArgs (top 15), defBody (top 15), defScope (top 15), [], []⟩, "marked_rows", ["house", "codes", "marks", "row"], ["house", "codes"], ⟨2, 4, b_marked_rows⟩, none⟩
theorem bn_marked_rows : BindN di_marked_rows := fun _ _ _ _ _ _ us hl => match us, hl with | [_, _], _ => rfl
def b_says_difference : CSs := (.cons (.asg (.nm 2) (.newD true)) (.cons (.asg (.nm 3) (.call 7 (.cons (.var 0) (.cons (.var 2) .nil)))) (.cons (.asg (.nm 4) (.call 7 (.cons (.var 1) (.cons (.var 2) .nil)))) (.cons (.asg (.nm 5) (.call 6 (.cons (.var 3) (.cons (.var 4) .nil)))) (.cons (.ite (.e (.cmp .isN (.var 5) .non)) (.cons (.ret .non) .nil) .nil) (.cons (.asg (.nm 6) (.ix (.ix (.var 0) (.int 1)) (.call 2 (.cons (.var 3) (.cons (.var 5) .nil))))) (.cons (.asg (.nm 7) (.ix (.ix (.var 1) (.int 1)) (.call 2 (.cons (.var 4) (.cons (.var 5) .nil))))) (.cons (.asg (.nm 8) (.int 0)) (.cons (.whl (.e (.cmp .eq (.ix (.var 6) (.var 8)) (.ix (.var 7) (.var 8)))) (.cons (.asg (.nm 8) (.bin .add (.var 8) (.int 1))) .nil)) (.cons (.ret (.bin .add (.var 5) (.tup (.cons (.var 8) .nil)))) .nil))))))))))
def di_says_difference : DI := ⟨⟨("says_difference", none), "says_difference", "says_difference", defArgs (top 16), defBody (top 16), defScope (top 16), [], []⟩, "says_difference", ["house", "other", "codes", "mine", "theirs", "word", "row", "beside", "letter"], ["house", "other"], ⟨2, 9, b_says_difference⟩, none⟩
theorem bn_says_difference : BindN di_says_difference := fun _ _ _ _ _ _ us hl => match us, hl with | [_, _], _ => rfl
def b_law_cell : CSs := (.cons (.ite (.e (.cmp .lt (.var 1) (.bi .len (.cons (.var 0) .nil)))) (.cons (.ret (.ix (.var 0) (.var 1))) .nil) .nil) (.cons (.ret (.int 0)) .nil))
def di_law_cell : DI := ⟨⟨("_law_cell", none), "_law_cell", "_law_cell", defArgs (top 18), defBody (top 18), defScope (top 18), [], []⟩, "_law_cell", ["script", "k"], ["script", "k"], ⟨2, 2, b_law_cell⟩, none⟩
theorem bn_law_cell : BindN di_law_cell := fun _ _ _ _ _ _ us hl => match us, hl with | [_, _], _ => rfl
def b_law_whole : CSs := (.cons (.ret (.andV (.bi (.isI "int") (.cons (.var 0) .nil)) (.notV (.bi (.isI "bool") (.cons (.var 0) .nil))))) .nil)
def di_law_whole : DI := ⟨⟨("_law_whole", none), "_law_whole", "_law_whole", defArgs (top 19), defBody (top 19), defScope (top 19), [], []⟩, "_law_whole", ["found"], ["found"], ⟨1, 1, b_law_whole⟩, none⟩
theorem bn_law_whole : BindN di_law_whole := fun _ _ _ _ _ _ us hl => match us, hl with | [_], _ => rfl
def b_law_big : CSs := (.cons (.ite (.e (.cmp .lt (.var 1) (.bi .len (.cons (.var 0) .nil)))) (.cons (.ret (.ix (.var 0) (.var 1))) .nil) .nil) (.cons (.asg (.nm 2) (.bi .max2 (.cons (.int 1) (.cons (.bi .len (.cons (.var 0) .nil)) .nil)))) (.cons (.ret (.bin .mod (.bin .add (.bin .add (.bin .mul (.bin .mod (.call 9 (.cons (.var 0) (.cons (.bin .mod (.var 1) (.var 2)) .nil))) (.int 2147483647)) (.int 48271)) (.bin .mul (.bin .mul (.var 1) (.var 1)) (.int 31))) (.bin .mul (.int 7) (.var 1))) (.int 2147483647))) .nil)))
def di_law_big : DI := ⟨⟨("_law_big", none), "_law_big", "_law_big", defArgs (top 20), defBody (top 20), defScope (top 20), [], []⟩, "_law_big", ["script", "k", "many"], ["script", "k"], ⟨2, 3, b_law_big⟩, none⟩
theorem bn_law_big : BindN di_law_big := fun _ _ _ _ _ _ us hl => match us, hl with | [_, _], _ => rfl
def b_law_mark : CSs := (.cons (.ite (.e (.cmp .eq (.bin .mod (.var 0) (.int 8)) (.int 3))) (.cons (.ret (.int 1000000000)) .nil) .nil) (.cons (.ite (.e (.cmp .eq (.bin .mod (.var 0) (.int 4)) (.int 0))) (.cons (.ret (.bin .mod (.bin .fdiv (.var 0) (.int 4)) (.int 1000000001))) .nil) .nil) (.cons (.ret (.bin .mod (.bin .fdiv (.var 0) (.int 4)) (.int 2))) .nil)))
def di_law_mark : DI := ⟨⟨("_law_mark", none), "_law_mark", "_law_mark", defArgs (top 21), defBody (top 21), defScope (top 21), [], []⟩, "_law_mark", ["cell"], ["cell"], ⟨1, 1, b_law_mark⟩, none⟩
theorem bn_law_mark : BindN di_law_mark := fun _ _ _ _ _ _ us hl => match us, hl with | [_], _ => rfl
def b_law_says : CSs := (.cons (.asgO 4 (.dsp .nil)) (.cons (.asgO 5 (.dsp .nil)) (.cons (.for (.nm 6) (.rg1 (.var 3)) (.cons (.asg (.nm 7) (.bin .add (.var 1) (.bin .mul (.bin .mul (.int 2) (.var 2)) (.var 6)))) (.cons (.app 4 (.tupOf (.lc (.rg1 (.var 2)) (.nm 8) .nil (.call 12 (.cons (.call 11 (.cons (.var 0) (.cons (.bin .add (.var 7) (.var 8)) .nil))) .nil))))) (.cons (.app 5 (.tupOf (.lc (.rg1 (.var 2)) (.nm 8) .nil (.bin .mod (.call 11 (.cons (.var 0) (.cons (.bin .add (.bin .add (.var 7) (.var 2)) (.var 8)) .nil))) (.var 3))))) .nil)))) (.cons (.ret (.tup (.cons (.var 2) (.cons (.tupE (.var 4)) (.cons (.tupE (.var 5)) .nil))))) .nil))))
def di_law_says : DI := ⟨⟨("_law_says", none), "_law_says", "_law_says", defArgs (top 22), defBody (top 22), defScope (top 22), [], []⟩, "_law_says", ["script", "at", "letters", "rooms", "says", "ways", "room", "base", "k"], ["script", "at", "letters", "rooms"], ⟨4, 9, b_law_says⟩, none⟩
theorem bn_law_says : BindN di_law_says := fun _ _ _ _ _ _ us hl => match us, hl with | [_, _, _, _], _ => rfl
def b_law_is_word : CSs := (.cons (.ite (.notT (.e (.bi (.isI "tuple") (.cons (.var 0) .nil)))) (.cons (.ret (.bl false)) .nil) .nil) (.cons (.for (.nm 2) (.val (.var 0)) (.cons (.ite (.orT (.notT (.e (.call 10 (.cons (.var 2) .nil)))) (.orT (.e (.cmp .lt (.var 2) (.int 0))) (.e (.cmp .ge (.var 2) (.var 1))))) (.cons (.ret (.bl false)) .nil) .nil) .nil)) (.cons (.ret (.bl true)) .nil)))
def di_law_is_word : DI := ⟨⟨("_law_is_word", none), "_law_is_word", "_law_is_word", defArgs (top 23), defBody (top 23), defScope (top 23), [], []⟩, "_law_is_word", ["found", "letters", "letter"], ["found", "letters"], ⟨2, 3, b_law_is_word⟩, none⟩
theorem bn_law_is_word : BindN di_law_is_word := fun _ _ _ _ _ _ us hl => match us, hl with | [_, _], _ => rfl
def b_law_doubled : CSs := (.cons (.asg (.nm 2) (.bi .len (.cons (.ix (.var 0) (.int 1)) .nil))) (.cons (.asg (.nm 3) (.bin .mod (.var 1) (.var 2))) (.cons (.asgO 4 (.dsp .nil)) (.cons (.for (.nm 5) (.rg1 (.bin .add (.var 2) (.int 1))) (.cons (.asg (.nm 6) (.ix (.ix (.var 0) (.int 2)) (.bin .mod (.var 5) (.var 2)))) (.cons (.ite (.e (.cmp .eq (.var 5) (.var 2))) (.cons (.asg (.nm 6) (.ix (.ix (.var 0) (.int 2)) (.var 3))) .nil) .nil) (.cons (.asgO 7 (.dsp .nil)) (.cons (.for (.nm 8) (.rg1 (.ix (.var 0) (.int 0))) (.cons (.asg (.nm 9) (.ix (.var 6) (.var 8))) (.cons (.ite (.andT (.e (.cmp .eq (.var 9) (.var 3))) (.e (.cmp .eq (.bin .mod (.bin .add (.bin .add (.bin .fdiv (.var 1) (.int 7)) (.var 5)) (.var 8)) (.int 2)) (.int 1)))) (.cons (.asg (.nm 9) (.var 2)) .nil) .nil) (.cons (.app 7 (.var 9)) .nil)))) (.cons (.app 4 (.tupE (.var 7))) .nil)))))) (.cons (.ret (.tup (.cons (.ix (.var 0) (.int 0)) (.cons (.bin .add (.ix (.var 0) (.int 1)) (.tup (.cons (.ix (.ix (.var 0) (.int 1)) (.var 3)) .nil))) (.cons (.tupE (.var 4)) .nil))))) .nil)))))
def di_law_doubled : DI := ⟨⟨("_law_doubled", none), "_law_doubled", "_law_doubled", defArgs (top 24), defBody (top 24), defScope (top 24), [], []⟩, "_law_doubled", ["house", "cell", "rooms", "room", "ways", "k", "row", "turned_row", "letter", "ahead"], ["house", "cell"], ⟨2, 10, b_law_doubled⟩, none⟩
theorem bn_law_doubled : BindN di_law_doubled := fun _ _ _ _ _ _ us hl => match us, hl with | [_, _], _ => rfl
def b_law_order : CSs := (.cons (.asg (.nm 2) (.fzOf (.listRg (.var 0)))) (.cons (.ite (.e (.cmp .lt (.var 0) (.int 2))) (.cons (.ret (.var 2)) .nil) .nil) (.cons (.asg (.nm 3) (.bin .mod (.var 1) (.bin .sub (.var 0) (.int 1)))) (.cons (.ret (.fzOf (.cat (.dsp (.cons (.int 0) .nil)) (.lc (.rg1 (.bin .sub (.var 0) (.int 1))) (.nm 4) .nil (.bin .add (.int 1) (.bin .mod (.bin .add (.var 4) (.var 3)) (.bin .sub (.var 0) (.int 1)))))))) .nil))))
def di_law_order : DI := ⟨⟨("_law_order", none), "_law_order", "_law_order", defArgs (top 25), defBody (top 25), defScope (top 25), [], []⟩, "_law_order", ["rooms", "cell", "order", "shift", "k"], ["rooms", "cell"], ⟨2, 5, b_law_order⟩, none⟩
theorem bn_law_order : BindN di_law_order := fun _ _ _ _ _ _ us hl => match us, hl with | [_, _], _ => rfl
def b_law_renumbered : CSs := (.cons (.asg (.nm 2) (.bi .len (.cons (.ix (.var 0) (.int 1)) .nil))) (.cons (.asgO 3 (.dsp .nil)) (.cons (.asgO 4 (.dsp .nil)) (.cons (.for (.nm 5) (.rg1 (.var 2)) (.cons (.asg (.nm 6) (.idx (.var 1) (.var 5))) (.cons (.app 3 (.ix (.ix (.var 0) (.int 1)) (.var 6))) (.cons (.app 4 (.tupOf (.lc (.val (.ix (.ix (.var 0) (.int 2)) (.var 6))) (.nm 7) .nil (.ix (.var 1) (.var 7))))) .nil)))) (.cons (.ret (.tup (.cons (.ix (.var 0) (.int 0)) (.cons (.tupE (.var 3)) (.cons (.tupE (.var 4)) .nil))))) .nil)))))
def di_law_renumbered : DI := ⟨⟨("_law_renumbered", none), "_law_renumbered", "_law_renumbered", defArgs (top 26), defBody (top 26), defScope (top 26), [], []⟩, "_law_renumbered", ["house", "order", "rooms", "says", "ways", "k", "old", "ahead"], ["house", "order"], ⟨2, 8, b_law_renumbered⟩, none⟩
theorem bn_law_renumbered : BindN di_law_renumbered := fun _ _ _ _ _ _ us hl => match us, hl with | [_, _], _ => rfl
def b_law_another : CSs := (.cons (.asg (.nm 0) (.call 15 (.cons (.var 0) (.cons (.var 1) .nil)))) (.cons (.ret (.call 17 (.cons (.var 0) (.cons (.call 16 (.cons (.bi .len (.cons (.ix (.var 0) (.int 1)) .nil)) (.cons (.bin .fdiv (.var 1) (.int 11)) .nil))) .nil)))) .nil))
def di_law_another : DI := ⟨⟨("_law_another", none), "_law_another", "_law_another", defArgs (top 27), defBody (top 27), defScope (top 27), [], []⟩, "_law_another", ["house", "cell"], ["house", "cell"], ⟨2, 2, b_law_another⟩, none⟩
theorem bn_law_another : BindN di_law_another := fun _ _ _ _ _ _ us hl => match us, hl with | [_, _], _ => rfl
def b_law_pairs : CSs := (.cons (.asgO 2 (.dsp (.cons (.tup (.cons (.int 0) (.cons (.int 0) .nil))) .nil))) (.cons (.asgO 3 (.dsp (.cons (.tup .nil) .nil))) (.cons (.for (.nm 4) (.rg1 (.bin .mul (.bi .len (.cons (.ix (.var 0) (.int 1)) .nil)) (.bi .len (.cons (.ix (.var 1) (.int 1)) .nil)))) (.cons (.ite (.e (.cmp .lt (.var 4) (.bi .len (.cons (.var 2) .nil)))) (.cons (.for (.nm 5) (.rg1 (.ix (.var 0) (.int 0))) (.cons (.asg (.nm 6) (.tup (.cons (.ix (.ix (.ix (.var 0) (.int 2)) (.ix (.ix (.var 2) (.var 4)) (.int 0))) (.var 5)) (.cons (.ix (.ix (.ix (.var 1) (.int 2)) (.ix (.ix (.var 2) (.var 4)) (.int 1))) (.var 5)) .nil)))) (.cons (.ite (.e (.cmp .notIn (.var 6) (.var 2))) (.cons (.app 2 (.var 6)) (.cons (.app 3 (.bin .add (.ix (.var 3) (.var 4)) (.tup (.cons (.var 5) .nil)))) .nil)) .nil) .nil))) .nil) .nil) .nil)) (.cons (.ret (.fzOf (.lc (.rg1 (.bi .len (.cons (.var 2) .nil))) (.nm 4) .nil (.tup (.cons (.ix (.var 3) (.var 4)) (.cons (.ix (.ix (.var 2) (.var 4)) (.int 0)) (.cons (.ix (.ix (.var 2) (.var 4)) (.int 1)) .nil))))))) .nil))))
def di_law_pairs : DI := ⟨⟨("_law_pairs", none), "_law_pairs", "_law_pairs", defArgs (top 28), defBody (top 28), defScope (top 28), [], []⟩, "_law_pairs", ["one", "two", "couples", "words", "k", "letter", "pair"], ["one", "two"], ⟨2, 7, b_law_pairs⟩, none⟩
theorem bn_law_pairs : BindN di_law_pairs := fun _ _ _ _ _ _ us hl => match us, hl with | [_, _], _ => rfl
def b_law_unlike_words : CSs := (.cons (.asgO 2 (.dsp .nil)) (.cons (.for (.nm 3) (.val (.call 19 (.cons (.var 0) (.cons (.var 1) .nil)))) (.cons (.for (.nm 4) (.rg1 (.ix (.var 0) (.int 0))) (.cons (.ite (.e (.cmp .ne (.ix (.ix (.ix (.var 0) (.int 1)) (.ix (.var 3) (.int 1))) (.var 4)) (.ix (.ix (.ix (.var 1) (.int 1)) (.ix (.var 3) (.int 2))) (.var 4)))) (.cons (.app 2 (.bin .add (.ix (.var 3) (.int 0)) (.tup (.cons (.var 4) .nil)))) .nil) .nil) .nil)) .nil)) (.cons (.retM 2) .nil)))
def di_law_unlike_words : DI := ⟨⟨("_law_unlike_words", none), "_law_unlike_words", "_law_unlike_words", defArgs (top 29), defBody (top 29), defScope (top 29), [], []⟩, "_law_unlike_words", ["one", "two", "found", "spot", "letter"], ["one", "two"], ⟨2, 5, b_law_unlike_words⟩, none⟩
theorem bn_law_unlike_words : BindN di_law_unlike_words := fun _ _ _ _ _ _ us hl => match us, hl with | [_, _], _ => rfl
def b_law_first_unlike : CSs := (.cons (.asgO 3 (.dsp (.cons (.tup (.cons (.tup .nil) (.cons (.int 0) (.cons (.int 0) .nil)))) .nil))) (.cons (.for (.nm 4) (.rg1 (.var 2)) (.cons (.asgO 5 (.dsp .nil)) (.cons (.forO (.nm 6) 3 (.cons (.for (.nm 7) (.rg1 (.ix (.var 0) (.int 0))) (.cons (.ite (.e (.cmp .ne (.ix (.ix (.ix (.var 0) (.int 1)) (.ix (.var 6) (.int 1))) (.var 7)) (.ix (.ix (.ix (.var 1) (.int 1)) (.ix (.var 6) (.int 2))) (.var 7)))) (.cons (.ret (.bin .add (.ix (.var 6) (.int 0)) (.tup (.cons (.var 7) .nil)))) .nil) .nil) (.cons (.asg (.nm 8) (.ix (.ix (.ix (.var 0) (.int 2)) (.ix (.var 6) (.int 1))) (.var 7))) (.cons (.app 5 (.tup (.cons (.bin .add (.ix (.var 6) (.int 0)) (.tup (.cons (.var 7) .nil))) (.cons (.var 8) (.cons (.ix (.ix (.ix (.var 1) (.int 2)) (.ix (.var 6) (.int 2))) (.var 7)) .nil))))) .nil)))) .nil)) (.cons (.asgV 3 5) .nil)))) (.cons (.ret .non) .nil)))
def di_law_first_unlike : DI := ⟨⟨("_law_first_unlike", none), "_law_first_unlike", "_law_first_unlike", defArgs (top 30), defBody (top 30), defScope (top 30), [], []⟩, "_law_first_unlike", ["one", "two", "most", "longest", "size", "longer", "spot", "letter", "ahead"], ["one", "two", "most"], ⟨3, 9, b_law_first_unlike⟩, none⟩
theorem bn_law_first_unlike : BindN di_law_first_unlike := fun _ _ _ _ _ _ us hl => match us, hl with | [_, _, _], _ => rfl
def b_law_put : CSs := (.cons (.ret (.bin .add (.bin .add (.slc (.var 0) .no (.so (.var 1))) (.tup (.cons (.var 2) .nil))) (.slc (.var 0) (.so (.bin .add (.var 1) (.int 1))) .no))) .nil)
def di_law_put : DI := ⟨⟨("_law_put", none), "_law_put", "_law_put", defArgs (top 31), defBody (top 31), defScope (top 31), [], []⟩, "_law_put", ["row", "place", "thing"], ["row", "place", "thing"], ⟨3, 3, b_law_put⟩, none⟩
theorem bn_law_put : BindN di_law_put := fun _ _ _ _ _ _ us hl => match us, hl with | [_, _, _], _ => rfl
def b_law_beside : CSs := (.cons (.asg (.nm 4) (.ix (.var 0) (.int 0))) (.cons (.asg (.nm 5) (.bi .len (.cons (.ix (.var 0) (.int 1)) .nil))) (.cons (.ite (.e (.cmp .eq (.bin .mod (.var 3) (.int 4)) (.int 0))) (.cons (.ret (.call 13 (.cons (.var 1) (.cons (.var 2) (.cons (.var 4) (.cons (.var 5) .nil)))))) .nil) .nil) (.cons (.asg (.nm 6) (.call 18 (.cons (.var 0) (.cons (.bin .mod (.call 9 (.cons (.var 1) (.cons (.int 4) .nil))) (.bin .pow (.int 10) (.int 9))) .nil)))) (.cons (.ite (.e (.cmp .eq (.bin .mod (.var 3) (.int 4)) (.int 1))) (.cons (.ret (.var 6)) .nil) .nil) (.cons (.asg (.nm 7) (.bin .mod (.bin .fdiv (.var 3) (.int 4)) (.bin .add (.var 5) (.int 1)))) (.cons (.asg (.nm 8) (.bin .mod (.bin .fdiv (.var 3) (.int 40)) (.var 4))) (.cons (.ite (.e (.cmp .eq (.bin .mod (.var 3) (.int 4)) (.int 2))) (.cons (.asg (.nm 9) (.call 22 (.cons (.ix (.ix (.var 6) (.int 1)) (.var 7)) (.cons (.var 8) (.cons (.bin .mod (.bin .add (.ix (.ix (.ix (.var 6) (.int 1)) (.var 7)) (.var 8)) (.int 1)) (.int 2)) .nil))))) (.cons (.ret (.tup (.cons (.var 4) (.cons (.call 22 (.cons (.ix (.var 6) (.int 1)) (.cons (.var 7) (.cons (.var 9) .nil)))) (.cons (.ix (.var 6) (.int 2)) .nil))))) .nil)) .nil) (.cons (.asg (.nm 9) (.call 22 (.cons (.ix (.ix (.var 6) (.int 2)) (.var 7)) (.cons (.var 8) (.cons (.bin .mod (.bin .fdiv (.var 3) (.int 200)) (.bin .add (.var 5) (.int 1))) .nil))))) (.cons (.ret (.tup (.cons (.var 4) (.cons (.ix (.var 6) (.int 1)) (.cons (.call 22 (.cons (.ix (.var 6) (.int 2)) (.cons (.var 7) (.cons (.var 9) .nil)))) .nil))))) .nil))))))))))
def di_law_beside : DI := ⟨⟨("_law_beside", none), "_law_beside", "_law_beside", defArgs (top 32), defBody (top 32), defScope (top 32), [], []⟩, "_law_beside", ["one", "script", "at", "way", "letters", "rooms", "two", "room", "letter", "row"], ["one", "script", "at", "way"], ⟨4, 10, b_law_beside⟩, none⟩
theorem bn_law_beside : BindN di_law_beside := fun _ _ _ _ _ _ us hl => match us, hl with | [_, _, _, _], _ => rfl
def b_law_refused : CSs := (.cons (.asg (.nm 2) (.bl false)) (.cons (.tryX 3 [1] "BadHouse" none (.cons (.exp (.call 8 (.cons (.var 0) (.cons (.var 1) .nil)))) .nil) (.asg 2 (.bl true))) (.cons (.ret (.var 2)) .nil)))
def di_law_refused : DI := ⟨⟨("_law_refused", none), "_law_refused", "_law_refused", defArgs (top 33), defBody (top 33), defScope (top 33), [], []⟩, "_law_refused", ["one", "two", "refused"], ["one", "two"], ⟨2, 3, b_law_refused⟩, none⟩
theorem bn_law_refused : BindN di_law_refused := fun _ _ _ _ _ _ us hl => match us, hl with | [_, _], _ => rfl
def b_law_refused_by_any : CSs := (.cons (.asg (.nm 2) (.bl false)) (.cons (.tryX 3 [0, 1, 2] "AskError" (some 3) (.cons (.exp (.call 8 (.cons (.var 0) (.cons (.var 1) .nil)))) .nil) (.asg 2 (.andE (.isE [0, 1, 2] "ValueError") (.notE (.isE [2] "BadWord"))))) (.cons (.ret (.var 2)) .nil)))
def di_law_refused_by_any : DI := ⟨⟨("_law_refused_by_any", none), "_law_refused_by_any", "_law_refused_by_any", defArgs (top 34), defBody (top 34), defScope (top 34), [], []⟩, "_law_refused_by_any", ["one", "two", "told", "e"], ["one", "two"], ⟨2, 4, b_law_refused_by_any⟩, none⟩
theorem bn_law_refused_by_any : BindN di_law_refused_by_any := fun _ _ _ _ _ _ us hl => match us, hl with | [_, _], _ => rfl
def b_law_wide : CSs := (.cons (.asg (.nm 1) (.bin .add (.int 14) (.bin .mod (.var 0) (.int 27)))) (.cons (.asgO 2 (.dsp .nil)) (.cons (.asgO 3 (.dsp .nil)) (.cons (.for (.nm 4) (.rg1 (.var 1)) (.cons (.app 2 (.tupOf (.lc (.rg1 (.int 3)) (.nm 6) .nil (.bin .add (.bin .mul (.int 3000) (.bin .add (.bin .mul (.int 3) (.var 4)) (.var 6))) (.bin .mod (.var 0) (.int 3000)))))) (.cons (.asg (.nm 5) (.bin .mod (.bin .add (.bin .mul (.var 4) (.bin .add (.int 1) (.bin .mod (.bin .fdiv (.var 0) (.int 27)) (.int 5)))) (.bin .fdiv (.var 0) (.int 135))) (.var 1))) (.cons (.app 3 (.tup (.cons (.bin .mod (.bin .add (.var 4) (.int 1)) (.var 1)) (.cons (.var 5) (.cons (.bin .mod (.bin .add (.bin .mul (.var 4) (.var 4)) (.bin .fdiv (.var 0) (.int 1009))) (.var 1)) .nil))))) .nil)))) (.cons (.ret (.tup (.cons (.int 3) (.cons (.tupE (.var 2)) (.cons (.tupE (.var 3)) .nil))))) .nil)))))
def di_law_wide : DI := ⟨⟨("_law_wide", none), "_law_wide", "_law_wide", defArgs (top 35), defBody (top 35), defScope (top 35), [], []⟩, "_law_wide", ["cell", "rooms", "says", "ways", "room", "second", "letter"], ["cell"], ⟨1, 7, b_law_wide⟩, none⟩
theorem bn_law_wide : BindN di_law_wide := fun _ _ _ _ _ _ us hl => match us, hl with | [_], _ => rfl
def b_law_wide_good : CSs := (.cons (.asg (.nm 1) (.call 26 (.cons (.var 0) .nil))) (.cons (.asg (.nm 2) (.bi .len (.cons (.ix (.var 1) (.int 1)) .nil))) (.cons (.asg (.nm 3) (.call 17 (.cons (.var 1) (.cons (.call 16 (.cons (.var 2) (.cons (.bin .fdiv (.var 0) (.int 7)) .nil))) .nil)))) (.cons (.ite (.e (.cmp .eq (.bin .mod (.bin .fdiv (.var 0) (.int 3)) (.int 2)) (.int 1))) (.cons (.asg (.nm 7) (.bin .mod (.bin .fdiv (.var 0) (.int 29)) (.var 2))) (.cons (.asg (.nm 8) (.bin .mod (.bin .fdiv (.var 0) (.int 31)) (.int 3))) (.cons (.asg (.nm 9) (.call 22 (.cons (.ix (.ix (.var 3) (.int 1)) (.var 7)) (.cons (.var 8) (.cons (.bin .add (.ix (.ix (.ix (.var 3) (.int 1)) (.var 7)) (.var 8)) (.int 1)) .nil))))) (.cons (.asg (.nm 3) (.tup (.cons (.int 3) (.cons (.call 22 (.cons (.ix (.var 3) (.int 1)) (.cons (.var 7) (.cons (.var 9) .nil)))) (.cons (.ix (.var 3) (.int 2)) .nil))))) .nil)))) .nil) (.cons (.asg (.nm 4) .non) (.cons (.for (.nm 5) (.val (.call 20 (.cons (.var 1) (.cons (.var 3) .nil)))) (.cons (.ite (.e (.cmp .isN (.var 4) .non)) (.cons (.asg (.nm 4) (.var 5)) .nil) .nil) .nil)) (.cons (.asg (.nm 6) (.call 8 (.cons (.var 1) (.cons (.var 3) .nil)))) (.cons (.ite (.andT (.e (.cmp .notN (.var 4) .non)) (.notT (.e (.call 14 (.cons (.var 6) (.cons (.int 3) .nil)))))) (.cons (.ret (.bl false)) .nil) .nil) (.cons (.ret (.andV (.cmp .eq (.var 6) (.var 4)) (.cmp .eq (.call 8 (.cons (.var 3) (.cons (.var 1) .nil))) (.var 4)))) .nil)))))))))
def di_law_wide_good : DI := ⟨⟨("_law_wide_good", none), "_law_wide_good", "_law_wide_good", defArgs (top 36), defBody (top 36), defScope (top 36), [], []⟩, "_law_wide_good", ["cell", "one", "rooms", "two", "due", "word", "found", "room", "letter", "row"], ["cell"], ⟨1, 10, b_law_wide_good⟩, none⟩
theorem bn_law_wide_good : BindN di_law_wide_good := fun _ _ _ _ _ _ us hl => match us, hl with | [_], _ => rfl
def b_law : CSs := (.cons (.ite (.e (.cmp .eq (.bin .mod (.bin .fdiv (.call 9 (.cons (.var 0) (.cons (.int 0) .nil))) (.int 36)) (.int 6)) (.int 1))) (.cons (.ret (.call 27 (.cons (.bin .mod (.call 9 (.cons (.var 0) (.cons (.int 4) .nil))) (.bin .pow (.int 10) (.int 12))) .nil))) .nil) .nil) (.cons (.asg (.nm 1) (.bin .add (.bin .add (.int 1) (.bin .mod (.call 9 (.cons (.var 0) (.cons (.int 0) .nil))) (.int 3))) (.bin .mul (.bin .fdiv (.bin .mod (.bin .fdiv (.call 9 (.cons (.var 0) (.cons (.int 0) .nil))) (.int 3)) (.int 4)) (.int 3)) (.int 3)))) (.cons (.asg (.nm 2) (.bin .add (.int 1) (.bin .mod (.call 9 (.cons (.var 0) (.cons (.int 1) .nil))) (.ix (.fzOf (.dsp (.cons (.int 5) (.cons (.int 3) (.cons (.int 2) (.cons (.int 1) (.cons (.int 1) (.cons (.int 1) .nil)))))))) (.bin .sub (.var 1) (.int 1)))))) (.cons (.asg (.nm 3) (.call 13 (.cons (.var 0) (.cons (.int 5) (.cons (.var 1) (.cons (.var 2) .nil)))))) (.cons (.asg (.nm 4) (.bin .mod (.call 9 (.cons (.var 0) (.cons (.int 2) .nil))) (.bin .pow (.int 10) (.int 9)))) (.cons (.asg (.nm 5) (.call 23 (.cons (.var 3) (.cons (.var 0) (.cons (.bin .add (.int 5) (.bin .mul (.bin .mul (.int 2) (.var 1)) (.var 2))) (.cons (.var 4) .nil)))))) (.cons (.asg (.nm 6) (.call 8 (.cons (.var 3) (.cons (.var 5) .nil)))) (.cons (.ite (.e (.cmp .ne (.call 8 (.cons (.var 5) (.cons (.var 3) .nil))) (.var 6))) (.cons (.ret (.bl false)) .nil) .nil) (.cons (.ite (.e (.cmp .isN (.var 6) .non)) (.cons (.ite (.e (.cmp .ne (.bi .len (.cons (.call 20 (.cons (.var 3) (.cons (.var 5) .nil))) .nil)) (.int 0))) (.cons (.ret (.bl false)) .nil) .nil) .nil) (.cons (.ite (.orT (.notT (.e (.call 14 (.cons (.var 6) (.cons (.var 1) .nil))))) (.orT (.e (.cmp .eq (.bi .len (.cons (.var 6) .nil)) (.int 0))) (.e (.cmp .eq (.bin .mod (.var 4) (.int 4)) (.int 1))))) (.cons (.ret (.bl false)) .nil) (.cons (.ite (.orT (.e (.cmp .gt (.bi .len (.cons (.var 6) .nil)) (.bin .add (.bi .len (.cons (.ix (.var 3) (.int 1)) .nil)) (.bi .len (.cons (.ix (.var 5) (.int 1)) .nil))))) (.e (.cmp .ne (.call 21 (.cons (.var 3) (.cons (.var 5) (.cons (.bi .len (.cons (.var 6) .nil)) .nil)))) (.var 6)))) (.cons (.ret (.bl false)) .nil) .nil) .nil)) .nil)) (.cons (.asg (.nm 7) (.call 13 (.cons (.var 0) (.cons (.int 3) (.cons (.bin .add (.bin .mod (.var 1) (.int 6)) (.int 1)) (.cons (.bin .add (.int 1) (.bin .mod (.call 9 (.cons (.var 0) (.cons (.int 3) .nil))) (.int 3))) .nil)))))) (.cons (.ret (.andV (.call 24 (.cons (.var 3) (.cons (.var 7) .nil))) (.call 25 (.cons (.var 7) (.cons (.var 5) .nil))))) .nil)))))))))))
def di_law : DI := ⟨⟨("law", none), "law", "law", defArgs (top 37), defBody (top 37), defScope (top 37), [], []⟩, "law", ["script", "letters", "rooms", "one", "way", "two", "found", "three"], ["script"], ⟨1, 8, b_law⟩, none⟩
theorem bn_law : BindN di_law := fun _ _ _ _ _ _ us hl => match us, hl with | [_], _ => rfl
abbrev f_is_word : Nat := 0
abbrev f_trail : Nat := 1
abbrev f_room_behind : Nat := 2
abbrev f_same_letters : Nat := 3
abbrev f_met_from : Nat := 4
abbrev f_unlike_from : Nat := 5
abbrev f_difference : Nat := 6
abbrev f_marked_rows : Nat := 7
abbrev f_says_difference : Nat := 8
abbrev f_law_cell : Nat := 9
abbrev f_law_whole : Nat := 10
abbrev f_law_big : Nat := 11
abbrev f_law_mark : Nat := 12
abbrev f_law_says : Nat := 13
abbrev f_law_is_word : Nat := 14
abbrev f_law_doubled : Nat := 15
abbrev f_law_order : Nat := 16
abbrev f_law_renumbered : Nat := 17
abbrev f_law_another : Nat := 18
abbrev f_law_pairs : Nat := 19
abbrev f_law_unlike_words : Nat := 20
abbrev f_law_first_unlike : Nat := 21
abbrev f_law_put : Nat := 22
abbrev f_law_beside : Nat := 23
abbrev f_law_refused : Nat := 24
abbrev f_law_refused_by_any : Nat := 25
abbrev f_law_wide : Nat := 26
abbrev f_law_wide_good : Nat := 27
abbrev f_law : Nat := 28
abbrev x_AskError : Nat := 0
abbrev x_BadHouse : Nat := 1
abbrev x_BadWord : Nat := 2
def tbl : List DI := [di_is_word, di_trail, di_room_behind, di_same_letters, di_met_from, di_unlike_from, di_difference, di_marked_rows, di_says_difference, di_law_cell, di_law_whole, di_law_big, di_law_mark, di_law_says, di_law_is_word, di_law_doubled, di_law_order, di_law_renumbered, di_law_another, di_law_pairs, di_law_unlike_words, di_law_first_unlike, di_law_put, di_law_beside, di_law_refused, di_law_refused_by_any, di_law_wide, di_law_wide_good, di_law]
def csl : List (Str × D) := []
abbrev cs : Nat → Option (Str × D) := fun j => csl[j]?
abbrev T : Nat → Option FD := tT' tbl
abbrev cv : Nat → Option D := cval cs
def tabs : Tabs := ⟨tbl, [], ["AskError", "BadHouse", "BadWord"], [("BadHouse", none, [1]), ("AskError", none, [0, 1, 2]), ("ValueError", some "ValueError", [0, 1, 2]), ("BadWord", none, [2])], []⟩
theorem T_is_word : T f_is_word = some di_is_word.fd := rfl
theorem in_is_word {k : Nat} {a0 a1 : VV} {h : AH} {Q : RR → AH → Prop} {X : EX → AH → Prop} (q : wpSs (wpF T cv k) cv b_is_word [argSl a0, argSl a1, none] h ⟨fun _ h' => Q (.d .non) h', Q, fun _ _ => False, fun _ _ => False, fun x _ h' => X x h'⟩) : wpF T cv (k + 1) 0 [a0, a1] h Q X := .inl ⟨_, T_is_word, rfl, q⟩
theorem T_trail : T f_trail = some di_trail.fd := rfl
theorem in_trail {k : Nat} {a0 a1 : VV} {h : AH} {Q : RR → AH → Prop} {X : EX → AH → Prop} (q : wpSs (wpF T cv k) cv b_trail [argSl a0, argSl a1, none, none] h ⟨fun _ h' => Q (.d .non) h', Q, fun _ _ => False, fun _ _ => False, fun x _ h' => X x h'⟩) : wpF T cv (k + 1) 1 [a0, a1] h Q X := .inl ⟨_, T_trail, rfl, q⟩
theorem T_room_behind : T f_room_behind = some di_room_behind.fd := rfl
theorem in_room_behind {k : Nat} {a0 a1 : VV} {h : AH} {Q : RR → AH → Prop} {X : EX → AH → Prop} (q : wpSs (wpF T cv k) cv b_room_behind [argSl a0, argSl a1] h ⟨fun _ h' => Q (.d .non) h', Q, fun _ _ => False, fun _ _ => False, fun x _ h' => X x h'⟩) : wpF T cv (k + 1) 2 [a0, a1] h Q X := .inl ⟨_, T_room_behind, rfl, q⟩
theorem T_same_letters : T f_same_letters = some di_same_letters.fd := rfl
theorem in_same_letters {k : Nat} {a0 a1 : VV} {h : AH} {Q : RR → AH → Prop} {X : EX → AH → Prop} (q : wpSs (wpF T cv k) cv b_same_letters [argSl a0, argSl a1] h ⟨fun _ h' => Q (.d .non) h', Q, fun _ _ => False, fun _ _ => False, fun x _ h' => X x h'⟩) : wpF T cv (k + 1) 3 [a0, a1] h Q X := .inl ⟨_, T_same_letters, rfl, q⟩
theorem T_met_from : T f_met_from = some di_met_from.fd := rfl
theorem in_met_from {k : Nat} {a0 a1 a2 : VV} {h : AH} {Q : RR → AH → Prop} {X : EX → AH → Prop} (q : wpSs (wpF T cv k) cv b_met_from [argSl a0, argSl a1, argSl a2, none, none, none, none, none, none] h ⟨fun _ h' => Q (.d .non) h', Q, fun _ _ => False, fun _ _ => False, fun x _ h' => X x h'⟩) : wpF T cv (k + 1) 4 [a0, a1, a2] h Q X := .inl ⟨_, T_met_from, rfl, q⟩
theorem T_unlike_from : T f_unlike_from = some di_unlike_from.fd := rfl
theorem in_unlike_from {k : Nat} {a0 a1 a2 : VV} {h : AH} {Q : RR → AH → Prop} {X : EX → AH → Prop} (q : wpSs (wpF T cv k) cv b_unlike_from [argSl a0, argSl a1, argSl a2, none] h ⟨fun _ h' => Q (.d .non) h', Q, fun _ _ => False, fun _ _ => False, fun x _ h' => X x h'⟩) : wpF T cv (k + 1) 5 [a0, a1, a2] h Q X := .inl ⟨_, T_unlike_from, rfl, q⟩
theorem T_difference : T f_difference = some di_difference.fd := rfl
theorem in_difference {k : Nat} {a0 a1 : VV} {h : AH} {Q : RR → AH → Prop} {X : EX → AH → Prop} (q : wpSs (wpF T cv k) cv b_difference [argSl a0, argSl a1] h ⟨fun _ h' => Q (.d .non) h', Q, fun _ _ => False, fun _ _ => False, fun x _ h' => X x h'⟩) : wpF T cv (k + 1) 6 [a0, a1] h Q X := .inl ⟨_, T_difference, rfl, q⟩
theorem T_marked_rows : T f_marked_rows = some di_marked_rows.fd := rfl
theorem in_marked_rows {k : Nat} {a0 a1 : VV} {h : AH} {Q : RR → AH → Prop} {X : EX → AH → Prop} (q : wpSs (wpF T cv k) cv b_marked_rows [argSl a0, argSl a1, none, none] h ⟨fun _ h' => Q (.d .non) h', Q, fun _ _ => False, fun _ _ => False, fun x _ h' => X x h'⟩) : wpF T cv (k + 1) 7 [a0, a1] h Q X := .inl ⟨_, T_marked_rows, rfl, q⟩
theorem T_says_difference : T f_says_difference = some di_says_difference.fd := rfl
theorem in_says_difference {k : Nat} {a0 a1 : VV} {h : AH} {Q : RR → AH → Prop} {X : EX → AH → Prop} (q : wpSs (wpF T cv k) cv b_says_difference [argSl a0, argSl a1, none, none, none, none, none, none, none] h ⟨fun _ h' => Q (.d .non) h', Q, fun _ _ => False, fun _ _ => False, fun x _ h' => X x h'⟩) : wpF T cv (k + 1) 8 [a0, a1] h Q X := .inl ⟨_, T_says_difference, rfl, q⟩
theorem T_law_cell : T f_law_cell = some di_law_cell.fd := rfl
theorem in_law_cell {k : Nat} {a0 a1 : VV} {h : AH} {Q : RR → AH → Prop} {X : EX → AH → Prop} (q : wpSs (wpF T cv k) cv b_law_cell [argSl a0, argSl a1] h ⟨fun _ h' => Q (.d .non) h', Q, fun _ _ => False, fun _ _ => False, fun x _ h' => X x h'⟩) : wpF T cv (k + 1) 9 [a0, a1] h Q X := .inl ⟨_, T_law_cell, rfl, q⟩
theorem T_law_whole : T f_law_whole = some di_law_whole.fd := rfl
theorem in_law_whole {k : Nat} {a0 : VV} {h : AH} {Q : RR → AH → Prop} {X : EX → AH → Prop} (q : wpSs (wpF T cv k) cv b_law_whole [argSl a0] h ⟨fun _ h' => Q (.d .non) h', Q, fun _ _ => False, fun _ _ => False, fun x _ h' => X x h'⟩) : wpF T cv (k + 1) 10 [a0] h Q X := .inl ⟨_, T_law_whole, rfl, q⟩
theorem T_law_big : T f_law_big = some di_law_big.fd := rfl
theorem in_law_big {k : Nat} {a0 a1 : VV} {h : AH} {Q : RR → AH → Prop} {X : EX → AH → Prop} (q : wpSs (wpF T cv k) cv b_law_big [argSl a0, argSl a1, none] h ⟨fun _ h' => Q (.d .non) h', Q, fun _ _ => False, fun _ _ => False, fun x _ h' => X x h'⟩) : wpF T cv (k + 1) 11 [a0, a1] h Q X := .inl ⟨_, T_law_big, rfl, q⟩
theorem T_law_mark : T f_law_mark = some di_law_mark.fd := rfl
theorem in_law_mark {k : Nat} {a0 : VV} {h : AH} {Q : RR → AH → Prop} {X : EX → AH → Prop} (q : wpSs (wpF T cv k) cv b_law_mark [argSl a0] h ⟨fun _ h' => Q (.d .non) h', Q, fun _ _ => False, fun _ _ => False, fun x _ h' => X x h'⟩) : wpF T cv (k + 1) 12 [a0] h Q X := .inl ⟨_, T_law_mark, rfl, q⟩
theorem T_law_says : T f_law_says = some di_law_says.fd := rfl
theorem in_law_says {k : Nat} {a0 a1 a2 a3 : VV} {h : AH} {Q : RR → AH → Prop} {X : EX → AH → Prop} (q : wpSs (wpF T cv k) cv b_law_says [argSl a0, argSl a1, argSl a2, argSl a3, none, none, none, none, none] h ⟨fun _ h' => Q (.d .non) h', Q, fun _ _ => False, fun _ _ => False, fun x _ h' => X x h'⟩) : wpF T cv (k + 1) 13 [a0, a1, a2, a3] h Q X := .inl ⟨_, T_law_says, rfl, q⟩
theorem T_law_is_word : T f_law_is_word = some di_law_is_word.fd := rfl
theorem in_law_is_word {k : Nat} {a0 a1 : VV} {h : AH} {Q : RR → AH → Prop} {X : EX → AH → Prop} (q : wpSs (wpF T cv k) cv b_law_is_word [argSl a0, argSl a1, none] h ⟨fun _ h' => Q (.d .non) h', Q, fun _ _ => False, fun _ _ => False, fun x _ h' => X x h'⟩) : wpF T cv (k + 1) 14 [a0, a1] h Q X := .inl ⟨_, T_law_is_word, rfl, q⟩
theorem T_law_doubled : T f_law_doubled = some di_law_doubled.fd := rfl
theorem in_law_doubled {k : Nat} {a0 a1 : VV} {h : AH} {Q : RR → AH → Prop} {X : EX → AH → Prop} (q : wpSs (wpF T cv k) cv b_law_doubled [argSl a0, argSl a1, none, none, none, none, none, none, none, none] h ⟨fun _ h' => Q (.d .non) h', Q, fun _ _ => False, fun _ _ => False, fun x _ h' => X x h'⟩) : wpF T cv (k + 1) 15 [a0, a1] h Q X := .inl ⟨_, T_law_doubled, rfl, q⟩
theorem T_law_order : T f_law_order = some di_law_order.fd := rfl
theorem in_law_order {k : Nat} {a0 a1 : VV} {h : AH} {Q : RR → AH → Prop} {X : EX → AH → Prop} (q : wpSs (wpF T cv k) cv b_law_order [argSl a0, argSl a1, none, none, none] h ⟨fun _ h' => Q (.d .non) h', Q, fun _ _ => False, fun _ _ => False, fun x _ h' => X x h'⟩) : wpF T cv (k + 1) 16 [a0, a1] h Q X := .inl ⟨_, T_law_order, rfl, q⟩
theorem T_law_renumbered : T f_law_renumbered = some di_law_renumbered.fd := rfl
theorem in_law_renumbered {k : Nat} {a0 a1 : VV} {h : AH} {Q : RR → AH → Prop} {X : EX → AH → Prop} (q : wpSs (wpF T cv k) cv b_law_renumbered [argSl a0, argSl a1, none, none, none, none, none, none] h ⟨fun _ h' => Q (.d .non) h', Q, fun _ _ => False, fun _ _ => False, fun x _ h' => X x h'⟩) : wpF T cv (k + 1) 17 [a0, a1] h Q X := .inl ⟨_, T_law_renumbered, rfl, q⟩
theorem T_law_another : T f_law_another = some di_law_another.fd := rfl
theorem in_law_another {k : Nat} {a0 a1 : VV} {h : AH} {Q : RR → AH → Prop} {X : EX → AH → Prop} (q : wpSs (wpF T cv k) cv b_law_another [argSl a0, argSl a1] h ⟨fun _ h' => Q (.d .non) h', Q, fun _ _ => False, fun _ _ => False, fun x _ h' => X x h'⟩) : wpF T cv (k + 1) 18 [a0, a1] h Q X := .inl ⟨_, T_law_another, rfl, q⟩
theorem T_law_pairs : T f_law_pairs = some di_law_pairs.fd := rfl
theorem in_law_pairs {k : Nat} {a0 a1 : VV} {h : AH} {Q : RR → AH → Prop} {X : EX → AH → Prop} (q : wpSs (wpF T cv k) cv b_law_pairs [argSl a0, argSl a1, none, none, none, none, none] h ⟨fun _ h' => Q (.d .non) h', Q, fun _ _ => False, fun _ _ => False, fun x _ h' => X x h'⟩) : wpF T cv (k + 1) 19 [a0, a1] h Q X := .inl ⟨_, T_law_pairs, rfl, q⟩
theorem T_law_unlike_words : T f_law_unlike_words = some di_law_unlike_words.fd := rfl
theorem in_law_unlike_words {k : Nat} {a0 a1 : VV} {h : AH} {Q : RR → AH → Prop} {X : EX → AH → Prop} (q : wpSs (wpF T cv k) cv b_law_unlike_words [argSl a0, argSl a1, none, none, none] h ⟨fun _ h' => Q (.d .non) h', Q, fun _ _ => False, fun _ _ => False, fun x _ h' => X x h'⟩) : wpF T cv (k + 1) 20 [a0, a1] h Q X := .inl ⟨_, T_law_unlike_words, rfl, q⟩
theorem T_law_first_unlike : T f_law_first_unlike = some di_law_first_unlike.fd := rfl
theorem in_law_first_unlike {k : Nat} {a0 a1 a2 : VV} {h : AH} {Q : RR → AH → Prop} {X : EX → AH → Prop} (q : wpSs (wpF T cv k) cv b_law_first_unlike [argSl a0, argSl a1, argSl a2, none, none, none, none, none, none] h ⟨fun _ h' => Q (.d .non) h', Q, fun _ _ => False, fun _ _ => False, fun x _ h' => X x h'⟩) : wpF T cv (k + 1) 21 [a0, a1, a2] h Q X := .inl ⟨_, T_law_first_unlike, rfl, q⟩
theorem T_law_put : T f_law_put = some di_law_put.fd := rfl
theorem in_law_put {k : Nat} {a0 a1 a2 : VV} {h : AH} {Q : RR → AH → Prop} {X : EX → AH → Prop} (q : wpSs (wpF T cv k) cv b_law_put [argSl a0, argSl a1, argSl a2] h ⟨fun _ h' => Q (.d .non) h', Q, fun _ _ => False, fun _ _ => False, fun x _ h' => X x h'⟩) : wpF T cv (k + 1) 22 [a0, a1, a2] h Q X := .inl ⟨_, T_law_put, rfl, q⟩
theorem T_law_beside : T f_law_beside = some di_law_beside.fd := rfl
theorem in_law_beside {k : Nat} {a0 a1 a2 a3 : VV} {h : AH} {Q : RR → AH → Prop} {X : EX → AH → Prop} (q : wpSs (wpF T cv k) cv b_law_beside [argSl a0, argSl a1, argSl a2, argSl a3, none, none, none, none, none, none] h ⟨fun _ h' => Q (.d .non) h', Q, fun _ _ => False, fun _ _ => False, fun x _ h' => X x h'⟩) : wpF T cv (k + 1) 23 [a0, a1, a2, a3] h Q X := .inl ⟨_, T_law_beside, rfl, q⟩
theorem T_law_refused : T f_law_refused = some di_law_refused.fd := rfl
theorem in_law_refused {k : Nat} {a0 a1 : VV} {h : AH} {Q : RR → AH → Prop} {X : EX → AH → Prop} (q : wpSs (wpF T cv k) cv b_law_refused [argSl a0, argSl a1, none] h ⟨fun _ h' => Q (.d .non) h', Q, fun _ _ => False, fun _ _ => False, fun x _ h' => X x h'⟩) : wpF T cv (k + 1) 24 [a0, a1] h Q X := .inl ⟨_, T_law_refused, rfl, q⟩
theorem T_law_refused_by_any : T f_law_refused_by_any = some di_law_refused_by_any.fd := rfl
theorem in_law_refused_by_any {k : Nat} {a0 a1 : VV} {h : AH} {Q : RR → AH → Prop} {X : EX → AH → Prop} (q : wpSs (wpF T cv k) cv b_law_refused_by_any [argSl a0, argSl a1, none, none] h ⟨fun _ h' => Q (.d .non) h', Q, fun _ _ => False, fun _ _ => False, fun x _ h' => X x h'⟩) : wpF T cv (k + 1) 25 [a0, a1] h Q X := .inl ⟨_, T_law_refused_by_any, rfl, q⟩
theorem T_law_wide : T f_law_wide = some di_law_wide.fd := rfl
theorem in_law_wide {k : Nat} {a0 : VV} {h : AH} {Q : RR → AH → Prop} {X : EX → AH → Prop} (q : wpSs (wpF T cv k) cv b_law_wide [argSl a0, none, none, none, none, none, none] h ⟨fun _ h' => Q (.d .non) h', Q, fun _ _ => False, fun _ _ => False, fun x _ h' => X x h'⟩) : wpF T cv (k + 1) 26 [a0] h Q X := .inl ⟨_, T_law_wide, rfl, q⟩
theorem T_law_wide_good : T f_law_wide_good = some di_law_wide_good.fd := rfl
theorem in_law_wide_good {k : Nat} {a0 : VV} {h : AH} {Q : RR → AH → Prop} {X : EX → AH → Prop} (q : wpSs (wpF T cv k) cv b_law_wide_good [argSl a0, none, none, none, none, none, none, none, none, none] h ⟨fun _ h' => Q (.d .non) h', Q, fun _ _ => False, fun _ _ => False, fun x _ h' => X x h'⟩) : wpF T cv (k + 1) 27 [a0] h Q X := .inl ⟨_, T_law_wide_good, rfl, q⟩
theorem T_law : T f_law = some di_law.fd := rfl
theorem in_law {k : Nat} {a0 : VV} {h : AH} {Q : RR → AH → Prop} {X : EX → AH → Prop} (q : wpSs (wpF T cv k) cv b_law [argSl a0, none, none, none, none, none, none, none] h ⟨fun _ h' => Q (.d .non) h', Q, fun _ _ => False, fun _ _ => False, fun x _ h' => X x h'⟩) : wpF T cv (k + 1) 28 [a0] h Q X := .inl ⟨_, T_law, rfl, q⟩
theorem bind_all : ∀ y ∈ tbl, BindN y := by
  intro y hy
  simp only [tbl, List.mem_cons, List.not_mem_nil, or_false] at hy
  rcases hy with rfl | rfl | rfl | rfl | rfl | rfl | rfl | rfl | rfl | rfl | rfl | rfl | rfl | rfl | rfl | rfl | rfl | rfl | rfl | rfl | rfl | rfl | rfl | rfl | rfl | rfl | rfl | rfl | rfl
  · exact bn_is_word
  · exact bn_trail
  · exact bn_room_behind
  · exact bn_same_letters
  · exact bn_met_from
  · exact bn_unlike_from
  · exact bn_difference
  · exact bn_marked_rows
  · exact bn_says_difference
  · exact bn_law_cell
  · exact bn_law_whole
  · exact bn_law_big
  · exact bn_law_mark
  · exact bn_law_says
  · exact bn_law_is_word
  · exact bn_law_doubled
  · exact bn_law_order
  · exact bn_law_renumbered
  · exact bn_law_another
  · exact bn_law_pairs
  · exact bn_law_unlike_words
  · exact bn_law_first_unlike
  · exact bn_law_put
  · exact bn_law_beside
  · exact bn_law_refused
  · exact bn_law_refused_by_any
  · exact bn_law_wide
  · exact bn_law_wide_good
  · exact bn_law
end N55

namespace N55
open PySem PySem.Spec PyProof.Rows L2 G
/-- a row of a house -/
def rowD (r : List Nat) : D := .tup (r.map fun (g : Nat) => D.int (g : Int))
structure Hs where
  l : Nat
  marks : List Int
  W : List (List Nat)
def Hs.n (H : Hs) : Nat := H.W.length
structure Hs.Ok (H : Hs) : Prop where
  l1 : 1 ≤ H.l
  l6 : H.l ≤ 6
  n1 : 1 ≤ H.W.length
  n40 : H.W.length ≤ 40
  mkl : H.marks.length = H.W.length
  mb : ∀ m ∈ H.marks, 0 ≤ m ∧ m ≤ 1000000000
  row : ∀ row ∈ H.W, row.length = H.l ∧ ∀ g ∈ row, g < H.W.length
def hD (H : Hs) : D := .tup [.int H.l, .tup (H.marks.map .int), .tup (H.W.map rowD)]
end N55

namespace N55
open PySem PySem.Spec PyProof.Rows L2 G
/-! plain: words in order of length, then of letters -/
def lx : List Nat → List Nat → Prop
  | x :: a, y :: b => x < y ∨ (x = y ∧ lx a b)
  | _, _ => False
def slt (a b : List Nat) : Prop := a.length < b.length ∨ (a.length = b.length ∧ lx a b)
def sle (a b : List Nat) : Prop := slt a b ∨ a = b
theorem lx_trans : ∀ {a b c : List Nat}, lx a b → lx b c → lx a c
  | x :: a, y :: b, z :: c, h1, h2 => by
    simp only [lx] at h1 h2 ⊢
    rcases h1 with h1 | ⟨rfl, h1⟩ <;> rcases h2 with h2 | ⟨rfl, h2⟩
    · left; omega
    · left; omega
    · left; omega
    · right; exact ⟨rfl, lx_trans h1 h2⟩
  | [], _, _, h, _ => by simp [lx] at h
  | _ :: _, [], _, h, _ => by simp [lx] at h
  | _ :: _, _ :: _, [], _, h => by simp [lx] at h
theorem lx_irr : ∀ {a : List Nat}, ¬ lx a a
  | [], h => by simp [lx] at h
  | x :: a, h => by
    simp only [lx] at h
    rcases h with h | ⟨_, h⟩
    · omega
    · exact lx_irr h
theorem lx_app : ∀ {a b : List Nat} (u v : List Nat), lx a b → lx (a ++ u) (b ++ v)
  | x :: a, y :: b, u, v, h => by
    simp only [lx, List.cons_append] at h ⊢
    rcases h with h | ⟨rfl, h⟩
    · exact .inl h
    · exact .inr ⟨rfl, lx_app u v h⟩
  | [], _, _, _, h => by simp [lx] at h
  | _ :: _, [], _, _, h => by simp [lx] at h
theorem lx_last : ∀ (a : List Nat) {x y : Nat}, x < y → lx (a ++ [x]) (a ++ [y])
  | [], x, y, h => by simp [lx, h]
  | z :: a, x, y, h => by simp only [List.cons_append, lx]; exact .inr ⟨trivial, lx_last a h⟩
theorem slt_trans {a b c : List Nat} (h1 : slt a b) (h2 : slt b c) : slt a c := by
  rcases h1 with h1 | ⟨e1, h1⟩ <;> rcases h2 with h2 | ⟨e2, h2⟩
  · left; omega
  · left; omega
  · left; omega
  · exact .inr ⟨by omega, lx_trans h1 h2⟩
theorem slt_irr {a : List Nat} (h : slt a a) : False := by
  rcases h with h | ⟨_, h⟩
  · omega
  · exact lx_irr h
theorem slt_last (a : List Nat) {x y : Nat} (h : x < y) : slt (a ++ [x]) (a ++ [y]) := .inr ⟨by simp, lx_last a h⟩
theorem slt_app {a b : List Nat} (x y : Nat) (h : slt a b) : slt (a ++ [x]) (b ++ [y]) := by
  rcases h with h | ⟨e, h⟩
  · left; simp; omega
  · right; exact ⟨by simp [e], lx_app _ _ h⟩
theorem sle_slt {a b c : List Nat} (h1 : sle a b) (h2 : slt b c) : slt a c := by
  rcases h1 with h1 | rfl
  · exact slt_trans h1 h2
  · exact h2
theorem sle_trans {a b c : List Nat} (h1 : sle a b) (h2 : sle b c) : sle a c := by
  rcases h2 with h2 | rfl
  · exact .inl (sle_slt h1 h2)
  · exact h1
theorem sle_app {a b : List Nat} (x : Nat) (h : sle a b) : sle (a ++ [x]) (b ++ [x]) := by
  rcases h with h | rfl
  · exact .inl (slt_app x x h)
  · exact .inr rfl
/-! plain: walks of a house -/
def nx (H : Hs) (x c : Nat) : Nat := (H.W.getD x []).getD c 0
def wk (H : Hs) (x : Nat) (w : List Nat) : Nat := w.foldl (nx H) x
theorem nx_lt {H : Hs} (ok : H.Ok) {x c : Nat} (hx : x < H.W.length) (hc : c < H.l) : nx H x c < H.W.length := by
  obtain ⟨a, b⟩ := ok.row _ (List.getElem_mem hx)
  unfold nx
  rw [List.getD_eq_getElem?_getD (l := H.W), List.getElem?_eq_getElem hx, Option.getD_some, List.getD_eq_getElem?_getD, List.getElem?_eq_getElem (by omega)]
  exact b _ (List.getElem_mem _)
theorem nx_eq {H : Hs} {x c : Nat} (hx : x < H.W.length) (hc : c < (H.W[x]).length) : (H.W[x])[c] = nx H x c := by
  unfold nx
  rw [List.getD_eq_getElem?_getD (l := H.W), List.getElem?_eq_getElem hx, Option.getD_some, List.getD_eq_getElem?_getD, List.getElem?_eq_getElem hc, Option.getD_some]
theorem wk_app {H : Hs} {x : Nat} (w : List Nat) (c : Nat) : wk H x (w ++ [c]) = nx H (wk H x w) c := by simp [wk]
theorem wk_lt {H : Hs} (ok : H.Ok) : ∀ {w : List Nat} {x : Nat}, x < H.W.length → (∀ c ∈ w, c < H.l) → wk H x w < H.W.length
  | [], x, hx, _ => hx
  | c :: w, x, hx, hc => wk_lt (w := w) ok (nx_lt ok hx (hc c (by simp))) (fun d hd => hc d (by simp [hd]))
structure Base (H : Hs) (F : List (Option (List Nat))) (ws : List (List Nat)) : Prop where
  fl : F.length = H.W.length
  f1 : ∀ (x : Nat) (w : List Nat), F.getD x none = some w → w ∈ ws ∧ wk H 0 w = x
  f2 : ∀ w ∈ ws, F.getD (wk H 0 w) none = some w
  z : ([] : List Nat) ∈ ws
  lt : ∀ w ∈ ws, ∀ c ∈ w, c < H.l
  pw : ws.Pairwise slt
  cnt : ws.length + F.countP (·.isNone) = H.W.length
  len : ∀ (i : Nat) (w : List Nat), ws[i]? = some w → w.length ≤ i
def Done (H : Hs) (ws : List (List Nat)) (w : List Nat) (c : Nat) : Prop := ∃ v ∈ ws, wk H 0 v = nx H (wk H 0 w) c ∧ sle v (w ++ [c])
theorem Done.more {H : Hs} {ws : List (List Nat)} {w : List Nat} {c : Nat} {u : List Nat} (h : Done H ws w c) : Done H (ws ++ [u]) w c := by
  obtain ⟨v, m, a, b⟩ := h
  exact ⟨v, by simp [m], a, b⟩
structure Out (H : Hs) (F : List (Option (List Nat))) (ws : List (List Nat)) (a : Nat) : Prop where
  b : Base H F ws
  done : ∀ (i : Nat) (w : List Nat), i < a → ws[i]? = some w → ∀ c, c < H.l → Done H ws w c
  up : ∀ w : List Nat, ws[a]? = some w → ∀ v ∈ ws, slt v (w ++ [0])
structure Inn (H : Hs) (F : List (Option (List Nat))) (ws : List (List Nat)) (a : Nat) (w : List Nat) (c : Nat) : Prop where
  b : Base H F ws
  at' : ws[a]? = some w
  done : ∀ (i : Nat) (w : List Nat), i < a → ws[i]? = some w → ∀ c, c < H.l → Done H ws w c
  cur : ∀ c', c' < c → Done H ws w c'
  up : ∀ v ∈ ws, slt v (w ++ [c])
structure WaysOk (H : Hs) (F : List (Option (List Nat))) : Prop where
  fl : F.length = H.W.length
  z : F.getD 0 none = some []
  ok : ∀ (x : Nat) (w : List Nat), F.getD x none = some w → wk H 0 w = x ∧ (∀ c ∈ w, c < H.l) ∧ w.length ≤ H.W.length ∧ ∀ c, c < H.l → ∃ v, F.getD (nx H x c) none = some v ∧ sle v (w ++ [c])
theorem Out.inn {H : Hs} {F : List (Option (List Nat))} {ws : List (List Nat)} {a : Nat} {w : List Nat} (o : Out H F ws a) (e : ws[a]? = some w) : Inn H F ws a w 0 :=
  ⟨o.b, e, o.done, fun _ h => by omega, o.up w e⟩
theorem Inn.out {H : Hs} {F : List (Option (List Nat))} {ws : List (List Nat)} {a : Nat} {w : List Nat} (i : Inn H F ws a w H.l) : Out H F ws (a + 1) := by
  refine ⟨i.b, fun j u hj e c hc => ?_, fun u e v hv => ?_⟩
  · rcases Nat.lt_or_ge j a with h | h
    · exact i.done j u h e c hc
    · have : j = a := by omega
      subst this
      rw [i.at'] at e
      cases e
      exact i.cur c hc
  · have hp := List.pairwise_iff_getElem.mp i.b.pw
    obtain ⟨h1, e1⟩ := List.getElem?_eq_some_iff.mp i.at'
    obtain ⟨h2, e2⟩ := List.getElem?_eq_some_iff.mp e
    have := hp a (a + 1) h1 h2 (by omega)
    rw [e1, e2] at this
    exact slt_trans (i.up v hv) (slt_app _ _ this)
theorem Inn.skip {H : Hs} {F : List (Option (List Nat))} {ws : List (List Nat)} {a : Nat} {w v : List Nat} {c : Nat} (i : Inn H F ws a w c) (e : F.getD (nx H (wk H 0 w) c) none = some v) : Inn H F ws a w (c + 1) := by
  obtain ⟨m, k⟩ := i.b.f1 _ _ e
  refine ⟨i.b, i.at', i.done, fun c' hc => ?_, fun u hu => slt_trans (i.up u hu) (slt_last w (by omega))⟩
  rcases Nat.lt_or_ge c' c with h | h
  · exact i.cur c' h
  · have : c' = c := by omega
    subst this
    exact ⟨v, m, k, .inl (i.up v m)⟩
theorem Inn.add {H : Hs} (ok : H.Ok) {F : List (Option (List Nat))} {ws : List (List Nat)} {a : Nat} {w : List Nat} {c : Nat} (i : Inn H F ws a w c) (hc : c < H.l) (e : F.getD (nx H (wk H 0 w) c) none = none) :
    Inn H (F.set (nx H (wk H 0 w) c) (some (w ++ [c]))) (ws ++ [w ++ [c]]) a w (c + 1) := by
  have hw : w ∈ ws := List.mem_of_getElem? i.at'
  obtain ⟨ha, _⟩ := List.getElem?_eq_some_iff.mp i.at'
  have hx := wk_lt ok (x := 0) (w := w) (by have := ok.n1; omega) (i.b.lt w hw)
  have hy := nx_lt ok hx hc
  have hyF : nx H (wk H 0 w) c < F.length := by rw [i.b.fl]; exact hy
  have hk : wk H 0 (w ++ [c]) = nx H (wk H 0 w) c := wk_app w c
  have hn : F[nx H (wk H 0 w) c] = none := by
    rw [List.getD_eq_getElem?_getD, List.getElem?_eq_getElem hyF] at e; exact e
  refine ⟨⟨by rw [List.length_set]; exact i.b.fl, fun x u eu => ?_, fun u hu => ?_, by simp [i.b.z], fun u hu d hd => ?_, ?_, ?_, fun j u eu => ?_⟩, ?_, fun j u hj eu d hd => ?_, fun d hd => ?_, fun u hu => ?_⟩
  · rw [List.getD_eq_getElem?_getD] at eu
    by_cases hxy : nx H (wk H 0 w) c = x
    · subst hxy
      rw [List.getElem?_set_self hyF] at eu
      simp at eu; subst eu
      exact ⟨by simp, hk⟩
    · rw [List.getElem?_set_ne hxy, ← List.getD_eq_getElem?_getD] at eu
      obtain ⟨m, k⟩ := i.b.f1 _ _ eu
      exact ⟨by simp [m], k⟩
  · rcases List.mem_append.mp hu with hu | hu
    · have h2 := i.b.f2 u hu
      have hne : nx H (wk H 0 w) c ≠ wk H 0 u := by intro h; rw [← h, e] at h2; cases h2
      rw [List.getD_eq_getElem?_getD, List.getElem?_set_ne hne, ← List.getD_eq_getElem?_getD]; exact h2
    · simp at hu; subst hu
      rw [hk, List.getD_eq_getElem?_getD, List.getElem?_set_self hyF]; rfl
  · rcases List.mem_append.mp hu with hu | hu
    · exact i.b.lt u hu d hd
    · simp at hu; subst hu
      rcases List.mem_append.mp hd with hd | hd
      · exact i.b.lt w hw d hd
      · simp at hd; omega
  · refine List.pairwise_append.mpr ⟨i.b.pw, by simp, fun u hu v hv => ?_⟩
    simp at hv; subst hv
    exact i.up u hu
  · have := i.b.cnt
    rw [List.countP_set hyF, hn]
    have hpos : 0 < F.countP (·.isNone) := List.countP_pos_iff.mpr ⟨none, by rw [← hn]; exact List.getElem_mem _, rfl⟩
    simp
    omega
  · rcases Nat.lt_or_ge j ws.length with h | h
    · rw [List.getElem?_append_left h] at eu; exact i.b.len j u eu
    · rw [List.getElem?_append_right h] at eu
      have : j - ws.length = 0 := by
        rcases Nat.eq_zero_or_pos (j - ws.length) with h | h
        · exact h
        · rw [List.getElem?_eq_none (by simp; omega)] at eu; cases eu
      rw [this] at eu
      simp at eu; subst eu
      have := i.b.len a w i.at'
      simp; omega
  · rw [List.getElem?_append_left ha]; exact i.at'
  · rw [List.getElem?_append_left (by omega)] at eu
    exact (i.done j u hj eu d hd).more
  · rcases Nat.lt_or_ge d c with h | h
    · exact (i.cur d h).more
    · have : d = c := by omega
      subst this
      exact ⟨w ++ [d], by simp, hk, .inr rfl⟩
  · rcases List.mem_append.mp hu with hu | hu
    · exact slt_trans (i.up u hu) (slt_last w (by omega))
    · simp at hu; subst hu
      exact slt_last w (by omega)
theorem out0 {H : Hs} (hn : 1 ≤ H.W.length) : Out H ((List.replicate H.W.length none).set 0 (some [])) [[]] 0 := by
  have hl : 0 < (List.replicate H.W.length (none : Option (List Nat))).length := by simp; omega
  have hz : ((List.replicate H.W.length none).set 0 (some ([] : List Nat))).getD 0 none = some [] := by
    rw [List.getD_eq_getElem?_getD, List.getElem?_set_self hl]; rfl
  refine ⟨⟨by simp, fun x w e => ?_, fun w hw => ?_, by simp, fun w hw => ?_, by simp, ?_, fun i w e => ?_⟩, fun i w h => by omega, fun w e v hv => ?_⟩
  · rcases Nat.eq_zero_or_pos x with rfl | hx
    · rw [hz] at e; cases e; exact ⟨by simp, rfl⟩
    · rw [List.getD_eq_getElem?_getD, List.getElem?_set_ne (by omega), ← List.getD_eq_getElem?_getD] at e
      simp [List.getD_eq_getElem?_getD, List.getElem?_replicate] at e
      split at e <;> simp at e
  · simp at hw; subst hw; exact hz
  · simp at hw; subst hw; simp
  · rw [List.countP_set hl]
    simp [List.countP_replicate]
    omega
  · cases i with
    | zero => simp at e; subst e; simp
    | succ i => simp at e
  · simp at e hv; subst e; subst hv
    left; simp
theorem Out.ok {H : Hs} {F : List (Option (List Nat))} {ws : List (List Nat)} {a : Nat} (o : Out H F ws a) (ha : ws.length ≤ a) : WaysOk H F := by
  refine ⟨o.b.fl, o.b.f2 [] o.b.z, fun x w e => ?_⟩
  obtain ⟨m, k⟩ := o.b.f1 x w e
  obtain ⟨i, hi, ei⟩ := List.mem_iff_getElem.mp m
  have ei' : ws[i]? = some w := by rw [List.getElem?_eq_getElem hi, ei]
  refine ⟨k, o.b.lt w m, by have := o.b.len i w ei'; have := o.b.cnt; omega, fun c hc => ?_⟩
  obtain ⟨v, hv, kv, sv⟩ := o.done i w (by omega) ei' c hc
  rw [k] at kv
  exact ⟨v, kv ▸ o.b.f2 v hv, sv⟩
theorem WaysOk.least {H : Hs} {F : List (Option (List Nat))} (o : WaysOk H F) (u : List Nat) : ∀ (n : Nat), u.length = n → (∀ c ∈ u, c < H.l) → ∃ v, F.getD (wk H 0 u) none = some v ∧ sle v u := by
  intro n
  induction n generalizing u with
  | zero => intro hu _; have : u = [] := List.length_eq_zero_iff.mp hu
            subst this; exact ⟨[], o.z, .inr rfl⟩
  | succ n ih =>
    intro hu hc
    have hne : u ≠ [] := by intro h; subst h; simp at hu
    rw [← List.dropLast_concat_getLast hne] at hc ⊢
    generalize hd : u.dropLast = d at hc ⊢
    generalize u.getLast hne = x at hc ⊢
    obtain ⟨w, e, s⟩ := ih d (by subst hd; simp; omega) (fun c h => hc c (by simp [h]))
    obtain ⟨_, _, _, h⟩ := o.ok _ _ e
    obtain ⟨v, e', s'⟩ := h x (hc x (by simp))
    exact ⟨v, by rw [wk_app]; exact e', sle_trans s' (sle_app x s)⟩
theorem sle_anti {a b : List Nat} (h1 : sle a b) (h2 : sle b a) : a = b := by
  rcases h1 with h1 | h1
  · exact (slt_irr (sle_slt h2 h1)).elim
  · exact h1
theorem WaysOk.uniq {H : Hs} {F G : List (Option (List Nat))} (o : WaysOk H F) (p : WaysOk H G) : F = G := by
  have key : ∀ {F G : List (Option (List Nat))}, WaysOk H F → WaysOk H G → ∀ x w, F.getD x none = some w → G.getD x none = some w := by
    intro F G o p x w e
    obtain ⟨k, hl, _, _⟩ := o.ok x w e
    obtain ⟨v, ev, sv⟩ := p.least w _ rfl hl
    rw [k] at ev
    obtain ⟨k', hl', _, _⟩ := p.ok x v ev
    obtain ⟨u, eu, su⟩ := o.least v _ rfl hl'
    rw [k', e] at eu
    cases eu
    rw [ev, sle_anti sv su]
  refine List.ext_getElem? fun x => ?_
  rcases Nat.lt_or_ge x H.W.length with h | h
  · have hF : x < F.length := by rw [o.fl]; exact h
    have hG : x < G.length := by rw [p.fl]; exact h
    have e : F.getD x none = G.getD x none := by
      cases e1 : F.getD x none with
      | some w => rw [key o p x w e1]
      | none =>
        cases e2 : G.getD x none with
        | none => rfl
        | some w => rw [key p o x w e2] at e1; cases e1
    rw [List.getD_eq_getElem?_getD, List.getD_eq_getElem?_getD, List.getElem?_eq_getElem hF, List.getElem?_eq_getElem hG] at e
    rw [List.getElem?_eq_getElem hF, List.getElem?_eq_getElem hG]
    exact congrArg some e
  · rw [List.getElem?_eq_none (by rw [o.fl]; exact h), List.getElem?_eq_none (by rw [p.fl]; exact h)]

/-- the rooms that are reached -/
def addAll (row : List Nat) : List Nat → List Nat
  | [] => row
  | g :: gs => addAll (if g ∈ row then row else row ++ [g]) gs
def bfs (H : Hs) : Nat → List Nat → Nat → List Nat
  | 0, row, _ => row
  | f + 1, row, a => if a < row.length then bfs H f (addAll row (H.W.getD (row.getD a 0) [])) (a + 1) else row
def reach (H : Hs) : List Nat := bfs H H.W.length [0] 0
theorem bfs_end {H : Hs} {row : List Nat} {a : Nat} (h : row.length ≤ a) : ∀ m, bfs H m row a = row
  | 0 => rfl
  | m + 1 => by unfold bfs; rw [if_neg (by omega)]
/-! the walk -/
def wD (w : List Nat) : D := .tup (w.map fun (g : Nat) => D.int (g : Int))
def oD : Option (List Nat) → D
  | none => .non
  | some w => wD w
theorem alikes_int : ∀ (a b : List Nat), D.alikes (a.map fun (g : Nat) => D.int (g : Int)) (b.map fun (g : Nat) => D.int (g : Int)) = true
  | [], _ => by simp [D.alikes]
  | _ :: _, [] => by simp [D.alikes]
  | x :: a, y :: b => by simp only [List.map_cons, D.alikes, D.alike, Bool.true_and]; exact alikes_int a b
theorem ltds_lx : ∀ {a b : List Nat}, lx a b ∨ a = b → D.ltds (b.map fun (g : Nat) => D.int (g : Int)) (a.map fun (g : Nat) => D.int (g : Int)) = false
  | [], [], _ => by simp [D.ltds]
  | [], _ :: _, h => by simp [lx] at h
  | _ :: _, [], h => by simp [lx] at h
  | x :: a, y :: b, h => by
    rw [List.map_cons, List.map_cons, ltds_int]
    simp only [lx, List.cons.injEq] at h
    by_cases e : x = y
    · subst e
      rw [if_pos rfl]
      exact ltds_lx (h.elim (fun h => h.elim (fun h => absurd h (Nat.lt_irrefl _)) (fun h => .inl h.2)) (fun h => .inr h.2))
    · rw [if_neg (by omega)]
      have : x < y := by rcases h with (h | h) | h <;> omega
      simp; omega
theorem fla_oD (o : Option (List Nat)) (n : Nat) : (oD o).fla (n + 1) = true := by
  cases o with
  | none => simp [oD, D.fla]
  | some w => exact fla_tup (flas_map fun _ _ => fla_int)
end N55

namespace N55
open PySem PySem.Spec PyProof.Rows L2 G
section
variable {α : Type} [DecidableEq α]
/-- the first of each, in order -/
def fst (seen : List α) : List α → List α
  | [] => seen
  | k :: ks => fst (if k ∈ seen then seen else seen ++ [k]) ks
theorem fst_cons {seen ks : List α} {k : α} : fst seen (k :: ks) = fst (if k ∈ seen then seen else seen ++ [k]) ks := rfl
theorem fst_app : ∀ (ks seen : List α), ∃ t, fst seen ks = seen ++ t
  | [], seen => ⟨[], by simp [fst]⟩
  | k :: ks, seen => by
    unfold fst
    obtain ⟨t, e⟩ := fst_app ks (if k ∈ seen then seen else seen ++ [k])
    rw [e]
    split
    · exact ⟨t, rfl⟩
    · exact ⟨k :: t, by simp⟩
theorem fst_mem : ∀ {ks seen : List α} {k : α}, k ∈ fst seen ks ↔ k ∈ seen ∨ k ∈ ks
  | [], seen, k => by simp [fst]
  | x :: ks, seen, k => by
    unfold fst
    rw [fst_mem]
    split
    · rename_i h
      simp only [List.mem_cons]
      constructor
      · rintro (h1 | h1)
        · exact .inl h1
        · exact .inr (.inr h1)
      · rintro (h1 | h1 | h1)
        · exact .inl h1
        · subst h1; exact .inl h
        · exact .inr h1
    · simp only [List.mem_append, List.mem_cons, List.not_mem_nil, or_false]
      constructor
      · rintro ((h1 | h1) | h1)
        · exact .inl h1
        · exact .inr (.inl h1)
        · exact .inr (.inr h1)
      · rintro (h1 | h1 | h1)
        · exact .inl (.inl h1)
        · exact .inl (.inr h1)
        · exact .inr h1
theorem fst_nodup : ∀ {ks seen : List α}, seen.Nodup → (fst seen ks).Nodup
  | [], seen, h => by simpa [fst] using h
  | k :: ks, seen, h => by
    unfold fst
    refine fst_nodup ?_
    split
    · exact h
    · rename_i hk
      refine List.nodup_append.mpr ⟨h, by simp, fun a ha b hb => ?_⟩
      simp at hb; subst hb
      intro e; subst e; exact hk ha
/-- a number for each, by the first alike -/
def num (ks : List α) : List Nat := ks.map fun k => (fst [] ks).idxOf k
theorem look_zip : ∀ (seen : List α) (n : Nat) (a : α), look (seen.zipIdx n) a = if a ∈ seen then some (n + seen.idxOf a) else none
  | [], n, a => by simp [look_nil]
  | x :: seen, n, a => by
    rw [List.zipIdx_cons, look_cons, look_zip seen (n + 1) a, List.idxOf_cons]
    by_cases h : x = a
    · subst h; simp
    · have h' : ¬ a = x := fun e => h e.symm
      simp only [h, if_false, List.mem_cons, h', false_or]
      have : (x == a) = false := by simpa using h
      rw [this]
      by_cases hm : a ∈ seen
      · rw [if_pos hm, if_pos hm]; simp; omega
      · rw [if_neg hm, if_neg hm]
end
end N55

namespace N55
open PySem PySem.Spec PyProof.Rows L2 G
/-! plain: kernels and their counts -/
section
variable {α β : Type} [DecidableEq α] [DecidableEq β]
theorem sub_len : ∀ {l m : List α}, l.Nodup → (∀ a ∈ l, a ∈ m) → l.length ≤ m.length
  | [], _, _, _ => by simp
  | a :: l, m, hn, hs => by
    have hn' := List.nodup_cons.mp hn
    have ha := hs a (by simp)
    have := sub_len (l := l) (m := m.erase a) hn'.2 (fun b hb => (List.mem_erase_of_ne (by intro e; subst e; exact hn'.1 hb)).mpr (hs b (by simp [hb])))
    rw [List.length_erase, if_pos ha] at this
    have hp := List.length_pos_of_mem ha
    simp; omega
theorem fst_map (e : α → β) : ∀ (ks seen : List α), (∀ a ∈ seen ++ ks, ∀ b ∈ seen ++ ks, e a = e b → a = b) → fst (seen.map e) (ks.map e) = (fst seen ks).map e
  | [], seen, _ => rfl
  | k :: ks, seen, h => by
    rw [List.map_cons, fst_cons, fst_cons]
    have hm : e k ∈ seen.map e ↔ k ∈ seen := by
      constructor
      · intro hk
        obtain ⟨a, ha, ea⟩ := List.mem_map.mp hk
        have := h a (by simp [ha]) k (by simp) ea
        subst this; exact ha
      · exact fun hk => List.mem_map.mpr ⟨k, hk, rfl⟩
    by_cases hk : k ∈ seen
    · rw [if_pos hk, if_pos (hm.mpr hk)]
      refine fst_map e ks seen fun a ha b hb => h a ?_ b ?_
      · rcases List.mem_append.mp ha with ha | ha <;> simp [ha]
      · rcases List.mem_append.mp hb with hb | hb <;> simp [hb]
    · rw [if_neg hk, if_neg (fun z => hk (hm.mp z))]
      have := fst_map e ks (seen ++ [k]) (fun a ha b hb => h a (by simpa using ha) b (by simpa using hb))
      rw [List.map_append] at this
      exact this
theorem idx_map (e : α → β) : ∀ (l : List α) (a : α), (∀ b ∈ l, e b = e a → b = a) → (l.map e).idxOf (e a) = l.idxOf a
  | [], _, _ => rfl
  | x :: l, a, h => by
    rw [List.map_cons, List.idxOf_cons, List.idxOf_cons, idx_map e l a (fun b hb => h b (by simp [hb]))]
    by_cases hx : x = a
    · subst hx; simp
    · have : ¬ e x = e a := fun z => hx (h x (by simp) z)
      have h1 : (e x == e a) = false := by simpa using this
      have h2 : (x == a) = false := by simpa using hx
      rw [h1, h2]
theorem num_map (e : α → β) {ks : List α} (h : ∀ a ∈ ks, ∀ b ∈ ks, e a = e b → a = b) : num (ks.map e) = num ks := by
  unfold num
  have hf := fst_map e ks [] (by simpa using h)
  rw [List.map_nil] at hf
  rw [hf, List.map_map]
  refine List.map_congr_left fun k hk => ?_
  refine idx_map e _ k fun b hb eb => h b ?_ k hk eb
  rcases fst_mem.mp hb with hb | hb
  · simp at hb
  · exact hb
/-- numbers depend on the kernel alone -/
theorem num_ker {n : Nat} (f : Nat → α) (g : Nat → β) (h : ∀ x y, x < n → y < n → (f x = f y ↔ g x = g y)) : num ((List.range n).map f) = num ((List.range n).map g) := by
  have e1 : (List.range n).map f = ((List.range n).map fun x => (f x, g x)).map Prod.fst := by rw [List.map_map]; rfl
  have e2 : (List.range n).map g = ((List.range n).map fun x => (f x, g x)).map Prod.snd := by rw [List.map_map]; rfl
  rw [e1, e2]
  refine (num_map Prod.fst ?_).trans (num_map Prod.snd ?_).symm
  rotate_left
  · intro a ha b hb e
    obtain ⟨x, hx, rfl⟩ := List.mem_map.mp ha
    obtain ⟨y, hy, rfl⟩ := List.mem_map.mp hb
    have := (h x y (by simpa using hx) (by simpa using hy)).mpr e
    exact Prod.ext this e
  · intro a ha b hb e
    obtain ⟨x, hx, rfl⟩ := List.mem_map.mp ha
    obtain ⟨y, hy, rfl⟩ := List.mem_map.mp hb
    have := (h x y (by simpa using hx) (by simpa using hy)).mp e
    exact Prod.ext e this
/-- how many classes -/
def cn (n : Nat) (f : Nat → α) : Nat := (fst [] ((List.range n).map f)).length
theorem num_len {ks : List α} : (num ks).length = ks.length := by unfold num; simp
theorem num_at {n : Nat} (f : Nat → α) {x : Nat} (hx : x < n) : (num ((List.range n).map f)).getD x 0 = (fst [] ((List.range n).map f)).idxOf (f x) := by
  unfold num
  rw [List.map_map, List.getD_eq_getElem?_getD, List.getElem?_map, List.getElem?_range hx]; rfl
theorem mem_fst {n : Nat} (f : Nat → α) {x : Nat} (hx : x < n) : f x ∈ fst [] ((List.range n).map f) := fst_mem.mpr (.inr (List.mem_map.mpr ⟨x, by simpa using hx, rfl⟩))
theorem of_fst {n : Nat} (f : Nat → α) {a : α} (ha : a ∈ fst [] ((List.range n).map f)) : ∃ x, x < n ∧ f x = a := by
  rcases fst_mem.mp ha with ha | ha
  · simp at ha
  · obtain ⟨x, hx, e⟩ := List.mem_map.mp ha
    exact ⟨x, by simpa using hx, e⟩
theorem num_lt {n : Nat} (f : Nat → α) {x : Nat} (hx : x < n) : (num ((List.range n).map f)).getD x 0 < cn n f := by
  rw [num_at f hx]; exact List.idxOf_lt_length_of_mem (mem_fst f hx)
theorem num_inj {n : Nat} (f : Nat → α) {x y : Nat} (hx : x < n) (hy : y < n) : (num ((List.range n).map f)).getD x 0 = (num ((List.range n).map f)).getD y 0 ↔ f x = f y := by
  rw [num_at f hx, num_at f hy]
  constructor
  · intro e
    have h1 := List.idxOf_lt_length_of_mem (mem_fst f hx)
    have h2 := List.idxOf_lt_length_of_mem (mem_fst f hy)
    have e1 := List.getElem_idxOf h1
    have e2 := List.getElem_idxOf h2
    rw [← e1, ← e2]
    congr 1
  · intro e; rw [e]
theorem num_onto {n : Nat} (f : Nat → α) {i : Nat} (hi : i < cn n f) : ∃ x, x < n ∧ (num ((List.range n).map f)).getD x 0 = i := by
  obtain ⟨x, hx, e⟩ := of_fst f (List.getElem_mem hi)
  refine ⟨x, hx, ?_⟩
  rw [num_at f hx, e]
  exact (fst_nodup (by simp)).idxOf_getElem _ _
theorem cn_le {n : Nat} {f : Nat → α} {g : Nat → β} (h : ∀ x y, x < n → y < n → g x = g y → f x = f y) : cn n f ≤ cn n g ∧ (cn n g ≤ cn n f → ∀ x y, x < n → y < n → f x = f y → g x = g y) := by
  let φ : β → α := fun v => match (List.range n).find? fun x => decide (g x = v) with
    | some x => f x
    | none => f 0
  have hφ : ∀ x, x < n → φ (g x) = f x := by
    intro x hx
    show (match (List.range n).find? fun y => decide (g y = g x) with | some x => f x | none => f 0) = f x
    cases e : (List.range n).find? fun y => decide (g y = g x) with
    | none =>
      rw [List.find?_eq_none] at e
      exact (e x (by simpa using hx) (by simp)).elim
    | some y =>
      have h1 := List.find?_some e
      have h2 := List.mem_of_find?_eq_some e
      exact h y x (by simpa using h2) hx (by simpa using h1)
  refine ⟨?_, fun hle x y hx hy e => ?_⟩
  · have := sub_len (l := fst [] ((List.range n).map f)) (m := (fst [] ((List.range n).map g)).map φ) (fst_nodup (by simp)) (fun a ha => by
      obtain ⟨x, hx, rfl⟩ := of_fst f ha
      exact List.mem_map.mpr ⟨g x, mem_fst g hx, hφ x hx⟩)
    rw [List.length_map] at this
    exact this
  · by_cases hg : g x = g y
    · exact hg
    · exfalso
      have := sub_len (l := fst [] ((List.range n).map f)) (m := ((fst [] ((List.range n).map g)).erase (g x)).map φ) (fst_nodup (by simp)) (fun a ha => by
        obtain ⟨z, hz, rfl⟩ := of_fst f ha
        by_cases hzx : g z = g x
        · have e1 : f z = f y := (h z x hz hx hzx).trans e
          rw [e1]
          exact List.mem_map.mpr ⟨g y, (List.mem_erase_of_ne (fun z => hg z.symm)).mpr (mem_fst g hy), hφ y hy⟩
        · exact List.mem_map.mpr ⟨g z, (List.mem_erase_of_ne hzx).mpr (mem_fst g hz), hφ z hz⟩)
      rw [List.length_map, List.length_erase, if_pos (mem_fst g hx)] at this
      have hp := List.length_pos_of_mem (mem_fst g hx)
      unfold cn at hle
      omega
theorem cn_n {n : Nat} (f : Nat → α) : cn n f ≤ n := by
  have := sub_len (l := fst [] ((List.range n).map f)) (m := (List.range n).map f) (fst_nodup (by simp)) (fun a ha => by
    rcases fst_mem.mp ha with ha | ha
    · simp at ha
    · exact ha)
  simpa [cn] using this
theorem cn_pos {n : Nat} (f : Nat → α) (hn : 1 ≤ n) : 1 ≤ cn n f := List.length_pos_of_mem (mem_fst f (x := 0) (by omega))
end
/-- the greatest -/
def mx : List Nat → Nat
  | [] => 0
  | x :: xs => max x (mx xs)
theorem mx_cons {x : Nat} {xs : List Nat} : mx (x :: xs) = max x (mx xs) := rfl
theorem le_mx : ∀ {l : List Nat} {x : Nat}, x ∈ l → x ≤ mx l
  | y :: l, x, h => by
    rcases List.mem_cons.mp h with h | h
    · subst h; exact Nat.le_max_left _ _
    · exact Nat.le_trans (le_mx h) (Nat.le_max_right _ _)
theorem mx_mem : ∀ {l : List Nat}, l ≠ [] → mx l ∈ l
  | [x], _ => by simp [mx]
  | x :: y :: l, _ => by
    have := mx_mem (l := y :: l) (by simp)
    rw [mx_cons]
    rcases Nat.le_total x (mx (y :: l)) with h | h
    · rw [Nat.max_eq_right h]; exact List.mem_cons_of_mem _ this
    · rw [Nat.max_eq_left h]; simp
theorem maxI_mx : ∀ (l : List Nat) (m : Nat), maxI (m : Int) (l.map fun (g : Nat) => (g : Int)) = ((max m (mx l) : Nat) : Int)
  | [], m => by simp [maxI, mx]
  | x :: l, m => by
    have e : (if (m : Int) < (x : Int) then (x : Int) else (m : Int)) = ((max m x : Nat) : Int) := by
      split <;> omega
    rw [List.map_cons, maxI, e, maxI_mx l (max m x), mx_cons]
    omega
theorem mx_num {α : Type} [DecidableEq α] {n : Nat} (f : Nat → α) (hn : 1 ≤ n) : mx (num ((List.range n).map f)) + 1 = cn n f := by
  have hne : num ((List.range n).map f) ≠ [] := by
    intro h; have := congrArg List.length h; rw [num_len] at this; simp at this; omega
  have hmem : ∀ {y}, y ∈ num ((List.range n).map f) → ∃ x, x < n ∧ (num ((List.range n).map f)).getD x 0 = y := by
    intro y hy
    obtain ⟨i, hi, e⟩ := List.mem_iff_getElem.mp hy
    refine ⟨i, by rw [num_len] at hi; simpa using hi, ?_⟩
    rw [List.getD_eq_getElem?_getD, List.getElem?_eq_getElem hi, ← e]; rfl
  obtain ⟨x, hx, ex⟩ := hmem (mx_mem hne)
  have h1 := num_lt f hx
  obtain ⟨y, hy, ey⟩ := num_onto (n := n) f (i := cn n f - 1) (by have := cn_pos f hn; omega)
  have h2 : (num ((List.range n).map f)).getD y 0 ∈ num ((List.range n).map f) := by
    have hl : y < (num ((List.range n).map f)).length := by rw [num_len]; simpa using hy
    rw [List.getD_eq_getElem?_getD, List.getElem?_eq_getElem hl]; exact List.getElem_mem _
  have h3 := le_mx h2
  rw [ex] at h1
  omega
end N55

namespace N55
open PySem PySem.Spec PyProof.Rows L2 G
/-! lists of data of a kind: is it in, and where -/
/-- data of a kind: alike just where they are the same -/
structure KF {α : Type} (f : α → D) : Prop where
  eq : ∀ a b, D.eqv (f a) (f b) = true ↔ a = b
  fl : ∀ a n, (f a).fla (n + 10) = true
section
variable {α : Type} {f : α → D} {l : List α} {a b : α}
theorem KF.t (hf : KF f) : D.eqv (f a) (f a) = true := (hf.eq a a).mpr rfl
theorem KF.ne (hf : KF f) (h : a ≠ b) : D.eqv (f a) (f b) = false := Bool.eq_false_iff.mpr fun z => h ((hf.eq a b).mp z)
theorem any_f (hf : KF f) : ((l.map f).any fun z => D.eqv z (f a)) = true ↔ a ∈ l := by
  rw [List.any_eq_true]
  constructor
  · rintro ⟨d, hd, e⟩
    obtain ⟨b, hb, rfl⟩ := List.mem_map.mp hd
    rw [← (hf.eq b a).mp e]; exact hb
  · exact fun h => ⟨f a, List.mem_map.mpr ⟨a, h, rfl⟩, hf.t⟩
theorem any_t (hf : KF f) (h : a ∈ l) : ((l.map f).any fun z => D.eqv z (f a)) = true := (any_f hf).mpr h
theorem any_n (hf : KF f) (h : a ∉ l) : ((l.map f).any fun z => D.eqv z (f a)) = false := Bool.eq_false_iff.mpr fun z => h ((any_f hf).mp z)
theorem find_f [DecidableEq α] (hf : KF f) (ha : a ∈ l) : ((l.map f).findIdx? fun z => D.eqv z (f a)) = some (l.idxOf a) := by
  induction l with
  | nil => cases ha
  | cons x l ih =>
    rw [List.map_cons, List.findIdx?_cons, List.idxOf_cons]
    by_cases e : x = a
    · subst e; rw [hf.t]; simp
    · have h1 : (x == a) = false := by simpa using e
      have ha' : a ∈ l := (List.mem_cons.mp ha).elim (fun z => absurd z.symm e) id
      rw [hf.ne e, h1, ih ha']
      rfl
theorem eqvs_f (he : ∀ a b, D.eqv (f a) (f b) = true ↔ a = b) : ∀ {l m : List α}, D.eqvs (l.map f) (m.map f) = true ↔ l = m
  | [], [] => by simp [D.eqvs]
  | [], _ :: _ => by simp [D.eqvs]
  | _ :: _, [] => by simp [D.eqvs]
  | x :: l, y :: m => by
    rw [List.map_cons, List.map_cons]
    simp only [D.eqvs, Bool.and_eq_true, he, eqvs_f he, List.cons.injEq]
theorem flas_f (hf : KF f) (n : Nat) : D.flas (n + 10) (l.map f) = true := flas_map fun a _ => hf.fl a n
variable {h : AH} {P : D → Prop} {v : VV}
theorem notIn_t (hf : KF f) (e : (v.obj h).bind AO.list = some (l.map f)) (hm : a ∈ l) (q : P (.bl false)) : cmpW .notIn h (.d (f a)) v P :=
  ⟨_, rfl, .inr ⟨_, e, hf.fl a 50, flas_f hf 49, by rw [any_t hf hm]; exact q⟩⟩
theorem notIn_n (hf : KF f) (e : (v.obj h).bind AO.list = some (l.map f)) (hm : a ∉ l) (q : P (.bl true)) : cmpW .notIn h (.d (f a)) v P :=
  ⟨_, rfl, .inr ⟨_, e, hf.fl a 50, flas_f hf 49, by rw [any_n hf hm]; exact q⟩⟩
theorem isIn_t (hf : KF f) (e : (v.obj h).bind AO.list = some (l.map f)) (hm : a ∈ l) (q : P (.bl true)) : cmpW .isIn h (.d (f a)) v P :=
  ⟨_, rfl, .inr ⟨_, e, hf.fl a 50, flas_f hf 49, by rw [any_t hf hm]; exact q⟩⟩
theorem isIn_n (hf : KF f) (e : (v.obj h).bind AO.list = some (l.map f)) (hm : a ∉ l) (q : P (.bl false)) : cmpW .isIn h (.d (f a)) v P :=
  ⟨_, rfl, .inr ⟨_, e, hf.fl a 50, flas_f hf 49, by rw [any_n hf hm]; exact q⟩⟩
theorem idx_f [DecidableEq α] (hf : KF f) (e : (v.obj h).bind AO.list = some (l.map f)) (ha : a ∈ l) (q : P (.int (l.idxOf a : Nat))) : idxW h v (.d (f a)) P :=
  idx_at e (hf.fl a 50) (flas_f hf 49) (find_f hf ha) q
theorem eq_t (hf : KF f) {x y : VV} (e1 : x.dat h = some (f a)) (e2 : y.dat h = some (f a)) (q : P (.bl true)) : cmpW .eq h x y P :=
  c_eq e1 e2 (hf.fl a 50) (hf.fl a 50) (by rw [hf.t]; exact q)
theorem eq_n (hf : KF f) {x y : VV} (e1 : x.dat h = some (f a)) (e2 : y.dat h = some (f b)) (hn : a ≠ b) (q : P (.bl false)) : cmpW .eq h x y P :=
  c_eq e1 e2 (hf.fl a 50) (hf.fl b 50) (by rw [hf.ne hn]; exact q)
theorem ne_t (hf : KF f) {x y : VV} (e1 : x.dat h = some (f a)) (e2 : y.dat h = some (f a)) (q : P (.bl false)) : cmpW .ne h x y P :=
  c_ne e1 e2 (hf.fl a 50) (hf.fl a 50) (by rw [hf.t]; exact q)
theorem ne_n (hf : KF f) {x y : VV} (e1 : x.dat h = some (f a)) (e2 : y.dat h = some (f b)) (hn : a ≠ b) (q : P (.bl true)) : cmpW .ne h x y P :=
  c_ne e1 e2 (hf.fl a 50) (hf.fl b 50) (by rw [hf.ne hn]; exact q)
end
theorem isI_bb {h : AH} {P : D → Prop} {b : Bool} (q : P (.bl true)) : biW (.isI "bool") h [.d (.bl b)] P := ⟨true, rfl, q⟩
theorem ixN_last {n : Nat} (h : 1 ≤ n) : ixN n (-1) = some (n - 1) := by
  unfold ixN
  rw [if_neg (by omega), if_pos (by omega)]
  congr 1
  omega
theorem atI_last {α : Type} {xs : List α} {v : α} (e : xs.getLast? = some v) : atI xs (-1) = some v := by
  have hl : 1 ≤ xs.length := by
    cases xs with
    | nil => cases e
    | cons x xs => simp
  unfold atI
  rw [ixN_last hl]
  rw [List.getLast?_eq_getElem?] at e
  exact e
theorem kf_int : KF D.int := ⟨fun a b => by simp only [D.eqv]; exact beq_iff_eq, fun _ _ => fla_int⟩
theorem kf_nat : KF (fun (g : Nat) => D.int (g : Int)) := ⟨fun a b => by
  simp only [D.eqv]
  rw [beq_iff_eq]
  omega, fun _ _ => fla_int⟩
theorem kf_wD : KF wD := ⟨fun a b => by unfold wD; simp only [D.eqv]; exact eqvs_f kf_nat.eq, fun w n => fla_tup (n := n + 9) (flas_map fun _ _ => fla_int)⟩
end N55

namespace N55
open PySem PySem.Spec PyProof.Rows L2 G
/-- a list, be it a value or an object -/
def LV (h : AH) (v : D) (xs : List D) : Prop := ((VV.d v).obj h).bind AO.list = some xs
theorem LV.obj {h : AH} {v : D} {xs : List D} (e : LV h v xs) : (VV.d v).obj h = some (.lst xs) := by
  unfold LV at e
  generalize (VV.d v).obj h = o at e
  cases o with
  | none => cases e
  | some o => cases o <;> first | (cases e; rfl) | cases e
theorem LV.seq {h : AH} {v : D} {xs : List D} (e : LV h v xs) : (VV.d v).seq h = some xs := by
  unfold LV at e
  cases v <;> first | exact e | cases e
theorem LV.len {h : AH} {v : D} {xs : List D} (e : LV h v xs) : (VV.d v).len h = some xs.length := by
  have e0 := e.obj
  cases v with
  | fz ys => cases e0; rfl
  | ref n =>
    show ((VV.d (.ref n)).obj h).bind AO.size = _
    rw [e0]; rfl
  | _ => cases e0
theorem LV.dat {h : AH} {v : D} {xs : List D} (e : LV h v xs) : (VV.d v).dat h = some (.fz xs) := by
  have e0 := e.obj
  cases v with
  | fz ys => cases e0; rfl
  | ref n =>
    show (h[n]?).bind (fun o => o.list.map D.fz) = some (D.fz xs)
    rw [show h[n]? = some (.lst xs) from e0]; rfl
  | _ => cases e0
theorem intsOf_map : ∀ z : List Int, intsOf (z.map D.int) = some z
  | [] => rfl
  | i :: z => by
    show intsOf (D.int i :: z.map D.int) = _
    unfold intsOf
    rw [intsOf_map z]
    rfl
theorem x_lv {α : Type} {f : α → D} {xs : List α} {h : AH} {v : D} {j : Nat} {P : D → Prop} (lv : LV h v (xs.map f)) (hj : j < xs.length) (q : P (f (xs[j]'hj))) : ixW h (.d v) (.d (.int (j : Int))) P :=
  x_at lv.seq (atI_nat (by rw [List.getElem?_map, List.getElem?_eq_getElem hj]; rfl)) q
def fzI (z : List Int) : D := .fz (z.map .int)
theorem kf_fzI : KF fzI := ⟨fun a b => by unfold fzI; simp only [D.eqv]; exact eqvs_f kf_int.eq, fun w n => fla_fz (n := n + 9) (flas_map fun _ _ => fla_int)⟩
/-- a loop over a list, whatever its target -/
theorem for_ixG {g : CG} {B : Ev → AH → CEnds → Prop} {guard : AH → Prop} {h : AH} {env : Ev} {rn : Ev → AH → Prop} {rt : RR → AH → Prop} {rb rc : Ev → AH → Prop} {rx : EX → Ev → AH → Prop} (hg : guard h) {xs : List D} (I : Nat → Ev → Prop) (i0 : I 0 env) (h0 : ∀ env, I xs.length env → rn env h)
    (hs : ∀ (j : Nat) (hj : j < xs.length) env, I j env → ∀ N : Ev → AH → Prop, (∀ e, I (j + 1) e → N e h) → gW g (xs[j]'hj) env fun env' => B env' h ⟨N, rt, rn, N, rx⟩) :
    forW guard g B xs env h ⟨rn, rt, rb, rc, rx⟩ := by
  have key : ∀ (m j : Nat) env, j + m = xs.length → I j env → forW guard g B (xs.drop j) env h ⟨rn, rt, rb, rc, rx⟩ := by
    intro m
    induction m with
    | zero => intro j env e i; have : j = xs.length := by omega
              subst this; rw [List.drop_length]; exact ⟨hg, h0 env i⟩
    | succ m ih =>
      intro j env e i
      have hj : j < xs.length := by omega
      rw [List.drop_eq_getElem_cons hj]; exact ⟨hg, hs j hj env i _ fun e' i' => ih (j + 1) e' (by omega) i'⟩
  exact key xs.length 0 env (by omega) i0
theorem gW2 {i j : Nat} {a b : D} {env : Ev} {Q : Ev → Prop} (q : Q (setsE [i, j] [a, b] env)) : gW (.tp [i, j]) (.tup [a, b]) env Q := ⟨_, rfl, rfl, q⟩
end N55

namespace N55
open PySem PySem.Spec PyProof.Rows L2 G
/-! lists of the heap, as they are made and read -/
section
variable {Γ : GM} {cs : Nat → Option D} {h : AH} {X : EX → AH → Prop}
/-- a comprehension whose items are new objects of the heap -/
theorem lc_newL {α : Type} {g : Nat} {E : Ev → AH → (VV → AH → Prop) → Prop} {guard : AH → Prop} {Q : List D → AH → Prop} {env : Ev} (hg : ∀ u, guard (h ++ u)) {f0 : α → D} (ob : α → AO) {ns : List α} (hl : ns.length ≤ sizeLine)
    (hs : ∀ x ∈ ns, ∀ u, ∀ Q : VV → AH → Prop, Q (.d (.ref (h ++ u).length)) ((h ++ u) ++ [ob x]) → E (env.set g (some (.val (f0 x)))) (h ++ u) Q) (q : Q ((List.range' h.length ns.length).map .ref) (h ++ ns.map ob)) :
    lcW guard env (.nm g) (fun env' h Q => wpTs Γ cs .nil env' h Q fun _ _ => False) E (ns.map f0) [] h Q := by
  have key : ∀ (ys : List α) (u : AH) (acc : List D), acc.length + ys.length ≤ sizeLine → (∀ y ∈ ys, y ∈ ns) → Q (acc ++ (List.range' (h ++ u).length ys.length).map .ref) ((h ++ u) ++ ys.map ob) →
      lcW guard env (.nm g) (fun env' h Q => wpTs Γ cs .nil env' h Q fun _ _ => False) E (ys.map f0) acc (h ++ u) Q := by
    intro ys
    induction ys with
    | nil => intro u acc _ _ q; exact ⟨hg u, by simpa using q⟩
    | cons y ys ih =>
      intro u acc l m q
      refine ⟨hg u, g_nm (w_tsnil ?_)⟩
      rw [if_pos rfl]
      refine hs y (m y (by simp)) u _ ⟨_, rfl, by simp at l; omega, ?_⟩
      have e : (h ++ u) ++ [ob y] = h ++ (u ++ [ob y]) := List.append_assoc ..
      rw [e]
      refine ih (u ++ [ob y]) _ (by simp at l ⊢; omega) (fun z hz => m z (by simp [hz])) ?_
      have e1 : (h ++ (u ++ [ob y])).length = (h ++ u).length + 1 := by simp; omega
      have e2 : (h ++ (u ++ [ob y])) ++ ys.map ob = (h ++ u) ++ (y :: ys).map ob := by simp
      rw [e1, e2, List.append_assoc]
      rw [List.length_cons, List.range'_succ] at q
      simpa using q
  have := key ns [] [] (by simpa using hl) (fun _ h => h) (by simpa using q)
  simpa using this
/-- a comprehension whose items are some of a kind -/
theorem lc_someL {α β : Type} {g : Nat} {E : Ev → AH → (VV → AH → Prop) → Prop} {guard : AH → Prop} {Q : List D → AH → Prop} {env : Ev} (hg : guard h) {f0 : α → D} (f1 : β → D) (P : β → Prop) {ns : List α} (hl : ns.length ≤ sizeLine)
    (hs : ∀ x ∈ ns, ∀ Q : VV → AH → Prop, (∀ y, P y → Q (.d (f1 y)) h) → E (env.set g (some (.val (f0 x)))) h Q) (q : ∀ ys : List β, ys.length = ns.length → (∀ y ∈ ys, P y) → Q (ys.map f1) h) :
    lcW guard env (.nm g) (fun env' h Q => wpTs Γ cs .nil env' h Q fun _ _ => False) E (ns.map f0) [] h Q := by
  have key : ∀ (xs : List α) (acc : List β), acc.length + xs.length ≤ sizeLine → (∀ x ∈ xs, x ∈ ns) → (∀ y ∈ acc, P y) → (∀ ys : List β, ys.length = acc.length + xs.length → (∀ y ∈ ys, P y) → Q (ys.map f1) h) →
      lcW guard env (.nm g) (fun env' h Q => wpTs Γ cs .nil env' h Q fun _ _ => False) E (xs.map f0) (acc.map f1) h Q := by
    intro xs
    induction xs with
    | nil => intro acc _ _ hp q; exact ⟨hg, q acc (by simp) hp⟩
    | cons x xs ih =>
      intro acc l m hp q
      refine ⟨hg, g_nm (w_tsnil ?_)⟩
      rw [if_pos rfl]
      refine hs x (m x (by simp)) _ fun y hy => ⟨_, rfl, by simp at l ⊢; omega, ?_⟩
      have e : acc.map f1 ++ [f1 y] = (acc ++ [y]).map f1 := by simp
      rw [e]
      exact ih (acc ++ [y]) (by simp at l ⊢; omega) (fun z hz => m z (by simp [hz])) (fun z hz => by
        rcases List.mem_append.mp hz with hz | hz
        · exact hp z hz
        · simp at hz; subst hz; exact hy) (fun ys h1 h2 => q ys (by simp at h1 ⊢; omega) h2)
  exact key ns [] (by simpa using hl) (fun _ h => h) (by simp) (fun ys h1 h2 => q ys (by simpa using h1) h2)
theorem lc_rgs {β : Type} {g : Nat} {E : Ev → AH → (VV → AH → Prop) → Prop} {guard : AH → Prop} {Q : List D → AH → Prop} {env : Ev} (hg : guard h) (f1 : β → D) (P : β → Prop) {n : Nat} (hl : n ≤ sizeLine)
    (hs : ∀ j, j < n → ∀ Q : VV → AH → Prop, (∀ y, P y → Q (.d (f1 y)) h) → E (env.set g (some (.val (.int (j : Int))))) h Q) (q : ∀ ys : List β, ys.length = n → (∀ y ∈ ys, P y) → Q (ys.map f1) h) :
    lcW guard env (.nm g) (fun env' h Q => wpTs Γ cs .nil env' h Q fun _ _ => False) E (rgD 0 n) [] h Q := by
  rw [rgD0]
  exact lc_someL hg f1 P (by simpa using hl) (fun x hx => hs x (by simpa using hx)) (fun ys h1 h2 => q ys (by simpa using h1) h2)
theorem x_ref {α : Type} {f : α → D} {ns : List α} {n j : Nat} {P : D → Prop} (e : h[n]? = some (.lst (ns.map f))) (hj : j < ns.length) (q : P (f (ns[j]'hj))) : ixW h (.d (.ref n)) (.d (.int (j : Int))) P :=
  .inl ⟨ns.map f, j, _, by show (h[n]?).bind AO.list = _; rw [e]; rfl, rfl, atI_nat (by rw [List.getElem?_map, List.getElem?_eq_getElem hj]; rfl), q⟩
theorem x_refD {ds : List D} {n j : Nat} {v : D} {P : D → Prop} (e : h[n]? = some (.lst ds)) (hj : ds[j]? = some v) (q : P v) : ixW h (.d (.ref n)) (.d (.int (j : Int))) P :=
  .inl ⟨ds, j, v, by show (h[n]?).bind AO.list = _; rw [e]; rfl, rfl, atI_nat hj, q⟩
theorem s_ref {n : Nat} {xs : List D} {P : List D → Prop} (e : h[n]? = some (.lst xs)) (q : P xs) : ∃ ys, (VV.d (.ref n)).seq h = some ys ∧ P ys := ⟨xs, by show (h[n]?).bind AO.list = _; rw [e]; rfl, q⟩
theorem v_ref {cp : Bool} {n : Nat} {xs : List D} {P : List D → Prop} (e : h[n]? = some (.lst xs)) (q : P xs) : (cp = true ∨ ∀ o, VV.d (.ref n) ≠ .tw o) ∧ ∃ ys, (VV.d (.ref n)).seq h = some ys ∧ P ys := ⟨.inr (by intro _ e; cases e), xs, by show (h[n]?).bind AO.list = _; rw [e]; rfl, q⟩
theorem e_ref {n : Nat} {xs : List D} {P : List D → Prop} {R : Prop} (e : h[n]? = some (.lst xs)) (q : P xs) : (∃ ys, (VV.d (.ref n)).seq h = some ys ∧ P ys) ∨ R := .inl (s_ref e q)
theorem i_ref {n : Nat} {xs : List D} {P : D → Prop} (e : h[n]? = some (.lst xs)) (q : P (.int xs.length)) : biW .len h [.d (.ref n)] P := ⟨xs.length, by show (h[n]?).bind AO.size = _; rw [e]; rfl, q⟩
end
theorem ixN_nat {n j : Nat} (h : j < n) : ixN n (j : Int) = some j := by
  unfold ixN
  rw [if_pos (by omega), if_pos (by omega)]
  simp
theorem w_joinH {Γ : GM} {cs : Nat → Option D} {a : CS} {r : CSs} {env : Ev} {h : AH} {rn : Ev → AH → Prop} {rt : RR → AH → Prop} {rb rc : Ev → AH → Prop} {rx : EX → Ev → AH → Prop} (P : Ev → AH → Prop) (hr : ∀ e h', P e h' → wpSs Γ cs r e h' ⟨rn, rt, rb, rc, rx⟩)
    (q : ∀ N : Ev → AH → Prop, (∀ e h', P e h' → N e h') → wpS Γ cs a env h ⟨N, rt, rb, rc, rx⟩) : wpSs Γ cs (.cons a r) env h ⟨rn, rt, rb, rc, rx⟩ := q _ hr
/-- rows of numbers in the heap, and the list of them -/
def rowO (r : List Nat) : AO := .lst (r.map fun (g : Nat) => D.int (g : Int))
def rfs (n m : Nat) : List D := (List.range' n m).map .ref
def rowsH (h : AH) (R : List (List Nat)) : AH := (h ++ R.map rowO) ++ [.lst (rfs h.length R.length)]
theorem rowsH_top {h : AH} {R : List (List Nat)} : (rowsH h R)[h.length + R.length]? = some (.lst (rfs h.length R.length)) := by
  unfold rowsH
  rw [List.getElem?_append_right (by simp)]
  simp
theorem rowsH_row {h : AH} {R : List (List Nat)} {i : Nat} (hi : i < R.length) : (rowsH h R)[h.length + i]? = some (.lst ((R[i]).map fun (g : Nat) => D.int (g : Int))) := by
  unfold rowsH
  rw [List.getElem?_append_left (by simp; omega), List.getElem?_append_right (by omega), Nat.add_sub_cancel_left, List.getElem?_map, List.getElem?_eq_getElem hi]
  rfl
theorem rfs_at {n m i : Nat} (hi : i < m) : (rfs n m)[i]? = some (.ref (n + i)) := by
  unfold rfs
  rw [List.getElem?_map, List.getElem?_range' hi]; simp
theorem rowsH_set {h : AH} {R : List (List Nat)} {i : Nat} {r : List Nat} (hi : i < R.length) : (rowsH h R).set (h.length + i) (.lst (r.map fun (g : Nat) => D.int (g : Int))) = rowsH h (R.set i r) := by
  unfold rowsH
  rw [List.set_append_left _ _ (by simp; omega), List.set_append_right _ _ (by omega), Nat.add_sub_cancel_left, List.length_set]
  congr 2
  exact List.map_set.symm
theorem rowsH_map {h : AH} {R : List (List Nat)} {f : Nat → D} {g : List Nat → D} (e : ∀ i (hi : i < R.length), f (h.length + i) = g R[i]) : (List.range' h.length R.length).map f = R.map g := by
  refine List.ext_getElem (by simp) fun i hi hi' => ?_
  rw [List.getElem_map, List.getElem_map, List.getElem_range']
  simpa using e i (by simpa using hi)
end N55

namespace N55
open PySem PySem.Spec PyProof.Rows L2 G
/-! loops in which the heap changes -/
section
variable {Γ : GM} {cs : Nat → Option D} {X : EX → AH → Prop} {rn : Ev → AH → Prop} {rt : RR → AH → Prop} {rb rc : Ev → AH → Prop} {rx : EX → Ev → AH → Prop} {env : Ev} {h : AH}
theorem whl_indH {t : CT} {a : CSs} (W : Nat → Ev → AH → Prop) (m : Nat) (i : W m env h)
    (hs : ∀ m env h, W m env h → ∀ N : Ev → AH → Prop, (∀ m' e h', m' < m → W m' e h' → N e h') → wpT Γ cs t env h (fun k h' => if k = true then wpSs Γ cs a env h' ⟨N, rt, rn, N, rx⟩ else rn env h') (fun x h' => rx x env h')) : wpS Γ cs (.whl t a) env h ⟨rn, rt, rb, rc, rx⟩ :=
  ⟨W, ⟨m, i⟩, fun m e h' w => hs m e h' w _ fun m' _ _ l i' => ⟨m', l, i'⟩⟩
theorem for_rgHl {g : Nat} {B : Ev → AH → CEnds → Prop} {guard : AH → Prop} (hg : ∀ h', guard h') {lo : Int} {n : Nat} (I : Nat → Ev → AH → Prop) (i0 : I 0 env h) (h0 : ∀ env h', I n env h' → rn env h')
    (hs : ∀ (j : Nat) env h', j < n → I j env h' → ∀ N : Ev → AH → Prop, (∀ e h'', I (j + 1) e h'' → N e h'') → B (env.set g (some (.val (.int (lo + j))))) h' ⟨N, rt, rn, N, rx⟩) :
    forW guard (.nm g) B (rgD lo n) env h ⟨rn, rt, rb, rc, rx⟩ := by
  have key : ∀ (m j : Nat) env h', j + m = n → I j env h' → forW guard (.nm g) B ((List.range' j m).map fun (k : Nat) => D.int (lo + (k : Int))) env h' ⟨rn, rt, rb, rc, rx⟩ := by
    intro m
    induction m with
    | zero => intro j env h' e i; have : j = n := by omega
              subst this; exact ⟨hg h', h0 env h' i⟩
    | succ m ih => intro j env h' e i; exact ⟨hg h', hs j env h' (by omega) i _ fun e' h'' i' => ih (j + 1) e' h'' (by omega) i'⟩
  have := key n 0 env h (by omega) i0
  rwa [← List.range_eq_range'] at this
theorem for_rgH {g : Nat} {B : Ev → AH → CEnds → Prop} {guard : AH → Prop} (hg : ∀ h', guard h') {n : Nat} (I : Nat → Ev → AH → Prop) (i0 : I 0 env h) (h0 : ∀ env h', I n env h' → rn env h')
    (hs : ∀ (j : Nat) env h', j < n → I j env h' → ∀ N : Ev → AH → Prop, (∀ e h'', I (j + 1) e h'' → N e h'') → B (env.set g (some (.val (.int (j : Int))))) h' ⟨N, rt, rn, N, rx⟩) :
    forW guard (.nm g) B (rgD 0 n) env h ⟨rn, rt, rb, rc, rx⟩ :=
  for_rgHl hg I i0 h0 fun j e h' hj i N hN => by rw [Int.zero_add]; exact hs j e h' hj i N hN
theorem for_ixH {g : Nat} {B : Ev → AH → CEnds → Prop} {guard : AH → Prop} {xs : List D} (I : Nat → Ev → AH → Prop) (hg : ∀ j e h', I j e h' → guard h') (i0 : I 0 env h) (h0 : ∀ env h', I xs.length env h' → rn env h')
    (hs : ∀ (j : Nat) (hj : j < xs.length) env h', I j env h' → ∀ N : Ev → AH → Prop, (∀ e h'', I (j + 1) e h'' → N e h'') → B (env.set g (some (.val (xs[j]'hj)))) h' ⟨N, rt, rn, N, rx⟩) :
    forW guard (.nm g) B xs env h ⟨rn, rt, rb, rc, rx⟩ := by
  have key : ∀ (m j : Nat) env h', j + m = xs.length → I j env h' → forW guard (.nm g) B (xs.drop j) env h' ⟨rn, rt, rb, rc, rx⟩ := by
    intro m
    induction m with
    | zero => intro j env h' e i; have : j = xs.length := by omega
              subst this; rw [List.drop_length]; exact ⟨hg _ _ _ i, h0 env h' i⟩
    | succ m ih =>
      intro j env h' e i
      have hj : j < xs.length := by omega
      rw [List.drop_eq_getElem_cons hj]; exact ⟨hg _ _ _ i, hs j hj env h' i _ fun e' h'' i' => ih (j + 1) e' h'' (by omega) i'⟩
  exact key xs.length 0 env h (by omega) i0
theorem top_at {h : AH} {o : AO} : (h ++ [o])[h.length]? = some o := by simp
theorem top_set {h : AH} {o o' : AO} : (h ++ [o]).set h.length o' = h ++ [o'] := by simp
end
end N55

namespace N55
open PySem PySem.Spec PyProof.Rows L2 G
/-! plain: a walk of a graph, breadth first, with the words that lead to the nodes -/
section
variable {α : Type} [DecidableEq α] (st : α → Nat → α) (l : Nat)
def gw (s : α) (w : List Nat) : α := w.foldl st s
def gAdd (row : List (α × List Nat)) (p : α × List Nat) : List (α × List Nat) := if p.1 ∈ row.map (·.1) then row else row ++ [p]
def gIn (x : α) (w : List Nat) : List (α × List Nat) → List Nat → List (α × List Nat)
  | row, [] => row
  | row, c :: cs => gIn x w (gAdd row (st x c, w ++ [c])) cs
def gOut : Nat → List (α × List Nat) → Nat → List (α × List Nat)
  | 0, row, _ => row
  | f + 1, row, a => match row[a]? with
    | some p => gOut f (gIn st p.1 p.2 row (List.range l)) (a + 1)
    | none => row
def gAll (N : Nat) (s : α) : List (α × List Nat) := gOut st l N [(s, [])] 0
theorem gOut_end {row : List (α × List Nat)} {a : Nat} (h : row.length ≤ a) : ∀ m, gOut st l m row a = row
  | 0 => rfl
  | m + 1 => by unfold gOut; rw [List.getElem?_eq_none h]
theorem gOut_step {row : List (α × List Nat)} {a m : Nat} (h : a < row.length) : gOut st l (m + 1) row a = gOut st l m (gIn st (row[a]).1 (row[a]).2 row (List.range l)) (a + 1) := by
  conv => lhs; unfold gOut
  rw [List.getElem?_eq_getElem h]
variable {st} {l}
theorem gw_app {s : α} {w : List Nat} {c : Nat} : gw st s (w ++ [c]) = st (gw st s w) c := by simp [gw]
structure GB (st : α → Nat → α) (l : Nat) (V : α → Prop) (s : α) (row : List (α × List Nat)) : Prop where
  nd : (row.map (·.1)).Nodup
  run : ∀ p ∈ row, gw st s p.2 = p.1 ∧ (∀ c ∈ p.2, c < l) ∧ V p.1
  pw : (row.map (·.2)).Pairwise slt
  hd : row.head? = some (s, [])
  len : ∀ (i : Nat) (p : α × List Nat), row[i]? = some p → p.2.length ≤ i
def GDone (st : α → Nat → α) (row : List (α × List Nat)) (p : α × List Nat) (c : Nat) : Prop := ∃ q ∈ row, q.1 = st p.1 c ∧ sle q.2 (p.2 ++ [c])
theorem GDone.more {row : List (α × List Nat)} {p u : α × List Nat} {c : Nat} (h : GDone st row p c) : GDone st (row ++ [u]) p c := by
  obtain ⟨v, m, a, b⟩ := h
  exact ⟨v, by simp [m], a, b⟩
structure GO (st : α → Nat → α) (l : Nat) (V : α → Prop) (s : α) (row : List (α × List Nat)) (a : Nat) : Prop where
  b : GB st l V s row
  done : ∀ (i : Nat) (p : α × List Nat), i < a → row[i]? = some p → ∀ c, c < l → GDone st row p c
  up : ∀ p, row[a]? = some p → ∀ q ∈ row, slt q.2 (p.2 ++ [0])
structure GI (st : α → Nat → α) (l : Nat) (V : α → Prop) (s : α) (row : List (α × List Nat)) (a : Nat) (p : α × List Nat) (c : Nat) : Prop where
  b : GB st l V s row
  at' : row[a]? = some p
  done : ∀ (i : Nat) (p : α × List Nat), i < a → row[i]? = some p → ∀ c, c < l → GDone st row p c
  cur : ∀ c', c' < c → GDone st row p c'
  up : ∀ q ∈ row, slt q.2 (p.2 ++ [c])
variable {V : α → Prop} {s : α}
theorem GO.inn {row : List (α × List Nat)} {a : Nat} {p : α × List Nat} (o : GO st l V s row a) (e : row[a]? = some p) : GI st l V s row a p 0 :=
  ⟨o.b, e, o.done, fun _ h => by omega, o.up p e⟩
theorem GI.out {row : List (α × List Nat)} {a : Nat} {p : α × List Nat} (i : GI st l V s row a p l) : GO st l V s row (a + 1) := by
  refine ⟨i.b, fun j u hj e c hc => ?_, fun u e v hv => ?_⟩
  · rcases Nat.lt_or_ge j a with h | h
    · exact i.done j u h e c hc
    · have : j = a := by omega
      subst this
      rw [i.at'] at e
      cases e
      exact i.cur c hc
  · have hp := List.pairwise_iff_getElem.mp i.b.pw
    obtain ⟨h1, e1⟩ := List.getElem?_eq_some_iff.mp i.at'
    obtain ⟨h2, e2⟩ := List.getElem?_eq_some_iff.mp e
    have := hp a (a + 1) (by simpa using h1) (by simpa using h2) (by omega)
    rw [List.getElem_map, List.getElem_map, e1, e2] at this
    exact slt_trans (i.up v hv) (slt_app _ _ this)
theorem GI.next (hV : ∀ x c, V x → c < l → V (st x c)) {row : List (α × List Nat)} {a c : Nat} {p : α × List Nat} (i : GI st l V s row a p c) (hc : c < l) : GI st l V s (gAdd row (st p.1 c, p.2 ++ [c])) a p (c + 1) := by
  have hp : p ∈ row := List.mem_of_getElem? i.at'
  obtain ⟨r1, r2, r3⟩ := i.b.run p hp
  obtain ⟨ha, _⟩ := List.getElem?_eq_some_iff.mp i.at'
  unfold gAdd
  split
  · rename_i hin
    obtain ⟨q, hq, eq⟩ := List.mem_map.mp hin
    refine ⟨i.b, i.at', i.done, fun c' hc' => ?_, fun u hu => slt_trans (i.up u hu) (slt_last p.2 (by omega))⟩
    rcases Nat.lt_or_ge c' c with h | h
    · exact i.cur c' h
    · have : c' = c := by omega
      subst this
      exact ⟨q, hq, eq, .inl (i.up q hq)⟩
  · rename_i hn
    refine ⟨⟨?_, fun q hq => ?_, ?_, ?_, fun j u eu => ?_⟩, ?_, fun j u hj eu d hd => ?_, fun d hd => ?_, fun u hu => ?_⟩
    · rw [List.map_append, List.nodup_append]
      exact ⟨i.b.nd, by simp, by rintro x hx y hy rfl; simp at hy; subst hy; exact hn hx⟩
    · rcases List.mem_append.mp hq with hq | hq
      · exact i.b.run q hq
      · simp at hq; subst hq
        refine ⟨by rw [gw_app, r1], fun d hd => ?_, hV _ _ r3 hc⟩
        rcases List.mem_append.mp hd with hd | hd
        · exact r2 d hd
        · simp at hd; omega
    · rw [List.map_append, List.pairwise_append]
      refine ⟨i.b.pw, by simp, fun u hu v hv => ?_⟩
      simp at hv; subst hv
      obtain ⟨q, hq, rfl⟩ := List.mem_map.mp hu
      exact i.up q hq
    · rw [List.head?_append, i.b.hd]; rfl
    · rcases Nat.lt_or_ge j row.length with h | h
      · rw [List.getElem?_append_left h] at eu; exact i.b.len j u eu
      · rw [List.getElem?_append_right h] at eu
        have : j - row.length = 0 := by
          rcases Nat.eq_zero_or_pos (j - row.length) with h | h
          · exact h
          · rw [List.getElem?_eq_none (by simp; omega)] at eu; cases eu
        rw [this] at eu
        simp at eu; subst eu
        have := i.b.len a p i.at'
        simp; omega
    · rw [List.getElem?_append_left ha]; exact i.at'
    · rw [List.getElem?_append_left (by omega)] at eu
      exact (i.done j u hj eu d hd).more
    · rcases Nat.lt_or_ge d c with h | h
      · exact (i.cur d h).more
      · have : d = c := by omega
        subst this
        exact ⟨(st p.1 d, p.2 ++ [d]), by simp, rfl, .inr rfl⟩
    · rcases List.mem_append.mp hu with hu | hu
      · exact slt_trans (i.up u hu) (slt_last p.2 (by omega))
      · simp at hu; subst hu
        exact slt_last p.2 (by omega)
theorem GO.start (hs : V s) : GO st l V s [(s, [])] 0 := by
  refine ⟨⟨by simp, fun p hp => ?_, by simp, rfl, fun i p e => ?_⟩, fun i p h => by omega, fun p e q hq => ?_⟩
  · simp at hp; subst hp; exact ⟨rfl, by simp, hs⟩
  · cases i with
    | zero => simp at e; subst e; simp
    | succ i => simp at e
  · simp at e hq; subst e; subst hq
    left; simp
theorem gIn_ok (hV : ∀ x c, V x → c < l → V (st x c)) {a : Nat} {p : α × List Nat} : ∀ (m c : Nat) {row : List (α × List Nat)}, c + m = l → GI st l V s row a p c → GI st l V s (gIn st p.1 p.2 row ((List.range l).drop c)) a p l
  | 0, c, row, e, i => by
    have : c = l := by omega
    subst this
    rw [List.drop_eq_nil_of_le (by simp)]
    exact i
  | m + 1, c, row, e, i => by
    rw [List.drop_eq_getElem_cons (by simp; omega), List.getElem_range]
    unfold gIn
    exact gIn_ok hV m (c + 1) (by omega) (i.next hV (by omega))
theorem gOut_ok (hV : ∀ x c, V x → c < l → V (st x c)) {N : Nat} (hN : ∀ L : List α, L.Nodup → (∀ x ∈ L, V x) → L.length ≤ N) : ∀ (m a : Nat) {row : List (α × List Nat)}, a + m = N → GO st l V s row a → GO st l V s (gOut st l m row a) (gOut st l m row a).length
  | 0, a, row, e, o => by
    have := hN (row.map (·.1)) o.b.nd (fun x hx => by obtain ⟨p, hp, rfl⟩ := List.mem_map.mp hx; exact (o.b.run p hp).2.2)
    rw [List.length_map] at this
    refine ⟨o.b, fun i p hi => o.done i p (by unfold gOut at hi; omega), fun p e => ?_⟩
    unfold gOut at e
    rw [List.getElem?_eq_none (by omega)] at e
    cases e
  | m + 1, a, row, e, o => by
    by_cases h : a < row.length
    · rw [gOut_step st l h]
      have i := gIn_ok hV l 0 (by omega) (o.inn (List.getElem?_eq_getElem h))
      rw [List.drop_zero] at i
      exact gOut_ok hV hN m (a + 1) (by omega) i.out
    · rw [gOut_end st l (by omega)]
      refine ⟨o.b, fun i p hi e => o.done i p (by omega) e, fun p e => ?_⟩
      rw [List.getElem?_eq_none (by omega)] at e
      cases e
theorem gAll_ok (hV : ∀ x c, V x → c < l → V (st x c)) {N : Nat} (hN : ∀ L : List α, L.Nodup → (∀ x ∈ L, V x) → L.length ≤ N) (hs : V s) : GO st l V s (gAll st l N s) (gAll st l N s).length := gOut_ok hV hN N 0 (by omega) (GO.start hs)
/-- each word leads to a node that stands there with a word that is no later -/
theorem GO.least {row : List (α × List Nat)} (o : GO st l V s row row.length) (u : List Nat) : ∀ (n : Nat), u.length = n → (∀ c ∈ u, c < l) → ∃ q ∈ row, q.1 = gw st s u ∧ sle q.2 u := by
  intro n
  induction n generalizing u with
  | zero =>
    intro hu _
    have : u = [] := List.length_eq_zero_iff.mp hu
    subst this
    exact ⟨(s, []), List.mem_of_mem_head? (by rw [o.b.hd]; rfl), rfl, .inr rfl⟩
  | succ n ih =>
    intro hu hc
    have hne : u ≠ [] := by intro h; subst h; simp at hu
    rw [← List.dropLast_concat_getLast hne] at hc ⊢
    generalize hd : u.dropLast = d at hc ⊢
    generalize u.getLast hne = x at hc ⊢
    obtain ⟨q, hq, e, sq⟩ := ih d (by subst hd; simp; omega) (fun c h => hc c (by simp [h]))
    obtain ⟨i, hi, ei⟩ := List.mem_iff_getElem.mp hq
    obtain ⟨v, hv, e', s'⟩ := o.done i q hi (by rw [List.getElem?_eq_getElem hi, ei]) x (hc x (by simp))
    exact ⟨v, hv, by rw [gw_app, e', e], sle_trans s' (sle_app x sq)⟩
end
/-! two houses, walked side by side -/
def pst (A B : Hs) (p : Nat × Nat) (c : Nat) : Nat × Nat := (nx A p.1 c, nx B p.2 c)
def pV (A B : Hs) (p : Nat × Nat) : Prop := p.1 < A.W.length ∧ p.2 < B.W.length
def met (A B : Hs) (s : Nat × Nat) : List ((Nat × Nat) × List Nat) := gAll (pst A B) A.l (A.W.length * B.W.length) s
theorem pV_st {A B : Hs} (oa : A.Ok) (ob : B.Ok) (hl : B.l = A.l) : ∀ x c, pV A B x → c < A.l → pV A B (pst A B x c) := fun x c h hc => ⟨nx_lt oa h.1 hc, nx_lt ob h.2 (by omega)⟩
theorem pV_card {A B : Hs} : ∀ L : List (Nat × Nat), L.Nodup → (∀ x ∈ L, pV A B x) → L.length ≤ A.W.length * B.W.length := by
  intro L hn hv
  have h := nodup_le (A.W.length * B.W.length) (L.map fun p => p.1 * B.W.length + p.2) (by
    refine List.pairwise_map.mpr (List.Pairwise.imp_of_mem (fun {p q} hp hq hne e => hne ?_) hn)
    have h1 := (hv p hp).2
    have h2 := (hv q hq).2
    have e1 : p.1 = q.1 := by
      have a1 : (p.1 * B.W.length + p.2) / B.W.length = p.1 := by rw [Nat.mul_comm, Nat.mul_add_div (by omega), Nat.div_eq_of_lt h1]; omega
      have a2 : (q.1 * B.W.length + q.2) / B.W.length = q.1 := by rw [Nat.mul_comm, Nat.mul_add_div (by omega), Nat.div_eq_of_lt h2]; omega
      rw [← a1, ← a2, e]
    have e2 : p.2 = q.2 := by rw [e1] at e; omega
    exact Prod.ext e1 e2) (fun x hx => by
    obtain ⟨p, hp, rfl⟩ := List.mem_map.mp hx
    obtain ⟨h1, h2⟩ := hv p hp
    have : (p.1 + 1) * B.W.length ≤ A.W.length * B.W.length := Nat.mul_le_mul_right _ (by omega)
    rw [Nat.add_mul] at this
    omega)
  rwa [List.length_map] at h
theorem met_go {A B : Hs} (oa : A.Ok) (ob : B.Ok) (hl : B.l = A.l) {s : Nat × Nat} (hs : pV A B s) : GO (pst A B) A.l (pV A B) s (met A B s) (met A B s).length := gAll_ok (pV_st oa ob hl) pV_card hs
theorem gw_pst {A B : Hs} : ∀ (w : List Nat) (s : Nat × Nat), gw (pst A B) s w = (wk A s.1 w, wk B s.2 w)
  | [], s => rfl
  | c :: w, s => gw_pst w (pst A B s c)
end N55

namespace N55
open PySem PySem.Spec PyProof.Rows L2 G
/-! plain: rooms that some word tells apart are told apart by a word of at most N - 2 letters -/
section
variable (st : Nat → Nat → Nat) (l N : Nat) (m : Nat → Int)
/-- the classes by words to length k -/
def mo : Nat → Nat → Nat
  | 0 => fun x => (num ((List.range N).map m)).getD x 0
  | k + 1 => fun x => (num ((List.range N).map fun y => (mo k y, (List.range l).map fun c => mo k (st y c)))).getD x 0
variable {st l N m}
theorem mo_0 {x y : Nat} (hx : x < N) (hy : y < N) : mo st l N m 0 x = mo st l N m 0 y ↔ m x = m y := num_inj m hx hy
theorem mo_s {k x y : Nat} (hx : x < N) (hy : y < N) : mo st l N m (k + 1) x = mo st l N m (k + 1) y ↔ mo st l N m k x = mo st l N m k y ∧ ∀ c, c < l → mo st l N m k (st x c) = mo st l N m k (st y c) := by
  refine (num_inj (fun y => (mo st l N m k y, (List.range l).map fun c => mo st l N m k (st y c))) hx hy).trans ?_
  rw [Prod.ext_iff]
  refine and_congr Iff.rfl ?_
  dsimp only
  rw [List.map_inj_left]
  simp
theorem mo_words (hst : ∀ x c, x < N → c < l → st x c < N) : ∀ (k : Nat) {x y : Nat}, x < N → y < N → (mo st l N m k x = mo st l N m k y ↔ ∀ w : List Nat, w.length ≤ k → (∀ c ∈ w, c < l) → m (gw st x w) = m (gw st y w))
  | 0, x, y, hx, hy => by
    rw [mo_0 hx hy]
    constructor
    · intro e w hw _
      have : w = [] := List.length_eq_zero_iff.mp (by omega)
      subst this
      exact e
    · exact fun h => h [] (by simp) (by simp)
  | k + 1, x, y, hx, hy => by
    rw [mo_s hx hy, mo_words hst k hx hy]
    constructor
    · rintro ⟨h1, h2⟩ w hw hl
      cases w with
      | nil => exact h1 [] (by simp) (by simp)
      | cons c w =>
        have hc := hl c (by simp)
        have := (mo_words hst k (hst x c hx hc) (hst y c hy hc)).mp (h2 c hc) w (by simp at hw; omega) (fun d hd => hl d (by simp [hd]))
        exact this
    · intro h
      refine ⟨fun w hw hl => h w (by omega) hl, fun c hc => (mo_words hst k (hst x c hx hc) (hst y c hy hc)).mpr fun w hw hl => ?_⟩
      exact h (c :: w) (by simp; omega) (fun d hd => by
        rcases List.mem_cons.mp hd with e | e
        · subst e; exact hc
        · exact hl d e)
def MStab (st : Nat → Nat → Nat) (l N : Nat) (m : Nat → Int) (k : Nat) : Prop := ∀ x y, x < N → y < N → mo st l N m k x = mo st l N m k y → mo st l N m (k + 1) x = mo st l N m (k + 1) y
theorem MStab.succ (hst : ∀ x c, x < N → c < l → st x c < N) {k : Nat} (s : MStab st l N m k) : MStab st l N m (k + 1) := by
  intro x y hx hy e
  refine (mo_s hx hy).mpr ⟨e, fun c hc => s _ _ (hst x c hx hc) (hst y c hy hc) (((mo_s hx hy).mp e).2 c hc)⟩
theorem MStab.more (hst : ∀ x c, x < N → c < l → st x c < N) {k : Nat} (s : MStab st l N m k) : ∀ j : Nat, MStab st l N m (k + j)
  | 0 => s
  | j + 1 => (s.more hst j).succ hst
theorem MStab.to (hst : ∀ x c, x < N → c < l → st x c < N) {k : Nat} (s : MStab st l N m k) {x y : Nat} (hx : x < N) (hy : y < N) (e : mo st l N m k x = mo st l N m k y) : ∀ j : Nat, mo st l N m (k + j) x = mo st l N m (k + j) y
  | 0 => e
  | j + 1 => (s.more hst j) x y hx hy (s.to hst hx hy e j)
theorem mo_grow : ∀ k : Nat, (∃ j, j < k ∧ MStab st l N m j) ∨ cn N (mo st l N m 0) + k ≤ cn N (mo st l N m k)
  | 0 => .inr (by simp)
  | k + 1 => by
    rcases mo_grow k with ⟨j, hj, s⟩ | h
    · exact .inl ⟨j, by omega, s⟩
    · have hc := cn_le (n := N) (f := mo st l N m k) (g := mo st l N m (k + 1)) (fun x y hx hy e => ((mo_s hx hy).mp e).1)
      by_cases hle : cn N (mo st l N m (k + 1)) ≤ cn N (mo st l N m k)
      · exact .inl ⟨k, by omega, fun x y hx hy e => hc.2 hle x y hx hy e⟩
      · exact .inr (by omega)
theorem cn_two {α : Type} [DecidableEq α] {n : Nat} (f : Nat → α) {x y : Nat} (hx : x < n) (hy : y < n) (ne : f x ≠ f y) : 2 ≤ cn n f := by
  have h1 := num_lt f hx
  have h2 := num_lt f hy
  have h3 : (num ((List.range n).map f)).getD x 0 ≠ (num ((List.range n).map f)).getD y 0 := fun e => ne ((num_inj f hx hy).mp e)
  omega
theorem gw_lt (hst : ∀ x c, x < N → c < l → st x c < N) : ∀ (w : List Nat) {x : Nat}, x < N → (∀ c ∈ w, c < l) → gw st x w < N
  | [], _, hx, _ => hx
  | c :: w, x, hx, h => gw_lt hst w (hst x c hx (h c (by simp))) (fun d hd => h d (by simp [hd]))
theorem moore (hst : ∀ x c, x < N → c < l → st x c < N) {x y : Nat} (hx : x < N) (hy : y < N) {u : List Nat} (hu : ∀ c ∈ u, c < l) (ne : m (gw st x u) ≠ m (gw st y u)) :
    ∃ w : List Nat, w.length + 2 ≤ N ∧ (∀ c ∈ w, c < l) ∧ m (gw st x w) ≠ m (gw st y w) := by
  have h1 := gw_lt hst u hx hu
  have h2 := gw_lt hst u hy hu
  have c0 : 2 ≤ cn N (mo st l N m 0) := cn_two _ h1 h2 (fun e => ne ((mo_0 h1 h2).mp e))
  obtain ⟨j, hj, s⟩ : ∃ j, j + 2 ≤ N ∧ MStab st l N m j := by
    rcases mo_grow (st := st) (l := l) (N := N) (m := m) (N - 1) with ⟨j, hj, s⟩ | h
    · exact ⟨j, by omega, s⟩
    · have := cn_n (n := N) (mo st l N m (N - 1))
      omega
  refine Classical.byContradiction fun hno => ne ?_
  have e := (mo_words hst (m := m) j hx hy).mpr fun w hw hl => Classical.byContradiction fun hn => hno ⟨w, by omega, hl, hn⟩
  exact (mo_words hst (m := m) (j + u.length) hx hy).mp (s.to hst hx hy e u.length) u (by omega) hu
end
end N55

namespace N55
open PySem PySem.Spec PyProof.Rows L2 G
/-! plain: the least word that tells two rooms apart -/
def mkA (H : Hs) (x : Nat) : Int := H.marks.getD x 0
def unlB (A B : Hs) (q : (Nat × Nat) × List Nat) : Bool := !decide (mkA A q.1.1 = mkA B q.1.2)
def unl (A B : Hs) (s : Nat × Nat) : Option (List Nat) := ((met A B s).find? (unlB A B)).map (·.2)
theorem mk_at {H : Hs} {x : Nat} (hx : x < H.marks.length) : H.marks[x] = mkA H x := by
  unfold mkA
  rw [List.getD_eq_getElem?_getD, List.getElem?_eq_getElem hx]; rfl
theorem sle_len {a b : List Nat} (h : sle a b) : a.length ≤ b.length := by
  rcases h with (h | h) | h
  · omega
  · omega
  · subst h; omega
section
variable {A B : Hs} (oa : A.Ok) (ob : B.Ok) (hl : B.l = A.l) {s : Nat × Nat} (hs : pV A B s)
include oa ob hl hs
theorem unl_none (e : unl A B s = none) {u : List Nat} (hu : ∀ c ∈ u, c < A.l) : mkA A (wk A s.1 u) = mkA B (wk B s.2 u) := by
  have o := met_go oa ob hl hs
  obtain ⟨q, hq, e1, _⟩ := o.least u _ rfl hu
  unfold unl at e
  rw [Option.map_eq_none_iff, List.find?_eq_none] at e
  have := e q hq
  rw [gw_pst] at e1
  unfold unlB at this
  rw [e1] at this
  simpa using this
theorem unl_some {w : List Nat} (e : unl A B s = some w) : (∀ c ∈ w, c < A.l) ∧ mkA A (wk A s.1 w) ≠ mkA B (wk B s.2 w) ∧ ∀ u : List Nat, (∀ c ∈ u, c < A.l) → mkA A (wk A s.1 u) ≠ mkA B (wk B s.2 u) → sle w u := by
  have o := met_go oa ob hl hs
  unfold unl at e
  obtain ⟨q, e1, rfl⟩ := Option.map_eq_some_iff.mp e
  obtain ⟨hq, i, hi, ei, hbef⟩ := List.find?_eq_some_iff_getElem.mp e1
  have hm : q ∈ met A B s := by rw [← ei]; exact List.getElem_mem hi
  obtain ⟨r1, r2, r3⟩ := o.b.run q hm
  rw [gw_pst] at r1
  refine ⟨r2, ?_, fun u hu hne => ?_⟩
  · unfold unlB at hq
    rw [← r1] at hq
    simpa using hq
  · obtain ⟨p, hp, e2, s2⟩ := o.least u _ rfl hu
    rw [gw_pst] at e2
    obtain ⟨j, hj, ej⟩ := List.mem_iff_getElem.mp hp
    refine sle_trans ?_ s2
    rcases Nat.lt_trichotomy j i with h | h | h
    · exfalso
      have := hbef j h
      rw [ej] at this
      unfold unlB at this
      rw [e2] at this
      simp at this
      exact hne this
    · subst h
      rw [← ej, ei]
      exact .inr rfl
    · have := List.pairwise_iff_getElem.mp o.b.pw i j (by simpa using hi) (by simpa using hj) h
      rw [List.getElem_map, List.getElem_map, ei, ej] at this
      exact .inl this
theorem unl_swap : unl B A (s.2, s.1) = unl A B s := by
  have hs' : pV B A (s.2, s.1) := ⟨hs.2, hs.1⟩
  cases e1 : unl A B s with
  | none =>
    cases e2 : unl B A (s.2, s.1) with
    | none => rfl
    | some v =>
      obtain ⟨v1, v2, _⟩ := unl_some ob oa hl.symm hs' e2
      exact (v2 (unl_none oa ob hl hs e1 (fun c hc => by have := v1 c hc; omega)).symm).elim
  | some w =>
    obtain ⟨w1, w2, w3⟩ := unl_some oa ob hl hs e1
    cases e2 : unl B A (s.2, s.1) with
    | none => exact (w2 (unl_none ob oa hl.symm hs' e2 (fun c hc => by have := w1 c hc; omega)).symm).elim
    | some v =>
      obtain ⟨v1, v2, v3⟩ := unl_some ob oa hl.symm hs' e2
      have h1 := w3 v (fun c hc => by have := v1 c hc; omega) (fun z => v2 z.symm)
      have h2 := v3 w (fun c hc => by have := w1 c hc; omega) (fun z => w2 z.symm)
      rw [sle_anti h1 h2]
end
theorem gw_nx {H : Hs} : ∀ (w : List Nat) (x : Nat), gw (nx H) x w = wk H x w
  | [], x => rfl
  | c :: w, x => gw_nx w (nx H x c)
/-- in one house: at most N - 2 letters -/
theorem unl_len1 {A : Hs} (oa : A.Ok) {s : Nat × Nat} (hs : pV A A s) {w : List Nat} (e : unl A A s = some w) : w.length + 2 ≤ A.W.length := by
  obtain ⟨w1, w2, w3⟩ := unl_some oa oa rfl hs e
  rw [← gw_nx, ← gw_nx] at w2
  obtain ⟨v, v1, v2, v3⟩ := moore (st := nx A) (l := A.l) (N := A.W.length) (m := mkA A) (fun x c hx hc => nx_lt oa hx hc) hs.1 hs.2 w1 w2
  rw [gw_nx, gw_nx] at v3
  have := sle_len (w3 v v2 v3)
  omega
def nx2 (A B : Hs) (x c : Nat) : Nat := if x < A.W.length then nx A x c else A.W.length + nx B (x - A.W.length) c
def mk2 (A B : Hs) (x : Nat) : Int := if x < A.W.length then mkA A x else mkA B (x - A.W.length)
theorem gw_nx2 {A B : Hs} (oa : A.Ok) (ob : B.Ok) (hl : B.l = A.l) : ∀ (w : List Nat) (x y : Nat), x < A.W.length → y < B.W.length → (∀ c ∈ w, c < A.l) → gw (nx2 A B) x w = wk A x w ∧ gw (nx2 A B) (A.W.length + y) w = A.W.length + wk B y w
  | [], x, y, _, _, _ => ⟨rfl, rfl⟩
  | c :: w, x, y, hx, hy, h => by
    have hc := h c (by simp)
    have i := gw_nx2 oa ob hl w (nx A x c) (nx B y c) (nx_lt oa hx hc) (nx_lt ob hy (by omega)) (fun d hd => h d (by simp [hd]))
    have e1 : nx2 A B x c = nx A x c := by unfold nx2; rw [if_pos hx]
    have e2 : nx2 A B (A.W.length + y) c = A.W.length + nx B y c := by
      unfold nx2
      rw [if_neg (by omega), Nat.add_sub_cancel_left]
    refine ⟨?_, ?_⟩
    · show gw (nx2 A B) (nx2 A B x c) w = _
      rw [e1]; exact i.1
    · show gw (nx2 A B) (nx2 A B (A.W.length + y) c) w = _
      rw [e2]; exact i.2
theorem unl_len2 {A B : Hs} (oa : A.Ok) (ob : B.Ok) (hl : B.l = A.l) {s : Nat × Nat} (hs : pV A B s) {w : List Nat} (e : unl A B s = some w) : w.length + 2 ≤ A.W.length + B.W.length := by
  obtain ⟨w1, w2, w3⟩ := unl_some oa ob hl hs e
  have hst : ∀ x c, x < A.W.length + B.W.length → c < A.l → nx2 A B x c < A.W.length + B.W.length := by
    intro x c hx hc
    unfold nx2
    split
    · have := nx_lt oa (x := x) (by assumption) hc; omega
    · have := nx_lt ob (x := x - A.W.length) (c := c) (by omega) (by omega); omega
  have key : ∀ u : List Nat, (∀ c ∈ u, c < A.l) → mk2 A B (gw (nx2 A B) s.1 u) = mkA A (wk A s.1 u) ∧ mk2 A B (gw (nx2 A B) (A.W.length + s.2) u) = mkA B (wk B s.2 u) := by
    intro u hu
    obtain ⟨e1, e2⟩ := gw_nx2 oa ob hl u s.1 s.2 hs.1 hs.2 hu
    have h1 := wk_lt oa (w := u) hs.1 hu
    rw [e1, e2]
    unfold mk2
    rw [if_pos h1, if_neg (by omega), Nat.add_sub_cancel_left]
    exact ⟨rfl, rfl⟩
  rw [← (key w w1).1, ← (key w w1).2] at w2
  have hs1 := hs.1
  have hs2 := hs.2
  obtain ⟨v, v1, v2, v3⟩ := moore (st := nx2 A B) (l := A.l) (N := A.W.length + B.W.length) (m := mk2 A B) hst (x := s.1) (y := A.W.length + s.2) (by omega) (by omega) w1 w2
  rw [(key v v2).1, (key v v2).2] at v3
  have := sle_len (w3 v v2 v3)
  omega
end N55

namespace N55
open PySem PySem.Spec PyProof.Rows L2 G
/-! sets of rows of numbers, as dicts -/
abbrev uD : Unit → D := fun _ => D.bl true
def setL (S : List (List Int)) : List (List Int × Unit) := S.map fun a => (a, ())
theorem setL_len {S : List (List Int)} : (setL S).length = S.length := by unfold setL; simp
theorem look_setL {S : List (List Int)} {a : List Int} : look (setL S) a = if a ∈ S then some () else none := by
  induction S with
  | nil => rfl
  | cons x S ih =>
    unfold setL at ih ⊢
    rw [List.map_cons, look_cons, ih]
    by_cases h : x = a
    · subst h; simp
    · have : ¬ a = x := fun e => h e.symm
      simp [h, this]
theorem setV_setL {S : List (List Int)} {a : List Int} (h : a ∉ S) : setV (setL S) a () = setL (S ++ [a]) := by
  unfold setV
  rw [look_setL]
  simp only [if_neg h, Option.isSome_none, Bool.false_eq_true, if_false]
  unfold setL
  rw [List.map_append]; rfl
end N55

namespace N55
open PySem PySem.Spec PyProof.Rows L2 G
def prD (p : Nat × Nat) : D := .tup [.int (p.1 : Int), .int (p.2 : Int)]
def mD (q : (Nat × Nat) × List Nat) : D := .tup [prD q.1, wD q.2]
def kp (p : Nat × Nat) : List Int := [(p.1 : Int), (p.2 : Int)]
def kq (q : (Nat × Nat) × List Nat) : List Int := kp q.1
theorem kp_inj {p q : Nat × Nat} (e : kp p = kp q) : p = q := by
  have e1 : ((p.1 : Nat) : Int) = (q.1 : Nat) := by injection e
  have e2 : [((p.2 : Nat) : Int)] = [((q.2 : Nat) : Int)] := by injection e
  injection e2 with e2
  exact Prod.ext (Int.ofNat.inj e1) (Int.ofNat.inj e2)
theorem kq_mem {row : List ((Nat × Nat) × List Nat)} {p : Nat × Nat} : kp p ∈ row.map kq ↔ p ∈ row.map (·.1) := by
  simp only [List.mem_map]
  constructor
  · rintro ⟨q, hq, e⟩
    exact ⟨q, hq, kp_inj e⟩
  · rintro ⟨q, hq, e⟩
    exact ⟨q, hq, by unfold kq; rw [e]⟩
theorem GB_len {A B : Hs} {s : Nat × Nat} {row : List ((Nat × Nat) × List Nat)} (b : GB (pst A B) A.l (pV A B) s row) : row.length ≤ A.W.length * B.W.length := by
  have := pV_card (A := A) (B := B) (row.map (·.1)) b.nd (fun x hx => by obtain ⟨p, hp, rfl⟩ := List.mem_map.mp hx; exact (b.run p hp).2.2)
  rwa [List.length_map] at this
end N55

namespace N55
open PySem PySem.Spec PyProof.Rows L2 G
section
variable {k : Nat} {ns : List Int} {h : AH} {Q : RR → AH → Prop} {X : EX → AH → Prop}
theorem met_ok {A B : Hs} (oa : A.Ok) (ob : B.Ok) (hl : B.l = A.l) {s : Nat × Nat} (hs : pV A B s) (q : Q (.mv (.lst ((met A B s).map mD))) h) : wpF T cv (k + 1) f_met_from [.d (hD A), .d (hD B), .d (prD s)] h Q X := by
  refine in_met_from ?_
  unfold b_met_from
  have a40 := oa.n40
  have b40 := ob.n40
  have a6 := oa.l6
  have hN : A.W.length * B.W.length ≤ 1600 := Nat.mul_le_mul a40 b40
  have hda : hD A = .tup [.int A.l, .tup (A.marks.map .int), .tup (A.W.map rowD)] := rfl
  have hdb : hD B = .tup [.int B.l, .tup (B.marks.map .int), .tup (B.W.map rowD)] := rfl
  rw [hda, hdb]
  walk_at "a"
  refine k_disp (f := uD) (a := kp s) (v := ()) ?_
  walk_at "s"
  walk_at "s"
  have hgo := met_go oa ob hl hs
  have hst : GO (pst A B) A.l (pV A B) s [(s, [])] 0 := GO.start hs
  refine w_sscons (whl_ind (fun m e => ∃ (row : List ((Nat × Nat) × List Nat)) (a : Nat) (s6 s7 s8 : Option Sl), GO (pst A B) A.l (pV A B) s row a ∧ a ≤ row.length ∧ a + m = A.W.length * B.W.length ∧ gOut (pst A B) A.l m row a = met A B s ∧
    e = [some (.val (.tup [.int A.l, .tup (A.marks.map .int), .tup (A.W.map rowD)])), some (.val (.tup [.int B.l, .tup (B.marks.map .int), .tup (B.W.map rowD)])), some (.val (prD s)), some (.own (listKey.ob uD (setL (row.map kq)))), some (.own (.lst (row.map mD))), some (.val (.int (a : Int))), s6, s7, s8])
    (A.W.length * B.W.length) ⟨[(s, [])], 0, none, none, none, hst, by simp, by omega, rfl, rfl⟩ ?_)
  rintro m e ⟨row, a, s6, s7, s8, go, ha, hm, hg, rfl⟩ N0 hN0
  have hrl := GB_len go.b
  walk_at "a"
  refine ite_p (fun hc => ?_) (fun hc => ?_)
  rotate_left
  · walk_at "a"
    rw [gOut_end _ _ (by omega)] at hg
    subst hg
    exact q
  have hal : a < row.length := by omega
  obtain ⟨m, rfl⟩ : ∃ m', m = m' + 1 := ⟨m - 1, by omega⟩
  rw [gOut_step _ _ hal] at hg
  have hp := go.b.run _ (List.getElem_mem hal)
  have hpl := go.b.len a _ (List.getElem?_eq_getElem hal)
  have hgi := go.inn (List.getElem?_eq_getElem hal)
  generalize hP : row[a] = P at hg hp hpl hgi
  obtain ⟨⟨x, y⟩, w⟩ := P
  obtain ⟨hp1, hp2, hp3, hp4⟩ := hp
  dsimp only at hp1 hp2 hp3 hp4 hpl hg
  have hra := oa.row _ (List.getElem_mem hp3)
  have hrb := ob.row _ (List.getElem_mem hp4)
  generalize hR : gIn (pst A B) (x, y) w row (List.range A.l) = R at hg
  walk_at "s"
  refine x_tw hal ?_
  rw [hP, show mD ((x, y), w) = .tup [.tup [.int (x : Int), .int (y : Int)], wD w] from rfl]
  walk_at "s"
  refine for_rg0 (n := (A.l : Int).toNat) (by exact trivial) (fun c e => ∃ (row' : List ((Nat × Nat) × List Nat)) (s7 s8 : Option Sl), GI (pst A B) A.l (pV A B) s row' a ((x, y), w) c ∧ gIn (pst A B) (x, y) w row' ((List.range A.l).drop c) = R ∧
    e = [some (.val (.tup [.int A.l, .tup (A.marks.map .int), .tup (A.W.map rowD)])), some (.val (.tup [.int B.l, .tup (B.marks.map .int), .tup (B.W.map rowD)])), some (.val (prD s)), some (.own (listKey.ob uD (setL (row'.map kq)))), some (.own (.lst (row'.map mD))), some (.val (.int (a : Int))), some (.val (.tup [.int (x : Int), .int (y : Int)])), s7, s8])
    ⟨row, _, _, hgi, hR, rfl⟩ ?_ ?_
  · rintro e ⟨row', s7, s8, gi, hR, rfl⟩
    have hc' : ((A.l : Int).toNat) = A.l := by omega
    rw [hc'] at gi hR
    rw [List.drop_eq_nil_of_le (by simp)] at hR
    unfold gIn at hR
    subst hR
    have := (List.getElem?_eq_some_iff.mp gi.at').1
    walk_at "a"
    exact hN0 m _ (by omega) ⟨row', a + 1, _, _, _, gi.out, by omega, by omega, hg, rfl⟩
  rintro c e hc' ⟨row', s7, s8, gi, hR, rfl⟩ N1 hN1
  have hc' : c < A.l := by omega
  rw [List.drop_eq_getElem_cons (by simpa using hc'), List.getElem_range] at hR
  unfold gIn at hR
  have gn := gi.next (pV_st oa ob hl) hc'
  have hrl' := GB_len gi.b
  obtain ⟨hal', hat⟩ := List.getElem?_eq_some_iff.mp gi.at'
  have ea : (A.W[x])[c]'(by omega) = nx A x c := nx_eq hp3 (by omega)
  have eb : (B.W[y])[c]'(by omega) = nx B y c := nx_eq hp4 (by omega)
  walk_at "s"
  refine x_tup (f := rowD) hp3 ?_
  unfold rowD
  walk_at "a"
  refine x_tup (ns := A.W[x]) (by omega) ?_
  rw [ea]
  walk_at "a"
  refine x_tup hp4 ?_
  walk_at "a"
  refine x_tup (ns := B.W[y]) (by omega) ?_
  rw [eb]
  walk_at "a"
  refine k_notIn (T := listKey) (a := kp (nx A x c, nx B y c)) ?_
  walk_at "a"
  rw [look_setL]
  unfold gAdd at hR gn
  have epst : pst A B ((x, y), w).1 c = (nx A x c, nx B y c) := rfl
  have epst2 : pst A B (x, y) c = (nx A x c, nx B y c) := rfl
  rw [epst] at gn
  rw [epst2] at hR
  by_cases hm : (nx A x c, nx B y c) ∈ row'.map (·.1)
  · rw [if_pos (kq_mem.mpr hm)]
    rw [if_pos hm] at hR gn
    refine ite_f ?_
    walk_at "a"
    exact hN1 _ ⟨row', _, _, gn, hR, rfl⟩
  · rw [if_neg (fun z => hm (kq_mem.mp z))]
    rw [if_neg hm] at hR gn
    refine ite_t ?_
    walk_at "a"
    refine k_put (T := listKey) (f := uD) (a := kp (nx A x c, nx B y c)) (v := ()) (sz (by rw [setL_len]; simp; omega)) ?_
    rw [setV_setL (fun z => hm (kq_mem.mp z))]
    walk_at "a"
    refine x_tw hal' ?_
    rw [hat, show mD ((x, y), w) = .tup [.tup [.int (x : Int), .int (y : Int)], .tup (w.map fun (g : Nat) => D.int (g : Int))] from rfl]
    walk_at "a"
    refine b_addT (szl (by simp; omega)) ?_
    walk_at "a"
    refine ⟨sz (by simp; omega), ?_⟩
    have e1 : D.tup ((w.map fun (g : Nat) => D.int (g : Int)) ++ [D.int (c : Nat)]) = wD (w ++ [c]) := by unfold wD; rw [List.map_append]; rfl
    rw [e1]
    have e2 : setL (row'.map kq ++ [kp (nx A x c, nx B y c)]) = setL ((row' ++ [((nx A x c, nx B y c), w ++ [c])]).map kq) := by rw [List.map_append]; rfl
    have e3 : row'.map mD ++ [D.tup [.tup [.int (nx A x c : Nat), .int (nx B y c : Nat)], wD (w ++ [c])]] = (row' ++ [((nx A x c, nx B y c), w ++ [c])]).map mD := by rw [List.map_append]; rfl
    rw [e2, e3]
    exact hN1 _ ⟨_, _, _, gn, hR, rfl⟩
end
end N55

namespace N55
open PySem PySem.Spec PyProof.Rows L2 G
def oW : Option (List Nat) → D
  | none => .non
  | some w => wD w
theorem fla_wD (w : List Nat) (n : Nat) : (wD w).fla (n + 1) = true := fla_tup (flas_map fun _ _ => fla_int)
section
variable {k : Nat} {ns : List Int} {h : AH} {Q : RR → AH → Prop} {X : EX → AH → Prop}
theorem unlike_ok {A B : Hs} (oa : A.Ok) (ob : B.Ok) (hl : B.l = A.l) {s : Nat × Nat} (hs : pV A B s) (q : Q (.d (oW (unl A B s))) h) : wpF T cv (k + 2) f_unlike_from [.d (hD A), .d (hD B), .d (prD s)] h Q X := by
  refine in_unlike_from ?_
  unfold b_unlike_from
  have am := oa.mkl
  have bm := ob.mkl
  have go := met_go oa ob hl hs
  have hda : hD A = .tup [.int A.l, .tup (A.marks.map .int), .tup (A.W.map rowD)] := rfl
  have hdb : hD B = .tup [.int B.l, .tup (B.marks.map .int), .tup (B.W.map rowD)] := rfl
  walk_at "a"
  refine met_ok oa ob hl hs ?_
  walk_at "a"
  rw [hda, hdb]
  refine for_ix (by exact rfl) (fun j e => ∃ s3 : Option Sl, ((met A B s).drop j).find? (unlB A B) = (met A B s).find? (unlB A B) ∧ e = [some (.val (.tup [.int A.l, .tup (A.marks.map .int), .tup (A.W.map rowD)])), some (.val (.tup [.int B.l, .tup (B.marks.map .int), .tup (B.W.map rowD)])), some (.val (prD s)), s3]) ⟨none, rfl, rfl⟩ ?_ ?_
  · rintro e ⟨s3, hf, rfl⟩
    rw [List.length_map, List.drop_length] at hf
    walk_at "a"
    have : unl A B s = none := by unfold unl; rw [← hf]; rfl
    rw [this] at q
    exact q
  rintro j hj e ⟨s3, hf, rfl⟩ N hN
  rw [List.length_map] at hj
  rw [List.getElem_map]
  have hm := go.b.run _ (List.getElem_mem hj)
  rw [List.drop_eq_getElem_cons hj, List.find?_cons] at hf
  generalize hP : (met A B s)[j] = P at hm hf
  obtain ⟨⟨x, y⟩, w⟩ := P
  obtain ⟨_, _, hx, hy⟩ := hm
  dsimp only at hx hy
  rw [show mD ((x, y), w) = .tup [.tup [.int (x : Int), .int (y : Int)], wD w] from rfl]
  walk_at "a"
  refine x_tup (ns := A.marks) (j := x) (by omega) ?_
  walk_at "a"
  refine x_tup (ns := B.marks) (j := y) (by omega) ?_
  rw [mk_at, mk_at]
  walk_at "a"
  unfold unlB at hf
  refine ite_n (fun hne => ?_) (fun heq => ?_)
  · walk_at "a"
    have h1 : (!decide (mkA A x = mkA B y)) = true := by simpa using hne
    have : unl A B s = some w := by
      unfold unl
      rw [show (met A B s).find? (unlB A B) = _ from hf.symm]
      dsimp only
      rw [h1]; rfl
    rw [this] at q
    exact q
  · walk_at "a"
    refine hN _ ⟨_, ?_, rfl⟩
    have h1 : (!decide (mkA A x = mkA B y)) = false := by simpa using heq
    dsimp only at hf
    rw [h1] at hf
    exact hf
end
end N55

namespace N55
open PySem PySem.Spec PyProof.Rows L2 G
section
variable {k : Nat} {ns : List Int} {h : AH} {Q : RR → AH → Prop} {X : EX → AH → Prop}
theorem isw_ok {w : List Nat} {l : Nat} (hw : ∀ c ∈ w, c < l) (q : Q (.d (.bl true)) h) : wpF T cv (k + 1) f_is_word [.d (.int l), .d (wD w)] h Q X := by
  refine in_is_word ?_
  unfold b_is_word wD
  walk_at "a"
  refine for_ix (by exact rfl) (fun _ e => ∃ s2 : Option Sl, e = [some (.val (.int l)), some (.val (.tup (w.map fun (g : Nat) => D.int (g : Int)))), s2]) ⟨none, rfl⟩ ?_ ?_
  · rintro e ⟨s2, rfl⟩
    walk_at "a"
    exact q
  · rintro j hj e ⟨s2, rfl⟩ N hN
    rw [List.length_map] at hj
    rw [List.getElem_map]
    have := hw _ (List.getElem_mem hj)
    walk_at "b"
    · omega
    · omega
    · exact hN _ ⟨_, rfl⟩
theorem trail_ok {H : Hs} (ok : H.Ok) {w : List Nat} (hl : w.length ≤ 1000) (hw : ∀ c ∈ w, c < H.l) (q : Q (.mv (.lst (((List.range (w.length + 1)).map fun i => wk H 0 (w.take i)).map fun (g : Nat) => D.int (g : Int)))) h) :
    wpF T cv (k + 2) f_trail [.d (hD H), .d (wD w)] h Q X := by
  refine in_trail ?_
  unfold b_trail
  have hd : hD H = .tup [.int H.l, .tup (H.marks.map .int), .tup (H.W.map rowD)] := rfl
  rw [hd]
  walk_at "a"
  refine isw_ok hw ?_
  walk_at "a"
  rw [← hd, show wD w = .tup (w.map fun (g : Nat) => D.int (g : Int)) from rfl]
  walk_at "a"
  refine for_ix (by exact rfl) (fun j e => ∃ s3 : Option Sl, e = [some (.val (hD H)), some (.val (wD w)), some (.own (.lst (((List.range (j + 1)).map fun i => wk H 0 (w.take i)).map fun (g : Nat) => D.int (g : Int)))), s3]) ⟨none, rfl⟩ ?_ ?_
  · rintro e ⟨s3, rfl⟩
    rw [List.length_map]
    walk_at "a"
    exact q
  rintro j hj e ⟨s3, rfl⟩ N hN
  rw [List.length_map] at hj
  rw [List.getElem_map]
  have hx' := wk_lt ok (w := w.take j) ok.n1 (fun c hc => hw c (List.mem_of_mem_take hc))
  have hrw := (ok.row _ (List.getElem_mem hx')).1
  have hj' := hw _ (List.getElem_mem hj)
  rw [hd]
  walk_at "a"
  refine x_at (i := -1) (v := .int (wk H 0 (w.take j) : Nat)) rfl (atI_last ?_) ?_
  · rw [List.getLast?_eq_getElem?, List.length_map, List.length_map, List.length_range, List.getElem?_map, List.getElem?_map, List.getElem?_range (by omega)]
    rfl
  refine x_tup (f := rowD) hx' ?_
  rw [show rowD H.W[wk H 0 (w.take j)] = .tup ((H.W[wk H 0 (w.take j)]).map fun (g : Nat) => D.int (g : Int)) from rfl]
  walk_at "a"
  refine x_tup (by omega) ?_
  rw [nx_eq]
  refine ⟨_, rfl, sz (by simp; omega), ?_⟩
  rw [← hd]
  walk_at "a"
  refine hN _ ⟨some (.val (.int (w[j] : Nat))), ?_⟩
  have e1 : ((List.range (j + 1 + 1)).map fun i => wk H 0 (w.take i)) = ((List.range (j + 1)).map fun i => wk H 0 (w.take i)) ++ [nx H (wk H 0 (w.take j)) w[j]] := by
    rw [List.range_succ, List.map_append]
    simp only [List.map_cons, List.map_nil]
    rw [List.take_succ_eq_append_getElem hj, wk_app]
  rw [e1, List.map_append]
  rfl
theorem room_behind_ok {H : Hs} (ok : H.Ok) {w : List Nat} (hl : w.length ≤ 1000) (hw : ∀ c ∈ w, c < H.l) (q : Q (.d (.int (wk H 0 w : Nat))) h) : wpF T cv (k + 3) f_room_behind [.d (hD H), .d (wD w)] h Q X := by
  refine in_room_behind ?_
  unfold b_room_behind
  walk_at "a"
  refine trail_ok ok hl hw ?_
  walk_at "a"
  refine x_at (i := -1) (v := .int (wk H 0 w : Nat)) rfl (atI_last ?_) ?_
  · rw [List.getLast?_eq_getElem?, List.length_map, List.length_map, List.length_range, List.getElem?_map, List.getElem?_map, List.getElem?_range (by omega), Nat.add_sub_cancel]
    show some (D.int ((wk H 0 (w.take w.length) : Nat) : Int)) = _
    rw [List.take_length]
  exact ⟨_, rfl, q⟩
end
end N55

namespace N55
open PySem PySem.Spec PyProof.Rows L2 G
def col (H : Hs) (w : List Nat) (x : Nat) : Int := H.marks.getD (wk H x w) 0
theorem col_cons (H : Hs) (c : Nat) (w : List Nat) (x : Nat) : col H (c :: w) x = col H w (nx H x c) := rfl
theorem mk_col {H : Hs} {w : List Nat} (hx : wk H 0 w < H.marks.length) : H.marks[wk H 0 w] = col H w 0 := by
  unfold col
  rw [List.getD_eq_getElem?_getD, List.getElem?_eq_getElem hx]; rfl
end N55

namespace N55
open PySem PySem.Spec PyProof.Rows L2 G
/-- rooms of B stand for rooms of A -/
def Sim (A B : Hs) (p : Nat → Nat) : Prop := A.l = B.l ∧ p 0 = 0 ∧ ∀ x, x < B.W.length → p x < A.W.length ∧ A.marks.getD (p x) 0 = B.marks.getD x 0 ∧ A.W.getD (p x) [] = (B.W.getD x []).map p
theorem Sim.nx {A B : Hs} {p : Nat → Nat} (ob : B.Ok) (s : Sim A B p) {x c : Nat} (hx : x < B.W.length) (hc : c < B.l) : nx A (p x) c = p (nx B x c) := by
  obtain ⟨_, _, h⟩ := s
  have h3 := (h x hx).2.2
  have e1 : B.W.getD x [] = B.W[x] := by rw [List.getD_eq_getElem?_getD, List.getElem?_eq_getElem hx]; rfl
  have hl := (ob.row _ (List.getElem_mem hx)).1
  show (A.W.getD (p x) []).getD c 0 = p ((B.W.getD x []).getD c 0)
  rw [h3, e1, List.getD_eq_getElem?_getD, List.getElem?_map, List.getElem?_eq_getElem (by omega), List.getD_eq_getElem?_getD, List.getElem?_eq_getElem (by omega)]
  rfl
theorem Sim.wk {A B : Hs} {p : Nat → Nat} (ob : B.Ok) (s : Sim A B p) : ∀ (w : List Nat) {x : Nat}, x < B.W.length → (∀ c ∈ w, c < B.l) → N55.wk A (p x) w = p (N55.wk B x w)
  | [], x, _, _ => rfl
  | c :: w, x, hx, hw => by
    show N55.wk A (N55.nx A (p x) c) w = p (N55.wk B (N55.nx B x c) w)
    rw [s.nx ob hx (hw c (by simp))]
    exact s.wk ob w (nx_lt ob hx (hw c (by simp))) (fun d hd => hw d (by simp [hd]))
/-- they answer alike -/
theorem Sim.col {A B : Hs} {p : Nat → Nat} (ob : B.Ok) (s : Sim A B p) {w : List Nat} (hw : ∀ c ∈ w, c < B.l) : N55.col A w 0 = N55.col B w 0 := by
  have h := s.wk ob w ob.n1 hw
  rw [s.2.1] at h
  unfold N55.col
  rw [h]
  exact (s.2.2 _ (wk_lt ob ob.n1 hw)).2.1
end N55

namespace N55
open PySem PySem.Spec PyProof.Rows L2 G
/-! plain: orders of rooms, houses turned by them -/
structure OP (n : Nat) (o : List Nat) : Prop where
  len : o.length = n
  nd : o.Nodup
  lt : ∀ x ∈ o, x < n
  z : o.getD 0 0 = 0
theorem OP.mem {n : Nat} {o : List Nat} (p : OP n o) {j : Nat} (hj : j < n) : j ∈ o := by
  refine Classical.byContradiction fun hn => ?_
  have := nodup_le n (j :: o) (List.nodup_cons.mpr ⟨hn, p.nd⟩) fun x hx => by
    rcases List.mem_cons.mp hx with rfl | hx
    · exact hj
    · exact p.lt x hx
  rw [List.length_cons, p.len] at this
  omega
theorem OP.at' {n : Nat} {o : List Nat} (p : OP n o) {i : Nat} (hi : i < n) : o.getD i 0 = o[i]'(by rw [p.len]; exact hi) := by
  rw [List.getD_eq_getElem?_getD, List.getElem?_eq_getElem (by rw [p.len]; exact hi)]; rfl
theorem OP.atlt {n : Nat} {o : List Nat} (p : OP n o) {i : Nat} (hi : i < n) : o.getD i 0 < n := by
  rw [p.at' hi]; exact p.lt _ (List.getElem_mem _)
theorem OP.idx {n : Nat} {o : List Nat} (p : OP n o) {i : Nat} (hi : i < n) : o.idxOf (o.getD i 0) = i := by
  rw [p.at' hi]; exact p.nd.idxOf_getElem _ _
theorem OP.idxlt {n : Nat} {o : List Nat} (p : OP n o) {j : Nat} (hj : j < n) : o.idxOf j < n := by
  have := List.idxOf_lt_length_of_mem (p.mem hj)
  rwa [p.len] at this
theorem OP.of {n : Nat} {o : List Nat} (p : OP n o) {j : Nat} (hj : j < n) : o.getD (o.idxOf j) 0 = j := by
  rw [p.at' (p.idxlt hj)]; exact List.getElem_idxOf _
/-- the house with its rooms numbered anew -/
def turnH (H : Hs) (o : List Nat) : Hs := ⟨H.l, (List.range H.W.length).map fun j => H.marks.getD (o.idxOf j) 0, (List.range H.W.length).map fun j => (H.W.getD (o.idxOf j) []).map fun x => o.getD x 0⟩
theorem turnH_n {H : Hs} {o : List Nat} : (turnH H o).W.length = H.W.length := by unfold turnH; simp
theorem turnH_mk {H : Hs} {o : List Nat} {j : Nat} (hj : j < H.W.length) : (turnH H o).marks.getD j 0 = H.marks.getD (o.idxOf j) 0 := by
  unfold turnH
  dsimp only
  rw [List.getD_eq_getElem?_getD, List.getElem?_map, List.getElem?_range hj]; rfl
theorem turnH_W {H : Hs} {o : List Nat} {j : Nat} (hj : j < H.W.length) : (turnH H o).W.getD j [] = (H.W.getD (o.idxOf j) []).map fun x => o.getD x 0 := by
  unfold turnH
  dsimp only
  rw [List.getD_eq_getElem?_getD, List.getElem?_map, List.getElem?_range hj]; rfl
theorem W_atT {H : Hs} {x : Nat} (hx : x < H.W.length) : H.W.getD x [] = H.W[x] := by rw [List.getD_eq_getElem?_getD, List.getElem?_eq_getElem hx]; rfl
theorem turnH_ok {H : Hs} (ok : H.Ok) {o : List Nat} (p : OP H.W.length o) : (turnH H o).Ok := by
  refine ⟨ok.l1, ok.l6, by rw [turnH_n]; exact ok.n1, by rw [turnH_n]; exact ok.n40, by unfold turnH; simp, fun m hm => ?_, fun row hrow => ?_⟩
  · unfold turnH at hm
    obtain ⟨j, hj, rfl⟩ := List.mem_map.mp hm
    have hi := p.idxlt (List.mem_range.mp hj)
    rw [List.getD_eq_getElem?_getD, List.getElem?_eq_getElem (by rw [ok.mkl]; exact hi)]
    exact ok.mb _ (List.getElem_mem _)
  · rw [turnH_n]
    unfold turnH at hrow
    obtain ⟨j, hj, rfl⟩ := List.mem_map.mp hrow
    have hi := p.idxlt (List.mem_range.mp hj)
    rw [W_atT hi]
    have hr := ok.row _ (List.getElem_mem hi)
    refine ⟨by rw [List.length_map]; exact hr.1, fun g hg => ?_⟩
    obtain ⟨x, hx, rfl⟩ := List.mem_map.mp hg
    exact p.atlt (hr.2 x hx)
theorem turnH_sim {H : Hs} {o : List Nat} (p : OP H.W.length o) : Sim (turnH H o) H fun x => o.getD x 0 := by
  refine ⟨rfl, p.z, fun x hx => ?_⟩
  have h1 := p.atlt hx
  exact ⟨by rw [turnH_n]; exact h1, by rw [turnH_mk h1, p.idx hx], by rw [turnH_W h1, p.idx hx]⟩
/-- the order that leads back -/
def backO (n : Nat) (o : List Nat) : List Nat := (List.range n).map o.idxOf
theorem backO_ok {n : Nat} (hn : 1 ≤ n) {o : List Nat} (p : OP n o) : OP n (backO n o) := by
  have hat : ∀ {j : Nat}, j < n → (backO n o).getD j 0 = o.idxOf j := fun {j} hj => by
    unfold backO
    rw [List.getD_eq_getElem?_getD, List.getElem?_map, List.getElem?_range hj]; rfl
  refine ⟨by unfold backO; simp, ?_, fun x hx => ?_, ?_⟩
  · unfold backO
    refine List.pairwise_map.mpr (List.Pairwise.imp_of_mem (fun {x y} hx hy hne e => hne ?_) List.nodup_range)
    have h1 := p.of (List.mem_range.mp hx)
    have h2 := p.of (List.mem_range.mp hy)
    rw [e] at h1
    exact h1.symm.trans h2
  · unfold backO at hx
    obtain ⟨j, hj, rfl⟩ := List.mem_map.mp hx
    exact p.idxlt (List.mem_range.mp hj)
  · rw [hat (by omega)]
    have := p.idx (i := 0) (by omega)
    rw [p.z] at this
    exact this
theorem backO_at {n : Nat} {o : List Nat} {j : Nat} (hj : j < n) : (backO n o).getD j 0 = o.idxOf j := by
  unfold backO
  rw [List.getD_eq_getElem?_getD, List.getElem?_map, List.getElem?_range hj]; rfl
theorem turn_back {H : Hs} (ok : H.Ok) {o : List Nat} (p : OP H.W.length o) : turnH (turnH H o) (backO H.W.length o) = H := by
  have pb := backO_ok ok.n1 p
  have hi : ∀ {j : Nat}, j < H.W.length → (backO H.W.length o).idxOf j = o.getD j 0 := fun {j} hj => by
    have h1 := p.atlt hj
    have h2 := pb.idx h1
    rw [backO_at h1, p.idx hj] at h2
    exact h2
  obtain ⟨l, ms, W⟩ := H
  dsimp only at p pb hi
  have e1 : (turnH (turnH ⟨l, ms, W⟩ o) (backO W.length o)).marks = ms := by
    refine List.ext_getElem (by unfold turnH; simp; exact ok.mkl.symm) fun j hj hj' => ?_
    have hjn : j < W.length := by rw [← ok.mkl]; exact hj'
    have h1 := turnH_mk (H := turnH ⟨l, ms, W⟩ o) (o := backO W.length o) (j := j) (by rw [turnH_n]; exact hjn)
    rw [List.getD_eq_getElem?_getD, List.getElem?_eq_getElem hj, hi hjn, turnH_mk (p.atlt hjn), p.idx hjn] at h1
    dsimp only at h1
    rw [List.getD_eq_getElem?_getD, List.getElem?_eq_getElem hj'] at h1
    exact h1
  have e2 : (turnH (turnH ⟨l, ms, W⟩ o) (backO W.length o)).W = W := by
    refine List.ext_getElem (by rw [turnH_n, turnH_n]) fun j hj hj' => ?_
    have h1 := turnH_W (H := turnH ⟨l, ms, W⟩ o) (o := backO W.length o) (j := j) (by rw [turnH_n]; exact hj')
    rw [List.getD_eq_getElem?_getD, List.getElem?_eq_getElem hj, hi hj', turnH_W (p.atlt hj'), p.idx hj', List.map_map] at h1
    dsimp only at h1
    rw [List.getD_eq_getElem?_getD, List.getElem?_eq_getElem hj'] at h1
    refine h1.trans ?_
    have hr := (ok.row _ (List.getElem_mem hj')).2
    dsimp only at hr
    show ((W[j]).map _) = _
    conv => rhs; rw [← List.map_id W[j]]
    refine List.map_congr_left fun g hg => ?_
    have hg := hr g hg
    show (backO W.length o).getD (o.getD g 0) 0 = g
    rw [backO_at (p.atlt hg), p.idx hg]
  have e3 : (turnH (turnH ⟨l, ms, W⟩ o) (backO W.length o)).l = l := rfl
  generalize turnH (turnH ⟨l, ms, W⟩ o) (backO W.length o) = T at e1 e2 e3
  obtain ⟨a, b, c⟩ := T
  dsimp only at e1 e2 e3
  subst e1 e2 e3
  rfl
end N55

namespace N55
open PySem PySem.Spec PyProof.Rows L2 G
/-! all words to a count of letters -/
def extW (l : Nat) (w : List Nat) : List (List Nat) := (List.range l).map fun c => w ++ [c]
def lev (l : Nat) : Nat → List (List Nat)
  | 0 => [[]]
  | k + 1 => (lev l k).flatMap (extW l)
def wto (l m : Nat) : List (List Nat) := (List.range (m + 1)).flatMap (lev l)
theorem mem_extW {l : Nat} {w v : List Nat} : v ∈ extW l w ↔ ∃ c, c < l ∧ v = w ++ [c] := by
  unfold extW
  simp only [List.mem_map, List.mem_range]
  constructor
  · rintro ⟨c, h, e⟩; exact ⟨c, h, e.symm⟩
  · rintro ⟨c, h, e⟩; exact ⟨c, h, e.symm⟩
theorem mem_lev {l : Nat} : ∀ {k : Nat} {w : List Nat}, w ∈ lev l k ↔ w.length = k ∧ ∀ c ∈ w, c < l
  | 0, w => by
    unfold lev
    simp only [List.mem_singleton]
    constructor
    · rintro rfl; exact ⟨rfl, by simp⟩
    · rintro ⟨h, _⟩; exact List.length_eq_zero_iff.mp h
  | k + 1, w => by
    unfold lev
    rw [List.mem_flatMap]
    constructor
    · rintro ⟨u, hu, hw⟩
      obtain ⟨c, hc, rfl⟩ := mem_extW.mp hw
      obtain ⟨h1, h2⟩ := mem_lev.mp hu
      refine ⟨by simp [h1], fun d hd => ?_⟩
      rcases List.mem_append.mp hd with hd | hd
      · exact h2 d hd
      · simp only [List.mem_singleton] at hd; omega
    · rintro ⟨h1, h2⟩
      have hne : w ≠ [] := by intro z; subst z; simp at h1
      rw [← List.dropLast_concat_getLast hne] at h2 ⊢
      refine ⟨w.dropLast, mem_lev.mpr ⟨by simp; omega, fun c hc => h2 c (by simp [hc])⟩, mem_extW.mpr ⟨_, h2 _ (by simp), rfl⟩⟩
theorem mem_wto {l m : Nat} {w : List Nat} : w ∈ wto l m ↔ w.length ≤ m ∧ ∀ c ∈ w, c < l := by
  unfold wto
  simp only [List.mem_flatMap, List.mem_range]
  constructor
  · rintro ⟨k, hk, hw⟩
    obtain ⟨h1, h2⟩ := mem_lev.mp hw
    exact ⟨by omega, h2⟩
  · rintro ⟨h1, h2⟩
    exact ⟨w.length, by omega, mem_lev.mpr ⟨rfl, h2⟩⟩
theorem lev_len {l : Nat} : ∀ k : Nat, (lev l k).length = l ^ k
  | 0 => rfl
  | k + 1 => by
    unfold lev
    rw [List.length_flatMap]
    have : (lev l k).map (fun a => (extW l a).length) = (lev l k).map fun _ => l := List.map_congr_left fun a _ => by unfold extW; simp
    rw [this, List.map_const', List.sum_replicate_nat, lev_len k, Nat.pow_succ]
theorem wto_len (l m : Nat) : (wto l m).length = ((List.range (m + 1)).map fun k => l ^ k).sum := by
  unfold wto
  rw [List.length_flatMap]
  congr 1
  exact List.map_congr_left fun k _ => lev_len k
theorem wto_le {l m : Nat} (hl : l ≤ 6) (hm : m ≤ 4) : (wto l m).length ≤ 1555 := by
  rw [wto_len]
  have key : ∀ l, l < 7 → ∀ m, m < 5 → ((List.range (m + 1)).map fun k => l ^ k).sum ≤ 1555 := by decide
  exact key l (by omega) m (by omega)
theorem lev_le {l k : Nat} (hl : l ≤ 6) (hk : k ≤ 4) : l ^ k ≤ 1296 := by
  have key : ∀ l, l < 7 → ∀ k, k < 5 → l ^ k ≤ 1296 := by decide
  exact key l (by omega) k (by omega)
end N55

namespace N55
open PySem PySem.Spec PyProof.Rows L2 G
/-! plain: houses that say, two of them, and the least word for which they answer unlike -/
structure Sy where
  l : Nat
  S : List (List Int)
  W : List (List Nat)
structure Sy.Ok (H : Sy) : Prop where
  l1 : 1 ≤ H.l
  l6 : H.l ≤ 6
  n1 : 1 ≤ H.W.length
  n40 : H.W.length ≤ 40
  sl : H.S.length = H.W.length
  srow : ∀ r ∈ H.S, r.length = H.l
  row : ∀ r ∈ H.W, r.length = H.l ∧ ∀ g ∈ r, g < H.W.length
def irD (r : List Int) : D := .tup (r.map .int)
def sD (H : Sy) : D := .tup [.int H.l, .tup (H.S.map irD), .tup (H.W.map rowD)]
def sr (H : Sy) (x : Nat) : List Int := H.S.getD x []
def hs (H : Sy) (m : List Int) : Hs := ⟨H.l, m, H.W⟩
def metS (A B : Sy) : List ((Nat × Nat) × List Nat) := met (hs A []) (hs B []) (0, 0)
def dfB (A B : Sy) (q : (Nat × Nat) × List Nat) : Bool := !decide (sr A q.1.1 = sr B q.1.2)
def unlS (A B : Sy) : Option (List Nat) := ((metS A B).find? (dfB A B)).map (·.2)
/-- the first letter for which two rows differ -/
def fdl (l : Nat) (r r' : List Int) : Nat := ((List.range l).find? fun c => !decide (r.getD c 0 = r'.getD c 0)).getD 0
def wkS (H : Sy) (w : List Nat) : Nat := wk (hs H []) 0 w
def sdW (A B : Sy) : Option (List Nat) := (unlS A B).map fun w => w ++ [fdl A.l (sr A (wkS A w)) (sr B (wkS B w))]
/-- codes that tell the rows apart -/
structure Mk (A B : Sy) (ma mb : List Int) : Prop where
  oa : (hs A ma).Ok
  ob : (hs B mb).Ok
  iff : ∀ x y, x < A.W.length → y < B.W.length → (ma.getD x 0 = mb.getD y 0 ↔ sr A x = sr B y)
theorem sr_at {A : Sy} {x : Nat} (hx : x < A.S.length) : sr A x = A.S[x] := by unfold sr; rw [List.getD_eq_getElem?_getD, List.getElem?_eq_getElem hx]; rfl
/-- codes by a list of all rows -/
theorem Mk.by {A B : Sy} (a : A.Ok) (b : B.Ok) {P : List (List Int)} (ha : ∀ r ∈ A.S, r ∈ P) (hb : ∀ r ∈ B.S, r ∈ P) (hP : P.length ≤ 1000) {f : List Int → Nat} (hf : ∀ r ∈ P, ∀ r' ∈ P, f r = f r' → r = r') (hl : ∀ r ∈ P, f r ≤ 1000000000) :
    Mk A B (A.S.map fun r => (f r : Int)) (B.S.map fun r => (f r : Int)) := by
  have asl := a.sl
  have bsl := b.sl
  refine ⟨⟨a.l1, a.l6, a.n1, a.n40, ?_, fun m hm => ?_, a.row⟩, ⟨b.l1, b.l6, b.n1, b.n40, ?_, fun m hm => ?_, b.row⟩, fun x y hx hy => ?_⟩
  · show (A.S.map _).length = A.W.length
    rw [List.length_map, a.sl]
  · obtain ⟨r, hr, rfl⟩ := List.mem_map.mp hm
    have := hl r (ha r hr)
    omega
  · show (B.S.map _).length = B.W.length
    rw [List.length_map, b.sl]
  · obtain ⟨r, hr, rfl⟩ := List.mem_map.mp hm
    have := hl r (hb r hr)
    omega
  · have hx' : x < A.S.length := by omega
    have hy' : y < B.S.length := by omega
    rw [sr_at hx', sr_at hy']
    rw [List.getD_eq_getElem?_getD, List.getD_eq_getElem?_getD, List.getElem?_eq_getElem (by simpa using hx'), List.getElem?_eq_getElem (by simpa using hy'), List.getElem_map, List.getElem_map]
    show ((f A.S[x] : Nat) : Int) = (f B.S[y] : Nat) ↔ _
    refine ⟨fun e => hf _ (ha _ (List.getElem_mem hx')) _ (hb _ (List.getElem_mem hy')) (by omega), fun e => by rw [e]⟩
def cdP (P : List (List Int)) (r : List Int) : Nat := @List.idxOf _ instBEqOfDecidableEq r P
theorem cdP_inj {P : List (List Int)} {r r' : List Int} (h : r ∈ P) (h' : r' ∈ P) (e : cdP P r = cdP P r') : r = r' := by
  have gen : ∀ {α : Type} [DecidableEq α] {P : List α} {r r' : α}, r ∈ P → r' ∈ P → P.idxOf r = P.idxOf r' → r = r' := fun {α} _ {P r r'} h h' e => by
    have h1 := List.getElem_idxOf (List.idxOf_lt_length_of_mem h)
    have h2 := List.getElem_idxOf (List.idxOf_lt_length_of_mem h')
    rw [← h1, ← h2]
    congr 1
  exact gen h h' e
theorem cdP_lt {P : List (List Int)} {r : List Int} (h : r ∈ P) : cdP P r < P.length := by
  have gen : ∀ {α : Type} [DecidableEq α] {P : List α} {r : α}, r ∈ P → P.idxOf r < P.length := fun h => List.idxOf_lt_length_of_mem h
  exact gen h
theorem cdP_app {P P' : List (List Int)} {r : List Int} (h : r ∈ P) : cdP (P ++ P') r = cdP P r := by
  have gen : ∀ {α : Type} [DecidableEq α] {P P' : List α} {r : α}, r ∈ P → (P ++ P').idxOf r = P.idxOf r := fun {α} _ {P P' r} h => by
    rw [List.idxOf_append, if_pos h]
  exact gen h
theorem cdP_new {P : List (List Int)} {r : List Int} (h : r ∉ P) : cdP (P ++ [r]) r = P.length := by
  have gen : ∀ {α : Type} [DecidableEq α] {P : List α} {r : α}, r ∉ P → (P ++ [r]).idxOf r = P.length := fun {α} _ {P r} h => by
    rw [List.idxOf_append, if_neg h]; simp
  exact gen h
theorem Mk.ex {A B : Sy} (a : A.Ok) (b : B.Ok) : ∃ ma mb, Mk A B ma mb := by
  have asl := a.sl
  have bsl := b.sl
  have a40 := a.n40
  have b40 := b.n40
  refine ⟨_, _, Mk.by a b (P := A.S ++ B.S) (fun r h => by simp [h]) (fun r h => by simp [h]) (by simp; omega) (f := cdP (A.S ++ B.S)) (fun r h r' h' e => cdP_inj h h' e) fun r h => ?_⟩
  have := cdP_lt h
  simp at this
  omega
section
variable {A B : Sy} (a : A.Ok) (b : B.Ok) (hl : B.l = A.l)
include a b hl
theorem met_run : ∀ q ∈ metS A B, q.1 = (wkS A q.2, wkS B q.2) ∧ (∀ c ∈ q.2, c < A.l) ∧ q.1.1 < A.W.length ∧ q.1.2 < B.W.length := by
  obtain ⟨ma, mb, m⟩ := Mk.ex a b
  have o := met_go (A := hs A ma) (B := hs B mb) m.oa m.ob hl (s := (0, 0)) ⟨a.n1, b.n1⟩
  intro q hq
  obtain ⟨r1, r2, r3⟩ := o.b.run q hq
  rw [gw_pst] at r1
  exact ⟨r1.symm, r2, r3⟩
theorem unl_S {ma mb : List Int} (m : Mk A B ma mb) : unl (hs A ma) (hs B mb) (0, 0) = unlS A B := by
  unfold unl unlS
  have e : ∀ q ∈ metS A B, unlB (hs A ma) (hs B mb) q = dfB A B q := fun q hq => by
    obtain ⟨_, _, h1, h2⟩ := met_run a b hl q hq
    unfold unlB dfB mkA
    congr 1
    exact decide_eq_decide.mpr (m.iff _ _ h1 h2)
  have gen : ∀ {α : Type} {p q : α → Bool} {l : List α}, (∀ x ∈ l, p x = q x) → l.find? p = l.find? q := fun {α p q l} h => by
    induction l with
    | nil => rfl
    | cons x l ih =>
      rw [List.find?_cons, List.find?_cons, h x (by simp), ih fun y hy => h y (by simp [hy])]
  congr 1
  exact gen e
theorem unlS_none (e : unlS A B = none) {u : List Nat} (hu : ∀ c ∈ u, c < A.l) : sr A (wkS A u) = sr B (wkS B u) := by
  obtain ⟨ma, mb, m⟩ := Mk.ex a b
  have := unl_none m.oa m.ob hl (s := (0, 0)) ⟨a.n1, b.n1⟩ (by rw [unl_S a b hl m]; exact e) (u := u) hu
  exact (m.iff _ _ (wk_lt m.oa a.n1 hu) (wk_lt m.ob b.n1 fun c hc => by have := hu c hc; show c < B.l; omega)).mp this
theorem unlS_some {w : List Nat} (e : unlS A B = some w) : (∀ c ∈ w, c < A.l) ∧ sr A (wkS A w) ≠ sr B (wkS B w) ∧ (∀ u : List Nat, (∀ c ∈ u, c < A.l) → sr A (wkS A u) ≠ sr B (wkS B u) → sle w u) ∧ w.length + 2 ≤ A.W.length + B.W.length := by
  obtain ⟨ma, mb, m⟩ := Mk.ex a b
  have e' : unl (hs A ma) (hs B mb) (0, 0) = some w := by rw [unl_S a b hl m]; exact e
  obtain ⟨h1, h2, h3⟩ := unl_some m.oa m.ob hl (s := (0, 0)) ⟨a.n1, b.n1⟩ e'
  have key : ∀ u : List Nat, (∀ c ∈ u, c < A.l) → (mkA (hs A ma) (wk (hs A ma) 0 u) = mkA (hs B mb) (wk (hs B mb) 0 u) ↔ sr A (wkS A u) = sr B (wkS B u)) := fun u hu =>
    m.iff _ _ (wk_lt m.oa a.n1 hu) (wk_lt m.ob b.n1 fun c hc => by have := hu c hc; show c < B.l; omega)
  exact ⟨h1, fun z => h2 ((key w h1).mpr z), fun u hu hn => h3 u hu fun z => hn ((key u hu).mp z), unl_len2 m.oa m.ob hl (s := (0, 0)) ⟨a.n1, b.n1⟩ e'⟩
omit a b hl in
theorem fdl_ok {l : Nat} {r r' : List Int} (h : r.length = l) (h' : r'.length = l) (ne : r ≠ r') : fdl l r r' < l ∧ r.getD (fdl l r r') 0 ≠ r'.getD (fdl l r r') 0 ∧ (∀ c, c < fdl l r r' → r.getD c 0 = r'.getD c 0) ∧ (List.range l).find? (fun c => !decide (r.getD c 0 = r'.getD c 0)) = some (fdl l r r') := by
  cases e : (List.range l).find? (fun c => !decide (r.getD c 0 = r'.getD c 0)) with
  | none =>
    exfalso
    refine ne (List.ext_getElem (by omega) fun c h1 h2 => ?_)
    have := List.find?_eq_none.mp e c (by simp; omega)
    rw [List.getD_eq_getElem?_getD, List.getD_eq_getElem?_getD, List.getElem?_eq_getElem h1, List.getElem?_eq_getElem h2] at this
    simpa using this
  | some c =>
    have ec : fdl l r r' = c := by unfold fdl; rw [e]; rfl
    rw [ec]
    obtain ⟨hc, i, hi, ei, hb⟩ := List.find?_eq_some_iff_getElem.mp e
    rw [List.getElem_range] at ei
    subst ei
    refine ⟨by simpa using hi, by simpa using hc, fun d hd => ?_, rfl⟩
    have := hb d hd
    rw [List.getElem_range] at this
    simpa using this
omit a b hl in
theorem sr_len {A : Sy} (a : A.Ok) {x : Nat} (hx : x < A.W.length) : (sr A x).length = A.l := by
  have := a.sl
  rw [sr_at (by omega)]
  exact a.srow _ (List.getElem_mem _)
omit a b hl in
theorem wkS_lt {A : Sy} (a : A.Ok) {w : List Nat} (hw : ∀ c ∈ w, c < A.l) : wkS A w < A.W.length := by
  obtain ⟨ma, mb, m⟩ := Mk.ex a a
  exact wk_lt m.oa a.n1 hw
/-- what the answer is -/
theorem sd_some {v : List Nat} (e : sdW A B = some v) : ∃ w c, v = w ++ [c] ∧ (∀ d ∈ w, d < A.l) ∧ c < A.l ∧ (sr A (wkS A w)).getD c 0 ≠ (sr B (wkS B w)).getD c 0 ∧
    (∀ (u : List Nat) (d : Nat), (∀ x ∈ u, x < A.l) → d < A.l → (sr A (wkS A u)).getD d 0 ≠ (sr B (wkS B u)).getD d 0 → sle v (u ++ [d])) ∧ v.length + 1 ≤ A.W.length + B.W.length := by
  unfold sdW at e
  obtain ⟨w, e1, rfl⟩ := Option.map_eq_some_iff.mp e
  obtain ⟨h1, h2, h3, h4⟩ := unlS_some a b hl e1
  have h1' : ∀ c ∈ w, c < B.l := fun c hc => by have := h1 c hc; omega
  obtain ⟨f1, f2, f3, _⟩ := fdl_ok (sr_len a (wkS_lt a h1)) (by rw [sr_len b (wkS_lt b h1'), hl]) h2
  refine ⟨w, _, rfl, h1, f1, f2, fun u d hu hd hn => ?_, by simp; omega⟩
  have hs := h3 u hu fun z => hn (by rw [z])
  rcases hs with hs | rfl
  · exact .inl (slt_app _ _ hs)
  · rcases Nat.lt_trichotomy d (fdl A.l (sr A (wkS A w)) (sr B (wkS B w))) with hlt | heq | hgt
    · exact absurd (f3 d hlt) hn
    · rw [heq]; exact .inr rfl
    · exact .inl (slt_last w hgt)
theorem sd_none (e : sdW A B = none) : unlS A B = none := by
  unfold sdW at e
  exact Option.map_eq_none_iff.mp e
omit a b hl in
theorem unlS_swap {A B : Sy} (a : A.Ok) (b : B.Ok) (hl : B.l = A.l) : unlS B A = unlS A B := by
  cases e1 : unlS A B with
  | none =>
    cases e2 : unlS B A with
    | none => rfl
    | some v =>
      obtain ⟨v1, v2, _⟩ := unlS_some b a hl.symm e2
      exact (v2 (unlS_none a b hl e1 (fun c hc => by have := v1 c hc; omega)).symm).elim
  | some w =>
    obtain ⟨w1, w2, w3, _⟩ := unlS_some a b hl e1
    cases e2 : unlS B A with
    | none => exact (w2 (unlS_none b a hl.symm e2 (fun c hc => by have := w1 c hc; omega)).symm).elim
    | some v =>
      obtain ⟨v1, v2, v3, _⟩ := unlS_some b a hl.symm e2
      have h1 := w3 v (fun c hc => by have := v1 c hc; omega) (fun z => v2 z.symm)
      have h2 := v3 w (fun c hc => by have := w1 c hc; omega) (fun z => w2 z.symm)
      rw [sle_anti h1 h2]
omit a b hl in
theorem fdl_swap {l : Nat} {r r' : List Int} : fdl l r r' = fdl l r' r := by
  unfold fdl
  congr 2
  funext c
  congr 1
  exact decide_eq_decide.mpr ⟨Eq.symm, Eq.symm⟩
omit a b hl in
theorem sdW_swap {A B : Sy} (a : A.Ok) (b : B.Ok) (hl : B.l = A.l) : sdW B A = sdW A B := by
  unfold sdW
  rw [unlS_swap a b hl, hl]
  congr 1
  funext w
  rw [fdl_swap]
end
/-- the unlike words, as the law lists them -/
def uwq (A B : Sy) (q : (Nat × Nat) × List Nat) : List (List Nat) := ((List.range A.l).filter fun c => !decide ((sr A q.1.1).getD c 0 = (sr B q.1.2).getD c 0)).map fun c => q.2 ++ [c]
def uw (A B : Sy) : List (List Nat) := (metS A B).flatMap (uwq A B)
theorem uw_head {A B : Sy} (a : A.Ok) (b : B.Ok) (hl : B.l = A.l) : (uw A B).head? = sdW A B := by
  have hr := met_run a b hl
  unfold uw sdW unlS
  generalize metS A B = M at hr
  induction M with
  | nil => rfl
  | cons q M ih =>
    have ih := ih fun p hp => hr p (by simp [hp])
    obtain ⟨r1, r2, r3, r4⟩ := hr q (by simp)
    rw [List.flatMap_cons, List.find?_cons]
    have la := sr_len a r3
    have lb := sr_len b r4
    by_cases e : sr A q.1.1 = sr B q.1.2
    · have e1 : uwq A B q = [] := by
        unfold uwq
        rw [e]
        simp
      have e2 : dfB A B q = false := by unfold dfB; rw [decide_eq_true e]; rfl
      rw [e1, e2, List.nil_append]
      exact ih
    · have e2 : dfB A B q = true := by unfold dfB; rw [decide_eq_false e]; rfl
      rw [e2]
      obtain ⟨f1, f2, f3, f4⟩ := fdl_ok la (by omega) e
      have e3 : (uwq A B q).head? = some (q.2 ++ [fdl A.l (sr A q.1.1) (sr B q.1.2)]) := by
        unfold uwq
        rw [List.head?_map, List.head?_filter, f4]; rfl
      rw [List.head?_append, e3]
      have : q.1.1 = wkS A q.2 := by rw [r1]
      have h2 : q.1.2 = wkS B q.2 := by rw [r1]
      rw [this, h2]
      rfl
/-- rooms of B stand for rooms of A -/
structure Sm (A B : Sy) (f : Nat → Nat) : Prop where
  z : f 0 = 0
  at' : ∀ x, x < B.W.length → f x < A.W.length ∧ sr A (f x) = sr B x ∧ A.W.getD (f x) [] = (B.W.getD x []).map f
theorem Sm.wk {A B : Sy} {f : Nat → Nat} (b : B.Ok) (s : Sm A B f) : ∀ (w : List Nat) {x : Nat}, x < B.W.length → (∀ c ∈ w, c < B.l) → N55.wk (hs A []) (f x) w = f (N55.wk (hs B []) x w)
  | [], x, _, _ => rfl
  | c :: w, x, hx, hw => by
    have hc := hw c (by simp)
    have hrow := b.row _ (List.getElem_mem hx)
    have e1 : B.W.getD x [] = B.W[x] := by rw [List.getD_eq_getElem?_getD, List.getElem?_eq_getElem hx]; rfl
    have e2 : nx (hs A []) (f x) c = f (nx (hs B []) x c) := by
      show (A.W.getD (f x) []).getD c 0 = f ((B.W.getD x []).getD c 0)
      rw [(s.at' x hx).2.2, e1, List.getD_eq_getElem?_getD, List.getElem?_map, List.getElem?_eq_getElem (by omega), List.getD_eq_getElem?_getD, List.getElem?_eq_getElem (by omega)]
      rfl
    have e3 : nx (hs B []) x c < B.W.length := by
      show (B.W.getD x []).getD c 0 < _
      rw [e1, List.getD_eq_getElem?_getD, List.getElem?_eq_getElem (by omega)]
      exact hrow.2 _ (List.getElem_mem _)
    show N55.wk (hs A []) (nx (hs A []) (f x) c) w = f (N55.wk (hs B []) (nx (hs B []) x c) w)
    rw [e2]
    exact s.wk b w e3 fun d hd => hw d (by simp [hd])
theorem Sm.same {A B : Sy} {f : Nat → Nat} (a : A.Ok) (b : B.Ok) (hl : B.l = A.l) (s : Sm A B f) : sdW A B = none := by
  unfold sdW
  cases e : unlS A B with
  | none => rfl
  | some w =>
    exfalso
    obtain ⟨h1, h2, _⟩ := unlS_some a b hl e
    have hw : ∀ c ∈ w, c < B.l := fun c hc => by have := h1 c hc; omega
    have := s.wk b w b.n1 hw
    rw [s.z] at this
    refine h2 ?_
    show sr A (N55.wk (hs A []) 0 w) = sr B (N55.wk (hs B []) 0 w)
    rw [this]
    exact (s.at' _ (wkS_lt b hw)).2.1
theorem Sm.comp {A B C : Sy} {f g : Nat → Nat} (s : Sm A B f) (t : Sm B C g) : Sm A C (f ∘ g) := ⟨by show f (g 0) = 0; rw [t.z, s.z], fun x hx => by
  obtain ⟨h1, h2, h3⟩ := t.at' x hx
  obtain ⟨h4, h5, h6⟩ := s.at' _ h1
  exact ⟨h4, h5.trans h2, by show A.W.getD (f (g x)) [] = _; rw [h6, h3, List.map_map]⟩⟩
end N55

namespace N55
open PySem PySem.Spec PyProof.Rows L2 G
abbrev natF : Nat → D := fun g => D.int (g : Int)
def cdG {α : Type} (i : Nat) : List α → List (α × Nat)
  | [] => []
  | r :: P => (r, i) :: cdG (i + 1) P
theorem cdG_look {α : Type} [DecidableEq α] {r : α} : ∀ {i : Nat} {P : List α}, look (cdG i P) r = if r ∈ P then some (i + P.idxOf r) else none
  | i, [] => by simp [cdG, look]
  | i, x :: P => by
    unfold cdG
    rw [look_cons, cdG_look (i := i + 1) (P := P)]
    by_cases h : x = r
    · subst h; simp
    · have h' : r ≠ x := fun e => h e.symm
      have hb : (x == r) = false := by simpa using h
      rw [if_neg h, List.idxOf_cons, hb]
      by_cases hm : r ∈ P
      · rw [if_pos hm, if_pos (by simp [hm])]
        simp; omega
      · rw [if_neg hm, if_neg (by simp [h', hm])]
theorem cdG_len {α : Type} : ∀ {i : Nat} {P : List α}, (cdG i P).length = P.length
  | _, [] => rfl
  | i, x :: P => by unfold cdG; rw [List.length_cons, List.length_cons, cdG_len (i := i + 1) (P := P)]
theorem cdG_app {α : Type} {r : α} : ∀ {i : Nat} {P : List α}, cdG i (P ++ [r]) = cdG i P ++ [(r, i + P.length)]
  | i, [] => rfl
  | i, x :: P => by
    rw [List.cons_append]
    unfold cdG
    rw [cdG_app (i := i + 1) (P := P), List.length_cons, List.cons_append]
    congr 3
    simp; omega
theorem cd_look {P : List (List Int)} {r : List Int} : look (cdG 0 P) r = if r ∈ P then some (cdP P r) else none := by
  have := cdG_look (i := 0) (P := P) (r := r)
  by_cases h : r ∈ P
  · rw [this, if_pos h, if_pos h, Nat.zero_add]; rfl
  · rw [this, if_neg h, if_neg h]
theorem cd_set {P : List (List Int)} {r : List Int} (h : r ∉ P) : setV (cdG 0 P) r P.length = cdG 0 (P ++ [r]) := by
  unfold setV
  rw [cd_look, if_neg h, if_neg (by simp), cdG_app, Nat.zero_add]
section
variable {k : Nat} {ns : List Int} {h : AH} {Q : RR → AH → Prop} {X : EX → AH → Prop}
theorem marked_ok {H : Sy} (ok : H.Ok) {n : Nat} {P : List (List Int)} (e : h[n]? = some (listKey.ob natF (cdG 0 P))) (hP : P.length ≤ 100)
    (q : ∀ P', (∀ r ∈ H.S, r ∈ P ++ P') → P'.length ≤ 40 → Q (.d (hD (hs H (H.S.map fun r => (cdP (P ++ P') r : Int))))) (h.set n (listKey.ob natF (cdG 0 (P ++ P'))))) : wpF T cv (k + 1) f_marked_rows [.d (sD H), .d (.ref n)] h Q X := by
  refine in_marked_rows ?_
  unfold b_marked_rows
  have hd : sD H = .tup [.int H.l, .tup (H.S.map irD), .tup (H.W.map rowD)] := rfl
  have hsl := ok.sl
  have h40 := ok.n40
  have hn : n < h.length := (List.getElem?_eq_some_iff.mp e).1
  rw [hd]
  walk_at "a"
  rw [← hd]
  refine for_ixH (fun j e' h' => ∃ (P' : List (List Int)) (s3 : Option Sl), h' = h.set n (listKey.ob natF (cdG 0 (P ++ P'))) ∧ (∀ r ∈ H.S.take j, r ∈ P ++ P') ∧ P'.length ≤ j ∧
    e' = [some (.val (sD H)), some (.val (.ref n)), some (.own (.lst ((H.S.take j).map fun r => natF (cdP (P ++ P') r)))), s3]) (fun _ _ _ _ => by exact rfl) ⟨[], none, ?_, by simp, by simp, rfl⟩ ?_ ?_
  · rw [List.append_nil]
    refine (List.ext_getElem? fun i => ?_).symm
    by_cases hi : i = n
    · subst hi; rw [List.getElem?_set_self hn, e]
    · rw [List.getElem?_set_ne (fun z => hi z.symm)]
  · rintro e' h' ⟨P', s3, rfl, h1, h2, rfl⟩
    rw [List.length_map] at h2
    rw [List.length_map, List.take_length] at h1 ⊢
    rw [hd]
    walk_at "a"
    have := q P' h1 (by omega)
    have em : (H.S.map fun r => natF (cdP (P ++ P') r)) = (H.S.map fun r => (cdP (P ++ P') r : Int)).map .int := by rw [List.map_map]; rfl
    rw [em]
    exact this
  rintro j hj e' h' ⟨P', s3, rfl, h1, h2, rfl⟩ N hN
  rw [List.length_map] at hj
  rw [List.getElem_map, show irD H.S[j] = listKey.kd H.S[j] from rfl]
  have eo : (h.set n (listKey.ob natF (cdG 0 (P ++ P'))))[n]? = some (listKey.ob natF (cdG 0 (P ++ P'))) := List.getElem?_set_self hn
  have et : H.S.take (j + 1) = H.S.take j ++ [H.S[j]] := List.take_succ_eq_append_getElem hj
  walk_at "a"
  refine ⟨_, rfl, .inl ⟨_, _, eo, listKey.get natF _ _, ?_⟩⟩
  rw [cd_look]
  by_cases hm : H.S[j] ∈ P ++ P'
  · rw [if_pos hm, Option.map_some, Option.isSome_some]
    walk_at "a"
    refine .inr ⟨_, _, _, eo, rfl, by rw [listKey.get natF _ _, cd_look, if_pos hm]; rfl, ?_⟩
    refine ⟨_, rfl, sz (by simp; omega), ?_⟩
    walk_at "a"
    refine hN _ _ ⟨P', some (.val (irD H.S[j])), rfl, fun r hr => ?_, by omega, ?_⟩
    · rw [et] at hr
      rcases List.mem_append.mp hr with hr | hr
      · exact h1 r hr
      · simp only [List.mem_singleton] at hr
        subst hr; exact hm
    · rw [et, List.map_append]; rfl
  · rw [if_neg hm, Option.map_none, Option.isSome_none]
    walk_at "a"
    refine ⟨_, by show (_ : Option AO).bind AO.size = _; exact (congrArg (·.bind AO.size) eo).trans (listKey.size natF _), ?_⟩
    walk_at "a"
    refine ⟨_, n, _, _, rfl, rfl, eo, rfl, .inr ⟨_, listKey.put natF _ H.S[j] _ (sz (by rw [cdG_len]; simp; omega)), ?_⟩⟩
    rw [cdG_len, cd_set hm, List.set_set]
    walk_at "a"
    have eo2 : (h.set n (listKey.ob natF (cdG 0 (P ++ P' ++ [H.S[j]]))))[n]? = some (listKey.ob natF (cdG 0 (P ++ P' ++ [H.S[j]]))) := List.getElem?_set_self hn
    refine .inr ⟨_, _, _, eo2, rfl, by rw [listKey.get natF _ _, cd_look, if_pos (by simp)]; rfl, ?_⟩
    refine ⟨_, rfl, sz (by simp; omega), ?_⟩
    walk_at "a"
    refine hN _ _ ⟨P' ++ [H.S[j]], some (.val (irD H.S[j])), by rw [List.append_assoc], fun r hr => ?_, by simp; omega, ?_⟩
    · rw [et] at hr
      rw [← List.append_assoc]
      rcases List.mem_append.mp hr with hr | hr
      · exact List.mem_append_left _ (h1 r hr)
      · exact List.mem_append_right _ hr
    · rw [et, List.map_append, ← List.append_assoc]
      have ec : (H.S.take j).map (fun r => natF (cdP (P ++ P') r)) = (H.S.take j).map (fun r => natF (cdP (P ++ P' ++ [H.S[j]]) r)) := List.map_congr_left fun r hr => by rw [cdP_app (h1 r hr)]
      rw [ec]; rfl
theorem difference_ok {A B : Hs} (oa : A.Ok) (ob : B.Ok) (hl : B.l = A.l) (q : Q (.d (oW (unl A B (0, 0)))) h) : wpF T cv (k + 3) f_difference [.d (hD A), .d (hD B)] h Q X := by
  refine in_difference ?_
  unfold b_difference
  walk_at "a"
  refine in_same_letters ?_
  unfold b_same_letters
  have hda : hD A = .tup [.int A.l, .tup (A.marks.map .int), .tup (A.W.map rowD)] := rfl
  have hdb : hD B = .tup [.int B.l, .tup (B.marks.map .int), .tup (B.W.map rowD)] := rfl
  rw [hda, hdb]
  walk_at "a"
  refine ite_n (fun hc => absurd (by rw [hl]) hc) (fun _ => ?_)
  walk_at "a"
  rw [← hda, ← hdb]
  refine unlike_ok oa ob hl (s := (0, 0)) ⟨oa.n1, ob.n1⟩ ?_
  exact ⟨_, rfl, q⟩
theorem difference_no {A B : Hs} (hl : B.l ≠ A.l) (q : X ⟨x_BadHouse, []⟩ h) : wpF T cv (k + 3) f_difference [.d (hD A), .d (hD B)] h Q X := by
  refine in_difference ?_
  unfold b_difference
  walk_at "a"
  refine in_same_letters ?_
  unfold b_same_letters
  have hda : hD A = .tup [.int A.l, .tup (A.marks.map .int), .tup (A.W.map rowD)] := rfl
  have hdb : hD B = .tup [.int B.l, .tup (B.marks.map .int), .tup (B.W.map rowD)] := rfl
  rw [hda, hdb]
  walk_at "a"
  refine ite_n (fun _ => ?_) (fun hc => absurd (by omega) hl)
  walk_at "a"
  exact q
theorem says_difference_ok {A B : Sy} (a : A.Ok) (b : B.Ok) (q : B.l = A.l → ∀ h', Q (.d (oW (sdW A B))) h') (qx : B.l ≠ A.l → ∀ h', X ⟨x_BadHouse, []⟩ h') : wpF T cv (k + 4) f_says_difference [.d (sD A), .d (sD B)] h Q X := by
  refine in_says_difference ?_
  unfold b_says_difference
  have asl := a.sl
  have bsl := b.sl
  have a40 := a.n40
  have b40 := b.n40
  walk_at "a"
  refine marked_ok a (n := h.length) (P := []) (by simp; rfl) (by simp) fun P1 hP1 hl1 => ?_
  rw [List.nil_append] at hP1 ⊢
  walk_at "a"
  refine marked_ok b (n := h.length) (P := P1) (by rw [List.getElem?_set_self (by simp)]) (by omega) fun P2 hP2 hl2 => ?_
  have em : (A.S.map fun r => (cdP P1 r : Int)) = A.S.map fun r => (cdP (P1 ++ P2) r : Int) := List.map_congr_left fun r hr => by rw [cdP_app (hP1 r hr)]
  rw [em]
  have m : Mk A B (A.S.map fun r => (cdP (P1 ++ P2) r : Int)) (B.S.map fun r => (cdP (P1 ++ P2) r : Int)) := Mk.by a b (P := P1 ++ P2) (fun r hr => List.mem_append_left _ (hP1 r hr)) hP2 (by simp; omega) (fun r hr r' hr' e => cdP_inj hr hr' e) fun r hr => by
    have := cdP_lt hr
    simp at this
    omega
  generalize (A.S.map fun r => (cdP (P1 ++ P2) r : Int)) = ma at *
  generalize (B.S.map fun r => (cdP (P1 ++ P2) r : Int)) = mb at *
  walk_at "a"
  by_cases hl : B.l = A.l
  rotate_left
  · exact difference_no hl (qx hl _)
  have hq := q hl
  refine difference_ok m.oa m.ob hl ?_
  rw [unl_S a b hl m]
  unfold sdW at hq
  cases e : unlS A B with
  | none =>
    rw [e] at hq
    rw [show oW none = .non from rfl]
    walk_at "a"
    exact hq _
  | some w =>
    rw [e] at hq
    obtain ⟨h1, h2, h3, h4⟩ := unlS_some a b hl e
    have h1' : ∀ c ∈ w, c < B.l := fun c hc => by have := h1 c hc; omega
    have xa := wkS_lt a h1
    have xb := wkS_lt b h1'
    have la := sr_len a xa
    have lb := sr_len b xb
    obtain ⟨f1, f2, f3, f4⟩ := fdl_ok la (by omega) h2
    have ea : sr A (wkS A w) = A.S[wkS A w]'(by omega) := sr_at (by omega)
    have eb : sr B (wkS B w) = B.S[wkS B w]'(by omega) := sr_at (by omega)
    rw [show oW (some w) = .tup (w.map fun (g : Nat) => D.int (g : Int)) from rfl]
    have hda : sD A = .tup [.int A.l, .tup (A.S.map irD), .tup (A.W.map rowD)] := rfl
    have hdb : sD B = .tup [.int B.l, .tup (B.S.map irD), .tup (B.W.map rowD)] := rfl
    rw [hda, hdb]
    walk_at "a"
    refine room_behind_ok m.oa (w := w) (by omega) h1 ?_
    walk_at "a"
    refine x_tup (f := irD) (j := wkS A w) (by omega) ?_
    rw [← ea]
    walk_at "a"
    refine room_behind_ok m.ob (w := w) (by omega) h1' ?_
    walk_at "a"
    refine x_tup (f := irD) (j := wkS B w) (by omega) ?_
    rw [← eb]
    generalize hra : sr A (wkS A w) = ra at *
    generalize hrb : sr B (wkS B w) = rb at *
    generalize hfd : fdl A.l ra rb = fd at *
    walk_at "s"
    refine w_sscons (whl_ind (fun m e => ∃ c : Nat, c + m = fd ∧ e = [some (.val (.tup [.int A.l, .tup (A.S.map irD), .tup (A.W.map rowD)])), some (.val (.tup [.int B.l, .tup (B.S.map irD), .tup (B.W.map rowD)])), some (.val (.ref h.length)), some (.val (hD (hs A ma))), some (.val (hD (hs B mb))), some (.val (.tup (w.map fun (g : Nat) => D.int (g : Int)))), some (.val (irD ra)), some (.val (irD rb)), some (.val (.int c))]) fd ⟨0, by omega, rfl⟩ ?_)
    rintro m' e ⟨c, hc, rfl⟩ N hN
    have hca : c < ra.length := by omega
    have hcb : c < rb.length := by omega
    rw [show irD ra = .tup (ra.map .int) from rfl, show irD rb = .tup (rb.map .int) from rfl]
    walk_at "a"
    refine x_tup hca ?_
    walk_at "a"
    refine x_tup hcb ?_
    have g1 : ra.getD c 0 = ra[c] := by rw [List.getD_eq_getElem?_getD, List.getElem?_eq_getElem hca]; rfl
    have g2 : rb.getD c 0 = rb[c] := by rw [List.getD_eq_getElem?_getD, List.getElem?_eq_getElem hcb]; rfl
    walk_at "a"
    refine ite_p (fun he => ?_) (fun he => ?_)
    · have hlt : c < fd := by
        rcases Nat.lt_or_ge c fd with h | h
        · exact h
        · have : c = fd := by omega
          subst this
          exact absurd (g1.trans (he.trans g2.symm)) f2
      walk_at "a"
      exact hN (m' - 1) _ (by omega) ⟨c + 1, by omega, rfl⟩
    · have : c = fd := by
        rcases Nat.lt_or_ge c fd with h | h
        · exact absurd (g1.symm.trans ((f3 c h).trans g2)) he
        · omega
      subst this
      walk_at "a"
      refine b_addT (szl (by simp; omega)) ?_
      walk_at "a"
      have := hq (((h ++ [AO.dT []]).set h.length (listKey.ob natF (cdG 0 P1))).set h.length (listKey.ob natF (cdG 0 (P1 ++ P2))))
      rw [show (w.map fun (g : Nat) => D.int (g : Int)) ++ [D.int (c : Int)] = (w ++ [c]).map fun (g : Nat) => D.int (g : Int) from by rw [List.map_append]; rfl]
      rw [Option.map_some, hra, hrb, hfd] at this
      exact this
end
end N55

namespace N55
open PySem PySem.Spec PyProof.Rows L2 G
theorem sD_eq (H : Sy) : sD H = .tup [.int H.l, .tup (H.S.map irD), .tup (H.W.map rowD)] := rfl
theorem kf_prD : KF prD := ⟨fun a b => by
  obtain ⟨a1, a2⟩ := a
  obtain ⟨b1, b2⟩ := b
  unfold prD
  simp only [D.eqv, D.eqvs, Bool.and_true, Bool.and_eq_true, beq_iff_eq, Prod.mk.injEq]
  omega, fun a n => fla_tup (n := n + 9) (by simp only [D.flas, Bool.and_eq_true]; exact ⟨fla_int, fla_int, trivial⟩)⟩
theorem wD_snoc {w : List Nat} {c : Nat} : wD (w ++ [c]) = .tup ((w.map fun (g : Nat) => D.int (g : Int)) ++ [.int (c : Int)]) := by unfold wD; rw [List.map_append]; rfl
theorem getD_of {r r' : List Int} (e : r = r') {c : Nat} (h : c < r'.length) : r.getD c 0 = r'[c] := by
  subst e
  rw [List.getD_eq_getElem?_getD, List.getElem?_eq_getElem h]; rfl
def spD (q : (Nat × Nat) × List Nat) : D := .tup [wD q.2, .int (q.1.1 : Int), .int (q.1.2 : Int)]
section
variable {k : Nat} {ns : List Int} {h : AH} {Q : RR → AH → Prop} {X : EX → AH → Prop}
theorem cell_ok {j : Nat} (q : Q (.d (.int (ns.getD j 0))) h) : wpF T cv (k + 1) f_law_cell [.d (.fz (ns.map .int)), .d (.int j)] h Q X := by
  refine in_law_cell ?_
  unfold b_law_cell
  walk_at "a"
  refine ite_p (fun hc => ?_) (fun hc => ?_)
  · have hc : j < ns.length := by omega
    walk_at "a"
    refine x_fz hc ?_
    walk_at "a"
    rw [List.getD_eq_getElem?_getD, List.getElem?_eq_getElem hc] at q
    exact q
  · walk_at "a"
    rw [List.getD_eq_getElem?_getD, List.getElem?_eq_none (by omega)] at q
    exact q
theorem whole_ok {i : Int} (q : Q (.d (.bl true)) h) : wpF T cv (k + 1) f_law_whole [.d (.int i)] h Q X := by
  refine in_law_whole ?_
  unfold b_law_whole
  walk_at "a"
  exact q
theorem big_ok {j : Nat} (hj : j < 1000000) (q : ∀ i : Int, Q (.d (.int i)) h) : wpF T cv (k + 2) f_law_big [.d (.fz (ns.map .int)), .d (.int j)] h Q X := by
  refine in_law_big ?_
  unfold b_law_big
  walk_at "a"
  refine ite_p (fun hc => ?_) (fun hc => ?_)
  · have hc : j < ns.length := by omega
    walk_at "a"
    refine x_fz hc ?_
    walk_at "a"
    exact q _
  · walk_at "a"
    have hm : 0 < (if 1 < (ns.length : Int) then (ns.length : Int) else 1) := by split <;> omega
    generalize (if 1 < (ns.length : Int) then (ns.length : Int) else 1) = many at hm
    have t0 := Int.emod_nonneg (j : Int) (b := many) (by omega)
    obtain ⟨t, ht⟩ := Int.eq_ofNat_of_zero_le t0
    walk_at "a"
    rw [ht]
    refine cell_ok ?_
    walk_at "a"
    exact q _
theorem mark_ok {c : Int} (q : ∀ i : Int, Q (.d (.int i)) h) : wpF T cv (k + 1) f_law_mark [.d (.int c)] h Q X := by
  refine in_law_mark ?_
  unfold b_law_mark
  walk_at "a"
  refine ite_p (fun _ => ?_) (fun _ => ?_)
  · walk_at "a"
    exact q _
  walk_at "a"
  refine ite_p (fun _ => ?_) (fun _ => ?_)
  · walk_at "a"
    exact q _
  walk_at "a"
  exact q _
theorem says_ok {l n at0 : Nat} (hat : at0 ≤ 10000) (hl1 : 1 ≤ l) (hl6 : l ≤ 6) (hn1 : 1 ≤ n) (hn13 : n ≤ 13) (q : ∀ H : Sy, H.Ok → H.l = l → H.W.length = n → Q (.d (sD H)) h) : wpF T cv (k + 3) f_law_says [.d (.fz (ns.map .int)), .d (.int at0), .d (.int l), .d (.int n)] h Q X := by
  refine in_law_says ?_
  unfold b_law_says
  walk_at "a"
  refine for_rg0 (n := (n : Int).toNat) (by exact trivial) (fun j e => ∃ (S : List (List Int)) (W : List (List Nat)) (s6 s7 : Option Sl), S.length = j ∧ W.length = j ∧ (∀ r ∈ S, r.length = l) ∧ (∀ r ∈ W, r.length = l ∧ ∀ g ∈ r, g < n) ∧
    e = [some (.val (.fz (ns.map .int))), some (.val (.int at0)), some (.val (.int l)), some (.val (.int n)), some (.own (.lst (S.map irD))), some (.own (.lst (W.map rowD))), s6, s7, none]) ⟨[], [], _, _, rfl, rfl, by simp, by simp, rfl⟩ ?_ ?_
  · rintro e ⟨S, W, s6, s7, e1, e2, h1, h2, rfl⟩
    walk_at "a"
    have hWn : W.length = n := by omega
    refine q ⟨l, S, W⟩ ⟨hl1, hl6, ?_, ?_, ?_, h1, ?_⟩ rfl hWn
    · dsimp only; omega
    · dsimp only; omega
    · dsimp only; omega
    · dsimp only
      rw [hWn]; exact h2
  rintro j e hj ⟨S, W, s6, s7, e1, e2, h1, h2, rfl⟩ N0 hN0
  have hb0 : 0 ≤ 2 * (l : Int) * j := Int.mul_nonneg (by omega) (by omega)
  have hb1 : 2 * (l : Int) * j ≤ 12 * 13 := Int.mul_le_mul (by omega) (by omega) (by omega) (by omega)
  obtain ⟨b, hb⟩ := Int.eq_ofNat_of_zero_le (a := at0 + 2 * (l : Int) * j) (by omega)
  walk_at "s"
  rw [hb]
  walk_at "a"
  refine lc_rgs (n := (l : Int).toNat) (by exact trivial) D.int (fun _ => True) (szl (by omega)) (fun i hi Q0 q0 => ?_) fun r hr _ => ?_
  · walk_at "a"
    rw [show (b : Int) + (i : Int) = ((b + i : Nat) : Int) from by omega]
    refine big_ok (by omega) fun c => ?_
    walk_at "a"
    exact mark_ok fun m => q0 m trivial
  walk_at "a"
  refine ⟨sz (by simp; omega), ?_⟩
  walk_at "a"
  refine lc_rgs (n := (l : Int).toNat) (by exact trivial) (fun (g : Nat) => D.int (g : Int)) (fun g => g < n) (szl (by omega)) (fun i hi Q0 q0 => ?_) fun w hw hwn => ?_
  · walk_at "a"
    rw [show (b : Int) + (l : Int) + (i : Int) = ((b + l + i : Nat) : Int) from by omega]
    refine big_ok (by omega) fun c => ?_
    walk_at "a"
    have c0 := Int.emod_nonneg c (b := (n : Int)) (by omega)
    have c1 := Int.emod_lt_of_pos c (b := (n : Int)) (by omega)
    have := q0 (c % n).toNat (by omega)
    rw [Int.toNat_of_nonneg c0] at this
    exact this
  walk_at "a"
  refine ⟨sz (by simp; omega), ?_⟩
  walk_at "a"
  refine hN0 _ ⟨S ++ [r], W ++ [w], some (.val (.int j)), some (.val (.int b)), by simp [e1], by simp [e2], fun x hx => ?_, fun x hx => ?_, ?_⟩
  · rcases List.mem_append.mp hx with hx | hx
    · exact h1 x hx
    · simp only [List.mem_singleton] at hx
      subst hx; omega
  · rcases List.mem_append.mp hx with hx | hx
    · exact h2 x hx
    · simp only [List.mem_singleton] at hx
      subst hx; exact ⟨by omega, hwn⟩
  · rw [List.map_append, List.map_append]; rfl
theorem is_word_ok {w : List Nat} {l : Nat} (hw : ∀ c ∈ w, c < l) (q : Q (.d (.bl true)) h) : wpF T cv (k + 2) f_law_is_word [.d (wD w), .d (.int l)] h Q X := by
  refine in_law_is_word ?_
  unfold b_law_is_word wD
  walk_at "a"
  refine for_ix (by exact rfl) (fun _ e => ∃ s2 : Option Sl, e = [some (.val (.tup (w.map fun (g : Nat) => D.int (g : Int)))), some (.val (.int l)), s2]) ⟨none, rfl⟩ ?_ ?_
  · rintro e ⟨s2, rfl⟩
    walk_at "a"
    exact q
  · rintro j hj e ⟨s2, rfl⟩ N hN
    rw [List.length_map] at hj
    rw [List.getElem_map]
    have := hw _ (List.getElem_mem hj)
    walk_at "a"
    refine whole_ok ?_
    walk_at "a"
    refine ite_p (fun hc => absurd hc (by omega)) (fun _ => ?_)
    walk_at "a"
    refine ite_p (fun hc => absurd hc (by omega)) (fun _ => ?_)
    walk_at "a"
    exact hN _ ⟨_, rfl⟩
theorem law_pairs_ok {A B : Sy} (a : A.Ok) (b : B.Ok) (hl : B.l = A.l) (q : Q (.d (.fz ((metS A B).map spD))) h) : wpF T cv (k + 1) f_law_pairs [.d (sD A), .d (sD B)] h Q X := by
  refine in_law_pairs ?_
  unfold b_law_pairs
  obtain ⟨ma, mb, m⟩ := Mk.ex a b
  have eM : metS A B = met (hs A ma) (hs B mb) (0, 0) := rfl
  have a40 := a.n40
  have b40 := b.n40
  have a6 := a.l6
  have asl := a.sl
  have bsl := b.sl
  have hs0 : pV (hs A ma) (hs B mb) (0, 0) := ⟨a.n1, b.n1⟩
  have hN : A.W.length * B.W.length ≤ 1600 := Nat.mul_le_mul a40 b40
  have hgo := met_go m.oa m.ob hl hs0
  have hst : GO (pst (hs A ma) (hs B mb)) A.l (pV (hs A ma) (hs B mb)) (0, 0) [((0, 0), [])] 0 := GO.start hs0
  rw [sD_eq, sD_eq]
  walk_at "a"
  rw [asl, bsl, show (A.W.length : Int) * (B.W.length : Int) = ((A.W.length * B.W.length : Nat) : Int) from by push_cast; rfl]
  generalize hN0 : A.W.length * B.W.length = N0 at *
  walk_at "a"
  refine for_rg0 (n := (N0 : Int).toNat) (by exact trivial) (fun j e => ∃ (row : List ((Nat × Nat) × List Nat)) (s4 s5 s6 : Option Sl), ((j ≤ row.length ∧ GO (pst (hs A ma) (hs B mb)) A.l (pV (hs A ma) (hs B mb)) (0, 0) row j ∧ gOut (pst (hs A ma) (hs B mb)) A.l (N0 - j) row j = metS A B) ∨ (row = metS A B ∧ row.length ≤ j)) ∧ row.length ≤ N0 ∧
    e = [some (.val (.tup [.int A.l, .tup (A.S.map irD), .tup (A.W.map rowD)])), some (.val (.tup [.int B.l, .tup (B.S.map irD), .tup (B.W.map rowD)])), some (.own (.lst ((row.map (·.1)).map prD))), some (.own (.lst ((row.map (·.2)).map wD))), s4, s5, s6]) ⟨[((0, 0), [])], none, none, none, .inl ⟨by simp, hst, ?_⟩, ?_, rfl⟩ ?_ ?_
  · rw [eM]
    unfold met gAll
    show gOut _ _ (N0 - 0) _ _ = gOut _ _ (A.W.length * B.W.length) _ _
    rw [hN0]; rfl
  · have := a.n1
    have := b.n1
    rw [← hN0]
    have := Nat.mul_le_mul ‹1 ≤ A.W.length› ‹1 ≤ B.W.length›
    simpa using this
  · rintro e ⟨row, s4, s5, s6, hr, hr2, rfl⟩
    have hrow : row = metS A B := by
      rw [Int.toNat_natCast] at hr
      rcases hr with ⟨_, _, h3⟩ | ⟨h1, _⟩
      · rw [Nat.sub_self] at h3
        exact h3
      · exact h1
    walk_at "a"
    rw [List.length_map]
    walk_at "a"
    refine lc_rgm (by exact trivial) (fun j => spD (row.getD j ((0, 0), []))) (szl (by omega)) (fun i hi Q0 q0 => ?_) ?_
    · have hi : i < row.length := by omega
      rw [show row.getD i ((0, 0), []) = row[i] from by rw [List.getD_eq_getElem?_getD, List.getElem?_eq_getElem hi]; rfl] at q0
      walk_at "a"
      refine x_fz (f := wD) (by simpa using hi) ?_
      walk_at "a"
      refine x_fz (f := prD) (by simpa using hi) ?_
      rw [List.getElem_map, List.getElem_map, show prD (row[i]).1 = .tup [.int ((row[i]).1.1 : Int), .int ((row[i]).1.2 : Int)] from rfl]
      walk_at "a"
      refine x_fz (f := prD) (by simpa using hi) ?_
      rw [List.getElem_map, show prD (row[i]).1 = .tup [.int ((row[i]).1.1 : Int), .int ((row[i]).1.2 : Int)] from rfl]
      walk_at "a"
      exact q0
    walk_at "a"
    have em : (List.range (row.length : Int).toNat).map (fun j => spD (row.getD j ((0, 0), []))) = row.map spD := by
      refine List.ext_getElem (by simp) fun i h1 h2 => ?_
      have hi : i < row.length := by simpa using h2
      rw [List.getElem_map, List.getElem_map, List.getElem_range, List.getD_eq_getElem?_getD, List.getElem?_eq_getElem hi]
      rfl
    rw [em, hrow]
    exact q
  rintro j e hj ⟨row, s4, s5, s6, hr, hr2, rfl⟩ N hN
  have hj : j < N0 := by omega
  walk_at "a"
  rw [List.length_map]
  refine ite_p (fun hc => ?_) (fun hc => ?_)
  rotate_left
  · walk_at "a"
    refine hN _ ⟨row, _, _, _, .inr ⟨?_, by omega⟩, hr2, rfl⟩
    rcases hr with ⟨h1, _, h3⟩ | ⟨h1, _⟩
    · rw [gOut_end _ _ (by omega)] at h3
      exact h3
    · exact h1
  have hal : j < row.length := by omega
  have hr' : GO (pst (hs A ma) (hs B mb)) A.l (pV (hs A ma) (hs B mb)) (0, 0) row j ∧ gOut (pst (hs A ma) (hs B mb)) A.l (N0 - j) row j = metS A B := by
    rcases hr with ⟨_, h2, h3⟩ | ⟨_, h1⟩
    · exact ⟨h2, h3⟩
    · omega
  obtain ⟨go, hg⟩ := hr'
  obtain ⟨m', hm'⟩ : ∃ m', N0 - j = m' + 1 := ⟨N0 - j - 1, by omega⟩
  rw [hm', gOut_step _ _ hal] at hg
  have hp := go.b.run _ (List.getElem_mem hal)
  have hgi := go.inn (List.getElem?_eq_getElem hal)
  generalize hP : row[j] = P at hg hp hgi
  obtain ⟨⟨x, y⟩, w⟩ := P
  obtain ⟨hp1, hp2, hp3, hp4⟩ := hp
  dsimp only at hp1 hp2 hp3 hp4 hg
  have hp3 : x < A.W.length := hp3
  have hp4 : y < B.W.length := hp4
  have hra := a.row _ (List.getElem_mem (show x < A.W.length from hp3))
  have hrb := b.row _ (List.getElem_mem (show y < B.W.length from hp4))
  generalize hR : gIn (pst (hs A ma) (hs B mb)) (x, y) w row (List.range A.l) = R at hg
  walk_at "a"
  refine for_rg0 (n := (A.l : Int).toNat) (by exact trivial) (fun c e => ∃ (row' : List ((Nat × Nat) × List Nat)) (s5 s6 : Option Sl), GI (pst (hs A ma) (hs B mb)) A.l (pV (hs A ma) (hs B mb)) (0, 0) row' j ((x, y), w) c ∧ gIn (pst (hs A ma) (hs B mb)) (x, y) w row' ((List.range A.l).drop c) = R ∧
    e = [some (.val (.tup [.int A.l, .tup (A.S.map irD), .tup (A.W.map rowD)])), some (.val (.tup [.int B.l, .tup (B.S.map irD), .tup (B.W.map rowD)])), some (.own (.lst ((row'.map (·.1)).map prD))), some (.own (.lst ((row'.map (·.2)).map wD))), some (.val (.int j)), s5, s6]) ⟨row, _, _, hgi, hR, rfl⟩ ?_ ?_
  · rintro e ⟨row', s5, s6, gi, hR, rfl⟩
    rw [Int.toNat_natCast] at gi hR
    rw [List.drop_eq_nil_of_le (by simp)] at hR
    unfold gIn at hR
    subst hR
    have h1 := (List.getElem?_eq_some_iff.mp gi.at').1
    have h2 := GB_len gi.b
    walk_at "a"
    refine hN _ ⟨row', _, _, _, .inl ⟨by omega, gi.out, by rw [show N0 - (j + 1) = m' from by omega]; exact hg⟩, by rw [← hN0]; exact h2, rfl⟩
  rintro c e hc' ⟨row', s5, s6, gi, hR, rfl⟩ N1 hN1
  have hc' : c < A.l := by omega
  rw [List.drop_eq_getElem_cons (by simpa using hc'), List.getElem_range] at hR
  unfold gIn at hR
  have gn := gi.next (pV_st m.oa m.ob hl) hc'
  have hrl' := GB_len gi.b
  have hrl2 : row'.length ≤ N0 := by rw [← hN0]; exact hrl'
  obtain ⟨hjr, ejr⟩ := List.getElem?_eq_some_iff.mp gi.at'
  have hwl := gi.b.len j _ gi.at'
  dsimp only at hwl
  have ea : (A.W[x])[c]'(by omega) = nx (hs A ma) x c := nx_eq (H := hs A ma) hp3 (by have := hra.1; show c < (A.W[x]).length; omega)
  have eb : (B.W[y])[c]'(by omega) = nx (hs B mb) y c := nx_eq (H := hs B mb) hp4 (by have := hrb.1; show c < (B.W[y]).length; omega)
  have e1 : (row'.map (·.1))[j]'(by simpa using hjr) = (x, y) := by rw [List.getElem_map, ejr]
  have e2 : (row'.map (·.2))[j]'(by simpa using hjr) = w := by rw [List.getElem_map, ejr]
  walk_at "a"
  refine x_tw (f := prD) (by simpa using hjr) ?_
  rw [e1, show prD (x, y) = .tup [.int (x : Int), .int (y : Int)] from rfl]
  walk_at "a"
  refine x_tup (f := rowD) hp3 ?_
  rw [show rowD A.W[x] = .tup ((A.W[x]).map fun (g : Nat) => D.int (g : Int)) from rfl]
  walk_at "a"
  refine x_tup (by omega) ?_
  rw [ea]
  walk_at "a"
  refine x_tw (f := prD) (by simpa using hjr) ?_
  rw [e1, show prD (x, y) = .tup [.int (x : Int), .int (y : Int)] from rfl]
  walk_at "a"
  refine x_tup (f := rowD) hp4 ?_
  rw [show rowD B.W[y] = .tup ((B.W[y]).map fun (g : Nat) => D.int (g : Int)) from rfl]
  walk_at "a"
  refine x_tup (by omega) ?_
  rw [eb]
  walk_at "a"
  rw [show D.tup [.int (nx (hs A ma) x c : Nat), .int (nx (hs B mb) y c : Nat)] = prD (nx (hs A ma) x c, nx (hs B mb) y c) from rfl]
  unfold gAdd at hR gn
  have epst : pst (hs A ma) (hs B mb) ((x, y), w).1 c = (nx (hs A ma) x c, nx (hs B mb) y c) := rfl
  have epst2 : pst (hs A ma) (hs B mb) (x, y) c = (nx (hs A ma) x c, nx (hs B mb) y c) := rfl
  rw [epst] at gn
  rw [epst2] at hR
  by_cases hm : (nx (hs A ma) x c, nx (hs B mb) y c) ∈ row'.map (·.1)
  · rw [if_pos hm] at hR gn
    refine notIn_t kf_prD rfl hm ?_
    walk_at "a"
    exact hN1 _ ⟨row', _, _, gn, hR, rfl⟩
  · rw [if_neg hm] at hR gn
    refine notIn_n kf_prD rfl hm ?_
    walk_at "a"
    refine ⟨sz (by simp; omega), ?_⟩
    walk_at "a"
    refine x_tw (f := wD) (by simpa using hjr) ?_
    rw [e2, show wD w = .tup (w.map fun (g : Nat) => D.int (g : Int)) from rfl]
    walk_at "a"
    refine b_addT (szl (by simp; omega)) ?_
    refine ⟨_, rfl, sz (by simp; omega), ?_⟩
    walk_at "a"
    refine hN1 _ ⟨row' ++ [((nx (hs A ma) x c, nx (hs B mb) y c), w ++ [c])], some (.val (.int c)), some (.val (prD (nx (hs A ma) x c, nx (hs B mb) y c))), gn, hR, ?_⟩
    simp only [List.map_append, List.map_cons, List.map_nil, wD_snoc]
    rfl
theorem met_len {A B : Sy} (a : A.Ok) (b : B.Ok) (hl : B.l = A.l) : (metS A B).length ≤ 1600 ∧ ∀ q ∈ metS A B, q.2.length ≤ 1600 := by
  obtain ⟨ma, mb, m⟩ := Mk.ex a b
  have go := met_go (A := hs A ma) (B := hs B mb) m.oa m.ob hl (s := (0, 0)) ⟨a.n1, b.n1⟩
  have h1 := GB_len go.b
  have h2 : A.W.length * B.W.length ≤ 1600 := Nat.mul_le_mul a.n40 b.n40
  have h1 : (metS A B).length ≤ A.W.length * B.W.length := h1
  refine ⟨by omega, fun q hq => ?_⟩
  obtain ⟨i, hi, rfl⟩ := List.mem_iff_getElem.mp hq
  have := go.b.len i _ (List.getElem?_eq_getElem hi)
  have h3 : (metS A B)[i].2.length ≤ i := this
  omega
theorem uw_len {A B : Sy} {M : List ((Nat × Nat) × List Nat)} : (M.flatMap (uwq A B)).length ≤ A.l * M.length := by
  induction M with
  | nil => simp
  | cons q M ih =>
    rw [List.flatMap_cons, List.length_append, List.length_cons, Nat.mul_add, Nat.mul_one]
    have : (uwq A B q).length ≤ A.l := by
      unfold uwq
      rw [List.length_map]
      exact Nat.le_trans (List.length_filter_le _ _) (by simp)
    omega
theorem unlike_words_ok {A B : Sy} (a : A.Ok) (b : B.Ok) (hl : B.l = A.l) (q : Q (.mv (.lst ((uw A B).map wD))) h) : wpF T cv (k + 2) f_law_unlike_words [.d (sD A), .d (sD B)] h Q X := by
  refine in_law_unlike_words ?_
  unfold b_law_unlike_words
  obtain ⟨hM, hMw⟩ := met_len a b hl
  have hr := met_run a b hl
  have asl := a.sl
  have bsl := b.sl
  have a6 := a.l6
  walk_at "a"
  refine law_pairs_ok a b hl ?_
  walk_at "a"
  refine for_ix (by exact rfl) (fun j e => ∃ s3 s4 : Option Sl, e = [some (.val (sD A)), some (.val (sD B)), some (.own (.lst ((((metS A B).take j).flatMap (uwq A B)).map wD))), s3, s4]) ⟨none, none, rfl⟩ ?_ ?_
  · rintro e ⟨s3, s4, rfl⟩
    rw [List.length_map, List.take_length]
    walk_at "a"
    exact q
  rintro j hj e ⟨s3, s4, rfl⟩ N hN
  rw [List.length_map] at hj
  rw [List.getElem_map]
  have hq := List.getElem_mem hj
  obtain ⟨r1, r2, r3, r4⟩ := hr _ hq
  have hw := hMw _ hq
  have et : (metS A B).take (j + 1) = (metS A B).take j ++ [(metS A B)[j]] := List.take_succ_eq_append_getElem hj
  have hlen : (((metS A B).take j).flatMap (uwq A B)).length ≤ 6 * 1600 := by
    have h1 := uw_len (A := A) (B := B) (M := (metS A B).take j)
    have h2 : A.l * ((metS A B).take j).length ≤ 6 * 1600 := Nat.mul_le_mul a6 (by rw [List.length_take]; omega)
    omega
  generalize (metS A B)[j] = p at *
  obtain ⟨⟨x, y⟩, w⟩ := p
  dsimp only at *
  have la := sr_len a r3
  have lb := sr_len b r4
  have ea : sr A x = A.S[x]'(by omega) := sr_at (by omega)
  have eb : sr B y = B.S[y]'(by omega) := sr_at (by omega)
  rw [sD_eq A, sD_eq B]
  walk_at "a"
  refine for_rg0 (n := (A.l : Int).toNat) (by exact trivial) (fun c e => ∃ s4 : Option Sl, e = [some (.val (.tup [.int A.l, .tup (A.S.map irD), .tup (A.W.map rowD)])), some (.val (.tup [.int B.l, .tup (B.S.map irD), .tup (B.W.map rowD)])), some (.own (.lst ((((metS A B).take j).flatMap (uwq A B) ++ ((List.range c).filter fun c => !decide ((sr A x).getD c 0 = (sr B y).getD c 0)).map fun c => w ++ [c]).map wD))), some (.val (spD ((x, y), w))), s4]) ⟨s4, by simp⟩ ?_ ?_
  · rintro e ⟨s4, rfl⟩
    walk_at "a"
    refine hN _ ⟨some (.val (spD ((x, y), w))), s4, ?_⟩
    rw [et, List.flatMap_append, Int.toNat_natCast, sD_eq A, sD_eq B]
    simp [uwq]
  rintro c e hc ⟨s4, rfl⟩ N1 hN1
  have hc : c < A.l := by omega
  have g1 : (sr A x).getD c 0 = (A.S[x]'(by omega))[c]'(by rw [← ea]; omega) := getD_of ea _
  have g2 : (sr B y).getD c 0 = (B.S[y]'(by omega))[c]'(by rw [← eb]; omega) := getD_of eb _
  have hfl : (((List.range c).filter fun c => !decide ((sr A x).getD c 0 = (sr B y).getD c 0)).map fun c => w ++ [c]).length ≤ 6 := by
    rw [List.length_map]
    exact Nat.le_trans (List.length_filter_le _ _) (by simp; omega)
  rw [show spD ((x, y), w) = .tup [wD w, .int (x : Int), .int (y : Int)] from rfl]
  walk_at "a"
  refine x_tup (f := irD) (by omega) ?_
  rw [show irD (A.S[x]'(by omega)) = .tup ((A.S[x]'(by omega)).map .int) from rfl]
  walk_at "a"
  refine x_tup (by rw [← ea]; omega) ?_
  walk_at "a"
  refine x_tup (f := irD) (by omega) ?_
  rw [show irD (B.S[y]'(by omega)) = .tup ((B.S[y]'(by omega)).map .int) from rfl]
  walk_at "a"
  refine x_tup (by rw [← eb]; omega) ?_
  walk_at "a"
  refine ite_n (fun hne => ?_) (fun heq => ?_)
  · rw [show wD w = .tup (w.map fun (g : Nat) => D.int (g : Int)) from rfl]
    walk_at "a"
    refine b_addT (szl (by simp; omega)) ?_
    refine ⟨_, rfl, sz (by rw [List.length_map, List.length_append]; omega), ?_⟩
    walk_at "a"
    refine hN1 _ ⟨some (.val (.int c)), ?_⟩
    have ef : (List.range (c + 1)).filter (fun c => !decide ((sr A x).getD c 0 = (sr B y).getD c 0)) = (List.range c).filter (fun c => !decide ((sr A x).getD c 0 = (sr B y).getD c 0)) ++ [c] := by
      rw [List.range_succ, List.filter_append]
      congr 1
      rw [List.filter_cons, List.filter_nil, g1, g2, decide_eq_false hne]; rfl
    rw [ef]
    simp only [List.map_append, List.map_cons, List.map_nil, wD_snoc, List.append_assoc]
    rfl
  · walk_at "a"
    refine hN1 _ ⟨some (.val (.int c)), ?_⟩
    have ef : (List.range (c + 1)).filter (fun c => !decide ((sr A x).getD c 0 = (sr B y).getD c 0)) = (List.range c).filter (fun c => !decide ((sr A x).getD c 0 = (sr B y).getD c 0)) := by
      rw [List.range_succ, List.filter_append]
      rw [List.filter_cons, List.filter_nil, g1, g2, decide_eq_true heq]
      simp
    rw [ef]
    rfl
theorem refused_ok {A B : Sy} (a : A.Ok) (b : B.Ok) (hl : B.l ≠ A.l) (q : ∀ h', Q (.d (.bl true)) h') : wpF T cv (k + 5) f_law_refused [.d (sD A), .d (sD B)] h Q X := by
  refine in_law_refused ?_
  unfold b_law_refused
  walk_at "s"
  refine w_sscons (w_stry ?_)
  walk_at "a"
  refine says_difference_ok a b (fun z => absurd z hl) fun _ h' => ?_
  refine ex_in (by decide) (by decide) (eh_asg (by exact trivial) rfl ?_)
  walk_at "a"
  exact q h'
theorem by_any_ok {A B : Sy} (a : A.Ok) (b : B.Ok) (hl : B.l ≠ A.l) (q : ∀ h', Q (.d (.bl true)) h') : wpF T cv (k + 5) f_law_refused_by_any [.d (sD A), .d (sD B)] h Q X := by
  refine in_law_refused_by_any ?_
  unfold b_law_refused_by_any
  walk_at "s"
  refine w_sscons (w_stry ?_)
  walk_at "a"
  refine says_difference_ok a b (fun z => absurd z hl) fun _ h' => ?_
  refine ex_in (by decide) (by decide) (eh_asg (by exact rfl) rfl ?_)
  walk_at "a"
  exact q h'
end
end N55

namespace N55
open PySem PySem.Spec PyProof.Rows L2 G
theorem lev_pw {l : Nat} : ∀ k : Nat, (lev l k).Pairwise slt
  | 0 => by simp [lev]
  | k + 1 => by
    have ih := lev_pw (l := l) k
    show ((lev l k).flatMap (extW l)).Pairwise slt
    have hsame : ∀ w ∈ lev l k, w.length = k := fun w hw => (mem_lev.mp hw).1
    generalize lev l k = L at ih hsame
    induction L with
    | nil => exact List.Pairwise.nil
    | cons w L ih2 =>
      rw [List.flatMap_cons, List.pairwise_append]
      rw [List.pairwise_cons] at ih
      refine ⟨?_, ih2 ih.2 fun v hv => hsame v (by simp [hv]), fun u hu v hv => ?_⟩
      · unfold extW
        rw [List.pairwise_map]
        exact List.pairwise_lt_range.imp fun h => slt_last w h
      · obtain ⟨c, hc, rfl⟩ := mem_extW.mp hu
        obtain ⟨w', hw', hv⟩ := List.mem_flatMap.mp hv
        obtain ⟨d, hd, rfl⟩ := mem_extW.mp hv
        exact slt_app _ _ (ih.1 w' hw')
def stD (A B : Sy) (w : List Nat) : D := .tup [wD w, .int (wkS A w : Nat), .int (wkS B w : Nat)]
theorem stD_snoc {A B : Sy} {u : List Nat} {d : Nat} : stD A B (u ++ [d]) = .tup [.tup ((u.map fun (g : Nat) => D.int (g : Int)) ++ [.int (d : Int)]), .int (wkS A (u ++ [d]) : Nat), .int (wkS B (u ++ [d]) : Nat)] := by unfold stD; rw [wD_snoc]
theorem wkS_app {A : Sy} (w : List Nat) (c : Nat) : wkS A (w ++ [c]) = nx (hs A []) (wkS A w) c := wk_app w c
section
variable {k : Nat} {ns : List Int} {h : AH} {Q : RR → AH → Prop} {X : EX → AH → Prop}
/-- the search through all words, in their order, ends at the least unlike one -/
theorem first_unlike_ok {A B : Sy} (a : A.Ok) (b : B.Ok) (hl : B.l = A.l) {v : List Nat} (e : sdW A B = some v) (hb : ∀ s, s < v.length → A.l ^ (s + 1) ≤ 1000000) (q : Q (.d (wD v)) h) :
    wpF T cv (k + 1) f_law_first_unlike [.d (sD A), .d (sD B), .d (.int v.length)] h Q X := by
  refine in_law_first_unlike ?_
  unfold b_law_first_unlike
  obtain ⟨w, c, rfl, hw, hc, hne, hleast, hlen⟩ := sd_some a b hl e
  have asl := a.sl
  have bsl := b.sl
  have a6 := a.l6
  have a40 := a.n40
  have b40 := b.n40
  have hwl : (w ++ [c]).length = w.length + 1 := by simp
  walk_at "a"
  refine for_rg0 (n := ((w ++ [c]).length : Int).toNat) (by exact trivial) (fun s e => ∃ s4 s5 s6 s7 s8 : Option Sl, e = [some (.val (sD A)), some (.val (sD B)), some (.val (.int (w ++ [c]).length)), some (.own (.lst ((lev A.l s).map (stD A B)))), s4, s5, s6, s7, s8] ∧ s ≤ w.length) ⟨none, none, none, none, none, rfl, Nat.zero_le _⟩ ?_ ?_
  · rintro e ⟨s4, s5, s6, s7, s8, rfl, hs⟩
    omega
  rintro s e hslt ⟨s4, s5, s6, s7, s8, rfl, hsw⟩ N hN
  have hbs := hb s (by omega)
  have hll := lev_len (l := A.l) s
  have hll2 := lev_len (l := A.l) (s + 1)
  walk_at "a"
  -- where the word is
  have hpos : s = w.length → ∃ p, ∃ hp : p < (lev A.l s).length, (lev A.l s)[p] = w := fun es => by
    obtain ⟨p, hp, ep⟩ := List.mem_iff_getElem.mp (mem_lev.mpr ⟨es.symm, hw⟩ : w ∈ lev A.l s)
    exact ⟨p, hp, ep⟩
  have hpl := Nat.pow_succ (n := A.l) (m := s)
  have hpp : A.l ^ s ≤ A.l ^ (s + 1) := Nat.pow_le_pow_right a.l1 (by omega)
  refine for_ix (by exact rfl) (fun i e => ∃ s6 s7 s8 : Option Sl, (s = w.length → ∀ p (hp : p < (lev A.l s).length), (lev A.l s)[p] = w → i ≤ p) ∧ e = [some (.val (sD A)), some (.val (sD B)), some (.val (.int (w ++ [c]).length)), some (.bor (.lst ((lev A.l s).map (stD A B)))), some (.val (.int s)), some (.own (.lst ((((lev A.l s).take i).flatMap (extW A.l)).map (stD A B)))), s6, s7, s8]) ⟨s6, s7, s8, fun _ p _ _ => Nat.zero_le _, rfl⟩ ?_ ?_
  · rintro e ⟨s6, s7, s8, hi, rfl⟩
    rw [List.length_map] at hi
    rw [List.length_map, List.take_length]
    have hne2 : s ≠ w.length := fun es => by
      obtain ⟨p, hp, ep⟩ := hpos es
      have := hi es p hp ep
      omega
    refine ⟨rfl, ?_⟩
    walk_at "a"
    exact hN _ ⟨_, _, _, _, _, rfl, by omega⟩
  rintro i hi e ⟨s6, s7, s8, hip, rfl⟩ N1 hN1
  rw [List.length_map] at hi
  rw [List.getElem_map]
  obtain ⟨u1, u2⟩ := mem_lev.mp (List.getElem_mem hi)
  have et : (lev A.l s).take (i + 1) = (lev A.l s).take i ++ [(lev A.l s)[i]] := List.take_succ_eq_append_getElem hi
  have hel : (((lev A.l s).take i).flatMap (extW A.l)).length + A.l ≤ A.l ^ (s + 1) := by
    have h1 : ∀ L : List (List Nat), (L.flatMap (extW A.l)).length = A.l * L.length := fun L => by
      induction L with
      | nil => simp
      | cons x L ih => rw [List.flatMap_cons, List.length_append, ih, List.length_cons, Nat.mul_add]; simp [extW]; omega
    rw [h1, List.length_take, hpl]
    have : (i + 1) * A.l ≤ A.l ^ s * A.l := Nat.mul_le_mul_right _ (by omega)
    rw [Nat.add_mul, Nat.one_mul, Nat.mul_comm i] at this
    rw [Nat.min_eq_left (by omega)]
    exact this
  have hord : ∀ p (hp : p < (lev A.l s).length), (lev A.l s)[p] = w → i < p → slt (lev A.l s)[i] w := fun p hp ep hlt => by
    have := List.pairwise_iff_getElem.mp (lev_pw (l := A.l) s) i p hi hp hlt
    rwa [ep] at this
  generalize hu : (lev A.l s)[i] = u at *
  have u2b : ∀ c ∈ u, c < B.l := fun c hc => by have := u2 c hc; omega
  have xa := wkS_lt a u2
  have xb := wkS_lt b u2b
  have la := sr_len a xa
  have lb := sr_len b xb
  have ea : sr A (wkS A u) = A.S[wkS A u]'(by omega) := sr_at (by omega)
  have eb : sr B (wkS B u) = B.S[wkS B u]'(by omega) := sr_at (by omega)
  have hra := a.row _ (List.getElem_mem xa)
  have hrb := b.row _ (List.getElem_mem xb)
  -- is it alike?
  have alike : ∀ d, d < A.l → slt (u ++ [d]) (w ++ [c]) → (sr A (wkS A u)).getD d 0 = (sr B (wkS B u)).getD d 0 := fun d hd hlt => by
    refine Decidable.byContradiction fun hn => ?_
    have := hleast u d u2 hd hn
    rcases this with h | h
    · exact slt_irr (slt_trans h hlt)
    · rw [h] at hlt; exact slt_irr hlt
  rw [sD_eq A, sD_eq B]
  walk_at "a"
  refine for_rg0 (n := (A.l : Int).toNat) (by exact trivial) (fun d e => ∃ s7 s8 : Option Sl, (s = w.length → u = w → d ≤ c) ∧ e = [some (.val (.tup [.int A.l, .tup (A.S.map irD), .tup (A.W.map rowD)])), some (.val (.tup [.int B.l, .tup (B.S.map irD), .tup (B.W.map rowD)])), some (.val (.int (w ++ [c]).length)), some (.bor (.lst ((lev A.l s).map (stD A B)))), some (.val (.int s)), some (.own (.lst ((((lev A.l s).take i).flatMap (extW A.l) ++ (List.range d).map fun d => u ++ [d]).map (stD A B)))), some (.val (stD A B u)), s7, s8]) ⟨s7, s8, fun _ _ => Nat.zero_le _, by simp⟩ ?_ ?_
  · rintro e ⟨s7, s8, hdc, rfl⟩
    rw [Int.toNat_natCast] at hdc
    walk_at "a"
    refine hN1 _ ⟨some (.val (stD A B u)), s7, s8, fun es p hp ep => ?_, ?_⟩
    · have h1 := hip es p hp ep
      rcases Nat.lt_or_ge i p with h | h
      · omega
      · have : i = p := by omega
        subst this
        have := hdc es (hu.symm.trans ep)
        omega
    · rw [et, List.flatMap_append, Int.toNat_natCast, sD_eq A, sD_eq B]
      simp [extW]
  rintro d e hd ⟨s7, s8, hdc, rfl⟩ N2 hN2
  have hd : d < A.l := by omega
  have g1 : (sr A (wkS A u)).getD d 0 = (A.S[wkS A u]'(by omega))[d]'(by rw [← ea]; omega) := getD_of ea _
  have g2 : (sr B (wkS B u)).getD d 0 = (B.S[wkS B u]'(by omega))[d]'(by rw [← eb]; omega) := getD_of eb _
  have n1 : (A.W[wkS A u])[d]'(by omega) = wkS A (u ++ [d]) := by rw [wkS_app]; exact nx_eq (H := hs A []) xa (by show d < (A.W[wkS A u]).length; omega)
  have n2 : (B.W[wkS B u])[d]'(by omega) = wkS B (u ++ [d]) := by rw [wkS_app]; exact nx_eq (H := hs B []) xb (by show d < (B.W[wkS B u]).length; omega)
  rw [show stD A B u = .tup [wD u, .int (wkS A u : Nat), .int (wkS B u : Nat)] from rfl]
  walk_at "a"
  refine x_tup (f := irD) (by omega) ?_
  rw [show irD (A.S[wkS A u]'(by omega)) = .tup ((A.S[wkS A u]'(by omega)).map .int) from rfl]
  walk_at "a"
  refine x_tup (by rw [← ea]; omega) ?_
  walk_at "a"
  refine x_tup (f := irD) (by omega) ?_
  rw [show irD (B.S[wkS B u]'(by omega)) = .tup ((B.S[wkS B u]'(by omega)).map .int) from rfl]
  walk_at "a"
  refine x_tup (by rw [← eb]; omega) ?_
  walk_at "a"
  have edv : wD u = .tup (u.map fun (g : Nat) => D.int (g : Int)) := rfl
  by_cases hat : s = w.length ∧ u = w ∧ d = c
  · obtain ⟨_, rfl, rfl⟩ := hat
    refine ite_n (fun _ => ?_) (fun heq => absurd (g1.trans (heq.trans g2.symm)) hne)
    rw [edv]
    walk_at "a"
    refine b_addT (szl (by simp; omega)) ?_
    walk_at "a"
    rw [← wD_snoc]
    exact q
  have hlt : slt (u ++ [d]) (w ++ [c]) := by
    by_cases es : s = w.length
    · obtain ⟨p, hp, ep⟩ := hpos es
      have h1 := hip es p hp ep
      rcases Nat.lt_or_ge i p with h | h
      · exact slt_app _ _ (hord p hp ep h)
      · have : i = p := by omega
        subst this
        have euw : u = w := hu.symm.trans ep
        have := hdc es euw
        rw [euw]
        exact slt_last w (by
          rcases Nat.lt_or_ge d c with h | h
          · exact h
          · exact absurd ⟨es, euw, by omega⟩ hat)
    · exact .inl (by simp; omega)
  refine ite_n (fun hn => absurd (g1.symm.trans ((alike d hd hlt).trans g2)) hn) (fun _ => ?_)
  walk_at "a"
  refine x_tup (f := rowD) xa ?_
  rw [show rowD A.W[wkS A u] = .tup ((A.W[wkS A u]).map fun (g : Nat) => D.int (g : Int)) from rfl]
  walk_at "a"
  refine x_tup (by omega) ?_
  rw [n1, edv]
  walk_at "a"
  refine b_addT (szl (by simp; omega)) ?_
  walk_at "a"
  refine x_tup (f := rowD) xb ?_
  rw [show rowD B.W[wkS B u] = .tup ((B.W[wkS B u]).map fun (g : Nat) => D.int (g : Int)) from rfl]
  walk_at "a"
  refine x_tup (by omega) ?_
  rw [n2]
  walk_at "a"
  refine ⟨sz (by simp only [List.length_map, List.length_append, List.length_range]; omega), ?_⟩
  walk_at "a"
  refine hN2 _ ⟨some (.val (.int d)), some (.val (.int (wkS A (u ++ [d]) : Nat))), fun es euw => ?_, ?_⟩
  · have := hdc es euw
    rcases Nat.lt_or_ge d c with h | h
    · omega
    · exact absurd ⟨es, euw, by omega⟩ hat
  · rw [List.range_succ]
    simp only [List.map_append, List.map_cons, List.map_nil, ← List.append_assoc, stD_snoc]
    rfl
end
end N55

namespace N55
open PySem PySem.Spec PyProof.Rows L2 G
theorem cut_to {xs : List D} {k : Nat} (h : k ≤ xs.length) : cutD xs (some (k : Int)) none = xs.drop k := by
  unfold G.cutD
  rw [HT.sIx_nat, HT.sIx_none, Nat.min_eq_left h]
  exact List.take_of_length_le (by simp)
/-- the room that a room of the doubled house stands for -/
def pj (n r x : Nat) : Nat := if x < n then x else r
/-- a row of the doubled house -/
structure DR (n r l : Nat) (row' row : List Nat) : Prop where
  len : row'.length = l
  lt : ∀ g ∈ row', g < n + 1
  pr : row'.map (pj n r) = row
section
variable {k : Nat} {ns : List Int} {h : AH} {Q : RR → AH → Prop} {X : EX → AH → Prop}
theorem put_ok {α : Type} {f : α → D} {xs : List α} {p : Nat} {x : α} (hp : p < xs.length) (hl : xs.length ≤ 1000) (q : Q (.d (.tup ((xs.set p x).map f))) h) : wpF T cv (k + 1) f_law_put [.d (.tup (xs.map f)), .d (.int p), .d (f x)] h Q X := by
  refine in_law_put ?_
  unfold b_law_put
  walk_at "a"
  refine ⟨_, rfl, ?_⟩
  rw [cutD_none]
  walk_at "a"
  refine b_addT (szl (by simp; omega)) ?_
  walk_at "a"
  refine ⟨_, rfl, ?_⟩
  rw [show (p : Int) + 1 = ((p + 1 : Nat) : Int) from by omega, cut_to (by rw [List.length_map]; omega)]
  walk_at "a"
  refine b_addT (szl (by simp; omega)) ?_
  walk_at "a"
  have e : (xs.map f).take p ++ [f x] ++ (xs.map f).drop (p + 1) = (xs.set p x).map f := by
    rw [List.set_eq_take_append_cons_drop, if_pos hp, List.map_append, List.map_cons, List.map_take, List.map_drop]; simp
  rw [e]
  exact q
theorem W_at {A : Sy} {x : Nat} (hx : x < A.W.length) : A.W.getD x [] = A.W[x] := by rw [List.getD_eq_getElem?_getD, List.getElem?_eq_getElem hx]; rfl
theorem doubled_ok {A : Sy} (a : A.Ok) (hn : A.W.length ≤ 39) {c : Int} (q : ∀ B : Sy, B.Ok → B.l = A.l → B.W.length = A.W.length + 1 → (∃ f, Sm A B f) → Q (.d (sD B)) h) : wpF T cv (k + 1) f_law_doubled [.d (sD A), .d (.int c)] h Q X := by
  refine in_law_doubled ?_
  unfold b_law_doubled
  have asl := a.sl
  have an1 := a.n1
  have al6 := a.l6
  rw [sD_eq]
  walk_at "a"
  rw [asl]
  generalize hnn : A.W.length = n at *
  have r0 := Int.emod_nonneg c (b := (n : Int)) (by omega)
  have r1 := Int.emod_lt_of_pos c (b := (n : Int)) (by omega)
  obtain ⟨r, hr⟩ := Int.eq_ofNat_of_zero_le r0
  have hrn : r < n := by omega
  walk_at "a"
  rw [hr]
  have hf : ∀ k, k < n + 1 → (if k = n then r else k) < A.W.length := fun k hk => by split <;> omega
  refine for_rg0 (n := ((n : Int) + 1).toNat) (by exact trivial) (fun j e => ∃ (W : List (List Nat)) (s5 s6 s7 s8 s9 : Option Sl), W.length = j ∧ (∀ k, k < j → DR n r A.l (W.getD k []) (A.W.getD (if k = n then r else k) [])) ∧
    e = [some (.val (.tup [.int A.l, .tup (A.S.map irD), .tup (A.W.map rowD)])), some (.val (.int c)), some (.val (.int n)), some (.val (.int r)), some (.own (.lst (W.map rowD))), s5, s6, s7, s8, s9]) ⟨[], none, none, none, none, none, rfl, fun k h => absurd h (by omega), rfl⟩ ?_ ?_
  · rintro e ⟨W, s5, s6, s7, s8, s9, hW, hd, rfl⟩
    have hWn : W.length = n + 1 := by omega
    have hd : ∀ k, k < n + 1 → DR n r A.l (W.getD k []) (A.W.getD (if k = n then r else k) []) := fun k hk => hd k (by omega)
    have eW : ∀ i (hi : i < W.length), W.getD i [] = W[i] := fun i hi => by rw [List.getD_eq_getElem?_getD, List.getElem?_eq_getElem hi]; rfl
    walk_at "a"
    refine x_tup (f := irD) (by omega) ?_
    walk_at "a"
    refine b_addT (szl (by simp; omega)) ?_
    walk_at "a"
    have hS : (A.S ++ [A.S[r]'(by omega)]).length = n + 1 := by simp; omega
    have := q ⟨A.l, A.S ++ [A.S[r]'(by omega)], W⟩ ⟨a.l1, a.l6, by dsimp only; omega, by dsimp only; omega, by dsimp only; omega, fun x hx => ?_, fun x hx => ?_⟩ rfl hWn ⟨pj n r, ?_, fun x hx => ?_⟩
    · rw [sD_eq, List.map_append] at this
      exact this
    · dsimp only at hx ⊢
      rcases List.mem_append.mp hx with hx | hx
      · exact a.srow x hx
      · simp only [List.mem_singleton] at hx
        subst hx
        exact a.srow _ (List.getElem_mem _)
    · dsimp only at hx ⊢
      obtain ⟨i, hi, rfl⟩ := List.mem_iff_getElem.mp hx
      have := hd i (by omega)
      rw [eW i hi] at this
      exact ⟨this.len, by rw [hWn]; exact this.lt⟩
    · show (if 0 < n then 0 else r) = 0
      rw [if_pos (by omega)]
    · dsimp only at hx ⊢
      rw [hnn]
      have hx2 : x < n + 1 := by omega
      have ep : pj n r x = if x = n then r else x := by
        unfold pj
        by_cases h1 : x < n
        · rw [if_pos h1, if_neg (by omega)]
        · rw [if_neg h1, if_pos (by omega)]
      refine ⟨by unfold pj; split <;> omega, ?_, ?_⟩
      · rw [ep]
        unfold sr
        dsimp only
        by_cases h1 : x = n
        · have e1 : (A.S ++ [A.S[r]'(by omega)])[n]? = some (A.S[r]'(by omega)) := by
            rw [List.getElem?_append_right (by omega)]; simp [asl]
          rw [if_pos h1, h1, List.getD_eq_getElem?_getD, List.getD_eq_getElem?_getD, List.getElem?_eq_getElem (by omega), e1]
        · rw [if_neg h1, List.getD_eq_getElem?_getD, List.getD_eq_getElem?_getD, List.getElem?_append_left (by omega)]
      · rw [ep]
        exact ((hd x hx2).pr).symm
  rintro j e hj ⟨W, s5, s6, s7, s8, s9, hW, hd, rfl⟩ N hN
  have hj : j < n + 1 := by omega
  have t0 := Int.emod_nonneg (j : Int) (b := (n : Int)) (by omega)
  have t1 := Int.emod_lt_of_pos (j : Int) (b := (n : Int)) (by omega)
  obtain ⟨t, ht⟩ := Int.eq_ofNat_of_zero_le t0
  have htn : t < n := by omega
  have htj : j < n → t = j := fun h => by
    rw [Int.emod_eq_of_lt (by omega) (by omega)] at ht
    omega
  walk_at "a"
  rw [ht]
  refine x_tup (f := rowD) (by omega) ?_
  repeat walk_at "w"
  refine w_join (fun e => e = [some (.val (.tup [.int A.l, .tup (A.S.map irD), .tup (A.W.map rowD)])), some (.val (.int c)), some (.val (.int n)), some (.val (.int r)), some (.own (.lst (W.map rowD))), some (.val (.int j)), some (.val (rowD (A.W.getD (if j = n then r else j) []))), s7, s8, s9]) ?_ ?_
  rotate_left
  · intro N hN
    walk_at "a"
    refine ite_p (fun hc => ?_) (fun hc => ?_)
    · walk_at "a"
      refine x_tup (f := rowD) (by omega) ?_
      walk_at "a"
      refine hN _ ?_
      rw [if_pos (by omega), W_at (by omega)]
      rfl
    · walk_at "a"
      refine hN _ ?_
      have := htj (by omega)
      subst this
      rw [if_neg (by omega), W_at (by omega)]
      rfl
  rintro e rfl
  have hro := a.row _ (List.getElem_mem (hf j hj))
  rw [W_at (hf j hj)]
  generalize hrow : A.W[if j = n then r else j]'(hf j hj) = row at *
  rw [show rowD row = .tup (row.map fun (g : Nat) => D.int (g : Int)) from rfl]
  walk_at "a"
  refine for_rg0 (n := (A.l : Int).toNat) (by exact trivial) (fun i e => ∃ (row' : List Nat) (s8 s9 : Option Sl), DR n r i row' (row.take i) ∧
    e = [some (.val (.tup [.int A.l, .tup (A.S.map irD), .tup (A.W.map rowD)])), some (.val (.int c)), some (.val (.int n)), some (.val (.int r)), some (.own (.lst (W.map rowD))), some (.val (.int j)), some (.val (.tup (row.map fun (g : Nat) => D.int (g : Int)))), some (.own (.lst (row'.map fun (g : Nat) => D.int (g : Int)))), s8, s9]) ⟨[], s8, s9, ⟨rfl, by simp, rfl⟩, rfl⟩ ?_ ?_
  · rintro e ⟨row', s8, s9, dr, rfl⟩
    rw [Int.toNat_natCast, List.take_of_length_le (by omega)] at dr
    walk_at "a"
    refine ⟨sz (by simp; omega), ?_⟩
    walk_at "a"
    refine hN _ ⟨W ++ [row'], some (.val (.int j)), some (.val (rowD row)), some (.own (.lst (row'.map fun (g : Nat) => D.int (g : Int)))), s8, s9, by simp [hW], fun k hk => ?_, by rw [List.map_append]; rfl⟩
    by_cases ek : k = j
    · subst ek
      rw [List.getD_eq_getElem?_getD, List.getElem?_append_right (by omega), hW, Nat.sub_self, W_at (hf _ hj), hrow]
      exact dr
    · rw [List.getD_eq_getElem?_getD, List.getElem?_append_left (by omega), ← List.getD_eq_getElem?_getD]
      exact hd k (by omega)
  rintro i e hi ⟨row', s8, s9, dr, rfl⟩ N hN
  have hi : i < A.l := by omega
  have hil : i < row.length := by omega
  have hgl := hro.2 _ (List.getElem_mem hil)
  have hrl := dr.len
  walk_at "a"
  refine x_tup hil ?_
  repeat walk_at "w"
  refine w_join (fun e => ∃ g : Nat, g < n + 1 ∧ pj n r g = row[i] ∧ e = [some (.val (.tup [.int A.l, .tup (A.S.map irD), .tup (A.W.map rowD)])), some (.val (.int c)), some (.val (.int n)), some (.val (.int r)), some (.own (.lst (W.map rowD))), some (.val (.int j)), some (.val (.tup (row.map fun (g : Nat) => D.int (g : Int)))), some (.own (.lst (row'.map fun (g : Nat) => D.int (g : Int)))), some (.val (.int i)), some (.val (.int g))]) ?_ ?_
  rotate_left
  · intro N hN
    have same : pj n r row[i] = row[i] := by unfold pj; rw [if_pos (by omega)]
    walk_at "a"
    refine ite_p (fun hc => ?_) (fun hc => ?_)
    · walk_at "a"
      refine ite_p (fun hd => ?_) (fun hd => ?_)
      · walk_at "a"
        exact hN _ ⟨n, by omega, by unfold pj; rw [if_neg (by omega)]; omega, rfl⟩
      · walk_at "a"
        exact hN _ ⟨row[i], by omega, same, rfl⟩
    · walk_at "a"
      exact hN _ ⟨row[i], by omega, same, rfl⟩
  rintro e ⟨g, hg, hpj, rfl⟩
  walk_at "a"
  refine ⟨sz (by simp; omega), ?_⟩
  walk_at "a"
  refine hN _ ⟨row' ++ [g], _, _, ⟨by simp; omega, fun x hx => ?_, ?_⟩, by rw [List.map_append]; rfl⟩
  · rcases List.mem_append.mp hx with hx | hx
    · exact dr.lt x hx
    · simp only [List.mem_singleton] at hx
      subst hx; exact hg
  · rw [List.take_succ_eq_append_getElem hil, List.map_append, dr.pr]
    simp [hpj]
end
end N55

namespace N55
open PySem PySem.Spec PyProof.Rows L2 G
theorem mod_two {a m : Nat} (h : a < 2 * m) : a % m = if a < m then a else a - m := by
  split
  · exact Nat.mod_eq_of_lt ‹_›
  · rw [Nat.mod_eq_sub_mod (by omega), Nat.mod_eq_of_lt (by omega)]
/-- the law's order -/
def ordS (m s : Nat) : List Nat := 0 :: (List.range m).map fun k => 1 + (k + s) % m
theorem ordS_op {m s : Nat} (hm : 1 ≤ m) (hs : s < m) : OP (m + 1) (ordS m s) := by
  refine ⟨by simp [ordS], ?_, fun x hx => ?_, rfl⟩
  · unfold ordS
    rw [List.nodup_cons]
    refine ⟨fun h => ?_, ?_⟩
    · obtain ⟨k, _, e⟩ := List.mem_map.mp h
      omega
    · unfold List.Nodup
      rw [List.pairwise_map]
      refine List.Pairwise.imp_of_mem (fun {a b} ha hb hlt => ?_) List.pairwise_lt_range
      have ha := List.mem_range.mp ha
      have hb := List.mem_range.mp hb
      rw [mod_two (by omega), mod_two (by omega)]
      split <;> split <;> omega
  · rcases List.mem_cons.mp hx with rfl | hx
    · omega
    · obtain ⟨k, _, rfl⟩ := List.mem_map.mp hx
      have := Nat.mod_lt (k + s) (show 0 < m by omega)
      omega
section
variable {k : Nat} {ns : List Int} {h : AH} {Q : RR → AH → Prop} {X : EX → AH → Prop}
theorem order_ok {n : Nat} (h1 : 1 ≤ n) (h40 : n ≤ 1000) {c : Int} (q : ∀ o, OP n o → Q (.d (.fz (o.map fun (g : Nat) => D.int (g : Int)))) h) : wpF T cv (k + 1) f_law_order [.d (.int n), .d (.int c)] h Q X := by
  refine in_law_order ?_
  unfold b_law_order
  walk_at "a"
  refine ite_p (fun hc => ?_) (fun hc => ?_)
  · have : n = 1 := by omega
    subst this
    walk_at "a"
    exact q [0] ⟨rfl, by simp, by simp, rfl⟩
  obtain ⟨m, rfl⟩ : ∃ m, n = m + 1 := ⟨n - 1, by omega⟩
  have em : ((m + 1 : Nat) : Int) - 1 = (m : Int) := by omega
  have s0 := Int.emod_nonneg c (b := (m : Int)) (by omega)
  have s1 := Int.emod_lt_of_pos c (b := (m : Int)) (by omega)
  obtain ⟨s, hs⟩ := Int.eq_ofNat_of_zero_le s0
  walk_at "a"
  rw [em, hs]
  walk_at "a"
  refine lc_rgm (by exact trivial) (fun k => .int ((1 + (k + s) % m : Nat) : Int)) (szl (by omega)) (fun i hi Q0 q0 => ?_) ?_
  · walk_at "a"
    rw [em]
    have e : 1 + ((i : Int) + (s : Int)) % (m : Int) = ((1 + (i + s) % m : Nat) : Int) := by push_cast; rfl
    rw [e]
    exact q0
  refine ⟨szl (by simp; omega), ?_⟩
  walk_at "a"
  have := q (ordS m s) (ordS_op (by omega) (by omega))
  unfold ordS at this
  rw [List.map_cons, List.map_map] at this
  rw [Int.toNat_natCast]
  exact this
def rnS (A : Sy) (o : List Nat) : Sy := ⟨A.l, (List.range A.W.length).map fun k => sr A (o.idxOf k), (List.range A.W.length).map fun k => (A.W.getD (o.idxOf k) []).map fun g => o.getD g 0⟩
theorem rnS_ok {A : Sy} (a : A.Ok) {o : List Nat} (p : OP A.W.length o) : (rnS A o).Ok ∧ Sm A (rnS A o) o.idxOf := by
  have an1 := a.n1
  have a40 := a.n40
  have elen : (rnS A o).W.length = A.W.length := by simp [rnS]
  have eW : ∀ x, x < A.W.length → (rnS A o).W.getD x [] = (A.W.getD (o.idxOf x) []).map fun g => o.getD g 0 := fun x hx => by
    unfold rnS
    dsimp only
    rw [List.getD_eq_getElem?_getD, List.getElem?_map, List.getElem?_range hx]; rfl
  refine ⟨⟨a.l1, a.l6, by rw [elen]; exact an1, by rw [elen]; exact a40, by simp [rnS], fun r hr => ?_, fun r hr => ?_⟩, ?_, fun x hx => ?_⟩
  · obtain ⟨k, hk, rfl⟩ := List.mem_map.mp hr
    exact sr_len a (p.idxlt (List.mem_range.mp hk))
  · rw [elen]
    obtain ⟨k, hk, rfl⟩ := List.mem_map.mp hr
    have hi := p.idxlt (List.mem_range.mp hk)
    rw [W_at hi]
    obtain ⟨r1, r2⟩ := a.row _ (List.getElem_mem hi)
    refine ⟨by rw [List.length_map, r1]; rfl, fun g hg => ?_⟩
    obtain ⟨g0, h0, rfl⟩ := List.mem_map.mp hg
    exact p.atlt (r2 g0 h0)
  · have := p.idx (i := 0) (by omega)
    rwa [p.z] at this
  · rw [elen] at hx
    have hi := p.idxlt hx
    refine ⟨hi, ?_, ?_⟩
    · unfold sr rnS
      dsimp only
      rw [List.getD_eq_getElem?_getD (l := (List.range A.W.length).map _), List.getElem?_map, List.getElem?_range hx]; rfl
    · rw [eW x hx, List.map_map, W_at hi]
      refine (List.map_id _).symm.trans (List.map_congr_left fun g hg => ?_)
      exact (p.idx ((a.row _ (List.getElem_mem hi)).2 g hg)).symm
theorem renumbered_ok {A : Sy} (a : A.Ok) {o : List Nat} (p : OP A.W.length o) (q : Q (.d (sD (rnS A o))) h) : wpF T cv (k + 1) f_law_renumbered [.d (sD A), .d (.fz (o.map fun (g : Nat) => D.int (g : Int)))] h Q X := by
  refine in_law_renumbered ?_
  unfold b_law_renumbered
  have asl := a.sl
  have a40 := a.n40
  have a6 := a.l6
  have hol := p.len
  rw [sD_eq]
  walk_at "a"
  rw [asl]
  walk_at "a"
  refine for_rg0 (n := (A.W.length : Int).toNat) (by exact trivial) (fun j e => ∃ s5 s6 : Option Sl, e = [some (.val (.tup [.int A.l, .tup (A.S.map irD), .tup (A.W.map rowD)])), some (.val (.fz (o.map fun (g : Nat) => D.int (g : Int)))), some (.val (.int A.W.length)), some (.own (.lst ((List.range j).map fun k => irD (sr A (o.idxOf k))))), some (.own (.lst ((List.range j).map fun k => rowD ((A.W.getD (o.idxOf k) []).map fun g => o.getD g 0)))), s5, s6, none]) ⟨none, none, rfl⟩ ?_ ?_
  · rintro e ⟨s5, s6, rfl⟩
    rw [Int.toNat_natCast]
    walk_at "a"
    have := q
    rw [sD_eq] at this
    unfold rnS at this
    rw [List.map_map, List.map_map] at this
    exact this
  rintro j e hj ⟨s5, s6, rfl⟩ N hN
  have hj : j < A.W.length := by omega
  have hi := p.idxlt hj
  have hrow := a.row _ (List.getElem_mem hi)
  walk_at "a"
  refine ⟨⟨_, rfl⟩, ?_⟩
  walk_at "a"
  refine idx_f (f := fun (g : Nat) => D.int (g : Int)) (a := j) kf_nat rfl (p.mem hj) ?_
  walk_at "a"
  refine x_tup (f := irD) (by omega) ?_
  refine ⟨_, rfl, sz (by simp; omega), ?_⟩
  walk_at "a"
  refine x_tup (f := rowD) hi ?_
  rw [show rowD A.W[o.idxOf j] = .tup ((A.W[o.idxOf j]).map fun (g : Nat) => D.int (g : Int)) from rfl]
  walk_at "a"
  refine lc_mapL (f0 := fun (g : Nat) => D.int (g : Int)) (by exact rfl) (fun g => .int ((o.getD g 0 : Nat) : Int)) (szl (by omega)) (fun g hg Q0 q0 => ?_) ?_
  · have hgl := hrow.2 g hg
    walk_at "a"
    refine x_fz (by omega) ?_
    rw [p.at' hgl] at q0
    exact q0
  refine ⟨_, rfl, sz (by simp; omega), ?_⟩
  walk_at "a"
  refine hN _ ⟨some (.val (.int j)), some (.val (.int (o.idxOf j : Nat))), ?_⟩
  have e1 : sr A (o.idxOf j) = A.S[o.idxOf j]'(by omega) := sr_at (by omega)
  rw [List.range_succ, List.map_append, List.map_append, List.map_singleton, List.map_singleton, W_at hi, e1]
  unfold rowD
  rw [List.map_map]
  rfl
theorem another_ok {A : Sy} (a : A.Ok) (hn : A.W.length ≤ 39) {c : Int} (q : ∀ B : Sy, B.Ok → B.l = A.l → B.W.length = A.W.length + 1 → (∃ f, Sm A B f) → Q (.d (sD B)) h) : wpF T cv (k + 2) f_law_another [.d (sD A), .d (.int c)] h Q X := by
  refine in_law_another ?_
  unfold b_law_another
  walk_at "a"
  refine doubled_ok a hn fun B b e1 e2 ⟨f, sm⟩ => ?_
  have bsl := b.sl
  have bn1 := b.n1
  have b40 := b.n40
  walk_at "a"
  rw [sD_eq]
  walk_at "a"
  rw [bsl]
  refine order_ok (n := B.W.length) bn1 (by omega) fun o p => ?_
  rw [← sD_eq]
  walk_at "a"
  refine renumbered_ok b p ?_
  obtain ⟨r1, r2⟩ := rnS_ok b p
  exact ⟨_, rfl, q _ r1 e1 (by simp [rnS]; omega) ⟨_, sm.comp r2⟩⟩
end
end N55

namespace N55
open PySem PySem.Spec PyProof.Rows L2 G
section
variable {k : Nat} {ns : List Int} {h : AH} {Q : RR → AH → Prop} {X : EX → AH → Prop}
theorem set_len {α : Type} {l : List (List α)} {i n : Nat} {r : List α} (h : ∀ x ∈ l, x.length = n) (hr : r.length = n) : ∀ x ∈ l.set i r, x.length = n := fun x hx => by
  rcases List.mem_or_eq_of_mem_set hx with hx | rfl
  · exact h x hx
  · exact hr
theorem beside_ok {A : Sy} (a : A.Ok) (hn : A.W.length ≤ 12) {at0 : Nat} (hat : at0 ≤ 10000) {way : Int} (q : ∀ B : Sy, B.Ok → B.l = A.l → B.W.length ≤ A.W.length + 1 → (way % 4 = 1 → sdW A B = none) → Q (.d (sD B)) h) :
    wpF T cv (k + 4) f_law_beside [.d (sD A), .d (.fz (ns.map .int)), .d (.int at0), .d (.int way)] h Q X := by
  refine in_law_beside ?_
  unfold b_law_beside
  have asl := a.sl
  have an1 := a.n1
  have al1 := a.l1
  have al6 := a.l6
  rw [sD_eq]
  walk_at "a"
  rw [asl]
  refine ite_p (fun hw => ?_) (fun hw => ?_)
  · walk_at "a"
    refine says_ok hat al1 al6 an1 (by omega) fun B b e1 e2 => ?_
    exact ⟨_, rfl, q B b e1 (by omega) fun z => by omega⟩
  walk_at "s"
  refine cell_ok (j := 4) ?_
  walk_at "a"
  refine ⟨by unfold cPow; decide, ?_⟩
  walk_at "a"
  refine b_mod (by decide) ?_
  rw [← sD_eq]
  refine another_ok a (by omega) fun B b e1 e2 ⟨f, sm⟩ => ?_
  have bsl := b.sl
  have none1 := sm.same a b e1
  walk_at "a"
  refine ite_p (fun hw1 => ?_) (fun hw1 => ?_)
  · walk_at "a"
    exact q B b e1 (by omega) fun _ => none1
  have r0 := Int.emod_nonneg (way / 4) (b := (A.W.length : Int) + 1) (by omega)
  have r1 := Int.emod_lt_of_pos (way / 4) (b := (A.W.length : Int) + 1) (by omega)
  obtain ⟨r, hr⟩ := Int.eq_ofNat_of_zero_le r0
  have t0 := Int.emod_nonneg (way / 40) (b := (A.l : Int)) (by omega)
  have t1 := Int.emod_lt_of_pos (way / 40) (b := (A.l : Int)) (by omega)
  obtain ⟨t, ht⟩ := Int.eq_ofNat_of_zero_le t0
  have u0 := Int.emod_nonneg (way / 200) (b := (A.W.length : Int) + 1) (by omega)
  have u1 := Int.emod_lt_of_pos (way / 200) (b := (A.W.length : Int) + 1) (by omega)
  obtain ⟨u, hu⟩ := Int.eq_ofNat_of_zero_le u0
  have hrB : r < B.W.length := by omega
  have hrS : r < B.S.length := by omega
  have hs := b.srow _ (List.getElem_mem hrS)
  have hwr := b.row _ (List.getElem_mem hrB)
  have hb6 := b.n40
  walk_at "a"
  rw [hr, ht]
  refine ite_p (fun hw2 => ?_) (fun hw2 => ?_)
  · rw [sD_eq B]
    walk_at "a"
    refine x_tup (f := irD) hrS ?_
    walk_at "a"
    refine x_tup (f := irD) hrS ?_
    rw [show irD B.S[r] = .tup ((B.S[r]).map .int) from rfl]
    walk_at "a"
    refine x_tup (by omega) ?_
    walk_at "a"
    refine put_ok (f := D.int) (by omega) (by omega) ?_
    walk_at "a"
    rw [show D.tup (((B.S[r]).set t ((B.S[r][t] + 1) % 2)).map D.int) = irD ((B.S[r]).set t ((B.S[r][t] + 1) % 2)) from rfl]
    refine put_ok (f := irD) hrS (by omega) ?_
    walk_at "a"
    have := q ⟨A.l, B.S.set r ((B.S[r]).set t ((B.S[r][t] + 1) % 2)), B.W⟩ ⟨al1, al6, b.n1, b.n40, by rw [List.length_set]; exact b.sl, ?_, ?_⟩ rfl (by dsimp only; omega) (fun z => by omega)
    · exact this
    · dsimp only
      rw [← e1]
      exact set_len b.srow (by rw [List.length_set]; exact hs)
    · dsimp only
      rw [← e1]
      exact b.row
  · rw [sD_eq B]
    walk_at "a"
    refine x_tup (f := rowD) hrB ?_
    walk_at "a"
    rw [hu]
    rw [show rowD B.W[r] = .tup ((B.W[r]).map fun (g : Nat) => D.int (g : Int)) from rfl]
    refine put_ok (f := fun (g : Nat) => D.int (g : Int)) (by omega) (by omega) ?_
    walk_at "a"
    rw [show D.tup (((B.W[r]).set t u).map fun (g : Nat) => D.int (g : Int)) = rowD ((B.W[r]).set t u) from rfl]
    refine put_ok (f := rowD) hrB (by omega) ?_
    walk_at "a"
    have := q ⟨A.l, B.S, B.W.set r ((B.W[r]).set t u)⟩ ⟨al1, al6, by dsimp only; rw [List.length_set]; exact b.n1, by dsimp only; rw [List.length_set]; exact b.n40, by dsimp only; rw [List.length_set]; exact b.sl, ?_, ?_⟩ rfl (by dsimp only; rw [List.length_set]; omega) (fun z => by omega)
    · exact this
    · dsimp only
      rw [← e1]
      exact b.srow
    · dsimp only
      rw [List.length_set, ← e1]
      intro x hx
      rcases List.mem_or_eq_of_mem_set hx with hx | rfl
      · exact b.row x hx
      · refine ⟨by rw [List.length_set]; exact hwr.1, fun g hg => ?_⟩
        rcases List.mem_or_eq_of_mem_set hg with hg | rfl
        · exact hwr.2 g hg
        · omega
theorem wide_ok {c : Int} (q : ∀ A : Sy, A.Ok → A.l = 3 → Q (.d (sD A)) h) : wpF T cv (k + 1) f_law_wide [.d (.int c)] h Q X := by
  refine in_law_wide ?_
  unfold b_law_wide
  obtain ⟨n, hn⟩ := Int.eq_ofNat_of_zero_le (a := 14 + c % 27) (by omega)
  walk_at "a"
  rw [hn]
  refine for_rg0 (n := (n : Int).toNat) (by exact trivial) (fun j e => ∃ (S : List (List Int)) (W : List (List Nat)) (s4 s5 : Option Sl), S.length = j ∧ W.length = j ∧ (∀ r ∈ S, r.length = 3) ∧ (∀ r ∈ W, r.length = 3 ∧ ∀ g ∈ r, g < n) ∧
    e = [some (.val (.int c)), some (.val (.int n)), some (.own (.lst (S.map irD))), some (.own (.lst (W.map rowD))), s4, s5, none]) ⟨[], [], none, none, rfl, rfl, by simp, by simp, rfl⟩ ?_ ?_
  · rintro e ⟨S, W, s4, s5, e1, e2, h1, h2, rfl⟩
    walk_at "a"
    have hWn : W.length = n := by omega
    exact q ⟨3, S, W⟩ ⟨by dsimp only; omega, by dsimp only; omega, by dsimp only; omega, by dsimp only; omega, by dsimp only; omega, h1, by dsimp only; rw [hWn]; exact h2⟩ rfl
  rintro j e hj ⟨S, W, s4, s5, e1, e2, h1, h2, rfl⟩ N hN
  have hj : j < n := by omega
  walk_at "a"
  refine lc_rgs (n := (3 : Int).toNat) (by exact trivial) D.int (fun _ => True) (szl (by omega)) (fun i hi Q0 q0 => ?_) fun r hr _ => ?_
  · walk_at "a"
    exact q0 _ trivial
  walk_at "a"
  refine ⟨sz (by simp; omega), ?_⟩
  walk_at "a"
  refine ⟨sz (by simp; omega), ?_⟩
  walk_at "a"
  have pos : (0 : Int) < (n : Int) := by omega
  have f : ∀ x : Int, ∃ g : Nat, g < n ∧ x % (n : Int) = g := fun x => by
    have x0 := Int.emod_nonneg x (b := (n : Int)) (by omega)
    have x1 := Int.emod_lt_of_pos x pos
    exact ⟨(x % (n : Int)).toNat, by omega, by omega⟩
  obtain ⟨g1, hg1, eg1⟩ := f ((j : Int) + 1)
  obtain ⟨g2, hg2, eg2⟩ := f ((j : Int) * (1 + c / 27 % 5) + c / 135)
  obtain ⟨g3, hg3, eg3⟩ := f ((j : Int) * (j : Int) + c / 1009)
  rw [eg1, eg2, eg3]
  refine hN _ ⟨S ++ [r], W ++ [[g1, g2, g3]], some (.val (.int j)), some (.val (.int g2)), by simp [e1], by simp [e2], fun x hx => ?_, fun x hx => ?_, ?_⟩
  · rcases List.mem_append.mp hx with hx | hx
    · exact h1 x hx
    · simp only [List.mem_singleton] at hx
      subst hx; exact hr
  · rcases List.mem_append.mp hx with hx | hx
    · exact h2 x hx
    · simp only [List.mem_singleton] at hx
      subst hx
      refine ⟨rfl, fun g hg => ?_⟩
      simp only [List.mem_cons, List.not_mem_nil, or_false] at hg
      omega
  · rw [List.map_append, List.map_append]; rfl
end
end N55

namespace N55
open PySem PySem.Spec PyProof.Rows L2 G
theorem kf_wD' : KF wD := kf_wD
theorem oW_eq {a b : Option (List Nat)} (e : a = b) {h : AH} {P : D → Prop} (q : P (.bl true)) : cmpW .eq h (.d (oW a)) (.d (oW b)) P := by
  subst e
  cases a with
  | none => exact c_eqS (a := .non) rfl rfl rfl q
  | some w => exact c_eqS (a := wD w) rfl rfl (fla_wD w 59) q
theorem oW_ne {a b : Option (List Nat)} (e : a = b) {h : AH} {P : D → Prop} (q : P (.bl false)) : cmpW .ne h (.d (oW a)) (.d (oW b)) P := by
  subst e
  cases a with
  | none => exact c_neS (a := .non) rfl rfl rfl q
  | some w => exact c_neS (a := wD w) rfl rfl (fla_wD w 59) q
section
variable {k : Nat} {ns : List Int} {h : AH} {Q : RR → AH → Prop} {X : EX → AH → Prop}
theorem wide_good_ok {c : Int} (q : ∀ h', Q (.d (.bl true)) h') : wpF T cv (k + 6) f_law_wide_good [.d (.int c)] h Q X := by
  refine in_law_wide_good ?_
  unfold b_law_wide_good
  walk_at "a"
  refine wide_ok fun A a al => ?_
  have asl := a.sl
  have an1 := a.n1
  have a40 := a.n40
  walk_at "a"
  rw [sD_eq A]
  walk_at "a"
  rw [asl]
  refine order_ok (n := A.W.length) an1 (by omega) fun o p => ?_
  walk_at "a"
  rw [← sD_eq]
  refine renumbered_ok a p ?_
  obtain ⟨b0, _⟩ := rnS_ok a p
  have bn0 : (rnS A o).W.length = A.W.length := by simp [rnS]
  have bl0 : (rnS A o).l = 3 := al
  generalize rnS A o = B0 at *
  repeat walk_at "w"
  refine w_join (fun e => ∃ (B : Sy) (s7 s8 s9 : Option Sl), B.Ok ∧ B.l = A.l ∧ e = [some (.val (.int c)), some (.val (sD A)), some (.val (.int A.W.length)), some (.val (sD B)), none, none, none, s7, s8, s9]) ?_ ?_
  rotate_left
  · intro N hN
    walk_at "a"
    refine ite_p (fun hc => ?_) (fun hc => ?_)
    · have r0 := Int.emod_nonneg (c / 29) (b := (A.W.length : Int)) (by omega)
      have r1 := Int.emod_lt_of_pos (c / 29) (b := (A.W.length : Int)) (by omega)
      obtain ⟨r, hr⟩ := Int.eq_ofNat_of_zero_le r0
      have t0 := Int.emod_nonneg (c / 31) (b := 3) (by omega)
      have t1 := Int.emod_lt_of_pos (c / 31) (b := 3) (by omega)
      obtain ⟨t, ht⟩ := Int.eq_ofNat_of_zero_le t0
      have bsl := b0.sl
      have hrS : r < B0.S.length := by omega
      have hs := b0.srow _ (List.getElem_mem hrS)
      walk_at "a"
      rw [hr, ht, sD_eq B0]
      walk_at "a"
      refine x_tup (f := irD) hrS ?_
      walk_at "a"
      refine x_tup (f := irD) hrS ?_
      rw [show irD B0.S[r] = .tup ((B0.S[r]).map .int) from rfl]
      walk_at "a"
      refine x_tup (by omega) ?_
      walk_at "a"
      refine put_ok (f := D.int) (by omega) (by omega) ?_
      walk_at "a"
      rw [show D.tup (((B0.S[r]).set t (B0.S[r][t] + 1)).map D.int) = irD ((B0.S[r]).set t (B0.S[r][t] + 1)) from rfl]
      refine put_ok (f := irD) hrS (by omega) ?_
      walk_at "a"
      refine hN _ ⟨⟨3, B0.S.set r ((B0.S[r]).set t (B0.S[r][t] + 1)), B0.W⟩, some (.val (.int r)), some (.val (.int t)), some (.val (irD ((B0.S[r]).set t (B0.S[r][t] + 1)))), ⟨by dsimp only; omega, by dsimp only; omega, b0.n1, b0.n40, by rw [List.length_set]; exact b0.sl, ?_, ?_⟩, al.symm, rfl⟩
      · dsimp only
        rw [← bl0]
        exact set_len b0.srow (by rw [List.length_set]; exact hs)
      · dsimp only
        rw [← bl0]
        exact b0.row
    · walk_at "a"
      exact hN _ ⟨B0, none, none, none, b0, by omega, rfl⟩
  rintro e ⟨B, s7, s8, s9, b, hl, rfl⟩
  have hhead := uw_head a b hl
  have hul : (uw A B).length ≤ 3 * 1600 := by
    have h1 := uw_len (A := A) (B := B) (M := metS A B)
    have h2 := (met_len a b hl).1
    rw [al] at h1
    exact Nat.le_trans h1 (Nat.mul_le_mul_left 3 h2)
  walk_at "a"
  refine unlike_words_ok a b hl ?_
  walk_at "a"
  refine for_ix (by exact rfl) (fun j e => ∃ s5 : Option Sl, e = [some (.val (.int c)), some (.val (sD A)), some (.val (.int A.W.length)), some (.val (sD B)), some (.val (oW (((uw A B).take j).head?))), s5, none, s7, s8, s9]) ⟨none, rfl⟩ ?_ ?_
  rotate_left
  · rintro j hj e ⟨s5, rfl⟩ N hN
    rw [List.length_map] at hj
    rw [List.getElem_map]
    have et : (uw A B).take (j + 1) = (uw A B).take j ++ [(uw A B)[j]] := List.take_succ_eq_append_getElem hj
    walk_at "a"
    cases e0 : ((uw A B).take j).head? with
    | none =>
      have e1 : (uw A B).take j = [] := by
        cases hh : (uw A B).take j with
        | nil => rfl
        | cons x l => rw [hh] at e0; cases e0
      rw [show oW none = .non from rfl]
      walk_at "a"
      refine hN _ ⟨some (.val (wD (uw A B)[j])), ?_⟩
      rw [et, e1]; rfl
    | some w =>
      rw [show oW (some w) = .tup (w.map fun (g : Nat) => D.int (g : Int)) from rfl]
      walk_at "a"
      refine hN _ ⟨some (.val (wD (uw A B)[j])), ?_⟩
      rw [et, List.head?_append, e0]; rfl
  rintro e ⟨s5, rfl⟩
  rw [List.length_map, List.take_length, hhead]
  walk_at "s"
  refine says_difference_ok a b (fun _ h1 => ?_) (fun z => absurd hl z)
  walk_at "a"
  cases e0 : sdW A B with
  | none =>
    rw [show oW none = .non from rfl]
    walk_at "a"
    refine oW_eq (a := none) (b := none) rfl ?_
    walk_at "a"
    refine says_difference_ok b a (fun _ h2 => ?_) (fun z => absurd hl.symm z)
    rw [sdW_swap a b hl, e0]
    walk_at "a"
    refine oW_eq (a := none) (b := none) rfl ?_
    exact ⟨_, rfl, q h2⟩
  | some v =>
    obtain ⟨w, d, rfl, hw, hd, _⟩ := sd_some a b hl e0
    have ev : oW (some (w ++ [d])) = wD (w ++ [d]) := rfl
    have ev2 : wD (w ++ [d]) = .tup ((w ++ [d]).map fun (g : Nat) => D.int (g : Int)) := rfl
    rw [ev, ev2]
    walk_at "a"
    rw [← ev2]
    refine is_word_ok (l := 3) (fun x hx => ?_) ?_
    · rcases List.mem_append.mp hx with hx | hx
      · have := hw x hx; omega
      · simp only [List.mem_singleton] at hx
        subst hx; omega
    walk_at "a"
    refine oW_eq (a := some (w ++ [d])) (b := some (w ++ [d])) rfl ?_
    walk_at "a"
    refine says_difference_ok b a (fun _ h2 => ?_) (fun z => absurd hl.symm z)
    rw [sdW_swap a b hl, e0]
    walk_at "a"
    refine oW_eq (a := some (w ++ [d])) (b := some (w ++ [d])) rfl ?_
    exact ⟨_, rfl, q h2⟩
end
def rmL : List Int := [5, 3, 2, 1, 1, 1]
theorem rmL_b : ∀ j, j < 6 → 1 ≤ (rmL.getD j 0).toNat ∧ (rmL.getD j 0).toNat ≤ 5 ∧ 0 ≤ rmL.getD j 0 ∧ (j + 1) ^ (2 * (rmL.getD j 0).toNat) ≤ 1000000 := by decide
theorem law_ok (ns : List Int) (hl : ns.length ≤ 63) : wpF T cv 21 f_law [.d (.fz (ns.map .int))] [] (fun r _ => r = .d (.bl true)) fun _ _ => False := by
  refine in_law ?_
  unfold b_law
  walk_at "a"
  refine cell_ok (j := 0) ?_
  walk_at "a"
  refine ite_p (fun hc => ?_) (fun hc => ?_)
  · walk_at "a"
    refine cell_ok (j := 4) ?_
    walk_at "a"
    refine ⟨by unfold cPow; decide, ?_⟩
    walk_at "a"
    refine b_mod (by decide) ?_
    refine wide_good_ok fun h' => ?_
    exact ⟨_, rfl, rfl⟩
  walk_at "a"
  refine cell_ok (j := 0) ?_
  walk_at "a"
  refine cell_ok (j := 0) ?_
  generalize ns.getD 0 0 = c0
  obtain ⟨l, hl'⟩ := Int.eq_ofNat_of_zero_le (a := 1 + c0 % 3 + c0 / 3 % 4 / 3 * 3) (by omega)
  have l1 : 1 ≤ l := by omega
  have l6 : l ≤ 6 := by omega
  walk_at "a"
  rw [hl']
  refine cell_ok (j := 1) ?_
  generalize ns.getD 1 0 = c1
  walk_at "a"
  refine ⟨[.int 5, .int 3, .int 2, .int 1, .int 1, .int 1], rfl, szl (by simp), ?_⟩
  walk_at "a"
  obtain ⟨R1, R2, R3, R4⟩ := rmL_b (l - 1) (by omega)
  have hRl : l - 1 < rmL.length := by show l - 1 < 6; omega
  have eR : rmL.getD (l - 1) 0 = rmL[l - 1] := by rw [List.getD_eq_getElem?_getD, List.getElem?_eq_getElem hRl]; rfl
  rw [show D.fz [.int 5, .int 3, .int 2, .int 1, .int 1, .int 1] = .fz (rmL.map .int) from rfl, show (l : Int) - 1 = ((l - 1 : Nat) : Int) from by omega]
  refine x_fz hRl ?_
  rw [← eR]
  rw [show l - 1 + 1 = l from by omega] at R4
  generalize rmL.getD (l - 1) 0 = R at *
  have n0 := Int.emod_nonneg c1 (b := R) (by omega)
  have n1 := Int.emod_lt_of_pos c1 (b := R) (by omega)
  obtain ⟨n, hn⟩ := Int.eq_ofNat_of_zero_le (a := 1 + c1 % R) (by omega)
  walk_at "a"
  rw [hn]
  refine says_ok (at0 := 5) (by omega) l1 l6 (by omega) (by omega) fun A a al an => ?_
  walk_at "s"
  refine cell_ok (j := 2) ?_
  walk_at "a"
  refine ⟨by unfold cPow; decide, ?_⟩
  walk_at "a"
  refine b_mod (by decide) ?_
  generalize ns.getD 2 0 % 10 ^ (9 : Int).toNat = way
  walk_at "a"
  have hln : l * n ≤ 6 * 5 := Nat.mul_le_mul l6 (by omega)
  rw [show 5 + 2 * (l : Int) * (n : Int) = ((5 + 2 * (l * n) : Nat) : Int) from by push_cast; rw [Int.mul_assoc]]
  refine beside_ok a (by omega) (by omega) fun B b bl bn hway => ?_
  walk_at "s"
  refine says_difference_ok a b (fun _ h1 => ?_) (fun z => absurd bl z)
  walk_at "s"
  refine says_difference_ok b a (fun _ h2 => ?_) (fun z => absurd bl.symm z)
  rw [sdW_swap a b bl]
  walk_at "a"
  refine oW_ne rfl ?_
  have hhead := uw_head a b bl
  have fin : ∀ (h3 : AH) (w : D), wpSs (wpF T cv 20) cv (.cons (.asg (.nm 7) (.call 13 (.cons (.var 0) (.cons (.int 3) (.cons (.bin .add (.bin .mod (.var 1) (.int 6)) (.int 1)) (.cons (.bin .add (.int 1) (.bin .mod (.call 9 (.cons (.var 0) (.cons (.int 3) .nil))) (.int 3))) .nil)))))) (.cons (.ret (.andV (.call 24 (.cons (.var 3) (.cons (.var 7) .nil))) (.call 25 (.cons (.var 7) (.cons (.var 5) .nil))))) .nil))
      [some (.val (.fz (ns.map .int))), some (.val (.int l)), some (.val (.int n)), some (.val (sD A)), some (.val (.int way)), some (.val (sD B)), some (.val w), none] h3 ⟨fun _ h' => RR.d D.non = RR.d (D.bl true), fun r _ => r = .d (.bl true), fun _ _ => False, fun _ _ => False, fun _ _ _ => False⟩ := fun h3 w => by
    walk_at "a"
    refine cell_ok (j := 3) ?_
    generalize ns.getD 3 0 = c3
    obtain ⟨l3, hl3⟩ := Int.eq_ofNat_of_zero_le (a := (l : Int) % 6 + 1) (by omega)
    obtain ⟨n3, hn3⟩ := Int.eq_ofNat_of_zero_le (a := 1 + c3 % 3) (by omega)
    walk_at "a"
    rw [hl3, hn3]
    refine says_ok (at0 := 3) (by omega) (by omega) (by omega) (by omega) (by omega) fun C c' cl cn => ?_
    walk_at "a"
    refine refused_ok a c' (by omega) fun h4 => ?_
    walk_at "a"
    refine by_any_ok c' b (by omega) fun h5 => ?_
    exact ⟨_, rfl, rfl⟩
  repeat walk_at "w"
  refine w_joinH (fun e h' => ∃ w : D, e = [some (.val (.fz (ns.map .int))), some (.val (.int l)), some (.val (.int n)), some (.val (sD A)), some (.val (.int way)), some (.val (sD B)), some (.val w), none]) ?_ ?_
  · rintro e h3 ⟨w, rfl⟩
    exact fin h3 w
  intro N hN
  cases e0 : sdW A B with
  | none =>
    rw [e0] at hhead
    have eu : uw A B = [] := by
      cases hh : uw A B with
      | nil => rfl
      | cons x l => rw [hh] at hhead; cases hhead
    rw [show oW none = .non from rfl]
    walk_at "a"
    refine unlike_words_ok a b bl ?_
    rw [eu]
    walk_at "a"
    exact hN _ _ ⟨_, rfl⟩
  | some v =>
    have hw1 : way % 4 ≠ 1 := fun z => by rw [hway z] at e0; cases e0
    obtain ⟨w, d, ev, hw, hd, _, _, hlen⟩ := sd_some a b bl e0
    have hv : ∀ c ∈ v, c < A.l := fun c hc => by
      rw [ev] at hc
      rcases List.mem_append.mp hc with hc | hc
      · exact hw c hc
      · simp only [List.mem_singleton] at hc
        subst hc; exact hd
    have hv1 : 1 ≤ v.length := by rw [ev]; simp
    have asl := a.sl
    have bsl := b.sl
    rw [show oW (some v) = .tup (v.map fun (g : Nat) => D.int (g : Int)) from rfl]
    walk_at "a"
    rw [show D.tup (v.map fun (g : Nat) => D.int (g : Int)) = wD v from rfl]
    refine is_word_ok (l := l) (by rw [← al]; exact hv) ?_
    rw [show wD v = .tup (v.map fun (g : Nat) => D.int (g : Int)) from rfl]
    walk_at "a"
    refine ite_p (fun hc => absurd hc (by omega)) (fun _ => ?_)
    walk_at "a"
    refine ite_p (fun hc => absurd hc (by omega)) (fun _ => ?_)
    rw [sD_eq A, sD_eq B]
    walk_at "a"
    rw [asl, bsl]
    refine ite_p (fun hc => absurd hc (by omega)) (fun _ => ?_)
    rw [← sD_eq A, ← sD_eq B]
    walk_at "a"
    refine first_unlike_ok a b bl e0 (fun s hs => ?_) ?_
    · have h1 : s + 1 ≤ 2 * R.toNat := by omega
      have h2 := Nat.pow_le_pow_right a.l1 h1
      rw [al] at h2 ⊢
      omega
    walk_at "a"
    refine oW_ne (a := some v) (b := some v) rfl ?_
    walk_at "a"
    exact hN _ _ ⟨_, rfl⟩
end N55

namespace N55
open PySem L2 G
def loose : List PySem.Str := "AskError" :: "BadHouse" :: "BadWord" :: "is_word" :: "trail" :: "room_behind" :: "same_letters" :: "met_from" :: "unlike_from" :: "difference" :: "marked_rows" :: "says_difference" :: "_law_cell" :: "_law_whole" :: "_law_big" :: "_law_mark" :: "_law_says" :: "_law_is_word" :: "_law_doubled" :: "_law_order" :: "_law_renumbered" :: "_law_another" :: "_law_pairs" :: "_law_unlike_words" :: "_law_first_unlike" :: "_law_put" :: "_law_beside" :: "_law_refused" :: "_law_refused_by_any" :: "_law_wide" :: "_law_wide_good" :: []
abbrev lawAt : Nat := 37
abbrev lawIx : Nat := f_law
abbrev depth : Nat := 4
end N55

namespace N55
open PySem L2 G
theorem tabs_ok : tabs.okB csl = true := by kernel_rfl
abbrev R : PySem.W.OpenRow := PySem.W.OpenLaw.row PySem.Challenge.rw_guesswide_k55_whole_says_difference
abbrev hk : PySem.W.Hook := hookG depth tabs csl
def ob (s : PySem.W.SharedT) : He.AlD × Bool := obG depth tabs csl (HandSHeadRun.getT s)
theorem ob_eq (s : PySem.W.SharedT) : ob s = hk.obs s.abs := obG_eq (HandSHeadRun.getT_eq s)
theorem run (w : World) : HandSHeadRun.RunEq R (PySem.W.view R.prog [lawAt]) hk ob 2000 loose w := by
  intro os
  kernel_rfl
end N55

open PySem PySem.W PySem.Calls PyProof.Rows
theorem PySem.Challenge.cw_guesswide_k55_whole_says_difference_holds : PySem.Challenge.rw_guesswide_k55_whole_says_difference.Holds := by
  w_on; o_law
  refine HandSHeadRun.head_any (r := OpenLaw.row PySem.Challenge.rw_guesswide_k55_whole_says_difference) (q := view (OpenLaw.row PySem.Challenge.rw_guesswide_k55_whole_says_difference).prog [N55.lawAt]) (H := N55.hk) (ob := N55.ob) (M := 2000) (loose := N55.loose) (d := HandSHeadRun.topDef (OpenLaw.row PySem.Challenge.rw_guesswide_k55_whole_says_difference).prog N55.lawAt) (kwd := []) N55.ob_eq
    (by kernel_rfl) (fun s => by kernel_rfl) N55.run (by kernel_rfl) (by kernel_rfl) (by kernel_rfl) (by rfl) (by first | assumption | decide +kernel) (by decide +kernel) ⟨rfl, rfl, rfl, rfl, rfl, by decide +kernel⟩ ?hw ?hc
  case hw => w_witness2
  case hc =>
    refine L2.walk_ofE (l := PySem.Challenge.rw_guesswide_k55_whole_says_difference) (n := 63) (k := 22) (x := "script") (CX := L2.CX0) rfl (by decide) (by kernel_rfl) ⟨rfl, by decide, by decide⟩ ?F (fun _ _ _ _ z => z)
    intro w mg fa h Y Gl hmg0
    obtain ⟨K, KX, c, ex⟩ := Y
    have hmg : mg ("law" : PySem.Str) = some (.ref fa) := by
      have e : (HandSHeadRun.topDef (OpenLaw.row PySem.Challenge.rw_guesswide_k55_whole_says_difference).prog N55.lawAt).name = ("law" : PySem.Str) := by kernel_rfl
      rw [← e]
      exact hmg0
    have M := G.mo_of (P := (PySem.Challenge.rw_guesswide_k55_whole_says_difference).prog) (w := w) KX Gl c ex N55.tabs_ok N55.bind_all
    obtain ⟨fd, hm, hb, F⟩ := M.law (k := 20) (f := N55.lawIx) (y := N55.di_law) rfl rfl
    have e := hmg.symm.trans hm
    cases e
    exact ⟨K, fd, (fun vs H Q _ => G.spI (G.Cof K N55.tabs) K (G.wpF N55.T N55.cv 21) N55.lawIx vs H Q fun _ _ _ => False), KX, fun s u => hb s [u] rfl, fun H a ns hl _ hS => G.spI_law (N55.law_ok ns hl) hS, fun base _ _ => F base⟩
