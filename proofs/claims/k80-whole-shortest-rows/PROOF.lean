import PyProof.Rows.All
import Wide.All
import OpenK.AllK
import Wide.FinOn
import KE.KStateDown
import KE.DataCmp
import Lean
import HandS.ForMost
import HandS.Exc
import HandS.ExcOwn
import HandS.WordsExc
import HandS.CallSlots
import HandS.TupAny
import HandS.TupMul
import HandS.TupLe
import HandS.Deep
import HandS.Conv
import HandS.IsInst
import HandS.Flow
import HandS.Small
import HandS.TupLen
import HandS.Defaults
import HandS.SetKeys
import HandS.More
import HandS.ExcIs
import HandS.TryOnly
import PyProof.DictMoreH
import KE.SortKeyHeap
import HandS.SortKw
import HandS.Rev
import HandS.Zip
import HandS.SortInts
import HandS.Head0
import HandS.Head1
import HandS.Head2
import HandS.HeadEnd
import HandS.HeadHook1
import HandS.HeadHook2
import PySem.Challenge.RW_guesswide_k80_whole_shortest_rows
set_option Elab.async false
set_option linter.all false
set_option maxRecDepth 100000
set_option maxHeartbeats 4000000

/-! Core1: a small core language for Python defs, its values, its wp (a predicate transformer by recursion over the text). -/
namespace G
open PySem L2

/-! ### values -/
/-- a value that may be stored: tuples and frozen lists by value, what may change by its number in the heap -/
inductive D where
  | non | bl (b : Bool) | int (i : Int) | str (z : Str) | tup (xs : List D) | fz (xs : List D) | ref (n : Nat)
instance : Inhabited D := ⟨.non⟩
/-- an object that may change -/
inductive AO where
  | lst (xs : List D) | dK (kvs : List (Key × D)) | dT (kvs : List (List Key × D)) | ins (c : Nat) (fs : List (Str × D))
/-- what an expression gives: a value; an own local object, read; a caller's, read -/
inductive VV where
  | d (x : D) | tw (o : AO) | bw (o : AO)
/-- what a def gives: a value, or a new object that nobody else knows -/
inductive RR where
  | d (x : D) | mv (o : AO)
/-- what a slot holds -/
inductive Sl where
  | val (x : D) | own (o : AO) | bor (o : AO)
abbrev AH := List AO
abbrev Ev := List (Option Sl)
/-- an exception: its class, its fields -/
structure EX where
  c : Nat
  fs : List (Str × D)

def D.key : D → Option Key
  | .int i => some (.inl i)
  | .str z => some (.inr z)
  | _ => none
def keysOf : List D → Option (List Key)
  | [] => some []
  | x :: xs => match x.key, keysOf xs with
    | some k, some ks => some (k :: ks)
    | _, _ => none
def kD : Key → D
  | .inl i => .int i
  | .inr z => .str z
def D.keys : D → Option (List Key)
  | .tup xs => keysOf xs
  | _ => none
def gV {κ : Type} [DecidableEq κ] (kvs : List (κ × D)) (k : κ) : Option D := (kvs.find? fun kv => decide (kv.1 = k)).map (·.2)
def pV {κ : Type} [DecidableEq κ] (kvs : List (κ × D)) (k : κ) (v : D) : List (κ × D) :=
  if (kvs.any fun kv => decide (kv.1 = k)) = true then kvs.map (fun kv => if kv.1 = k then (kv.1, v) else kv) else kvs ++ [(k, v)]
/-- a look into a dict: none: the key is not of its kind -/
def AO.get : AO → D → Option (Option D)
  | .dK kvs, x => x.key.map fun k => gV kvs k
  | .dT kvs, x => x.keys.map fun k => gV kvs k
  | _, _ => none
def AO.put : AO → D → D → Option AO
  | .dK kvs, x, v => x.key.bind fun k => if kvs.length < sizeLine then some (.dK (pV kvs k v)) else none
  | .dT kvs, x, v => x.keys.bind fun k => if kvs.length < sizeLine then some (.dT (pV kvs k v)) else none
  | _, _, _ => none
def AO.keyList : AO → Option (List D)
  | .dK kvs => some (kvs.map fun kv => kD kv.1)
  | .dT kvs => some (kvs.map fun kv => .tup (kv.1.map kD))
  | _ => none
def AO.items : AO → Option (List D)
  | .dK kvs => some (kvs.map fun kv => .tup [kD kv.1, kv.2])
  | .dT kvs => some (kvs.map fun kv => .tup [.tup (kv.1.map kD), kv.2])
  | _ => none
def AO.isD : AO → Bool
  | .dK _ => true
  | .dT _ => true
  | _ => false
def AO.size : AO → Option Nat
  | .lst xs => some xs.length
  | .dK kvs => some kvs.length
  | .dT kvs => some kvs.length
  | _ => none

/-- the object that a value shows -/
def VV.obj (h : AH) : VV → Option AO
  | .d (.fz xs) => some (.lst xs)
  | .d (.ref n) => h[n]?
  | .d _ => none
  | .tw o => some o
  | .bw o => some o
def AO.list : AO → Option (List D)
  | .lst xs => some xs
  | _ => none
/-- the items of a list or a tuple -/
def VV.seq (h : AH) : VV → Option (List D)
  | .d (.tup xs) => some xs
  | v => (v.obj h).bind AO.list
def VV.len (h : AH) : VV → Option Nat
  | .d (.tup xs) => some xs.length
  | .d (.str z) => if z.length ≤ sizeLine then some z.length else none
  | v => (v.obj h).bind AO.size

/-! ### equality -/
mutual
def D.eqv : D → D → Bool
  | .non, .non => true
  | .bl a, .bl b => a == b
  | .bl a, .int j => (if a then 1 else 0) == j
  | .int i, .bl b => i == (if b then 1 else 0)
  | .int i, .int j => i == j
  | .str x, .str y => x == y
  | .fz xs, .fz ys => D.eqvs xs ys
  | .tup xs, .tup ys => D.eqvs xs ys
  | _, _ => false
def D.eqvs : List D → List D → Bool
  | [], [] => true
  | x :: xs, y :: ys => D.eqv x y && D.eqvs xs ys
  | _, _ => false
end
mutual
/-- the two can be put in an order -/
def D.alike : D → D → Bool
  | .bl _, .bl _ => true
  | .int _, .int _ => true
  | .fz xs, .fz ys => D.alikes xs ys
  | .tup xs, .tup ys => D.alikes xs ys
  | _, _ => false
def D.alikes : List D → List D → Bool
  | x :: xs, y :: ys => D.alike x y && D.alikes xs ys
  | [], _ => true
  | _ :: _, [] => true
end
mutual
def D.ltd : D → D → Bool
  | .bl a, .bl b => !a && b
  | .int i, .int j => decide (i < j)
  | .fz xs, .fz ys => D.ltds xs ys
  | .tup xs, .tup ys => D.ltds xs ys
  | _, _ => false
def D.ltds : List D → List D → Bool
  | [], [] => false
  | [], _ :: _ => true
  | _ :: _, [] => false
  | x :: xs, y :: ys => if D.eqv x y = true then D.ltds xs ys else D.ltd x y
end
mutual
/-- no number of the heap within, texts of signs, nested to n at most -/
def D.fla (n : Nat) : D → Bool
  | .non => true
  | .bl _ => true
  | .int _ => true
  | .str z => z.cps.all (· < 0x110000)
  | .tup xs => match n with
    | 0 => false
    | m + 1 => D.flas m xs
  | .fz xs => match n with
    | 0 => false
    | m + 1 => D.flas m xs
  | .ref _ => false
def D.flas (n : Nat) : List D → Bool
  | [] => true
  | x :: xs => D.fla n x && D.flas n xs
end
/-- as data: a list's items by value -/
def VV.dat (h : AH) : VV → Option D
  | .d (.ref n) => (h[n]?).bind fun o => o.list.map .fz
  | .d x => some x
  | .tw o => o.list.map .fz
  | .bw o => o.list.map .fz

/-! ### the text -/
inductive BO where
  | add | sub | mul | fdiv | mod | pow
inductive CO where
  | eq | ne | lt | le | gt | ge | isN | notN | isIn | notIn | ltD | leD | gtD | geD | isB | notB
/-- built-in functions -/
inductive BI where
  | len | abs | min2 | max2 | sumL | maxL | minL | allL | anyL | intOf
  | isI (T : String)
inductive CG where
  | nm (i : Nat) | tp (is : List Nat)
mutual
inductive CE where
  | var (i : Nat) | int (i : Int) | bl (b : Bool) | non | str (z : Str) | glob (j : Nat)
  | bin (o : BO) (a b : CE) | neg (a : CE)
  | cmp (o : CO) (a b : CE) | chain (o o' : CO) (a b c : CE)
  | andV (a b : CE) | orV (a b : CE) | notV (a : CE)
  | ite (t : CT) (a b : CE)
  | tup (es : CEs) | ix (a b : CE) | slc (a : CE) (lo hi : CO2)
  | call (f : Nat) (es : CEs) | bi (b : BI) (es : CEs)
  | tupOf (l : LE) | tupE (a : CE) | fzOf (l : LE) | tupRev (a : CE)
  | getD (o k : CE) | getD2 (o k d : CE)
  | newL (l : LE) | newD (t : Bool) | sdf (o k v : CE)
  | appX (o a : CE) | extX (o : CE) (l : LE) | clrX (o : CE) | popX (o : CE) | popAt (o i : CE) | insX (o i a : CE)
  | idx (o a : CE) | divm (a b : CE)
  | fld (k : Nat) (o : CE) (f : Str) | meth (c : Nat) (m : Str) (f : Nat) (o : CE) (es : CEs) | mk (c f : Nat) (es : CEs)
inductive CO2 where
  | no | so (a : CE)
inductive CEs where
  | nil | cons (a : CE) (r : CEs)
inductive CT where
  | e (a : CE) | andT (a b : CT) | orT (a b : CT) | notT (a : CT)
inductive CTs where
  | nil | cons (a : CT) (r : CTs)
/-- what makes a new list -/
inductive LE where
  | lc (it : CI) (g : CG) (ifs : CTs) (e : CE)
  | dsp (es : CEs)
  | listE (a : CE) | listRg (a : CE) | listRg2 (a b : CE) | items (a : CE)
  | cat (a b : LE) | rep (a : LE) (b : CE) | catE (a b : CE)
  | slcL (a : CE) (lo hi : CO2)
  | sortK (f : Nat) (a : CE) | srt (a : CE)
/-- what a loop walks -/
inductive CI where
  | val (a : CE) | rg1 (a : CE) | rg2 (a b : CE)
  | enum (a : CE) | zip (a b : CE)
end
/-- in an except suite -/
inductive EE where
  | bl (b : Bool) | non | str (z : Str) | isE (l : List Nat) (x : Str) | notE (a : EE) | andE (a b : EE)
inductive EH where
  | asg (i : Nat) (e : EE) | ret (e : EE)
mutual
inductive CS where
  | asg (g : CG) (e : CE)
  | asgO (i : Nat) (l : LE)
  | asgD (i : Nat)
  | asgC (i : Nat) (f : Nat) (es : CEs)
  | aug (i : Nat) (o : BO) (e : CE)
  | setix (i : Nat) (k e : CE)
  | app (i : Nat) (e : CE)
  | ext (i : Nat) (l : LE) | extV (i j : Nat)
  | clr (i : Nat)
  | exp (e : CE)
  | ret (e : CE) | retM (i : Nat) | retN | retL (l : LE)
  | exte (i : Nat) (e : CE)
  | forO (g : CG) (i : Nat) (a : CSs)
  | asgV (i j : Nat)
  | ite (t : CT) (a b : CSs)
  | whl (t : CT) (a : CSs)
  | for (g : CG) (it : CI) (a : CSs)
  | brk | cnt | pas
  | frz (i : Nat)
  | asgD1 (i : Nat) (k v : CE)
  | asg2 (i j : Nat) (a b : CE)
  | setixE (o k e : CE)
  | setf (k : Nat) (o : CE) (f : Str) (e : CE)
  | raise (c : Nat)
  | tryX (k : Nat) (l : List Nat) (x : Str) (n : Option Nat) (a : CSs) (s : EH)
inductive CSs where
  | nil | cons (a : CS) (r : CSs)
end

/-! ### what operators do -/
def cDiv (j : Int) : Prop := 0 < j ∧ j < 1073741824
def cMul (i j : Int) : Prop := (-(2 ^ 64) < i ∧ i < 2 ^ 64) ∨ (-(2 ^ 64) < j ∧ j < 2 ^ 64)
def cPow (i j : Int) : Prop := 0 ≤ j ∧ j ≤ 1000000 ∧ i.natAbs < 2 ^ 64
def binW (o : BO) (x y : D) (Q : D → Prop) : Prop := match o, x, y with
  | .add, .int i, .int j => Q (.int (i + j))
  | .add, .str a, .str b => a.length + b.length ≤ sizeLine ∧ Q (.str (a ++ b))
  | .add, .tup a, .tup b => a.length + b.length ≤ sizeLine ∧ Q (.tup (a ++ b))
  | .sub, .int i, .int j => Q (.int (i - j))
  | .mul, .int i, .int j => cMul i j ∧ Q (.int (i * j))
  | .mul, .tup a, .int k => a ≠ [] ∧ -(2 ^ 63) ≤ k ∧ k ≤ 1000 ∧ a.length ≤ 1000 ∧ Q (.tup (List.replicate k.toNat a).flatten)
  | .fdiv, .int i, .int j => cDiv j ∧ Q (.int (i / j))
  | .mod, .int i, .int j => 0 < j ∧ Q (.int (i % j))
  | .pow, .int i, .int j => cPow i j ∧ Q (.int (i ^ j.toNat))
  | _, _, _ => False
def augW (o : BO) (x y : D) (Q : D → Prop) : Prop := match o, x, y with
  | .add, .int i, .int j => Q (.int (i + j))
  | .add, .str a, .str b => a.length + b.length ≤ sizeLine ∧ Q (.str (a ++ b))
  | .sub, .int i, .int j => Q (.int (i - j))
  | .mul, .int i, .int j => cMul i j ∧ Q (.int (i * j))
  | _, _, _ => False
def lexLe : List Int → List Int → Bool
  | [], _ => true
  | _ :: _, [] => false
  | x :: xs, y :: ys => if x = y then lexLe xs ys else decide (x < y)
def intsOf : List D → Option (List Int)
  | [] => some []
  | .int i :: r => (intsOf r).map (i :: ·)
  | _ :: _ => none
def boolsOf : List D → Option (List Bool)
  | [] => some []
  | .bl i :: r => (boolsOf r).map (i :: ·)
  | _ :: _ => none
mutual
/-- a datum as it is read through the heap's lists -/
inductive DV (h : AH) : D → D → Prop where
  | flat {d : D} : DV h d d
  | ref {n : Nat} {xs ys : List D} : h[n]? = some (.lst xs) → DVs h xs ys → DV h (.ref n) (.fz ys)
  | tup {xs ys : List D} : DVs h xs ys → DV h (.tup xs) (.tup ys)
  | fz {xs ys : List D} : DVs h xs ys → DV h (.fz xs) (.fz ys)
inductive DVs (h : AH) : List D → List D → Prop where
  | nil : DVs h [] []
  | cons {x y : D} {xs ys : List D} : DV h x y → DVs h xs ys → DVs h (x :: xs) (y :: ys)
end
def VV.dv (h : AH) (x : VV) (a : D) : Prop := x.dat h = some a ∨ match x with
  | .d w => DV h w a
  | .tw (.lst xs) => ∃ ys, a = .fz ys ∧ DVs h xs ys
  | .bw (.lst xs) => ∃ ys, a = .fz ys ∧ DVs h xs ys
  | _ => False
def cmpW (o : CO) (h : AH) (x y : VV) (Q : D → Prop) : Prop := match o with
  | .eq => ∃ a b, x.dv h a ∧ y.dv h b ∧ a.fla 60 = true ∧ b.fla 60 = true ∧ Q (.bl (D.eqv a b))
  | .ne => ∃ a b, x.dv h a ∧ y.dv h b ∧ a.fla 60 = true ∧ b.fla 60 = true ∧ Q (.bl (!D.eqv a b))
  | .lt => ∃ i j, x = .d (.int i) ∧ y = .d (.int j) ∧ Q (.bl (decide (i < j)))
  | .le => ∃ i j, x = .d (.int i) ∧ y = .d (.int j) ∧ Q (.bl (decide (i ≤ j)))
  | .gt => ∃ i j, x = .d (.int i) ∧ y = .d (.int j) ∧ Q (.bl (decide (j < i)))
  | .ge => ∃ i j, x = .d (.int i) ∧ y = .d (.int j) ∧ Q (.bl (decide (j ≤ i)))
  | .ltD => ∃ a b, x.dat h = some a ∧ y.dat h = some b ∧ a.fla 60 = true ∧ b.fla 60 = true ∧ D.alike a b = true ∧ Q (.bl (D.ltd a b))
  | .leD => ∃ a b, x.dat h = some a ∧ y.dat h = some b ∧ a.fla 60 = true ∧ b.fla 60 = true ∧ D.alike a b = true ∧ Q (.bl (!D.ltd b a))
  | .gtD => ∃ a b, x.dat h = some a ∧ y.dat h = some b ∧ a.fla 60 = true ∧ b.fla 60 = true ∧ D.alike a b = true ∧ Q (.bl (D.ltd b a))
  | .geD => ∃ a b, x.dat h = some a ∧ y.dat h = some b ∧ a.fla 60 = true ∧ b.fla 60 = true ∧ D.alike a b = true ∧ Q (.bl (!D.ltd a b))
  | .isN => y = .d .non ∧ Q (.bl (match x with | .d .non => true | _ => false))
  | .notN => y = .d .non ∧ Q (.bl (match x with | .d .non => false | _ => true))
  | .isB => ∃ a b, x = .d (.bl a) ∧ y = .d (.bl b) ∧ Q (.bl (decide (a = b)))
  | .notB => ∃ a b, x = .d (.bl a) ∧ y = .d (.bl b) ∧ Q (.bl (!decide (a = b)))
  | .isIn => ∃ a, x = .d a ∧ ((∃ o r, y.obj h = some o ∧ o.get a = some r ∧ Q (.bl r.isSome)) ∨
      ∃ xs, (y.obj h).bind AO.list = some xs ∧ a.fla 60 = true ∧ D.flas 59 xs = true ∧ Q (.bl (xs.any fun z => D.eqv z a)))
  | .notIn => ∃ a, x = .d a ∧ ((∃ o r, y.obj h = some o ∧ o.get a = some r ∧ Q (.bl (!r.isSome))) ∨
      ∃ xs, (y.obj h).bind AO.list = some xs ∧ a.fla 60 = true ∧ D.flas 59 xs = true ∧ Q (.bl (!xs.any fun z => D.eqv z a)))

def EE.val (c : Nat) : EE → D
  | .bl b => .bl b
  | .non => .non
  | .str z => .str z
  | .isE l _ => .bl (l.contains c)
  | .notE a => match EE.val c a with
    | .bl b => .bl (!b)
    | _ => .non
  | .andE a b => match EE.val c a with
    | .bl true => EE.val c b
    | _ => .bl false
/-- a list's place in the heap -/
def hL (h : AH) (x : VV) : Option (Nat × List D) := match x with
  | .d (.ref n) => match h[n]? with
    | some (.lst xs) => some (n, xs)
    | _ => none
  | _ => none
/-- an object is made -/
def newW (h : AH) (o : AO) (Q : VV → AH → Prop) : Prop := Q (.d (.ref h.length)) (h ++ [o])
def putFD (f : Str) (v : D) : List (Str × D) → List (Str × D)
  | [] => [(f, v)]
  | q :: r => if q.1 = f then (q.1, v) :: r else q :: putFD f v r
def setdW (h : AH) (x y z : VV) (Q : VV → AH → Prop) : Prop := ∃ n o k v r, x = .d (.ref n) ∧ h[n]? = some o ∧ y = .d k ∧ z = .d v ∧ o.get k = some r ∧ (∃ m, o.size = some m ∧ m < sizeLine) ∧
  match r with
  | some w => Q (.d w) h
  | none => ∃ o', o.put k v = some o' ∧ Q (.d v) (h.set n o')
def idxW (h : AH) (x y : VV) (Q : D → Prop) : Prop := ∃ xs a j, (x.obj h).bind AO.list = some xs ∧ y = .d a ∧ a.fla 60 = true ∧ D.flas 59 xs = true ∧ (xs.findIdx? fun z => D.eqv z a) = some j ∧ Q (.int (j : Nat))
def ixD (xs : List D) (i : Int) : Option D := atI xs i
def ixW (h : AH) (x y : VV) (Q : D → Prop) : Prop :=
  (∃ xs i v, x.seq h = some xs ∧ y = .d (.int i) ∧ atI xs i = some v ∧ Q v) ∨
  (∃ o k v, x.obj h = some o ∧ y = .d k ∧ o.get k = some (some v) ∧ Q v)
/-- a slice -/
def cutD (xs : List D) (lo hi : Option Int) : List D := (xs.drop (HT.sIx xs.length 0 lo)).take (HT.sIx xs.length xs.length hi - HT.sIx xs.length 0 lo)
def isT (T : String) (h : AH) (v : VV) : Option Bool := match v with
  | .d (.int _) => some (T == "int")
  | .d (.bl _) => some (T == "bool" || T == "int")
  | .d .non => some false
  | .d (.str _) => some (T == "str")
  | .d (.tup _) => some (T == "tuple")
  | .d (.fz _) => some (T == "list")
  | .d (.ref n) => match h[n]? with
    | some (.lst _) => some (T == "list")
    | _ => none
  | .tw (.lst _) => some (T == "list")
  | .bw (.lst _) => some (T == "list")
  | _ => none
def sumI : List Int → Int
  | [] => 0
  | x :: xs => x + sumI xs
def maxI : Int → List Int → Int
  | m, [] => m
  | m, x :: xs => maxI (if m < x then x else m) xs
def minI : Int → List Int → Int
  | m, [] => m
  | m, x :: xs => minI (if x < m then x else m) xs
def biW (b : BI) (h : AH) (vs : List VV) (Q : D → Prop) : Prop := match b, vs with
  | .len, [v] => ∃ n, v.len h = some n ∧ Q (.int n)
  | .abs, [.d (.int i)] => Q (.int (if i < 0 then -i else i))
  | .min2, [.d (.int i), .d (.int j)] => Q (.int (if j < i then j else i))
  | .max2, [.d (.int i), .d (.int j)] => Q (.int (if i < j then j else i))
  | .sumL, [v] => ∃ xs ns, (v.obj h).bind AO.list = some xs ∧ intsOf xs = some ns ∧ Q (.int ns.sum)
  | .maxL, [v] => ∃ xs n ns, (v.obj h).bind AO.list = some xs ∧ intsOf xs = some (n :: ns) ∧ Q (.int (maxI n ns))
  | .minL, [v] => ∃ xs n ns, (v.obj h).bind AO.list = some xs ∧ intsOf xs = some (n :: ns) ∧ Q (.int (minI n ns))
  | .allL, [v] => ∃ xs bs, (v.obj h).bind AO.list = some xs ∧ boolsOf xs = some bs ∧ Q (.bl (bs.all id))
  | .anyL, [v] => ∃ xs bs, (v.obj h).bind AO.list = some xs ∧ boolsOf xs = some bs ∧ Q (.bl (bs.any id))
  | .intOf, [.d (.int i)] => Q (.int i)
  | .intOf, [.d (.bl b)] => Q (.int (if b then 1 else 0))
  | .isI T, [v] => ∃ b, isT T h v = some b ∧ Q (.bl b)
  | _, _ => False
/-- truth -/
def VV.tru (h : AH) : VV → Option Bool
  | .d .non => some false
  | .d (.bl b) => some b
  | .d (.int i) => some (i != 0)
  | .d (.str z) => if z.length ≤ sizeLine then some ((z.length : Int) != 0) else none
  | .d (.tup xs) => some (!xs.isEmpty)
  | v => ((v.obj h).bind AO.list).map fun xs => !xs.isEmpty

/-! ### wp -/
def toArg : VV → VV
  | .tw o => .bw o
  | v => v
def argSl : VV → Option Sl
  | .d x => some (.val x)
  | .tw o => some (.bor o)
  | .bw o => some (.bor o)
def slV : Sl → VV
  | .val x => .d x
  | .own o => .tw o
  | .bor o => .bw o
/-- a def, called: its number, the arguments, the heap, what is wanted of its end, of an exception -/
abbrev GM := Nat → List VV → AH → (RR → AH → Prop) → (EX → AH → Prop) → Prop
/-- a called def's value, read -/
def RR.rd (Q : VV → AH → Prop) : RR → AH → Prop
  | .d x, h => Q (.d x) h
  | .mv (.lst xs), h => Q (.d (.fz xs)) h
  | .mv _, _ => False
def wipeE (env : Ev) : List Nat → Ev
  | [] => env
  | i :: is => (wipeE env is).set i none
def setsE : List Nat → List D → Ev → Ev
  | i :: is, x :: xs, env => setsE is xs (env.set i (some (.val x)))
  | _, _, env => env
def CG.slots : CG → List Nat
  | .nm i => [i]
  | .tp is => is
/-- a target takes a value -/
def gW (g : CG) (x : D) (env : Ev) (Q : Ev → Prop) : Prop := match g with
  | .nm i => Q (env.set i (some (.val x)))
  | .tp is => ∃ xs, x = .tup xs ∧ xs.length = is.length ∧ Q (setsE is xs env)
def rgD (lo : Int) (n : Nat) : List D := (List.range n).map fun (k : Nat) => D.int (lo + (k : Int))
def enumD (xs : List D) : List D := xs.mapIdx fun i x => D.tup [.int (i : Int), x]
def zipD : List D → List D → List D
  | x :: xs, y :: ys => .tup [x, y] :: zipD xs ys
  | _, _ => []
/-- the turns of a comprehension -/
def lcW (guard : AH → Prop) (env : Ev) (g : CG) (T : Ev → AH → (Bool → AH → Prop) → Prop) (E : Ev → AH → (VV → AH → Prop) → Prop) : List D → List D → AH → (List D → AH → Prop) → Prop
  | [], acc, h, Q => guard h ∧ Q acc h
  | x :: xs, acc, h, Q => guard h ∧ gW g x env fun env' => T env' h fun b h1 =>
      if b = true then E env' h1 fun v h2 => ∃ y, v = .d y ∧ acc.length < sizeLine ∧ lcW guard env g T E xs (acc ++ [y]) h2 Q else lcW guard env g T E xs acc h1 Q
/-- the keys of the items, by calls of the def f -/
def keysW (Γ : GM) (f : Nat) : List D → List D → AH → (List D → AH → Prop) → Prop
  | [], acc, h, Q => Q acc h
  | x :: xs, acc, h, Q => Γ (f + 1000) [.d x] h (fun r h' => ∃ k, r = .d k ∧ keysW Γ f xs (acc ++ [k]) h' Q) (fun _ _ => False)
/-- keys that can be sorted: tuples with an item at least, alike two by two -/
def srtOk (ks : List D) : Prop := (∀ k ∈ ks, k.fla 60 = true ∧ ∃ y r, k = .tup (y :: r)) ∧ ∀ k ∈ ks, ∀ k' ∈ ks, D.alike k k' = true
def sortD (xs ks : List D) : List D := ((xs.zip ks).mergeSort fun p q => !D.ltd q.2 p.2).map (·.1)
mutual
def wpE (Γ : GM) (cs : Nat → Option D) : CE → Ev → AH → (VV → AH → Prop) → (EX → AH → Prop) → Prop
  | .var i, env, h, Q, _ => ∃ s, env[i]? = some (some s) ∧ Q (slV s) h
  | .int i, _, h, Q, _ => Q (.d (.int i)) h
  | .bl b, _, h, Q, _ => Q (.d (.bl b)) h
  | .non, _, h, Q, _ => Q (.d .non) h
  | .str z, _, h, Q, _ => Q (.d (.str z)) h
  | .glob j, _, h, Q, _ => ∃ x, cs j = some x ∧ Q (.d x) h
  | .bin o a b, env, h, Q, X => wpE Γ cs a env h (fun x h1 => wpE Γ cs b env h1 (fun y h2 => ∃ u v, x = .d u ∧ y = .d v ∧ binW o u v fun z => Q (.d z) h2) X) X
  | .neg a, env, h, Q, X => wpE Γ cs a env h (fun x h1 => ∃ i, x = .d (.int i) ∧ Q (.d (.int (-i))) h1) X
  | .cmp o a b, env, h, Q, X => wpE Γ cs a env h (fun x h1 => wpE Γ cs b env h1 (fun y h2 => cmpW o h2 x y fun z => Q (.d z) h2) X) X
  | .chain o o' a b c, env, h, Q, X => wpE Γ cs a env h (fun x h1 => wpE Γ cs b env h1 (fun y h2 => cmpW o h2 x y fun z =>
      ∃ k, z = .bl k ∧ if k = true then wpE Γ cs c env h2 (fun u h3 => cmpW o' h3 y u fun z => Q (.d z) h3) X else Q (.d (.bl false)) h2) X) X
  | .andV a b, env, h, Q, X => wpE Γ cs a env h (fun x h1 => ∃ k, x = .d (.bl k) ∧ if k = true then wpE Γ cs b env h1 Q X else Q (.d (.bl false)) h1) X
  | .orV a b, env, h, Q, X => wpE Γ cs a env h (fun x h1 => ∃ k, x = .d (.bl k) ∧ if k = true then Q (.d (.bl true)) h1 else wpE Γ cs b env h1 Q X) X
  | .notV a, env, h, Q, X => wpE Γ cs a env h (fun x h1 => ∃ b, x.tru h1 = some b ∧ Q (.d (.bl (!b))) h1) X
  | .ite t a b, env, h, Q, X => wpT Γ cs t env h (fun k h1 => if k = true then wpE Γ cs a env h1 Q X else wpE Γ cs b env h1 Q X) X
  | .tup es, env, h, Q, X => wpEs Γ cs es env h (fun vs h1 => ∃ xs, vs = xs.map VV.d ∧ xs.length ≤ sizeLine ∧ Q (.d (.tup xs)) h1) X
  | .ix a b, env, h, Q, X => wpE Γ cs a env h (fun x h1 => wpE Γ cs b env h1 (fun y h2 => ixW h2 x y fun z => Q (.d z) h2) X) X
  | .slc a lo hi, env, h, Q, X => wpE Γ cs a env h (fun x h1 => wpO Γ cs lo env h1 (fun i h2 => wpO Γ cs hi env h2 (fun j h3 => ∃ xs, x = .d (.tup xs) ∧ Q (.d (.tup (cutD xs i j))) h3) X) X) X
  | .call f es, env, h, Q, X => wpEs Γ cs es env h (fun vs h1 => Γ f (vs.map toArg) h1 (RR.rd Q) X) X
  | .bi b es, env, h, Q, X => wpEs Γ cs es env h (fun vs h1 => biW b h1 vs fun z => Q (.d z) h1) X
  | .tupOf l, env, h, Q, X => wpL Γ cs l env h (fun xs h1 => Q (.d (.tup xs)) h1) X
  | .tupE a, env, h, Q, X => wpE Γ cs a env h (fun x h1 => ∃ xs, x.seq h1 = some xs ∧ Q (.d (.tup xs)) h1) X
  | .tupRev a, env, h, Q, X => wpE Γ cs a env h (fun x h1 => ∃ xs, (x.obj h1).bind AO.list = some xs ∧ Q (.d (.tup xs.reverse)) h1) X
  | .fzOf l, env, h, Q, X => wpL Γ cs l env h (fun xs h1 => Q (.d (.fz xs)) h1) X
  | .getD o k, env, h, Q, X => wpE Γ cs o env h (fun x h1 => (∃ ob, x.obj h1 = some ob ∧ ob.isD = true) ∧ wpE Γ cs k env h1 (fun y h2 => ∃ a u r, x.obj h2 = some a ∧ y = .d u ∧ a.get u = some r ∧ Q (.d (r.getD .non)) h2) X) X
  | .getD2 o k d, env, h, Q, X => wpE Γ cs o env h (fun x h1 => (∃ ob, x.obj h1 = some ob ∧ ob.isD = true) ∧ wpE Γ cs k env h1 (fun y h2 => wpE Γ cs d env h2 (fun z h3 => ∃ a u w r, x.obj h3 = some a ∧ y = .d u ∧ z = .d w ∧ a.get u = some r ∧ Q (.d (r.getD w)) h3) X) X) X
  | .newL l, env, h, Q, X => wpL Γ cs l env h (fun xs h1 => newW h1 (.lst xs) Q) X
  | .newD t, _, h, Q, _ => newW h (if t = true then .dT [] else .dK []) Q
  | .sdf o k v, env, h, Q, X => wpE Γ cs o env h (fun x h1 => (∃ ob, x.obj h1 = some ob ∧ ob.isD = true) ∧ wpE Γ cs k env h1 (fun y h2 => wpE Γ cs v env h2 (fun z h3 => setdW h3 x y z Q) X) X) X
  | .appX o a, env, h, Q, X => wpE Γ cs o env h (fun x h1 => (∃ n xs, hL h1 x = some (n, xs)) ∧ wpE Γ cs a env h1 (fun y h2 => ∃ n xs v, hL h2 x = some (n, xs) ∧ y = .d v ∧ xs.length < sizeLine ∧ Q (.d .non) (h2.set n (.lst (xs ++ [v])))) X) X
  | .extX o l, env, h, Q, X => wpE Γ cs o env h (fun x h1 => (∃ n xs, hL h1 x = some (n, xs)) ∧ wpL Γ cs l env h1 (fun ys h2 => ∃ n xs, hL h2 x = some (n, xs) ∧ xs.length + ys.length ≤ sizeLine ∧ Q (.d .non) (h2.set n (.lst (xs ++ ys)))) X) X
  | .clrX o, env, h, Q, X => wpE Γ cs o env h (fun x h1 => ∃ n xs, hL h1 x = some (n, xs) ∧ Q (.d .non) (h1.set n (.lst []))) X
  | .popX o, env, h, Q, X => wpE Γ cs o env h (fun x h1 => ∃ n xs v, hL h1 x = some (n, xs) ∧ xs[xs.length - 1]? = some v ∧ Q (.d v) (h1.set n (.lst xs.dropLast))) X
  | .popAt o i, env, h, Q, X => wpE Γ cs o env h (fun x h1 => (∃ n xs, hL h1 x = some (n, xs)) ∧ wpE Γ cs i env h1 (fun y h2 => ∃ n xs j k v, hL h2 x = some (n, xs) ∧ y = .d (.int j) ∧ -(2 ^ 63) ≤ j ∧ j < 2 ^ 63 ∧ seqIndex? j xs.length = some k ∧ xs[k]? = some v ∧ Q (.d v) (h2.set n (.lst (xs.eraseIdx k)))) X) X
  | .insX o i a, env, h, Q, X => wpE Γ cs o env h (fun x h1 => (∃ n xs, hL h1 x = some (n, xs)) ∧ wpE Γ cs i env h1 (fun y h2 => wpE Γ cs a env h2 (fun z h3 => ∃ n xs j v, hL h3 x = some (n, xs) ∧ y = .d (.int j) ∧ z = .d v ∧ 0 ≤ j ∧ j < 2 ^ 63 ∧ xs.length < sizeLine ∧ Q (.d .non) (h3.set n (.lst (xs.take j.toNat ++ v :: xs.drop j.toNat)))) X) X) X
  | .idx o a, env, h, Q, X => wpE Γ cs o env h (fun x h1 => (∃ xs, (x.obj h1).bind AO.list = some xs) ∧ wpE Γ cs a env h1 (fun y h2 => idxW h2 x y fun z => Q (.d z) h2) X) X
  | .divm a b, env, h, Q, X => wpE Γ cs a env h (fun x h1 => wpE Γ cs b env h1 (fun y h2 => ∃ i j, x = .d (.int i) ∧ y = .d (.int j) ∧ cDiv j ∧ Q (.d (.tup [.int (i / j), .int (i % j)])) h2) X) X
  | .fld k o f, env, h, Q, X => wpE Γ cs o env h (fun x h1 => ∃ n c fs d, x = .d (.ref n) ∧ h1[n]? = some (.ins c fs) ∧ c < k ∧ fs.lookup f = some d ∧ Q (.d d) h1) X
  | .meth c m f o es, env, h, Q, X => wpE Γ cs o env h (fun x h1 => ∃ n fs, x = .d (.ref n) ∧ h1[n]? = some (.ins c fs) ∧ fs.lookup m = none ∧ wpEs Γ cs es env h1 (fun vs h2 => Γ f (x :: vs.map toArg) h2 (RR.rd Q) X) X) X
  | .mk c f es, env, h, Q, X => wpEs Γ cs es env h (fun vs h1 => Γ (f + 1000) (.d (.ref h1.length) :: vs.map toArg) (h1 ++ [.ins c []]) (fun r h2 => r = .d .non ∧ Q (.d (.ref h1.length)) h2) X) X
def wpO (Γ : GM) (cs : Nat → Option D) : CO2 → Ev → AH → (Option Int → AH → Prop) → (EX → AH → Prop) → Prop
  | .no, _, h, Q, _ => Q none h
  | .so a, env, h, Q, X => wpE Γ cs a env h (fun x h1 => ∃ i, x = .d (.int i) ∧ Q (some i) h1) X
def wpEs (Γ : GM) (cs : Nat → Option D) : CEs → Ev → AH → (List VV → AH → Prop) → (EX → AH → Prop) → Prop
  | .nil, _, h, Q, _ => Q [] h
  | .cons a r, env, h, Q, X => wpE Γ cs a env h (fun x h1 => wpEs Γ cs r env h1 (fun xs h2 => Q (x :: xs) h2) X) X
def wpT (Γ : GM) (cs : Nat → Option D) : CT → Ev → AH → (Bool → AH → Prop) → (EX → AH → Prop) → Prop
  | .e a, env, h, Q, X => wpE Γ cs a env h (fun x h1 => ∃ b, x.tru h1 = some b ∧ Q b h1) X
  | .andT a b, env, h, Q, X => wpT Γ cs a env h (fun k h1 => if k = true then wpT Γ cs b env h1 Q X else Q false h1) X
  | .orT a b, env, h, Q, X => wpT Γ cs a env h (fun k h1 => if k = true then Q true h1 else wpT Γ cs b env h1 Q X) X
  | .notT a, env, h, Q, X => wpT Γ cs a env h (fun k h1 => Q (!k) h1) X
def wpTs (Γ : GM) (cs : Nat → Option D) : CTs → Ev → AH → (Bool → AH → Prop) → (EX → AH → Prop) → Prop
  | .nil, _, h, Q, _ => Q true h
  | .cons a r, env, h, Q, X => wpT Γ cs a env h (fun k h1 => if k = true then wpTs Γ cs r env h1 Q X else Q false h1) X
def wpL (Γ : GM) (cs : Nat → Option D) : LE → Ev → AH → (List D → AH → Prop) → (EX → AH → Prop) → Prop
  | .lc it g ifs e, env, h, Q, X => wpI Γ cs it true env h (fun xs guard h1 =>
      lcW guard (wipeE env g.slots) g (fun env' h Q => wpTs Γ cs ifs env' h Q fun _ _ => False) (fun env' h Q => wpE Γ cs e env' h Q fun _ _ => False) xs [] h1 Q) X
  | .dsp es, env, h, Q, X => wpEs Γ cs es env h (fun vs h1 => ∃ xs, vs = xs.map VV.d ∧ xs.length ≤ sizeLine ∧ Q xs h1) X
  | .listE a, env, h, Q, X => wpE Γ cs a env h (fun x h1 => (∃ xs, x.seq h1 = some xs ∧ Q xs h1) ∨ ∃ o xs, x.obj h1 = some o ∧ o.keyList = some xs ∧ Q xs h1) X
  | .listRg a, env, h, Q, X => wpE Γ cs a env h (fun x h1 => ∃ i, x = .d (.int i) ∧ 0 ≤ i ∧ i ≤ 16777216 ∧ Q (rgD 0 i.toNat) h1) X
  | .listRg2 a b, env, h, Q, X => wpE Γ cs a env h (fun x h1 => wpE Γ cs b env h1 (fun y h2 => ∃ i j, x = .d (.int i) ∧ y = .d (.int j) ∧ (-(2 ^ 62) ≤ i ∧ i < 2 ^ 62 ∧ -(2 ^ 62) ≤ j ∧ j < 2 ^ 62) ∧ (j - i).toNat ≤ 16777216 ∧ Q (rgD i (j - i).toNat) h2) X) X
  | .items a, env, h, Q, X => wpE Γ cs a env h (fun x h1 => ∃ n o xs, x = .d (.ref n) ∧ h1[n]? = some o ∧ o.items = some xs ∧ Q xs h1) X
  | .cat a b, env, h, Q, X => wpL Γ cs a env h (fun xs h1 => wpL Γ cs b env h1 (fun ys h2 => xs.length + ys.length ≤ sizeLine ∧ Q (xs ++ ys) h2) X) X
  | .catE a b, env, h, Q, X => wpE Γ cs a env h (fun x h1 => wpE Γ cs b env h1 (fun y h2 => ∃ xs ys, (x.obj h2).bind AO.list = some xs ∧ (y.obj h2).bind AO.list = some ys ∧ xs.length + ys.length ≤ sizeLine ∧ Q (xs ++ ys) h2) X) X
  | .rep a b, env, h, Q, X => wpL Γ cs a env h (fun xs h1 => wpE Γ cs b env h1 (fun y h2 => ∃ k, y = .d (.int k) ∧ -(2 ^ 63) ≤ k ∧ k < 2 ^ 63 ∧ xs.length * k.toNat ≤ sizeLine ∧ Q (List.replicate k.toNat xs).flatten h2) X) X
  | .sortK f a, env, h, Q, X => wpE Γ cs a env h (fun x h1 => ∃ xs, (x.obj h1).bind AO.list = some xs ∧ keysW Γ f xs [] h1 fun ks h2 => srtOk ks ∧ ks.length = xs.length ∧ Q (sortD xs ks) h2) X
  | .srt a, env, h, Q, X => wpE Γ cs a env h (fun x h1 => ∃ xs ns, (x.obj h1).bind AO.list = some xs ∧ intsOf xs = some ns ∧ ∀ ms : List Int, ms.Perm ns → ms.Pairwise (· ≤ ·) → Q (ms.map .int) h1) X
  | .slcL a lo hi, env, h, Q, X => wpE Γ cs a env h (fun x h1 => wpO Γ cs lo env h1 (fun i h2 => wpO Γ cs hi env h2 (fun j h3 => ∃ xs, (x.obj h3).bind AO.list = some xs ∧ Q (cutD xs i j) h3) X) X) X
def wpI (Γ : GM) (cs : Nat → Option D) : CI → Bool → Ev → AH → (List D → (AH → Prop) → AH → Prop) → (EX → AH → Prop) → Prop
  | .val a, cp, env, h, Q, X => wpE Γ cs a env h (fun x h1 => (cp = true ∨ ∀ o, x ≠ .tw o) ∧ ∃ xs, x.seq h1 = some xs ∧ Q xs (fun h => x.seq h = some xs) h1) X
  | .rg1 a, _, env, h, Q, X => wpE Γ cs a env h (fun x h1 => ∃ i, x = .d (.int i) ∧ -(2 ^ 62) ≤ i ∧ i < 2 ^ 62 ∧ Q (rgD 0 i.toNat) (fun _ => True) h1) X
  | .rg2 a b, _, env, h, Q, X => wpE Γ cs a env h (fun x h1 => wpE Γ cs b env h1 (fun y h2 => ∃ i j, x = .d (.int i) ∧ y = .d (.int j) ∧ (-(2 ^ 62) ≤ i ∧ i < 2 ^ 62 ∧ -(2 ^ 62) ≤ j ∧ j < 2 ^ 62) ∧ Q (rgD i (j - i).toNat) (fun _ => True) h2) X) X
  | .enum a, cp, env, h, Q, X => wpE Γ cs a env h (fun x h1 => (cp = true ∨ ∀ o, x ≠ .tw o) ∧ ∃ xs, (x.obj h1).bind AO.list = some xs ∧ Q (enumD xs) (fun h => (x.obj h).bind AO.list = some xs) h1) X
  | .zip a b, _, env, h, Q, X => wpE Γ cs a env h (fun x h1 => wpE Γ cs b env h1 (fun y h2 => ∃ xs ys, x = .d (.tup xs) ∧ y = .d (.tup ys) ∧ Q (zipD xs ys) (fun _ => True) h2) X) X
end

/-- what is wanted behind a statement -/
structure CEnds where
  nx : Ev → AH → Prop
  rt : RR → AH → Prop
  bk : Ev → AH → Prop
  ct : Ev → AH → Prop
  ex : EX → Ev → AH → Prop
def frzE (env : Ev) : Ev := env.map fun s => match s with
  | some (.own (.lst xs)) => some (.val (.fz xs))
  | s => s
/-- an except suite's end -/
def ehW (s : EH) (n : Option Nat) (x : EX) (env : Ev) (h : AH) (R : CEnds) : Prop := (match n with
  | some k => decide (k < env.length) = true
  | none => True) ∧ match s with
  | .asg i e => R.nx (wipeE (env.set i (some (.val (e.val x.c)))) n.toList) h
  | .ret e => R.rt (.d (e.val x.c)) h
/-- the ends, where one's own is only read for a while -/
def borR (i : Nat) (o : AO) (R : CEnds) : CEnds := ⟨fun e h => e[i]? = some (some (.bor o)) ∧ R.nx (e.set i (some (.own o))) h, R.rt, fun _ _ => False, fun _ _ => False, fun x e h => e[i]? = some (some (.bor o)) ∧ R.ex x (e.set i (some (.own o))) h⟩
/-- the turns of a loop -/
def forW (guard : AH → Prop) (g : CG) (B : Ev → AH → CEnds → Prop) : List D → Ev → AH → CEnds → Prop
  | [], env, h, R => guard h ∧ R.nx env h
  | x :: xs, env, h, R => guard h ∧ gW g x env fun env' => B env' h { R with nx := fun e h => forW guard g B xs e h R, ct := fun e h => forW guard g B xs e h R, bk := R.nx }
mutual
def wpS (Γ : GM) (cs : Nat → Option D) : CS → Ev → AH → CEnds → Prop
  | .asg g e, env, h, R => wpE Γ cs e env h (fun v h' => ∃ x, v = .d x ∧ gW g x env fun env' => R.nx env' h') (fun x h' => R.ex x env h')
  | .asgO i l, env, h, R => wpL Γ cs l env h (fun xs h' => R.nx (env.set i (some (.own (.lst xs)))) h') (fun x h' => R.ex x env h')
  | .asgD i, env, h, R => R.nx (env.set i (some (.own (.dK [])))) h ∨ R.nx (env.set i (some (.own (.dT [])))) h
  | .asgC i f es, env, h, R => wpEs Γ cs es env h (fun vs h1 => Γ f (vs.map toArg) h1 (fun r h2 => match r with
      | .d x => R.nx (env.set i (some (.val x))) h2
      | .mv o => R.nx (env.set i (some (.own o))) h2) (fun x h' => R.ex x env h')) (fun x h' => R.ex x env h')
  | .aug i o e, env, h, R => ∃ x, env[i]? = some (some (.val x)) ∧ wpE Γ cs e env h (fun v h' => ∃ y, v = .d y ∧ augW o x y fun z => R.nx (env.set i (some (.val z))) h') (fun x h' => R.ex x env h')
  | .setix i k e, env, h, R => ∃ o, env[i]? = some (some (.own o)) ∧ wpE Γ cs e env h (fun v h1 => wpE Γ cs k env h1 (fun u h2 => ∃ x y, v = .d x ∧ u = .d y ∧
      ((∃ xs z j, o = .lst xs ∧ y = .int z ∧ ixN xs.length z = some j ∧ R.nx (env.set i (some (.own (.lst (xs.set j x))))) h2) ∨
       ∃ o', o.put y x = some o' ∧ R.nx (env.set i (some (.own o'))) h2)) (fun x h' => R.ex x env h')) (fun x h' => R.ex x env h')
  | .app i e, env, h, R => ∃ xs, env[i]? = some (some (.own (.lst xs))) ∧ wpE Γ cs e env h (fun v h1 => ∃ x, v = .d x ∧ xs.length < sizeLine ∧ R.nx (env.set i (some (.own (.lst (xs ++ [x]))))) h1) (fun x h' => R.ex x env h')
  | .ext i l, env, h, R => ∃ xs, env[i]? = some (some (.own (.lst xs))) ∧ wpL Γ cs l env h (fun ys h1 => xs.length + ys.length ≤ sizeLine ∧ R.nx (env.set i (some (.own (.lst (xs ++ ys))))) h1) (fun x h' => R.ex x env h')
  | .extV i j, env, h, R => ∃ xs ys, env[i]? = some (some (.own (.lst xs))) ∧ env[j]? = some (some (.own (.lst ys))) ∧ xs.length + ys.length ≤ sizeLine ∧ R.nx (env.set i (some (.own (.lst (xs ++ ys))))) h
  | .clr i, env, h, R => ∃ xs, env[i]? = some (some (.own (.lst xs))) ∧ R.nx (env.set i (some (.own (.lst [])))) h
  | .exp e, env, h, R => wpE Γ cs e env h (fun _ h' => R.nx env h') (fun x h' => R.ex x env h')
  | .ret e, env, h, R => wpE Γ cs e (frzE env) h (fun v h' => ∃ x, v = .d x ∧ R.rt (.d x) h') (fun x h' => R.ex x (frzE env) h')
  | .retM i, env, h, R => ∃ o, env[i]? = some (some (.own o)) ∧ R.rt (.mv o) h
  | .retN, _, h, R => R.rt (.d .non) h
  | .retL l, env, h, R => wpL Γ cs l env h (fun xs h' => R.rt (.mv (.lst xs)) h') (fun x h' => R.ex x env h')
  | .exte i e, env, h, R => ∃ xs, env[i]? = some (some (.own (.lst xs))) ∧ wpE Γ cs e env h (fun v h1 => ∃ ys, v = .d (.tup ys) ∧ xs.length + ys.length ≤ sizeLine ∧ R.nx (env.set i (some (.own (.lst (xs ++ ys))))) h1) (fun x h' => R.ex x env h')
  | .ite t a b, env, h, R => wpT Γ cs t env h (fun k h' => if k = true then wpSs Γ cs a env h' R else wpSs Γ cs b env h' R) (fun x h' => R.ex x env h')
  | .whl t a, env, h, R => ∃ W : Nat → Ev → AH → Prop, (∃ m, W m env h) ∧ ∀ m env h, W m env h → wpT Γ cs t env h (fun k h' =>
      if k = true then wpSs Γ cs a env h' { R with nx := fun e h => ∃ m', m' < m ∧ W m' e h, ct := fun e h => ∃ m', m' < m ∧ W m' e h, bk := R.nx } else R.nx env h') (fun x h' => R.ex x env h')
  | .for g it a, env, h, R => wpI Γ cs it false env h (fun xs guard h' => forW guard g (fun env h R => wpSs Γ cs a env h R) xs env h' R) (fun x h' => R.ex x env h')
  | .asgV i j, env, h, R => ∃ o, env[j]? = some (some (.own o)) ∧ i ≠ j ∧ i < env.length ∧ R.nx ((env.set j none).set i (some (.own o))) h
  | .forO g i a, env, h, R => ∃ xs, env[i]? = some (some (.own (.lst xs))) ∧ forW (fun h' => (VV.bw (.lst xs)).seq h' = some xs) g (fun env h R => wpSs Γ cs a env h R) xs (env.set i (some (.bor (.lst xs)))) h (borR i (.lst xs) R)
  | .brk, env, h, R => R.bk env h
  | .cnt, env, h, R => R.ct env h
  | .pas, env, h, R => R.nx env h
  | .frz i, env, h, R => ∃ xs, env[i]? = some (some (.own (.lst xs))) ∧ R.nx (env.set i (some (.val (.fz xs)))) h
  | .asgD1 i k v, env, h, R => wpE Γ cs k env h (fun y h1 => wpE Γ cs v env h1 (fun z h2 => ∃ u w ks, y = .d u ∧ z = .d w ∧ u.keys = some ks ∧ R.nx (env.set i (some (.own (.dT [(ks, w)])))) h2) (fun x h' => R.ex x env h')) (fun x h' => R.ex x env h')
  | .asg2 i j a b, env, h, R => wpE Γ cs a env h (fun y h1 => wpE Γ cs b env h1 (fun z h2 => ∃ u w, y = .d u ∧ z = .d w ∧ R.nx ((env.set i (some (.val u))).set j (some (.val w))) h2) (fun x h' => R.ex x env h')) (fun x h' => R.ex x env h')
  | .setixE o k e, env, h, R => wpE Γ cs e env h (fun v h1 => wpE Γ cs o env h1 (fun x h2 => wpE Γ cs k env h2 (fun u h3 => ∃ d n ob y, v = .d d ∧ x = .d (.ref n) ∧ h3[n]? = some ob ∧ u = .d y ∧
      ((∃ xs z j, ob = .lst xs ∧ y = .int z ∧ ixN xs.length z = some j ∧ R.nx env (h3.set n (.lst (xs.set j d)))) ∨ ∃ o', ob.put y d = some o' ∧ R.nx env (h3.set n o'))) (fun x h' => R.ex x env h')) (fun x h' => R.ex x env h')) (fun x h' => R.ex x env h')
  | .setf k o f e, env, h, R => wpE Γ cs e env h (fun v h1 => wpE Γ cs o env h1 (fun x h2 => ∃ d n c fs, v = .d d ∧ x = .d (.ref n) ∧ h2[n]? = some (.ins c fs) ∧ c < k ∧ fs.length < 1000 ∧ R.nx env (h2.set n (.ins c (putFD f d fs)))) (fun x h' => R.ex x env h')) (fun x h' => R.ex x env h')
  | .raise c, env, h, R => R.ex ⟨c, []⟩ env h
  | .tryX k l _ n a s, env, h, R => wpSs Γ cs a env h { R with ex := fun x e h' => x.c < k ∧ if l.contains x.c = true then x.fs = [] ∧ ehW s n x e h' R else R.ex x e h' }
def wpSs (Γ : GM) (cs : Nat → Option D) : CSs → Ev → AH → CEnds → Prop
  | .nil, env, h, R => R.nx env h
  | .cons a r, env, h, R => wpS Γ cs a env h { R with nx := fun e h => wpSs Γ cs r e h R }
end

/-! ### defs -/
structure FD where
  np : Nat
  ns : Nat
  body : CSs
def startE (fd : FD) (vs : List VV) : Ev := vs.map argSl ++ List.replicate (fd.ns - vs.length) none
/-- the called defs to the depth k -/
def wpF (T : Nat → Option FD) (cs : Nat → Option D) : Nat → GM
  | 0 => fun _ _ _ _ _ => False
  | k + 1 => fun f vs h Q X => (∃ fd, T f = some fd ∧ vs.length = fd.np ∧ wpSs (wpF T cs k) cs fd.body (startE fd vs) h
      { nx := fun _ h' => Q (.d .non) h', rt := Q, bk := fun _ _ => False, ct := fun _ _ => False, ex := fun x _ h' => X x h' }) ∨ (T f = none ∧ 1000 ≤ f ∧ wpF T cs k (f - 1000) vs h Q X)
end G

/-! Core2: how the core's values lie in the abstract heap; steps; the frame's state. -/
namespace G
open PySem PySem.Spec PyProof.Rows L2

/-- a list that stays as it is -/
def FzL (K : PySem.W.Frag) (H : Hp) (m : Addr → Prop) (a : Addr) (vs : List V) : Prop :=
  (H a = some (.lst vs) ∧ ¬ m a) ∨ (∃ o, H a = some (.frz o (.lst vs))) ∨
    ∃ (o : Obj) (its : Array Value) (n : Nat), K.lookup a = some o ∧ o.cls = .type "list" ∧ o.dict = none ∧ o.data = .seq its n ∧ its.size ≤ sizeLine ∧ Vals vs its.toList
theorem FzL.sq {K : PySem.W.Frag} {H : Hp} {m : Addr → Prop} {a : Addr} {vs : List V} (h : FzL K H m a vs) : SqL K H a vs := by
  rcases h with ⟨h, _⟩ | ⟨o, h⟩ | h
  · exact .inl (.inl h)
  · exact .inl (.inr ⟨o, h⟩)
  · exact .inr h
mutual
/-- the value v of the heap H is d: ρ the addresses of the core's heap, m what may change -/
inductive RD (K : PySem.W.Frag) (H : Hp) (ρ : List Addr) (m : Addr → Prop) : D → V → Prop where
  | non : RD K H ρ m .non .non
  | bl (b : Bool) : RD K H ρ m (.bl b) (.bl b)
  | int (i : Int) : RD K H ρ m (.int i) (.int i)
  | str (z : Str) : RD K H ρ m (.str z) (.str z)
  | tup {a : Addr} {vs : List V} {ds : List D} : H a = some (.tup vs) → RDs K H ρ m ds vs → RD K H ρ m (.tup ds) (.ref a)
  | fz {a : Addr} {vs : List V} {ds : List D} : FzL K H m a vs → RDs K H ρ m ds vs → RD K H ρ m (.fz ds) (.ref a)
  | ref {n : Nat} {a : Addr} : ρ[n]? = some a → RD K H ρ m (.ref n) (.ref a)
inductive RDs (K : PySem.W.Frag) (H : Hp) (ρ : List Addr) (m : Addr → Prop) : List D → List V → Prop where
  | nil : RDs K H ρ m [] []
  | cons {d : D} {v : V} {ds : List D} {vs : List V} : RD K H ρ m d v → RDs K H ρ m ds vs → RDs K H ρ m (d :: ds) (v :: vs)
end
/-- values under keys -/
def RK (K : PySem.W.Frag) (H : Hp) (ρ : List Addr) (m : Addr → Prop) {κ : Type} : List (κ × D) → List (κ × V) → Prop := Paired fun (p : κ × D) (q : κ × V) => p.1 = q.1 ∧ RD K H ρ m p.2 q.2
/-- the object at a is o (C: where the classes stand) -/
def RO (C : Nat → Addr) (K : PySem.W.Frag) (H : Hp) (ρ : List Addr) (m : Addr → Prop) : AO → Addr → Prop
  | .lst ds, a => ∃ vs, H a = some (.lst vs) ∧ RDs K H ρ m ds vs
  | .dK kvs, a => ∃ ws, H a = some (.dK ws) ∧ RK K H ρ m kvs ws
  | .dT kvs, a => ∃ ws, H a = some (.dT ws) ∧ RK K H ρ m kvs ws
  | .ins c fs, a => ∃ dx ws, H a = some (.ins (C c) dx ws) ∧ RK K H ρ m fs ws

/-- a step of the heap: what is known of what doesn't change stays -/
structure Grow (H : Hp) (ρ : List Addr) (m : Addr → Prop) (H' : Hp) (ρ' : List Addr) (m' : Addr → Prop) : Prop where
  tup : ∀ a xs, H a = some (.tup xs) → H' a = some (.tup xs)
  frz : ∀ a o u, H a = some (.frz o u) → H' a = some (.frz o u)
  pre : ∀ (n : Nat) (a : Addr), ρ[n]? = some a → ρ'[n]? = some a
  lst : ∀ a xs, H a = some (.lst xs) → ¬ m a → H' a = some (.lst xs) ∧ ¬ m' a
section
variable {C : Nat → Addr} {K : PySem.W.Frag} {H H' H1 H2 : Hp} {ρ ρ' ρ1 ρ2 : List Addr} {m m' m1 m2 : Addr → Prop}
theorem Grow.refl : Grow H ρ m H ρ m := ⟨fun _ _ h => h, fun _ _ _ h => h, fun _ _ h => h, fun _ _ h n => ⟨h, n⟩⟩
theorem Grow.trans (g : Grow H ρ m H1 ρ1 m1) (g' : Grow H1 ρ1 m1 H2 ρ2 m2) : Grow H ρ m H2 ρ2 m2 :=
  ⟨fun a xs h => g'.tup a xs (g.tup a xs h), fun a o u h => g'.frz a o u (g.frz a o u h), fun n a h => g'.pre n a (g.pre n a h), fun a xs h n => let ⟨h1, n1⟩ := g.lst a xs h n; g'.lst a xs h1 n1⟩
theorem Grow.sqT (g : Grow H ρ m H1 ρ1 m1) {a : Addr} {vs : List V} (h : SqT K H a vs) : SqT K H1 a vs := by
  rcases h with (h | ⟨o, h⟩) | h
  · exact .inl (.inl (g.tup _ _ h))
  · exact .inl (.inr ⟨o, g.frz _ _ _ h⟩)
  · exact .inr h
theorem Grow.fzL (g : Grow H ρ m H1 ρ1 m1) {a : Addr} {vs : List V} (h : FzL K H m a vs) : FzL K H1 m1 a vs := by
  rcases h with ⟨h, n⟩ | ⟨o, h⟩ | h
  · exact .inl (g.lst _ _ h n)
  · exact .inr (.inl ⟨o, g.frz _ _ _ h⟩)
  · exact .inr (.inr h)
mutual
theorem RD.grow (g : Grow H ρ m H1 ρ1 m1) : ∀ {d : D} {v : V}, RD K H ρ m d v → RD K H1 ρ1 m1 d v
  | _, _, .non => .non
  | _, _, .bl b => .bl b
  | _, _, .int i => .int i
  | _, _, .str z => .str z
  | _, _, .tup h r => .tup (g.tup _ _ h) (RDs.grow g r)
  | _, _, .fz h r => .fz (g.fzL h) (RDs.grow g r)
  | _, _, .ref h => .ref (g.pre _ _ h)
theorem RDs.grow (g : Grow H ρ m H1 ρ1 m1) : ∀ {ds : List D} {vs : List V}, RDs K H ρ m ds vs → RDs K H1 ρ1 m1 ds vs
  | _, _, .nil => .nil
  | _, _, .cons r rs => .cons (RD.grow g r) (RDs.grow g rs)
end
theorem RK.grow {κ : Type} (g : Grow H ρ m H1 ρ1 m1) {xs : List (κ × D)} {ys : List (κ × V)} (h : RK K H ρ m xs ys) : RK K H1 ρ1 m1 xs ys :=
  Paired.mapP h fun _ _ z => ⟨z.1, z.2.grow g⟩
/-- the object itself unchanged -/
theorem RO.grow (g : Grow H ρ m H1 ρ1 m1) {o : AO} {a : Addr} (e : H1 a = H a) (h : RO C K H ρ m o a) : RO C K H1 ρ1 m1 o a := by
  cases o with
  | lst ds => obtain ⟨vs, h1, h2⟩ := h; exact ⟨vs, e.trans h1, h2.grow g⟩
  | dK ds => obtain ⟨vs, h1, h2⟩ := h; exact ⟨vs, e.trans h1, h2.grow g⟩
  | dT ds => obtain ⟨vs, h1, h2⟩ := h; exact ⟨vs, e.trans h1, h2.grow g⟩
  | ins c ds => obtain ⟨dx, vs, h1, h2⟩ := h; exact ⟨dx, vs, e.trans h1, h2.grow g⟩
/-- an object that may change: neither a tuple nor locked -/
theorem RO.kind {o : AO} {a : Addr} (h : RO C K H ρ m o a) : ∃ u, H a = some u ∧ (∀ xs, u ≠ .tup xs) ∧ (∀ o u', u ≠ .frz o u') := by
  cases o with
  | lst ds => obtain ⟨vs, h1, h2⟩ := h; exact ⟨_, h1, ⟨fun _ z => (by cases z), fun _ _ z => (by cases z)⟩⟩
  | dK ds => obtain ⟨vs, h1, h2⟩ := h; exact ⟨_, h1, ⟨fun _ z => (by cases z), fun _ _ z => (by cases z)⟩⟩
  | dT ds => obtain ⟨vs, h1, h2⟩ := h; exact ⟨_, h1, ⟨fun _ z => (by cases z), fun _ _ z => (by cases z)⟩⟩
  | ins c ds => obtain ⟨dx, vs, h1, h2⟩ := h; exact ⟨_, h1, ⟨fun _ z => (by cases z), fun _ _ z => (by cases z)⟩⟩
theorem RDs.length : ∀ {ds : List D} {vs : List V}, RDs K H ρ m ds vs → ds.length = vs.length
  | _, _, .nil => rfl
  | _, _, .cons _ rs => by simp [rs.length]
theorem RDs.append : ∀ {ds es : List D} {vs us : List V}, RDs K H ρ m ds vs → RDs K H ρ m es us → RDs K H ρ m (ds ++ es) (vs ++ us)
  | _, _, _, _, .nil, s => s
  | _, _, _, _, .cons r rs, s => .cons r (rs.append s)
theorem RDs.reverse : ∀ {ds : List D} {vs : List V}, RDs K H ρ m ds vs → RDs K H ρ m ds.reverse vs.reverse
  | _, _, .nil => .nil
  | _, _, .cons r rs => by
    rw [List.reverse_cons, List.reverse_cons]
    exact rs.reverse.append (.cons r .nil)
theorem RDs.get : ∀ {ds : List D} {vs : List V} {i : Nat} {d : D}, RDs K H ρ m ds vs → ds[i]? = some d → ∃ v, vs[i]? = some v ∧ RD K H ρ m d v
  | _, _, _, _, .nil, e => by simp at e
  | _, _, 0, _, .cons r _, e => by simp at e; subst e; exact ⟨_, rfl, r⟩
  | _, _, i + 1, d, .cons _ t, e => by
    obtain ⟨u, h1, h2⟩ := RDs.get (i := i) (d := d) t (by simpa using e)
    exact ⟨u, by simpa using h1, h2⟩
theorem RDs.getV : ∀ {ds : List D} {vs : List V} {i : Nat} {v : V}, RDs K H ρ m ds vs → vs[i]? = some v → ∃ d, ds[i]? = some d ∧ RD K H ρ m d v
  | _, _, _, _, .nil, e => by simp at e
  | _, _, 0, _, .cons r _, e => by simp at e; subst e; exact ⟨_, rfl, r⟩
  | _, _, i + 1, d, .cons _ t, e => by
    obtain ⟨u, h1, h2⟩ := RDs.getV (i := i) (v := d) t (by simpa using e)
    exact ⟨u, by simpa using h1, h2⟩
theorem RDs.set {d : D} {v : V} (r : RD K H ρ m d v) : ∀ {ds : List D} {vs : List V} (i : Nat), RDs K H ρ m ds vs → RDs K H ρ m (ds.set i d) (vs.set i v)
  | _, _, _, .nil => .nil
  | _, _, 0, .cons _ t => .cons r t
  | _, _, i + 1, .cons q t => .cons q (RDs.set r i t)
theorem RDs.take : ∀ {ds : List D} {vs : List V} (n : Nat), RDs K H ρ m ds vs → RDs K H ρ m (ds.take n) (vs.take n)
  | _, _, 0, _ => .nil
  | _, _, _ + 1, .nil => .nil
  | _, _, n + 1, .cons r t => .cons r (RDs.take n t)
theorem RDs.drop : ∀ {ds : List D} {vs : List V} (n : Nat), RDs K H ρ m ds vs → RDs K H ρ m (ds.drop n) (vs.drop n)
  | _, _, 0, r => r
  | _, _, _ + 1, .nil => .nil
  | _, _, n + 1, .cons _ t => RDs.drop n t
theorem RDs.ints : ∀ (ns : List Int) {vs : List V}, RDs K H ρ m (ns.map .int) vs → vs = ns.map V.int
  | [], _, .nil => rfl
  | n :: ns, _, .cons (.int _) t => by rw [RDs.ints ns t]; rfl
theorem RDs.of_ints : ∀ (ns : List Int), RDs K H ρ m (ns.map .int) (ns.map V.int)
  | [] => .nil
  | n :: ns => .cons (.int n) (RDs.of_ints ns)
theorem intsOf_eq : ∀ {xs : List D} {ns : List Int}, intsOf xs = some ns → xs = ns.map .int
  | [], ns, h => by simp [intsOf] at h; subst h; rfl
  | .int i :: r, ns, h => by
    simp only [intsOf, Option.map_eq_some_iff] at h
    obtain ⟨ms, h1, rfl⟩ := h
    rw [intsOf_eq h1]; rfl
  | .non :: _, _, h => by simp [intsOf] at h
  | .bl _ :: _, _, h => by simp [intsOf] at h
  | .str _ :: _, _, h => by simp [intsOf] at h
  | .tup _ :: _, _, h => by simp [intsOf] at h
  | .fz _ :: _, _, h => by simp [intsOf] at h
  | .ref _ :: _, _, h => by simp [intsOf] at h
theorem boolsOf_eq : ∀ {xs : List D} {ns : List Bool}, boolsOf xs = some ns → xs = ns.map .bl
  | [], ns, h => by simp [boolsOf] at h; subst h; rfl
  | .bl i :: r, ns, h => by
    simp only [boolsOf, Option.map_eq_some_iff] at h
    obtain ⟨ms, h1, rfl⟩ := h
    rw [boolsOf_eq h1]; rfl
  | .non :: _, _, h => by simp [boolsOf] at h
  | .int _ :: _, _, h => by simp [boolsOf] at h
  | .str _ :: _, _, h => by simp [boolsOf] at h
  | .tup _ :: _, _, h => by simp [boolsOf] at h
  | .fz _ :: _, _, h => by simp [boolsOf] at h
  | .ref _ :: _, _, h => by simp [boolsOf] at h
theorem RDs.bools : ∀ (ns : List Bool) {vs : List V}, RDs K H ρ m (ns.map .bl) vs → vs = ns.map V.bl
  | [], _, .nil => rfl
  | n :: ns, _, .cons (.bl _) t => by rw [RDs.bools ns t]; rfl
theorem RD.key {d : D} {v : V} {k : Key} (h : RD K H ρ m d v) (e : d.key = some k) : v = kV k := by
  cases h with
  | int i => simp [D.key] at e; subst e; rfl
  | str i => simp [D.key] at e; subst e; rfl
  | _ => simp [D.key] at e
theorem RDs.keysOf : ∀ {ds : List D} {vs : List V} {ks : List Key}, RDs K H ρ m ds vs → G.keysOf ds = some ks → vs = ks.map kV
  | _, _, _, .nil, e => by simp [G.keysOf] at e; subst e; rfl
  | _, _, ks, .cons (d := d) (ds := ds) r rs, e => by
    simp only [G.keysOf] at e
    split at e
    · rename_i k ks' h1 h2
      cases e
      rw [r.key h1, rs.keysOf h2]; rfl
    · cases e
theorem RD.kD (k : Key) : RD K H ρ m (kD k) (kV k) := by
  cases k with
  | inl i => exact .int i
  | inr z => exact .str z
theorem RDs.kDs : ∀ (ks : List Key), RDs K H ρ m (ks.map G.kD) (ks.map kV)
  | [] => .nil
  | k :: ks => .cons (.kD k) (RDs.kDs ks)
end
end G

/-! Core3: the frame's state against the machine's; what steps keep. -/
namespace G
open PySem PySem.Spec PyProof.Rows L2

/-- what may change: a caller's own, the heap's, one's own -/
def ms (ω ρ U : List Addr) : Addr → Prop := fun a => a ∈ ω ∨ a ∈ ρ ∨ a ∈ U
/-- an object that may change is neither a tuple nor locked -/
def MutO (u : HO) : Prop := (∀ xs, u ≠ .tup xs) ∧ ∀ o u', u ≠ .frz o u'
theorem MutO.lst (vs : List V) : MutO (.lst vs) := ⟨fun _ z => (by cases z), fun _ _ z => (by cases z)⟩
theorem MutO.dK (vs : List (Key × V)) : MutO (.dK vs) := ⟨fun _ z => (by cases z), fun _ _ z => (by cases z)⟩
theorem MutO.dT (vs : List (List Key × V)) : MutO (.dT vs) := ⟨fun _ z => (by cases z), fun _ _ z => (by cases z)⟩
structure HR (C : Nat → Addr) (K : PySem.W.Frag) (ω ρ U : List Addr) (h : AH) (H : Hp) : Prop where
  lh : h.length = ρ.length
  hp : ∀ (n : Nat) (o : AO), h[n]? = some o → ∃ a : Addr, ρ[n]? = some a ∧ RO C K H ρ (ms ω ρ U) o a
  nd : ρ.Nodup
  dj : ∀ a ∈ ρ, a ∉ ω ∧ a ∉ U
  du : ∀ a ∈ U, a ∉ ω
  pr : ∀ a, ms ω ρ U a → ∃ u, H a = some u ∧ MutO u
def RSl (C : Nat → Addr) (K : PySem.W.Frag) (ω ρ U : List Addr) (H : Hp) : Sl → V → Prop
  | .val d, v => RD K H ρ (ms ω ρ U) d v
  | .own o, v => ∃ a, v = .ref a ∧ a ∈ U ∧ RO C K H ρ (ms ω ρ U) o a
  | .bor o, v => ∃ a, v = .ref a ∧ a ∈ ω ∧ RO C K H ρ (ms ω ρ U) o a
def RV (C : Nat → Addr) (K : PySem.W.Frag) (ω ρ U : List Addr) (H : Hp) : VV → V → Prop
  | .d d, v => RD K H ρ (ms ω ρ U) d v
  | .tw o, v => ∃ a, v = .ref a ∧ a ∈ U ∧ RO C K H ρ (ms ω ρ U) o a
  | .bw o, v => ∃ a, v = .ref a ∧ a ∈ ω ∧ RO C K H ρ (ms ω ρ U) o a
theorem RSl.rv {C : Nat → Addr} {K : PySem.W.Frag} {ω ρ U : List Addr} {H : Hp} {s : Sl} {v : V} (h : RSl C K ω ρ U H s v) : RV C K ω ρ U H (slV s) v := by
  cases s <;> exact h
structure RS (C : Nat → Addr) (K : PySem.W.Frag) (β : Nat → Option Addr) (ω ρ U : List Addr) (env : Ev) (h : AH) (σ : L2.St) (H : Hp) : Prop where
  hr : HR C K ω ρ U h H
  len : env.length = σ.length
  sl : ∀ (i : Nat) (s : Sl), env[i]? = some (some s) → ∃ v, σ[i]? = some (some v) ∧ RSl C K ω ρ U H s v
  inj : ∀ (i j : Nat) (o o' : AO) (a : Addr), env[i]? = some (some (.own o)) → env[j]? = some (some (.own o')) → σ[i]? = some (some (.ref a)) → σ[j]? = some (some (.ref a)) → i = j
  bo : ∀ (i : Nat) (o : AO), env[i]? = some (some (.bor o)) → ∃ a : Addr, β i = some a ∧ σ[i]? = some (some (.ref a))
/-- a step that leaves a caller's own and one's own -/
structure Stp (ω U : List Addr) (H : Hp) (ρ : List Addr) (H' : Hp) (ρ' : List Addr) : Prop where
  gr : Grow H ρ (ms ω ρ U) H' ρ' (ms ω ρ' U)
  own : ∀ a, a ∈ ω ∨ a ∈ U → H' a = H a
section
variable {C : Nat → Addr} {K : PySem.W.Frag} {H H' H1 H2 : Hp} {ω ρ ρ' ρ1 ρ2 U : List Addr} {β : Nat → Option Addr} {env : Ev} {h h' : AH} {σ : L2.St}
theorem Stp.refl : Stp ω U H ρ H ρ := ⟨.refl, fun _ _ => rfl⟩
theorem Stp.trans (g : Stp ω U H ρ H1 ρ1) (g' : Stp ω U H1 ρ1 H2 ρ2) : Stp ω U H ρ H2 ρ2 := ⟨g.gr.trans g'.gr, fun a h => (g'.own a h).trans (g.own a h)⟩
theorem RSl.step (g : Stp ω U H ρ H1 ρ1) {s : Sl} {v : V} (r : RSl C K ω ρ U H s v) : RSl C K ω ρ1 U H1 s v := by
  cases s with
  | val d => exact RD.grow g.gr r
  | own o => obtain ⟨a, e, hu, r⟩ := r; exact ⟨a, e, hu, r.grow g.gr (g.own a (.inr hu))⟩
  | bor o => obtain ⟨a, e, hu, r⟩ := r; exact ⟨a, e, hu, r.grow g.gr (g.own a (.inl hu))⟩
theorem RV.step (g : Stp ω U H ρ H1 ρ1) {s : VV} {v : V} (r : RV C K ω ρ U H s v) : RV C K ω ρ1 U H1 s v := by
  cases s with
  | d d => exact RD.grow g.gr r
  | tw o => obtain ⟨a, e, hu, r⟩ := r; exact ⟨a, e, hu, r.grow g.gr (g.own a (.inr hu))⟩
  | bw o => obtain ⟨a, e, hu, r⟩ := r; exact ⟨a, e, hu, r.grow g.gr (g.own a (.inl hu))⟩
theorem RS.step (r : RS C K β ω ρ U env h σ H) (hr : HR C K ω ρ1 U h' H1) (g : Stp ω U H ρ H1 ρ1) : RS C K β ω ρ1 U env h' σ H1 :=
  ⟨hr, r.len, fun i s e => let ⟨v, e1, r1⟩ := r.sl i s e; ⟨v, e1, r1.step g⟩, r.inj, r.bo⟩
theorem HR.fresh (r : HR C K ω ρ U h H) {p : Addr} (hp : H p = none) : ¬ ms ω ρ U p := fun z => by
  obtain ⟨u, e, _⟩ := r.pr p z
  rw [hp] at e; cases e
/-- a new object, not of the core's heap -/
theorem HR.laid (r : HR C K ω ρ U h H) {p : Addr} (hp : H p = none) (u : HO) : HR C K ω ρ U h (upd H p u) ∧ Stp ω U H ρ (upd H p u) ρ := by
  have nm := r.fresh hp
  have ne : ∀ a, ms ω ρ U a → a ≠ p := fun a z e => nm (e ▸ z)
  have g : Grow H ρ (ms ω ρ U) (upd H p u) ρ (ms ω ρ U) :=
    ⟨fun a xs e => by rw [upd_ne (ne_of_none e hp)]; exact e, fun a o v e => by rw [upd_ne (ne_of_none e hp)]; exact e, fun _ _ e => e,
      fun a xs e n => ⟨by rw [upd_ne (ne_of_none e hp)]; exact e, n⟩⟩
  refine ⟨⟨r.lh, fun n o e => ?_, r.nd, r.dj, r.du, fun a z => ?_⟩, g, fun a z => ?_⟩
  · obtain ⟨a, e1, r1⟩ := r.hp n o e
    exact ⟨a, e1, r1.grow g (upd_ne (ne a (.inr (.inl (List.mem_of_getElem? e1)))))⟩
  · rw [upd_ne (ne a z)]; exact r.pr a z
  · exact upd_ne (ne a (z.elim .inl fun q => .inr (.inr q)))
/-- a new list stays as it is -/
theorem HR.new_fz (r : HR C K ω ρ U h H) {p : Addr} (hp : H p = none) {ds : List D} {vs : List V} (q : RDs K H ρ (ms ω ρ U) ds vs) : RD K (upd H p (.lst vs)) ρ (ms ω ρ U) (.fz ds) (.ref p) :=
  .fz (.inl ⟨upd_same, r.fresh hp⟩) (q.grow (r.laid hp (.lst vs)).2.gr)
theorem HR.new_tup (r : HR C K ω ρ U h H) {p : Addr} (hp : H p = none) {ds : List D} {vs : List V} (q : RDs K H ρ (ms ω ρ U) ds vs) : RD K (upd H p (.tup vs)) ρ (ms ω ρ U) (.tup ds) (.ref p) :=
  .tup upd_same (q.grow (r.laid hp (.tup vs)).2.gr)
/-- one's own object is changed -/
theorem HR.write (r : HR C K ω ρ U h H) {a : Addr} (ha : a ∈ U) {u : HO} (hu : MutO u) :
    HR C K ω ρ U h (upd H a u) ∧ Grow H ρ (ms ω ρ U) (upd H a u) ρ (ms ω ρ U) := by
  have hm : ms ω ρ U a := .inr (.inr ha)
  obtain ⟨u0, e0, m0⟩ := r.pr a hm
  have g : Grow H ρ (ms ω ρ U) (upd H a u) ρ (ms ω ρ U) :=
    ⟨fun b xs e => by rw [upd_ne (fun z => by subst z; rw [e0] at e; exact m0.1 _ (Option.some.inj e))]; exact e,
      fun b o v e => by rw [upd_ne (fun z => by subst z; rw [e0] at e; exact m0.2 _ _ (Option.some.inj e))]; exact e, fun _ _ e => e,
      fun b xs e n => ⟨by rw [upd_ne (fun z => by subst z; exact n hm)]; exact e, n⟩⟩
  refine ⟨⟨r.lh, fun n o e => ?_, r.nd, r.dj, r.du, fun b z => ?_⟩, g⟩
  · obtain ⟨b, e1, r1⟩ := r.hp n o e
    have hb : b ∈ ρ := List.mem_of_getElem? e1
    exact ⟨b, e1, r1.grow g (upd_ne (fun z => (r.dj b hb).2 (z ▸ ha)))⟩
  · by_cases hb : b = a
    · subst hb; exact ⟨u, upd_same, hu⟩
    · rw [upd_ne hb]; exact r.pr b z
/-- the object of the slot i is changed -/
theorem RS.write (r : RS C K β ω ρ U env h σ H) {i : Nat} {a : Addr} {o o' : AO} {u : HO} (e : env[i]? = some (some (.own o))) (es : σ[i]? = some (some (.ref a))) (ha : a ∈ U) (hu : MutO u)
    (ro : RO C K (upd H a u) ρ (ms ω ρ U) o' a) : RS C K β ω ρ U (env.set i (some (.own o'))) h σ (upd H a u) := by
  obtain ⟨hr, g⟩ := r.hr.write (h := h) ha hu
  have hi : i < env.length := (List.getElem?_eq_some_iff.mp e).1
  refine ⟨hr, by rw [List.length_set]; exact r.len, fun j s ej => ?_, fun j k o1 o2 b e1 e2 s1 s2 => ?_, fun j o1 ej => ?_⟩
  · by_cases hj : j = i
    · subst hj
      rw [List.getElem?_set_self hi] at ej
      cases ej
      exact ⟨_, es, a, rfl, ha, ro⟩
    · rw [List.getElem?_set_ne (Ne.symm hj)] at ej
      obtain ⟨v, ev, rv⟩ := r.sl j s ej
      refine ⟨v, ev, ?_⟩
      cases s with
      | val d => exact RD.grow g rv
      | own o1 =>
        obtain ⟨b, rfl, hb, rb⟩ := rv
        refine ⟨b, rfl, hb, rb.grow g (upd_ne fun z => hj ?_)⟩
        subst z
        exact r.inj j i o1 o b ej e ev es
      | bor o1 =>
        obtain ⟨b, rfl, hb, rb⟩ := rv
        exact ⟨b, rfl, hb, rb.grow g (upd_ne fun z => r.hr.du a ha (z ▸ hb))⟩
  · have q : ∀ k o2, (env.set i (some (.own o')))[k]? = some (some (Sl.own o2)) → ∃ o3, env[k]? = some (some (Sl.own o3)) := fun k o2 ek => by
      by_cases hk : k = i
      · subst hk; exact ⟨o, e⟩
      · rw [List.getElem?_set_ne (Ne.symm hk)] at ek; exact ⟨o2, ek⟩
    obtain ⟨o3, e3⟩ := q j o1 e1
    obtain ⟨o4, e4⟩ := q k o2 e2
    exact r.inj j k o3 o4 b e3 e4 s1 s2
  · by_cases hj : j = i
    · subst hj
      rw [List.getElem?_set_self hi] at ej
      cases ej
    · rw [List.getElem?_set_ne (Ne.symm hj)] at ej
      exact r.bo j o1 ej
/-- a slot takes a value -/
theorem RS.set (r : RS C K β ω ρ U env h σ H) (i : Nat) {d : D} {v : V} (q : RD K H ρ (ms ω ρ U) d v) : RS C K β ω ρ U (env.set i (some (.val d))) h (σ.set i (some v)) H := by
  refine ⟨r.hr, by simpa using r.len, fun j s ej => ?_, fun j k o1 o2 b e1 e2 s1 s2 => ?_, fun j o1 ej => ?_⟩
  · by_cases hj : j = i
    · subst hj
      have hi : j < env.length := by
        have := (List.getElem?_eq_some_iff.mp ej).1
        simpa using this
      rw [List.getElem?_set_self hi] at ej
      cases ej
      exact ⟨v, List.getElem?_set_self (r.len ▸ hi), q⟩
    · rw [List.getElem?_set_ne (Ne.symm hj)] at ej ⊢
      exact r.sl j s ej
  · have p : ∀ (k : Nat) (o2 : AO), (env.set i (some (.val d)))[k]? = some (some (Sl.own o2)) → k ≠ i := fun k o2 ek z => by
      subst z
      have hi : k < env.length := by
        have := (List.getElem?_eq_some_iff.mp ek).1
        simpa using this
      rw [List.getElem?_set_self hi] at ek
      cases ek
    have n1 := p j o1 e1
    have n2 := p k o2 e2
    rw [List.getElem?_set_ne (Ne.symm n1)] at e1 s1
    rw [List.getElem?_set_ne (Ne.symm n2)] at e2 s2
    exact r.inj j k o1 o2 b e1 e2 s1 s2
  · have n : j ≠ i := fun z => by
      subst z
      have hi : j < env.length := by
        have := (List.getElem?_eq_some_iff.mp ej).1
        simpa using this
      rw [List.getElem?_set_self hi] at ej
      cases ej
    rw [List.getElem?_set_ne (Ne.symm n)] at ej ⊢
    exact r.bo j o1 ej
/-- a slot is forgotten -/
theorem RS.wipe (r : RS C K β ω ρ U env h σ H) (i : Nat) (x : Option V) : RS C K β ω ρ U (env.set i none) h (σ.set i x) H := by
  have p : ∀ (k : Nat) (s : Sl), (env.set i none)[k]? = some (some s) → k ≠ i := fun k s ek z => by
    subst z
    have hi : k < env.length := by
      have := (List.getElem?_eq_some_iff.mp ek).1
      simpa using this
    rw [List.getElem?_set_self hi] at ek
    cases ek
  refine ⟨r.hr, by simpa using r.len, fun j s ej => ?_, fun j k o1 o2 b e1 e2 s1 s2 => ?_, fun j o1 ej => ?_⟩
  · have n := p j s ej
    rw [List.getElem?_set_ne (Ne.symm n)] at ej ⊢
    exact r.sl j s ej
  · have n1 := p j _ e1
    have n2 := p k _ e2
    rw [List.getElem?_set_ne (Ne.symm n1)] at e1 s1
    rw [List.getElem?_set_ne (Ne.symm n2)] at e2 s2
    exact r.inj j k o1 o2 b e1 e2 s1 s2
  · have n := p j _ ej
    rw [List.getElem?_set_ne (Ne.symm n)] at ej ⊢
    exact r.bo j o1 ej
/-- one more of one's own -/
theorem HR.adopt (r : HR C K ω ρ U h H) {p : Addr} (hp : H p = none) {u : HO} (hu : MutO u) :
    HR C K ω ρ (p :: U) h (upd H p u) ∧ Grow H ρ (ms ω ρ U) (upd H p u) ρ (ms ω ρ (p :: U)) := by
  have nm := r.fresh hp
  have ne : ∀ a, ms ω ρ U a → a ≠ p := fun a z e => nm (e ▸ z)
  have g : Grow H ρ (ms ω ρ U) (upd H p u) ρ (ms ω ρ (p :: U)) :=
    ⟨fun a xs e => by rw [upd_ne (ne_of_none e hp)]; exact e, fun a o v e => by rw [upd_ne (ne_of_none e hp)]; exact e, fun _ _ e => e,
      fun a xs e n => ⟨by rw [upd_ne (ne_of_none e hp)]; exact e, fun z => by
        rcases z with z | z | z
        · exact n (.inl z)
        · exact n (.inr (.inl z))
        · rcases List.mem_cons.mp z with z | z
          · exact ne_of_none e hp z
          · exact n (.inr (.inr z))⟩⟩
  refine ⟨⟨r.lh, fun n o e => ?_, r.nd, fun a ha => ⟨(r.dj a ha).1, fun z => ?_⟩, fun a ha => ?_, fun a z => ?_⟩, g⟩
  · obtain ⟨a, e1, r1⟩ := r.hp n o e
    exact ⟨a, e1, r1.grow g (upd_ne (ne a (.inr (.inl (List.mem_of_getElem? e1)))))⟩
  · rcases List.mem_cons.mp z with z | z
    · exact ne a (.inr (.inl ha)) z
    · exact (r.dj a ha).2 z
  · rcases List.mem_cons.mp ha with z | z
    · subst z; exact fun q => nm (.inl q)
    · exact r.du a z
  · by_cases hb : a = p
    · subst hb; exact ⟨u, upd_same, hu⟩
    · rw [upd_ne hb]
      refine r.pr a ?_
      rcases z with z | z | z
      · exact .inl z
      · exact .inr (.inl z)
      · rcases List.mem_cons.mp z with z | z
        · exact absurd z hb
        · exact .inr (.inr z)
/-- a slot takes an object that nobody else knows -/
theorem RS.setOwn (r : RS C K β ω ρ U env h σ H) {U' : List Addr} {H1 : Hp} {ρ1 : List Addr} (hr : HR C K ω ρ1 U' h' H1) (g : Grow H ρ (ms ω ρ U) H1 ρ1 (ms ω ρ1 U')) (own : ∀ a, a ∈ ω ∨ a ∈ U → H1 a = H a) (hU : ∀ a ∈ U, a ∈ U')
    (i : Nat) {p : Addr} {o : AO} (hp : p ∈ U') (nU : p ∉ U) (ro : RO C K H1 ρ1 (ms ω ρ1 U') o p) : RS C K β ω ρ1 U' (env.set i (some (.own o))) h' (σ.set i (some (.ref p))) H1 := by
  have lift : ∀ (j : Nat) (s : Sl), env[j]? = some (some s) → ∃ v, σ[j]? = some (some v) ∧ RSl C K ω ρ1 U' H1 s v ∧ v ≠ .ref p ∨ ∃ v, σ[j]? = some (some v) ∧ RSl C K ω ρ1 U' H1 s v ∧ ∀ o, s ≠ .own o := fun j s e => by
    obtain ⟨v, ev, rv⟩ := r.sl j s e
    cases s with
    | val d => exact ⟨v, .inr ⟨v, ev, RD.grow g rv, fun _ z => (by cases z)⟩⟩
    | own o1 =>
      obtain ⟨b, rfl, hb, rb⟩ := rv
      exact ⟨_, .inl ⟨ev, ⟨b, rfl, hU b hb, rb.grow g (own b (.inr hb))⟩, fun z => nU (by cases z; exact hb)⟩⟩
    | bor o1 =>
      obtain ⟨b, rfl, hb, rb⟩ := rv
      exact ⟨.ref b, .inr ⟨.ref b, ev, ⟨b, rfl, hb, rb.grow g (own b (.inl hb))⟩, fun _ z => (by cases z)⟩⟩
  refine ⟨hr, by simpa using r.len, fun j s ej => ?_, fun j k o1 o2 b e1 e2 s1 s2 => ?_, fun j o1 ej => ?_⟩
  · by_cases hj : j = i
    · subst hj
      have hi : j < env.length := by
        have := (List.getElem?_eq_some_iff.mp ej).1
        simpa using this
      rw [List.getElem?_set_self hi] at ej
      cases ej
      exact ⟨_, List.getElem?_set_self (r.len ▸ hi), p, rfl, hp, ro⟩
    · rw [List.getElem?_set_ne (Ne.symm hj)] at ej ⊢
      obtain ⟨v, q⟩ := lift j s ej
      rcases q with ⟨a, b, _⟩ | ⟨v', a, b, _⟩
      · exact ⟨v, a, b⟩
      · exact ⟨v', a, b⟩
  · have q : ∀ (k : Nat) (o2 : AO), (env.set i (some (.own o)))[k]? = some (some (Sl.own o2)) → (σ.set i (some (.ref p)))[k]? = some (some (.ref b)) → (k = i ∧ b = p) ∨ (k ≠ i ∧ b ≠ p ∧ env[k]? = some (some (Sl.own o2)) ∧ σ[k]? = some (some (.ref b))) := fun k o2 ek sk => by
      by_cases hk : k = i
      · subst hk
        have hi : k < σ.length := by
          have := (List.getElem?_eq_some_iff.mp sk).1
          simpa using this
        rw [List.getElem?_set_self hi] at sk
        cases sk
        exact .inl ⟨rfl, rfl⟩
      · rw [List.getElem?_set_ne (Ne.symm hk)] at ek sk
        refine .inr ⟨hk, fun z => ?_, ek, sk⟩
        subst z
        obtain ⟨v, ev, b', rfl, hb, _⟩ := r.sl k _ ek
        rw [sk] at ev
        cases ev
        exact nU hb
    rcases q j o1 e1 s1 with ⟨a1, a2⟩ | ⟨a1, a2, a3, a4⟩
    · rcases q k o2 e2 s2 with ⟨b1, b2⟩ | ⟨b1, b2, b3, b4⟩
      · rw [a1, b1]
      · exact absurd a2 b2
    · rcases q k o2 e2 s2 with ⟨b1, b2⟩ | ⟨b1, b2, b3, b4⟩
      · exact absurd b2 a2
      · exact r.inj j k o1 o2 b a3 b3 a4 b4
  · have n : j ≠ i := fun z => by
      subst z
      have hi : j < env.length := by
        have := (List.getElem?_eq_some_iff.mp ej).1
        simpa using this
      rw [List.getElem?_set_self hi] at ej
      cases ej
    rw [List.getElem?_set_ne (Ne.symm n)] at ej ⊢
    exact r.bo j o1 ej
end
end G

set_option maxHeartbeats 1000000
/-! Core4: operators and built-in calls, by values. -/
namespace G
open PySem PySem.Spec PyProof.Rows L2

section
variable {C : Nat → Addr} {K : PySem.W.Frag} {H : Hp} {ω ρ U : List Addr} {h : AH} {Q : VK}
/-- what a value's end wants -/
abbrev EndD (C : Nat → Addr) (K : PySem.W.Frag) (ω ρ U : List Addr) (h : AH) (H : Hp) (P : D → Prop) (Q : VK) : Prop :=
  ∀ (z : D) (w : V) (H' : Hp), HR C K ω ρ U h H' → Stp ω U H ρ H' ρ → RD K H' ρ (ms ω ρ U) z w → P z → Q w H'
theorem RDs.reps {K : PySem.W.Frag} {H : Hp} {ρ : List Addr} {m : Addr → Prop} {xs : List D} {vs : List V} (r : RDs K H ρ m xs vs) : ∀ n : Nat, RDs K H ρ m (List.replicate n xs).flatten (List.replicate n vs).flatten
  | 0 => .nil
  | n + 1 => by simp only [List.replicate_succ, List.flatten_cons]; exact r.append (r.reps n)
theorem tuple_mul1 (l : Addr) (items : Array Value) (n : Nat) (dd : Option Addr) (sl : Array (Option Value)) (u : Tok) :
    Meets (Builtin.«tuple.__mul__» ⟨[.ref l, .int 1 u], []⟩) (fun _ R s => s.heap.get? l = some { cls := .type "tuple", dict := dd, data := .seq items n, slots := sl } ∧ R (.ok (.ret (Value.ref l))) s) :=
  .of_wp fun prog w A R s h => by
    obtain ⟨hp, g, d, tk, os⟩ := s
    obtain ⟨hl, h⟩ := h
    have f1 := AutoSeq1.idx_int
    have c0 : (decide ((1 : Int) < -(2 ^ 63)) || decide ((1 : Int) ≥ 2 ^ 63)) = false := by decide
    have c1 : (items.isEmpty || (1 : Int) == 1) = true := by simp
    wp_walk using wpAny_loadPart' hl
    repeat (first
      | (refine wpAny_ite_false (decide_eq_false (by rw [c0]; exact Bool.false_ne_true)) ?_; wp_walk using wpAny_loadPart' hl)
      | (refine wpAny_ite_true (decide_eq_true (by rw [c1])) ?_; wp_walk using wpAny_loadPart' hl))
    exact ⟨_, rfl, h⟩
/-- (..) * 1 -/
def rRepT1 (K : PySem.W.Frag) : R2 := fun x y H Q => ∃ l xs, x = .ref l ∧ y = .int 1 ∧ SqT K H l xs ∧ Q (.ref l) H
theorem op_repT1 {X : Cx} : OpR X (binaryOp .Mult) (rRepT1 X.K) := by
  intro pins s σ H x y v u Q I rx ry h
  obtain ⟨l, xs, rfl, rfl, hT, q⟩ := h
  cases rx
  obtain ⟨t, rfl⟩ := ry
  obtain ⟨its, r, ⟨⟨cls, dd, data, sl⟩, ho, hc, n, hd⟩, hs⟩ := I.tuple hT
  simp only at hc hd
  subst hc hd
  refine wpAny_binaryOp_repeat_ref (T := "tuple") (U := "int") (by decide) ⟨_, ho, rfl⟩ (fun s' => typeIs_int s' 1 t) noFill_tuple_mul F.fills_int_mul F.slot_int_rmul repeat_tuple F.slot_int_index.lookup
    (call_meets F.slot_int_rmul (typeIs_int s 1 t) F.entry_int_rmul (F.args_int_rmul_2 _ _) (int_rmul_tuple 1 t l its.toArray n dd sl)
      ⟨ho, rfl, ⟨_, ho, rfl⟩, call_meets F.slot_tuple_mul ⟨_, ho, rfl⟩ F.entry_tuple_mul (F.args_tuple_mul_2 _ _) (tuple_mul1 l its.toArray n dd sl t) ⟨ho, ?_⟩⟩)
  exact ⟨.ref l, _, I, rfl, q⟩
theorem Un.at' {fs : List Addr} {H Hj : Hp} {h hj h' : Heap} {a : Addr} {ob : HO} (u : Un fs [] H Hj h hj) (k : ∀ b o, b < h.objs.size → hj.get? b = some o → h'.get? b = some o) (ha : h.objs.size ≤ a) (hn : H a = none) : Un fs [] H (upd Hj a ob) h h' := by
  have na : ∀ b o, h.get? b = some o → b ≠ a := fun b o e => Nat.ne_of_lt (Nat.lt_of_lt_of_le (Heap.lt_size e) ha)
  have nh : ∀ b o, H b = some o → b ≠ a := fun b o e z => by rw [z, hn] at e; cases e
  refine ⟨fun b o e n hf hx => k b o (Heap.lt_size e) (u.keep b o e n hf hx), fun b o e n hf hx => ?_, fun b o e n hx => ?_, fun b o e hx => ?_, fun b xs e => ?_, fun b o v e => ?_, fun b ps e => ?_⟩
  · obtain ⟨sl, q⟩ := u.slot b o e n hf hx
    exact ⟨sl, k b _ (Heap.lt_size e) q⟩
  · rw [upd_ne (na b o e)]; exact u.free b o e n hx
  · obtain ⟨o', q⟩ := u.there b o e hx
    exact ⟨o', k b _ (Heap.lt_size e) q⟩
  · rw [upd_ne (nh b _ e)]; exact u.tups b xs e
  · rw [upd_ne (nh b _ e)]; exact u.frzs b o v e
  · rw [upd_ne (nh b _ e)]; exact u.tbls b ps e
theorem HOk.open' {P : Program} {w : World} {H : Hp} {h h' : Heap} {a e : Addr} {ob : HO} (x : HOk P w H h) (na : H a = none) (ne : H e = none) (k : ∀ b u, b ≠ a → b ≠ e → h.get? b = some u → h'.get? b = some u) (new : ObjOk P w (upd H a ob) h' a ob) : HOk P w (upd H a ob) h' := by
  intro b u q
  by_cases hb : b = a
  · subst hb; rw [upd_same] at q; cases q; exact new
  · rw [upd_ne hb] at q
    have nz : ∀ c v, H c = some v → c ≠ a ∧ c ≠ e := fun c v r => ⟨(fun z => by rw [z, na] at r; cases r), (fun z => by rw [z, ne] at r; cases r)⟩
    refine (x b u q).stay (fun c v hc r => ?_) (fun c r => by rw [upd_ne (nz c _ r).1]; exact r) fun c xs r => by rw [upd_ne (nz c _ r).1]; exact r
    rcases hc with hc | hc
    · subst hc
      exact k c v (nz c _ q).1 (nz c _ q).2 r
    · exact k c v (nz c _ hc).1 (nz c _ hc).2 r
theorem tuple_mul0 (l : Addr) (items : Array Value) (n : Nat) (dd : Option Addr) (sl : Array (Option Value)) (u : Tok) (k : Int) (hk : k ≤ 0) (hk2 : -(2 ^ 63) ≤ k) (hi : items.isEmpty = false) :
    Meets (Builtin.«tuple.__mul__» ⟨[.ref l, .int k u], []⟩) (fun _ R s => s.heap.get? l = some { cls := .type "tuple", dict := dd, data := .seq items n, slots := sl } ∧
      R (.ok (.ret (.ref s.heap.objs.size))) { s with heap := s.heap.push { cls := .type "tuple", data := .seq #[] } }) :=
  .of_wp fun prog w A R s h => by
    obtain ⟨hp, g, d, tk, os⟩ := s
    obtain ⟨hl, h⟩ := h
    have f1 := AutoSeq1.idx_int
    have c0 : (decide (k < -(2 ^ 63)) || decide (k ≥ 2 ^ 63)) = false := by simp; omega
    have c1 : (items.isEmpty || k == 1) = false := by rw [hi]; simp; omega
    have hp0 : (items.size : Int) * k ≤ 0 := by
      have := Int.mul_le_mul_of_nonneg_left hk (Int.natCast_nonneg items.size)
      rw [Int.mul_zero] at this; exact this
    have c3 : ¬ (items.size : Int) * k > (2 ^ 63 - 1) / 8 := by omega
    have c4 : Builtin.Tuple.tupleTooMany (↑items.size * k) = false := decide_eq_false (by have : (0 : Int) ≤ (sizeLine : Nat) := Int.natCast_nonneg _; omega)
    have c5 : k.toNat = 0 := by omega
    wp_walk using wpAny_loadPart' hl
    repeat (first
      | (refine wpAny_ite_false (decide_eq_false (by rw [c0]; exact Bool.false_ne_true)) ?_; wp_walk using wpAny_loadPart' hl)
      | (refine wpAny_ite_false (decide_eq_false (by rw [c1]; exact Bool.false_ne_true)) ?_; wp_walk using wpAny_loadPart' hl))
    all_goals exact ⟨_, rfl, h⟩
/-- (..) * 0 -/
def rRepT0 (K : PySem.W.Frag) : R2 := fun x y H Q => ∃ l k xs, x = .ref l ∧ y = .int k ∧ -(2 ^ 63) ≤ k ∧ k ≤ 0 ∧ xs ≠ [] ∧ SqT K H l xs ∧ ∀ p, H p = none → Q (.ref p) (upd H p (.tup []))
theorem op_repT0 {X : Cx} : OpR X (binaryOp .Mult) (rRepT0 X.K) := by
  intro pins s σ H x y v u Q I rx ry h
  obtain ⟨l, k, xs, rfl, rfl, hk2, hk, hne, hT, q⟩ := h
  cases rx
  obtain ⟨t, rfl⟩ := ry
  obtain ⟨its, r, ⟨⟨cls, dd, data, sl⟩, ho, hc, n, hd⟩, hs⟩ := I.tuple hT
  simp only at hc hd
  subst hc hd
  have hi : its.toArray.isEmpty = false := by
    have := r.length
    cases its with
    | nil => cases xs with
      | nil => exact absurd rfl hne
      | cons _ _ => simp at this
    | cons a b => rfl
  refine wpAny_binaryOp_repeat_ref (T := "tuple") (U := "int") (by decide) ⟨_, ho, rfl⟩ (fun s' => typeIs_int s' k t) noFill_tuple_mul F.fills_int_mul F.slot_int_rmul repeat_tuple F.slot_int_index.lookup
    (call_meets F.slot_int_rmul (typeIs_int s k t) F.entry_int_rmul (F.args_int_rmul_2 _ _) (int_rmul_tuple k t l its.toArray n dd sl)
      ⟨ho, rfl, ⟨_, ho, rfl⟩, call_meets F.slot_tuple_mul ⟨_, ho, rfl⟩ F.entry_tuple_mul (F.args_tuple_mul_2 _ _) (tuple_mul0 l its.toArray n dd sl t k hk hk2 hi) ⟨ho, ?_⟩⟩)
  refine ⟨.ref s.heap.objs.size, upd H s.heap.objs.size (.tup []), ?_, rfl, q _ I.fresh⟩
  refine I.un (t' := s.toks) (Un.at' Un.refl (fun b o hb e => Heap.get?_push_of_some _ e) (Nat.le_refl _) I.fresh) (HOk.open' (e := s.heap.objs.size) I.hok I.fresh I.fresh (fun b u _ _ e => Heap.get?_push_of_some _ e) ?_)
  exact ⟨Nat.zero_le _, [], .nil, ⟨_, Heap.get?_push_size _ rfl, rfl, 0, rfl⟩⟩
/-! ### + - * // % ** -/
def rBin (K : PySem.W.Frag) (u : Nat) : BO → R2
  | .add => fun x y H Q => (rI0 fun i j => .int (i + j)) x y H Q ∨ (∃ i j, x = .str i ∧ y = .str j ∧ i.length + j.length ≤ sizeLine ∧ Q (.str (i ++ j)) H) ∨ rCatA K x y H Q
  | .sub => rI0 fun i j => .int (i - j)
  | .mul => fun x y H Q => rI CMul (fun i j => .int (i * j)) x y H Q ∨ rRepT K x y H Q ∨ rRepT1 K x y H Q ∨ rRepT0 K x y H Q
  | .fdiv => rI CDiv fun i j => .int (i / j)
  | .mod => rI (fun _ j => 0 < j) fun i j => .int (i % j)
  | .pow => rI CPow fun i j => .int (i ^ j.toNat)
def BO.op : BO → Operator
  | .add => .Add | .sub => .Sub | .mul => .Mult | .fdiv => .FloorDiv | .mod => .Mod | .pow => .Pow
theorem op_bin {X : Cx} (o : BO) : OpR X (binaryOp o.op) (rBin X.K 0 o) := by
  cases o with
  | add => exact op_add.or (op_add_str.or op_catA)
  | sub => exact op_sub
  | mul => exact op_mul.or (op_repT.or (op_repT1.or op_repT0))
  | fdiv => exact op_fdiv
  | mod => exact op_mod
  | pow => exact op_pow
theorem bin_ok (hr : HR C K ω ρ U h H) {o : BO} {d e : D} {x y : V} {P : D → Prop} (rx : RD K H ρ (ms ω ρ U) d x) (ry : RD K H ρ (ms ω ρ U) e y) (w : binW o d e P) (hQ : EndD C K ω ρ U h H P Q) : rBin K 0 o x y H Q := by
  unfold binW at w
  split at w
  · cases rx; cases ry; exact .inl ⟨_, _, rfl, rfl, hQ _ _ _ hr .refl (.int _) w⟩
  · cases rx; cases ry; exact .inr (.inl ⟨_, _, rfl, rfl, w.1, hQ _ _ _ hr .refl (.str _) w.2⟩)
  · cases rx with
    | tup sx rx =>
    cases ry with
    | tup sy ry =>
    obtain ⟨hl, w⟩ := w
    refine .inr (.inr ⟨_, _, _, _, rfl, rfl, SqT.of sx, SqT.of sy, by rw [← rx.length, ← ry.length]; exact hl, fun e => ?_, fun e1 e2 => ?_, fun e1 e2 p hp => ?_⟩)
    · subst e
      cases rx
      exact hQ _ _ _ hr .refl (.tup sy ry) w
    · subst e2
      cases ry
      rw [List.append_nil] at w
      exact hQ _ _ _ hr .refl (.tup sx rx) w
    · exact hQ _ _ _ (hr.laid hp _).1 (hr.laid hp _).2 (hr.new_tup hp (rx.append ry)) w
  · cases rx; cases ry; exact ⟨_, _, rfl, rfl, hQ _ _ _ hr .refl (.int _) w⟩
  · cases rx; cases ry; exact .inl ⟨_, _, rfl, rfl, w.1, hQ _ _ _ hr .refl (.int _) w.2⟩
  · rename_i xs k
    cases rx with
    | tup sx rx =>
    cases ry
    obtain ⟨h0, h1, h2, h3, w⟩ := w
    by_cases e : k = 1
    · subst e
      have e2 : (List.replicate (1 : Int).toNat xs).flatten = xs := by show (List.replicate 1 xs).flatten = xs; simp
      rw [e2] at w
      exact .inr (.inr (.inl ⟨_, _, rfl, rfl, SqT.of sx, hQ _ _ _ hr .refl (.tup sx rx) w⟩))
    · by_cases e0 : k ≤ 0
      · have e2 : (List.replicate k.toNat xs).flatten = [] := by
          have : k.toNat = 0 := by omega
          rw [this]; rfl
        rw [e2] at w
        exact .inr (.inr (.inr ⟨_, _, _, rfl, rfl, h1, e0, fun z => h0 (by subst z; cases rx; rfl), SqT.of sx, fun p hp => hQ _ _ _ (hr.laid hp _).1 (hr.laid hp _).2 (hr.new_tup hp .nil) w⟩))
      refine .inr (.inl ⟨_, _, _, rfl, rfl, SqT.of sx, fun z => h0 ?_, by omega, h2, by rw [← rx.length]; exact h3, fun p hp => ?_⟩)
      · subst z; cases rx; rfl
      · exact hQ _ _ _ (hr.laid hp _).1 (hr.laid hp _).2 (hr.new_tup hp (rx.reps _)) w
  · cases rx; cases ry; exact ⟨_, _, rfl, rfl, w.1, hQ _ _ _ hr .refl (.int _) w.2⟩
  · cases rx; cases ry; exact ⟨_, _, rfl, rfl, w.1, hQ _ _ _ hr .refl (.int _) w.2⟩
  · cases rx; cases ry; exact ⟨_, _, rfl, rfl, w.1, hQ _ _ _ hr .refl (.int _) w.2⟩
  · exact w.elim

/-! ### equality -/
mutual
def D.py : D → PyData
  | .non => .none
  | .bl b => .bool b
  | .int i => .int i
  | .str z => .str z
  | .tup xs => .tuple (D.pys xs)
  | .fz xs => .list (D.pys xs)
  | .ref _ => .none
def D.pys : List D → List PyData
  | [] => []
  | x :: xs => D.py x :: D.pys xs
end
mutual
theorem D.fla_lay : ∀ (d : D) (n : Nat), d.fla n = true → d.py.canLay0 = true ∧ d.py.depth ≤ n
  | .non, _, _ => ⟨rfl, Nat.zero_le _⟩
  | .bl _, _, _ => ⟨rfl, Nat.zero_le _⟩
  | .int _, _, _ => ⟨rfl, Nat.zero_le _⟩
  | .str z, _, e => ⟨e, Nat.zero_le _⟩
  | .tup xs, 0, e => by simp [D.fla] at e
  | .tup xs, n + 1, e => by
    have q := D.flas_lay xs n (by simpa [D.fla] using e)
    exact ⟨by simpa [D.py, PyData.canLay0] using q.1, by simp only [D.py, PyData.depth]; have := q.2; omega⟩
  | .fz xs, 0, e => by simp [D.fla] at e
  | .fz xs, n + 1, e => by
    have q := D.flas_lay xs n (by simpa [D.fla] using e)
    exact ⟨by simpa [D.py, PyData.canLay0] using q.1, by simp only [D.py, PyData.depth]; have := q.2; omega⟩
  | .ref _, _, e => by simp [D.fla] at e
theorem D.flas_lay : ∀ (ds : List D) (n : Nat), D.flas n ds = true → PyData.canLayAll0 (D.pys ds) = true ∧ PyData.depthAll (D.pys ds) ≤ n
  | [], _, _ => ⟨rfl, Nat.zero_le _⟩
  | d :: ds, n, e => by
    simp only [D.flas, Bool.and_eq_true] at e
    have q1 := D.fla_lay d n e.1
    have q2 := D.flas_lay ds n e.2
    refine ⟨by simp only [D.pys, PyData.canLayAll0, q1.1, q2.1, Bool.and_self], ?_⟩
    simp only [D.pys, PyData.depthAll]
    have := q1.2; have := q2.2; omega
end
theorem D.fla_shaped {d : D} (e : d.fla 60 = true) : SeqAt.shaped d.py = true := by
  obtain ⟨a, b⟩ := D.fla_lay d 60 e
  unfold SeqAt.shaped
  rw [a, Bool.true_and]
  exact decide_eq_true (by omega)
theorem D.flas_shaped {ds : List D} (e : D.flas 59 ds = true) : SeqAt.shaped (.list (D.pys ds)) = true := by
  obtain ⟨a, b⟩ := D.flas_lay ds 59 e
  unfold SeqAt.shaped
  have : PyData.canLay0 (.list (D.pys ds)) = true := by simpa [PyData.canLay0] using a
  rw [this, Bool.true_and]
  exact decide_eq_true (by simp only [PyData.depth]; omega)
mutual
theorem D.py_eqv : ∀ (d e : D) (n k : Nat), d.fla n = true → e.fla k = true → PyData.eqv d.py e.py = D.eqv d e := by
  intro d e n k h1 h2
  match d, e with
  | .tup xs, .tup ys =>
    cases n with
    | zero => simp [D.fla] at h1
    | succ n =>
    cases k with
    | zero => simp [D.fla] at h2
    | succ k =>
    have := D.pys_eqv xs ys n k (by simpa [D.fla] using h1) (by simpa [D.fla] using h2)
    simpa [D.py, PyData.eqv, D.eqv] using this
  | .fz xs, .fz ys =>
    cases n with
    | zero => simp [D.fla] at h1
    | succ n =>
    cases k with
    | zero => simp [D.fla] at h2
    | succ k =>
    have := D.pys_eqv xs ys n k (by simpa [D.fla] using h1) (by simpa [D.fla] using h2)
    simpa [D.py, PyData.eqv, D.eqv] using this
  | .ref _, _ => simp [D.fla] at h1
  | _, .ref _ => simp [D.fla] at h2
  | .non, .non => simp [D.py, PyData.eqv, D.eqv]
  | .non, .bl _ => simp [D.py, PyData.eqv, D.eqv]
  | .non, .int _ => simp [D.py, PyData.eqv, D.eqv]
  | .non, .str _ => simp [D.py, PyData.eqv, D.eqv]
  | .non, .tup _ => simp [D.py, PyData.eqv, D.eqv]
  | .non, .fz _ => simp [D.py, PyData.eqv, D.eqv]
  | .bl _, .non => simp [D.py, PyData.eqv, D.eqv]
  | .bl _, .bl _ => simp [D.py, PyData.eqv, D.eqv]
  | .bl _, .int _ => simp [D.py, PyData.eqv, D.eqv]
  | .bl _, .str _ => simp [D.py, PyData.eqv, D.eqv]
  | .bl _, .tup _ => simp [D.py, PyData.eqv, D.eqv]
  | .bl _, .fz _ => simp [D.py, PyData.eqv, D.eqv]
  | .int _, .non => simp [D.py, PyData.eqv, D.eqv]
  | .int _, .bl _ => simp [D.py, PyData.eqv, D.eqv]
  | .int _, .int _ => simp [D.py, PyData.eqv, D.eqv]
  | .int _, .str _ => simp [D.py, PyData.eqv, D.eqv]
  | .int _, .tup _ => simp [D.py, PyData.eqv, D.eqv]
  | .int _, .fz _ => simp [D.py, PyData.eqv, D.eqv]
  | .str _, .non => simp [D.py, PyData.eqv, D.eqv]
  | .str _, .bl _ => simp [D.py, PyData.eqv, D.eqv]
  | .str _, .int _ => simp [D.py, PyData.eqv, D.eqv]
  | .str _, .str _ => simp [D.py, PyData.eqv, D.eqv]
  | .str _, .tup _ => simp [D.py, PyData.eqv, D.eqv]
  | .str _, .fz _ => simp [D.py, PyData.eqv, D.eqv]
  | .tup _, .non => simp [D.py, PyData.eqv, D.eqv]
  | .tup _, .bl _ => simp [D.py, PyData.eqv, D.eqv]
  | .tup _, .int _ => simp [D.py, PyData.eqv, D.eqv]
  | .tup _, .str _ => simp [D.py, PyData.eqv, D.eqv]
  | .tup _, .fz _ => simp [D.py, PyData.eqv, D.eqv]
  | .fz _, .non => simp [D.py, PyData.eqv, D.eqv]
  | .fz _, .bl _ => simp [D.py, PyData.eqv, D.eqv]
  | .fz _, .int _ => simp [D.py, PyData.eqv, D.eqv]
  | .fz _, .str _ => simp [D.py, PyData.eqv, D.eqv]
  | .fz _, .tup _ => simp [D.py, PyData.eqv, D.eqv]
theorem D.pys_eqv : ∀ (ds es : List D) (n k : Nat), D.flas n ds = true → D.flas k es = true → PyData.eqvAll (D.pys ds) (D.pys es) = D.eqvs ds es
  | [], [], _, _, _, _ => rfl
  | [], _ :: _, _, _, _, _ => rfl
  | _ :: _, [], _, _, _, _ => rfl
  | d :: ds, e :: es, n, k, h1, h2 => by
    simp only [D.flas, Bool.and_eq_true] at h1 h2
    simp only [D.pys, PyData.eqvAll, D.eqvs, D.py_eqv d e n k h1.1 h2.1, D.pys_eqv ds es n k h1.2 h2.2]
end
mutual
theorem RD.dp {m : Addr → Prop} : ∀ {d : D} {v : V} {n : Nat}, RD K H ρ m d v → d.fla n = true → Dp K H v d.py
  | _, _, _, .non, _ => .non
  | _, _, _, .bl b, _ => .bl b
  | _, _, _, .int b, _ => .int b
  | _, _, _, .str b, _ => .str b
  | _, _, 0, .tup _ _, e => by simp [D.fla] at e
  | _, _, n + 1, .tup s r, e => .tup (SqT.of s) (RDs.dp (n := n) r (by simpa [D.fla] using e))
  | _, _, 0, .fz _ _, e => by simp [D.fla] at e
  | _, _, n + 1, .fz s r, e => .lst s.sq (RDs.dp (n := n) r (by simpa [D.fla] using e))
  | _, _, _, .ref _, e => by simp [D.fla] at e
theorem RDs.dp {m : Addr → Prop} : ∀ {d : List D} {v : List V} {n : Nat}, RDs K H ρ m d v → D.flas n d = true → DpAll K H v (D.pys d)
  | _, _, _, .nil, _ => .nil
  | _, _, n, .cons r rs, e => by
    simp only [D.flas, Bool.and_eq_true] at e
    exact .cons (RD.dp (n := n) r e.1) (RDs.dp (n := n) rs e.2)
end
theorem RV.obj (hr : HR C K ω ρ U h H) {x : VV} {v : V} {o : AO} (r : RV C K ω ρ U H x v) (e : x.obj h = some o) :
    ∃ a, v = .ref a ∧ (RO C K H ρ (ms ω ρ U) o a ∨ ∃ ds vs, o = .lst ds ∧ FzL K H (ms ω ρ U) a vs ∧ RDs K H ρ (ms ω ρ U) ds vs) := by
  cases x with
  | tw o' => cases e; obtain ⟨a, e, _, r⟩ := r; exact ⟨a, e, .inl r⟩
  | bw o' => cases e; obtain ⟨a, e, _, r⟩ := r; exact ⟨a, e, .inl r⟩
  | d d =>
    cases d with
    | ref n =>
      cases r with
      | ref hn =>
      obtain ⟨a, e1, r1⟩ := hr.hp n o e
      rw [hn] at e1; cases e1
      exact ⟨_, rfl, .inl r1⟩
    | fz xs =>
      cases e
      cases r with
      | fz s q => exact ⟨_, rfl, .inr ⟨_, _, rfl, s, q⟩⟩
    | _ => cases e
theorem RV.list (hr : HR C K ω ρ U h H) {x : VV} {v : V} {xs : List D} (r : RV C K ω ρ U H x v) (e : (x.obj h).bind AO.list = some xs) :
    ∃ a vs, v = .ref a ∧ SqL K H a vs ∧ RDs K H ρ (ms ω ρ U) xs vs := by
  cases eo : x.obj h with
  | none => rw [eo] at e; cases e
  | some o =>
    rw [eo] at e
    cases o with
    | lst ds =>
      cases e
      obtain ⟨a, rfl, q⟩ := r.obj hr eo
      rcases q with ⟨vs, h1, h2⟩ | ⟨ds', vs, e', h1, h2⟩
      · exact ⟨a, vs, rfl, SqL.of h1, h2⟩
      · cases e'; exact ⟨a, vs, rfl, h1.sq, h2⟩
    | _ => cases e
theorem RV.seq (hr : HR C K ω ρ U h H) {x : VV} {v : V} {xs : List D} (r : RV C K ω ρ U H x v) (e : x.seq h = some xs) :
    ∃ a vs, v = .ref a ∧ (SqL K H a vs ∨ SqT K H a vs) ∧ RDs K H ρ (ms ω ρ U) xs vs := by
  unfold VV.seq at e
  split at e
  · cases e
    cases r with
    | tup s q => exact ⟨_, _, rfl, .inr (SqT.of s), q⟩
  · obtain ⟨a, vs, h1, h2, h3⟩ := r.list hr e
    exact ⟨a, vs, h1, .inl h2, h3⟩
theorem RV.dp (hr : HR C K ω ρ U h H) {x : VV} {v : V} {d : D} (r : RV C K ω ρ U H x v) (e : x.dat h = some d) (f : d.fla 60 = true) : Dp K H v d.py := by
  have lst : ∀ (o : AO), x.obj h = some o → o.list.map D.fz = some d → Dp K H v d.py := fun o eo e => by
    cases o with
    | lst ds =>
      cases e
      obtain ⟨a, vs, rfl, s, q⟩ := r.list hr (xs := ds) (by rw [eo]; rfl)
      exact .lst s (q.dp (n := 59) (by simpa [D.fla] using f))
    | _ => cases e
  cases x with
  | tw o => exact lst o rfl e
  | bw o => exact lst o rfl e
  | d d' =>
    cases d' with
    | ref n =>
      have e : (h[n]?).bind (fun o => o.list.map D.fz) = some d := e
      cases eo : h[n]? with
      | none => rw [eo] at e; cases e
      | some o => rw [eo] at e; exact lst o eo e
    | non => cases e; exact RD.dp r f
    | bl _ => cases e; exact RD.dp r f
    | int _ => cases e; exact RD.dp r f
    | str _ => cases e; exact RD.dp r f
    | tup _ => cases e; exact RD.dp r f
    | fz _ => cases e; exact RD.dp r f
mutual
theorem DV.dp (hr : HR C K ω ρ U h H) : ∀ {d d' : D} {v : V} {n : Nat}, DV h d d' → RD K H ρ (ms ω ρ U) d v → d'.fla n = true → Dp K H v d'.py
  | _, _, _, _, .flat, r, f => r.dp f
  | _, _, _, n, .ref e s, r, f => by
    cases n with
    | zero => simp [D.fla] at f
    | succ n =>
      obtain ⟨a, vs, rfl, s1, q⟩ := RV.list (x := .d (.ref _)) hr r (xs := _) (by show (h[_]?).bind AO.list = _; rw [e]; rfl)
      exact .lst s1 (DVs.dp hr s q (n := n) (by simpa [D.fla] using f))
  | _, _, _, n, .tup s, r, f => by
    cases n with
    | zero => simp [D.fla] at f
    | succ n =>
      cases r with
      | tup s1 q => exact .tup (SqT.of s1) (DVs.dp hr s q (n := n) (by simpa [D.fla] using f))
  | _, _, _, n, .fz s, r, f => by
    cases n with
    | zero => simp [D.fla] at f
    | succ n =>
      cases r with
      | fz s1 q => exact .lst s1.sq (DVs.dp hr s q (n := n) (by simpa [D.fla] using f))
theorem DVs.dp (hr : HR C K ω ρ U h H) : ∀ {d d' : List D} {v : List V} {n : Nat}, DVs h d d' → RDs K H ρ (ms ω ρ U) d v → D.flas n d' = true → DpAll K H v (D.pys d')
  | _, _, _, _, .nil, r, _ => by cases r; exact .nil
  | _, _, _, n, .cons s ss, r, f => by
    cases r with
    | cons r rs =>
      simp only [D.flas, Bool.and_eq_true] at f
      exact .cons (DV.dp hr s r f.1) (DVs.dp hr ss rs f.2)
end
theorem RV.dv (hr : HR C K ω ρ U h H) {x : VV} {v : V} {d : D} (r : RV C K ω ρ U H x v) (e : x.dv h d) (f : d.fla 60 = true) : Dp K H v d.py := by
  rcases e with e | e
  · exact r.dp hr e f
  have own : ∀ (xs : List D), x.obj h = some (.lst xs) → (∃ ys, d = .fz ys ∧ DVs h xs ys) → Dp K H v d.py := fun xs eo e => by
    obtain ⟨ys, rfl, s⟩ := e
    obtain ⟨a, vs, rfl, s1, q⟩ := r.list hr (xs := xs) (by rw [eo]; rfl)
    exact .lst s1 (DVs.dp hr s q (n := 59) (by simpa [D.fla] using f))
  cases x with
  | d d' => exact DV.dp hr e r f
  | tw o =>
    cases o with
    | lst xs => exact own xs rfl e
    | _ => cases e
  | bw o =>
    cases o with
    | lst xs => exact own xs rfl e
    | _ => cases e
theorem RD.isNon {m : Addr → Prop} {d : D} {v : V} (r : RD K H ρ m d v) : decide (v = .non) = (match d with | .non => true | _ => false) := by
  cases r <;> simp
theorem RV.isNon {x : VV} {v : V} (r : RV C K ω ρ U H x v) : decide (v = .non) = (match x with | .d .non => true | _ => false) := by
  cases x with
  | d d => have := RD.isNon r; rw [this]; cases d <;> rfl
  | tw o => obtain ⟨a, rfl, _⟩ := r; simp
  | bw o => obtain ⟨a, rfl, _⟩ := r; simp
theorem RK.get {κ : Type} [DecidableEq κ] {m : Addr → Prop} (k : κ) : ∀ {kvs : List (κ × D)} {ws : List (κ × V)}, RK K H ρ m kvs ws →
    (gV kvs k = none ∧ valV ws k = none) ∨ ∃ d v, gV kvs k = some d ∧ valV ws k = some v ∧ RD K H ρ m d v
  | [], [], .nil => .inl ⟨rfl, rfl⟩
  | p :: kvs, q :: ws, .cons r t => by
    obtain ⟨e, rd⟩ := r
    by_cases hk : p.1 = k
    · exact .inr ⟨p.2, q.2, by simp [gV, List.find?_cons, hk], by rw [valV_pos (e ▸ hk)], rd⟩
    · have := RK.get k t
      have e1 : gV (p :: kvs) k = gV kvs k := by simp [gV, List.find?_cons, hk]
      rw [e1, valV_neg (fun z => hk (e.trans z))]
      exact this
/-- a look into a dict -/
theorem RV.dget (hr : HR C K ω ρ U h H) {x : VV} {v y : V} {o : AO} {k : D} {r : Option D} (rx : RV C K ω ρ U H x v) (eo : x.obj h = some o) (rk : RD K H ρ (ms ω ρ U) k y) (e : o.get k = some r) :
    ∃ a rv, v = .ref a ∧ DGet H a y rv ∧ ((r = none ∧ rv = none) ∨ ∃ d w, r = some d ∧ rv = some w ∧ RD K H ρ (ms ω ρ U) d w) := by
  obtain ⟨a, rfl, q⟩ := rx.obj hr eo
  cases o with
  | lst ds => cases e
  | ins c fs => cases e
  | dK kvs =>
    rcases q with ⟨ws, h1, h2⟩ | ⟨_, _, z, _⟩
    · simp only [AO.get, Option.map_eq_some_iff] at e
      obtain ⟨j, ej, er⟩ := e
      cases rk.key ej
      refine ⟨a, valV ws j, rfl, DGet.k h1, ?_⟩
      rcases RK.get j h2 with ⟨g1, g2⟩ | ⟨d, w, g1, g2, g3⟩
      · exact .inl ⟨er ▸ g1, g2⟩
      · exact .inr ⟨d, w, er ▸ g1, g2, g3⟩
    · cases z
  | dT kvs =>
    rcases q with ⟨ws, h1, h2⟩ | ⟨_, _, z, _⟩
    · simp only [AO.get, Option.map_eq_some_iff] at e
      obtain ⟨j, ej, er⟩ := e
      cases rk with
      | tup s rs =>
        rename_i b vs ds
        have ev := rs.keysOf (ks := j) (by simpa [D.keys] using ej)
        subst ev
        refine ⟨a, valV ws j, rfl, DGet.t h1 s, ?_⟩
        rcases RK.get j h2 with ⟨g1, g2⟩ | ⟨d, w, g1, g2, g3⟩
        · exact .inl ⟨er ▸ g1, g2⟩
        · exact .inr ⟨d, w, er ▸ g1, g2, g3⟩
      | _ => simp [D.keys] at ej
    · cases z

theorem RK.any {κ : Type} [DecidableEq κ] {m : Addr → Prop} (k : κ) : ∀ {kvs : List (κ × D)} {ws : List (κ × V)}, RK K H ρ m kvs ws → (kvs.any fun kv => decide (kv.1 = k)) = ws.any fun kv => decide (kv.1 = k)
  | [], [], .nil => rfl
  | p :: kvs, q :: ws, .cons r t => by simp only [List.any_cons, r.1, RK.any k t]
theorem RK.mapPut {κ : Type} [DecidableEq κ] {m : Addr → Prop} (k : κ) {d : D} {v : V} (rd : RD K H ρ m d v) : ∀ {kvs : List (κ × D)} {ws : List (κ × V)}, RK K H ρ m kvs ws →
    RK K H ρ m (kvs.map fun kv => if kv.1 = k then (kv.1, d) else kv) (ws.map fun kv => if kv.1 = k then (kv.1, v) else kv)
  | [], [], .nil => .nil
  | p :: kvs, q :: ws, .cons r t => by
    refine .cons ?_ (RK.mapPut k rd t)
    dsimp only
    by_cases hk : p.1 = k
    · rw [if_pos hk, if_pos (r.1 ▸ hk)]; exact ⟨r.1, rd⟩
    · rw [if_neg hk, if_neg (fun z => hk (r.1.trans z))]; exact r
theorem RK.app {κ : Type} {m : Addr → Prop} : ∀ {kvs : List (κ × D)} {ws : List (κ × V)} {kvs' : List (κ × D)} {ws' : List (κ × V)}, RK K H ρ m kvs ws → RK K H ρ m kvs' ws' → RK K H ρ m (kvs ++ kvs') (ws ++ ws')
  | [], [], _, _, .nil, s => s
  | p :: kvs, q :: ws, _, _, .cons r t, s => .cons r (RK.app t s)
theorem RK.put {κ : Type} [DecidableEq κ] {m : Addr → Prop} (k : κ) {d : D} {v : V} (rd : RD K H ρ m d v) {kvs : List (κ × D)} {ws : List (κ × V)} (h : RK K H ρ m kvs ws) : RK K H ρ m (pV kvs k d) (putK ws k v) := by
  unfold pV putK
  rw [RK.any k h]
  split
  · exact RK.mapPut k rd h
  · exact RK.app h (.cons ⟨rfl, rd⟩ .nil)
theorem RK.length {κ : Type} {m : Addr → Prop} {kvs : List (κ × D)} {ws : List (κ × V)} (h : RK K H ρ m kvs ws) : kvs.length = ws.length := Paired.length h

/-! ### comparisons -/
def CO.op : CO → CmpOp
  | .eq => .Eq | .ne => .NotEq | .lt => .Lt | .le => .LtE | .gt => .Gt | .ge => .GtE | .isN => .Is | .notN => .IsNot | .isB => .Is | .notB => .IsNot | .isIn => .In | .notIn => .NotIn | .ltD => .Lt | .leD => .LtE | .gtD => .Gt | .geD => .GtE
/-! ### the order of data -/
mutual
theorem D.py_alike : ∀ (a b : D), D.alike a b = true → PySem.W.alike a.py b.py = true ∧ a.py ≠ .none := by
  intro a b h
  match a, b with
  | .bl _, .bl _ => exact ⟨rfl, fun z => (by cases z)⟩
  | .int _, .int _ => exact ⟨rfl, fun z => (by cases z)⟩
  | .str _, .str _ => simp [D.alike] at h
  | .fz xs, .fz ys => exact ⟨by simpa [D.py, PySem.W.alike] using D.pys_alike xs ys (by simpa [D.alike] using h), fun z => (by simp [D.py] at z)⟩
  | .tup xs, .tup ys => exact ⟨by simpa [D.py, PySem.W.alike] using D.pys_alike xs ys (by simpa [D.alike] using h), fun z => (by simp [D.py] at z)⟩
  | .non, _ => simp [D.alike] at h
  | .ref _, _ => simp [D.alike] at h
  | .bl _, .non => simp [D.alike] at h
  | .bl _, .int _ => simp [D.alike] at h
  | .bl _, .str _ => simp [D.alike] at h
  | .bl _, .fz _ => simp [D.alike] at h
  | .bl _, .tup _ => simp [D.alike] at h
  | .bl _, .ref _ => simp [D.alike] at h
  | .int _, .non => simp [D.alike] at h
  | .int _, .bl _ => simp [D.alike] at h
  | .int _, .str _ => simp [D.alike] at h
  | .int _, .fz _ => simp [D.alike] at h
  | .int _, .tup _ => simp [D.alike] at h
  | .int _, .ref _ => simp [D.alike] at h
  | .str _, .non => simp [D.alike] at h
  | .str _, .bl _ => simp [D.alike] at h
  | .str _, .int _ => simp [D.alike] at h
  | .str _, .fz _ => simp [D.alike] at h
  | .str _, .tup _ => simp [D.alike] at h
  | .str _, .ref _ => simp [D.alike] at h
  | .fz _, .non => simp [D.alike] at h
  | .fz _, .bl _ => simp [D.alike] at h
  | .fz _, .int _ => simp [D.alike] at h
  | .fz _, .str _ => simp [D.alike] at h
  | .fz _, .tup _ => simp [D.alike] at h
  | .fz _, .ref _ => simp [D.alike] at h
  | .tup _, .non => simp [D.alike] at h
  | .tup _, .bl _ => simp [D.alike] at h
  | .tup _, .int _ => simp [D.alike] at h
  | .tup _, .str _ => simp [D.alike] at h
  | .tup _, .fz _ => simp [D.alike] at h
  | .tup _, .ref _ => simp [D.alike] at h
theorem D.pys_alike : ∀ (xs ys : List D), D.alikes xs ys = true → PySem.W.alikeAll (D.pys xs) (D.pys ys) = true
  | [], _, _ => by simp [D.pys, PySem.W.alikeAll]
  | _ :: _, [], _ => by simp [D.pys, PySem.W.alikeAll]
  | x :: xs, y :: ys, h => by
    simp only [D.alikes, Bool.and_eq_true] at h
    simp only [D.pys, PySem.W.alikeAll, (D.py_alike x y h.1).1, D.pys_alike xs ys h.2, Bool.and_self]
end
mutual
theorem D.alike_comm : ∀ (a b : D), D.alike a b = D.alike b a := by
  intro a b
  cases a <;> cases b <;> simp only [D.alike] <;> exact D.alikes_comm _ _
theorem D.alikes_comm : ∀ (a b : List D), D.alikes a b = D.alikes b a
  | [], [] => rfl
  | [], _ :: _ => by simp [D.alikes]
  | _ :: _, [] => by simp [D.alikes]
  | x :: xs, y :: ys => by simp only [D.alikes, D.alike_comm x y, D.alikes_comm xs ys]
end
theorem lt_atom {p q : Int ⊕ List Nat} : PyProof.Rows.lexLt PyProof.Rows.itemOrd [p] [q] = PyProof.Rows.itemOrd.blt p q := by
  by_cases h : p = q
  · subst h
    rw [PyProof.Rows.lex_self (O := PyProof.Rows.itemOrd)]
    rw [PyProof.Rows.itemOrd.irrefl]
    rfl
  · exact PyProof.Rows.lex_diff (O := PyProof.Rows.itemOrd) h
mutual
theorem D.py_lt : ∀ (a b : D) (n k : Nat), a.fla n = true → b.fla k = true → D.alike a b = true → PySem.W.dataLt a.py b.py = D.ltd a b := by
  intro a b n k f1 f2 h
  match a, b with
  | .bl x, .bl y =>
    show PyProof.Rows.lexLt PyProof.Rows.itemOrd [.inl _] [.inl _] = _
    rw [lt_atom]
    cases x <;> cases y <;> rfl
  | .int i, .int j =>
    show PyProof.Rows.lexLt PyProof.Rows.itemOrd [.inl _] [.inl _] = _
    rw [lt_atom]
    rfl
  | .str _, .str _ => simp [D.alike] at h
  | .fz xs, .fz ys =>
    cases n with
    | zero => simp [D.fla] at f1
    | succ n =>
    cases k with
    | zero => simp [D.fla] at f2
    | succ k =>
    have := D.pys_lt xs ys n k (by simpa [D.fla] using f1) (by simpa [D.fla] using f2) (by simpa [D.alike] using h)
    show PyProof.Rows.lexLt PyProof.Rows.itemOrd (PySem.W.keyToks (.list (D.pys xs))) (PySem.W.keyToks (.list (D.pys ys))) = _
    simp only [PySem.W.keyToks, D.ltd]
    exact this
  | .tup xs, .tup ys =>
    cases n with
    | zero => simp [D.fla] at f1
    | succ n =>
    cases k with
    | zero => simp [D.fla] at f2
    | succ k =>
    have := D.pys_lt xs ys n k (by simpa [D.fla] using f1) (by simpa [D.fla] using f2) (by simpa [D.alike] using h)
    show PyProof.Rows.lexLt PyProof.Rows.itemOrd (PySem.W.keyToks (.tuple (D.pys xs))) (PySem.W.keyToks (.tuple (D.pys ys))) = _
    simp only [PySem.W.keyToks, D.ltd]
    exact this
  | .non, _ => simp [D.alike] at h
  | .ref _, _ => simp [D.alike] at h
  | .bl _, .non => simp [D.alike] at h
  | .bl _, .int _ => simp [D.alike] at h
  | .bl _, .str _ => simp [D.alike] at h
  | .bl _, .fz _ => simp [D.alike] at h
  | .bl _, .tup _ => simp [D.alike] at h
  | .bl _, .ref _ => simp [D.alike] at h
  | .int _, .non => simp [D.alike] at h
  | .int _, .bl _ => simp [D.alike] at h
  | .int _, .str _ => simp [D.alike] at h
  | .int _, .fz _ => simp [D.alike] at h
  | .int _, .tup _ => simp [D.alike] at h
  | .int _, .ref _ => simp [D.alike] at h
  | .str _, .non => simp [D.alike] at h
  | .str _, .bl _ => simp [D.alike] at h
  | .str _, .int _ => simp [D.alike] at h
  | .str _, .fz _ => simp [D.alike] at h
  | .str _, .tup _ => simp [D.alike] at h
  | .str _, .ref _ => simp [D.alike] at h
  | .fz _, .non => simp [D.alike] at h
  | .fz _, .bl _ => simp [D.alike] at h
  | .fz _, .int _ => simp [D.alike] at h
  | .fz _, .str _ => simp [D.alike] at h
  | .fz _, .tup _ => simp [D.alike] at h
  | .fz _, .ref _ => simp [D.alike] at h
  | .tup _, .non => simp [D.alike] at h
  | .tup _, .bl _ => simp [D.alike] at h
  | .tup _, .int _ => simp [D.alike] at h
  | .tup _, .str _ => simp [D.alike] at h
  | .tup _, .fz _ => simp [D.alike] at h
  | .tup _, .ref _ => simp [D.alike] at h
theorem D.pys_lt : ∀ (xs ys : List D) (n k : Nat), D.flas n xs = true → D.flas k ys = true → D.alikes xs ys = true → PyProof.Rows.lexLt PyProof.Rows.itemOrd (PySem.W.keyToksAll (D.pys xs)) (PySem.W.keyToksAll (D.pys ys)) = D.ltds xs ys
  | [], [], _, _, _, _, _ => by
    simp only [D.pys, PySem.W.keyToksAll, D.ltds]
    rw [lt_atom]
    rfl
  | [], y :: ys, _, _, _, _, _ => by
    simp only [D.pys, PySem.W.keyToksAll, D.ltds]
    exact (PyProof.Rows.lex_diff (O := PyProof.Rows.itemOrd) (show (Sum.inl 0 : Int ⊕ List Nat) ≠ Sum.inl 1 from by decide)).trans rfl
  | x :: xs, [], _, _, _, _, _ => by
    simp only [D.pys, PySem.W.keyToksAll, D.ltds]
    exact (PyProof.Rows.lex_diff (O := PyProof.Rows.itemOrd) (show (Sum.inl 1 : Int ⊕ List Nat) ≠ Sum.inl 0 from by decide)).trans rfl
  | x :: xs, y :: ys, n, k, f1, f2, h => by
    simp only [D.alikes, Bool.and_eq_true] at h
    simp only [D.flas, Bool.and_eq_true] at f1 f2
    simp only [D.pys, PySem.W.keyToksAll, D.ltds]
    rw [PyProof.Rows.lex_self (O := PyProof.Rows.itemOrd)]
    obtain ⟨e1, e2⟩ := PySem.W.toks_eqv x.py y.py (D.py_alike x y h.1).1
    rw [D.py_eqv x y n k f1.1 f2.1] at e1 e2
    by_cases he : D.eqv x y = true
    · rw [if_pos he, e1 he, PySem.W.lex_pre]
      exact D.pys_lt xs ys n k f1.2 f2.2 h.2
    · rw [if_neg he, e2 (by simpa using he)]
      exact D.py_lt x y n k f1.1 f2.1 h.1
end
def rOrd (K : PySem.W.Frag) (g : PyData → PyData → Bool) : R2 := fun x y H Q => ∃ d e, Dp K H x d ∧ Dp K H y e ∧ PySem.W.alike d e = true ∧ d ≠ .none ∧ d.depth ≤ 60 ∧ Q (.bl (g d e)) H
theorem op_ord {X : Cx} {k : Nat} (hr : Room k X.A) {op : CmpOp} {g : PyData → PyData → Bool} (rule : ∀ {prog : Program} {w : World} {A : Around} {E : Value → Shared → Prop} {s : Shared} {a b : Value} {da db : PyData} {as bs : List Addr} {Q : Value → Shared → Prop},
    Reads s.heap a da as → Reads s.heap b db bs → PySem.W.alike da db = true → da ≠ .none → A.units + min da.depth db.depth < cLine → Q (.bool (g da db)) s → wpAny (model prog w) A (compareOp op a b) Q E s) : OpR X (compareOp op) (rOrd X.K g) := by
  intro pins s σ H x y v u Q I rx ry q
  obtain ⟨d, e, dx, dy, al, nn, dd, q⟩ := q
  obtain ⟨as, ra⟩ := Dp.reads I d x v dx rx
  obtain ⟨bs, rb⟩ := Dp.reads I e y u dy ry
  have hu := hr.un
  exact rule ra rb al nn (by have := Nat.min_le_left d.depth e.depth; omega) ⟨.bl _, H, I, rfl, q⟩
def rDIn (b : Bool) : R2 := fun x y H Q => ∃ a o, y = .ref a ∧ DGet H a x o ∧ Q (.bl (if b = true then o.isSome else !o.isSome)) H
def rCmp (K : PySem.W.Frag) : CO → R2
  | .eq => rEqD K
  | .ne => rNeD K
  | .lt => rI0 fun i j => .bl (decide (i < j))
  | .le => rI0 fun i j => .bl (decide (i ≤ j))
  | .gt => rI0 fun i j => .bl (decide (j < i))
  | .ge => rI0 fun i j => .bl (decide (j ≤ i))
  | .ltD => rOrd K fun a b => PySem.W.dataLt a b
  | .leD => rOrd K fun a b => !PySem.W.dataLt b a
  | .gtD => rOrd K fun a b => PySem.W.dataLt b a
  | .geD => rOrd K fun a b => !PySem.W.dataLt a b
  | .isN => fun x y H Q => y = .non ∧ Q (.bl (decide (x = .non))) H
  | .notN => fun x y H Q => y = .non ∧ Q (.bl (!decide (x = .non))) H
  | .isB => fun x y H Q => ∃ a b, x = .bl a ∧ y = .bl b ∧ Q (.bl (decide (a = b))) H
  | .notB => fun x y H Q => ∃ a b, x = .bl a ∧ y = .bl b ∧ Q (.bl (!decide (a = b))) H
  | .isIn => fun x y H Q => rDIn true x y H Q ∨ rInD K x y H Q
  | .notIn => fun x y H Q => rDIn false x y H Q ∨ rNotInD K x y H Q
theorem op_dIn {X : Cx} (hu : X.A.units + 1 < cLine) : OpR X (compareOp .In) (rDIn true) := by
  intro pins s σ H x y v u Q I rx ry q
  obtain ⟨a, o, rfl, g, q⟩ := q
  cases ry
  exact d_in hu I g rx fun s' I' => ⟨.bl o.isSome, H, I', rfl, q⟩
theorem op_dNotIn {X : Cx} (hu : X.A.units + 1 < cLine) : OpR X (compareOp .NotIn) (rDIn false) := by
  intro pins s σ H x y v u Q I rx ry q
  obtain ⟨a, o, rfl, g, q⟩ := q
  cases ry
  exact d_notIn hu I g rx fun s' I' => ⟨.bl (!o.isSome), H, I', rfl, q⟩
theorem op_cmp {X : Cx} {k : Nat} (hr : Room k X.A) (o : CO) : OpR X (compareOp o.op) (rCmp X.K o) := by
  have hu := hr.un
  cases o with
  | eq => exact op_eqD hr.units
  | ne => exact op_neD hr.units
  | lt => exact op_lt
  | le => exact op_le
  | gt => exact op_gt
  | ge => exact op_ge
  | ltD => exact op_ord hr PySem.W.lt_data
  | leD => exact op_ord hr PySem.W.le_data
  | gtD => exact op_ord hr PySem.W.gt_data
  | geD => exact op_ord hr PySem.W.ge_data
  | isN => exact op_isN
  | notN => exact op_notN
  | isB => exact op_is_bl
  | notB => exact op_isnot_bl
  | isIn => exact (op_dIn (by omega)).or (op_inD (by omega))
  | notIn => exact (op_dNotIn (by omega)).or (op_notInD (by omega))
theorem any_py {a : D} : ∀ {xs : List D} (f : D.flas 59 xs = true) (fa : a.fla 60 = true), ((D.pys xs).any fun z => PyData.eqv z a.py) = xs.any fun z => D.eqv z a
  | [], _, _ => rfl
  | x :: xs, f, fa => by
    simp only [D.flas, Bool.and_eq_true] at f
    simp only [D.pys, List.any_cons, any_py f.2 fa, D.py_eqv x a 59 60 f.1 fa]
theorem cmp_ok (hr : HR C K ω ρ U h H) {o : CO} {x y : VV} {v u : V} {P : D → Prop} (rx : RV C K ω ρ U H x v) (ry : RV C K ω ρ U H y u) (w : cmpW o h x y P) (hQ : EndD C K ω ρ U h H P Q) : rCmp K o v u H Q := by
  cases o with
  | eq =>
    obtain ⟨a, b, ea, eb, fa, fb, w⟩ := w
    exact ⟨_, _, rx.dv hr ea fa, ry.dv hr eb fb, D.fla_shaped fa, D.fla_shaped fb, by rw [D.py_eqv a b 60 60 fa fb]; exact hQ _ _ _ hr .refl (.bl _) w⟩
  | ne =>
    obtain ⟨a, b, ea, eb, fa, fb, w⟩ := w
    exact ⟨_, _, rx.dv hr ea fa, ry.dv hr eb fb, D.fla_shaped fa, D.fla_shaped fb, by rw [D.py_eqv a b 60 60 fa fb]; exact hQ _ _ _ hr .refl (.bl _) w⟩
  | lt => obtain ⟨i, j, rfl, rfl, w⟩ := w; cases rx; cases ry; exact ⟨_, _, rfl, rfl, hQ _ _ _ hr .refl (.bl _) w⟩
  | le => obtain ⟨i, j, rfl, rfl, w⟩ := w; cases rx; cases ry; exact ⟨_, _, rfl, rfl, hQ _ _ _ hr .refl (.bl _) w⟩
  | gt => obtain ⟨i, j, rfl, rfl, w⟩ := w; cases rx; cases ry; exact ⟨_, _, rfl, rfl, hQ _ _ _ hr .refl (.bl _) w⟩
  | ge => obtain ⟨i, j, rfl, rfl, w⟩ := w; cases rx; cases ry; exact ⟨_, _, rfl, rfl, hQ _ _ _ hr .refl (.bl _) w⟩
  | ltD =>
    obtain ⟨a, b, ea, eb, fa, fb, al, w⟩ := w
    exact ⟨_, _, rx.dp hr ea fa, ry.dp hr eb fb, (D.py_alike a b al).1, (D.py_alike a b al).2, (D.fla_lay a 60 fa).2, by dsimp only; rw [D.py_lt a b 60 60 fa fb al]; exact hQ _ _ _ hr .refl (.bl _) w⟩
  | leD =>
    obtain ⟨a, b, ea, eb, fa, fb, al, w⟩ := w
    exact ⟨_, _, rx.dp hr ea fa, ry.dp hr eb fb, (D.py_alike a b al).1, (D.py_alike a b al).2, (D.fla_lay a 60 fa).2, by dsimp only; rw [D.py_lt b a 60 60 fb fa (by rw [D.alike_comm]; exact al)]; exact hQ _ _ _ hr .refl (.bl _) w⟩
  | gtD =>
    obtain ⟨a, b, ea, eb, fa, fb, al, w⟩ := w
    exact ⟨_, _, rx.dp hr ea fa, ry.dp hr eb fb, (D.py_alike a b al).1, (D.py_alike a b al).2, (D.fla_lay a 60 fa).2, by dsimp only; rw [D.py_lt b a 60 60 fb fa (by rw [D.alike_comm]; exact al)]; exact hQ _ _ _ hr .refl (.bl _) w⟩
  | geD =>
    obtain ⟨a, b, ea, eb, fa, fb, al, w⟩ := w
    exact ⟨_, _, rx.dp hr ea fa, ry.dp hr eb fb, (D.py_alike a b al).1, (D.py_alike a b al).2, (D.fla_lay a 60 fa).2, by dsimp only; rw [D.py_lt a b 60 60 fa fb al]; exact hQ _ _ _ hr .refl (.bl _) w⟩
  | isN =>
    obtain ⟨rfl, w⟩ := w
    cases ry
    refine ⟨rfl, ?_⟩
    rw [rx.isNon]
    refine hQ (.bl _) _ _ hr .refl (.bl _) ?_
    cases x with
    | d d => cases d <;> exact w
    | tw _ => exact w
    | bw _ => exact w
  | notN =>
    obtain ⟨rfl, w⟩ := w
    cases ry
    refine ⟨rfl, ?_⟩
    rw [rx.isNon]
    refine hQ (.bl _) _ _ hr .refl (.bl _) ?_
    cases x with
    | d d => cases d <;> exact w
    | tw _ => exact w
    | bw _ => exact w
  | isB =>
    obtain ⟨a, b, rfl, rfl, w⟩ := w
    cases rx
    cases ry
    exact ⟨a, b, rfl, rfl, hQ (.bl _) _ _ hr .refl (.bl _) w⟩
  | notB =>
    obtain ⟨a, b, rfl, rfl, w⟩ := w
    cases rx
    cases ry
    exact ⟨a, b, rfl, rfl, hQ (.bl _) _ _ hr .refl (.bl _) w⟩
  | isIn =>
    obtain ⟨a, rfl, w⟩ := w
    rcases w with ⟨o, r, eo, eg, w⟩ | ⟨xs, ex, fa, fx, w⟩
    · obtain ⟨p, rv, rfl, g, q⟩ := ry.dget hr eo rx eg
      refine .inl ⟨p, rv, rfl, g, ?_⟩
      have e : rv.isSome = r.isSome := by
        rcases q with ⟨rfl, rfl⟩ | ⟨_, _, rfl, rfl, _⟩ <;> rfl
      rw [if_pos rfl, e]
      exact hQ _ _ _ hr .refl (.bl _) w
    · obtain ⟨p, vs, rfl, s, q⟩ := ry.list hr ex
      refine .inr ⟨_, _, RD.dp rx fa, .lst s (q.dp fx), D.fla_shaped fa, D.flas_shaped fx, ?_⟩
      rw [any_py fx fa]
      exact hQ _ _ _ hr .refl (.bl _) w
  | notIn =>
    obtain ⟨a, rfl, w⟩ := w
    rcases w with ⟨o, r, eo, eg, w⟩ | ⟨xs, ex, fa, fx, w⟩
    · obtain ⟨p, rv, rfl, g, q⟩ := ry.dget hr eo rx eg
      refine .inl ⟨p, rv, rfl, g, ?_⟩
      have e : rv.isSome = r.isSome := by
        rcases q with ⟨rfl, rfl⟩ | ⟨_, _, rfl, rfl, _⟩ <;> rfl
      rw [if_neg (by decide), e]
      exact hQ _ _ _ hr .refl (.bl _) w
    · obtain ⟨p, vs, rfl, s, q⟩ := ry.list hr ex
      refine .inr ⟨_, _, RD.dp rx fa, .lst s (q.dp fx), D.fla_shaped fa, D.flas_shaped fx, ?_⟩
      rw [any_py fx fa]
      exact hQ _ _ _ hr .refl (.bl _) w

theorem cmpW_bl {o : CO} {x y : VV} {P : D → Prop} (w : cmpW o h x y P) : cmpW o h x y fun z => ∃ b, z = .bl b ∧ P (.bl b) := by
  cases o with
  | eq => obtain ⟨a, b, h1, h2, h3, h4, w⟩ := w; exact ⟨a, b, h1, h2, h3, h4, _, rfl, w⟩
  | ne => obtain ⟨a, b, h1, h2, h3, h4, w⟩ := w; exact ⟨a, b, h1, h2, h3, h4, _, rfl, w⟩
  | lt => obtain ⟨a, b, h1, h2, w⟩ := w; exact ⟨a, b, h1, h2, _, rfl, w⟩
  | le => obtain ⟨a, b, h1, h2, w⟩ := w; exact ⟨a, b, h1, h2, _, rfl, w⟩
  | gt => obtain ⟨a, b, h1, h2, w⟩ := w; exact ⟨a, b, h1, h2, _, rfl, w⟩
  | ge => obtain ⟨a, b, h1, h2, w⟩ := w; exact ⟨a, b, h1, h2, _, rfl, w⟩
  | ltD => obtain ⟨a, b, h1, h2, h3, h4, h5, w⟩ := w; exact ⟨a, b, h1, h2, h3, h4, h5, _, rfl, w⟩
  | leD => obtain ⟨a, b, h1, h2, h3, h4, h5, w⟩ := w; exact ⟨a, b, h1, h2, h3, h4, h5, _, rfl, w⟩
  | gtD => obtain ⟨a, b, h1, h2, h3, h4, h5, w⟩ := w; exact ⟨a, b, h1, h2, h3, h4, h5, _, rfl, w⟩
  | geD => obtain ⟨a, b, h1, h2, h3, h4, h5, w⟩ := w; exact ⟨a, b, h1, h2, h3, h4, h5, _, rfl, w⟩
  | isN => obtain ⟨h1, w⟩ := w; exact ⟨h1, _, rfl, w⟩
  | notN => obtain ⟨h1, w⟩ := w; exact ⟨h1, _, rfl, w⟩
  | isB => obtain ⟨a, b, h1, h2, w⟩ := w; exact ⟨a, b, h1, h2, _, rfl, w⟩
  | notB => obtain ⟨a, b, h1, h2, w⟩ := w; exact ⟨a, b, h1, h2, _, rfl, w⟩
  | isIn =>
    obtain ⟨a, h1, w⟩ := w
    rcases w with ⟨o, r, h2, h3, w⟩ | ⟨xs, h2, h3, h4, w⟩
    · exact ⟨a, h1, .inl ⟨o, r, h2, h3, _, rfl, w⟩⟩
    · exact ⟨a, h1, .inr ⟨xs, h2, h3, h4, _, rfl, w⟩⟩
  | notIn =>
    obtain ⟨a, h1, w⟩ := w
    rcases w with ⟨o, r, h2, h3, w⟩ | ⟨xs, h2, h3, h4, w⟩
    · exact ⟨a, h1, .inl ⟨o, r, h2, h3, _, rfl, w⟩⟩
    · exact ⟨a, h1, .inr ⟨xs, h2, h3, h4, _, rfl, w⟩⟩
/-! ### subscripts -/
def rDIx : R2 := fun x y H Q => ∃ a v, x = .ref a ∧ DGet H a y (some v) ∧ Q v H
def rIx (K : PySem.W.Frag) : R2 := fun x y H Q => rIxL K x y H Q ∨ rIxT K x y H Q ∨ rDIx x y H Q
theorem ix_dict {X : Cx} (hu : X.A.units + 1 < cLine) : IxR X rDIx := by
  intro value slice pins s σ H x y v u Q I rx ry h hs
  obtain ⟨a, z, rfl, g, q⟩ := h
  cases rx
  exact tail_any (dict_typeIs I g) PySem.F.slot_dict_getitem.lookup (d_getItem hu I g ry fun w' s' I' r' => ⟨z, H, I', r', q⟩) hs
theorem ix_all {X : Cx} {k : Nat} (hr : Room k X.A) : IxR X (rIx X.K) := by
  have hu := hr.un
  exact ix_list.or (ix_tup.or (ix_dict (by omega)))
theorem atI_rel {m : Addr → Prop} {xs : List D} {vs : List V} (r : RDs K H ρ m xs vs) {i : Int} {d : D} (e : atI xs i = some d) : ∃ v, atI vs i = some v ∧ RD K H ρ m d v := by
  unfold atI at e ⊢
  rw [r.length] at e
  cases ej : ixN vs.length i with
  | none => rw [ej] at e; cases e
  | some j =>
    rw [ej] at e
    obtain ⟨v, h1, h2⟩ := r.get e
    exact ⟨v, h1, h2⟩
theorem ix_ok (hr : HR C K ω ρ U h H) {x y : VV} {v u : V} {P : D → Prop} (rx : RV C K ω ρ U H x v) (ry : RV C K ω ρ U H y u) (w : ixW h x y P) (hQ : EndD C K ω ρ U h H P Q) : rIx K v u H Q := by
  rcases w with ⟨xs, i, z, ex, rfl, ei, w⟩ | ⟨o, k, z, eo, rfl, ek, w⟩
  · obtain ⟨a, vs, rfl, s, r⟩ := rx.seq hr ex
    obtain ⟨z', e1, r1⟩ := atI_rel r ei
    cases ry
    rcases s with s | s
    · exact .inl ⟨a, vs, i, z', rfl, rfl, s, e1, hQ _ _ _ hr .refl r1 w⟩
    · exact .inr (.inl ⟨a, vs, i, z', rfl, rfl, s, e1, hQ _ _ _ hr .refl r1 w⟩)
  · obtain ⟨p, rv, rfl, g, q⟩ := rx.dget hr eo ry ek
    rcases q with ⟨z, _⟩ | ⟨d, w', e1, e2, r1⟩
    · cases z
    · cases e1; subst e2
      exact .inr (.inr ⟨p, w', rfl, g, hQ _ _ _ hr .refl r1 w⟩)

/-! ### built-in functions -/
theorem CallR.or {X : Cx} {f : Value} {r r' : List V → Hp → VK → Prop} (h : CallR X f r) (h' : CallR X f r') : CallR X f (fun x H Q => r x H Q ∨ r' x H Q) := by
  intro pins s σ H x v Q I rx q
  rcases q with q | q
  · exact h pins s σ H x v Q I rx q
  · exact h' pins s σ H x v Q I rx q
/-- arguments' values -/
abbrev RVs (C : Nat → Addr) (K : PySem.W.Frag) (ω ρ U : List Addr) (H : Hp) : List VV → List V → Prop := Paired (RV C K ω ρ U H)
def rLen (K : PySem.W.Frag) : List V → Hp → VK → Prop := fun xs H Q => (∃ x n, xs = [x] ∧ LenV K x H n ∧ Q (.int n) H) ∨ (∃ a kvs, xs = [V.ref a] ∧ H a = some (.dK kvs) ∧ Q (.int kvs.length) H) ∨ rLenT xs H Q
theorem call_lenA {X : Cx} : CallR X (.builtin "len") (rLen X.K) := call_len.or (call_lenD.or call_len_dT)
theorem len_ok (hr : HR C K ω ρ U h H) {x : VV} {v : V} {n : Nat} {P : D → Prop} (rx : RV C K ω ρ U H x v) (e : x.len h = some n) (w : P (.int n)) (hQ : EndD C K ω ρ U h H P Q) : rLen K [v] H Q := by
  have fin : Q (.int n) H := hQ _ _ _ hr .refl (.int _) w
  unfold VV.len at e
  split at e
  · cases e
    cases rx with
    | tup s q => exact .inl ⟨_, _, rfl, .inr ⟨_, SqT.of s, q.length⟩, fin⟩
  · cases rx with
    | str z =>
    split at e
    · rename_i hz
      cases e
      exact .inl ⟨_, _, rfl, ⟨hz, rfl⟩, fin⟩
    · cases e
  · cases eo : x.obj h with
    | none => rw [eo] at e; cases e
    | some o =>
      rw [eo] at e
      cases o with
      | lst ds =>
        cases e
        obtain ⟨a, vs, rfl, s, q⟩ := rx.list hr (xs := ds) (by rw [eo]; rfl)
        exact .inl ⟨_, _, rfl, .inl ⟨_, s, q.length⟩, fin⟩
      | dK kvs =>
        cases e
        obtain ⟨a, rfl, q⟩ := rx.obj hr eo
        rcases q with ⟨ws, h1, h2⟩ | ⟨_, _, z, _⟩
        · exact .inr (.inl ⟨a, ws, rfl, h1, by rw [← h2.length]; exact fin⟩)
        · cases z
      | dT kvs =>
        cases e
        obtain ⟨a, rfl, q⟩ := rx.obj hr eo
        rcases q with ⟨ws, h1, h2⟩ | ⟨_, _, z, _⟩
        · exact .inr (.inr ⟨a, ws, rfl, h1, by rw [← h2.length]; exact fin⟩)
        · cases z
      | ins _ _ => cases e
def rIsI (K : PySem.W.Frag) (T : String) : List V → Hp → VK → Prop := fun xs H Q => ∃ x, xs = [x, .ty T] ∧ rIsi K xs H Q
theorem kit_b {K : PySem.W.Frag} {a b : String} {r : Bool} (h : kitB a b = some r) : PySem.W.kitOne K (.type a) (.type b) = some r := kit_ty h
theorem isI_ok (hr : HR C K ω ρ U h H) {T : String} (hT : T = "int" ∨ T = "bool" ∨ T = "tuple" ∨ T = "list" ∨ T = "str") {x : VV} {v : V} {b : Bool} {P : D → Prop} (rx : RV C K ω ρ U H x v) (e : isT T h x = some b) (w : P (.bl b)) (hQ : EndD C K ω ρ U h H P Q) : rIsi K [v, .ty T] H Q := by
  have fin : Q (.bl b) H := hQ _ _ _ hr .refl (.bl _) w
  have go : ∀ (t : String), TyX K H v (.type t) → kitB t T = some b → rIsi K [v, .ty T] H Q := fun t ty hk => ⟨v, .ty T, .type t, .type T, b, rfl, .ty T, ty, kit_ty hk, fin⟩
  have lst : ∀ a vs, v = .ref a → FzL K H (ms ω ρ U) a vs → TyX K H v (.type "list") := fun a vs ev s => by
    subst ev
    rcases s with ⟨s, _⟩ | ⟨o, s⟩ | ⟨o, its, n, s, c, _⟩
    · exact .base (.lst s)
    · exact .base (.frz s)
    · exact .kList s c
  cases x with
  | d d =>
    cases d with
    | int i => cases rx; cases e; exact go "int" (.base (.int i)) (by rcases hT with rfl | rfl | rfl | rfl | rfl <;> decide +kernel)
    | bl i => cases rx; cases e; exact go "bool" (.base (.bl i)) (by rcases hT with rfl | rfl | rfl | rfl | rfl <;> decide +kernel)
    | non => cases rx; cases e; exact go "NoneType" (.base .non) (by rcases hT with rfl | rfl | rfl | rfl | rfl <;> decide +kernel)
    | str i => cases rx; cases e; exact go "str" (.base (.str i)) (by rcases hT with rfl | rfl | rfl | rfl | rfl <;> decide +kernel)
    | tup xs =>
      cases e
      cases rx with
      | tup s q => exact go "tuple" (.base (.tup s)) (by rcases hT with rfl | rfl | rfl | rfl | rfl <;> decide +kernel)
    | fz xs =>
      cases e
      cases rx with
      | fz s q => exact go "list" (lst _ _ rfl s) (by rcases hT with rfl | rfl | rfl | rfl | rfl <;> decide +kernel)
    | ref n =>
      simp only [isT] at e
      cases rx with
      | ref hr2 =>
        cases eo : h[n]? with
        | none => rw [eo] at e; cases e
        | some o =>
          rw [eo] at e
          cases o with
          | lst ds =>
            cases e
            obtain ⟨a, e1, vs, h1, _⟩ := hr.hp n _ eo
            rw [hr2] at e1
            cases e1
            exact go "list" (.base (.lst h1)) (by rcases hT with rfl | rfl | rfl | rfl | rfl <;> decide +kernel)
          | _ => cases e
  | tw o =>
    cases o with
    | lst ds =>
      cases e
      obtain ⟨a, rfl, _, vs, h1, _⟩ := rx
      exact go "list" (.base (.lst h1)) (by rcases hT with rfl | rfl | rfl | rfl | rfl <;> decide +kernel)
    | _ => cases e
  | bw o =>
    cases o with
    | lst ds =>
      cases e
      obtain ⟨a, rfl, _, vs, h1, _⟩ := rx
      exact go "list" (.base (.lst h1)) (by rcases hT with rfl | rfl | rfl | rfl | rfl <;> decide +kernel)
    | _ => cases e
theorem maxI_spec : ∀ (ns : List Int) (n : Int), maxI n ns ∈ n :: ns ∧ ∀ y ∈ n :: ns, y ≤ maxI n ns
  | [], n => ⟨by simp [maxI], fun y hy => by simp at hy; subst hy; simp [maxI]⟩
  | x :: xs, n => by
    obtain ⟨h1, h2⟩ := maxI_spec xs (if n < x then x else n)
    simp only [maxI]
    refine ⟨?_, fun y hy => ?_⟩
    · rcases List.mem_cons.mp h1 with z | z
      · rw [z]; split <;> simp
      · simp [z]
    · have h0 := h2 _ (List.mem_cons_self ..)
      by_cases hc : n < x
      · rw [if_pos hc] at h0 ⊢
        rw [if_pos hc] at h2
        rcases List.mem_cons.mp hy with rfl | hy
        · omega
        · rcases List.mem_cons.mp hy with rfl | hy
          · omega
          · exact h2 y (List.mem_cons_of_mem _ hy)
      · rw [if_neg hc] at h0 ⊢
        rw [if_neg hc] at h2
        rcases List.mem_cons.mp hy with rfl | hy
        · omega
        · rcases List.mem_cons.mp hy with rfl | hy
          · omega
          · exact h2 y (List.mem_cons_of_mem _ hy)
theorem minI_spec : ∀ (ns : List Int) (n : Int), minI n ns ∈ n :: ns ∧ ∀ y ∈ n :: ns, minI n ns ≤ y
  | [], n => ⟨by simp [minI], fun y hy => by simp at hy; subst hy; simp [minI]⟩
  | x :: xs, n => by
    obtain ⟨h1, h2⟩ := minI_spec xs (if x < n then x else n)
    simp only [minI]
    refine ⟨?_, fun y hy => ?_⟩
    · rcases List.mem_cons.mp h1 with z | z
      · rw [z]; split <;> simp
      · simp [z]
    · have h0 := h2 _ (List.mem_cons_self ..)
      by_cases hc : x < n
      · rw [if_pos hc] at h0 ⊢
        rw [if_pos hc] at h2
        rcases List.mem_cons.mp hy with rfl | hy
        · omega
        · rcases List.mem_cons.mp hy with rfl | hy
          · omega
          · exact h2 y (List.mem_cons_of_mem _ hy)
      · rw [if_neg hc] at h0 ⊢
        rw [if_neg hc] at h2
        rcases List.mem_cons.mp hy with rfl | hy
        · omega
        · rcases List.mem_cons.mp hy with rfl | hy
          · omega
          · exact h2 y (List.mem_cons_of_mem _ hy)
def BI.id : BI → Value
  | .len => .builtin "len" | .abs => .builtin "abs" | .min2 => .builtin "min" | .max2 => .builtin "max" | .sumL => .builtin "sum" | .maxL => .builtin "max" | .minL => .builtin "min"
  | .allL => .builtin "all" | .anyL => .builtin "any" | .intOf => .type "int" | .isI _ => .builtin "isinstance"
def rBi (K : PySem.W.Frag) : BI → List V → Hp → VK → Prop
  | .len => rLen K
  | .abs => fun xs H Q => ∃ i, xs = [.int i] ∧ Q (.int (if i < 0 then -i else i)) H
  | .min2 => fun xs H Q => ∃ i j, xs = [.int i, .int j] ∧ Q (.int (if j < i then j else i)) H
  | .max2 => fun xs H Q => ∃ i j, xs = [.int i, .int j] ∧ Q (.int (if j > i then j else i)) H
  | .sumL => rSum K
  | .maxL => rMax K
  | .minL => rMin K
  | .allL => rAll K
  | .anyL => rAny K
  | .intOf => fun xs H Q => (∃ i, xs = [.int i] ∧ Q (.int i) H) ∨ ∃ k, xs = [.bl k] ∧ Q (.int (if k then 1 else 0)) H
  | .isI _ => rIsi K
theorem call_bi {X : Cx} (hc : X.calm = true) (b : BI) : CallR X b.id (rBi X.K b) := by
  cases b with
  | len => exact call_lenA
  | abs => exact call_abs
  | min2 => exact call_min2 hc
  | max2 => exact call_max2 hc
  | sumL => exact cr_sum hc
  | maxL => exact cr_max hc
  | minL => exact cr_min hc
  | allL => exact cr_all hc
  | anyL => exact cr_any hc
  | intOf => exact call_int1
  | isI T => exact call_isi
def BI.okT : BI → Bool
  | .isI T => T == "int" || T == "bool" || T == "tuple" || T == "list" || T == "str"
  | _ => true
/-- the values that the call is given: a class more for isinstance -/
def BI.more : BI → List V
  | .isI T => [.ty T]
  | _ => []
theorem bi_ok (hr : HR C K ω ρ U h H) {b : BI} (hb : b.okT = true) {xs : List VV} {vs : List V} {P : D → Prop} (rx : RVs C K ω ρ U H xs vs) (w : biW b h xs P) (hQ : EndD C K ω ρ U h H P Q) : rBi K b (vs ++ b.more) H Q := by
  have one : ∀ {v : V} {ns : List Int} {x : VV} {xs : List D}, RV C K ω ρ U H x v → (x.obj h).bind AO.list = some xs → intsOf xs = some ns → ∃ a, v = .ref a ∧ SqL K H a (ns.map V.int) := fun {v ns x xs} r e e2 => by
    obtain ⟨a, vs, rfl, s, q⟩ := r.list hr e
    rw [intsOf_eq e2] at q
    rw [q.ints ns] at s
    exact ⟨a, rfl, s⟩
  have oneb : ∀ {v : V} {ns : List Bool} {x : VV} {xs : List D}, RV C K ω ρ U H x v → (x.obj h).bind AO.list = some xs → boolsOf xs = some ns → ∃ a, v = .ref a ∧ SqL K H a (ns.map V.bl) := fun {v ns x xs} r e e2 => by
    obtain ⟨a, vs, rfl, s, q⟩ := r.list hr e
    rw [boolsOf_eq e2] at q
    rw [q.bools ns] at s
    exact ⟨a, rfl, s⟩
  unfold biW at w
  split at w
  · cases rx with
    | cons r t => cases t; obtain ⟨n, e, w⟩ := w; exact len_ok hr r e w hQ
  · cases rx with
    | cons r t => cases t; cases r; exact ⟨_, rfl, hQ _ _ _ hr .refl (.int _) w⟩
  · cases rx with
    | cons r t => cases t with
      | cons r2 t => cases t; cases r; cases r2; exact ⟨_, _, rfl, hQ _ _ _ hr .refl (.int _) w⟩
  · cases rx with
    | cons r t => cases t with
      | cons r2 t => cases t; cases r; cases r2; exact ⟨_, _, rfl, hQ _ _ _ hr .refl (.int _) w⟩
  · cases rx with
    | cons r t =>
      cases t
      obtain ⟨xs, ns, e, e2, w⟩ := w
      obtain ⟨a, rfl, s⟩ := one r e e2
      exact ⟨a, ns, rfl, s, hQ _ _ _ hr .refl (.int _) w⟩
  · cases rx with
    | cons r t =>
      cases t
      obtain ⟨xs, n, ns, e, e2, w⟩ := w
      obtain ⟨a, rfl, s⟩ := one r e e2
      refine ⟨a, n :: ns, rfl, s, by simp, fun m hm hy => ?_⟩
      obtain ⟨h1, h2⟩ := maxI_spec ns n
      have : m = maxI n ns := by have := h2 m hm; have := hy _ h1; omega
      subst this
      exact hQ _ _ _ hr .refl (.int _) w
  · cases rx with
    | cons r t =>
      cases t
      obtain ⟨xs, n, ns, e, e2, w⟩ := w
      obtain ⟨a, rfl, s⟩ := one r e e2
      refine ⟨a, n :: ns, rfl, s, by simp, fun m hm hy => ?_⟩
      obtain ⟨h1, h2⟩ := minI_spec ns n
      have : m = minI n ns := by have := h2 m hm; have := hy _ h1; omega
      subst this
      exact hQ _ _ _ hr .refl (.int _) w
  · cases rx with
    | cons r t =>
      cases t
      obtain ⟨xs, ns, e, e2, w⟩ := w
      obtain ⟨a, rfl, s⟩ := oneb r e e2
      exact ⟨a, ns, rfl, s, hQ _ _ _ hr .refl (.bl _) w⟩
  · cases rx with
    | cons r t =>
      cases t
      obtain ⟨xs, ns, e, e2, w⟩ := w
      obtain ⟨a, rfl, s⟩ := oneb r e e2
      exact ⟨a, ns, rfl, s, hQ _ _ _ hr .refl (.bl _) w⟩
  · cases rx with
    | cons r t => cases t; cases r; exact .inl ⟨_, rfl, hQ _ _ _ hr .refl (.int _) w⟩
  · cases rx with
    | cons r t => cases t; cases r; exact .inr ⟨_, rfl, hQ _ _ _ hr .refl (.int _) w⟩
  · cases rx with
    | cons r t =>
      cases t
      obtain ⟨b, e, w⟩ := w
      refine isI_ok hr ?_ r e w hQ
      simp only [BI.okT, Bool.or_eq_true, beq_iff_eq] at hb
      rcases hb with (((h | h) | h) | h) | h
      · exact .inl h
      · exact .inr (.inl h)
      · exact .inr (.inr (.inl h))
      · exact .inr (.inr (.inr (.inl h)))
      · exact .inr (.inr (.inr (.inr h)))
  · exact w.elim
/-! ### truth -/
theorem tru_rel (hr : HR C K ω ρ U h H) {x : VV} {v : V} {b : Bool} (r : RV C K ω ρ U H x v) (e : x.tru h = some b) : TruV K v H b := by
  have lst : ∀ {y : VV}, RV C K ω ρ U H y v → ((y.obj h).bind AO.list).map (fun xs => !xs.isEmpty) = some b → TruV K v H b := fun {y} r e => by
    cases eo : (y.obj h).bind AO.list with
    | none => rw [eo] at e; cases e
    | some xs =>
      rw [eo] at e
      cases e
      obtain ⟨a, vs, rfl, s, q⟩ := r.list hr eo
      refine .inl ⟨vs, s, ?_⟩
      cases q <;> rfl
  unfold VV.tru at e
  split at e
  · cases r; cases e; rfl
  · cases r; cases e; rfl
  · cases r; cases e; rfl
  · cases r
    split at e
    · rename_i hz; cases e; exact ⟨hz, rfl⟩
    · cases e
  · cases e
    cases r with
    | tup s q =>
      refine .inr (.inl ⟨_, SqT.of s, ?_⟩)
      cases q <;> rfl
  · exact lst r e
end
end G

set_option maxHeartbeats 1000000
/-! Core5: is this expression that text of the core? Expressions keep what the core says. -/
namespace G
open PySem PySem.Spec PyProof.Rows L2

/-! ### the look -/
/-- the names of a module: defs; exceptions' classes; the classes that an except clause or isinstance may name, with what stands below them; classes, with their __init__; fields; methods -/
structure NT where
  fn : Nat → Option Str
  xn : Nat → Option Str
  nx : Nat
  xl : List (Str × List Nat)
  cl : Nat → Option (Str × Nat)
  nc : Nat
  fl : List Str
  mt : Nat → Option (Nat × Str)
instance : CoeFun NT fun _ => Nat → Option Str := ⟨NT.fn⟩
def nameAt (N : List Str) (i : Nat) (x : Str) : Bool := match N[i]? with
  | some y => decide (y = x)
  | none => false
def visB (sc : Scope) (x : Str) : Bool := (match sc.names.lookup x with
  | some .local => true
  | some .cell => true
  | some .free => true
  | _ => false) && !(x == ("__debug__" : Str)) && !(x == ("__classdict__" : Str))
def locB (sc : Scope) (x : Str) : Bool := match sc.names.lookup x with
  | some .local => true
  | some .cell => true
  | _ => false
def loc1B (sc : Scope) (x : Str) : Bool := match sc.names.lookup x with
  | some .local => true
  | _ => false
def glB (sc : Scope) (x : Str) : Bool := (match sc.names.lookup x with
  | some .globalImplicit => true
  | _ => false) && !(x == ("__debug__" : Str))
def notStar : Expr → Bool
  | .Starred _ _ => false
  | _ => true
def bltNames : List Str := ["len", "abs", "min", "max", "sum", "all", "any", "int", "isinstance", "tuple", "list", "range", "bool", "str", "enumerate", "zip", "divmod", "sorted", "reversed"]
def BI.name : BI → Str
  | .len => "len" | .abs => "abs" | .min2 => "min" | .max2 => "max" | .sumL => "sum" | .maxL => "max" | .minL => "min"
  | .allL => "all" | .anyL => "any" | .intOf => "int" | .isI _ => "isinstance"
def BI.isIsi : BI → Bool
  | .isI _ => true
  | _ => false
def BI.ty : BI → String
  | .isI T => T
  | _ => ""
def chkG (N : List Str) (sc : Scope) : CG → Expr → Bool
  | .nm i, .Name x _ => nameAt N i x && locB sc x
  | .tp is, .Tuple es _ _ => go is es
  | _, _ => false
where go : List Nat → List Expr → Bool
  | [], [] => true
  | i :: is, .Name x _ :: es => nameAt N i x && locB sc x && go is es
  | _, _ => false
def ownOf : CG → Expr → List (Str × Nat)
  | .nm i, .Name x _ => [(x, i)]
  | .tp is, .Tuple es _ _ => go is es
  | _, _ => []
where go : List Nat → List Expr → List (Str × Nat)
  | i :: is, .Name x _ :: es => (x, i) :: go is es
  | _, _ => []
def okTest : CE → Bool
  | .andV _ _ => false
  | .orV _ _ => false
  | .notV _ => false
  | .ite _ _ _ => false
  | _ => true
/-- nothing that may be super() -/
def plainOb : Expr → Bool
  | .Name _ _ => true
  | .Attribute _ _ _ => true
  | .Subscript _ _ _ => true
  | _ => false
def bmB (a c : Pos) : Bool := a.endLine == c.line
def xlAt : List (Str × List Nat) → Str → Option (List Nat)
  | [], _ => none
  | q :: r, x => if q.1 = x then some q.2 else xlAt r x
section
variable (N : List Str) (nm : NT) (cn : Nat → Option Str)
mutual
def chkE : CE → Scope → Expr → Bool
  | .var i, sc, e => (match e with
    | .Name x _ => nameAt N i x && visB sc x
    | _ => false)
  | .int i, sc, e => (match e with
    | .Constant (.int j) _ _ => decide (i = j)
    | _ => false)
  | .bl b, sc, e => (match e with
    | .Constant (.bool c) _ _ => b == c
    | _ => false)
  | .non, sc, e => (match e with
    | .Constant .none _ _ => true
    | _ => false)
  | .str z, sc, e => (match e with
    | .Constant (.str y) _ _ => decide (z = y)
    | _ => false)
  | .glob j, sc, e => (match e with
    | .Name x _ => glB sc x && (match cn j with
      | some y => decide (y = x)
      | none => false)
    | _ => false)
  | .bin o a b, sc, e => (match e with
    | .BinOp x op y _ => decide (op = o.op) && chkE a sc x && chkE b sc y
    | _ => false)
  | .neg a, sc, e => (match e with
    | .UnaryOp .USub x _ => chkE a sc x
    | _ => false)
  | .cmp o a b, sc, e => (match e with
    | .Compare x [op] [y] _ => decide (op = o.op) && (!behindInMarks op y) && chkE a sc x && chkE b sc y
    | _ => false)
  | .chain o o' a b c, sc, e => (match e with
    | .Compare x [op, op'] [y, z] _ => decide (op = o.op) && decide (op' = o'.op) && (!lastMarks [op, op'] [y, z]) && chkE a sc x && chkE b sc y && chkE c sc z
    | _ => false)
  | .andV a b, sc, e => (match e with
    | .BoolOp .And [x, y] _ => chkE a sc x && chkE b sc y
    | .BoolOp .And (x :: y :: z :: r) p => chkE a sc x && chkE b sc (.BoolOp .And (y :: z :: r) p)
    | _ => false)
  | .orV a b, sc, e => (match e with
    | .BoolOp .Or [x, y] _ => chkE a sc x && chkE b sc y
    | .BoolOp .Or (x :: y :: z :: r) p => chkE a sc x && chkE b sc (.BoolOp .Or (y :: z :: r) p)
    | _ => false)
  | .notV a, sc, e => (match e with
    | .UnaryOp .Not x _ => chkE a sc x
    | _ => false)
  | .ite t a b, sc, e => (match e with
    | .IfExp c x y _ => chkT t sc c && chkE a sc x && chkE b sc y
    | _ => false)
  | .tup es, sc, e => (match e with
    | .Tuple xs _ _ => chkEs es sc xs
    | _ => false)
  | .ix a b, sc, e => (match e with
    | .Subscript x y _ => chkE a sc x && chkE b sc y
    | _ => false)
  | .slc a lo hi, sc, e => (match e with
    | .Subscript x (.Slice l u none _) _ => chkE a sc x && chkO lo sc l && chkO hi sc u
    | _ => false)
  | .call f es, sc, e => (match e with
    | .Call (.Name x _) (y :: ys) [] _ => glB sc x && (match nm f with
      | some z => decide (z = x)
      | none => false) && chkEs es sc (y :: ys)
    | _ => false)
  | .bi b es, sc, e => (match e with
    | .Call (.Name x _) ys [] _ => glB sc x && decide (x = b.name) && b.okT && (match b.isIsi, es, ys with
      | true, .cons a .nil, [y, .Name t _] => chkE a sc y && glB sc t && decide (t = PySem.Str.ofString b.ty)
      | false, .cons a r, y :: ys => chkE a sc y && chkEs r sc ys
      | _, _, _ => false)
    | _ => false)
  | .tupOf l, sc, e => (match e with
    | .Call (.Name x _) [y] [] _ => glB sc x && decide (x = ("tuple" : Str)) && chkL l sc y
    | _ => false)
  | .tupE a, sc, e => (match e with
    | .Call (.Name x _) [y] [] _ => glB sc x && decide (x = ("tuple" : Str)) && chkE a sc y
    | _ => false)
  | .tupRev a, sc, e => (match e with
    | .Call (.Name x _) [.Call (.Name r _) [y] [] _] [] _ => glB sc x && decide (x = ("tuple" : Str)) && glB sc r && decide (r = ("reversed" : Str)) && chkE a sc y
    | _ => false)
  | .fzOf l, sc, e => chkL l sc e
  | .getD o k, sc, e => (match e with
    | .Call (.Attribute ob m a) [x] [] c => plainOb ob && decide (m = ("get" : Str)) && bmB a c && chkE o sc ob && chkE k sc x
    | _ => false)
  | .getD2 o k d, sc, e => (match e with
    | .Call (.Attribute ob m a) [x, y] [] c => plainOb ob && decide (m = ("get" : Str)) && bmB a c && chkE o sc ob && chkE k sc x && chkE d sc y
    | _ => false)
  | .newL l, sc, e => chkL l sc e
  | .newD t, sc, e => (match e with
    | .Dict [] [] _ => true
    | _ => false)
  | .sdf o k v, sc, e => (match e with
    | .Call (.Attribute ob m a) [x, y] [] c => plainOb ob && decide (m = ("setdefault" : Str)) && bmB a c && chkE o sc ob && chkE k sc x && chkE v sc y
    | _ => false)
  | .appX o v, sc, e => (match e with
    | .Call (.Attribute ob m a) [x] [] c => plainOb ob && decide (m = ("append" : Str)) && bmB a c && chkE o sc ob && chkE v sc x
    | _ => false)
  | .extX o l, sc, e => (match e with
    | .Call (.Attribute ob m a) [x] [] c => plainOb ob && decide (m = ("extend" : Str)) && bmB a c && chkE o sc ob && chkL l sc x
    | _ => false)
  | .clrX o, sc, e => (match e with
    | .Call (.Attribute ob m a) [] [] c => plainOb ob && decide (m = ("clear" : Str)) && bmB a c && chkE o sc ob
    | _ => false)
  | .popX o, sc, e => (match e with
    | .Call (.Attribute ob m a) [] [] c => plainOb ob && decide (m = ("pop" : Str)) && bmB a c && chkE o sc ob
    | _ => false)
  | .popAt o i, sc, e => (match e with
    | .Call (.Attribute ob m a) [x] [] c => plainOb ob && decide (m = ("pop" : Str)) && bmB a c && chkE o sc ob && chkE i sc x
    | _ => false)
  | .insX o i v, sc, e => (match e with
    | .Call (.Attribute ob m a) [x, y] [] c => plainOb ob && decide (m = ("insert" : Str)) && bmB a c && chkE o sc ob && chkE i sc x && chkE v sc y
    | _ => false)
  | .idx o v, sc, e => (match e with
    | .Call (.Attribute ob m a) [x] [] c => plainOb ob && decide (m = ("index" : Str)) && bmB a c && chkE o sc ob && chkE v sc x
    | _ => false)
  | .divm a b, sc, e => (match e with
    | .Call (.Name x _) [y, z] [] _ => glB sc x && decide (x = ("divmod" : Str)) && chkE a sc y && chkE b sc z
    | _ => false)
  | .fld k o f, sc, e => (match e with
    | .Attribute ob m _ => plainOb ob && decide (m = f) && nm.fl.contains f && decide (k ≤ nm.nc) && chkE o sc ob
    | _ => false)
  | .meth c m f o es, sc, e => (match e with
    | .Call (.Attribute ob m2 a) ys [] p => plainOb ob && decide (m2 = m) && bmB a p && decide (ys.length < 29) && decide (nm.mt f = some (c, m)) && chkE o sc ob && chkEs es sc ys
    | _ => false)
  | .mk c f es, sc, e => (match e with
    | .Call (.Name x _) ys [] _ => glB sc x && decide (nm.cl c = some (x, f)) && chkEs es sc ys
    | _ => false)
def chkO : CO2 → Scope → Option Expr → Bool
  | .no, sc, e => e.isNone
  | .so a, sc, e => (match e with
    | some x => chkE a sc x
    | none => false)
def chkEs : CEs → Scope → List Expr → Bool
  | .nil, sc, es => es.isEmpty
  | .cons a r, sc, es => (match es with
    | x :: xs => chkE a sc x && chkEs r sc xs
    | [] => false)
def chkT : CT → Scope → Expr → Bool
  | .e a, sc, e => okTest a && chkE a sc e
  | .andT a b, sc, e => (match e with
    | .BoolOp .And [x, y] _ => chkT a sc x && chkT b sc y
    | .BoolOp .And (x :: y :: z :: r) p => chkT a sc x && chkT b sc (.BoolOp .And (y :: z :: r) p)
    | _ => false)
  | .orT a b, sc, e => (match e with
    | .BoolOp .Or [x, y] _ => chkT a sc x && chkT b sc y
    | .BoolOp .Or (x :: y :: z :: r) p => chkT a sc x && chkT b sc (.BoolOp .Or (y :: z :: r) p)
    | _ => false)
  | .notT a, sc, e => (match e with
    | .UnaryOp .Not x _ => chkT a sc x
    | _ => false)
def chkTs : CTs → Scope → List Expr → Bool
  | .nil, sc, es => es.isEmpty
  | .cons a .nil, sc, es => (match es with
    | [x] => chkT a sc x
    | _ => false)
  | _, _, _ => false
def chkL : LE → Scope → Expr → Bool
  | .lc it g ifs el, sc, e => (match e with
    | .ListComp elt [⟨tg, iter, fs, na⟩] scope _ => decide (na = 0) && chkI it sc tg iter && chkG N scope g tg && blkC N sc scope (ownOf g tg) && decide ((ownOf g tg).map (·.2) = g.slots) && chkTs ifs (relS scope sc) fs && chkE el (relS scope sc) elt
    | _ => false)
  | .dsp es, sc, e => (match e with
    | .List xs _ => chkEs es sc xs
    | _ => false)
  | .listE a, sc, e => (match e with
    | .Call (.Name x _) [y] [] _ => glB sc x && decide (x = ("list" : Str)) && chkE a sc y
    | _ => false)
  | .listRg a, sc, e => (match e with
    | .Call (.Name x _) [.Call (.Name r _) [y] [] _] [] _ => glB sc x && decide (x = ("list" : Str)) && glB sc r && decide (r = ("range" : Str)) && chkE a sc y
    | _ => false)
  | .listRg2 a b, sc, e => (match e with
    | .Call (.Name x _) [.Call (.Name r _) [y, z] [] _] [] _ => glB sc x && decide (x = ("list" : Str)) && glB sc r && decide (r = ("range" : Str)) && chkE a sc y && chkE b sc z
    | _ => false)
  | .items a, sc, e => false
  | .cat a b, sc, e => (match e with
    | .BinOp x .Add y _ => chkL a sc x && chkL b sc y
    | _ => false)
  | .catE a b, sc, e => (match e with
    | .BinOp x .Add y _ => chkE a sc x && chkE b sc y
    | _ => false)
  | .rep a b, sc, e => (match e with
    | .BinOp x .Mult y _ => chkL a sc x && chkE b sc y
    | _ => false)
  | .sortK f a, sc, e => (match e with
    | .Call (.Name x _) [y] [⟨some kn, .Name z _, _⟩] _ => glB sc x && decide (x = ("sorted" : Str)) && decide (kn = ("key" : Str)) && glB sc z && (match nm f with
      | some z' => decide (z' = z)
      | none => false) && chkE a sc y
    | _ => false)
  | .srt a, sc, e => (match e with
    | .Call (.Name x _) [y] [] _ => glB sc x && decide (x = ("sorted" : Str)) && chkE a sc y
    | _ => false)
  | .slcL a lo hi, sc, e => (match e with
    | .Subscript x (.Slice l u none _) _ => chkE a sc x && chkO lo sc l && chkO hi sc u
    | _ => false)
def chkI : CI → Scope → Expr → Expr → Bool
  | .val a, sc, tg, e => chkE a sc e
  | .rg1 a, sc, tg, e => (match e with
    | .Call (.Name x _) [y] [] _ => glB sc x && decide (x = ("range" : Str)) && chkE a sc y
    | _ => false)
  | .rg2 a b, sc, tg, e => (match e with
    | .Call (.Name x _) [y, z] [] _ => glB sc x && decide (x = ("range" : Str)) && chkE a sc y && chkE b sc z
    | _ => false)
  | .enum a, sc, tg, e => (match e with
    | .Call (.Name x _) [y] [] _ => glB sc x && decide (x = ("enumerate" : Str)) && (match tg with
      | .Tuple _ _ _ => true
      | _ => false) && chkE a sc y
    | _ => false)
  | .zip a b, sc, tg, e => (match e with
    | .Call (.Name x _) [y, z] [] _ => glB sc x && decide (x = ("zip" : Str)) && (match tg with
      | .Tuple _ _ _ => true
      | _ => false) && chkE a sc y && chkE b sc z
    | _ => false)
end
end

/-! ### plain syntax -/
/-- what no accepted expression is -/
structure Plain (e : Expr) : Prop where
  star : notStar e = true
  slice : ∀ l u s p, e ≠ .Slice l u s p
  set : ∀ l k p, e ≠ .Set l k p
theorem star_cons {e : Expr} {es : List Expr} {env : Env} (h : notStar e = true) : starEach (e :: es) env = (false, eval e env) :: starEach es env := by
  cases e <;> first | rfl | cases h
theorem star_any : ∀ {es : List Expr} {env : Env} {pos : Pos}, (∀ e ∈ es, notStar e = true) → (backTo pos (starEach es env)).any (·.1) = false
  | [], _, _, _ => rfl
  | e :: es, env, pos, h => by
    rw [star_cons (h e (by simp))]
    show (backTo pos ((false, eval e env) :: starEach es env)).any (·.1) = false
    have q := star_any (es := es) (env := env) (pos := pos) fun e he => h e (by simp [he])
    simpa [backTo] using q
theorem folded {e : Expr} {env : Env} (h : ∀ l k p, e ≠ .Set l k p) : ∀ x, foldedSetIterable e env x = pure x := by
  cases e <;> first | (intro _; rfl) | exact absurd rfl (h _ _ _)
theorem plainIx {e : Expr} (h : ∀ l u s p, e ≠ .Slice l u s p) (h2 : ∀ xs k p, e ≠ .Tuple xs k p) : PlainIx e := by
  intro o i
  cases e <;> first | rfl | exact absurd rfl (h _ _ _ _) | exact absurd rfl (h2 _ _ _)
end G

set_option maxHeartbeats 2000000
/-! Core6: an accepted expression gives what the core says. -/
namespace G
open PySem PySem.Spec PyProof.Rows L2

/-- a step of statements: one's own may turn -/
structure SStp (ω : List Addr) (H : Hp) (ρ U : List Addr) (H' : Hp) (ρ' U' : List Addr) : Prop where
  gr : Grow H ρ (ms ω ρ U) H' ρ' (ms ω ρ' U')
  own : ∀ a ∈ ω, H' a = H a
theorem SStp.refl {ω : List Addr} {H : Hp} {ρ U : List Addr} : SStp ω H ρ U H ρ U := ⟨.refl, fun _ _ => rfl⟩
theorem SStp.trans {ω : List Addr} {H H1 H2 : Hp} {ρ U ρ1 U1 ρ2 U2 : List Addr} (g : SStp ω H ρ U H1 ρ1 U1) (g' : SStp ω H1 ρ1 U1 H2 ρ2 U2) : SStp ω H ρ U H2 ρ2 U2 :=
  ⟨g.gr.trans g'.gr, fun a h => (g'.own a h).trans (g.own a h)⟩
theorem Stp.s {ω U : List Addr} {H H' : Hp} {ρ ρ' : List Addr} (g : Stp ω U H ρ H' ρ') : SStp ω H ρ U H' ρ' U := ⟨g.gr, fun a h => g.own a (.inl h)⟩
/-- how an exception lies -/
def RX (C : Nat → Addr) (K : PySem.W.Frag) (ω ρ U : List Addr) (H : Hp) (x : EX) (cls : Value) (dd : Option Addr) : Prop :=
  cls = .ref (C (x.c + 1000)) ∧ ((x.fs = [] ∧ dd = none) ∨ (x.fs ≠ [] ∧ ∃ a ws, dd = some a ∧ H a = some (.xd ws) ∧ RK K H ρ (ms ω ρ U) x.fs ws))
/-- how a def's value lies -/
def RRel (C : Nat → Addr) (K : PySem.W.Frag) (ω ρ U : List Addr) (H : Hp) : RR → V → Prop
  | .d x, v => RD K H ρ (ms ω ρ U) x v
  | .mv o, v => ∃ a, v = .ref a ∧ a ∈ U ∧ RO C K H ρ (ms ω ρ U) o a
/-- a def's promise, by the core -/
def spI (C : Nat → Addr) (K : PySem.W.Frag) (Γ : GM) (f : Nat) : Sp := fun vs H Q E => ∃ (ω ρ : List Addr) (h : AH) (as : List VV) (Q' : RR → AH → Prop) (X' : EX → AH → Prop),
  HR C K ω ρ [] h H ∧ RVs C K ω ρ [] H as vs ∧ Γ f as h Q' X' ∧
  (∀ r v h' ρ' U' H', HR C K ω ρ' U' h' H' → SStp ω H ρ [] H' ρ' U' → RRel C K ω ρ' U' H' r v → Q' r h' → Q v H') ∧
  (∀ x cls dd h' ρ' U' H', HR C K ω ρ' U' h' H' → SStp ω H ρ [] H' ρ' U' → RX C K ω ρ' U' H' x cls dd → X' x h' → E cls dd H')

/-- where one stands: the called defs, the constants, the built-ins -/
structure CC (C : Nat → Addr) (Γ : GM) (nm : NT) (cs : Nat → Option (Str × D)) (k : Nat) (N : List Str) (X : Cx) : Prop where
  hN : X.N = N
  calm : X.calm = true
  room : Room k X.A
  nd : X.N.Nodup
  fns : ∀ f x, nm f = some x → ∃ fa fd ps, X.mg x = some (.ref fa) ∧ PySem.W.keepIn X.K (.ref fa) = true ∧ Binds X.K fd ps [] ∧ FnOk X.prog X.w X.K X.mg X.base (L2.CX X.prog X.w) k fa fd ps (spI C X.K Γ f)
  cst : ∀ j x d, cs j = some (x, d) → ∃ u v, X.mg x = some u ∧ RelV v u ∧ ∀ H ρ m, RD X.K H ρ m d v
  blt : ∀ x ∈ bltNames, X.mg x = none
  exn : ∀ c x, nm.xn c = some x → X.mg x = some (.ref (C (c + 1000))) ∧ PySem.W.excIn X.K (C (c + 1000)) He.veBase "ValueError.__new__" = true ∧ PySem.W.keepIn X.K (.ref (C (c + 1000))) = true ∧ Raises X (.ref (C (c + 1000)))
  exc : ∀ c, c < nm.nx → ExcC X.K (C (c + 1000))
  exl : ∀ x l, xlAt nm.xl x = some l → ∃ (cc : V) (cv : Value), ClsV cc cv ∧ RelV cc cv ∧ (X.mg x = some cv ∨ (X.mg x = none ∧ bootBuiltins x = some cv ∧ x ≠ "__name__")) ∧
    ∀ c, c < nm.nx → PySem.W.exmOne X.K (.ref (C (c + 1000))) cv = some (l.contains c) ∧ PySem.W.kitOne X.K (.ref (C (c + 1000))) cv = some (l.contains c)
  cls : ∀ c, c < nm.nc → Cls X.K (C c) ∧ ∀ f ∈ nm.fl, NoAttr X.K (C c) f
  mth : ∀ f c m, nm.mt f = some (c, m) → ∃ fa fd ps, Cls X.K (C c) ∧ Meth X.K (C c) m fa ∧ Binds X.K fd ps [] ∧ FnOk X.prog X.w X.K X.mg X.base (L2.CX X.prog X.w) k fa fd ps (spI C X.K Γ f)
  mks : ∀ c x f, nm.cl c = some (x, f) → ∃ kk fa fd ps, X.mg x = some (.ref (C c)) ∧ Mk X.K (C c) fa ∧ Binds X.K fd ps [] ∧ FnOk X.prog X.w X.K X.mg X.base (L2.CX X.prog X.w) kk fa fd ps (spI C X.K Γ (f + 1000)) ∧ Room (kk + 1) X.A
  srt : ∀ f x, nm f = some x → ∃ kk fa fd ps, X.mg x = some (.ref fa) ∧ Binds X.K fd ps [] ∧ FnOk X.prog X.w X.K X.mg X.base (L2.CX X.prog X.w) kk fa fd ps (spI C X.K Γ (f + 1000)) ∧ Room (kk + 1) X.A
abbrev cval (cs : Nat → Option (Str × D)) : Nat → Option D := fun j => (cs j).map (·.2)
abbrev cnam (cs : Nat → Option (Str × D)) : Nat → Option Str := fun j => (cs j).map (·.1)

/-- a reading by the core: w the core's, R how values lie -/
def tG {A B : Type} (C : Nat → Addr) (K : PySem.W.Frag) (W : WX) (w : Ev → AH → (A → AH → Prop) → (EX → AH → Prop) → Prop) (R : List Addr → List Addr → List Addr → Hp → A → B → Prop) : L2.St → Hp → (B → Hp → Prop) → Prop :=
  fun σ H Q => ∃ (ω : List Addr) (β : Nat → Option Addr) (ρ U : List Addr) (env : Ev) (h : AH) (Q' : A → AH → Prop) (X' : EX → AH → Prop),
    RS C K β ω ρ U env h σ H ∧ w env h Q' X' ∧
    (∀ d v h' ρ' H', RS C K β ω ρ' U env h' σ H' → Stp ω U H ρ H' ρ' → R ω ρ' U H' d v → Q' d h' → Q v H') ∧
    (∀ x cls dd h' ρ' H', RS C K β ω ρ' U env h' σ H' → Stp ω U H ρ H' ρ' → RX C K ω ρ' U H' x cls dd → X' x h' → W cls dd σ H')
abbrev tE (C : Nat → Addr) (K : PySem.W.Frag) (W : WX) (Γ : GM) (cs : Nat → Option D) (c : CE) : TE := tG C K W (fun env h Q X => wpE Γ cs c env h Q X) (RV C K)
abbrev tT (C : Nat → Addr) (K : PySem.W.Frag) (W : WX) (Γ : GM) (cs : Nat → Option D) (c : CT) : TT := tG C K W (fun env h Q X => wpT Γ cs c env h Q X) (fun _ _ _ _ a b => a = b)
abbrev tTs (C : Nat → Addr) (K : PySem.W.Frag) (W : WX) (Γ : GM) (cs : Nat → Option D) (c : CTs) : TT := tG C K W (fun env h Q X => wpTs Γ cs c env h Q X) (fun _ _ _ _ a b => a = b)
abbrev tEs (C : Nat → Addr) (K : PySem.W.Frag) (W : WX) (Γ : GM) (cs : Nat → Option D) (c : CEs) : TA := tG C K W (fun env h Q X => wpEs Γ cs c env h Q X) (RVs C K)
abbrev tO (C : Nat → Addr) (K : PySem.W.Frag) (W : WX) (Γ : GM) (cs : Nat → Option D) (c : CO2) : TO := tG C K W (fun env h Q X => wpO Γ cs c env h Q X) (fun _ _ _ _ a b => a = b)
/-- a new list: at a free place -/
def tL (C : Nat → Addr) (K : PySem.W.Frag) (W : WX) (Γ : GM) (cs : Nat → Option D) (c : LE) : TE := fun σ H Q =>
  tG C K W (fun env h Q X => wpL Γ cs c env h Q X) (fun ω ρ U H => RDs K H ρ (ms ω ρ U)) σ H fun vs H1 => ∀ p, H1 p = none → Q (.ref p) (upd H1 p (.lst vs))
/-- a walk of the items xs, guarded by gd, begun at H -/
structure Wlk (C : Nat → Addr) (K : PySem.W.Frag) (ω ρ U : List Addr) (H : Hp) (xs : List D) (gd : AH → Prop) (cp : Bool) (J : It) : Prop where
  go : ∀ (i : Nat) (x : D) (h1 : AH) (ρ1 U1 : List Addr) (H1 : Hp), HR C K ω ρ1 U1 h1 H1 → SStp ω H ρ U H1 ρ1 U1 → (cp = true → ∀ a ∈ U, H1 a = H a) → gd h1 → xs[i]? = some x → J.go i H1 ∧
    ∀ v H2, J.yld i H1 v H2 → HR C K ω ρ1 U1 h1 H2 ∧ Stp ω U1 H1 ρ1 H2 ρ1 ∧ RD K H2 ρ1 (ms ω ρ1 U1) x v
  stop : ∀ (i : Nat) (h1 : AH) (ρ1 U1 : List Addr) (H1 : Hp), HR C K ω ρ1 U1 h1 H1 → SStp ω H ρ U H1 ρ1 U1 → (cp = true → ∀ a ∈ U, H1 a = H a) → gd h1 → xs.length ≤ i → J.stop i H1
def tI (C : Nat → Addr) (K : PySem.W.Frag) (W : WX) (Γ : GM) (cs : Nat → Option D) (c : CI) (cp : Bool) : TI := fun σ H R =>
  ∃ (ω : List Addr) (β : Nat → Option Addr) (ρ U : List Addr) (env : Ev) (h : AH) (Q' : List D → (AH → Prop) → AH → Prop) (X' : EX → AH → Prop),
    RS C K β ω ρ U env h σ H ∧ wpI Γ cs c cp env h Q' X' ∧
    (∀ xs gd J h' ρ' H', RS C K β ω ρ' U env h' σ H' → Stp ω U H ρ H' ρ' → Wlk C K ω ρ' U H' xs gd cp J → Q' xs gd h' → R J H') ∧
    (∀ x cls dd h' ρ' H', RS C K β ω ρ' U env h' σ H' → Stp ω U H ρ H' ρ' → RX C K ω ρ' U H' x cls dd → X' x h' → W cls dd σ H')

theorem PE.imp {X : Cx} {e : Expr} {t t' : TE} (h : PE X e t) (w : ∀ σ H Q, t' σ H Q → t σ H Q) : PE X e t' := ⟨fun pins s σ H Q I q => h.run pins s σ H Q I (w σ H Q q)⟩
theorem PT.imp {X : Cx} {e : Expr} {t t' : TT} (h : PT X e t) (w : ∀ σ H Q, t' σ H Q → t σ H Q) : PT X e t' := ⟨fun pins s σ H Q I q => h.run pins s σ H Q I (w σ H Q q)⟩
theorem PW.imp {X : Cx} {e : Expr} {t t' : TT} (h : PW X e t) (w : ∀ σ H Q, t' σ H Q → t σ H Q) : PW X e t' := ⟨fun wh pins s σ H Q I q => h.run wh pins s σ H Q I (w σ H Q q)⟩
theorem PA.imp {X : Cx} {e : List Expr} {t t' : TA} (h : PA X e t) (w : ∀ σ H Q, t' σ H Q → t σ H Q) : PA X e t' := ⟨fun pos pins s σ H Q I q => h.run pos pins s σ H Q I (w σ H Q q)⟩
theorem PO.imp {X : Cx} {e : Option Expr} {t t' : TO} (h : PO X e t) (w : ∀ σ H Q, t' σ H Q → t σ H Q) : PO X e t' := ⟨fun pins s σ H Q I q => h.run pins s σ H Q I (w σ H Q q)⟩
theorem PI.imp {X : Cx} {tg e : Expr} {t t' : TI} (h : PI X tg e t) (w : ∀ σ H Q, t' σ H Q → t σ H Q) : PI X tg e t' := ⟨fun pins s σ H Q I q => h.run pins s σ H Q I (w σ H Q q)⟩

section
variable {C : Nat → Addr} {K : PySem.W.Frag} {W : WX} {ω ρ ρ1 U : List Addr} {β : Nat → Option Addr} {env : Ev} {h h1 : AH} {σ : L2.St} {H H1 : Hp} {Q : VK} {Q' : VV → AH → Prop} {X' : EX → AH → Prop}
theorem endD (rs : RS C K β ω ρ1 U env h1 σ H1) (g : Stp ω U H ρ H1 ρ1) (hq : ∀ d v h' ρ' H', RS C K β ω ρ' U env h' σ H' → Stp ω U H ρ H' ρ' → RV C K ω ρ' U H' d v → Q' d h' → Q v H') :
    EndD C K ω ρ1 U h1 H1 (fun z => Q' (.d z) h1) Q := fun z w H' hr st rd p => hq (.d z) w h1 ρ1 H' (rs.step hr st) (g.trans st) rd p
theorem upX (g : Stp ω U H ρ H1 ρ1) (hx : ∀ x cls dd h' ρ' H', RS C K β ω ρ' U env h' σ H' → Stp ω U H ρ H' ρ' → RX C K ω ρ' U H' x cls dd → X' x h' → W cls dd σ H') :
    ∀ x cls dd h' ρ' H', RS C K β ω ρ' U env h' σ H' → Stp ω U H1 ρ1 H' ρ' → RX C K ω ρ' U H' x cls dd → X' x h' → W cls dd σ H' :=
  fun x cls dd h' ρ' H' rs g' rx xx => hx x cls dd h' ρ' H' rs (g.trans g') rx xx
/-! ### calls -/
theorem ms_call {a : Addr} : ms (ω ++ U) ρ [] a ↔ ms ω ρ U a := by
  unfold ms
  simp only [List.mem_append, List.not_mem_nil, or_false]
  constructor
  · rintro ((h | h) | h)
    · exact .inl h
    · exact .inr (.inr h)
    · exact .inr (.inl h)
  · rintro (h | h | h)
    · exact .inl (.inl h)
    · exact .inr h
    · exact .inl (.inr h)
theorem Grow.same {m m' : Addr → Prop} (h : ∀ a, m' a → m a) : Grow H ρ m H ρ m' := ⟨fun _ _ h => h, fun _ _ _ h => h, fun _ _ h => h, fun a _ e n => ⟨e, fun z => n (h a z)⟩⟩
theorem HR.call (r : HR C K ω ρ U h H) : HR C K (ω ++ U) ρ [] h H :=
  ⟨r.lh, fun n o e => let ⟨a, e1, r1⟩ := r.hp n o e; ⟨a, e1, r1.grow (.same fun a z => ms_call.mp z) rfl⟩, r.nd,
    fun a ha => ⟨fun z => (List.mem_append.mp z).elim (r.dj a ha).1 (r.dj a ha).2, by simp⟩, fun a ha => by simp at ha, fun a z => r.pr a (ms_call.mp z)⟩
theorem RV.arg {x : VV} {v : V} (r : RV C K ω ρ U H x v) : RV C K (ω ++ U) ρ [] H (toArg x) v := by
  have g : Grow H ρ (ms ω ρ U) H ρ (ms (ω ++ U) ρ []) := .same fun a z => ms_call.mp z
  cases x with
  | d d => exact RD.grow g r
  | tw o => obtain ⟨a, e, hu, r⟩ := r; exact ⟨a, e, List.mem_append_right _ hu, r.grow g rfl⟩
  | bw o => obtain ⟨a, e, hu, r⟩ := r; exact ⟨a, e, List.mem_append_left _ hu, r.grow g rfl⟩
theorem RVs.args : ∀ {xs : List VV} {vs : List V}, RVs C K ω ρ U H xs vs → RVs C K (ω ++ U) ρ [] H (xs.map toArg) vs
  | [], [], .nil => .nil
  | x :: xs, v :: vs, .cons r t => .cons r.arg (RVs.args t)
theorem HR.ret {U1 : List Addr} (r : HR C K (ω ++ U) ρ1 U1 h1 H1) (du : ∀ a ∈ U, a ∉ ω) : HR C K ω ρ1 U h1 H1 :=
  ⟨r.lh, fun n o e => let ⟨a, e1, r1⟩ := r.hp n o e; ⟨a, e1, r1.grow (.same fun a z => by
      rcases z with z | z | z
      · exact .inl (List.mem_append_left _ z)
      · exact .inr (.inl z)
      · exact .inl (List.mem_append_right _ z)) rfl⟩, r.nd,
    fun a ha => ⟨fun z => (r.dj a ha).1 (List.mem_append_left _ z), fun z => (r.dj a ha).1 (List.mem_append_right _ z)⟩, du, fun a z => r.pr a (by
      rcases z with z | z | z
      · exact .inl (List.mem_append_left _ z)
      · exact .inr (.inl z)
      · exact .inl (List.mem_append_right _ z))⟩
theorem SStp.ret {U1 : List Addr} (g : SStp (ω ++ U) H ρ [] H1 ρ1 U1) : Stp ω U H ρ H1 ρ1 :=
  ⟨((Grow.same fun a z => ms_call.mp z).trans g.gr).trans (.same fun a z => by
      rcases z with z | z | z
      · exact .inl (List.mem_append_left _ z)
      · exact .inr (.inl z)
      · exact .inl (List.mem_append_right _ z)), fun a z => g.own a (z.elim (List.mem_append_left _) (List.mem_append_right _))⟩
theorem ms_ret {U1 : List Addr} {a : Addr} (z : ms ω ρ1 U a) : ms (ω ++ U) ρ1 U1 a := by
  rcases z with z | z | z
  · exact .inl (List.mem_append_left _ z)
  · exact .inr (.inl z)
  · exact .inl (List.mem_append_right _ z)
theorem RX.ret {U1 : List Addr} {x : EX} {cls : Value} {dd : Option Addr} (r : RX C K (ω ++ U) ρ1 U1 H1 x cls dd) : RX C K ω ρ1 U H1 x cls dd := by
  obtain ⟨e, r⟩ := r
  refine ⟨e, ?_⟩
  rcases r with r | ⟨n, a, ws, e1, e2, r⟩
  · exact .inl r
  · exact .inr ⟨n, a, ws, e1, e2, r.grow (.same fun a z => ms_ret z)⟩
/-- a call's promise, from the caller -/
theorem spI_call {Γ : GM} {f : Nat} {xs : List VV} {vs : List V} {E : XK} (rs : RS C K β ω ρ U env h σ H) (rv : RVs C K ω ρ U H xs vs) {Qr : RR → AH → Prop} (w : Γ f (xs.map toArg) h Qr X')
    (hq : ∀ r v h' ρ' U' H', RS C K β ω ρ' U env h' σ H' → Stp ω U H ρ H' ρ' → HR C K (ω ++ U) ρ' U' h' H' → Grow H ρ (ms ω ρ U) H' ρ' (ms (ω ++ U) ρ' U') → RRel C K (ω ++ U) ρ' U' H' r v → Qr r h' → Q v H')
    (hx : ∀ x cls dd h' ρ' H', RS C K β ω ρ' U env h' σ H' → Stp ω U H ρ H' ρ' → RX C K ω ρ' U H' x cls dd → X' x h' → E cls dd H') : spI C K Γ f vs H Q E :=
  ⟨ω ++ U, ρ, h, _, Qr, X', rs.hr.call, rv.args, w,
    fun r v h' ρ' U' H' hr g rr q => hq r v h' ρ' U' H' (rs.step (hr.ret rs.hr.du) g.ret) g.ret hr ((Grow.same fun a z => ms_call.mp z).trans g.gr) rr q,
    fun x cls dd h' ρ' U' H' hr g rx q => hx x cls dd h' ρ' H' (rs.step (hr.ret rs.hr.du) g.ret) g.ret rx.ret q⟩
/-- what is handed back, read -/
theorem RRel.rd {U1 : List Addr} {r : RR} {v : V} (hr : HR C K (ω ++ U) ρ1 U1 h1 H1) (rr : RRel C K (ω ++ U) ρ1 U1 H1 r v) (q : RR.rd Q' r h1) : ∃ d, RV C K ω ρ1 U H1 (.d d) v ∧ Q' (.d d) h1 := by
  have g : Grow H1 ρ1 (ms (ω ++ U) ρ1 U1) H1 ρ1 (ms ω ρ1 U) := .same fun a z => ms_ret z
  cases r with
  | d x => exact ⟨x, RD.grow g rr, q⟩
  | mv o =>
    cases o with
    | lst xs =>
      obtain ⟨a, rfl, hu, vs, h2, h3⟩ := rr
      refine ⟨.fz xs, .fz (.inl ⟨h2, fun z => ?_⟩) (h3.grow g), q⟩
      rcases z with z | z | z
      · exact hr.du a hu (List.mem_append_left _ z)
      · exact (hr.dj a z).2 hu
      · exact hr.du a hu (List.mem_append_right _ z)
    | _ => exact q.elim
end
end G

set_option maxHeartbeats 4000000
/-! Core7: the parts that the look's soundness wants: targets, walks, comprehensions. -/
namespace G
open PySem PySem.Spec PyProof.Rows L2

theorem PTs.imp {X : Cx} {e : List Expr} {t t' : TT} (h : PTs X e t) (w : ∀ σ H Q, t' σ H Q → t σ H Q) : PTs X e t' := ⟨fun pins s σ H Q I q => h.run pins s σ H Q I (w σ H Q q)⟩
/-! ### names -/
theorem nameAt_ok {N : List Str} {i : Nat} {x : Str} (h : nameAt N i x = true) : N[i]? = some x := by
  unfold nameAt at h
  split at h
  · rename_i y e
    rw [e, of_decide_eq_true h]
  · cases h
theorem visB_ok {sc : Scope} {x : Str} (h : visB sc x = true) : Vis sc x ∧ (x == ("__debug__" : Str)) = false ∧ (x == ("__classdict__" : Str)) = false := by
  unfold visB at h
  simp only [Bool.and_eq_true, Bool.not_eq_true'] at h
  obtain ⟨⟨h1, h2⟩, h3⟩ := h
  refine ⟨?_, h2, h3⟩
  unfold Vis
  split at h1
  · rename_i e; exact .inl e
  · rename_i e; exact .inr (.inl e)
  · rename_i e; exact .inr (.inr e)
  · cases h1
theorem locB_ok {sc : Scope} {x : Str} (h : locB sc x = true) : Loc sc x := by
  unfold locB at h
  split at h
  · rename_i e; exact .inl e
  · rename_i e; exact .inr e
  · cases h
theorem loc1B_ok {sc : Scope} {x : Str} (h : loc1B sc x = true) : sc.names.lookup x = some .local := by
  unfold loc1B at h
  split at h
  · rename_i e; exact e
  · cases h
theorem glB_ok {X : Cx} {sc : Scope} {x : Str} (hs : X.env.scope = sc) (h : glB sc x = true) : Gl X x ∧ (x == ("__debug__" : Str)) = false := by
  unfold glB at h
  simp only [Bool.and_eq_true, Bool.not_eq_true'] at h
  refine ⟨?_, h.2⟩
  unfold Gl
  show X.env.scope.names.lookup x = _
  rw [hs]
  have h1 := h.1
  split at h1
  · rename_i e; exact e
  · cases h1

/-! ### targets -/
def gsR : List Nat → TGs
  | [] => gNil
  | i :: is => gCons (gName i) (gsR is)
def gR (K : PySem.W.Frag) : CG → TG
  | .nm i => gName i
  | .tp is => gTup K is.length (gsR is)
theorem goG_len {N : List Str} {sc : Scope} : ∀ {is : List Nat} {es : List Expr}, chkG.go N sc is es = true → ∀ env : Env, (assignEach es env).length = is.length ∧ (assignEach es env).findIdx? (·.1) = none
  | [], [], _, _ => ⟨rfl, rfl⟩
  | i :: is, e :: es, h, env => by
    cases e with
    | Name x p =>
      simp only [chkG.go, Bool.and_eq_true] at h
      obtain ⟨a, b⟩ := goG_len h.2 env
      have e : assignEach (.Name x p :: es) env = (false, assign (.Name x p) env) :: assignEach es env := rfl
      rw [e]
      refine ⟨by simp [a], ?_⟩
      rw [List.findIdx?_cons]
      simp [b]
    | _ => simp [chkG.go] at h
  | [], _ :: _, h, _ => by simp [chkG.go] at h
  | _ :: _, [], h, _ => by simp [chkG.go] at h
section
variable {X : Cx} {N : List Str} {sc : Scope}
theorem hT_body (hs : X.env.scope = sc) (hf : ∀ x, X.env.scope.names.lookup x = some .cell → X.fn x = true) : ∀ x, locB sc x = true → Loc X.env.scope x ∧ (X.fn x = true ∨ X.env.scope.names.lookup x = some .local) := fun x h => by
  have hl : Loc X.env.scope x := by rw [hs]; exact locB_ok h
  exact ⟨hl, hl.elim .inr fun z => .inl (hf x z)⟩
theorem pgs_go (hN : X.N = N) (nd : X.N.Nodup) (hT : ∀ x, locB sc x = true → Loc X.env.scope x ∧ (X.fn x = true ∨ X.env.scope.names.lookup x = some .local)) : ∀ {is : List Nat} {es : List Expr}, chkG.go N sc is es = true → PGs X es (gsR is)
  | [], [], _ => pgs_nil
  | i :: is, e :: es, h => by
    cases e with
    | Name x p =>
      simp only [chkG.go, Bool.and_eq_true] at h
      exact pgs_cons (pg_name nd (by rw [hN]; exact nameAt_ok h.1.1) (hT x h.1.2).1 (hT x h.1.2).2) (pgs_go hN nd hT h.2)
    | _ => simp [chkG.go] at h
  | [], _ :: _, h => by simp [chkG.go] at h
  | _ :: _, [], h => by simp [chkG.go] at h
theorem soundG (hN : X.N = N) (nd : X.N.Nodup) (hT : ∀ x, locB sc x = true → Loc X.env.scope x ∧ (X.fn x = true ∨ X.env.scope.names.lookup x = some .local)) (hc : X.calm = true) {g : CG} {e : Expr} (h : chkG N sc g e = true) : PG X e (gR X.K g) := by
  cases g with
  | nm i =>
    cases e with
    | Name x p =>
      simp only [chkG, Bool.and_eq_true] at h
      exact pg_name nd (by rw [hN]; exact nameAt_ok h.1) (hT x h.2).1 (hT x h.2).2
    | _ => simp [chkG] at h
  | tp is =>
    cases e with
    | Tuple es k p =>
      have h' : chkG.go N sc is es = true := by simpa [chkG] using h
      exact pg_tup hc (pgs_go hN nd hT h') (goG_len h' _).1 (goG_len h' _).2
    | _ => simp [chkG] at h
end
section
variable {C : Nat → Addr} {K : PySem.W.Frag} {ω ρ U : List Addr} {β : Nat → Option Addr} {env : Ev} {h : AH} {σ : L2.St} {H : Hp}
theorem gs_ok : ∀ {is : List Nat} {xs : List D} {vs : List V} {env : Ev} {σ : L2.St} {R : L2.St → Hp → Prop}, is.length = xs.length → RS C K β ω ρ U env h σ H → RDs K H ρ (ms ω ρ U) xs vs →
    (∀ σ', RS C K β ω ρ U (setsE is xs env) h σ' H → (∀ j, j ∉ is → σ'[j]? = σ[j]?) → σ'.length = σ.length → R σ' H) → gsR is vs σ H R
  | [], [], [], _, _, _, _, rs, .nil, k => ⟨rfl, k _ rs (fun _ _ => rfl) rfl⟩
  | i :: is, x :: xs, v :: vs, env, σ, R, e, rs, .cons r t, k => by
    refine ⟨v, vs, rfl, ?_⟩
    refine gs_ok (env := env.set i (some (.val x))) (by simpa using e) (rs.set i r) t fun σ' rs' hk hl => k σ' rs' (fun j hj => ?_) (by simpa using hl)
    simp only [List.mem_cons, not_or] at hj
    rw [hk j hj.2, List.getElem?_set_ne (Ne.symm hj.1)]
  | [], _ :: _, _, _, _, _, e, _, _, _ => by simp at e
  | _ :: _, [], _, _, _, _, e, _, _, _ => by simp at e
theorem g_ok {g : CG} {x : D} {v : V} {P : Ev → Prop} {R : L2.St → Hp → Prop} (rs : RS C K β ω ρ U env h σ H) (r : RD K H ρ (ms ω ρ U) x v) (w : gW g x env P)
    (k : ∀ env' σ', RS C K β ω ρ U env' h σ' H → (∀ j, j ∉ g.slots → σ'[j]? = σ[j]?) → σ'.length = σ.length → P env' → R σ' H) : gR K g v σ H R := by
  cases g with
  | nm i => exact k _ _ (rs.set i r) (fun j hj => List.getElem?_set_ne (Ne.symm (by simpa [CG.slots] using hj))) (by simp) w
  | tp is =>
    obtain ⟨xs, rfl, hl, w⟩ := w
    cases r with
    | tup s q =>
    exact ⟨_, _, rfl, SqT.of s, by rw [← q.length]; exact hl, gs_ok hl.symm rs q fun σ' rs' hk hl => k _ σ' rs' hk hl w⟩
theorem wipe_rs (rs : RS C K β ω ρ U env h σ H) : ∀ is : List Nat, RS C K β ω ρ U (wipeE env is) h (wipe σ is) H
  | [] => rs
  | i :: is => (wipe_rs rs is).wipe i none
theorem wipe_get {σ : L2.St} {j : Nat} : ∀ {is : List Nat}, j ∈ is → j < σ.length → (wipe σ is)[j]? = some none
  | i :: is, hj, hl => by
    show ((wipe σ is).set i none)[j]? = some none
    by_cases e : j = i
    · subst e; exact List.getElem?_set_self (by rw [wipe_length]; exact hl)
    · rw [List.getElem?_set_ne (Ne.symm e)]
      rcases List.mem_cons.mp hj with z | z
      · exact absurd z e
      · exact wipe_get z hl
theorem wipe_not {σ : L2.St} {j : Nat} : ∀ {is : List Nat}, j ∉ is → (wipe σ is)[j]? = σ[j]?
  | [], _ => rfl
  | i :: is, hj => by
    simp only [List.mem_cons, not_or] at hj
    show ((wipe σ is).set i none)[j]? = _
    rw [List.getElem?_set_ne (Ne.symm hj.1)]
    exact wipe_not hj.2
theorem wipe_eq {σ σ' : L2.St} {is : List Nat} (hl : σ'.length = σ.length) (hk : ∀ j, j ∉ is → σ'[j]? = σ[j]?) : wipe σ' is = wipe σ is := by
  apply List.ext_getElem?
  intro j
  by_cases hj : j ∈ is
  · by_cases hlt : j < σ.length
    · rw [wipe_get hj hlt, wipe_get hj (by omega)]
    · rw [List.getElem?_eq_none (by rw [wipe_length]; omega), List.getElem?_eq_none (by rw [wipe_length]; omega)]
  · rw [wipe_not hj, wipe_not hj, hk j hj]
theorem wipe_wipe {σ : L2.St} {is : List Nat} : wipe (wipe σ is) is = wipe σ is := wipe_eq (wipe_length _ _) fun _ hj => wipe_not hj
end

/-! ### a list or a tuple, walked -/
def iSeq (K : PySem.W.Frag) (tl : TE) : TI := fun σ H R => tl σ H fun x H1 => ∃ a, x = .ref a ∧ (((∃ xs, SqL K H1 a xs) ∧ R (Itl K a) H1) ∨ ((∃ xs, SqT K H1 a xs) ∧ R (Itt K a) H1))
/-- the walk of a value that is read already -/
theorem walk_val {X : Cx} {tg l : Expr} {tl : TE} (hl : PE X l tl) : PI X tg l (iSeq X.K tl) := by
  constructor
  intro pins s σ H R I hw
  apply thn (hl.run pins s σ H _ I hw)
  rintro v s1 ⟨x, H1, I1, r1, a, e, q⟩
  subst e
  have ev : v = Value.ref a := r1
  subst ev
  have hnew : H1 s1.heap.objs.size = none := I1.hok.fresh (Nat.le_refl _)
  rcases q with ⟨⟨xs, hq⟩, q⟩ | ⟨⟨xs, hq⟩, q⟩
  · obtain ⟨its, rv, p, hz⟩ := I1.list hq
    apply wpAny_pyIter_list p.isList
    exact ⟨_, [s1.heap.objs.size], _, _, H1, rfl, I1.kept (t' := s1.toks) (fun b o e => Heap.get?_push_of_some _ e), turn_list a _, ⟨_, Heap.get?_push_size _ rfl, rfl, rfl⟩,
      (fun b hb => (List.mem_singleton.mp hb) ▸ I1.fpOk (Nat.le_refl _) hnew), q⟩
  · obtain ⟨its, rv, p, hz⟩ := I1.tuple hq
    apply wpAny_pyIter_tuple (show s1.heap.IsTuple a its.toArray from p)
    exact ⟨_, [s1.heap.objs.size], _, _, H1, rfl, I1.kept (t' := s1.toks) (fun b o e => Heap.get?_push_of_some _ e), turn_tuple a _, ⟨_, Heap.get?_push_size _ rfl, rfl, rfl⟩,
      (fun b hb => (List.mem_singleton.mp hb) ▸ I1.fpOk (Nat.le_refl _) hnew), q⟩
section
variable {C : Nat → Addr} {X : Cx} {pins : List (Addr × Obj)} {K : PySem.W.Frag} {ω ρ U : List Addr} {h : AH} {H : Hp}
/-- a walk's list: what lies at its address at any later turn -/
theorem Wlk.lst {xs : List D} {gd : AH → Prop} {cp : Bool} {a : Addr}
    (at_ : ∀ (h1 : AH) (ρ1 U1 : List Addr) (H1 : Hp), HR C K ω ρ1 U1 h1 H1 → SStp ω H ρ U H1 ρ1 U1 → (cp = true → ∀ a ∈ U, H1 a = H a) → gd h1 → ∃ vs, SqL K H1 a vs ∧ RDs K H1 ρ1 (ms ω ρ1 U1) xs vs) : Wlk C K ω ρ U H xs gd cp (Itl K a) where
  go := fun i x h1 ρ1 U1 H1 hr g o gh e => by
    obtain ⟨vs, s, r⟩ := at_ h1 ρ1 U1 H1 hr g o gh
    obtain ⟨v, ev, rv⟩ := r.get e
    refine ⟨⟨vs, v, s, ev⟩, fun v' H2 y => ?_⟩
    obtain ⟨rfl, y⟩ := y
    have := y vs s
    rw [ev] at this; cases this
    exact ⟨hr, .refl, rv⟩
  stop := fun i h1 ρ1 U1 H1 hr g o gh e => by
    obtain ⟨vs, s, r⟩ := at_ h1 ρ1 U1 H1 hr g o gh
    exact ⟨vs, s, by rw [← r.length]; exact e⟩
end
end G

set_option maxHeartbeats 4000000
/-! Core8: an accepted expression gives what the core says. -/
namespace G
open PySem PySem.Spec PyProof.Rows L2

theorem blt_val (b : BI) : bootBuiltins b.name = some b.id := by
  cases b with
  | isI T => show bootBuiltins ("isinstance" : Str) = some (.builtin "isinstance"); decide +kernel
  | _ => decide +kernel
theorem blt_mem (b : BI) : b.name ∈ bltNames := by
  cases b with
  | isI T => show ("isinstance" : Str) ∈ bltNames; decide +kernel
  | _ => decide +kernel
theorem blt_name (b : BI) : b.name ≠ "__name__" := by
  cases b with
  | isI T => show ("isinstance" : Str) ≠ "__name__"; decide +kernel
  | _ => decide +kernel
theorem ty_val {T : String} (h : T = "int" ∨ T = "bool" ∨ T = "tuple" ∨ T = "list" ∨ T = "str") : bootBuiltins (PySem.Str.ofString T) = some (.type T) ∧ PySem.Str.ofString T ∈ bltNames ∧ PySem.Str.ofString T ≠ "__name__" := by
  rcases h with rfl | rfl | rfl | rfl | rfl <;> decide +kernel
mutual
theorem plainE {N : List Str} {nm : NT} {cn : Nat → Option Str} : ∀ {c : CE} {sc : Scope} {e : Expr}, chkE N nm cn c sc e = true → Plain e := by
  intro c sc e h
  cases e with
  | Starred _ _ => cases c <;> first | (simp [chkE] at h; done) | (rename_i l; cases l <;> simp [chkE, chkL] at h)
  | Slice _ _ _ _ => cases c <;> first | (simp [chkE] at h; done) | (rename_i l; cases l <;> simp [chkE, chkL] at h)
  | Set _ _ _ => cases c <;> first | (simp [chkE] at h; done) | (rename_i l; cases l <;> simp [chkE, chkL] at h)
  | _ => exact ⟨rfl, fun _ _ _ _ z => (by cases z), fun _ _ _ z => (by cases z)⟩
end
theorem plainL {N : List Str} {nm : NT} {cn : Nat → Option Str} {c : LE} {sc : Scope} {e : Expr} (h : chkL N nm cn c sc e = true) : Plain e := by
  cases e with
  | Starred _ _ => cases c <;> simp [chkL] at h
  | Slice _ _ _ _ => cases c <;> simp [chkL] at h
  | Set _ _ _ => cases c <;> simp [chkL] at h
  | _ => exact ⟨rfl, fun _ _ _ _ z => (by cases z), fun _ _ _ z => (by cases z)⟩
theorem plainI {N : List Str} {nm : NT} {cn : Nat → Option Str} {c : CI} {sc : Scope} {tg e : Expr} (h : chkI N nm cn c sc tg e = true) : Plain e := by
  cases c with
  | val a => exact plainE h
  | _ => cases e with
    | Call _ _ _ _ => exact ⟨rfl, fun _ _ _ _ z => (by cases z), fun _ _ _ z => (by cases z)⟩
    | _ => simp [chkI] at h
/-- a truth test of plain make -/
theorem plainTest {N : List Str} {nm : NT} {cn : Nat → Option Str} {c : CE} {sc : Scope} {e : Expr} {env : Env} (h : chkE N nm cn c sc e = true) (ho : okTest c = true) (h1 : ∀ o a b, c ≠ .cmp o a b) (h2 : ∀ o o' a b d, c ≠ .chain o o' a b d) :
    ∀ whole, isTrue e env whole = (do let v ← whole; standAt e.pos; holding [v] (truthy v)) := by
  cases c with
  | cmp o a b => exact absurd rfl (h1 o a b)
  | chain o o' a b d => exact absurd rfl (h2 o o' a b d)
  | andV _ _ => cases ho
  | orV _ _ => cases ho
  | notV _ => cases ho
  | ite _ _ _ => cases ho
  | fzOf l => cases l <;> cases e <;> first | (intro _; rfl) | (simp [chkE, chkL] at h; done)
  | newL l => cases l <;> cases e <;> first | (intro _; rfl) | (simp [chkE, chkL] at h; done)
  | neg a =>
    cases e with
    | UnaryOp op _ _ => cases op <;> first | (intro _; rfl) | (simp [chkE] at h; done)
    | _ => simp [chkE] at h
  | _ => cases e <;> first | (intro _; rfl) | (simp [chkE] at h; done)
theorem chkEs_star {N : List Str} {nm : NT} {cn : Nat → Option Str} : ∀ {c : CEs} {sc : Scope} {es : List Expr}, chkEs N nm cn c sc es = true → ∀ e ∈ es, notStar e = true
  | .nil, _, es, h => by
    have : es = [] := by simpa [chkEs] using h
    subst this; simp
  | .cons a r, sc, [], h => by simp [chkEs] at h
  | .cons a r, sc, e :: es, h => by
    simp only [chkEs, Bool.and_eq_true] at h
    intro x hx
    rcases List.mem_cons.mp hx with rfl | hx
    · exact (plainE h.1).star
    · exact chkEs_star h.2 x hx

section
variable {C : Nat → Addr} {K : PySem.W.Frag} {ω ρ U : List Addr} {β : Nat → Option Addr} {env : Ev} {h : AH} {σ : L2.St} {H : Hp}
def eraseH (H : Hp) (p : Addr) : Hp := fun b => if b = p then none else H b
theorem eraseH_ne {p b : Addr} (n : b ≠ p) : eraseH H p b = H b := if_neg n
theorem eraseH_same {p : Addr} : eraseH H p p = none := if_pos rfl
theorem eraseH_upd {p : Addr} {u : HO} (e : H p = some u) : upd (eraseH H p) p u = H := by
  funext b
  by_cases hb : b = p
  · subst hb; rw [upd_same, e]
  · rw [upd_ne hb, eraseH_ne hb]
theorem ms_cons {p a : Addr} : ms ω ρ (p :: U) a ↔ a = p ∨ ms ω ρ U a := by
  unfold ms
  simp only [List.mem_cons]
  constructor
  · rintro (h | h | h | h)
    · exact .inr (.inl h)
    · exact .inr (.inr (.inl h))
    · exact .inl h
    · exact .inr (.inr (.inr h))
  · rintro (h | h | h | h)
    · exact .inr (.inr (.inl h))
    · exact .inl h
    · exact .inr (.inl h)
    · exact .inr (.inr (.inr h))
theorem Grow.erase {p : Addr} {vs : List V} (e : H p = some (.lst vs)) : Grow H ρ (ms ω ρ (p :: U)) (eraseH H p) ρ (ms ω ρ U) :=
  ⟨fun a xs z => by rw [eraseH_ne (fun q => by subst q; rw [e] at z; cases z)]; exact z, fun a o u z => by rw [eraseH_ne (fun q => by subst q; rw [e] at z; cases z)]; exact z, fun _ _ z => z,
    fun a xs z n => ⟨by rw [eraseH_ne (fun q => n (ms_cons.mpr (.inl q)))]; exact z, fun q => n (ms_cons.mpr (.inr q))⟩⟩
/-- the last of one's own, taken away -/
theorem RS.erase {p : Addr} {vs : List V} (r : RS C K β ω ρ (p :: U) env h σ H) (nU : p ∉ U) (no : ∀ (i : Nat) (o : AO), env[i]? = some (some (Sl.own o)) → σ[i]? ≠ some (some (V.ref p))) (e : H p = some (.lst vs)) : RS C K β ω ρ U env h σ (eraseH H p) := by
  have hr := r.hr
  have g : Grow H ρ (ms ω ρ (p :: U)) (eraseH H p) ρ (ms ω ρ U) := .erase e
  refine ⟨⟨hr.lh, fun n o z => ?_, hr.nd, fun a ha => ⟨(hr.dj a ha).1, fun z => (hr.dj a ha).2 (List.mem_cons_of_mem _ z)⟩, fun a ha => hr.du a (List.mem_cons_of_mem _ ha), fun a z => ?_⟩, r.len, fun i s z => ?_, r.inj, r.bo⟩
  · obtain ⟨a, e1, r1⟩ := hr.hp n o z
    exact ⟨a, e1, r1.grow g (eraseH_ne fun q => (hr.dj a (List.mem_of_getElem? e1)).2 (q ▸ List.mem_cons_self ..))⟩
  · obtain ⟨u, e1, m1⟩ := hr.pr a (ms_cons.mpr (.inr z))
    have na : a ≠ p := fun q => by
      subst q
      rcases z with z | z | z
      · exact hr.du a (List.mem_cons_self ..) z
      · exact (hr.dj a z).2 (List.mem_cons_self ..)
      · exact nU z
    exact ⟨u, by rw [eraseH_ne na]; exact e1, m1⟩
  · obtain ⟨v, ev, rv⟩ := r.sl i s z
    refine ⟨v, ev, ?_⟩
    cases s with
    | val d => exact RD.grow g rv
    | own o =>
      obtain ⟨a, rfl, ha, ra⟩ := rv
      have na : a ≠ p := fun q => no i o z (q ▸ ev)
      exact ⟨a, rfl, (List.mem_cons.mp ha).resolve_left na, ra.grow g (eraseH_ne na)⟩
    | bor o =>
      obtain ⟨a, rfl, ha, ra⟩ := rv
      exact ⟨a, rfl, ha, ra.grow g (eraseH_ne fun q => hr.du p (List.mem_cons_self ..) (q ▸ ha))⟩
/-- one's own, one more -/
theorem RS.more {p : Addr} (r : RS C K β ω ρ U env h σ H) {u : HO} (hp : H p = none) (hu : MutO u) : RS C K β ω ρ (p :: U) env h σ (upd H p u) := by
  obtain ⟨hr, g⟩ := r.hr.adopt hp hu
  have ne : ∀ a, ms ω ρ U a → a ≠ p := fun a z q => r.hr.fresh hp (q ▸ z)
  refine ⟨hr, r.len, fun i s z => ?_, r.inj, r.bo⟩
  obtain ⟨v, ev, rv⟩ := r.sl i s z
  refine ⟨v, ev, ?_⟩
  cases s with
  | val d => exact RD.grow g rv
  | own o =>
    obtain ⟨a, rfl, ha, ra⟩ := rv
    exact ⟨a, rfl, List.mem_cons_of_mem _ ha, ra.grow g (upd_ne (ne a (.inr (.inr ha))))⟩
  | bor o =>
    obtain ⟨a, rfl, ha, ra⟩ := rv
    exact ⟨a, rfl, ha, ra.grow g (upd_ne (ne a (.inl ha)))⟩
theorem Wlk.tup {xs : List D} {gd : AH → Prop} {cp : Bool} {a : Addr} {vs : List V} (e : H a = some (.tup vs)) (r : RDs K H ρ (ms ω ρ U) xs vs) : Wlk C K ω ρ U H xs gd cp (Itt K a) where
  go := fun i x h1 ρ1 U1 H1 hr g o gh ex => by
    obtain ⟨v, ev, rv⟩ := (r.grow g.gr).get ex
    refine ⟨⟨vs, v, SqT.of (g.gr.tup _ _ e), ev⟩, fun v' H2 y => ?_⟩
    obtain ⟨rfl, y⟩ := y
    have := y vs (SqT.of (g.gr.tup _ _ e))
    rw [ev] at this; cases this
    exact ⟨hr, .refl, rv⟩
  stop := fun i h1 ρ1 U1 H1 hr g o gh ex => ⟨vs, SqT.of (g.gr.tup _ _ e), by rw [← r.length]; exact ex⟩
/-- a walk of a value -/
theorem Wlk.val {x : VV} {v : V} {xs : List D} {cp : Bool} (hr : HR C K ω ρ U h H) (rx : RV C K ω ρ U H x v) (ncp : cp = true ∨ ∀ o, x ≠ .tw o) (e : x.seq h = some xs) :
    ∃ a, v = .ref a ∧ (((∃ vs, SqL K H a vs) ∧ Wlk C K ω ρ U H xs (fun h => x.seq h = some xs) cp (Itl K a)) ∨ ((∃ vs, SqT K H a vs) ∧ Wlk C K ω ρ U H xs (fun h => x.seq h = some xs) cp (Itt K a))) := by
  cases x with
  | d d =>
    cases d with
    | tup ds =>
      cases rx with
      | tup s q =>
      cases e
      exact ⟨_, rfl, .inr ⟨⟨_, SqT.of s⟩, .tup s q⟩⟩
    | fz ds =>
      cases rx with
      | fz s q =>
      cases e
      exact ⟨_, rfl, .inl ⟨⟨_, s.sq⟩, .lst fun h1 ρ1 U1 H1 hr g o gh => ⟨_, (g.gr.fzL s).sq, q.grow g.gr⟩⟩⟩
    | ref n =>
      cases rx with
      | ref hn =>
      obtain ⟨a, vs, ea, s, q⟩ := RV.list hr (x := .d (.ref n)) (RD.ref hn) e
      cases ea
      refine ⟨_, rfl, .inl ⟨⟨vs, s⟩, .lst fun h1 ρ1 U1 H1 hr g o gh => ?_⟩⟩
      obtain ⟨a2, vs2, ea2, s2, q2⟩ := RV.list hr (x := .d (.ref n)) (RD.ref (g.gr.pre _ _ hn)) gh
      cases ea2
      exact ⟨vs2, s2, q2⟩
    | _ => cases e
  | tw o =>
    cases o with
    | lst ds =>
      obtain ⟨a, rfl, ha, vs, h1, h2⟩ := rx
      cases e
      rcases ncp with rfl | ncp
      · exact ⟨a, rfl, .inl ⟨⟨vs, SqL.of h1⟩, .lst fun h1' ρ1 U1 H1 hr g o gh => ⟨vs, SqL.of ((o rfl a ha).trans h1), h2.grow g.gr⟩⟩⟩
      · exact absurd rfl (ncp _)
    | _ => cases e
  | bw o =>
    cases o with
    | lst ds =>
      obtain ⟨a, rfl, ha, vs, h1, h2⟩ := rx
      cases e
      exact ⟨a, rfl, .inl ⟨⟨vs, SqL.of h1⟩, .lst fun h1' ρ1 U1 H1 hr g o gh => ⟨vs, SqL.of ((g.own a ha).trans h1), h2.grow g.gr⟩⟩⟩
    | _ => cases e
theorem RDs.rg {m : Addr → Prop} (lo : Int) : ∀ n : Nat, RDs K H ρ m (rgD lo n) ((List.range n).map fun (k : Nat) => V.int (lo + (k : Int))) := by
  intro n
  unfold rgD
  induction List.range n with
  | nil => exact .nil
  | cons a r ih => exact .cons (.int _) ih
theorem Wlk.rg {gd : AH → Prop} {cp : Bool} {lo : Int} {n : Nat} : Wlk C K ω ρ U H (rgD lo n) gd cp (Itr lo n) where
  go := fun i x h1 ρ1 U1 H1 hr g o gh ex => by
    have hi : i < n := by
      have := (List.getElem?_eq_some_iff.mp ex).1
      simpa [rgD] using this
    refine ⟨hi, fun v' H2 y => ?_⟩
    obtain ⟨rfl, rfl⟩ := y
    have : x = .int (lo + (i : Int)) := by
      simp [rgD, List.getElem?_map, hi] at ex
      exact ex.symm
    subst this
    exact ⟨hr, .refl, .int _⟩
  stop := fun i h1 ρ1 U1 H1 hr g o gh ex => by
    show n ≤ i
    simpa [rgD] using ex
end
end G

set_option maxHeartbeats 4000000
/-! Core9: comprehensions; the mutual theorem on expressions. -/
namespace G
open PySem PySem.Spec PyProof.Rows L2

section
variable {C : Nat → Addr} {K : PySem.W.Frag} {ω ρ U : List Addr} {β : Nat → Option Addr} {env : Ev} {h : AH} {σ : L2.St} {H : Hp}
/-- one's own that no slot holds is changed -/
theorem RS.writeX (r : RS C K β ω ρ U env h σ H) {a : Addr} (ha : a ∈ U) {u : HO} (hu : MutO u) (no : ∀ (i : Nat) (o : AO), env[i]? = some (some (Sl.own o)) → σ[i]? ≠ some (some (V.ref a))) :
    RS C K β ω ρ U env h σ (upd H a u) ∧ Grow H ρ (ms ω ρ U) (upd H a u) ρ (ms ω ρ U) := by
  obtain ⟨hr, g⟩ := r.hr.write ha hu
  refine ⟨⟨hr, r.len, fun i s z => ?_, r.inj, r.bo⟩, g⟩
  obtain ⟨v, ev, rv⟩ := r.sl i s z
  refine ⟨v, ev, ?_⟩
  cases s with
  | val d => exact RD.grow g rv
  | own o =>
    obtain ⟨b, rfl, hb, rb⟩ := rv
    exact ⟨b, rfl, hb, rb.grow g (upd_ne fun q => no i o z (q ▸ ev))⟩
  | bor o =>
    obtain ⟨b, rfl, hb, rb⟩ := rv
    exact ⟨b, rfl, hb, rb.grow g (upd_ne fun q => r.hr.du a ha (q ▸ hb))⟩
end
/-- in a comprehension nothing is raised -/
abbrev W0 : WX := fun _ _ _ _ => False
section
variable {C : Nat → Addr} {Γ : GM} {nm : NT} {cs : Nat → Option (Str × D)} {k : Nat} {N : List Str}
theorem CC.blk {X : Cx} (c : CC C Γ nm cs k N X) (s : Shared) (H : Hp) (scope : Scope) (Cd : Addr) (cl : List (Str × Addr)) (fp : List Addr) : CC C Γ nm cs k N (X.blk s H scope (compEnvC scope cl Cd X.env) fp) :=
  ⟨c.hN, c.calm, c.room, c.nd, c.fns, c.cst, c.blt, c.exn, c.exc, c.exl, c.cls, c.mth, c.mks, c.srt⟩
theorem hT_blk {X : Cx} (s : Shared) (H : Hp) (scope : Scope) (Cd : Addr) (cl : List (Str × Addr)) (fp : List Addr) : ∀ x, locB scope x = true →
    Loc (X.blk s H scope (compEnvC scope cl Cd X.env) fp).env.scope x ∧ ((X.blk s H scope (compEnvC scope cl Cd X.env) fp).fn x = true ∨ (X.blk s H scope (compEnvC scope cl Cd X.env) fp).env.scope.names.lookup x = some .local) := fun x h => by
  have e : (X.blk s H scope (compEnvC scope cl Cd X.env) fp).env.scope = relS scope X.env.scope := rfl
  rcases locB_ok h with z | z
  · have q : (relS scope X.env.scope).names.lookup x = some .local := lookup_relS_keep (by decide) z
    rw [e]
    exact ⟨.inl q, .inr q⟩
  · have q : (relS scope X.env.scope).names.lookup x = some .cell := lookup_relS_keep (by decide) z
    refine ⟨by rw [e]; exact .inr q, .inl ?_⟩
    show (scope.names.lookup x == some .cell) = true
    rw [z]; rfl
theorem lc_ok {X : Cx} {W : WX} {it : CI} {g : CG} {ifsC : CTs} {el : CE} {elt tg iter : Expr} {ifs : List Expr} {scope : Scope} {own : List (Str × Nat)} {pos : Pos} (hc : X.calm = true) (hN : X.N.Nodup)
    (hi : PI X tg iter (tI C X.K W Γ (cval cs) it true)) (ok : BlkOk X.N X.env.scope scope own) (hown : own.map (·.2) = g.slots)
    (hg : ∀ (s : Shared) (H : Hp) (Cd : Addr) (cl : List (Str × Addr)) (fp : List Addr), PG (X.blk s H scope (compEnvC scope cl Cd X.env) fp) tg (gR X.K g))
    (ht : ∀ (s : Shared) (H : Hp) (Cd : Addr) (cl : List (Str × Addr)) (fp : List Addr), PTs (X.blk s H scope (compEnvC scope cl Cd X.env) fp) ifs (tTs C X.K W0 Γ (cval cs) ifsC))
    (he : ∀ (s : Shared) (H : Hp) (Cd : Addr) (cl : List (Str × Addr)) (fp : List Addr), PE (X.blk s H scope (compEnvC scope cl Cd X.env) fp) elt (tE C X.K W0 Γ (cval cs) el))
    {σ : L2.St} {H : Hp} {Q : VK} (hq : tL C X.K W Γ (cval cs) (.lc it g ifsC el) σ H Q) : tLc (tI C X.K W Γ (cval cs) it true) (gR X.K g) (tTs C X.K W0 Γ (cval cs) ifsC) (tE C X.K W0 Γ (cval cs) el) (own.map (·.2)) σ H Q := by
  rw [hown]
  obtain ⟨ω, β, ρ, U, env, h, Q', X', rs, w, hq, hx⟩ := hq
  refine ⟨ω, β, ρ, U, env, h, _, X', rs, w, fun xs gd J h1 ρ1 H1 rs1 g1 wk w1 D hD => ?_, hx⟩
  have no : ∀ (i : Nat) (o : AO), env[i]? = some (some (Sl.own o)) → σ[i]? ≠ some (some (V.ref D)) := fun i o e z => by
    obtain ⟨v, ev, a, rfl, ha, ra⟩ := rs1.sl i _ e
    rw [z] at ev; cases ev
    obtain ⟨u, hu, _⟩ := ra.kind
    rw [hD] at hu; cases hu
  have nU : D ∉ U := fun z => rs1.hr.fresh hD (.inr (.inr z))
  refine ⟨fun i m Hc => i ≤ xs.length ∧ m = xs.length - i ∧ ∃ ρ2 h2 acc accV, RS C X.K β ω ρ2 (D :: U) env h2 σ Hc ∧ SStp ω H1 ρ1 U Hc ρ2 (D :: U) ∧ (∀ a ∈ U, Hc a = H1 a) ∧ Hc D = some (.lst accV) ∧
    RDs X.K Hc ρ2 (ms ω ρ2 (D :: U)) acc accV ∧ lcW gd (wipeE env g.slots) g (fun env' h Q => wpTs Γ (cval cs) ifsC env' h Q fun _ _ => False) (fun env' h Q => wpE Γ (cval cs) el env' h Q fun _ _ => False) (xs.drop i) acc h2 Q', ?_, ?_⟩
  · refine ⟨xs.length, Nat.zero_le _, rfl, ρ1, h1, [], [], rs1.more hD (.lst _), ⟨(rs1.hr.adopt hD (.lst _)).2, fun a ha => upd_ne fun z => rs1.hr.fresh hD (.inl (z ▸ ha))⟩, fun a ha => upd_ne fun z => nU (z ▸ ha), upd_same, .nil, w1⟩
  · rintro i m Hc ⟨hi1, rfl, ρ2, h2, acc, accV, rs2, g2, o2, eD, rac, w2⟩
    by_cases hlt : i < xs.length
    · obtain ⟨x, ex⟩ : ∃ x, xs[i]? = some x := ⟨_, List.getElem?_eq_getElem hlt⟩
      have ed : xs.drop i = x :: xs.drop (i + 1) := by
        rw [List.drop_eq_getElem_cons hlt]
        rw [List.getElem?_eq_getElem hlt] at ex
        rw [Option.some.inj ex]
      rw [ed] at w2
      obtain ⟨gdh, w2⟩ := w2
      obtain ⟨jgo, jy⟩ := wk.go i x h2 ρ2 (D :: U) Hc rs2.hr g2 (fun _ => o2) gdh ex
      refine .inr ⟨jgo, fun H' => ∃ m', m' < xs.length - i ∧ (i + 1 ≤ xs.length ∧ m' = xs.length - (i + 1) ∧ ∃ ρ2 h2 acc accV, RS C X.K β ω ρ2 (D :: U) env h2 σ H' ∧ SStp ω H1 ρ1 U H' ρ2 (D :: U) ∧ (∀ a ∈ U, H' a = H1 a) ∧ H' D = some (.lst accV) ∧
        RDs X.K H' ρ2 (ms ω ρ2 (D :: U)) acc accV ∧ lcW gd (wipeE env g.slots) g (fun env' h Q => wpTs Γ (cval cs) ifsC env' h Q fun _ _ => False) (fun env' h Q => wpE Γ (cval cs) el env' h Q fun _ _ => False) (xs.drop (i + 1)) acc h2 Q'), fun H' z => z, fun v H2 y => ?_⟩
      obtain ⟨hr2, st2, rdx⟩ := jy v H2 y
      have rsH2 : RS C X.K β ω ρ2 (D :: U) env h2 σ H2 := rs2.step hr2 st2
      refine g_ok (wipe_rs rsH2 g.slots) rdx w2 fun env' σ' rs' hk hl w3 => ⟨?_, ?_⟩
      · rw [wipe_eq hl hk, wipe_wipe]
      · refine ⟨ω, β, ρ2, D :: U, env', h2, _, _, rs', w3, fun b b' h3 ρ3 H3 rs3 g3 eb w4 => ?_, fun _ _ _ _ _ _ _ _ _ z => z⟩
        subst eb
        have fin : ∀ (h5 : AH) (ρ5 : List Addr) (H5 : Hp), RS C X.K β ω ρ5 (D :: U) env' h5 σ' H5 → Stp ω (D :: U) H2 ρ2 H5 ρ5 → RS C X.K β ω ρ5 (D :: U) env h5 σ H5 ∧ SStp ω H1 ρ1 U H5 ρ5 (D :: U) ∧ (∀ a ∈ U, H5 a = H1 a) ∧ H5 D = some (.lst accV) ∧ RDs X.K H5 ρ5 (ms ω ρ5 (D :: U)) acc accV := fun h5 ρ5 H5 rs5 g5 =>
          ⟨rsH2.step rs5.hr g5, g2.trans (st2.trans g5).s, fun a ha => ((st2.trans g5).own a (.inr (List.mem_cons_of_mem _ ha))).trans (o2 a ha), ((st2.trans g5).own D (.inr (List.mem_cons_self ..))).trans eD, rac.grow (st2.trans g5).gr⟩
        cases b with
        | false =>
          rw [if_neg (by decide)] at w4 ⊢
          obtain ⟨a1, a2, a3, a4, a5⟩ := fin h3 ρ3 H3 rs3 g3
          exact ⟨_, by omega, by omega, rfl, ρ3, h3, acc, accV, a1, a2, a3, a4, a5, w4⟩
        | true =>
          rw [if_pos rfl] at w4 ⊢
          refine ⟨ω, β, ρ3, D :: U, env', h3, _, _, rs3, w4, fun d v4 h4 ρ4 H4 rs4 g4 rv w5 => ?_, fun _ _ _ _ _ _ _ _ _ z => z⟩
          obtain ⟨yd, rfl, hlen, w5⟩ := w5
          obtain ⟨a1, a2, a3, a4, a5⟩ := fin h4 ρ4 H4 rs4 (g3.trans g4)
          have mD : D ∈ D :: U := List.mem_cons_self ..
          obtain ⟨b1, b2⟩ := a1.writeX mD (.lst (accV ++ [v4])) no
          refine ⟨accV, a4, by rw [← a5.length]; exact hlen, _, by omega, by omega, rfl, ρ4, h4, _, _, b1, a2.trans ⟨b2, fun a ha => upd_ne fun z => a1.hr.du D mD (z ▸ ha)⟩, fun a ha => (upd_ne fun z => by subst z; exact nU ha).trans (a3 a ha), upd_same, (a5.append (.cons rv .nil)).grow b2, w5⟩
    · have e0 : xs.drop i = [] := List.drop_eq_nil_of_le (by omega)
      rw [e0] at w2
      obtain ⟨gdh, w2⟩ := w2
      refine .inl ⟨wk.stop i h2 ρ2 (D :: U) Hc rs2.hr g2 (fun _ => o2) gdh (by omega), ?_⟩
      have ge : Grow Hc ρ2 (ms ω ρ2 (D :: U)) (eraseH Hc D) ρ2 (ms ω ρ2 U) := .erase eD
      have nω : D ∉ ω := fun z => rs1.hr.fresh hD (.inl z)
      have q := hq acc accV h2 ρ2 (eraseH Hc D) (rs2.erase nU no eD) (g1.trans ⟨g2.gr.trans ge, fun a ha => by
        rcases ha with ha | ha
        · rw [eraseH_ne (fun z => by subst z; exact nω ha)]; exact g2.own a ha
        · rw [eraseH_ne (fun z => by subst z; exact nU ha)]; exact o2 a ha⟩) (rac.grow ge) w2 D eraseH_same
      rw [eraseH_upd eD] at q
      exact q
end

/-! ### the heap's objects: made, changed -/
section
variable {C : Nat → Addr} {K : PySem.W.Frag} {ω ρ U : List Addr} {h : AH} {H : Hp}
theorem ms_snoc {p a : Addr} : ms ω (ρ ++ [p]) U a ↔ a = p ∨ ms ω ρ U a := by
  unfold ms
  simp only [List.mem_append, List.mem_cons, List.not_mem_nil, or_false]
  constructor
  · rintro (h | (h | h) | h)
    · exact .inr (.inl h)
    · exact .inr (.inr (.inl h))
    · exact .inl h
    · exact .inr (.inr (.inr h))
  · rintro (h | h | h | h)
    · exact .inr (.inl (.inr h))
    · exact .inl h
    · exact .inr (.inl (.inl h))
    · exact .inr (.inr h)
theorem HR.growA (r : HR C K ω ρ U h H) {p : Addr} (hp : H p = none) (u : HO) : Grow H ρ (ms ω ρ U) (upd H p u) (ρ ++ [p]) (ms ω (ρ ++ [p]) U) :=
  ⟨fun a xs e => by rw [upd_ne (ne_of_none e hp)]; exact e, fun a o v e => by rw [upd_ne (ne_of_none e hp)]; exact e,
    fun n a e => by rw [List.getElem?_append_left (List.getElem?_eq_some_iff.mp e).1]; exact e,
    fun a xs e n => ⟨by rw [upd_ne (ne_of_none e hp)]; exact e, fun z => (ms_snoc.mp z).elim (ne_of_none e hp) n⟩⟩
/-- a new object of the core's heap -/
theorem HR.alloc (r : HR C K ω ρ U h H) {p : Addr} (hp : H p = none) {u : HO} (hu : MutO u) {o : AO} (ro : RO C K (upd H p u) (ρ ++ [p]) (ms ω (ρ ++ [p]) U) o p) :
    HR C K ω (ρ ++ [p]) U (h ++ [o]) (upd H p u) ∧ Stp ω U H ρ (upd H p u) (ρ ++ [p]) := by
  have nm := r.fresh hp
  have ne : ∀ a, ms ω ρ U a → a ≠ p := fun a z e => nm (e ▸ z)
  have g := r.growA hp u
  refine ⟨⟨by simp [r.lh], fun n o' e => ?_, ?_, fun a ha => ?_, r.du, fun a z => ?_⟩, g, fun a z => upd_ne (ne a (z.elim .inl fun q => .inr (.inr q)))⟩
  · by_cases hn : n < h.length
    · rw [List.getElem?_append_left hn] at e
      obtain ⟨a, e1, r1⟩ := r.hp n o' e
      exact ⟨a, g.pre n a e1, r1.grow g (upd_ne (ne a (.inr (.inl (List.mem_of_getElem? e1)))))⟩
    · have hn' : n = h.length := by
        have := (List.getElem?_eq_some_iff.mp e).1
        simp at this; omega
      subst hn'
      rw [List.getElem?_append_right (Nat.le_refl _)] at e
      simp at e
      subst e
      exact ⟨p, by rw [r.lh, List.getElem?_append_right (Nat.le_refl _)]; simp, ro⟩
  · rw [List.nodup_append]
    exact ⟨r.nd, by simp, by rintro a ha b hb rfl; simp at hb; subst hb; exact ne a (.inr (.inl ha)) rfl⟩
  · rcases List.mem_append.mp ha with ha | ha
    · exact r.dj a ha
    · simp at ha; subst ha
      exact ⟨fun z => nm (.inl z), fun z => nm (.inr (.inr z))⟩
  · rcases ms_snoc.mp z with z | z
    · subst z; exact ⟨u, upd_same, hu⟩
    · rw [upd_ne (ne a z)]; exact r.pr a z
/-- an object of the core's heap is changed -/
theorem HR.mut (r : HR C K ω ρ U h H) {n : Nat} {a : Addr} {u : HO} (hn : ρ[n]? = some a) (hu : MutO u) {o : AO} (ro : Grow H ρ (ms ω ρ U) (upd H a u) ρ (ms ω ρ U) → RO C K (upd H a u) ρ (ms ω ρ U) o a) :
    HR C K ω ρ U (h.set n o) (upd H a u) ∧ Stp ω U H ρ (upd H a u) ρ := by
  have haρ : a ∈ ρ := List.mem_of_getElem? hn
  have hm : ms ω ρ U a := .inr (.inl haρ)
  obtain ⟨u0, e0, m0⟩ := r.pr a hm
  have g : Grow H ρ (ms ω ρ U) (upd H a u) ρ (ms ω ρ U) :=
    ⟨fun b xs e => by rw [upd_ne (fun z => by subst z; rw [e0] at e; exact m0.1 _ (Option.some.inj e))]; exact e,
      fun b o v e => by rw [upd_ne (fun z => by subst z; rw [e0] at e; exact m0.2 _ _ (Option.some.inj e))]; exact e, fun _ _ e => e,
      fun b xs e n => ⟨by rw [upd_ne (fun z => by subst z; exact n hm)]; exact e, n⟩⟩
  have hln : n < h.length := by rw [r.lh]; exact (List.getElem?_eq_some_iff.mp hn).1
  refine ⟨⟨by simp [r.lh], fun m o' e => ?_, r.nd, r.dj, r.du, fun b z => ?_⟩, g, fun b hb => upd_ne fun z => ?_⟩
  · by_cases hmn : m = n
    · subst hmn
      rw [List.getElem?_set_self hln] at e
      cases e
      exact ⟨a, hn, ro g⟩
    · rw [List.getElem?_set_ne (Ne.symm hmn)] at e
      obtain ⟨b, e1, r1⟩ := r.hp m o' e
      refine ⟨b, e1, r1.grow g (upd_ne fun z => hmn ?_)⟩
      subst z
      exact (List.getElem?_inj (List.getElem?_eq_some_iff.mp e1).1 r.nd).mp (e1.trans hn.symm)
  · by_cases hb : b = a
    · subst hb; exact ⟨u, upd_same, hu⟩
    · rw [upd_ne hb]; exact r.pr b z
  · subst z
    exact hb.elim (r.dj _ haρ).1 (r.dj _ haρ).2
theorem hL_ok (r : HR C K ω ρ U h H) {x : VV} {v : V} {n : Nat} {xs : List D} (rv : RV C K ω ρ U H x v) (e : hL h x = some (n, xs)) :
    ∃ a vs, v = .ref a ∧ x = .d (.ref n) ∧ ρ[n]? = some a ∧ h[n]? = some (.lst xs) ∧ H a = some (.lst vs) ∧ RDs K H ρ (ms ω ρ U) xs vs := by
  unfold hL at e
  split at e
  · rename_i m
    split at e
    · rename_i ys e2
      cases e
      cases rv with
      | ref hn =>
      obtain ⟨a, e1, vs, h1, h2⟩ := r.hp _ _ e2
      rw [hn] at e1
      cases e1
      exact ⟨_, vs, rfl, rfl, hn, e2, h1, h2⟩
    · cases e
  · cases e
/-- a list of the core's heap is changed -/
theorem HR.mutL (r : HR C K ω ρ U h H) {n : Nat} {a : Addr} {xs : List D} {vs : List V} (hn : ρ[n]? = some a) (q : RDs K H ρ (ms ω ρ U) xs vs) : HR C K ω ρ U (h.set n (.lst xs)) (upd H a (.lst vs)) ∧ Stp ω U H ρ (upd H a (.lst vs)) ρ :=
  r.mut hn (.lst vs) fun g => ⟨vs, upd_same, q.grow g⟩
theorem RDs.eraseIdx {m : Addr → Prop} : ∀ {ds : List D} {vs : List V} (i : Nat), RDs K H ρ m ds vs → RDs K H ρ m (ds.eraseIdx i) (vs.eraseIdx i)
  | _, _, _, .nil => .nil
  | _, _, 0, .cons _ t => t
  | _, _, i + 1, .cons r t => .cons r (RDs.eraseIdx i t)
theorem RDs.dropLast {m : Addr → Prop} {ds : List D} {vs : List V} (r : RDs K H ρ m ds vs) : RDs K H ρ m ds.dropLast vs.dropLast := by
  rw [List.dropLast_eq_take, List.dropLast_eq_take, r.length]
  exact r.take _
theorem base_ok {o : Expr} {name : Str} {env : Env} (h : plainOb o = true) : attributeBase o name env (eval o env) = eval o env := by
  cases o <;> first | rfl | cases h
/-- an instance of the core's heap -/
theorem ins_ok (r : HR C K ω ρ U h H) {v : V} {n c : Nat} {fs : List (Str × D)} (rv : RV C K ω ρ U H (.d (.ref n)) v) (e : h[n]? = some (.ins c fs)) : ∃ a dx ws, v = .ref a ∧ ρ[n]? = some a ∧ H a = some (.ins (C c) dx ws) ∧ RK K H ρ (ms ω ρ U) fs ws := by
  cases rv with
  | ref hn =>
  obtain ⟨a, e1, dx, ws, h1, h2⟩ := r.hp _ _ e
  rw [hn] at e1
  cases e1
  exact ⟨_, dx, ws, rfl, hn, h1, h2⟩
theorem RK.look {m : Addr → Prop} {f : Str} {d : D} : ∀ {fs : List (Str × D)} {ws : List (Str × V)}, RK K H ρ m fs ws → fs.lookup f = some d → ∃ v, ws.lookup f = some v ∧ RD K H ρ m d v := by
  intro fs ws r
  unfold RK at r
  induction r with
  | nil => intro e; cases e
  | @cons p q ps qs z t ih =>
    intro e
    obtain ⟨k1, d1⟩ := p
    obtain ⟨k2, v1⟩ := q
    obtain ⟨rfl, rd⟩ := z
    rw [List.lookup_cons] at e ⊢
    by_cases hf : (f == k1) = true
    · rw [hf] at e ⊢
      cases e
      exact ⟨v1, rfl, rd⟩
    · rw [Bool.not_eq_true] at hf
      rw [hf] at e ⊢
      exact ih e
theorem RK.lookN {m : Addr → Prop} {f : Str} : ∀ {fs : List (Str × D)} {ws : List (Str × V)}, RK K H ρ m fs ws → fs.lookup f = none → ws.lookup f = none := by
  intro fs ws r
  unfold RK at r
  induction r with
  | nil => intro _; rfl
  | @cons p q ps qs z t ih =>
    intro e
    obtain ⟨k1, d1⟩ := p
    obtain ⟨k2, v1⟩ := q
    obtain ⟨rfl, rd⟩ := z
    rw [List.lookup_cons] at e ⊢
    by_cases hf : (f == k1) = true
    · rw [hf] at e; cases e
    · rw [Bool.not_eq_true] at hf
      rw [hf] at e ⊢
      exact ih e
theorem RK.putF {m : Addr → Prop} {f : Str} {d : D} {v : V} (rd : RD K H ρ m d v) : ∀ {fs : List (Str × D)} {ws : List (Str × V)}, RK K H ρ m fs ws → RK K H ρ m (putFD f d fs) (L2.putF f v ws) := by
  intro fs ws r
  unfold RK at r
  induction r with
  | nil => exact .cons ⟨rfl, rd⟩ .nil
  | @cons p q ps qs z t ih =>
    obtain ⟨k1, d1⟩ := p
    obtain ⟨k2, v1⟩ := q
    obtain ⟨rfl, rd1⟩ := z
    unfold putFD L2.putF
    by_cases hf : k1 = f
    · simp only [if_pos hf]
      exact .cons ⟨rfl, rd⟩ t
    · simp only [if_neg hf]
      exact .cons ⟨rfl, rd1⟩ ih
theorem RK.len {m : Addr → Prop} {κ : Type} {fs : List (κ × D)} {ws : List (κ × V)} (r : RK K H ρ m fs ws) : fs.length = ws.length := Paired.length r
end

/-! ### {k: v} with one tuple as its key; setdefault with a tuple as its key -/
section
variable {X : Cx} {pos : Pos} {k v : Expr} {tk tv : TE}
def tDisp1T (tk tv : TE) : TE := fun σ H Q => ∀ p, H p = none → tk σ (upd H p (.dT [])) fun x Ha => tv σ Ha fun y Hb => Hb p = some (.dT []) ∧ ∃ b ks, x = .ref b ∧ Hb b = some (.tup (ks.map kV)) ∧ Q (.ref p) (upd Hb p (.dT [(ks, y)]))
theorem pe_disp1T (hu : X.A.units + 1 < cLine) (hk : PE X k tk) (hv : PE X v tv) : PE X (.Dict [some k] [v] pos) (tDisp1T tk tv) := by
  refine ⟨fun pn s σ H Q I q => ?_⟩
  have hnw := I.hok.fresh (Nat.le_refl s.heap.objs.size)
  have Ia := I.laid (a := s.heap.objs.size) (o := .dT []) (h' := s.heap.push { cls := .type "dict", data := .dict #[] }) (t' := s.toks) (fun _ _ q => Heap.get?_push_of_some _ q) (Nat.le_refl _) (dt_empty s.heap I.big)
  have hq := q _ hnw
  rw [arm_eval_Dict, zip_pairTrees [some k] [v] X.env pos rfl rfl, dictDisplay_pairs (pairTrees [some k] [v] X.env pos) (by simp [pairTrees]) (by simp [pairTrees])]
  refine wpAny_bind (wpAny_standAt (wpAny_bind ?_))
  unfold subDict
  refine wpAny_bind (wpAny_alloc ?_)
  refine wpAny_bind (wpAny_holding ?_)
  rw [if_pos (show (pairTrees [some k] [v] X.env pos).length ≤ 15 from by simp [pairTrees])]
  refine wpAny_bind (pairTrees_cons_walk (thn (hk.run pn _ σ _ _ Ia hq) fun u sa ⟨x, Ha, Ib, rx, qa⟩ => thn (hv.run pn sa σ Ha _ Ib qa) fun w2 sb ⟨y, Hb, Ic, ry, e, b, ks, ex, eb, qb⟩ => pairTrees_nil_walk ?_))
  subst ex
  cases (show u = Value.ref b from rx)
  obtain ⟨z, hsm, xs, rl, dk⟩ := dt_of Ic.hok e
  have hx : xs = [] := by cases rl; rfl
  subst hx
  refine wpAny_holding ?_
  rw [List.forIn_cons]
  refine wpAny_bind (wpAny_bind (wpAny_bind (wpAny_dictSet_heap (hsz := by rw [sizeLine_eq]; simp) (show X.A.units < cLine from Nat.lt_of_succ_lt hu) (key_of Ic.hok eb) dk fun h' dk' hs => wpAny_pure ?_)))
  dsimp only
  rw [List.forIn_nil]
  refine wpAny_pure (wpAny_pure (wpAny_pure (wpAny_pure ?_)))
  refine ⟨.ref s.heap.objs.size, _, ?_, rfl, qb⟩
  obtain ⟨q0, es, ep, hq0, h2, h3, h4, _, h5⟩ := dk'
  have hl : (putK ([] : List (List Key × V)) ks y).length ≤ sizeLine := by have := length_putK ([] : List (List Key × V)) ks y; rw [sizeLine_eq]; simp at this ⊢; omega
  refine d_write Ic (by rw [e]; exact True.intro) hs ⟨q0, hq0⟩ ⟨hl, hsm, _, (rl.put ks eb ry).keeps fun c ys ec => ?_, q0, es, ep, hq0, h2, h3, h4, h5⟩
  rw [upd_ne (ne_of ec e (fun z => nomatch z))]
  exact ec
/-- d.setdefault(y, z), whatever the keys -/
def tDSetdA (td ty tx : TE) : TE := fun σ H Q => td σ H fun x Ha => ∃ a, x = .ref a ∧ IsD Ha a ∧ ty σ Ha fun y Hb => tx σ Hb fun z Hc =>
  (∃ (kvs : List (Key × V)) (k : Key), Hc a = some (.dK kvs) ∧ y = kV k ∧ kvs.length < sizeLine ∧ (∀ v, valV kvs k = some v → Q v Hc) ∧ (valV kvs k = none → Q z (upd Hc a (.dK (putK kvs k z))))) ∨
  (∃ (kvs : List (List Key × V)) (k : List Key) (b : Addr), Hc a = some (.dT kvs) ∧ y = .ref b ∧ Hc b = some (.tup (k.map kV)) ∧ kvs.length < sizeLine ∧ (∀ v, valV kvs k = some v → Q v Hc) ∧ (valV kvs k = none → Q z (upd Hc a (.dT (putK kvs k z)))))
theorem d_setdT {A : Around} {E : Value → Shared → Prop} {pn : List (Addr × Obj)} {σ : L2.St} {H : Hp} {s : Shared} {a b : Addr} {r : Value} {d : V} {kk : List Key} {kvs : List (List Key × V)} {Q : Value → Shared → Prop} (hu : A.units + 1 < cLine) (I : Inv X pn σ H s) (e : H a = some (.dT kvs)) (eb : H b = some (.tup (kk.map kV))) (rd : RelV d r) (hl : kvs.length < sizeLine)
    (h1 : ∀ v, valV kvs kk = some v → ∀ (w' : Value) (s' : Shared), Inv X pn σ H s' → RelV v w' → Q w' s') (h2 : valV kvs kk = none → ∀ (w' : Value) (s' : Shared), Inv X pn σ (upd H a (.dT (putK kvs kk d))) s' → RelV d w' → Q w' s') :
    wpAny (model X.prog X.w) A (call (.builtin "dict.setdefault") [.ref a, .ref b, r]) Q E s := by
  obtain ⟨z, hsm, xs, rl, dk⟩ := dt_of I.hok e
  have hz : xs.length ≤ sizeLine := by rw [← Paired.length rl]; exact z
  refine call_meetsIn PySem.F.slot_dict_setdefault dk.typeIs PySem.F.entry_dict_setdefault (PySem.F.args_dict_setdefault_3 _ _ _) (meetsH_dict_setdefault (tupleKind (mixKind X.prog X.w)) a b hsm r) ⟨tupleKind_room_in1 hu, kk, xs, key_of I.hok eb, dk, hz, fun p hp => ?_, fun hnw h' dk' hs => ?_⟩
  · have q := rl.val kk
    rw [show (atKey xs kk).map (·.2) = some p.2 from by rw [hp]; rfl] at q
    cases q0 : valV kvs kk with
    | none => rw [q0] at q; exact (show False from q).elim
    | some v0 => rw [q0] at q; exact h1 v0 q0 _ _ (I.tok _) q
  · have q := rl.val kk
    rw [show (atKey xs kk).map (·.2) = none from by rw [hnw]; rfl] at q
    cases q0 : valV kvs kk with
    | some v0 => rw [q0] at q; exact (show False from q).elim
    | none =>
      have hl2 : (putK kvs kk d).length ≤ sizeLine := by
        have := length_putK kvs kk d
        omega
      obtain ⟨qa, es, ep, hq, g2, g3, g4, _, g5⟩ := dk'
      refine h2 q0 _ _ (d_write I (by rw [e]; exact True.intro) hs ⟨qa, hq⟩ ⟨hl2, hsm, _, (rl.put kk eb rd).keeps fun c ys ec => ?_, qa, es, ep, hq, g2, g3, g4, g5⟩) rd
      rw [upd_ne (ne_of ec e (fun z => nomatch z))]
      exact ec
theorem pe_dsetdA {o e f : Expr} {td ty tx : TE} {apos cpos : Pos} (hu : X.A.units + 1 < cLine) (ho : PE X o td) (he : PE X e ty) (hf : PE X f tx) (m : M2 X o "setdefault" apos e f cpos) : PE X (.Call (.Attribute o "setdefault" apos) [e, f] [] cpos) (tDSetdA td ty tx) := by
  refine ⟨fun pn s σ H Q I h => ?_⟩
  refine wpAny_Call_method m.base m.few m.line PySem.F.plainAttrs_dict PySem.F.slot_dict_setdefault PySem.F.type_dict_setdefault (thn (ho.run pn s σ H _ I h) fun u sa ⟨x, Ha, Ia, rx, a, ex, d, qa⟩ => ?_)
  subst ex
  obtain rfl : u = Value.ref a := rx
  obtain ⟨ta, tb, _⟩ := isD_at Ia d
  refine ⟨ta, tb, ?_⟩
  rw [m.trees]
  refine Calls.callWith_builtin rfl (Calls.evalArgs_plain (Calls.spliced_cons (thn (he.run pn sa σ Ha _ Ia qa) fun iv sb ⟨y, Hb, Ib, ry, qb⟩ =>
    Calls.spliced_cons (thn (hf.run pn sb σ Hb _ Ib qb) fun fv sc ⟨z, Hc, Ic, rz, qc⟩ => Calls.spliced_nil ?_))))
  rcases qc with ⟨kvs, k, ea, ey, hl, qc, qd⟩ | ⟨kvs, k, b, ea, ey, eb, hl, qc, qd⟩
  · subst ey
    exact d_setd Ic ea ry rz hl (fun v hv w' sd Id rw' => ⟨v, _, Id, rw', qc v hv⟩) fun hnw w' sd Id rw' => ⟨z, _, Id, rw', qd hnw⟩
  · subst ey
    cases (show iv = Value.ref b from ry)
    exact d_setdT hu Ic ea eb rz hl (fun v hv w' sd Id rw' => ⟨v, _, Id, rw', qc v hv⟩) fun hnw w' sd Id rw' => ⟨z, _, Id, rw', qd hnw⟩
end

/-! ### methods, new instances: what they may let out by the slots -/
theorem meth_tree {o : Expr} {m : Str} {apos pos : Pos} {args : List Expr} {env : Env} (h : plainOb o = true) (hl : bmB apos pos = true) (hn : args.length < 29) (hs : (backTo pos (starEach args env)).any (·.1) = false) : eval (.Call (.Attribute o m apos) args [] pos) env = (do
    let ov ← eval o env
    standAt apos.atName
    let (f, first) ← holding [ov] (getMethod ov m (do return (← importBound o env).getD true))
    callWith pos f first (backTo pos (starEach args env)) (backToKw pos (keywordEach [] env))) := by
  have hform : methodCallForm (args.length + ([] : List Keyword).length) (backTo pos (starEach args env)) (backToKw pos (keywordEach [] env)) = true := by
    have e : (backTo pos (starEach args env)).all (fun x => !x.1) = true := by
      rw [List.all_eq_true]
      intro y hy
      have := List.any_eq_false.mp hs y hy
      simpa using this
    unfold methodCallForm
    rw [e]
    have e2 : backToKw pos (keywordEach [] env) = [] := rfl
    rw [e2]
    simp; omega
  have hpos : methodCallPos true o env apos pos = pure pos := by
    unfold methodCallPos
    have : (apos.endLine == pos.line) = true := hl
    simp [this]
  rw [arm_eval_Call, base_ok h]
  unfold methodCall
  simp only [hform, hpos, pure_bind, calleeOf, if_true]
section
variable {X : Cx} {CX : CXT} {k : Nat} {f Ca : Addr} {fd : FuncData} {ps : List Str} {sp : Sp} {E : L2.St → XK} {x m : Str} {p pos apos : Pos} {e o : Expr} {es : List Expr} {ta : TE} {t : TA}
def tMethE (Ca : Addr) (m : Str) (sp : Sp) (E : L2.St → XK) (ta : TE) (t : TA) : TE := fun σ H Q => ta σ H fun x Ha => ∃ a dx fs, x = .ref a ∧ Ha a = some (.ins Ca dx fs) ∧ fs.lookup m = none ∧ t σ Ha fun vs Hb => sp (x :: vs) Hb Q (E σ)
theorem pe_methE (hp : plainOb o = true) (he : PE X o ta) (c : Cls X.K Ca) (hm : Meth X.K Ca m f) (F : FnOk X.prog X.w X.K X.mg X.base CX k f fd ps sp) (hr : Room k X.A) (hb : Binds X.K fd ps []) (hx : ∀ σ, PassesAt CX X σ (E σ)) (ha : PA X (e :: es) t)
    (hst : starEach (e :: es) X.env = (false, eval e X.env) :: starEach es X.env) (hpl : (backTo pos (starEach es X.env)).any (·.1) = false) (hal : (backTo pos (starEach (e :: es) X.env)).any (·.1) = false) (hl : bmB apos pos = true) (hn : (e :: es).length < 29) : PE X (.Call (.Attribute o m apos) (e :: es) [] pos) (tMethE Ca m sp E ta t) := by
  have ht := meth_tree (m := m) (apos := apos) (pos := pos) (args := e :: es) (env := X.env) hp hl hn hal
  refine ⟨fun pn s σ H Q I h => ?_⟩
  refine PySem.W.methodCall_KW (thn (he.run pn s σ H _ I h) fun u sa ⟨x, Ha, Ia, rx, a, dx, fs, ex, ea, l, q⟩ => ?_) ht
  subst ex
  cases (show u = Value.ref a from rx)
  refine getmeth_ok Ia ea c hm l ?_
  refine PySem.W.callWith_K (first := [.ref a]) (h₀ := X.base) I.ok.mod.kin hm.kp (thn (ha.run pos pn sa σ Ha _ Ia q) fun us sb ⟨vs, Hb, Ib, r, qb⟩ => ⟨Ib.kIn, ?_⟩) hst hpl
  exact run_fnS (us := .ref a :: us) (vs := .ref a :: vs) F hr hb (hx σ) Ib (.cons rfl r) qb
theorem pe_methE0 (hp : plainOb o = true) (he : PE X o ta) (c : Cls X.K Ca) (hm : Meth X.K Ca m f) (F : FnOk X.prog X.w X.K X.mg X.base CX k f fd ps sp) (hr : Room k X.A) (hb : Binds X.K fd ps []) (hx : ∀ σ, PassesAt CX X σ (E σ)) (hl : bmB apos pos = true) :
    PE X (.Call (.Attribute o m apos) [] [] pos) (tMethE Ca m sp E ta tNil) := by
  have ht := meth_tree (m := m) (apos := apos) (pos := pos) (args := []) (env := X.env) hp hl (by decide) rfl
  refine ⟨fun pn s σ H Q I h => ?_⟩
  refine PySem.W.methodCall_KW (thn (he.run pn s σ H _ I h) fun u sa ⟨x, Ha, Ia, rx, a, dx, fs, ex, ea, l, q⟩ => ?_) ht
  subst ex
  cases (show u = Value.ref a from rx)
  refine getmeth_ok Ia ea c hm l ?_
  exact PySem.W.callWith_K0 (first := [.ref a]) Ia.kIn hm.kp (run_fnS (us := [.ref a]) (vs := [.ref a]) F hr hb (hx σ) Ia (.cons rfl .nil) q)
def tMakeE (Ca : Addr) (sp : Sp) (E : L2.St → XK) (t : TA) : TE := fun σ H Q => t σ H fun vs Ha => ∀ x dx, Ha x = none → Ha dx = none → dx ≠ x →
  sp (.ref x :: vs) (upd (upd Ha dx (.own x)) x (.ins Ca dx [])) (fun v Hb => v = .non ∧ Q (.ref x) Hb) (E σ)
theorem run_makeE {pn : List (Addr × Obj)} {σ : L2.St} {H : Hp} {s : Shared} {Q : VK} {us : List Value} {vs : List V} (M : Mk X.K Ca f) (F : FnOk X.prog X.w X.K X.mg X.base CX k f fd ps sp) (hr : Room (k + 1) X.A) (hb : Binds X.K fd ps [])
    (hx : PassesAt CX X σ (E σ)) (I : Inv X pn σ H s) (r : Vals vs us)
    (h : ∀ x dx, H x = none → H dx = none → dx ≠ x → sp (.ref x :: vs) (upd (upd H dx (.own x)) x (.ins Ca dx [])) (fun v Hb => v = .non ∧ Q (.ref x) Hb) (E σ)) :
    wpAny (model X.prog X.w) X.A (call (.ref Ca) us) (EP X pn σ Q) X.xe s := by
  have hq := h (s.heap.objs.size + 1) s.heap.objs.size (I.hok.fresh (Nat.le_succ _)) (I.hok.fresh (Nat.le_refl _)) (Nat.ne_of_lt (Nat.lt_succ_self _))
  have Ib := Inv.made (C := Ca) I
  have rb : Vals (V.ref (s.heap.objs.size + 1) :: vs) (Value.ref (s.heap.objs.size + 1) :: us) := .cons rfl r
  have hl : (Value.ref (s.heap.objs.size + 1) :: us).length = ps.length := (rb.length.symm).trans (F.len _ _ _ _ hq)
  have bb := hb _ (Value.ref (s.heap.objs.size + 1) :: us) Ib.kIn (by rw [List.append_nil]; exact hl)
  rw [List.append_nil] at bb
  refine wpAny_call (make_map (f := f) I.kIn M.makes M.init (beq_iff_eq.mp M.fn) (codeAny_mono (F.run _ X.stack _ _ ⟨Value.ref (s.heap.objs.size + 1) :: us, []⟩ (Value.ref (s.heap.objs.size + 1) :: us) _ _ (E σ) (hr.make Ca us [])
    (Ib.env0.make Ca us []) bb rb hq) fun z s' hz => ?_))
  cases z with
  | error e => exact hx pn _ _ e s' Ib hz
  | ok fl =>
    cases fl with
    | ret u =>
      obtain ⟨v, H', Ic, rv, ev, qc⟩ := Ib.after hz
      subst ev
      exact ⟨rv, ⟨V.ref (s.heap.objs.size + 1), H', Ic, rfl, qc⟩⟩
    | next => exact False.elim hz
    | brk => exact False.elim hz
    | cont => exact False.elim hz
theorem pe_makeE (M : Mk X.K Ca f) (F : FnOk X.prog X.w X.K X.mg X.base CX k f fd ps sp) (hr : Room (k + 1) X.A) (hg : Gl X x) (hm : X.mg x = some (.ref Ca)) (hb : Binds X.K fd ps []) (hx : ∀ σ, PassesAt CX X σ (E σ))
    (ha : PA X (e :: es) t) (hdb : (x == ("__debug__" : Str)) = false) (he : starEach (e :: es) X.env = (false, eval e X.env) :: starEach es X.env) (hpl : (backTo pos (starEach es X.env)).any (·.1) = false) :
    PE X (.Call (.Name x p) (e :: es) [] pos) (tMakeE Ca sp E t) := by
  refine ⟨fun pn s σ H Q I h => wpAny_Call_Name_kw (ld_glob I hg hm ?_ hdb)⟩
  refine PySem.W.callWith_K (h₀ := X.base) I.ok.mod.kin M.kp (thn (ha.run pos pn s σ H _ I h) fun us sa ⟨vs, Ha, Ia, r, q⟩ => ⟨Ia.kIn, ?_⟩) he hpl
  exact run_makeE M F hr hb (hx σ) Ia r q
theorem pe_makeE0 (M : Mk X.K Ca f) (F : FnOk X.prog X.w X.K X.mg X.base CX k f fd ps sp) (hr : Room (k + 1) X.A) (hg : Gl X x) (hm : X.mg x = some (.ref Ca)) (hb : Binds X.K fd ps []) (hx : ∀ σ, PassesAt CX X σ (E σ))
    (hdb : (x == ("__debug__" : Str)) = false) : PE X (.Call (.Name x p) [] [] pos) (tMakeE Ca sp E tNil) := by
  refine ⟨fun pn s σ H Q I h => wpAny_Call_Name_kw (ld_glob I hg hm ?_ hdb)⟩
  exact PySem.W.callWith_K0 I.kIn M.kp (run_makeE (us := []) M F hr hb (hx σ) I .nil h)
end
/-- a dict, by its reading -/
theorem isD_rel {C : Nat → Addr} {K : PySem.W.Frag} {ω ρ U : List Addr} {h : AH} {H : Hp} (hr : HR C K ω ρ U h H) {x : VV} {v : V} {o : AO} (rx : RV C K ω ρ U H x v) (eo : x.obj h = some o) (ed : o.isD = true) : ∃ a, v = .ref a ∧ IsD H a := by
  obtain ⟨a, rfl, q⟩ := rx.obj hr eo
  cases o with
  | lst _ => cases ed
  | ins _ _ => cases ed
  | dK kvs =>
    rcases q with ⟨ws, h1, h2⟩ | ⟨_, _, z, _⟩
    · exact ⟨a, rfl, .inl ⟨ws, .inl h1⟩⟩
    · cases z
  | dT kvs =>
    rcases q with ⟨ws, h1, h2⟩ | ⟨_, _, z, _⟩
    · exact ⟨a, rfl, .inr ⟨ws, .inl h1⟩⟩
    · cases z
theorem pys_map : ∀ xs : List D, D.pys xs = xs.map D.py
  | [] => rfl
  | x :: xs => by simp only [D.pys, List.map_cons, pys_map xs]
theorem flas_at {n : Nat} : ∀ {xs : List D} {x : D}, D.flas n xs = true → x ∈ xs → x.fla n = true
  | y :: ys, x, h, hx => by
    simp only [D.flas, Bool.and_eq_true] at h
    rcases List.mem_cons.mp hx with e | e
    · subst e; exact h.1
    · exact flas_at h.2 e
section
variable {C : Nat → Addr} {K : PySem.W.Frag} {ω ρ U : List Addr} {β : Nat → Option Addr} {env : Ev} {h : AH} {σ : L2.St} {H : Hp} {W : WX} {X' : EX → AH → Prop}
theorem RVs.step {ρ1 : List Addr} {H1 : Hp} (g : Stp ω U H ρ H1 ρ1) : ∀ {xs : List VV} {vs : List V}, RVs C K ω ρ U H xs vs → RVs C K ω ρ1 U H1 xs vs
  | [], [], .nil => .nil
  | x :: xs, v :: vs, .cons r t => .cons (RV.step g r) (RVs.step g t)
/-- d.setdefault(k, v) of the core's heap -/
theorem setd_ok (hr : HR C K ω ρ U h H) {x y z : VV} {a : Addr} {vy vz : V} (rx : RV C K ω ρ U H x (.ref a)) (ry : RV C K ω ρ U H y vy) (rz : RV C K ω ρ U H z vz) {Q' : VV → AH → Prop} {Q : VK} (w : setdW h x y z Q')
    (kq : ∀ d v h' H', HR C K ω ρ U h' H' → Stp ω U H ρ H' ρ → RV C K ω ρ U H' (.d d) v → Q' (.d d) h' → Q v H') :
    (∃ (kvs : List (Key × V)) (k : Key), H a = some (.dK kvs) ∧ vy = kV k ∧ kvs.length < sizeLine ∧ (∀ v, valV kvs k = some v → Q v H) ∧ (valV kvs k = none → Q vz (upd H a (.dK (putK kvs k vz))))) ∨
    (∃ (kvs : List (List Key × V)) (k : List Key) (b : Addr), H a = some (.dT kvs) ∧ vy = .ref b ∧ H b = some (.tup (k.map kV)) ∧ kvs.length < sizeLine ∧ (∀ v, valV kvs k = some v → Q v H) ∧ (valV kvs k = none → Q vz (upd H a (.dT (putK kvs k vz))))) := by
  obtain ⟨n, o, k, v, r, rfl, eo, rfl, rfl, eg, ⟨m, es, hm⟩, w⟩ := w
  cases rx with
  | ref hn =>
  obtain ⟨a', ea, ro⟩ := hr.hp n o eo
  rw [hn] at ea
  cases ea
  cases o with
  | lst _ => cases eg
  | ins _ _ => cases eg
  | dK kvs =>
    obtain ⟨ws, h1, h2⟩ := ro
    simp only [AO.get, Option.map_eq_some_iff] at eg
    obtain ⟨j, ej, er⟩ := eg
    cases RD.key ry ej
    cases es
    refine .inl ⟨ws, j, h1, rfl, by rw [← h2.length]; exact hm, fun u eu => ?_, fun en => ?_⟩
    · rcases RK.get j h2 with ⟨g1, g2⟩ | ⟨d, w1, g1, g2, g3⟩
      · rw [g2] at eu; cases eu
      · rw [g2] at eu; cases eu
        rw [← er, g1] at w
        exact kq d _ h H hr .refl g3 w
    · rcases RK.get j h2 with ⟨g1, g2⟩ | ⟨d, w1, g1, g2, g3⟩
      · rw [← er, g1] at w
        obtain ⟨o', ep, w⟩ := w
        simp only [AO.put, ej, Option.bind_some] at ep
        rw [if_pos hm] at ep
        cases ep
        obtain ⟨a1, a2⟩ := hr.mut hn (.dK (putK ws j vz)) (o := .dK (pV kvs j v)) fun g => ⟨_, upd_same, (h2.put j rz).grow g⟩
        exact kq v _ _ _ a1 a2 (RD.grow a2.gr rz) w
      · rw [g2] at en; cases en
  | dT kvs =>
    obtain ⟨ws, h1, h2⟩ := ro
    simp only [AO.get, Option.map_eq_some_iff] at eg
    obtain ⟨j, ej, er⟩ := eg
    cases ry with
    | tup s rs =>
      have ev := rs.keysOf (ks := j) (by simpa [D.keys] using ej)
      subst ev
      cases es
      refine .inr ⟨ws, j, _, h1, rfl, s, by rw [← h2.length]; exact hm, fun u eu => ?_, fun en => ?_⟩
      · rcases RK.get j h2 with ⟨g1, g2⟩ | ⟨d, w1, g1, g2, g3⟩
        · rw [g2] at eu; cases eu
        · rw [g2] at eu; cases eu
          rw [← er, g1] at w
          exact kq d _ h H hr .refl g3 w
      · rcases RK.get j h2 with ⟨g1, g2⟩ | ⟨d, w1, g1, g2, g3⟩
        · rw [← er, g1] at w
          obtain ⟨o', ep, w⟩ := w
          simp only [AO.put, ej, Option.bind_some] at ep
          rw [if_pos hm] at ep
          cases ep
          obtain ⟨a1, a2⟩ := hr.mut hn (.dT (putK ws j vz)) (o := .dT (pV kvs j v)) fun g => ⟨_, upd_same, (h2.put j rz).grow g⟩
          exact kq v _ _ _ a1 a2 (RD.grow a2.gr rz) w
        · rw [g2] at en; cases en
    | _ => simp [D.keys] at ej
/-- a new instance, made by its __init__ -/
theorem mk_sp {Γ : GM} {f c : Nat} {xs : List VV} {us : List V} {xa dx : Addr} {Q : VK} {Q' : VV → AH → Prop} (rs : RS C K β ω ρ U env h σ H) (rv : RVs C K ω ρ U H xs us) (hxa : H xa = none) (hdx : H dx = none) (hne : dx ≠ xa)
    (w : Γ (f + 1000) (.d (.ref h.length) :: xs.map toArg) (h ++ [.ins c []]) (fun r h2 => r = .d .non ∧ Q' (.d (.ref h.length)) h2) X')
    (hq : ∀ h' ρ' H', RS C K β ω ρ' U env h' σ H' → Stp ω U H ρ H' ρ' → RV C K ω ρ' U H' (.d (.ref h.length)) (.ref xa) → Q' (.d (.ref h.length)) h' → Q (.ref xa) H')
    (hx : ∀ x cls dd h' ρ' H', RS C K β ω ρ' U env h' σ H' → Stp ω U H ρ H' ρ' → RX C K ω ρ' U H' x cls dd → X' x h' → W cls dd σ H') :
    spI C K Γ (f + 1000) (.ref xa :: us) (upd (upd H dx (.own xa)) xa (.ins (C c) dx [])) (fun v Hb => v = .non ∧ Q (.ref xa) Hb) (fun cls d Hb => W cls d σ Hb) := by
  obtain ⟨a1, a2⟩ := rs.hr.laid hdx (.own xa)
  have rs1 := rs.step a1 a2
  have hxa' : upd H dx (.own xa) xa = none := by rw [upd_ne (Ne.symm hne)]; exact hxa
  obtain ⟨b1, b2⟩ := rs1.hr.alloc hxa' (u := .ins (C c) dx []) ⟨fun _ z => (by cases z), fun _ _ z => (by cases z)⟩ (o := .ins c []) ⟨dx, [], upd_same, .nil⟩
  have rs2 := rs1.step b1 b2
  have gg := a2.trans b2
  have hat : (ρ ++ [xa])[h.length]? = some xa := by rw [rs.hr.lh, List.getElem?_append_right (Nat.le_refl _)]; simp
  refine spI_call (xs := .d (.ref h.length) :: xs) rs2 (.cons (RD.ref hat) (RVs.step gg rv)) w (fun r v h' ρ' U' H' rs' g' hr' gr' rr' q' => ?_) (upX gg hx)
  obtain ⟨rfl, q'⟩ := q'
  cases rr'
  exact ⟨rfl, hq _ _ _ rs' (gg.trans g') (RD.ref (g'.gr.pre _ _ hat)) q'⟩
end
/-! ### sorted(xs, key=f), f a def -/
/-- the keys, item by item -/
def kW (sp : Sp) : List V → List V → Hp → (List V → Hp → Prop) → Prop
  | [], acc, H, R => R acc H
  | x :: xs, acc, H, R => sp [x] H (fun k H1 => kW sp xs (acc ++ [k]) H1 R) (fun _ _ _ => False)
def sortPy (vs : List V) (ds : List PyData) : List V := ((vs.zip ds).mergeSort (PySem.W.dataLe false Prod.snd)).map Prod.fst
theorem each_zip : ∀ {vs : List V} {us : List Value} {ds : List PyData}, Vals vs us → ds.length = vs.length → PySem.W.EachIs (fun u (p : V × PyData) => RelV p.1 u) us (vs.zip ds)
  | [], _, [], .nil, _ => .nil
  | _ :: _, _, d :: ds, .cons r t, h => .cons r (each_zip t (by simpa using h))
theorem vals_each : ∀ {us : List Value} {ps : List (V × PyData)}, PySem.W.EachIs (fun u (p : V × PyData) => RelV p.1 u) us ps → Vals (ps.map Prod.fst) us
  | _, _, .nil => .nil
  | _, _, .cons r t => .cons r (vals_each t)
theorem each_reads {X : Cx} {pins : List (Addr × Obj)} {σ : L2.St} {H : Hp} {s : Shared} (I : Inv X pins σ H s) : ∀ {vs : List V} {us : List Value} {ds : List PyData}, Vals vs us → DpAll X.K H vs ds → PySem.W.EachIs (fun v k => ∃ as, Reads s.heap v k as) us ds
  | [], _, _, .nil, .nil => .nil
  | _ :: _, _, _, .cons r t, .cons h q => .cons (Dp.reads I _ _ _ h r) (each_reads I t q)
theorem DpAll.length {K : PySem.W.Frag} {H : Hp} : ∀ {vs : List V} {ds : List PyData}, DpAll K H vs ds → vs.length = ds.length
  | _, _, .nil => rfl
  | _, _, .cons _ t => by simp [DpAll.length t]
/-- what stood at the start stays -/
theorem Un.to' {fs : List Addr} {H Hj : Hp} {h hj h' : Heap} (u : Un fs [] H Hj h hj) (k : ∀ b o, b < h.objs.size → hj.get? b = some o → h'.get? b = some o) : Un fs [] H Hj h h' := by
  refine ⟨fun b o e n hf hx => k b o (Heap.lt_size e) (u.keep b o e n hf hx), fun b o e n hf hx => ?_, u.free, fun b o e hx => ?_, u.tups, u.frzs, u.tbls⟩
  · obtain ⟨sl, q⟩ := u.slot b o e n hf hx
    exact ⟨sl, k b _ (Heap.lt_size e) q⟩
  · obtain ⟨o', q⟩ := u.there b o e hx
    exact ⟨o', k b _ (Heap.lt_size e) q⟩
theorem Room.in2 {k : Nat} {A : Around} (r : Room (k + 1) A) : Room k A.in1.in1 :=
  ⟨r.hd, by have := r.dp; show A.depth + 3 * k + 5 < _; omega, by have := r.un; show A.units + 1 + 1 + 16 * k + 200 < _; omega⟩
theorem wp_sortKey {X : Cx} {pins : List (Addr × Obj)} {s : Shared} {σ : L2.St} {H : Hp} {l fa : Addr} {vs : List V} {fd : FuncData} {ps : List Str} {kk : Nat} {sp : Sp} {Q : VK} (I : Inv X pins σ H s) (hl : SqL X.K H l vs)
    (F : FnOk X.prog X.w X.K X.mg X.base (L2.CX X.prog X.w) kk fa fd ps sp) (hb : Binds X.K fd ps []) (hr : Room (kk + 1) X.A)
    (w : kW sp vs [] H fun ks H' => ∃ ds : List PyData, DpAll X.K H' ks ds ∧ PySem.W.AllAlike ds ∧ PySem.W.Sortable ds ∧ (∀ d ∈ ds, d.depth ≤ 60) ∧ ds.length = vs.length ∧ ∀ p, H' p = none → Q (.ref p) (upd H' p (.lst (sortPy vs ds)))) :
    wpAny (model X.prog X.w) X.A (call (.builtin "sorted") [.ref l] [(Str.ofString "key", .ref fa)]) (EP X pins σ Q) X.xe s := by
  obtain ⟨its, rv, p', hz⟩ := I.list hl
  have hlen := rv.length
  refine PySem.W.sorted_of_sort p'.isList (by omega) (ksk_s1 _ _) (fun _ => ksk_l1 _ _) fun E' => ?_
  rw [ksk_t1]
  have ho := PySem.W.copyHeap_at s.heap its
  have hsz : (PySem.W.copyHeap s.heap its).objs.size = s.heap.objs.size + 2 := by
    unfold PySem.W.copyHeap
    rw [size_push', Heap.size_update, size_push']
  have old : ∀ b o, s.heap.get? b = some o → b < s.heap.objs.size := fun b o e => Heap.lt_size e
  generalize ha : s.heap.objs.size + 1 = a at ho ⊢
  obtain ⟨h1, eh1⟩ : ∃ h1, h1 = PySem.W.copyHeap s.heap its := ⟨_, rfl⟩
  have k1 : ∀ b o, s.heap.get? b = some o → h1.get? b = some o := fun b o e => by rw [eh1]; exact PySem.W.copyHeap_old e
  rw [← eh1] at ho hsz ⊢
  obtain ⟨h2, eh2⟩ : ∃ h2, h2 = h1.update a (Obj.mapSeq fun _ => (#[] : Array Value)) := ⟨_, rfl⟩
  obtain ⟨e1, ho1⟩ : ∃ e1, h2.get? a = some (seqObj "list" #[] e1) := by rw [eh2]; exact ⟨_, get?_update_seq ho fun _ => #[]⟩
  have hsz2 : h2.objs.size = s.heap.objs.size + 2 := by rw [eh2, Heap.size_update, hsz]
  have k2 : ∀ b o, b ≠ a → h1.get? b = some o → h2.get? b = some o := fun b o hb e => by rw [eh2, Heap.get?_update_ne _ _ _ _ hb]; exact e
  unfold ksk_tree
  refine wpAny_bind (listItems_at ho rfl ?_)
  refine wpAny_bind (listUpdate_at ho rfl ?_ (by rw [List.size_toArray]; omega) (Nat.zero_le _))
  rw [← eh2]
  refine wpAny_bind (seqEpoch_at ho1 rfl ?_)
  refine wpAny_bind (wpAny_newTuple ?_ (by show its.length ≤ _; omega))
  refine wpAny_bind (wpAny_newList ?_ (Nat.zero_le _))
  refine wpAny_holding ?_
  obtain ⟨kS, ekS⟩ : ∃ kS, kS = (h2.push (seqObj "tuple" its.toArray 0)).objs.size := ⟨_, rfl⟩
  obtain ⟨h3, eh3⟩ : ∃ h3, h3 = (h2.push (seqObj "tuple" its.toArray 0)).push (seqObj "list" #[] 0) := ⟨_, rfl⟩
  have k3 : ∀ b o, h2.get? b = some o → h3.get? b = some o := fun b o e => by rw [eh3]; exact Heap.get?_push_of_some _ (Heap.get?_push_of_some _ e)
  have nS : h3.get? kS = some (seqObj "list" #[] 0) := by rw [eh3, ekS]; exact Heap.get?_push_size _ rfl
  have hkS : kS = s.heap.objs.size + 3 := by rw [ekS, size_push', hsz2]
  have hka : kS ≠ a := by omega
  have kall : ∀ b o, s.heap.get? b = some o → h3.get? b = some o := fun b o e => k3 b o (k2 b o (fun z => by have q := old b o e; rw [z, ← ha] at q; exact absurd q (Nat.not_lt.mpr (Nat.le_succ _))) (k1 b o e))
  show wpAny _ _ (ksk_rest a (.ref fa) false its.toArray e1 (.ref (h2.push (seqObj "tuple" its.toArray 0)).objs.size)) _ _ { s with heap := (h2.push (seqObj "tuple" its.toArray 0)).push (seqObj "list" #[] 0) }
  rw [← ekS, ← eh3]
  have Hf : ∀ b, s.heap.objs.size ≤ b → H b = none ∧ b ≠ X.env.locals ∧ b ∉ X.fs := fun b hb => ⟨I.hok.fresh hb, fun z => by have q := I.lt; rw [z] at hb; exact absurd q (Nat.not_lt.mpr hb), I.nofs hb⟩
  have I0 : Inv X ((kS, seqObj "list" #[] 0) :: (a, seqObj "list" #[] e1) :: pins) σ H { s with heap := h3 } := by
    have Ik : Inv X pins σ H { s with heap := h3 } := I.kept (t' := s.toks) kall
    refine Ik.pins_of fun p hp => ?_
    rcases List.mem_cons.mp hp with z | hp
    · subst z
      obtain ⟨q1, q2, q3⟩ := Hf kS (by omega)
      exact ⟨nS, q1, q2, q3, fun v z => by cases z⟩
    · rcases List.mem_cons.mp hp with z | hp
      · subst z
        obtain ⟨q1, q2, q3⟩ := Hf a (by omega)
        exact ⟨k3 _ _ ho1, q1, q2, q3, fun v z => by cases z⟩
      · exact Ik.pin p (List.mem_append_right _ hp)
  obtain ⟨R, eR⟩ : ∃ R : List V → Hp → Prop, R = fun ks H' => ∃ ds : List PyData, DpAll X.K H' ks ds ∧ PySem.W.AllAlike ds ∧ PySem.W.Sortable ds ∧ (∀ d ∈ ds, d.depth ≤ 60) ∧ ds.length = vs.length ∧ ∀ p, H' p = none → Q (.ref p) (upd H' p (.lst (sortPy vs ds))) := ⟨_, rfl⟩
  rw [← eR] at w
  have pold : ∀ p ∈ pins, p.1 < s.heap.objs.size := fun p hp => Heap.lt_size (I.pin p (List.mem_append_right _ hp)).1
  have xold : ∀ p ∈ X.pn, p.1 < s.heap.objs.size := fun p hp => Heap.lt_size (I.pin p (List.mem_append_left _ hp)).1
  have cold : ∀ x c, X.env.cells.lookup x = some c → c < s.heap.objs.size := fun x c e => by
    obtain ⟨v, o, q, _⟩ := I.cell x c e
    exact Heap.lt_size q
  unfold ksk_rest
  refine wpAny_bind (wpAny_rule ?_)
  rw [List.forIn_toArray]
  refine wpAny_bind (ksk_fold (fun i s' => ∃ (kA : Array Value) (e : Nat) (H' : Hp) (acc : List V), Inv X ((kS, seqObj "list" kA e) :: (a, seqObj "list" #[] e1) :: pins) σ H' s' ∧ Un (frs X.stack) [] H H' s.heap s'.heap ∧
    Vals acc kA.toList ∧ acc.length = i ∧ kW sp (vs.drop i) acc H' R) its 0 _ ⟨#[], 0, H, [], I0, Un.kept kall, .nil, rfl, w⟩ ?_ ?_)
  · rintro j x s' hx ⟨kA, e, H', acc, I', U', rk, hacc, hw⟩
    simp only [Nat.zero_add] at hacc hw ⊢
    have hj : j < its.length := (List.getElem?_eq_some_iff.mp hx).1
    obtain ⟨v, hv⟩ : ∃ v, vs[j]? = some v := ⟨_, List.getElem?_eq_getElem (by omega)⟩
    obtain ⟨x', hx', rvx⟩ := rv.get hv
    rw [hx] at hx'
    cases hx'
    have ed : vs.drop j = v :: vs.drop (j + 1) := by
      rw [List.drop_eq_getElem_cons (by omega)]
      rw [List.getElem?_eq_getElem (by omega)] at hv
      rw [Option.some.inj hv]
    rw [ed] at hw
    have nk := (I'.pin (kS, seqObj "list" kA e) (List.mem_append_right _ (List.mem_cons_self ..))).1
    have hlenp : ([x] ++ ([] : List Value)).length = ps.length := by
      have := F.len _ _ _ _ hw
      simpa using this
    refine wpAny_bind (wpAny_attempt (wpAny_mono (Q := fun u s2 => L2.CE X.stack X.prog X.w H' s' (fun k H1 => kW sp (vs.drop (j + 1)) (acc ++ [k]) H1 R) u s2) (E := fun _ _ => False) ?_ (fun u s2 he => ?_) fun _ _ hF => hF.elim))
    · refine wpAny_call (codeAny_mono (F.run X.A.in1.in1 X.stack s' H' ⟨[x], []⟩ [x] [v] _ _ (Room.in2 hr) I'.env0.in1.in1 (hb s' [x] I'.kIn hlenp) (.cons rvx .nil) hw) fun r s2 hq => ?_)
      cases r with
      | error er =>
        obtain ⟨_, _, _, _, _, _, _, _, _, _, _, _, hE⟩ := hq
        exact hE.elim
      | ok fl =>
        cases fl with
        | ret u => exact hq
        | next => exact False.elim hq
        | brk => exact False.elim hq
        | cont => exact False.elim hq
    obtain ⟨kv, H2, os2, bare2, un2, hok2, rkv, hw2⟩ := he
    have I2 := I'.call' (ch := []) os2 un2 hok2 bare2 (fun b z => absurd z (by simp))
    have U2 := U'.trans un2
    have nk2 := (I2.pin (kS, seqObj "list" kA e) (List.mem_append_right _ (List.mem_cons_self ..))).1
    have pk2 := (I2.pin (kS, seqObj "list" kA e) (List.mem_append_right _ (List.mem_cons_self ..))).2
    have hz2 : kA.size = j := by
      have q1 : acc.length = kA.size := by rw [Vals.length rk, Array.length_toList]
      omega
    dsimp only
    refine wpAny_bind (listUpdate_at nk2 rfl ?_ (by omega) (by rw [Array.size_push]; omega))
    obtain ⟨c2, hc2⟩ : ∃ c2, (s2.heap.update kS (Obj.mapSeq (·.push u))).get? kS = some (seqObj "list" (kA.push u) c2) := ⟨_, get?_update_seq nk2 (·.push u)⟩
    have kk2 : ∀ b o, b ≠ kS → s2.heap.get? b = some o → (s2.heap.update kS (Obj.mapSeq (·.push u))).get? b = some o := fun b o hb e => by rw [Heap.get?_update_ne _ _ _ _ hb]; exact e
    have I3 : Inv X ((a, seqObj "list" #[] e1) :: pins) σ H2 { s2 with heap := s2.heap.update kS (Obj.mapSeq (·.push u)) } := by
      have Ia : Inv X ((a, seqObj "list" #[] e1) :: pins) σ H2 s2 := I2.pins_of fun p hp => I2.pin p (List.mem_append_right _ (List.mem_cons_of_mem _ hp))
      refine Ia.turned (t' := s2.toks) kk2 pk2.1 pk2.2.1 (.inr (by have := I.sz; omega)) (fun x c e z => by have q := cold x c e; rw [z, hkS] at q; exact absurd q (Nat.not_lt.mpr (Nat.le_add_right _ 3))) fun p hp z => ?_
      rcases List.mem_append.mp hp with hp | hp
      · have q := xold p hp; rw [z, hkS] at q; exact absurd q (Nat.not_lt.mpr (Nat.le_add_right _ 3))
      · rcases List.mem_cons.mp hp with y | hp
        · subst y; exact hka z.symm
        · have q := pold p hp; rw [z, hkS] at q; exact absurd q (Nat.not_lt.mpr (Nat.le_add_right _ 3))
    refine wpAny_pure ⟨rfl, kA.push u, c2, H2, acc ++ [kv], ?_, Un.to' U2 (fun b o hb e => kk2 b o (fun z => by rw [z, hkS] at hb; exact absurd hb (by omega)) e), ?_, by simp [hacc], hw2⟩
    · refine I3.pins_of fun p hp => ?_
      rcases List.mem_cons.mp hp with z | hp
      · subst z
        exact ⟨hc2, pk2.1, pk2.2.1, pk2.2.2.1, fun v z => by cases z⟩
      · exact I3.pin p (List.mem_append_right _ hp)
    · rw [Array.toList_push]
      exact rk.append (.cons rkv .nil)
  · rintro s' ⟨kA, e, H', acc, I', U', rk, hacc, hw⟩
    simp only [Nat.zero_add] at hacc hw
    rw [List.drop_eq_nil_of_le (by omega)] at hw
    subst eR
    obtain ⟨ds, hd, hal, hso, hdep, hdl, hq⟩ := hw
    have nk := I'.pin (kS, seqObj "list" kA e) (List.mem_append_right _ (List.mem_cons_self ..))
    have na := I'.pin (a, seqObj "list" #[] e1) (List.mem_append_right _ (List.mem_cons_of_mem _ (List.mem_cons_self ..)))
    refine wpAny_bind (listItems_at nk.1 rfl ?_)
    obtain ⟨G, g1, g2⟩ := restrict s'.heap fun b => decide (b ≠ kS)
    have hk' := each_reads I' rk hd
    have hsz' : kA.size = its.length := by
      have q1 : acc.length = kA.size := by rw [Vals.length rk, Array.length_toList]
      have q2 := DpAll.length hd
      omega
    refine PySem.W.keyH_end (κ := PySem.W.dataKind s'.heap ds) (h₁ := G) (fun b o hb e => ?_) (g2 kS (by simp)) nk.1 na.1 hka (PySem.W.SortsAt.data (s := s') hk' hal hso fun d hd => ?_) hsz' (by omega) fun h4 tk4 c k4 n4 => ?_
    · by_cases hbk : b = kS
      · subst hbk; rw [g2 b (by simp)] at e; cases e
      · rw [← g1 b (by simpa using hbk)]; exact e
    · have := hr.un
      have := hdep d hd
      show X.A.units + 1 + 1 + d.depth < cLine
      omega
    refine ⟨rfl, .ref a, upd H' a (.lst (sortPy vs ds)), ?_, rfl, hq a na.2.1⟩
    have kf : ∀ b o, b ≠ a → b ≠ kS → s'.heap.get? b = some o → h4.get? b = some o := fun b o h1 h2 e => k4 b o h1 (by rw [g1 b (by simpa using h2)]; exact e)
    have ko : PySem.W.KeyedOut false ((vs.zip ds).map Prod.snd) its (PySem.W.sortVals (PySem.W.dataKind s'.heap ds) false kA.toList its) := by
      rw [show (vs.zip ds).map Prod.snd = ds from by rw [List.map_snd_zip (by omega)]]
      exact ⟨s'.heap, kA.toList, hal, rfl, hk'⟩
    have out := vals_each (PySem.W.keyedOut_each Prod.snd ko (each_zip rv hdl))
    refine I.call' (ch := []) (s' := { s' with heap := h4, toks := tk4 }) (I'.os.trans I.os.symm) (Un.at' U' (fun b o hb e => kf b o (fun z => by rw [z, ← ha] at hb; exact absurd hb (by omega)) (fun z => by rw [z, hkS] at hb; exact absurd hb (by omega)) e) (by omega) (Hf a (by omega)).1) (HOk.open' I'.hok na.2.1 nk.2.1 kf ?_) I'.bare (fun b z => absurd z (by simp))
    refine ⟨?_, _, c, out, n4⟩
    have : (sortPy vs ds).length = vs.length := by
      unfold sortPy
      rw [List.length_map, (List.mergeSort_perm _ _).length_eq, List.length_zip]
      omega
    omega
def rSortK (K : PySem.W.Frag) (sp : Sp) (fa : Addr) : List V → List V → Hp → VK → Prop := fun xs zs H Q => ∃ l vs, xs = [V.ref l] ∧ zs = [V.ref fa] ∧ SqL K H l vs ∧
  kW sp vs [] H fun ks H' => ∃ ds : List PyData, DpAll K H' ks ds ∧ PySem.W.AllAlike ds ∧ PySem.W.Sortable ds ∧ (∀ d ∈ ds, d.depth ≤ 60) ∧ ds.length = vs.length ∧ ∀ p, H' p = none → Q (.ref p) (upd H' p (.lst (sortPy vs ds)))
theorem cr_sortK {X : Cx} {kk : Nat} {fa : Addr} {fd : FuncData} {ps : List Str} {sp : Sp} (F : FnOk X.prog X.w X.K X.mg X.base (L2.CX X.prog X.w) kk fa fd ps sp) (hb : Binds X.K fd ps []) (hr : Room (kk + 1) X.A) : CallRK X (.builtin "sorted") [Str.ofString "key"] (rSortK X.K sp fa) := by
  intro pins s σ H xs zs us ws Q I r1 r2 h
  obtain ⟨l, vs, rfl, rfl, hs, w⟩ := h
  obtain ⟨u, rfl, ru⟩ := r1.one
  obtain ⟨u2, rfl, ru2⟩ := r2.one
  cases ru
  cases ru2
  exact wp_sortKey I hs F hb hr w
theorem rds_map {K : PySem.W.Frag} {H : Hp} {ρ : List Addr} {m : Addr → Prop} {α : Type} (f : α → D) (g : α → V) : ∀ {l : List α}, (∀ t ∈ l, RD K H ρ m (f t) (g t)) → RDs K H ρ m (l.map f) (l.map g)
  | [], _ => .nil
  | t :: l, h => .cons (h t (by simp)) (rds_map f g fun x hx => h x (by simp [hx]))
theorem rds_zip {K : PySem.W.Frag} {H : Hp} {ρ : List Addr} {m : Addr → Prop} : ∀ {xs : List D} {vs : List V}, RDs K H ρ m xs vs → ∀ p ∈ xs.zip vs, RD K H ρ m p.1 p.2
  | _, _, .nil, p, h => by simp at h
  | _, _, .cons r t, p, h => by
    simp only [List.zip_cons_cons, List.mem_cons] at h
    rcases h with h | h
    · subst h; exact r
    · exact rds_zip t p h
theorem rds_dp {K : PySem.W.Frag} {H : Hp} {ρ : List Addr} {m : Addr → Prop} : ∀ {ks : List D} {vs : List V}, RDs K H ρ m ks vs → (∀ k ∈ ks, k.fla 60 = true) → DpAll K H vs (ks.map D.py)
  | _, _, .nil, _ => .nil
  | _, _, .cons r t, h => .cons (r.dp (h _ (by simp))) (rds_dp t fun k hk => h k (by simp [hk]))
/-- the sorted values lie as the sorted data -/
theorem sort_rel {K : PySem.W.Frag} {H : Hp} {ρ : List Addr} {m : Addr → Prop} {xs : List D} {vs : List V} {ks : List D} (r : RDs K H ρ m xs vs) (hl : ks.length = xs.length) (hk : srtOk ks) : RDs K H ρ m (sortD xs ks) (sortPy vs (ks.map D.py)) := by
  have hlen := r.length
  have e1 : xs.zip ks = ((xs.zip vs).zip ks).map fun t => (t.1.1, t.2) := by
    refine List.ext_getElem (by simp; omega) fun i h1 h2 => ?_
    simp
  have e2 : vs.zip (ks.map D.py) = ((xs.zip vs).zip ks).map fun t => (t.1.2, t.2.py) := by
    refine List.ext_getElem (by simp; omega) fun i h1 h2 => ?_
    simp
  have hm : ∀ t ∈ (xs.zip vs).zip ks, t.2 ∈ ks := fun t ht => (List.of_mem_zip ht).2
  unfold sortD sortPy
  rw [e1, e2, ← List.map_mergeSort (r := fun p q => !D.ltd q.2 p.2) (f := fun t : (D × V) × D => (t.1.1, t.2)) (fun a _ b _ => rfl),
    ← List.map_mergeSort (r := fun p q => !D.ltd q.2 p.2) (f := fun t : (D × V) × D => (t.1.2, t.2.py)) (fun a ha b hb => ?_), List.map_map, List.map_map]
  · refine rds_map _ _ fun t ht => ?_
    have ht := (List.mergeSort_perm _ _).mem_iff.mp ht
    exact rds_zip r t.1 (List.of_mem_zip ht).1
  · show (!D.ltd b.2 a.2) = PySem.W.dataLe false Prod.snd (a.1.2, a.2.py) (b.1.2, b.2.py)
    rw [← D.py_lt b.2 a.2 60 60 (hk.1 _ (hm b hb)).1 (hk.1 _ (hm a ha)).1 (hk.2 _ (hm b hb) _ (hm a ha))]
    rfl
section
variable {C : Nat → Addr} {Γ : GM} {K : PySem.W.Frag} {ω U : List Addr} {β : Nat → Option Addr} {env : Ev} {σ : L2.St}
/-- the keys, by calls -/
theorem keys_ok {f : Nat} {R : List V → Hp → Prop} : ∀ {xs : List D} {vs : List V} {acc : List D} {av : List V} {ρ : List Addr} {h : AH} {H : Hp} {Q : List D → AH → Prop}, RS C K β ω ρ U env h σ H → RDs K H ρ (ms ω ρ U) xs vs → RDs K H ρ (ms ω ρ U) acc av → keysW Γ f xs acc h Q →
    (∀ ks kv h' ρ' H', RS C K β ω ρ' U env h' σ H' → Stp ω U H ρ H' ρ' → RDs K H' ρ' (ms ω ρ' U) ks kv → Q ks h' → R kv H') → kW (spI C K Γ (f + 1000)) vs av H R
  | [], _, acc, av, ρ, h, H, Q, rs, .nil, ra, w, hq => hq _ _ _ _ _ rs .refl ra w
  | x :: xs, v :: vs, acc, av, ρ, h, H, Q, rs, .cons r t, ra, w, hq => by
    refine spI_call (xs := [.d x]) (vs := [v]) rs (.cons r .nil) w (fun r' kv h' ρ' U' H' rs' g' hr' gr' rr' q' => ?_) fun _ _ _ _ _ _ _ _ _ z => z.elim
    obtain ⟨k, rfl, w'⟩ := q'
    obtain ⟨d, rd, q⟩ := RRel.rd (Q' := fun y _ => y = .d k) hr' rr' rfl
    cases q
    exact keys_ok rs' (t.grow g'.gr) ((ra.grow g'.gr).append (.cons rd .nil)) w' fun ks kv h'' ρ'' H'' rs'' g'' rk q => hq _ _ _ _ _ rs'' (g'.trans g'') rk q
end
end G

set_option maxHeartbeats 4000000
/-! Core10: the mutual theorem on expressions. -/
namespace G
open PySem PySem.Spec PyProof.Rows L2
section
variable {C : Nat → Addr} {Γ : GM} {nm : NT} {cs : Nat → Option (Str × D)} {k : Nat} {N : List Str}
theorem RV.int {C : Nat → Addr} {K : PySem.W.Frag} {ω ρ U : List Addr} {H : Hp} (i : Int) : RV C K ω ρ U H (.d (.int i)) (.int i) := RD.int i
theorem RV.bl {C : Nat → Addr} {K : PySem.W.Frag} {ω ρ U : List Addr} {H : Hp} (i : Bool) : RV C K ω ρ U H (.d (.bl i)) (.bl i) := RD.bl i
theorem RV.str {C : Nat → Addr} {K : PySem.W.Frag} {ω ρ U : List Addr} {H : Hp} (i : Str) : RV C K ω ρ U H (.d (.str i)) (.str i) := RD.str i
theorem RV.non {C : Nat → Addr} {K : PySem.W.Frag} {ω ρ U : List Addr} {H : Hp} : RV C K ω ρ U H (.d .non) .non := RD.non
theorem cutD_rel {K : PySem.W.Frag} {H : Hp} {ρ : List Addr} {m : Addr → Prop} {xs : List D} {vs : List V} (r : RDs K H ρ m xs vs) (i j : Option Int) : RDs K H ρ m (cutD xs i j) (cutV vs i j) := by
  unfold cutD cutV
  rw [r.length]
  exact (r.drop _).take _
theorem cutD_whole {xs : List D} {vs : List V} (e : xs.length = vs.length) {i j : Option Int} (h : HT.sIx vs.length 0 i = 0 ∧ HT.sIx vs.length vs.length j = vs.length) : cutD xs i j = xs := by
  unfold cutD
  rw [e, h.1, h.2]
  simp [← e]
theorem map_d {C : Nat → Addr} {K : PySem.W.Frag} {ω ρ U : List Addr} {H : Hp} : ∀ {xs : List D} {vs : List V}, RVs C K ω ρ U H (xs.map VV.d) vs → RDs K H ρ (ms ω ρ U) xs vs
  | [], [], .nil => .nil
  | x :: xs, v :: vs, .cons r t => .cons r (map_d t)
theorem keyList_rel {C : Nat → Addr} {K : PySem.W.Frag} {ω ρ U : List Addr} {h : AH} {H : Hp} (hr : HR C K ω ρ U h H) {x : VV} {v : V} {o : AO} {xs : List D} (rx : RV C K ω ρ U H x v) (eo : x.obj h = some o) (ek : o.keyList = some xs) :
    ∃ a, v = .ref a ∧ ((∃ kvs : List (Key × V), H a = some (.dK kvs) ∧ RDs K H ρ (ms ω ρ U) xs (kvs.map fun kv => kV kv.1)) ∨
      ∃ kvs : List (List Key × V), H a = some (.dT kvs) ∧ ∀ (H' : Hp) (m' : Addr → Prop) (bs : List Addr), IsKeys H' kvs bs → RDs K H' ρ m' xs (bs.map V.ref)) := by
  obtain ⟨a, rfl, q⟩ := rx.obj hr eo
  cases o with
  | lst _ => cases ek
  | ins _ _ => cases ek
  | dK kvs =>
    cases ek
    rcases q with ⟨ws, h1, h2⟩ | ⟨_, _, z, _⟩
    · refine ⟨a, rfl, .inl ⟨ws, h1, ?_⟩⟩
      have go : ∀ {kvs : List (Key × D)} {ws : List (Key × V)}, RK K H ρ (ms ω ρ U) kvs ws → RDs K H ρ (ms ω ρ U) (kvs.map fun kv => kD kv.1) (ws.map fun kv => kV kv.1) := by
        intro kvs ws r
        induction r with
        | nil => exact .nil
        | cons r t ih => simp only [List.map_cons, r.1]; exact .cons (RD.kD _) ih
      exact go h2
    · cases z
  | dT kvs =>
    cases ek
    rcases q with ⟨ws, h1, h2⟩ | ⟨_, _, z, _⟩
    · refine ⟨a, rfl, .inr ⟨ws, h1, fun H' m' bs hk => ?_⟩⟩
      have go : ∀ {kvs : List (List Key × D)} {ws : List (List Key × V)} {bs : List Addr}, RK K H ρ (ms ω ρ U) kvs ws → IsKeys H' ws bs → RDs K H' ρ m' (kvs.map fun kv => .tup (kv.1.map kD)) (bs.map V.ref) := by
        intro kvs ws bs r
        induction r generalizing bs with
        | nil => intro hk; cases hk; exact .nil
        | cons r t ih =>
          intro hk
          cases hk with
          | cons e hk =>
            simp only [List.map_cons, r.1]
            exact .cons (.tup e (RDs.kDs _)) (ih hk)
      exact go h2 hk
    · cases z
theorem rgV_rel {K : PySem.W.Frag} {H : Hp} {ρ : List Addr} {m : Addr → Prop} {i : Int} (h0 : 0 ≤ i) : RDs K H ρ m (rgD 0 i.toNat) (rgV 0 i) := by
  have e : (i - 0).toNat = i.toNat := by omega
  unfold rgV
  rw [e]
  have q := RDs.rg (K := K) (H := H) (ρ := ρ) (m := m) 0 i.toNat
  simpa using q
/-- a list and a list, be they values or objects -/
def rCatS (K : PySem.W.Frag) : R2 := fun x y H Q => ∃ l b xs zs, x = .ref l ∧ y = .ref b ∧ SqL K H l xs ∧ SqL K H b zs ∧ xs.length + zs.length ≤ sizeLine ∧ ∀ p, H p = none → Q (.ref p) (upd H p (.lst (xs ++ zs)))
theorem op_catS {X : Cx} : OpR X (binaryOp .Add) (rCatS X.K) := by
  intro pins s σ H x y v u Q I rx ry h
  obtain ⟨l, b, xs, zs, rfl, rfl, hH, hB, hz, q⟩ := h
  cases rx
  cases ry
  obtain ⟨its, r, p1, _⟩ := I.list hH
  obtain ⟨its2, r2, p2, _⟩ := I.list hB
  obtain ⟨⟨cls, dd, data, sl⟩, n, e, c, d, sq⟩ := p1
  obtain ⟨⟨cls2, dd2, data2, sl2⟩, n2, e2, c2, d2, sq2⟩ := p2
  dsimp only at c d sq c2 d2 sq2
  subst c; subst d; subst sq; subst c2; subst d2; subst sq2
  have l1 := r.length
  have l2 := r2.length
  refine concat_meets ⟨_, e, rfl⟩ ⟨_, e2, rfl⟩ noFill_list_add seq_list_add PySem.F.slot_list_add PySem.F.entry_list_add (PySem.F.args_list_add_2 _ _) (list_addW l b its.toArray its2.toArray n n2 none none sl sl2 (by simp only [List.size_toArray]; omega)) ⟨e, e2, ?_⟩
  have ea : its.toArray ++ its2.toArray = (its ++ its2).toArray := by simp
  rw [ea]
  exact ⟨.ref _, _, I.lnew (t' := s.toks) (r.append r2) (by rw [List.length_append]; omega), rfl, q _ I.fresh⟩
theorem RDs.rep {K : PySem.W.Frag} {H : Hp} {ρ : List Addr} {m : Addr → Prop} {xs : List D} {vs : List V} (r : RDs K H ρ m xs vs) : ∀ n : Nat, RDs K H ρ m (List.replicate n xs).flatten (List.replicate n vs).flatten
  | 0 => .nil
  | n + 1 => by simp only [List.replicate_succ, List.flatten_cons]; exact r.append (r.rep n)
theorem Wlk.enum {C : Nat → Addr} {K : PySem.W.Frag} {ω ρ U : List Addr} {h : AH} {H : Hp} {x : VV} {v : V} {xs : List D} {cp : Bool} (hr : HR C K ω ρ U h H) (rx : RV C K ω ρ U H x v) (ncp : cp = true ∨ ∀ o, x ≠ .tw o) (e : (x.obj h).bind AO.list = some xs) :
    ∃ a vs, v = .ref a ∧ SqL K H a vs ∧ Wlk C K ω ρ U H (enumD xs) (fun h => (x.obj h).bind AO.list = some xs) cp (Ite K a) := by
  have nt : ∀ h' : AH, (x.obj h').bind AO.list = some xs → x.seq h' = some xs := fun h' e => by
    cases x with
    | d d => cases d <;> first | exact e | cases e
    | tw _ => exact e
    | bw _ => exact e
  obtain ⟨a, vs, rfl, s, r⟩ := rx.list hr e
  obtain ⟨a', ea, q⟩ := Wlk.val (cp := cp) hr rx ncp (nt h e)
  cases ea
  refine ⟨a, vs, rfl, s, ?_⟩
  have wk : Wlk C K ω ρ U H xs (fun h => x.seq h = some xs) cp (Itl K a) := by
    rcases q with ⟨_, q⟩ | ⟨⟨ts, z⟩, _⟩
    · exact q
    · cases x with
      | d d =>
        cases d with
        | tup _ => cases e
        | fz ds =>
          cases rx with
          | fz s2 q2 =>
          cases e
          exact .lst fun h1 ρ1 U1 H1 hr g o gh => ⟨_, (g.gr.fzL s2).sq, q2.grow g.gr⟩
        | ref n =>
          cases rx with
          | ref hn =>
          refine .lst fun h1 ρ1 U1 H1 hr g o gh => ?_
          obtain ⟨a2, vs2, ea2, s2, q2⟩ := RV.list hr (x := .d (.ref n)) (RD.ref (g.gr.pre _ _ hn)) gh
          cases ea2
          exact ⟨vs2, s2, q2⟩
        | _ => cases e
      | tw o =>
        cases o with
        | lst ds =>
          obtain ⟨a2, ea2, ha, vs2, h1, h2⟩ := rx
          cases ea2
          cases e
          rcases ncp with rfl | ncp
          · exact .lst fun h1' ρ1 U1 H1 hr g o gh => ⟨vs2, SqL.of ((o rfl a ha).trans h1), h2.grow g.gr⟩
          · exact absurd rfl (ncp _)
        | _ => cases e
      | bw o =>
        cases o with
        | lst ds =>
          obtain ⟨a2, ea2, ha, vs2, h1, h2⟩ := rx
          cases ea2
          cases e
          exact .lst fun h1' ρ1 U1 H1 hr g o gh => ⟨vs2, SqL.of ((g.own a ha).trans h1), h2.grow g.gr⟩
        | _ => cases e
  have len : (enumD xs).length = xs.length := by simp [enumD]
  constructor
  · intro i y h1 ρ1 U1 H1 hr1 g o gh ey
    have hi : i < xs.length := by
      have := (List.getElem?_eq_some_iff.mp ey).1
      omega
    obtain ⟨z, ez⟩ : ∃ z, xs[i]? = some z := ⟨_, List.getElem?_eq_getElem hi⟩
    have ey' : y = .tup [.int (i : Int), z] := by
      simp [enumD, List.getElem?_mapIdx, ez] at ey
      exact ey.symm
    subst ey'
    obtain ⟨⟨us, u, su, eu⟩, jy⟩ := wk.go i z h1 ρ1 U1 H1 hr1 g o (nt _ gh) ez
    refine ⟨⟨us, u, su, eu⟩, fun w H2 yl => ?_⟩
    obtain ⟨T, u2, rfl, hT, rfl, all⟩ := yl
    obtain ⟨_, _, rd⟩ := jy u2 H1 ⟨rfl, all⟩
    have l := hr1.laid hT (.tup [.int (i : Nat), u2])
    exact ⟨l.1, l.2, hr1.new_tup hT (.cons (.int _) (.cons rd .nil))⟩
  · intro i h1 ρ1 U1 H1 hr1 g o gh ei
    exact wk.stop i h1 ρ1 U1 H1 hr1 g o (nt _ gh) (by omega)
theorem zipD_at : ∀ {as bs : List D} {i : Nat} {p : D}, (zipD as bs)[i]? = some p → ∃ x y, p = .tup [x, y] ∧ as[i]? = some x ∧ bs[i]? = some y
  | [], _, i, p, e => by simp [zipD] at e
  | _ :: _, [], i, p, e => by simp [zipD] at e
  | x :: as, y :: bs, 0, p, e => by simp [zipD] at e; exact ⟨x, y, e.symm, rfl, rfl⟩
  | x :: as, y :: bs, i + 1, p, e => by
    obtain ⟨u, w, h1, h2, h3⟩ := zipD_at (as := as) (bs := bs) (i := i) (p := p) (by simpa [zipD] using e)
    exact ⟨u, w, h1, by simpa using h2, by simpa using h3⟩
theorem zipD_len : ∀ {as bs : List D}, (zipD as bs).length = min as.length bs.length
  | [], _ => by simp [zipD]
  | _ :: _, [] => by simp [zipD]
  | x :: as, y :: bs => by simp [zipD, zipD_len (as := as) (bs := bs)]
theorem Wlk.zipT {C : Nat → Addr} {K : PySem.W.Frag} {ω ρ U : List Addr} {H : Hp} {as bs : List D} {v u : V} {cp : Bool} (rx : RV C K ω ρ U H (.d (.tup as)) v) (ry : RV C K ω ρ U H (.d (.tup bs)) u) :
    ∃ a b vs us, v = .ref a ∧ u = .ref b ∧ SqT K H a vs ∧ SqT K H b us ∧ Wlk C K ω ρ U H (zipD as bs) (fun _ => True) cp (RZ.ItzT K a b) := by
  cases rx with
  | tup s1 r1 =>
  cases ry with
  | tup s2 r2 =>
  refine ⟨_, _, _, _, rfl, rfl, SqT.of s1, SqT.of s2, ⟨fun i p h1 ρ1 U1 H1 hr1 g o _ ep => ?_, fun i h1 ρ1 U1 H1 hr1 g o _ hi => ?_⟩⟩
  · obtain ⟨x, y, rfl, ex, ey⟩ := zipD_at ep
    obtain ⟨w1, e1, rw1⟩ := r1.get ex
    obtain ⟨w2, e2, rw2⟩ := r2.get ey
    refine ⟨⟨_, _, w1, w2, SqT.of (g.gr.tup _ _ s1), SqT.of (g.gr.tup _ _ s2), e1, e2⟩, fun z H2 yl => ?_⟩
    obtain ⟨T, a1, b1, rfl, hT, rfl, q1, q2⟩ := yl
    have f1 := q1 _ (SqT.of (g.gr.tup _ _ s1))
    have f2 := q2 _ (SqT.of (g.gr.tup _ _ s2))
    rw [e1] at f1
    rw [e2] at f2
    cases f1
    cases f2
    have l := hr1.laid hT (.tup [w1, w2])
    exact ⟨l.1, l.2, hr1.new_tup hT (.cons (rw1.grow g.gr) (.cons (rw2.grow g.gr) .nil))⟩
  · rw [zipD_len] at hi
    have l1 := r1.length
    have l2 := r2.length
    exact ⟨_, _, SqT.of (g.gr.tup _ _ s1), SqT.of (g.gr.tup _ _ s2), by omega⟩
theorem noBool {N : List Str} {nm : NT} {cn : Nat → Option Str} {q : CE} {sc : Scope} {op : BoolOp} {xs : List Expr} {p : Pos} (ho : okTest q = true) (h : chkE N nm cn q sc (.BoolOp op xs p) = true) : False := by
  cases q with
  | andV _ _ => cases ho
  | orV _ _ => cases ho
  | notV _ => cases ho
  | ite _ _ _ => cases ho
  | fzOf l => cases l <;> simp [chkE, chkL] at h
  | newL l => cases l <;> simp [chkE, chkL] at h
  | bi b es => unfold chkE at h; cases h
  | _ => simp [chkE] at h
theorem consA {a : CE} {r : CEs} {X : Cx} {W : WX} {x : Expr} {xs : List Expr} (pa : PE X x (tE C X.K W Γ (cval cs) a)) (pr : PA X xs (tEs C X.K W Γ (cval cs) r)) (st : notStar x = true) : PA X (x :: xs) (tEs C X.K W Γ (cval cs) (.cons a r)) := by
  refine PA.imp (pa_cons pa pr (star_cons st)) fun σ H Q ⟨ω, β, ρ, U, env, h, Q', X', rs, w, hq, hx⟩ => ?_
  exact ⟨ω, β, ρ, U, env, h, _, X', rs, w, fun d v h1 ρ1 H1 rs1 g1 rv1 w1 => ⟨ω, β, ρ1, U, env, h1, _, X', rs1, w1, fun e u h2 ρ2 H2 rs2 g2 rv2 w2 =>
    hq _ _ _ _ _ rs2 (g1.trans g2) (.cons (rv1.step g2) rv2) w2, upX g1 hx⟩, hx⟩
mutual
theorem soundE : ∀ (c : CE) {X : Cx} {sc : Scope} {W : WX} {e : Expr}, CC C Γ nm cs k N X → X.env.scope = sc → Takes X W → chkE N nm (cnam cs) c sc e = true → PE X e (tE C X.K W Γ (cval cs) c)
  | .var i, X, sc, W, e, cc, hs, tk, h => by
    cases e with
    | Name x p =>
      simp only [chkE, Bool.and_eq_true] at h
      obtain ⟨v1, v2, v3⟩ := visB_ok h.2
      refine PE.imp (pe_var (i := i) (by rw [cc.hN]; exact nameAt_ok h.1) (by rw [hs]; exact v1) v2 v3) fun σ H Q ⟨ω, β, ρ, U, env, h, Q', X', rs, ⟨s, es, q⟩, hq, hx⟩ => ?_
      obtain ⟨v, ev, rv⟩ := rs.sl i s es
      exact ⟨v, ev, hq _ _ _ _ _ rs .refl rv.rv q⟩
    | _ => simp [chkE] at h
  | .int i, X, sc, W, e, cc, hs, tk, h => by
    cases e with
    | Constant c n p =>
      cases c with
      | int j =>
        have e : i = j := by simpa [chkE] using h
        subst e
        exact PE.imp pe_int fun σ H Q ⟨ω, β, ρ, U, env, h, Q', X', rs, w, hq, hx⟩ => hq _ _ _ _ _ rs .refl (.int _) w
      | _ => simp [chkE] at h
    | _ => simp [chkE] at h
  | .bl i, X, sc, W, e, cc, hs, tk, h => by
    cases e with
    | Constant c n p =>
      cases c with
      | bool j =>
        have e : i = j := by simpa [chkE] using h
        subst e
        exact PE.imp pe_bl fun σ H Q ⟨ω, β, ρ, U, env, h, Q', X', rs, w, hq, hx⟩ => hq _ _ _ _ _ rs .refl (.bl _) w
      | _ => simp [chkE] at h
    | _ => simp [chkE] at h
  | .non, X, sc, W, e, cc, hs, tk, h => by
    cases e with
    | Constant c n p =>
      cases c with
      | none => exact PE.imp pe_non fun σ H Q ⟨ω, β, ρ, U, env, h, Q', X', rs, w, hq, hx⟩ => hq _ _ _ _ _ rs .refl .non w
      | _ => simp [chkE] at h
    | _ => simp [chkE] at h
  | .str i, X, sc, W, e, cc, hs, tk, h => by
    cases e with
    | Constant c n p =>
      cases c with
      | str j =>
        have e : i = j := by simpa [chkE] using h
        subst e
        exact PE.imp pe_str fun σ H Q ⟨ω, β, ρ, U, env, h, Q', X', rs, w, hq, hx⟩ => hq _ _ _ _ _ rs .refl (.str _) w
      | _ => simp [chkE] at h
    | _ => simp [chkE] at h
  | .glob j, X, sc, W, e, cc, hs, tk, h => by
    cases e with
    | Name x p =>
      simp only [chkE, Bool.and_eq_true] at h
      obtain ⟨g1, g2⟩ := glB_ok hs h.1
      have h2 := h.2
      cases ec : cs j with
      | none => simp [cnam, ec] at h2
      | some q =>
        obtain ⟨y, d⟩ := q
        have ey : y = x := by simpa [cnam, ec] using h2
        subst ey
        obtain ⟨u, v, hm, rv, rd⟩ := cc.cst j y d ec
        refine PE.imp (pe_glob g1 hm rv g2) fun σ H Q ⟨ω, β, ρ, U, env, h, Q', X', rs, ⟨d', ed, w⟩, hq, hx⟩ => ?_
        have : d' = d := by simpa [cval, ec] using ed.symm
        subst this
        exact hq (.d d') _ _ _ _ rs .refl (rd _ _ _) w
    | _ => simp [chkE] at h
  | .bin o a b, X, sc, W, e, cc, hs, tk, h => by
    cases e with
    | BinOp x op y p =>
      simp only [chkE, Bool.and_eq_true, decide_eq_true_eq] at h
      obtain ⟨⟨rfl, ha⟩, hb⟩ := h
      have pa := soundE a cc hs tk ha
      have pb := soundE b cc hs tk hb
      refine PE.imp (pe_op (op_bin o) pa pb) fun σ H Q ⟨ω, β, ρ, U, env, h, Q', X', rs, w, hq, hx⟩ => ?_
      exact ⟨ω, β, ρ, U, env, h, _, X', rs, w, fun d v h1 ρ1 H1 rs1 g1 rv1 w1 => ⟨ω, β, ρ1, U, env, h1, _, X', rs1, w1, fun e u h2 ρ2 H2 rs2 g2 rv2 w2 => by
        obtain ⟨d', e', rfl, rfl, w2⟩ := w2
        exact bin_ok rs2.hr (RV.step g2 rv1) rv2 w2 (endD rs2 (g1.trans g2) hq), upX g1 hx⟩, hx⟩
    | _ => simp [chkE] at h
  | .neg a, X, sc, W, e, cc, hs, tk, h => by
    cases e with
    | UnaryOp op x p =>
      cases op with
      | USub =>
        have pa := soundE a cc hs tk (by simpa [chkE] using h)
        refine PE.imp (pe_un un_neg pa) fun σ H Q ⟨ω, β, ρ, U, env, h, Q', X', rs, w, hq, hx⟩ => ?_
        exact ⟨ω, β, ρ, U, env, h, _, X', rs, w, fun d v h1 ρ1 H1 rs1 g1 rv1 w1 => by
          obtain ⟨i, rfl, w1⟩ := w1
          cases rv1
          exact ⟨i, rfl, hq _ _ _ _ _ rs1 g1 (.int _) w1⟩, hx⟩
      | _ => simp [chkE] at h
    | _ => simp [chkE] at h
  | .cmp o a b, X, sc, W, e, cc, hs, tk, h => by
    cases e with
    | Compare x ops ys p =>
      match ops, ys, h with
      | [op], [y], h =>
        simp only [chkE, Bool.and_eq_true, decide_eq_true_eq, Bool.not_eq_true'] at h
        obtain ⟨⟨⟨rfl, hm⟩, ha⟩, hb⟩ := h
        have pa := soundE a cc hs tk ha
        have pb := soundE b cc hs tk hb
        refine PE.imp (pe_cmpR (op_cmp cc.room o) pa pb hm) fun σ H Q ⟨ω, β, ρ, U, env, h, Q', X', rs, w, hq, hx⟩ => ?_
        exact ⟨ω, β, ρ, U, env, h, _, X', rs, w, fun d v h1 ρ1 H1 rs1 g1 rv1 w1 => ⟨ω, β, ρ1, U, env, h1, _, X', rs1, w1, fun e u h2 ρ2 H2 rs2 g2 rv2 w2 =>
          cmp_ok rs2.hr (rv1.step g2) rv2 w2 (endD rs2 (g1.trans g2) hq), upX g1 hx⟩, hx⟩
      | [], _, h => simp [chkE] at h
      | _ :: _ :: _, _, h => simp [chkE] at h
      | [_], [], h => simp [chkE] at h
      | [_], _ :: _ :: _, h => simp [chkE] at h
    | _ => simp [chkE] at h
  | .chain o o' a b c, X, sc, W, e, cc, hs, tk, h => by
    cases e with
    | Compare x ops ys p =>
      match ops, ys, h with
      | [op, op'], [y, z], h =>
        simp only [chkE, Bool.and_eq_true, decide_eq_true_eq, Bool.not_eq_true'] at h
        obtain ⟨⟨⟨⟨⟨rfl, rfl⟩, hm⟩, ha⟩, hb⟩, hc⟩ := h
        have pa := soundE a cc hs tk ha
        have pb := soundE b cc hs tk hb
        have pc := soundE c cc hs tk hc
        refine PE.imp (pe_chain (op_cmp cc.room o) (op_cmp cc.room o') pa pb pc hm) fun σ H Q ⟨ω, β, ρ, U, env, h, Q', X', rs, w, hq, hx⟩ => ?_
        exact ⟨ω, β, ρ, U, env, h, _, X', rs, w, fun d v h1 ρ1 H1 rs1 g1 rv1 w1 => ⟨ω, β, ρ1, U, env, h1, _, X', rs1, w1, fun e u h2 ρ2 H2 rs2 g2 rv2 w2 =>
          cmp_ok rs2.hr (rv1.step g2) rv2 w2 (fun zd zv H3 hr3 st3 rd3 w3 => by
            obtain ⟨kk, rfl, w3⟩ := w3
            cases rd3
            refine ⟨kk, rfl, ?_⟩
            have rs3 := rs2.step hr3 st3
            by_cases hk : kk = true
            · rw [if_pos hk] at w3 ⊢
              exact ⟨ω, β, ρ2, U, env, h2, _, X', rs3, w3, fun f t h4 ρ4 H4 rs4 g4 rv4 w4 => cmp_ok rs4.hr ((rv2.step st3).step g4) rv4 w4 (endD rs4 (((g1.trans g2).trans st3).trans g4) hq), upX ((g1.trans g2).trans st3) hx⟩
            · rw [if_neg hk] at w3 ⊢
              exact hq _ _ _ _ _ rs3 ((g1.trans g2).trans st3) (.bl _) w3), upX g1 hx⟩, hx⟩
      | [], _, h => simp [chkE] at h
      | [_], _, h => simp [chkE] at h
      | _ :: _ :: _ :: _, _, h => simp [chkE] at h
      | [_, _], [], h => simp [chkE] at h
      | [_, _], [_], h => simp [chkE] at h
      | [_, _], _ :: _ :: _ :: _, h => simp [chkE] at h
    | _ => simp [chkE] at h
  | .andV a b, X, sc, W, e, cc, hs, tk, h => by
    cases e with
    | BoolOp op xs p =>
      cases op with
      | Or => simp [chkE] at h
      | And =>
      match xs, h with
      | [x, y], h =>
        simp only [chkE, Bool.and_eq_true] at h
        have pa := soundE a cc hs tk h.1
        have pb := soundE b cc hs tk h.2
        refine PE.imp (pe_and pa (pe_one pb)) fun σ H Q ⟨ω, β, ρ, U, env, h, Q', X', rs, w, hq, hx⟩ => ?_
        exact ⟨ω, β, ρ, U, env, h, _, X', rs, w, fun d v h1 ρ1 H1 rs1 g1 rv1 w1 => by
          obtain ⟨kk, rfl, w1⟩ := w1
          cases rv1
          refine ⟨kk, rfl, ?_⟩
          by_cases hk : kk = true
          · rw [if_pos hk] at w1 ⊢
            exact ⟨ω, β, ρ1, U, env, h1, Q', X', rs1, w1, fun e u h2 ρ2 H2 rs2 g2 rv2 w2 => hq _ _ _ _ _ rs2 (g1.trans g2) rv2 w2, upX g1 hx⟩
          · rw [if_neg hk] at w1 ⊢
            exact hq _ _ _ _ _ rs1 g1 (.bl _) w1, hx⟩
      | x :: y :: z :: r, h =>
        simp only [chkE, Bool.and_eq_true] at h
        have pa := soundE a cc hs tk h.1
        have pb := soundE b cc hs tk h.2
        refine PE.imp (pe_and pa pb) fun σ H Q ⟨ω, β, ρ, U, env, h, Q', X', rs, w, hq, hx⟩ => ?_
        exact ⟨ω, β, ρ, U, env, h, _, X', rs, w, fun d v h1 ρ1 H1 rs1 g1 rv1 w1 => by
          obtain ⟨kk, rfl, w1⟩ := w1
          cases rv1
          refine ⟨kk, rfl, ?_⟩
          by_cases hk : kk = true
          · rw [if_pos hk] at w1 ⊢
            exact ⟨ω, β, ρ1, U, env, h1, Q', X', rs1, w1, fun e u h2 ρ2 H2 rs2 g2 rv2 w2 => hq _ _ _ _ _ rs2 (g1.trans g2) rv2 w2, upX g1 hx⟩
          · rw [if_neg hk] at w1 ⊢
            exact hq _ _ _ _ _ rs1 g1 (.bl _) w1, hx⟩
      | [], h => simp [chkE] at h
      | [_], h => simp [chkE] at h
    | _ => simp [chkE] at h
  | .orV a b, X, sc, W, e, cc, hs, tk, h => by
    cases e with
    | BoolOp op xs p =>
      cases op with
      | And => simp [chkE] at h
      | Or =>
      match xs, h with
      | [x, y], h =>
        simp only [chkE, Bool.and_eq_true] at h
        have pa := soundE a cc hs tk h.1
        have pb := soundE b cc hs tk h.2
        refine PE.imp (pe_or pa (pe_one pb)) fun σ H Q ⟨ω, β, ρ, U, env, h, Q', X', rs, w, hq, hx⟩ => ?_
        exact ⟨ω, β, ρ, U, env, h, _, X', rs, w, fun d v h1 ρ1 H1 rs1 g1 rv1 w1 => by
          obtain ⟨kk, rfl, w1⟩ := w1
          cases rv1
          refine ⟨kk, rfl, ?_⟩
          by_cases hk : kk = true
          · rw [if_pos hk] at w1 ⊢
            exact hq _ _ _ _ _ rs1 g1 (.bl _) w1
          · rw [if_neg hk] at w1 ⊢
            exact ⟨ω, β, ρ1, U, env, h1, Q', X', rs1, w1, fun e u h2 ρ2 H2 rs2 g2 rv2 w2 => hq _ _ _ _ _ rs2 (g1.trans g2) rv2 w2, upX g1 hx⟩, hx⟩
      | x :: y :: z :: r, h =>
        simp only [chkE, Bool.and_eq_true] at h
        have pa := soundE a cc hs tk h.1
        have pb := soundE b cc hs tk h.2
        refine PE.imp (pe_or pa pb) fun σ H Q ⟨ω, β, ρ, U, env, h, Q', X', rs, w, hq, hx⟩ => ?_
        exact ⟨ω, β, ρ, U, env, h, _, X', rs, w, fun d v h1 ρ1 H1 rs1 g1 rv1 w1 => by
          obtain ⟨kk, rfl, w1⟩ := w1
          cases rv1
          refine ⟨kk, rfl, ?_⟩
          by_cases hk : kk = true
          · rw [if_pos hk] at w1 ⊢
            exact hq _ _ _ _ _ rs1 g1 (.bl _) w1
          · rw [if_neg hk] at w1 ⊢
            exact ⟨ω, β, ρ1, U, env, h1, Q', X', rs1, w1, fun e u h2 ρ2 H2 rs2 g2 rv2 w2 => hq _ _ _ _ _ rs2 (g1.trans g2) rv2 w2, upX g1 hx⟩, hx⟩
      | [], h => simp [chkE] at h
      | [_], h => simp [chkE] at h
    | _ => simp [chkE] at h
  | .notV a, X, sc, W, e, cc, hs, tk, h => by
    cases e with
    | UnaryOp op x p =>
      cases op with
      | Not =>
        have pa := soundE a cc hs tk (by simpa [chkE] using h)
        refine PE.imp (pe_notT pa) fun σ H Q ⟨ω, β, ρ, U, env, h, Q', X', rs, w, hq, hx⟩ => ?_
        exact ⟨ω, β, ρ, U, env, h, _, X', rs, w, fun d v h1 ρ1 H1 rs1 g1 rv1 w1 => by
          obtain ⟨b, eb, w1⟩ := w1
          exact ⟨b, tru_rel rs1.hr rv1 eb, hq _ _ _ _ _ rs1 g1 (.bl _) w1⟩, hx⟩
      | _ => simp [chkE] at h
    | _ => simp [chkE] at h
  | .ite t a b, X, sc, W, e, cc, hs, tk, h => by
    cases e with
    | IfExp c x y p =>
      simp only [chkE, Bool.and_eq_true] at h
      obtain ⟨⟨ht, ha⟩, hb⟩ := h
      have pt := soundT t cc hs tk ht
      have pa := soundE a cc hs tk ha
      have pb := soundE b cc hs tk hb
      refine PE.imp (pe_ifExp pt.1 pa pb) fun σ H Q ⟨ω, β, ρ, U, env, h, Q', X', rs, w, hq, hx⟩ => ?_
      exact ⟨ω, β, ρ, U, env, h, _, X', rs, w, fun d v h1 ρ1 H1 rs1 g1 ev w1 => by
        subst ev
        by_cases hk : d = true
        · rw [if_pos hk] at w1 ⊢
          exact ⟨ω, β, ρ1, U, env, h1, Q', X', rs1, w1, fun e u h2 ρ2 H2 rs2 g2 rv2 w2 => hq _ _ _ _ _ rs2 (g1.trans g2) rv2 w2, upX g1 hx⟩
        · rw [if_neg hk] at w1 ⊢
          exact ⟨ω, β, ρ1, U, env, h1, Q', X', rs1, w1, fun e u h2 ρ2 H2 rs2 g2 rv2 w2 => hq _ _ _ _ _ rs2 (g1.trans g2) rv2 w2, upX g1 hx⟩, hx⟩
    | _ => simp [chkE] at h
  | .tup es, X, sc, W, e, cc, hs, tk, h => by
    cases e with
    | Tuple xs kk p =>
      have pa := soundEs es cc hs tk (es := xs) (by simpa [chkE] using h)
      refine PE.imp (pe_tup pa) fun σ H Q ⟨ω, β, ρ, U, env, h, Q', X', rs, w, hq, hx⟩ => ?_
      exact ⟨ω, β, ρ, U, env, h, _, X', rs, w, fun d v h1 ρ1 H1 rs1 g1 rv1 w1 => by
        obtain ⟨ds, rfl, hl, w1⟩ := w1
        have r := map_d rv1
        refine ⟨by rw [← r.length]; exact hl, fun p hp => ?_⟩
        exact hq (.d (.tup ds)) _ _ _ _ (rs1.step (rs1.hr.laid hp _).1 (rs1.hr.laid hp _).2) (g1.trans (rs1.hr.laid hp _).2) (rs1.hr.new_tup hp r) w1, hx⟩
    | _ => simp [chkE] at h
  | .ix a b, X, sc, W, e, cc, hs, tk, h => by
    cases e with
    | Subscript x y p =>
      simp only [chkE, Bool.and_eq_true] at h
      have pa := soundE a cc hs tk h.1
      have pb := soundE b cc hs tk h.2
      have pl : PlainIx y := fun o i => by
        have q := (plainE h.2).slice
        cases y <;> first | rfl | exact absurd rfl (q _ _ _ _)
      refine PE.imp (pe_ix (ix_all cc.room) pa pb pl) fun σ H Q ⟨ω, β, ρ, U, env, h, Q', X', rs, w, hq, hx⟩ => ?_
      exact ⟨ω, β, ρ, U, env, h, _, X', rs, w, fun d v h1 ρ1 H1 rs1 g1 rv1 w1 => ⟨ω, β, ρ1, U, env, h1, _, X', rs1, w1, fun e u h2 ρ2 H2 rs2 g2 rv2 w2 =>
        ix_ok rs2.hr (rv1.step g2) rv2 w2 (endD rs2 (g1.trans g2) hq), upX g1 hx⟩, hx⟩
    | _ => simp [chkE] at h
  | .slc a lo hi, X, sc, W, e, cc, hs, tk, h => by
    cases e with
    | Subscript x y p =>
      cases y with
      | Slice l u s q =>
        cases s with
        | some _ => simp [chkE] at h
        | none =>
        simp only [chkE, Bool.and_eq_true] at h
        obtain ⟨⟨ha, hl⟩, hu⟩ := h
        have pa := soundE a cc hs tk ha
        have pl := soundO lo cc hs tk hl
        have pu := soundO hi cc hs tk hu
        refine PE.imp (pe_slice sl_tupA pa pl pu) fun σ H Q ⟨ω, β, ρ, U, env, h, Q', X', rs, w, hq, hx⟩ => ?_
        exact ⟨ω, β, ρ, U, env, h, _, X', rs, w, fun d v h1 ρ1 H1 rs1 g1 rv1 w1 => ⟨ω, β, ρ1, U, env, h1, _, X', rs1, w1, fun i i' h2 ρ2 H2 rs2 g2 ei w2 =>
          ⟨ω, β, ρ2, U, env, h2, _, X', rs2, w2, fun j j' h3 ρ3 H3 rs3 g3 ej w3 => by
            subst ei; subst ej
            obtain ⟨xs, rfl, w3⟩ := w3
            have rv3 := (rv1.step g2).step g3
            have gg := (g1.trans g2).trans g3
            cases rv3 with
            | tup s r =>
            refine ⟨_, _, rfl, SqT.of s, fun hw => ?_, fun hw p hp => ?_⟩
            · refine hq (.d (.tup _)) _ _ _ _ rs3 gg ?_ w3
              rw [cutD_whole r.length hw]
              exact .tup s r
            · exact hq (.d (.tup _)) _ _ _ _ (rs3.step (rs3.hr.laid hp _).1 (rs3.hr.laid hp _).2) (gg.trans (rs3.hr.laid hp _).2) (rs3.hr.new_tup hp (cutD_rel r i j)) w3, upX (g1.trans g2) hx⟩, upX g1 hx⟩, hx⟩
      | _ => simp [chkE] at h
    | _ => simp [chkE] at h
  | .call f es, X, sc, W, e, cc, hs, tk, h => by
    cases e with
    | Call fn xs kw p =>
      cases fn with
      | Name x pn =>
        cases kw with
        | cons _ _ => cases xs <;> simp [chkE] at h
        | nil =>
        cases xs with
        | nil => simp [chkE] at h
        | cons y ys =>
        simp only [chkE, Bool.and_eq_true] at h
        obtain ⟨⟨hg, hf⟩, he⟩ := h
        obtain ⟨g1, g2⟩ := glB_ok hs hg
        cases en : nm f with
        | none => rw [en] at hf; cases hf
        | some z =>
          rw [en] at hf
          have ez : z = x := of_decide_eq_true hf
          subst ez
          obtain ⟨fa, fd, ps, hm, hk, hb, F⟩ := cc.fns f z en
          have pa := soundEs es cc hs tk he
          have st := chkEs_star he
          refine PE.imp (pe_callSD (dvs := []) (ds := []) (E := fun σ cls d H => W cls d σ H) F cc.room g1 hm hk hb .nil (fun σ => passAt tk σ) pa g2 (star_cons (st y (by simp))) (star_any fun e he => st e (by simp [he])))
            fun σ H Q ⟨ω, β, ρ, U, env, h, Q', X', rs, w, hq, hx⟩ => ?_
          exact ⟨ω, β, ρ, U, env, h, _, X', rs, w, fun d v h1 ρ1 H1 rs1 g1 rv1 w1 => by
            show spI C X.K Γ f (v ++ []) H1 Q (fun cls d H => W cls d σ H)
            rw [List.append_nil]
            exact spI_call rs1 rv1 w1 (fun r v h' ρ' U' H' rs' g' hr' gr' rr' q' => by
              obtain ⟨d, rd, q⟩ := rr'.rd hr' q'
              exact hq _ _ _ _ _ rs' (g1.trans g') rd q) (upX g1 hx), hx⟩
      | _ => simp [chkE] at h
    | _ => simp [chkE] at h
  | .bi b es, X, sc, W, e, cc, hs, tk, h => by
    cases e with
    | Call fn ys kw p =>
      cases fn with
      | Name x pn =>
        cases kw with
        | cons _ _ => unfold chkE at h; cases h
        | nil =>
        unfold chkE at h
        simp only [Bool.and_eq_true, decide_eq_true_eq] at h
        obtain ⟨⟨⟨hg, rfl⟩, hb⟩, h4⟩ := h
        obtain ⟨g1, g2⟩ := glB_ok hs hg
        have hm := cc.blt _ (blt_mem b)
        cases eb : b.isIsi with
        | true =>
          rw [eb] at h4
          cases es with
          | nil => simp at h4
          | cons a r =>
          cases r with
          | cons _ _ => simp at h4
          | nil =>
          match ys, h4 with
          | [], h4 => simp at h4
          | [_], h4 => simp at h4
          | _ :: _ :: _ :: _, h4 => simp at h4
          | [y, z], h4 =>
            cases z with
            | Name t pt =>
              simp only [Bool.and_eq_true, decide_eq_true_eq] at h4
              obtain ⟨⟨ha, ht⟩, et⟩ := h4
              cases b with
              | isI T =>
                obtain ⟨t1, t2⟩ := glB_ok hs ht
                have hT : T = "int" ∨ T = "bool" ∨ T = "tuple" ∨ T = "list" ∨ T = "str" := by
                  simp only [BI.okT, Bool.or_eq_true, beq_iff_eq] at hb
                  rcases hb with (((h | h) | h) | h) | h
                  · exact .inl h
                  · exact .inr (.inl h)
                  · exact .inr (.inr (.inl h))
                  · exact .inr (.inr (.inr (.inl h)))
                  · exact .inr (.inr (.inr (.inr h)))
                obtain ⟨v1, v2, v3⟩ := ty_val hT
                have et' : t = PySem.Str.ofString T := et
                subst et'
                have pa := soundE a cc hs tk ha
                have pt : PE X (.Name (PySem.Str.ofString T) pt) (tC (.ty T)) := pe_bltn t1 (cc.blt _ v2) v1 rfl v3 t2
                refine PE.imp (pe_callB (call_bi cc.calm (.isI T)) g1 hm (blt_val (.isI T)) (pa_cons pa (pa_cons pt pa_nil (star_cons rfl)) (star_cons (plainE ha).star)) (blt_name _) g2 (star_cons (plainE ha).star) rfl) fun σ H Q ⟨ω, β, ρ, U, env, h, Q', X', rs, w, hq, hx⟩ => ?_
                exact ⟨ω, β, ρ, U, env, h, _, X', rs, w, fun d v h1 ρ1 H1 rs1 g1 rv1 w1 =>
                  bi_ok (vs := [v]) (P := fun z => Q' (.d z) h1) rs1.hr hb (.cons rv1 .nil) w1 (endD rs1 g1 hq), hx⟩
              | _ => cases eb
            | _ => simp at h4
        | false =>
          rw [eb] at h4
          cases es with
          | nil => simp at h4
          | cons a r =>
          match ys, h4 with
          | [], h4 => simp at h4
          | y :: ys, h4 =>
            have he : chkEs N nm (cnam cs) (.cons a r) sc (y :: ys) = true := by simpa [chkEs] using h4
            have h5 := h4
            simp only [Bool.and_eq_true] at h5
            have pa := consA (soundE a cc hs tk h5.1) (soundEs r cc hs tk h5.2) (plainE h5.1).star
            have st := chkEs_star he
            have em : b.more = [] := by cases b <;> first | rfl | cases eb
            have hp : PE X (.Call (.Name b.name pn) (y :: ys) [] p) (tCB (rBi X.K b) (tEs C X.K W Γ (cval cs) (.cons a r))) := by
              have s1 := star_cons (es := ys) (env := X.env) (st y (by simp))
              have s2 := star_any (es := ys) (env := X.env) (pos := p) fun e he => st e (by simp [he])
              cases b with
              | intOf => exact pe_callTy (call_bi cc.calm .intOf) g1 hm (blt_val .intOf) pa (blt_name _) g2 s1 s2
              | isI T => cases eb
              | len => exact pe_callB (call_bi cc.calm .len) g1 hm (blt_val .len) pa (blt_name _) g2 s1 s2
              | abs => exact pe_callB (call_bi cc.calm .abs) g1 hm (blt_val .abs) pa (blt_name _) g2 s1 s2
              | min2 => exact pe_callB (call_bi cc.calm .min2) g1 hm (blt_val .min2) pa (blt_name _) g2 s1 s2
              | max2 => exact pe_callB (call_bi cc.calm .max2) g1 hm (blt_val .max2) pa (blt_name _) g2 s1 s2
              | sumL => exact pe_callB (call_bi cc.calm .sumL) g1 hm (blt_val .sumL) pa (blt_name _) g2 s1 s2
              | maxL => exact pe_callB (call_bi cc.calm .maxL) g1 hm (blt_val .maxL) pa (blt_name _) g2 s1 s2
              | minL => exact pe_callB (call_bi cc.calm .minL) g1 hm (blt_val .minL) pa (blt_name _) g2 s1 s2
              | allL => exact pe_callB (call_bi cc.calm .allL) g1 hm (blt_val .allL) pa (blt_name _) g2 s1 s2
              | anyL => exact pe_callB (call_bi cc.calm .anyL) g1 hm (blt_val .anyL) pa (blt_name _) g2 s1 s2
            refine PE.imp hp fun σ H Q ⟨ω, β, ρ, U, env, h, Q', X', rs, w, hq, hx⟩ => ?_
            exact ⟨ω, β, ρ, U, env, h, _, X', rs, w, fun d v h1 ρ1 H1 rs1 g1 rv1 w1 => by
              have q := bi_ok rs1.hr hb rv1 w1 (endD rs1 g1 hq)
              rw [em, List.append_nil] at q
              exact q, hx⟩
      | _ => unfold chkE at h; cases h
    | _ => unfold chkE at h; cases h
  | .tupOf l, X, sc, W, e, cc, hs, tk, h => by
    cases e with
    | Call fn ys kw p =>
      cases fn with
      | Name x pn =>
        match ys, kw, h with
        | [y], [], h =>
          simp only [chkE, Bool.and_eq_true, decide_eq_true_eq] at h
          obtain ⟨⟨hg, rfl⟩, hl⟩ := h
          obtain ⟨g1, g2⟩ := glB_ok hs hg
          have pl := soundL l cc hs tk hl
          have s1 := star_cons (es := []) (env := X.env) (plainL hl).star
          refine PE.imp (pe_callTy call_tuple_of g1 (cc.blt _ (by decide +kernel)) (by decide +kernel) (pa_cons pl pa_nil s1) (by decide +kernel) g2 s1 rfl) fun σ H Q ⟨ω, β, ρ, U, env, h, Q', X', rs, w, hq, hx⟩ => ?_
          exact ⟨ω, β, ρ, U, env, h, _, X', rs, w, fun d v h1 ρ1 H1 rs1 g1 rv1 w1 p hp => by
            have l1 := rs1.hr.laid hp (.lst v)
            refine ⟨p, v, rfl, .inl ⟨SqL.of upd_same, fun q hq' => ?_⟩⟩
            have rs2 := rs1.step l1.1 l1.2
            have l2 := rs2.hr.laid hq' (.tup v)
            exact hq (.d (.tup d)) _ _ _ _ (rs2.step l2.1 l2.2) ((g1.trans l1.2).trans l2.2) (rs2.hr.new_tup hq' (rv1.grow l1.2.gr)) w1, hx⟩
        | [], _, h => simp [chkE] at h
        | _ :: _ :: _, _, h => simp [chkE] at h
        | [_], _ :: _, h => simp [chkE] at h
      | _ => simp [chkE] at h
    | _ => simp [chkE] at h
  | .tupE a, X, sc, W, e, cc, hs, tk, h => by
    cases e with
    | Call fn ys kw p =>
      cases fn with
      | Name x pn =>
        match ys, kw, h with
        | [y], [], h =>
          simp only [chkE, Bool.and_eq_true, decide_eq_true_eq] at h
          obtain ⟨⟨hg, rfl⟩, hl⟩ := h
          obtain ⟨g1, g2⟩ := glB_ok hs hg
          have pl := soundE a cc hs tk hl
          have s1 := star_cons (es := []) (env := X.env) (plainE hl).star
          refine PE.imp (pe_callTy call_tuple_of g1 (cc.blt _ (by decide +kernel)) (by decide +kernel) (pa_cons pl pa_nil s1) (by decide +kernel) g2 s1 rfl) fun σ H Q ⟨ω, β, ρ, U, env, h, Q', X', rs, w, hq, hx⟩ => ?_
          exact ⟨ω, β, ρ, U, env, h, _, X', rs, w, fun d v h1 ρ1 H1 rs1 g1 rv1 w1 => by
            obtain ⟨xs, ex, w1⟩ := w1
            have go : ∀ (a : Addr) (vs : List V), v = .ref a → SqL X.K H1 a vs → RDs X.K H1 ρ1 (ms ω ρ1 U) xs vs → ∃ p ys, [v] = [.ref p] ∧ ((SqL X.K H1 p ys ∧ ∀ l, H1 l = none → Q (.ref l) (upd H1 l (.tup ys))) ∨ (SqT X.K H1 p ys ∧ Q (.ref p) H1)) := fun a vs ev s r => by
              subst ev
              refine ⟨a, vs, rfl, .inl ⟨s, fun q hq' => ?_⟩⟩
              have l2 := rs1.hr.laid hq' (.tup vs)
              exact hq (.d (.tup xs)) _ _ _ _ (rs1.step l2.1 l2.2) (g1.trans l2.2) (rs1.hr.new_tup hq' r) w1
            unfold VV.seq at ex
            split at ex
            · cases ex
              cases rv1 with
              | tup s r => exact ⟨_, _, rfl, .inr ⟨SqT.of s, hq (.d (.tup _)) _ _ _ _ rs1 g1 (.tup s r) w1⟩⟩
            · obtain ⟨a, vs, ev, s, r⟩ := rv1.list rs1.hr ex
              exact go a vs ev s r, hx⟩
        | [], _, h => simp [chkE] at h
        | _ :: _ :: _, _, h => simp [chkE] at h
        | [_], _ :: _, h => simp [chkE] at h
      | _ => simp [chkE] at h
    | _ => simp [chkE] at h
  | .tupRev a, X, sc, W, e, cc, hs, tk, h => by
    cases e with
    | Call fn ys kw p =>
      cases fn with
      | Name x pn =>
        match ys, kw, h with
        | [yy], [], h =>
          cases yy with
          | Call f2 y2 k2 p2 =>
            cases f2 with
            | Name r pr =>
              match y2, k2, h with
              | [z], [], h =>
                simp only [chkE, Bool.and_eq_true, decide_eq_true_eq] at h
                obtain ⟨⟨⟨⟨hg, rfl⟩, hg2⟩, rfl⟩, hl⟩ := h
                obtain ⟨g1, g2⟩ := glB_ok hs hg
                obtain ⟨g3, g4⟩ := glB_ok hs hg2
                have pl := soundE a cc hs tk hl
                refine PE.imp (RT.pe_tupRev cc.calm g1 (cc.blt _ (by decide +kernel)) g3 (cc.blt _ (by decide +kernel)) pl (hs := star_cons (es := []) (env := X.env) (plainE hl).star)) fun σ H Q ⟨ω, β, ρ, U, env, h, Q', X', rs, w, hq, hx⟩ => ?_
                exact ⟨ω, β, ρ, U, env, h, _, X', rs, w, fun d v h1 ρ1 H1 rs1 g1 rv1 w1 => by
                  obtain ⟨xs, ex, w1⟩ := w1
                  obtain ⟨a, vs, rfl, s, r⟩ := rv1.list rs1.hr ex
                  refine ⟨a, vs, rfl, s, fun q hq' => ?_⟩
                  have l2 := rs1.hr.laid hq' (.tup vs.reverse)
                  exact hq (.d (.tup xs.reverse)) _ _ _ _ (rs1.step l2.1 l2.2) (g1.trans l2.2) (rs1.hr.new_tup hq' r.reverse) w1, hx⟩
              | [], _, h => simp [chkE] at h
              | _ :: _ :: _, _, h => simp [chkE] at h
              | [_], _ :: _, h => simp [chkE] at h
            | _ => simp [chkE] at h
          | _ => simp [chkE] at h
        | [], _, h => simp [chkE] at h
        | _ :: _ :: _, _, h => simp [chkE] at h
        | [_], _ :: _, h => simp [chkE] at h
      | _ => simp [chkE] at h
    | _ => simp [chkE] at h
  | .fzOf l, X, sc, W, e, cc, hs, tk, h => by
    have pl := soundL l cc hs tk (by simpa [chkE] using h)
    refine PE.imp pl fun σ H Q ⟨ω, β, ρ, U, env, h, Q', X', rs, w, hq, hx⟩ => ?_
    exact ⟨ω, β, ρ, U, env, h, _, X', rs, w, fun d v h1 ρ1 H1 rs1 g1 rv1 w1 p hp =>
      hq (.d (.fz d)) _ _ _ _ (rs1.step (rs1.hr.laid hp _).1 (rs1.hr.laid hp _).2) (g1.trans (rs1.hr.laid hp _).2) (rs1.hr.new_fz hp rv1) w1, hx⟩
  | .newL l, X, sc, W, e, cc, hs, tk, h => by
    have pl := soundL l cc hs tk (by simpa [chkE] using h)
    refine PE.imp pl fun σ H Q ⟨ω, β, ρ, U, env, h, Q', X', rs, w, hq, hx⟩ => ?_
    exact ⟨ω, β, ρ, U, env, h, _, X', rs, w, fun d v h1 ρ1 H1 rs1 g1 rv1 w1 p hp => by
      obtain ⟨a1, a2⟩ := rs1.hr.alloc hp (.lst v) (o := .lst d) ⟨v, upd_same, rv1.grow (rs1.hr.growA hp _)⟩
      exact hq (.d (.ref h1.length)) _ _ _ _ (rs1.step a1 a2) (g1.trans a2) (.ref (by rw [rs1.hr.lh, List.getElem?_append_right (Nat.le_refl _)]; simp)) w1, hx⟩
  | .newD t, X, sc, W, e, cc, hs, tk, h => by
    cases e with
    | Dict ks vs p =>
      cases ks with
      | cons _ _ => simp [chkE] at h
      | nil =>
      cases vs with
      | cons _ _ => simp [chkE] at h
      | nil =>
      have pd : PE X (.Dict [] [] p) (fun σ H Q => tDNewK σ H Q ∨ tDNewT σ H Q) := ⟨fun pins s σ H Q I q => q.elim (pe_dnewK.run pins s σ H Q I) (pe_dnewT.run pins s σ H Q I)⟩
      refine PE.imp pd fun σ H Q ⟨ω, β, ρ, U, env, hh, Q', X', rs, w, hq, hx⟩ => ?_
      cases t with
      | true =>
        refine .inr fun p hp => ?_
        obtain ⟨a1, a2⟩ := rs.hr.alloc hp (.dT []) (o := .dT []) ⟨[], upd_same, .nil⟩
        exact hq (.d (.ref hh.length)) _ _ _ _ (rs.step a1 a2) a2 (.ref (by rw [rs.hr.lh, List.getElem?_append_right (Nat.le_refl _)]; simp)) w
      | false =>
        refine .inl fun p hp => ?_
        obtain ⟨a1, a2⟩ := rs.hr.alloc hp (.dK []) (o := .dK []) ⟨[], upd_same, .nil⟩
        exact hq (.d (.ref hh.length)) _ _ _ _ (rs.step a1 a2) a2 (.ref (by rw [rs.hr.lh, List.getElem?_append_right (Nat.le_refl _)]; simp)) w
    | _ => simp [chkE] at h
  | .appX o v, X, sc, W, e, cc, hs, tk, h => by
    cases e with
    | Call fn xs kw c =>
      cases fn with
      | Attribute ob m ap =>
        match xs, kw, h with
        | [x], [], h =>
          simp only [chkE, Bool.and_eq_true, decide_eq_true_eq] at h
          obtain ⟨⟨⟨⟨hp, rfl⟩, hb⟩, ho⟩, h0⟩ := h
          have po := soundE o cc hs tk ho
          have pv := soundE v cc hs tk h0
          have s1 := star_cons (es := []) (env := X.env) (plainE h0).star
          refine PE.imp (pe_bm PySem.F.plainAttrs_list PySem.F.slot_list_append PySem.F.type_list_append mt_append po (pa_cons pv pa_nil s1) (base_ok hp) (by rw [s1]; rfl) hb s1 rfl) fun σ H Q ⟨ω, β, ρ, U, env, h, Q', X', rs, w, hq, hx⟩ => ?_
          exact ⟨ω, β, ρ, U, env, h, _, X', rs, w, fun d u h1 ρ1 H1 rs1 g1 rv1 w1 => by
            obtain ⟨⟨n0, xs0, e0⟩, w1⟩ := w1
            obtain ⟨a0, vs0, rfl, _, _, _, b0, _⟩ := hL_ok rs1.hr rv1 e0
            refine ⟨.inl ⟨rfl, vs0, SqL.of b0⟩, ω, β, ρ1, U, env, h1, _, X', rs1, w1, fun d2 v2 h2 ρ2 H2 rs2 g2 rv2 w2 => ?_, upX g1 hx⟩
            obtain ⟨n, xs, y, e1, rfl, hl, w2⟩ := w2
            obtain ⟨a, vs, ea, rfl, hn, eh, b1, b2⟩ := hL_ok rs2.hr (rv1.step g2) e1
            cases ea
            obtain ⟨a1, a2⟩ := rs2.hr.mutL hn (b2.append (.cons rv2 .nil))
            exact ⟨_, vs, v2, rfl, rfl, b1, by rw [← b2.length]; exact hl, hq (.d .non) _ _ _ _ (rs2.step a1 a2) ((g1.trans g2).trans a2) .non w2⟩, hx⟩
        | [], _, h => simp [chkE] at h
        | _ :: _ :: _, _, h => simp [chkE] at h
        | [_], _ :: _, h => simp [chkE] at h
      | _ => simp [chkE] at h
    | _ => simp [chkE] at h
  | .extX o l, X, sc, W, e, cc, hs, tk, h => by
    cases e with
    | Call fn xs kw c =>
      cases fn with
      | Attribute ob m ap =>
        match xs, kw, h with
        | [x], [], h =>
          simp only [chkE, Bool.and_eq_true, decide_eq_true_eq] at h
          obtain ⟨⟨⟨⟨hp, rfl⟩, hb⟩, ho⟩, h0⟩ := h
          have po := soundE o cc hs tk ho
          have pv := soundL l cc hs tk h0
          have s1 := star_cons (es := []) (env := X.env) (plainL h0).star
          refine PE.imp (pe_bm PySem.F.plainAttrs_list PySem.F.slot_list_extend PySem.F.type_list_extend mt_extend po (pa_cons pv pa_nil s1) (base_ok hp) (by rw [s1]; rfl) hb s1 rfl) fun σ H Q ⟨ω, β, ρ, U, env, h, Q', X', rs, w, hq, hx⟩ => ?_
          exact ⟨ω, β, ρ, U, env, h, _, X', rs, w, fun d u h1 ρ1 H1 rs1 g1 rv1 w1 => by
            obtain ⟨⟨n0, xs0, e0⟩, w1⟩ := w1
            obtain ⟨a0, vs0, rfl, _, _, _, b0, _⟩ := hL_ok rs1.hr rv1 e0
            refine ⟨.inl ⟨rfl, vs0, SqL.of b0⟩, ω, β, ρ1, U, env, h1, _, X', rs1, w1, fun ys v2 h2 ρ2 H2 rs2 g2 rv2 w2 p hp => ?_, upX g1 hx⟩
            obtain ⟨n, xs, e1, hl, w2⟩ := w2
            have l1 := rs2.hr.laid hp (.lst v2)
            have rs3 := rs2.step l1.1 l1.2
            have gg := g2.trans l1.2
            obtain ⟨a, vs, ea, rfl, hn, eh, b1, b2⟩ := hL_ok rs3.hr (rv1.step gg) e1
            cases ea
            obtain ⟨a1, a2⟩ := rs3.hr.mutL hn (b2.append (rv2.grow l1.2.gr))
            exact ⟨_, p, vs, v2, rfl, rfl, b1, upd_same, by rw [← b2.length, ← rv2.length]; exact hl, hq (.d .non) _ _ _ _ (rs3.step a1 a2) ((g1.trans gg).trans a2) .non w2⟩, hx⟩
        | [], _, h => simp [chkE] at h
        | _ :: _ :: _, _, h => simp [chkE] at h
        | [_], _ :: _, h => simp [chkE] at h
      | _ => simp [chkE] at h
    | _ => simp [chkE] at h
  | .clrX o, X, sc, W, e, cc, hs, tk, h => by
    cases e with
    | Call fn xs kw c =>
      cases fn with
      | Attribute ob m ap =>
        match xs, kw, h with
        | [], [], h =>
          simp only [chkE, Bool.and_eq_true, decide_eq_true_eq] at h
          obtain ⟨⟨⟨hp, rfl⟩, hb⟩, ho⟩ := h
          have po := soundE o cc hs tk ho
          refine PE.imp (pe_bm0 PySem.F.plainAttrs_list PySem.F.slot_list_clear PySem.F.type_list_clear mt_clear po (base_ok hp) hb) fun σ H Q ⟨ω, β, ρ, U, env, h, Q', X', rs, w, hq, hx⟩ => ?_
          exact ⟨ω, β, ρ, U, env, h, _, X', rs, w, fun d u h1 ρ1 H1 rs1 g1 rv1 w1 => by
            obtain ⟨n, xs, e1, w1⟩ := w1
            obtain ⟨a, vs, rfl, rfl, hn, eh, b1, b2⟩ := hL_ok rs1.hr rv1 e1
            obtain ⟨a1, a2⟩ := rs1.hr.mutL hn (xs := []) .nil
            exact ⟨.inl ⟨rfl, vs, SqL.of b1⟩, _, vs, rfl, rfl, b1, hq (.d .non) _ _ _ _ (rs1.step a1 a2) (g1.trans a2) .non w1⟩, hx⟩
        | _ :: _, _, h => simp [chkE] at h
        | [], _ :: _, h => simp [chkE] at h
      | _ => simp [chkE] at h
    | _ => simp [chkE] at h
  | .popX o, X, sc, W, e, cc, hs, tk, h => by
    cases e with
    | Call fn xs kw c =>
      cases fn with
      | Attribute ob m ap =>
        match xs, kw, h with
        | [], [], h =>
          simp only [chkE, Bool.and_eq_true, decide_eq_true_eq] at h
          obtain ⟨⟨⟨hp, rfl⟩, hb⟩, ho⟩ := h
          have po := soundE o cc hs tk ho
          refine PE.imp (pe_bm0 PySem.F.plainAttrs_list PySem.F.slot_list_pop PySem.F.type_list_pop mt_pop po (base_ok hp) hb) fun σ H Q ⟨ω, β, ρ, U, env, h, Q', X', rs, w, hq, hx⟩ => ?_
          exact ⟨ω, β, ρ, U, env, h, _, X', rs, w, fun d u h1 ρ1 H1 rs1 g1 rv1 w1 => by
            obtain ⟨n, xs, y, e1, ey, w1⟩ := w1
            obtain ⟨a, vs, rfl, rfl, hn, eh, b1, b2⟩ := hL_ok rs1.hr rv1 e1
            obtain ⟨vy, ev, ry⟩ := b2.get ey
            rw [b2.length] at ev
            obtain ⟨a1, a2⟩ := rs1.hr.mutL hn b2.dropLast
            exact ⟨.inl ⟨rfl, vs, SqL.of b1⟩, _, vs, vy, rfl, rfl, b1, ev, hq (.d y) _ _ _ _ (rs1.step a1 a2) (g1.trans a2) (RD.grow a2.gr ry) w1⟩, hx⟩
        | _ :: _, _, h => simp [chkE] at h
        | [], _ :: _, h => simp [chkE] at h
      | _ => simp [chkE] at h
    | _ => simp [chkE] at h
  | .popAt o i, X, sc, W, e, cc, hs, tk, h => by
    cases e with
    | Call fn xs kw c =>
      cases fn with
      | Attribute ob m ap =>
        match xs, kw, h with
        | [x], [], h =>
          simp only [chkE, Bool.and_eq_true, decide_eq_true_eq] at h
          obtain ⟨⟨⟨⟨hp, rfl⟩, hb⟩, ho⟩, h0⟩ := h
          have po := soundE o cc hs tk ho
          have pv := soundE i cc hs tk h0
          have s1 := star_cons (es := []) (env := X.env) (plainE h0).star
          refine PE.imp (pe_bm PySem.F.plainAttrs_list PySem.F.slot_list_pop PySem.F.type_list_pop mt_popAt po (pa_cons pv pa_nil s1) (base_ok hp) (by rw [s1]; rfl) hb s1 rfl) fun σ H Q ⟨ω, β, ρ, U, env, h, Q', X', rs, w, hq, hx⟩ => ?_
          exact ⟨ω, β, ρ, U, env, h, _, X', rs, w, fun d u h1 ρ1 H1 rs1 g1 rv1 w1 => by
            obtain ⟨⟨n0, xs0, e0⟩, w1⟩ := w1
            obtain ⟨a0, vs0, rfl, _, _, _, b0, _⟩ := hL_ok rs1.hr rv1 e0
            refine ⟨.inl ⟨rfl, vs0, SqL.of b0⟩, ω, β, ρ1, U, env, h1, _, X', rs1, w1, fun d2 v2 h2 ρ2 H2 rs2 g2 rv2 w2 => ?_, upX g1 hx⟩
            obtain ⟨n, xs, j, kk, y, e1, rfl, j0, j1, ek, ey, w2⟩ := w2
            cases rv2
            obtain ⟨a, vs, ea, rfl, hn, eh, b1, b2⟩ := hL_ok rs2.hr (rv1.step g2) e1
            cases ea
            obtain ⟨vy, ev, ry⟩ := b2.get ey
            rw [b2.length] at ek
            obtain ⟨a1, a2⟩ := rs2.hr.mutL hn (b2.eraseIdx kk)
            exact ⟨_, vs, j, kk, vy, rfl, rfl, b1, j0, j1, ek, ev, hq (.d y) _ _ _ _ (rs2.step a1 a2) ((g1.trans g2).trans a2) (RD.grow a2.gr ry) w2⟩, hx⟩
        | [], _, h => simp [chkE] at h
        | _ :: _ :: _, _, h => simp [chkE] at h
        | [_], _ :: _, h => simp [chkE] at h
      | _ => simp [chkE] at h
    | _ => simp [chkE] at h
  | .insX o i v, X, sc, W, e, cc, hs, tk, h => by
    cases e with
    | Call fn xs kw c =>
      cases fn with
      | Attribute ob m ap =>
        match xs, kw, h with
        | [x, y], [], h =>
          simp only [chkE, Bool.and_eq_true, decide_eq_true_eq] at h
          obtain ⟨⟨⟨⟨⟨hp, rfl⟩, hb⟩, ho⟩, h0⟩, h1⟩ := h
          have po := soundE o cc hs tk ho
          have pv := soundE i cc hs tk h0
          have pw := soundE v cc hs tk h1
          have s2 := star_cons (es := [y]) (env := X.env) (plainE h0).star
          have s1 := star_cons (es := []) (env := X.env) (plainE h1).star
          refine PE.imp (pe_bm PySem.F.plainAttrs_list PySem.F.slot_list_insert PySem.F.type_list_insert mt_insert po (pa_cons pv (pa_cons pw pa_nil s1) s2) (base_ok hp) (by rw [s2, s1]; rfl) hb s2 (by rw [s1]; rfl)) fun σ H Q ⟨ω, β, ρ, U, env, h, Q', X', rs, w, hq, hx⟩ => ?_
          exact ⟨ω, β, ρ, U, env, h, _, X', rs, w, fun d u h1 ρ1 H1 rs1 g1 rv1 w1 => by
            obtain ⟨⟨n0, xs0, e0⟩, w1⟩ := w1
            obtain ⟨a0, vs0, rfl, _, _, _, b0, _⟩ := hL_ok rs1.hr rv1 e0
            refine ⟨.inl ⟨rfl, vs0, SqL.of b0⟩, ω, β, ρ1, U, env, h1, _, X', rs1, w1, fun d2 v2 h2 ρ2 H2 rs2 g2 rv2 w2 => ⟨ω, β, ρ2, U, env, h2, _, X', rs2, w2, fun d3 v3 h3 ρ3 H3 rs3 g3 rv3 w3 => ?_, upX (g1.trans g2) hx⟩, upX g1 hx⟩
            obtain ⟨n, xs, j, z, e1, rfl, rfl, j0, j1, hl, w3⟩ := w3
            cases rv2
            obtain ⟨a, vs, ea, rfl, hn, eh, b1, b2⟩ := hL_ok rs3.hr ((rv1.step g2).step g3) e1
            cases ea
            have q := ((b2.take j.toNat).append (.cons rv3 .nil)).append (b2.drop j.toNat)
            rw [List.append_assoc] at q
            obtain ⟨a1, a2⟩ := rs3.hr.mutL hn q
            exact ⟨_, vs, j, v3, rfl, rfl, b1, by rw [← b2.length]; exact hl, j0, j1, hq (.d .non) _ _ _ _ (rs3.step a1 a2) (((g1.trans g2).trans g3).trans a2) .non w3⟩, hx⟩
        | [], _, h => simp [chkE] at h
        | [_], _, h => simp [chkE] at h
        | _ :: _ :: _ :: _, _, h => simp [chkE] at h
        | [_, _], _ :: _, h => simp [chkE] at h
      | _ => simp [chkE] at h
    | _ => simp [chkE] at h
  | .idx o v, X, sc, W, e, cc, hs, tk, h => by
    cases e with
    | Call fn xs kw c =>
      cases fn with
      | Attribute ob m ap =>
        match xs, kw, h with
        | [x], [], h =>
          simp only [chkE, Bool.and_eq_true, decide_eq_true_eq] at h
          obtain ⟨⟨⟨⟨hp, rfl⟩, hb⟩, ho⟩, h0⟩ := h
          have po := soundE o cc hs tk ho
          have pv := soundE v cc hs tk h0
          have s1 := star_cons (es := []) (env := X.env) (plainE h0).star
          refine PE.imp (pe_bm PySem.F.plainAttrs_list PySem.F.slot_list_index PySem.F.type_list_index (mt_indexD (by have := cc.room.un; omega)) po (pa_cons pv pa_nil s1) (base_ok hp) (by rw [s1]; rfl) hb s1 rfl) fun σ H Q ⟨ω, β, ρ, U, env, h, Q', X', rs, w, hq, hx⟩ => ?_
          exact ⟨ω, β, ρ, U, env, h, _, X', rs, w, fun d u h1 ρ1 H1 rs1 g1 rv1 w1 => by
            obtain ⟨⟨xs0, e0⟩, w1⟩ := w1
            obtain ⟨a0, vs0, rfl, s0, _⟩ := rv1.list rs1.hr e0
            refine ⟨.inl ⟨rfl, vs0, s0⟩, ω, β, ρ1, U, env, h1, _, X', rs1, w1, fun d2 v2 h2 ρ2 H2 rs2 g2 rv2 w2 => ?_, upX g1 hx⟩
            obtain ⟨xs, y, j, e1, rfl, f1, f2, ej, w2⟩ := w2
            obtain ⟨a, vs, ea, s3, r3⟩ := (rv1.step g2).list rs2.hr e1
            cases ea
            obtain ⟨hj, hz, hno⟩ := List.findIdx?_eq_some_iff_getElem.mp ej
            have at_ : ∀ m, (hm : m < xs.length) → (D.pys xs)[m]? = some (xs[m]).py := fun m hm => by rw [pys_map, List.getElem?_map, List.getElem?_eq_getElem hm]; rfl
            have fl : ∀ m, (hm : m < xs.length) → (xs[m]).fla 59 = true := fun m hm => flas_at f2 (List.getElem_mem hm)
            refine ⟨_, v2, y.py, D.pys xs, j, (xs[j]).py, rfl, rfl, .lst s3 (r3.dp f2), RD.dp rv2 f1, D.flas_shaped f2, D.fla_shaped f1, at_ j hj, by rw [D.py_eqv _ _ 59 60 (fl j hj) f1]; exact hz, fun m z' hm ez => ?_, hq (.d (.int (j : Nat))) _ _ _ _ rs2 (g1.trans g2) (.int _) w2⟩
            have hml : m < xs.length := by omega
            rw [at_ m hml] at ez
            cases ez
            rw [D.py_eqv _ _ 59 60 (fl m hml) f1]
            simpa using hno m hm, hx⟩
        | [], _, h => simp [chkE] at h
        | _ :: _ :: _, _, h => simp [chkE] at h
        | [_], _ :: _, h => simp [chkE] at h
      | _ => simp [chkE] at h
    | _ => simp [chkE] at h
  | .getD o k, X, sc, W, e, cc, hs, tk, h => by
    cases e with
    | Call fn xs kw c =>
      cases fn with
      | Attribute ob m ap =>
        match xs, kw, h with
        | [x], [], h =>
          simp only [chkE, Bool.and_eq_true, decide_eq_true_eq] at h
          obtain ⟨⟨⟨⟨hp, rfl⟩, hb⟩, ho⟩, h0⟩ := h
          have po := soundE o cc hs tk ho
          have pv := soundE k cc hs tk h0
          have s1 := star_cons (es := []) (env := X.env) (plainE h0).star
          refine PE.imp (pe_dget1 (by have := cc.room.un; omega) po pv ⟨base_ok hp, by rw [s1]; rfl, hb, by rw [s1]; rfl⟩) fun σ H Q ⟨ω, β, ρ, U, env, h, Q', X', rs, w, hq, hx⟩ => ?_
          exact ⟨ω, β, ρ, U, env, h, _, X', rs, w, fun d u h1 ρ1 H1 rs1 g1 rv1 w1 => by
            obtain ⟨⟨ob, eo, ed⟩, w1⟩ := w1
            obtain ⟨a0, rfl, i0⟩ := isD_rel rs1.hr rv1 eo ed
            refine ⟨a0, rfl, i0, ω, β, ρ1, U, env, h1, _, X', rs1, w1, fun d2 v2 h2 ρ2 H2 rs2 g2 rv2 w2 => ?_, upX g1 hx⟩
            obtain ⟨oa, y, r, e1, rfl, e2, w2⟩ := w2
            obtain ⟨a, rv, ea, dg, rr⟩ := RV.dget rs2.hr (rv1.step g2) e1 rv2 e2
            cases ea
            rcases rr with ⟨rfl, rfl⟩ | ⟨z, zv, rfl, rfl, rz⟩
            · exact ⟨_, dg, hq (.d .non) _ _ _ _ rs2 (g1.trans g2) .non w2⟩
            · exact ⟨_, dg, hq (.d z) _ _ _ _ rs2 (g1.trans g2) rz w2⟩, hx⟩
        | [], _, h => simp [chkE] at h
        | _ :: _ :: _, _, h => simp [chkE] at h
        | [_], _ :: _, h => simp [chkE] at h
      | _ => simp [chkE] at h
    | _ => simp [chkE] at h
  | .getD2 o k v, X, sc, W, e, cc, hs, tk, h => by
    cases e with
    | Call fn xs kw c =>
      cases fn with
      | Attribute ob m ap =>
        match xs, kw, h with
        | [x, y], [], h =>
          simp only [chkE, Bool.and_eq_true, decide_eq_true_eq] at h
          obtain ⟨⟨⟨⟨⟨hp, rfl⟩, hb⟩, ho⟩, h0⟩, h1⟩ := h
          have po := soundE o cc hs tk ho
          have pv := soundE k cc hs tk h0
          have pw := soundE v cc hs tk h1
          have s2 := star_cons (es := [y]) (env := X.env) (plainE h0).star
          have s1 := star_cons (es := []) (env := X.env) (plainE h1).star
          refine PE.imp (pe_dget2 (by have := cc.room.un; omega) po pv pw ⟨base_ok hp, by rw [s2, s1]; rfl, hb, by rw [s2, s1]; rfl⟩) fun σ H Q ⟨ω, β, ρ, U, env, h, Q', X', rs, w, hq, hx⟩ => ?_
          exact ⟨ω, β, ρ, U, env, h, _, X', rs, w, fun d u h1 ρ1 H1 rs1 g1 rv1 w1 => by
            obtain ⟨⟨ob, eo, ed⟩, w1⟩ := w1
            obtain ⟨a0, rfl, i0⟩ := isD_rel rs1.hr rv1 eo ed
            refine ⟨a0, rfl, i0, ω, β, ρ1, U, env, h1, _, X', rs1, w1, fun d2 v2 h2 ρ2 H2 rs2 g2 rv2 w2 => ⟨ω, β, ρ2, U, env, h2, _, X', rs2, w2, fun d3 v3 h3 ρ3 H3 rs3 g3 rv3 w3 => ?_, upX (g1.trans g2) hx⟩, upX g1 hx⟩
            obtain ⟨oa, y, dw, r, e1, rfl, rfl, e2, w3⟩ := w3
            obtain ⟨a, rv, ea, dg, rr⟩ := RV.dget rs3.hr ((rv1.step g2).step g3) e1 (RD.grow g3.gr rv2) e2
            cases ea
            rcases rr with ⟨rfl, rfl⟩ | ⟨z, zv, rfl, rfl, rz⟩
            · exact ⟨_, dg, hq (.d dw) _ _ _ _ rs3 ((g1.trans g2).trans g3) rv3 w3⟩
            · exact ⟨_, dg, hq (.d z) _ _ _ _ rs3 ((g1.trans g2).trans g3) rz w3⟩, hx⟩
        | [], _, h => simp [chkE] at h
        | [_], _, h => simp [chkE] at h
        | _ :: _ :: _ :: _, _, h => simp [chkE] at h
        | [_, _], _ :: _, h => simp [chkE] at h
      | _ => simp [chkE] at h
    | _ => simp [chkE] at h
  | .sdf o k v, X, sc, W, e, cc, hs, tk, h => by
    cases e with
    | Call fn xs kw c =>
      cases fn with
      | Attribute ob m ap =>
        match xs, kw, h with
        | [x, y], [], h =>
          simp only [chkE, Bool.and_eq_true, decide_eq_true_eq] at h
          obtain ⟨⟨⟨⟨⟨hp, rfl⟩, hb⟩, ho⟩, h0⟩, h1⟩ := h
          have po := soundE o cc hs tk ho
          have pv := soundE k cc hs tk h0
          have pw := soundE v cc hs tk h1
          have s2 := star_cons (es := [y]) (env := X.env) (plainE h0).star
          have s1 := star_cons (es := []) (env := X.env) (plainE h1).star
          refine PE.imp (pe_dsetdA (by have := cc.room.un; omega) po pv pw ⟨base_ok hp, by rw [s2, s1]; rfl, hb, by rw [s2, s1]; rfl⟩) fun σ H Q ⟨ω, β, ρ, U, env, h, Q', X', rs, w, hq, hx⟩ => ?_
          exact ⟨ω, β, ρ, U, env, h, _, X', rs, w, fun d u h1 ρ1 H1 rs1 g1 rv1 w1 => by
            obtain ⟨⟨ob, eo, ed⟩, w1⟩ := w1
            obtain ⟨a0, rfl, i0⟩ := isD_rel rs1.hr rv1 eo ed
            refine ⟨a0, rfl, i0, ω, β, ρ1, U, env, h1, _, X', rs1, w1, fun d2 v2 h2 ρ2 H2 rs2 g2 rv2 w2 => ⟨ω, β, ρ2, U, env, h2, _, X', rs2, w2, fun d3 v3 h3 ρ3 H3 rs3 g3 rv3 w3 => ?_, upX (g1.trans g2) hx⟩, upX g1 hx⟩
            have gg := (g1.trans g2).trans g3
            exact setd_ok rs3.hr ((rv1.step g2).step g3) (rv2.step g3) rv3 w3 (fun d v h' H' hr' st' rd' q => hq _ _ _ _ _ (rs3.step hr' st') (gg.trans st') rd' q), hx⟩
        | [], _, h => simp [chkE] at h
        | [_], _, h => simp [chkE] at h
        | _ :: _ :: _ :: _, _, h => simp [chkE] at h
        | [_, _], _ :: _, h => simp [chkE] at h
      | _ => simp [chkE] at h
    | _ => simp [chkE] at h
  | .divm a b, X, sc, W, e, cc, hs, tk, h => by
    cases e with
    | Call fn ys kw p =>
      cases fn with
      | Name x pn =>
        match ys, kw, h with
        | [y, z], [], h =>
          simp only [chkE, Bool.and_eq_true, decide_eq_true_eq] at h
          obtain ⟨⟨⟨hg, rfl⟩, h0⟩, h1⟩ := h
          obtain ⟨g1, g2⟩ := glB_ok hs hg
          have pv := soundE a cc hs tk h0
          have pw := soundE b cc hs tk h1
          have s2 := star_cons (es := [z]) (env := X.env) (plainE h0).star
          have s1 := star_cons (es := []) (env := X.env) (plainE h1).star
          refine PE.imp (pe_callB call_divmod g1 (cc.blt _ (by decide +kernel)) (by decide +kernel) (pa_cons pv (pa_cons pw pa_nil s1) s2) (by decide +kernel) g2 s2 (by rw [s1]; rfl)) fun σ H Q ⟨ω, β, ρ, U, env, h, Q', X', rs, w, hq, hx⟩ => ?_
          exact ⟨ω, β, ρ, U, env, h, _, X', rs, w, fun d v h1 ρ1 H1 rs1 g1 rv1 w1 => ⟨ω, β, ρ1, U, env, h1, _, X', rs1, w1, fun d2 v2 h2 ρ2 H2 rs2 g2 rv2 w2 => by
            obtain ⟨i, j, rfl, rfl, cd, w2⟩ := w2
            cases rv1
            cases rv2
            refine ⟨i, j, rfl, cd, fun p hp => ?_⟩
            exact hq (.d (.tup [.int (i / j), .int (i % j)])) _ _ _ _ (rs2.step (rs2.hr.laid hp _).1 (rs2.hr.laid hp _).2) ((g1.trans g2).trans (rs2.hr.laid hp _).2) (rs2.hr.new_tup hp (.cons (.int _) (.cons (.int _) .nil))) w2, upX g1 hx⟩, hx⟩
        | [], _, h => simp [chkE] at h
        | [_], _, h => simp [chkE] at h
        | _ :: _ :: _ :: _, _, h => simp [chkE] at h
        | [_, _], _ :: _, h => simp [chkE] at h
      | _ => simp [chkE] at h
    | _ => simp [chkE] at h
  | .fld k0 o f, X, sc, W, e, cc, hs, tk, h => by
    cases e with
    | Attribute ob m ap =>
      simp only [chkE, Bool.and_eq_true, decide_eq_true_eq] at h
      obtain ⟨⟨⟨⟨hp, rfl⟩, hf⟩, hk⟩, ho⟩ := h
      have po := soundE o cc hs tk ho
      refine PE.imp (pe_fld po (base_ok hp)) fun σ H Q ⟨ω, β, ρ, U, env, h, Q', X', rs, w, hq, hx⟩ => ?_
      exact ⟨ω, β, ρ, U, env, h, _, X', rs, w, fun d u h1 ρ1 H1 rs1 g1 rv1 w1 => by
        obtain ⟨n, c, fs, dd, rfl, eh, hc, el, w1⟩ := w1
        obtain ⟨a, dx, ws, rfl, hn, ha, rk⟩ := ins_ok rs1.hr rv1 eh
        obtain ⟨v, ev, rd⟩ := rk.look el
        have cl := cc.cls c (by omega)
        exact ⟨a, C c, dx, ws, v, rfl, ha, cl.1, cl.2 m (by simpa using hf), ev, hq (.d dd) _ _ _ _ rs1 g1 rd w1⟩, hx⟩
    | _ => simp [chkE] at h
  | .meth c m f o es, X, sc, W, e, cc, hs, tk, h => by
    cases e with
    | Call fn ys kw p =>
      cases fn with
      | Attribute ob m2 ap =>
        cases kw with
        | cons _ _ => simp [chkE] at h
        | nil =>
        simp only [chkE, Bool.and_eq_true, decide_eq_true_eq] at h
        obtain ⟨⟨⟨⟨⟨⟨hp, rfl⟩, hb⟩, hn⟩, em⟩, ho⟩, he⟩ := h
        obtain ⟨fa, fd, ps, cl, hm, hbd, F⟩ := cc.mth f c m2 em
        have po := soundE o cc hs tk ho
        have fin : ∀ σ H Q, tE C X.K W Γ (cval cs) (.meth c m2 f o es) σ H Q → tMethE (C c) m2 (spI C X.K Γ f) (fun σ cls d H => W cls d σ H) (tE C X.K W Γ (cval cs) o) (tEs C X.K W Γ (cval cs) es) σ H Q := by
          rintro σ H Q ⟨ω, β, ρ, U, env, h, Q', X', rs, w, hq, hx⟩
          exact ⟨ω, β, ρ, U, env, h, _, X', rs, w, fun d u h1 ρ1 H1 rs1 g1 rv1 w1 => by
            obtain ⟨n, fs, rfl, eh, en, w1⟩ := w1
            obtain ⟨a, dx, ws, rfl, hn, ha, rk⟩ := ins_ok rs1.hr rv1 eh
            refine ⟨a, dx, ws, rfl, ha, rk.lookN en, ω, β, ρ1, U, env, h1, _, X', rs1, w1, fun vs us h2 ρ2 H2 rs2 g2 rv2 w2 => ?_, upX g1 hx⟩
            exact spI_call (xs := .d (.ref n) :: vs) rs2 (.cons (rv1.step g2) rv2) w2 (fun r v h' ρ' U' H' rs' g' hr' gr' rr' q' => by
              obtain ⟨d, rd, q⟩ := rr'.rd hr' q'
              exact hq _ _ _ _ _ rs' ((g1.trans g2).trans g') rd q) (upX (g1.trans g2) hx), hx⟩
        have st := chkEs_star he
        cases es with
        | nil =>
          cases ys with
          | cons _ _ => simp [chkEs] at he
          | nil =>
          refine PE.imp (pe_methE0 (E := fun σ cls d H => W cls d σ H) hp po cl hm F cc.room hbd (fun σ => passAt tk σ) hb) ?_
          rintro σ H Q ⟨ω, β, ρ, U, env, h, Q', X', rs, w, hq, hx⟩
          exact ⟨ω, β, ρ, U, env, h, _, X', rs, w, fun d u h1 ρ1 H1 rs1 g1 rv1 w1 => by
            obtain ⟨n, fs, rfl, eh, en, w1⟩ := w1
            obtain ⟨a, dx, ws, rfl, hn, ha, rk⟩ := ins_ok rs1.hr rv1 eh
            refine ⟨a, dx, ws, rfl, ha, rk.lookN en, ?_⟩
            exact spI_call (xs := [.d (.ref n)]) rs1 (.cons rv1 .nil) w1 (fun r v h' ρ' U' H' rs' g' hr' gr' rr' q' => by
              obtain ⟨d, rd, q⟩ := rr'.rd hr' q'
              exact hq _ _ _ _ _ rs' (g1.trans g') rd q) (upX g1 hx), hx⟩
        | cons a r =>
          cases ys with
          | nil => simp [chkEs] at he
          | cons y ys =>
          have pa := soundEs (.cons a r) cc hs tk he
          exact PE.imp (pe_methE (E := fun σ cls d H => W cls d σ H) hp po cl hm F cc.room hbd (fun σ => passAt tk σ) pa (star_cons (st y (by simp))) (star_any fun e he => st e (by simp [he])) (star_any st) hb hn) fin
      | _ => simp [chkE] at h
    | _ => simp [chkE] at h
  | .mk c f es, X, sc, W, e, cc, hs, tk, h => by
    cases e with
    | Call fn ys kw p =>
      cases fn with
      | Name x pn =>
        cases kw with
        | cons _ _ => simp [chkE] at h
        | nil =>
        simp only [chkE, Bool.and_eq_true, decide_eq_true_eq] at h
        obtain ⟨⟨hg, em⟩, he⟩ := h
        obtain ⟨g1, g2⟩ := glB_ok hs hg
        have st := chkEs_star he
        have pa := soundEs es cc hs tk he
        obtain ⟨kk, fa, fd, ps, hmx, M, hbd, F, hr⟩ := cc.mks c x f em
        cases es with
        | nil =>
          cases ys with
          | cons _ _ => simp [chkEs] at he
          | nil =>
          refine PE.imp (pe_makeE0 (E := fun σ cls d H => W cls d σ H) M F hr g1 hmx hbd (fun σ => passAt tk σ) g2) ?_
          rintro σ H Q ⟨ω, β, ρ, U, env, h, Q', X', rs, w, hq, hx⟩
          exact fun xa dx hxa hdx hne => mk_sp rs .nil hxa hdx hne w (fun h' ρ' H' rs' st' rd' q' => hq _ _ _ _ _ rs' st' rd' q') hx
        | cons a r =>
          cases ys with
          | nil => simp [chkEs] at he
          | cons y ys =>
          refine PE.imp (pe_makeE (E := fun σ cls d H => W cls d σ H) M F hr g1 hmx hbd (fun σ => passAt tk σ) pa g2 (star_cons (st y (by simp))) (star_any fun e he => st e (by simp [he]))) ?_
          rintro σ H Q ⟨ω, β, ρ, U, env, h, Q', X', rs, w, hq, hx⟩
          exact ⟨ω, β, ρ, U, env, h, _, X', rs, w, fun vs us h1 ρ1 H1 rs1 g1 rv1 w1 xa dx hxa hdx hne =>
            mk_sp rs1 rv1 hxa hdx hne w1 (fun h' ρ' H' rs' st' rd' q' => hq _ _ _ _ _ rs' (g1.trans st') rd' q') (upX g1 hx), hx⟩
      | _ => simp [chkE] at h
    | _ => simp [chkE] at h
termination_by c => sizeOf c
theorem soundO : ∀ (c : CO2) {X : Cx} {sc : Scope} {W : WX} {e : Option Expr}, CC C Γ nm cs k N X → X.env.scope = sc → Takes X W → chkO N nm (cnam cs) c sc e = true → PO X e (tO C X.K W Γ (cval cs) c)
  | .no, X, sc, W, e, cc, hs, tk, h => by
    cases e with
    | some _ => simp [chkO] at h
    | none => exact PO.imp po_none fun σ H Q ⟨ω, β, ρ, U, env, h, Q', X', rs, w, hq, hx⟩ => hq _ _ _ _ _ rs .refl rfl w
  | .so a, X, sc, W, e, cc, hs, tk, h => by
    cases e with
    | none => simp [chkO] at h
    | some x =>
      have pa := soundE a cc hs tk (by simpa [chkO] using h)
      refine PO.imp (po_some pa) fun σ H Q ⟨ω, β, ρ, U, env, h, Q', X', rs, w, hq, hx⟩ => ?_
      exact ⟨ω, β, ρ, U, env, h, _, X', rs, w, fun d v h1 ρ1 H1 rs1 g1 rv1 w1 => by
        obtain ⟨i, rfl, w1⟩ := w1
        cases rv1
        exact ⟨i, rfl, hq _ _ _ _ _ rs1 g1 rfl w1⟩, hx⟩
termination_by c => sizeOf c
theorem soundEs : ∀ (c : CEs) {X : Cx} {sc : Scope} {W : WX} {es : List Expr}, CC C Γ nm cs k N X → X.env.scope = sc → Takes X W → chkEs N nm (cnam cs) c sc es = true → PA X es (tEs C X.K W Γ (cval cs) c)
  | .nil, X, sc, W, es, cc, hs, tk, h => by
    cases es with
    | cons _ _ => simp [chkEs] at h
    | nil => exact PA.imp pa_nil fun σ H Q ⟨ω, β, ρ, U, env, h, Q', X', rs, w, hq, hx⟩ => hq _ _ _ _ _ rs .refl .nil w
  | .cons a r, X, sc, W, es, cc, hs, tk, h => by
    cases es with
    | nil => simp [chkEs] at h
    | cons x xs =>
      have h' := h
      simp only [chkEs, Bool.and_eq_true] at h'
      have pa := soundE a cc hs tk h'.1
      have pr := soundEs r cc hs tk h'.2
      refine PA.imp (pa_cons pa pr (star_cons (plainE h'.1).star)) fun σ H Q ⟨ω, β, ρ, U, env, h, Q', X', rs, w, hq, hx⟩ => ?_
      exact ⟨ω, β, ρ, U, env, h, _, X', rs, w, fun d v h1 ρ1 H1 rs1 g1 rv1 w1 => ⟨ω, β, ρ1, U, env, h1, _, X', rs1, w1, fun e u h2 ρ2 H2 rs2 g2 rv2 w2 =>
        hq _ _ _ _ _ rs2 (g1.trans g2) (.cons (rv1.step g2) rv2) w2, upX g1 hx⟩, hx⟩
termination_by c => sizeOf c
theorem soundT : ∀ (c : CT) {X : Cx} {sc : Scope} {W : WX} {e : Expr}, CC C Γ nm cs k N X → X.env.scope = sc → Takes X W → chkT N nm (cnam cs) c sc e = true →
    PT X e (tT C X.K W Γ (cval cs) c) ∧ ((∀ a, c ≠ .e a) → (∀ a, c ≠ .notT a) → PW X e (tT C X.K W Γ (cval cs) c))
  | .e a, X, sc, W, e, cc, hs, tk, h => by
    simp only [chkT, Bool.and_eq_true] at h
    have pa := soundE a cc hs tk h.2
    refine ⟨?_, fun z => absurd rfl (z a)⟩
    by_cases h1 : ∃ o x y, a = .cmp o x y
    · obtain ⟨o, x, y, rfl⟩ := h1
      have h2 := h.2
      cases e with
      | Compare ex ops ys p =>
        match ops, ys, h2 with
        | [op], [ey], h2 =>
          simp only [chkE, Bool.and_eq_true, decide_eq_true_eq, Bool.not_eq_true'] at h2
          obtain ⟨⟨⟨rfl, hm⟩, ha⟩, hb⟩ := h2
          have p1 := soundE x cc hs tk ha
          have p2 := soundE y cc hs tk hb
          refine PT.imp (pt_cmpR (op_cmp cc.room o) p1 p2 hm) fun σ H Q ⟨ω, β, ρ, U, env, h, Q', X', rs, w, hq, hx⟩ => ?_
          exact ⟨ω, β, ρ, U, env, h, _, X', rs, w, fun d v h1 ρ1 H1 rs1 g1 rv1 w1 => ⟨ω, β, ρ1, U, env, h1, _, X', rs1, w1, fun e u h2 ρ2 H2 rs2 g2 rv2 w2 =>
            cmp_ok rs2.hr (rv1.step g2) rv2 (cmpW_bl w2) (fun z zv H3 hr3 st3 rd3 ⟨b', ez, b, eb, w3⟩ => by
              subst ez
              cases rd3
              cases eb
              exact ⟨_, rfl, hq _ _ _ _ _ (rs2.step hr3 st3) ((g1.trans g2).trans st3) rfl w3⟩), upX g1 hx⟩, hx⟩
        | [], _, h2 => simp [chkE] at h2
        | _ :: _ :: _, _, h2 => simp [chkE] at h2
        | [_], [], h2 => simp [chkE] at h2
        | [_], _ :: _ :: _, h2 => simp [chkE] at h2
      | _ => simp [chkE] at h2
    · by_cases h1' : ∃ o o' x y z, a = .chain o o' x y z
      · obtain ⟨o, o', x, y, z, rfl⟩ := h1'
        have h2 := h.2
        cases e with
        | Compare ex ops ys p =>
          match ops, ys, h2 with
          | [op, op'], [ey, ez], h2 =>
            simp only [chkE, Bool.and_eq_true, decide_eq_true_eq, Bool.not_eq_true'] at h2
            obtain ⟨⟨⟨⟨⟨rfl, rfl⟩, hm⟩, ha⟩, hb⟩, hc⟩ := h2
            have p1 := soundE x cc hs tk ha
            have p2 := soundE y cc hs tk hb
            have p3 := soundE z cc hs tk hc
            refine PT.imp (pt_chain (op_cmp cc.room o) (op_cmp cc.room o') p1 p2 p3 hm) fun σ H Q ⟨ω, β, ρ, U, env, h, Q', X', rs, w, hq, hx⟩ => ?_
            exact ⟨ω, β, ρ, U, env, h, _, X', rs, w, fun d v h1 ρ1 H1 rs1 g1 rv1 w1 => ⟨ω, β, ρ1, U, env, h1, _, X', rs1, w1, fun e u h2 ρ2 H2 rs2 g2 rv2 w2 =>
              cmp_ok rs2.hr (rv1.step g2) rv2 w2 (fun zd zv H3 hr3 st3 rd3 w3 => by
                obtain ⟨kk, rfl, w3⟩ := w3
                cases rd3
                refine ⟨kk, rfl, ?_⟩
                have rs3 := rs2.step hr3 st3
                by_cases hk : kk = true
                · rw [if_pos hk] at w3 ⊢
                  exact ⟨ω, β, ρ2, U, env, h2, _, X', rs3, w3, fun f t h4 ρ4 H4 rs4 g4 rv4 w4 => cmp_ok rs4.hr ((rv2.step st3).step g4) rv4 (cmpW_bl w4) (fun z zv H5 hr5 st5 rd5 ⟨b', ez, b, eb, w5⟩ => by
                    subst ez
                    cases rd5
                    cases eb
                    exact ⟨_, rfl, hq _ _ _ _ _ (rs4.step hr5 st5) ((((g1.trans g2).trans st3).trans g4).trans st5) rfl w5⟩), upX ((g1.trans g2).trans st3) hx⟩
                · rw [if_neg hk] at w3 ⊢
                  obtain ⟨b, eb, w3⟩ := w3
                  cases eb
                  exact ⟨_, rfl, hq _ _ _ _ _ rs3 ((g1.trans g2).trans st3) rfl w3⟩), upX g1 hx⟩, hx⟩
          | [], _, h2 => simp [chkE] at h2
          | [_], _, h2 => simp [chkE] at h2
          | _ :: _ :: _ :: _, _, h2 => simp [chkE] at h2
          | [_, _], [], h2 => simp [chkE] at h2
          | [_, _], [_], h2 => simp [chkE] at h2
          | [_, _], _ :: _ :: _ :: _, h2 => simp [chkE] at h2
        | _ => simp [chkE] at h2
      · refine PT.imp (pt_truth pa (plainTest h.2 h.1 (fun o x y z => h1 ⟨o, x, y, z⟩) fun o o' x y z q => h1' ⟨o, o', x, y, z, q⟩)) fun σ H Q ⟨ω, β, ρ, U, env, h, Q', X', rs, w, hq, hx⟩ => ?_
        exact ⟨ω, β, ρ, U, env, h, _, X', rs, w, fun d v h1 ρ1 H1 rs1 g1 rv1 w1 => by
          obtain ⟨b, eb, w1⟩ := w1
          exact ⟨b, tru_rel rs1.hr rv1 eb, hq _ _ _ _ _ rs1 g1 rfl w1⟩, hx⟩
  | .andT a b, X, sc, W, e, cc, hs, tk, h => by
    suffices hw : PW X e (tT C X.K W Γ (cval cs) (.andT a b)) from ⟨hw.pt, fun _ _ => hw⟩
    have fin : ∀ σ H Q, tT C X.K W Γ (cval cs) (.andT a b) σ H Q → tAnd (tT C X.K W Γ (cval cs) a) (tT C X.K W Γ (cval cs) b) σ H Q := fun σ H Q ⟨ω, β, ρ, U, env, h, Q', X', rs, w, hq, hx⟩ =>
      ⟨ω, β, ρ, U, env, h, _, X', rs, w, fun d v h1 ρ1 H1 rs1 g1 ev w1 => by
        subst ev
        by_cases hk : d = true
        · rw [if_pos hk] at w1 ⊢
          exact ⟨ω, β, ρ1, U, env, h1, Q', X', rs1, w1, fun e u h2 ρ2 H2 rs2 g2 rv2 w2 => hq _ _ _ _ _ rs2 (g1.trans g2) rv2 w2, upX g1 hx⟩
        · rw [if_neg hk] at w1 ⊢
          exact hq _ _ _ _ _ rs1 g1 rfl w1, hx⟩
    cases e with
    | BoolOp op xs p =>
      cases op with
      | Or => simp [chkT] at h
      | And =>
      match xs, h with
      | [x, y], h =>
        simp only [chkT, Bool.and_eq_true] at h
        exact PW.imp (pw_and (soundT a cc hs tk h.1).1 (pw_and1 (soundT b cc hs tk h.2).1)) fin
      | x :: y :: z :: r, h =>
        simp only [chkT, Bool.and_eq_true] at h
        have qb := (soundT b cc hs tk h.2).2 (fun q e => by
          subst e
          have h2 := h.2
          simp only [chkT, Bool.and_eq_true] at h2
          exact noBool h2.1 h2.2) (fun q e => by
          subst e
          have h2 := h.2
          simp [chkT] at h2)
        exact PW.imp (pw_and (soundT a cc hs tk h.1).1 qb) fin
      | [], h => simp [chkT] at h
      | [_], h => simp [chkT] at h
    | _ => simp [chkT] at h
  | .orT a b, X, sc, W, e, cc, hs, tk, h => by
    suffices hw : PW X e (tT C X.K W Γ (cval cs) (.orT a b)) from ⟨hw.pt, fun _ _ => hw⟩
    have fin : ∀ σ H Q, tT C X.K W Γ (cval cs) (.orT a b) σ H Q → tOr (tT C X.K W Γ (cval cs) a) (tT C X.K W Γ (cval cs) b) σ H Q := fun σ H Q ⟨ω, β, ρ, U, env, h, Q', X', rs, w, hq, hx⟩ =>
      ⟨ω, β, ρ, U, env, h, _, X', rs, w, fun d v h1 ρ1 H1 rs1 g1 ev w1 => by
        subst ev
        by_cases hk : d = true
        · rw [if_pos hk] at w1 ⊢
          exact hq _ _ _ _ _ rs1 g1 rfl w1
        · rw [if_neg hk] at w1 ⊢
          exact ⟨ω, β, ρ1, U, env, h1, Q', X', rs1, w1, fun e u h2 ρ2 H2 rs2 g2 rv2 w2 => hq _ _ _ _ _ rs2 (g1.trans g2) rv2 w2, upX g1 hx⟩, hx⟩
    cases e with
    | BoolOp op xs p =>
      cases op with
      | And => simp [chkT] at h
      | Or =>
      match xs, h with
      | [x, y], h =>
        simp only [chkT, Bool.and_eq_true] at h
        exact PW.imp (pw_or (soundT a cc hs tk h.1).1 (pw_or1 (soundT b cc hs tk h.2).1)) fin
      | x :: y :: z :: r, h =>
        simp only [chkT, Bool.and_eq_true] at h
        have qb := (soundT b cc hs tk h.2).2 (fun q e => by
          subst e
          have h2 := h.2
          simp only [chkT, Bool.and_eq_true] at h2
          exact noBool h2.1 h2.2) (fun q e => by
          subst e
          have h2 := h.2
          simp [chkT] at h2)
        exact PW.imp (pw_or (soundT a cc hs tk h.1).1 qb) fin
      | [], h => simp [chkT] at h
      | [_], h => simp [chkT] at h
    | _ => simp [chkT] at h
  | .notT a, X, sc, W, e, cc, hs, tk, h => by
    refine ⟨?_, fun _ z => absurd rfl (z a)⟩
    cases e with
    | UnaryOp op x p =>
      cases op with
      | Not =>
        have pa := (soundT a cc hs tk (by simpa [chkT] using h)).1
        exact PT.imp (pt_not pa) fun σ H Q ⟨ω, β, ρ, U, env, h, Q', X', rs, w, hq, hx⟩ =>
          ⟨ω, β, ρ, U, env, h, _, X', rs, w, fun d v h1 ρ1 H1 rs1 g1 ev w1 => by subst ev; exact hq _ _ _ _ _ rs1 g1 rfl w1, hx⟩
      | _ => simp [chkT] at h
    | _ => simp [chkT] at h
termination_by c => sizeOf c
theorem soundTs : ∀ (c : CTs) {X : Cx} {sc : Scope} {W : WX} {es : List Expr}, CC C Γ nm cs k N X → X.env.scope = sc → Takes X W → chkTs N nm (cnam cs) c sc es = true → PTs X es (tTs C X.K W Γ (cval cs) c)
  | .nil, X, sc, W, es, cc, hs, tk, h => by
    cases es with
    | cons _ _ => simp [chkTs] at h
    | nil => exact PTs.imp pts_nil fun σ H Q ⟨ω, β, ρ, U, env, h, Q', X', rs, w, hq, hx⟩ => hq _ _ _ _ _ rs .refl rfl w
  | .cons a .nil, X, sc, W, es, cc, hs, tk, h => by
    match es, h with
    | [x], h =>
      have pa := (soundT a cc hs tk (by simpa [chkTs] using h)).1
      exact PTs.imp (pts_one pa) fun σ H Q ⟨ω, β, ρ, U, env, h, Q', X', rs, w, hq, hx⟩ =>
        ⟨ω, β, ρ, U, env, h, _, X', rs, w, fun d v h1 ρ1 H1 rs1 g1 ev w1 => by
          subst ev
          cases d with
          | true => rw [if_pos rfl] at w1; exact hq _ _ _ _ _ rs1 g1 rfl w1
          | false => rw [if_neg (by decide)] at w1; exact hq _ _ _ _ _ rs1 g1 rfl w1, hx⟩
    | [], h => simp [chkTs] at h
    | _ :: _ :: _, h => simp [chkTs] at h
  | .cons _ (.cons _ _), X, sc, W, es, cc, hs, tk, h => by simp [chkTs] at h
termination_by c => sizeOf c
theorem soundL : ∀ (c : LE) {X : Cx} {sc : Scope} {W : WX} {e : Expr}, CC C Γ nm cs k N X → X.env.scope = sc → Takes X W → chkL N nm (cnam cs) c sc e = true → PE X e (tL C X.K W Γ (cval cs) c)
  | .lc it g ifs el, X, sc, W, e, cc, hs, tk, h => by
    cases e with
    | ListComp elt gs scope p =>
      match gs, h with
      | [⟨tg, iter, fs, na⟩], h =>
        simp only [chkL, Bool.and_eq_true, decide_eq_true_eq] at h
        obtain ⟨⟨⟨⟨⟨⟨rfl, hi⟩, hg⟩, hb⟩, ho⟩, ht⟩, he⟩ := h
        have pi := soundI it (cp := true) cc hs tk hi
        have ok := blkOk_by hb
        rw [← hs, ← cc.hN] at ok
        have esc : ∀ (s : Shared) (H : Hp) (Cd : Addr) (cl : List (Str × Addr)) (fp : List Addr), (X.blk s H scope (compEnvC scope cl Cd X.env) fp).env.scope = relS scope sc := fun s H Cd cl fp => by rw [← hs]; rfl
        exact PE.imp (pe_lc cc.calm cc.nd pi ok (fun s H Cd cl fp => soundG (cc.blk s H scope Cd cl fp).hN (cc.blk s H scope Cd cl fp).nd (hT_blk s H scope Cd cl fp) cc.calm hg)
          (fun s H Cd cl fp => soundTs ifs (cc.blk s H scope Cd cl fp) (esc s H Cd cl fp) takes0 ht) (fun s H Cd cl fp => soundE el (cc.blk s H scope Cd cl fp) (esc s H Cd cl fp) takes0 he) (folded (plainI hi).set)) fun σ H Q q =>
            lc_ok cc.calm cc.nd pi ok ho (fun s H Cd cl fp => soundG (cc.blk s H scope Cd cl fp).hN (cc.blk s H scope Cd cl fp).nd (hT_blk s H scope Cd cl fp) cc.calm hg)
              (fun s H Cd cl fp => soundTs ifs (cc.blk s H scope Cd cl fp) (esc s H Cd cl fp) takes0 ht) (fun s H Cd cl fp => soundE el (cc.blk s H scope Cd cl fp) (esc s H Cd cl fp) takes0 he) (pos := p) q
      | [], h => simp [chkL] at h
      | _ :: _ :: _, h => simp [chkL] at h
    | _ => simp [chkL] at h
  | .dsp es, X, sc, W, e, cc, hs, tk, h => by
    cases e with
    | List xs p =>
      have pa := soundEs es cc hs tk (es := xs) (by simpa [chkL] using h)
      refine PE.imp (pe_lst pa) fun σ H Q ⟨ω, β, ρ, U, env, h, Q', X', rs, w, hq, hx⟩ => ?_
      exact ⟨ω, β, ρ, U, env, h, _, X', rs, w, fun d v h1 ρ1 H1 rs1 g1 rv1 w1 => by
        obtain ⟨ds, rfl, hl, w1⟩ := w1
        have r := map_d rv1
        exact ⟨by rw [← r.length]; exact hl, hq _ _ _ _ _ rs1 g1 r w1⟩, hx⟩
    | _ => simp [chkL] at h
  | .sortK f a, X, sc, W, e, cc, hs, tk, h => by
    cases e with
    | Call fn ys kw p =>
      cases fn with
      | Name x pn =>
        match ys, kw, h with
        | [y], [⟨ka, kv, kp⟩], h =>
          cases ka with
          | none => simp [chkL] at h
          | some kn =>
            cases kv with
            | Name z pz =>
                simp only [chkL, Bool.and_eq_true, decide_eq_true_eq] at h
                obtain ⟨⟨⟨⟨⟨hg, rfl⟩, rfl⟩, hg2⟩, hf⟩, ha⟩ := h
                obtain ⟨g1, g2⟩ := glB_ok hs hg
                obtain ⟨g3, g4⟩ := glB_ok hs hg2
                cases en : nm f with
                | none => rw [en] at hf; cases hf
                | some z' =>
                  rw [en] at hf
                  have ez : z' = z := of_decide_eq_true hf
                  subst ez
                  obtain ⟨kk, fa, fd, ps, hm, hb, F, hr⟩ := cc.srt f z' en
                  have pa := soundE a cc hs tk ha
                  have s1 := star_cons (es := []) (env := X.env) (plainE ha).star
                  refine PE.imp (pe_callBK (ks := [Str.ofString "key"]) (cr_sortK F hb hr) g1 (cc.blt _ (by decide +kernel)) (by decide +kernel) (pa_cons pa pa_nil s1) (pk_cons (pe_glob (v := .ref fa) g3 hm rfl g4) pk_nil) (by decide +kernel) g2 (by rw [s1]; rfl) (by rw [s1]; rfl)) fun σ H Q ⟨ω, β, ρ, U, env, h, Q', X', rs, w, hq, hx⟩ => ?_
                  exact ⟨ω, β, ρ, U, env, h, _, X', rs, w, fun d v h1 ρ1 H1 rs1 g1 rv1 w1 => by
                    obtain ⟨xs, ex, w1⟩ := w1
                    obtain ⟨a, vs, rfl, s, r⟩ := rv1.list rs1.hr ex
                    refine ⟨a, vs, rfl, rfl, s, ?_⟩
                    refine keys_ok rs1 r .nil w1 fun ks kv h2 ρ2 H2 rs2 g2 rk w2 => ?_
                    obtain ⟨hk, hl, w2⟩ := w2
                    refine ⟨ks.map D.py, rds_dp rk fun k hk' => (hk.1 k hk').1, fun d hd d' hd' => ?_, .inl fun d hd => ?_, fun d hd => ?_, by rw [List.length_map, hl, r.length], ?_⟩
                    · obtain ⟨k, hk1, rfl⟩ := List.mem_map.mp hd
                      obtain ⟨k', hk2, rfl⟩ := List.mem_map.mp hd'
                      exact (D.py_alike _ _ (hk.2 k hk1 k' hk2)).1
                    · obtain ⟨k, hk1, rfl⟩ := List.mem_map.mp hd
                      obtain ⟨_, y, r, rfl⟩ := hk.1 k hk1
                      exact ⟨y.py, D.pys r, rfl⟩
                    · obtain ⟨k, hk1, rfl⟩ := List.mem_map.mp hd
                      exact (D.fla_lay k 60 (hk.1 k hk1).1).2
                    · exact hq _ _ _ _ _ rs2 (g1.trans g2) (sort_rel (r.grow g2.gr) hl hk) w2, hx⟩
            | _ => simp [chkL] at h
        | [], _, h => simp [chkL] at h
        | _ :: _ :: _, _, h => simp [chkL] at h
        | [_], [], h => simp [chkL] at h
        | [_], _ :: _ :: _, h => simp [chkL] at h
      | _ => simp [chkL] at h
    | _ => simp [chkL] at h
  | .srt a, X, sc, W, e, cc, hs, tk, h => by
    cases e with
    | Call fn ys kw p =>
      cases fn with
      | Name x pn =>
        match ys, kw, h with
        | [y], [], h =>
          simp only [chkL, Bool.and_eq_true, decide_eq_true_eq] at h
          obtain ⟨⟨hg, rfl⟩, hl⟩ := h
          obtain ⟨g1, g2⟩ := glB_ok hs hg
          have pl := soundE a cc hs tk hl
          have s1 := star_cons (es := []) (env := X.env) (plainE hl).star
          refine PE.imp (pe_callB cr_sortedI g1 (cc.blt _ (by decide +kernel)) (by decide +kernel) (pa_cons pl pa_nil s1) (by decide +kernel) g2 s1 rfl) fun σ H Q ⟨ω, β, ρ, U, env, h, Q', X', rs, w, hq, hx⟩ => ?_
          exact ⟨ω, β, ρ, U, env, h, _, X', rs, w, fun d v h1 ρ1 H1 rs1 g1 rv1 w1 => by
            obtain ⟨xs, ns, ex, ei, w1⟩ := w1
            obtain ⟨a, vs, rfl, s, r⟩ := rv1.list rs1.hr ex
            have ev := intsOf_eq ei
            subst ev
            have eu := RDs.ints ns r
            subst eu
            exact ⟨a, ns, rfl, s, fun ms p hp hw hf => hq _ _ _ _ _ rs1 g1 (RDs.of_ints ms) (w1 ms hp hw) p hf⟩, hx⟩
        | [], _, h => simp [chkL] at h
        | _ :: _ :: _, _, h => simp [chkL] at h
        | [_], _ :: _, h => simp [chkL] at h
      | _ => simp [chkL] at h
    | _ => simp [chkL] at h
  | .listE a, X, sc, W, e, cc, hs, tk, h => by
    cases e with
    | Call fn ys kw p =>
      cases fn with
      | Name x pn =>
        match ys, kw, h with
        | [y], [], h =>
          simp only [chkL, Bool.and_eq_true, decide_eq_true_eq] at h
          obtain ⟨⟨hg, rfl⟩, hl⟩ := h
          obtain ⟨g1, g2⟩ := glB_ok hs hg
          have pl := soundE a cc hs tk hl
          have s1 := star_cons (es := []) (env := X.env) (plainE hl).star
          refine PE.imp (pe_callTy (call_list_of.or ((call_list_dK cc.calm).or (call_list_dT cc.calm))) g1 (cc.blt _ (by decide +kernel)) (by decide +kernel) (pa_cons pl pa_nil s1) (by decide +kernel) g2 s1 rfl) fun σ H Q ⟨ω, β, ρ, U, env, h, Q', X', rs, w, hq, hx⟩ => ?_
          exact ⟨ω, β, ρ, U, env, h, _, X', rs, w, fun d v h1 ρ1 H1 rs1 g1 rv1 w1 => by
            rcases w1 with ⟨xs, ex, w1⟩ | ⟨o, xs, eo, ek, w1⟩
            · obtain ⟨a, vs, rfl, s, r⟩ := rv1.seq rs1.hr ex
              exact .inl ⟨a, vs, rfl, s, hq _ _ _ _ _ rs1 g1 r w1⟩
            · obtain ⟨a, rfl, q⟩ := keyList_rel rs1.hr rv1 eo ek
              rcases q with ⟨kvs, h1, r⟩ | ⟨kvs, h1, r⟩
              · exact .inr (.inl ⟨a, kvs, rfl, h1, hq _ _ _ _ _ rs1 g1 r w1⟩)
              · exact .inr (.inr ⟨a, kvs, rfl, .inl h1, fun p bs hp hk => hq _ _ _ _ _ rs1 g1 (r _ _ bs hk) w1 p hp⟩), hx⟩
        | [], _, h => simp [chkL] at h
        | _ :: _ :: _, _, h => simp [chkL] at h
        | [_], _ :: _, h => simp [chkL] at h
      | _ => simp [chkL] at h
    | _ => simp [chkL] at h
  | .listRg a, X, sc, W, e, cc, hs, tk, h => by
    cases e with
    | Call fn ys kw p =>
      cases fn with
      | Name x pn =>
        match ys, kw, h with
        | [.Call (.Name r pr) [y] [] p2], [], h =>
          simp only [chkL, Bool.and_eq_true, decide_eq_true_eq] at h
          obtain ⟨⟨⟨⟨hg, rfl⟩, hg2⟩, rfl⟩, hl⟩ := h
          obtain ⟨g1, g2⟩ := glB_ok hs hg
          obtain ⟨g3, g4⟩ := glB_ok hs hg2
          have pl := soundE a cc hs tk hl
          refine PE.imp (pe_listRg cc.calm g1 (cc.blt _ (by decide +kernel)) (prg_1 g3 (cc.blt _ (by decide +kernel)) pl (star_cons (plainE hl).star))) fun σ H Q ⟨ω, β, ρ, U, env, h, Q', X', rs, w, hq, hx⟩ => ?_
          exact ⟨ω, β, ρ, U, env, h, _, X', rs, w, fun d v h1 ρ1 H1 rs1 g1 rv1 w1 => by
            obtain ⟨i, rfl, i0, i1, w1⟩ := w1
            cases rv1
            exact ⟨i, rfl, RgOk.of_le (Int.le_refl 0) i1 (by decide) i0, hq _ _ _ _ _ rs1 g1 (rgV_rel i0) w1⟩, hx⟩
        | [], _, h => simp [chkL] at h
        | _ :: _ :: _, _, h => simp [chkL] at h
        | [y], kw, h =>
          cases kw with
          | cons _ _ => simp [chkL] at h
          | nil =>
            cases y with
            | Call f2 y2 k2 p2 =>
              cases f2 with
              | Name r pr =>
                match y2, k2, h with
                | [z], [], h =>
                  simp only [chkL, Bool.and_eq_true, decide_eq_true_eq] at h
                  obtain ⟨⟨⟨⟨hg, rfl⟩, hg2⟩, rfl⟩, hl⟩ := h
                  obtain ⟨g1, g2⟩ := glB_ok hs hg
                  obtain ⟨g3, g4⟩ := glB_ok hs hg2
                  have pl := soundE a cc hs tk hl
                  refine PE.imp (pe_listRg cc.calm g1 (cc.blt _ (by decide +kernel)) (prg_1 g3 (cc.blt _ (by decide +kernel)) pl (star_cons (plainE hl).star))) fun σ H Q ⟨ω, β, ρ, U, env, h, Q', X', rs, w, hq, hx⟩ => ?_
                  exact ⟨ω, β, ρ, U, env, h, _, X', rs, w, fun d v h1 ρ1 H1 rs1 g1 rv1 w1 => by
                    obtain ⟨i, rfl, i0, i1, w1⟩ := w1
                    cases rv1
                    exact ⟨i, rfl, RgOk.of_le (Int.le_refl 0) i1 (by decide) i0, hq _ _ _ _ _ rs1 g1 (rgV_rel i0) w1⟩, hx⟩
                | [], _, h => simp [chkL] at h
                | _ :: _ :: _, _, h => simp [chkL] at h
                | [_], _ :: _, h => simp [chkL] at h
              | _ => simp [chkL] at h
            | _ => simp [chkL] at h
      | _ => simp [chkL] at h
    | _ => simp [chkL] at h
  | .items _, X, sc, W, e, cc, hs, tk, h => by simp [chkL] at h
  | .listRg2 a b, X, sc, W, e, cc, hs, tk, h => by
    cases e with
    | Call fn ys kw p =>
      cases fn with
      | Name x pn =>
        cases kw with
        | cons _ _ => simp [chkL] at h
        | nil =>
        match ys, h with
        | [], h => simp [chkL] at h
        | _ :: _ :: _, h => simp [chkL] at h
        | [y], h =>
          cases y with
          | Call f2 y2 k2 p2 =>
            cases f2 with
            | Name r pr =>
              match y2, k2, h with
              | [z, u], [], h =>
                simp only [chkL, Bool.and_eq_true, decide_eq_true_eq] at h
                obtain ⟨⟨⟨⟨⟨hg, rfl⟩, hg2⟩, rfl⟩, hl⟩, hl2⟩ := h
                obtain ⟨g1, g2⟩ := glB_ok hs hg
                obtain ⟨g3, g4⟩ := glB_ok hs hg2
                have pa := soundE a cc hs tk hl
                have pb := soundE b cc hs tk hl2
                have s1 := star_cons (es := []) (env := X.env) (plainE hl2).star
                refine PE.imp (pe_listRg cc.calm g1 (cc.blt _ (by decide +kernel)) (prg_2 g3 (cc.blt _ (by decide +kernel)) pa pb (star_cons (plainE hl).star) s1 (by rw [s1]; rfl))) fun σ H Q ⟨ω, β, ρ, U, env, h, Q', X', rs, w, hq, hx⟩ => ?_
                exact ⟨ω, β, ρ, U, env, h, _, X', rs, w, fun d v h1 ρ1 H1 rs1 g1 rv1 w1 => ⟨ω, β, ρ1, U, env, h1, _, X', rs1, w1, fun d2 v2 h2 ρ2 H2 rs2 g2 rv2 w2 => by
                  obtain ⟨i, j, rfl, rfl, ⟨i0, i1, i2, i3⟩, hl, w2⟩ := w2
                  cases rv1
                  cases rv2
                  exact ⟨i, j, rfl, rfl, ⟨i0, i1, i2, i3, hl⟩, hq _ _ _ _ _ rs2 (g1.trans g2) (RDs.rg i (j - i).toNat) w2⟩, upX g1 hx⟩, hx⟩
              | [], _, h => simp [chkL] at h
              | [_], _, h => simp [chkL] at h
              | _ :: _ :: _ :: _, _, h => simp [chkL] at h
              | [_, _], _ :: _, h => simp [chkL] at h
            | _ => simp [chkL] at h
          | _ => simp [chkL] at h
      | _ => simp [chkL] at h
    | _ => simp [chkL] at h
  | .cat a b, X, sc, W, e, cc, hs, tk, h => by
    cases e with
    | BinOp x op y p =>
      cases op with
      | Add =>
        simp only [chkL, Bool.and_eq_true] at h
        have pa := soundL a cc hs tk h.1
        have pb := soundL b cc hs tk h.2
        refine PE.imp (pe_op op_cat pa pb) fun σ H Q ⟨ω, β, ρ, U, env, h, Q', X', rs, w, hq, hx⟩ => ?_
        exact ⟨ω, β, ρ, U, env, h, _, X', rs, w, fun d v h1 ρ1 H1 rs1 g1 rv1 w1 p hp => by
          have l1 := rs1.hr.laid hp (.lst v)
          have np := rs1.hr.fresh hp
          have gg := g1.trans l1.2
          exact ⟨ω, β, ρ1, U, env, h1, _, X', rs1.step l1.1 l1.2, w1, fun e u h2 ρ2 H2 rs2 g2 rv2 w2 p2 hp2 => by
            have eL := (g2.gr.lst p v upd_same np).1
            have l2 := rs2.hr.laid hp2 (.lst u)
            have r1 := ((rv1.grow l1.2.gr).grow g2.gr)
            refine ⟨p, p2, v, u, rfl, rfl, by rw [upd_ne (ne_of_none eL hp2)]; exact eL, upd_same, by rw [← rv1.length, ← rv2.length]; exact w2.1, fun q hq2 => ?_⟩
            exact hq _ _ _ _ _ (rs2.step l2.1 l2.2) ((gg.trans g2).trans l2.2) ((r1.append rv2).grow l2.2.gr) w2.2 q hq2, upX gg hx⟩, hx⟩
      | _ => simp [chkL] at h
    | _ => simp [chkL] at h
  | .catE a b, X, sc, W, e, cc, hs, tk, h => by
    cases e with
    | BinOp x op y p =>
      cases op with
      | Add =>
        simp only [chkL, Bool.and_eq_true] at h
        have pa := soundE a cc hs tk h.1
        have pb := soundE b cc hs tk h.2
        refine PE.imp (pe_op op_catS pa pb) fun σ H Q ⟨ω, β, ρ, U, env, h, Q', X', rs, w, hq, hx⟩ => ?_
        exact ⟨ω, β, ρ, U, env, h, _, X', rs, w, fun d v h1 ρ1 H1 rs1 g1 rv1 w1 => ⟨ω, β, ρ1, U, env, h1, _, X', rs1, w1, fun e u h2 ρ2 H2 rs2 g2 rv2 w2 => by
          obtain ⟨xs, ys, ex, ey, hl, w2⟩ := w2
          obtain ⟨a, vs, rfl, s, r⟩ := (rv1.step g2).list rs2.hr ex
          obtain ⟨b, us, rfl, s2, r2⟩ := rv2.list rs2.hr ey
          exact ⟨a, b, vs, us, rfl, rfl, s, s2, by rw [← r.length, ← r2.length]; exact hl, hq _ _ _ _ _ rs2 (g1.trans g2) (r.append r2) w2⟩, upX g1 hx⟩, hx⟩
      | _ => simp [chkL] at h
    | _ => simp [chkL] at h
  | .rep a b, X, sc, W, e, cc, hs, tk, h => by
    cases e with
    | BinOp x op y p =>
      cases op with
      | Mult =>
        simp only [chkL, Bool.and_eq_true] at h
        have pa := soundL a cc hs tk h.1
        have pb := soundE b cc hs tk h.2
        refine PE.imp (pe_op op_rep pa pb) fun σ H Q ⟨ω, β, ρ, U, env, h, Q', X', rs, w, hq, hx⟩ => ?_
        exact ⟨ω, β, ρ, U, env, h, _, X', rs, w, fun d v h1 ρ1 H1 rs1 g1 rv1 w1 p hp => by
          have l1 := rs1.hr.laid hp (.lst v)
          have np := rs1.hr.fresh hp
          have gg := g1.trans l1.2
          exact ⟨ω, β, ρ1, U, env, h1, _, X', rs1.step l1.1 l1.2, w1, fun e u h2 ρ2 H2 rs2 g2 rv2 w2 => by
            obtain ⟨kk, rfl, k1, k2, kl, w2⟩ := w2
            cases rv2
            have eL := (g2.gr.lst p v upd_same np).1
            have r1 := ((rv1.grow l1.2.gr).grow g2.gr)
            refine ⟨p, kk, v, rfl, rfl, eL, k1, k2, by rw [← rv1.length]; exact kl, fun q hq2 => ?_⟩
            exact hq _ _ _ _ _ rs2 (gg.trans g2) (r1.rep kk.toNat) w2 q hq2, upX gg hx⟩, hx⟩
      | _ => simp [chkL] at h
    | _ => simp [chkL] at h
  | .slcL a lo hi, X, sc, W, e, cc, hs, tk, h => by
    cases e with
    | Subscript x y p =>
      cases y with
      | Slice l u s q =>
        cases s with
        | some _ => simp [chkL] at h
        | none =>
        simp only [chkL, Bool.and_eq_true] at h
        obtain ⟨⟨ha, hl⟩, hu⟩ := h
        have pa := soundE a cc hs tk ha
        have pl := soundO lo cc hs tk hl
        have pu := soundO hi cc hs tk hu
        refine PE.imp (pe_slice sl_list pa pl pu) fun σ H Q ⟨ω, β, ρ, U, env, h, Q', X', rs, w, hq, hx⟩ => ?_
        exact ⟨ω, β, ρ, U, env, h, _, X', rs, w, fun d v h1 ρ1 H1 rs1 g1 rv1 w1 => ⟨ω, β, ρ1, U, env, h1, _, X', rs1, w1, fun i i' h2 ρ2 H2 rs2 g2 ei w2 =>
          ⟨ω, β, ρ2, U, env, h2, _, X', rs2, w2, fun j j' h3 ρ3 H3 rs3 g3 ej w3 => by
            subst ei; subst ej
            obtain ⟨xs, ex, w3⟩ := w3
            obtain ⟨a, vs, rfl, s, r⟩ := ((rv1.step g2).step g3).list rs3.hr ex
            exact ⟨a, vs, rfl, s, hq _ _ _ _ _ rs3 ((g1.trans g2).trans g3) (cutD_rel r i j) w3⟩, upX (g1.trans g2) hx⟩, upX g1 hx⟩, hx⟩
      | _ => simp [chkL] at h
    | _ => simp [chkL] at h
termination_by c => sizeOf c
theorem soundI : ∀ (c : CI) {cp : Bool} {X : Cx} {sc : Scope} {W : WX} {e tg : Expr}, CC C Γ nm cs k N X → X.env.scope = sc → Takes X W → chkI N nm (cnam cs) c sc tg e = true → PI X tg e (tI C X.K W Γ (cval cs) c cp)
  | .val a, cp, X, sc, W, e, tg, cc, hs, tk, h => by
    have pa := soundE a cc hs tk (by simpa [chkI] using h)
    refine PI.imp (walk_val pa) fun σ H R ⟨ω, β, ρ, U, env, h, Q', X', rs, w, hq, hx⟩ => ?_
    exact ⟨ω, β, ρ, U, env, h, _, X', rs, w, fun d v h1 ρ1 H1 rs1 g1 rv1 w1 => by
      obtain ⟨nc, xs, ex, w1⟩ := w1
      obtain ⟨a, rfl, q⟩ := Wlk.val (cp := cp) rs1.hr rv1 nc ex
      rcases q with ⟨q1, q2⟩ | ⟨q1, q2⟩
      · exact ⟨a, rfl, .inl ⟨q1, hq _ _ _ _ _ _ rs1 g1 q2 w1⟩⟩
      · exact ⟨a, rfl, .inr ⟨q1, hq _ _ _ _ _ _ rs1 g1 q2 w1⟩⟩, hx⟩
  | .rg1 a, cp, X, sc, W, e, tg, cc, hs, tk, h => by
    cases e with
    | Call fn ys kw p =>
      cases fn with
      | Name x pn =>
        match ys, kw, h with
        | [y], [], h =>
          simp only [chkI, Bool.and_eq_true, decide_eq_true_eq] at h
          obtain ⟨⟨hgl, rfl⟩, hl⟩ := h
          obtain ⟨g1, g2⟩ := glB_ok hs hgl
          have pl := soundE a cc hs tk hl
          have s1 := star_cons (es := []) (env := X.env) (plainE hl).star
          refine PI.imp (pi_range1 g1 (cc.blt _ (by decide +kernel)) (pa_cons pl pa_nil s1) s1) fun σ H R ⟨ω, β, ρ, U, env, h, Q', X', rs, w, hq, hx⟩ => ?_
          exact ⟨ω, β, ρ, U, env, h, _, X', rs, w, fun d v h1 ρ1 H1 rs1 g1 rv1 w1 => by
            obtain ⟨i, rfl, i0, i1, w1⟩ := w1
            cases rv1
            exact ⟨i, rfl, i0, i1, hq _ _ _ _ _ _ rs1 g1 Wlk.rg w1⟩, hx⟩
        | [], _, h => simp [chkI] at h
        | _ :: _ :: _, _, h => simp [chkI] at h
        | [_], _ :: _, h => simp [chkI] at h
      | _ => simp [chkI] at h
    | _ => simp [chkI] at h
  | .rg2 a b, cp, X, sc, W, e, tg, cc, hs, tk, h => by
    cases e with
    | Call fn ys kw p =>
      cases fn with
      | Name x pn =>
        match ys, kw, h with
        | [y, z], [], h =>
          simp only [chkI, Bool.and_eq_true, decide_eq_true_eq] at h
          obtain ⟨⟨⟨hgl, rfl⟩, ha⟩, hb⟩ := h
          obtain ⟨g1, g2⟩ := glB_ok hs hgl
          have pa := soundE a cc hs tk ha
          have pb := soundE b cc hs tk hb
          have s1 := star_cons (es := []) (env := X.env) (plainE hb).star
          have s2 := star_cons (es := [z]) (env := X.env) (plainE ha).star
          refine PI.imp (pi_range2 g1 (cc.blt _ (by decide +kernel)) (pa_cons pa (pa_cons pb pa_nil s1) s2) (by rw [s2, s1]; rfl) s1) fun σ H R ⟨ω, β, ρ, U, env, h, Q', X', rs, w, hq, hx⟩ => ?_
          exact ⟨ω, β, ρ, U, env, h, _, X', rs, w, fun d v h1 ρ1 H1 rs1 g1 rv1 w1 => ⟨ω, β, ρ1, U, env, h1, _, X', rs1, w1, fun e u h2 ρ2 H2 rs2 g2 rv2 w2 => by
            obtain ⟨i, j, rfl, rfl, ij, w2⟩ := w2
            cases rv1
            cases rv2
            exact ⟨i, j, rfl, ij, hq _ _ _ _ _ _ rs2 (g1.trans g2) Wlk.rg w2⟩, upX g1 hx⟩, hx⟩
        | [], _, h => simp [chkI] at h
        | [_], _, h => simp [chkI] at h
        | _ :: _ :: _ :: _, _, h => simp [chkI] at h
        | [_, _], _ :: _, h => simp [chkI] at h
      | _ => simp [chkI] at h
    | _ => simp [chkI] at h
  | .enum a, cp, X, sc, W, e, tg, cc, hs, tk, h => by
    cases e with
    | Call fn ys kw p =>
      cases fn with
      | Name x pn =>
        match ys, kw, h with
        | [y], [], h =>
          simp only [chkI, Bool.and_eq_true, decide_eq_true_eq] at h
          obtain ⟨⟨⟨hgl, rfl⟩, ht⟩, hl⟩ := h
          obtain ⟨g1, g2⟩ := glB_ok hs hgl
          have pl := soundE a cc hs tk hl
          have s1 := star_cons (es := []) (env := X.env) (plainE hl).star
          cases tg with
          | Tuple elts kk tpos =>
            refine PI.imp (pi_enum g1 (cc.blt _ (by decide +kernel)) (pa_cons pl pa_nil s1) s1) fun σ H R ⟨ω, β, ρ, U, env, h, Q', X', rs, w, hq, hx⟩ => ?_
            exact ⟨ω, β, ρ, U, env, h, _, X', rs, w, fun d v h1 ρ1 H1 rs1 g1 rv1 w1 => by
              obtain ⟨nc, xs, ex, w1⟩ := w1
              obtain ⟨a, vs, rfl, s, wk⟩ := Wlk.enum (cp := cp) rs1.hr rv1 nc ex
              exact ⟨a, vs, rfl, s, hq _ _ _ _ _ _ rs1 g1 wk w1⟩, hx⟩
          | _ => simp at ht
        | [], _, h => simp [chkI] at h
        | _ :: _ :: _, _, h => simp [chkI] at h
        | [_], _ :: _, h => simp [chkI] at h
      | _ => simp [chkI] at h
    | _ => simp [chkI] at h
  | .zip a b, cp, X, sc, W, e, tg, cc, hs, tk, h => by
    cases e with
    | Call fn ys kw p =>
      cases fn with
      | Name x pn =>
        match ys, kw, h with
        | [y, z], [], h =>
          simp only [chkI, Bool.and_eq_true, decide_eq_true_eq] at h
          obtain ⟨⟨⟨⟨hgl, rfl⟩, ht⟩, ha⟩, hb⟩ := h
          obtain ⟨g1, g2⟩ := glB_ok hs hgl
          have pa := soundE a cc hs tk ha
          have pb := soundE b cc hs tk hb
          have s1 := star_cons (es := []) (env := X.env) (plainE hb).star
          have s2 := star_cons (es := [z]) (env := X.env) (plainE ha).star
          cases tg with
          | Tuple elts kk tpos =>
            refine PI.imp (RZ.pi_zipA g1 (cc.blt _ (by decide +kernel)) (pa_cons pa (pa_cons pb pa_nil s1) s2) s2 (by rw [s1]; rfl)) fun σ H R ⟨ω, β, ρ, U, env, h, Q', X', rs, w, hq, hx⟩ => ?_
            exact ⟨ω, β, ρ, U, env, h, _, X', rs, w, fun d v h1 ρ1 H1 rs1 g1 rv1 w1 => ⟨ω, β, ρ1, U, env, h1, _, X', rs1, w1, fun e u h2 ρ2 H2 rs2 g2 rv2 w2 => by
              obtain ⟨xs, ys, rfl, rfl, w2⟩ := w2
              obtain ⟨a1, b1, vs, us, rfl, rfl, t1, t2, wk⟩ := Wlk.zipT (C := C) (cp := cp) (rv1.grow g2.gr) rv2
              exact ⟨a1, b1, vs, us, rfl, .inr ⟨t1, t2, hq _ _ _ _ _ _ rs2 (g1.trans g2) wk w2⟩⟩, upX g1 hx⟩, hx⟩
          | _ => simp at ht
        | [], _, h => simp [chkI] at h
        | [_], _, h => simp [chkI] at h
        | _ :: _ :: _ :: _, _, h => simp [chkI] at h
        | [_, _], _ :: _, h => simp [chkI] at h
      | _ => simp [chkI] at h
    | _ => simp [chkI] at h
termination_by c => sizeOf c
decreasing_by all_goals (simp_wf <;> omega)
end
end
end G

set_option maxHeartbeats 4000000
/-! Core11: statements: the look, what it says. -/
namespace G
open PySem PySem.Spec PyProof.Rows L2
/-! ### the look -/
/-- is a comprehension -/
def isLC : Expr → Bool
  | .ListComp _ _ _ _ => true
  | .SetComp _ _ _ _ => true
  | .DictComp _ _ _ _ _ => true
  | _ => false
def cellB (sc : Scope) (x : Str) : Bool := match sc.names.lookup x with
  | some .cell => true
  | _ => false
theorem cellB_ok {sc : Scope} {x : Str} (h : cellB sc x = true) : sc.names.lookup x = some .cell := by
  unfold cellB at h
  split at h
  · assumption
  · cases h
/-- an assignment to tg of v is the plain one, or a comprehension's to a local on one line -/
def asgB (sc : Scope) : Expr → Expr → Bool
  | .Name y py, .ListComp _ _ scope pos => cellB sc y || loc1B sc y && (match sc.kind with
      | .function => true
      | _ => false) && (py.line == pos.line) && !(scope.names.any fun (n, k) => n == y && (k == .local || k == .cell))
  | .Name _ _, v => !isLC v
  | .Tuple _ _ _, v => !isLC v && (match v with
      | .Tuple _ _ _ => false
      | _ => true)
  | _, _ => false
section
variable (N : List Str) (nm : NT) (sc : Scope)
def EE.isB : EE → Bool
  | .bl _ => true
  | .isE _ _ => true
  | .notE a => a.isB
  | .andE a b => a.isB && b.isB
  | _ => false
/-- an except suite's expression; n: the exception's slot -/
def chkEE (n : Option Nat) : EE → Expr → Bool
  | .bl b, e => (match e with
    | .Constant (.bool c) _ _ => b == c
    | _ => false)
  | .non, e => (match e with
    | .Constant .none _ _ => true
    | _ => false)
  | .str z, e => (match e with
    | .Constant (.str y) _ _ => decide (z = y)
    | _ => false)
  | .isE l x, e => (match e with
    | .Call (.Name f _) [.Name y _, .Name z _] [] _ => glB sc f && decide (f = ("isinstance" : Str)) && (match n with
      | some i => nameAt N i y && visB sc y
      | none => false) && glB sc z && decide (z = x) && decide (xlAt nm.xl x = some l)
    | _ => false)
  | .notE a, e => (match e with
    | .UnaryOp .Not v _ => a.isB && chkEE n a v
    | _ => false)
  | .andE a b, e => (match e with
    | .BoolOp .And [v, w] _ => a.isB && b.isB && chkEE n a v && chkEE n b w
    | .BoolOp .And (v :: w :: u :: r) p => a.isB && b.isB && chkEE n a v && chkEE n b (.BoolOp .And (w :: u :: r) p)
    | _ => false)
def chkEH (n : Option Nat) : EH → List Stmt → Bool
  | .asg i e, sts => (match sts with
    | [.Assign [.Name y _] v _] => nameAt N i y && locB sc y && decide (n ≠ some i) && chkEE N nm sc n e v
    | _ => false)
  | .ret e, sts => (match sts with
    | [.Return (some v) _] => chkEE N nm sc n e v
    | _ => false)
def chkXN : Option Nat → Option Str → Bool
  | none, none => true
  | some i, some z => nameAt N i z && loc1B sc z
  | _, _ => false
end
section
variable (N : List Str) (nm : NT) (cn : Nat → Option Str) (sc : Scope)
mutual
def chkS : CS → Stmt → Bool
  | .asg g e, st => (match st with
    | .Assign [tg] v _ => chkG N sc g tg && chkE N nm cn e sc v && asgB sc tg v
    | _ => false)
  | .asgO i l, st => (match st with
    | .Assign [tg] v _ => chkG N sc (.nm i) tg && chkL N nm cn l sc v && asgB sc tg v
    | _ => false)
  | .asgD i, st => (match st with
    | .Assign [tg] (.Dict [] [] _) _ => chkG N sc (.nm i) tg
    | _ => false)
  | .asgC i f es, st => (match st with
    | .Assign [tg] (.Call (.Name x _) (y :: ys) [] _) _ => chkG N sc (.nm i) tg && glB sc x && (match nm f with
      | some z => decide (z = x)
      | none => false) && chkEs N nm cn es sc (y :: ys)
    | _ => false)
  | .aug i o e, st => (match st with
    | .AugAssign (.Name x _) op v _ => nameAt N i x && locB sc x && decide (op = o.op) && chkE N nm cn e sc v && (match o with
      | .add => true
      | .sub => true
      | .mul => true
      | _ => false)
    | _ => false)
  | .setix i k e, st => (match st with
    | .Assign [.Subscript (.Name x _) y _] v _ => nameAt N i x && visB sc x && chkE N nm cn k sc y && chkE N nm cn e sc v && !isLC v
    | _ => false)
  | .app i e, st => (match st with
    | .Expr (.Call (.Attribute (.Name x _) m a) [v] [] c) _ => nameAt N i x && visB sc x && decide (m = ("append" : Str)) && bmB a c && chkE N nm cn e sc v
    | _ => false)
  | .ext i l, st => (match st with
    | .Expr (.Call (.Attribute (.Name x _) m a) [v] [] c) _ => nameAt N i x && visB sc x && decide (m = ("extend" : Str)) && bmB a c && chkL N nm cn l sc v
    | _ => false)
  | .extV i j, st => (match st with
    | .Expr (.Call (.Attribute (.Name x _) m a) [.Name y _] [] c) _ => nameAt N i x && visB sc x && decide (m = ("extend" : Str)) && bmB a c && nameAt N j y && visB sc y
    | _ => false)
  | .clr i, st => (match st with
    | .Expr (.Call (.Attribute (.Name x _) m a) [] [] c) _ => nameAt N i x && visB sc x && decide (m = ("clear" : Str)) && bmB a c
    | _ => false)
  | .exp e, st => (match st with
    | .Expr v _ => chkE N nm cn e sc v && !isLC v
    | _ => false)
  | .ret e, st => (match st with
    | .Return (some v) _ => chkE N nm cn e sc v
    | _ => false)
  | .retM i, st => (match st with
    | .Return (some (.Name x _)) _ => nameAt N i x && visB sc x
    | _ => false)
  | .retN, st => (match st with
    | .Return none _ => true
    | _ => false)
  | .retL l, st => (match st with
    | .Return (some v) _ => chkL N nm cn l sc v
    | _ => false)
  | .exte i e, st => (match st with
    | .Expr (.Call (.Attribute (.Name x _) m a) [v] [] c) _ => nameAt N i x && visB sc x && decide (m = ("extend" : Str)) && bmB a c && chkE N nm cn e sc v
    | _ => false)
  | .ite t a b, st => (match st with
    | .If c x y _ => chkT N nm cn t sc c && chkSs a x && chkSs b y
    | _ => false)
  | .whl t a, st => (match st with
    | .While c x [] _ => chkT N nm cn t sc c && chkSs a x
    | _ => false)
  | .for g it a, st => (match st with
    | .For tg iter x [] _ => chkG N sc g tg && chkI N nm cn it sc tg iter && chkSs a x
    | _ => false)
  | .asgV i j, st => (match st with
    | .Assign [tg] (.Name y py) _ => chkG N sc (.nm i) tg && nameAt N j y && visB sc y && asgB sc tg (.Name y py)
    | _ => false)
  | .forO g i a, st => (match st with
    | .For tg iter x [] _ => chkG N sc g tg && chkI N nm cn (.val (.var i)) sc tg iter && chkSs a x
    | _ => false)
  | .brk, st => (match st with
    | .Break _ => true
    | _ => false)
  | .cnt, st => (match st with
    | .Continue _ => true
    | _ => false)
  | .pas, st => (match st with
    | .Pass _ => true
    | .Expr (.Constant (.str _) _ _) _ => true
    | _ => false)
  | .frz _, _ => false
  | .asgD1 i k v, st => (match st with
    | .Assign [tg] (.Dict [some x] [y] _) _ => chkG N sc (.nm i) tg && chkE N nm cn k sc x && chkE N nm cn v sc y
    | _ => false)
  | .asg2 _ _ _ _, _ => false
  | .setixE o k e, st => (match st with
    | .Assign [.Subscript ob y _] v _ => chkE N nm cn o sc ob && chkE N nm cn k sc y && chkE N nm cn e sc v && !isLC v
    | _ => false)
  | .setf k o f e, st => (match st with
    | .Assign [.Attribute ob m _] v _ => decide (m = f) && nm.fl.contains f && decide (k ≤ nm.nc) && chkE N nm cn o sc ob && chkE N nm cn e sc v && !isLC v
    | _ => false)
  | .raise c, st => (match st with
    | .Raise (some (.Call (.Name x _) [.Constant (.str _) _ _] [] _)) none _ => glB sc x && decide (nm.xn c = some x)
    | _ => false)
  | .tryX k l x n a s, st => (match st with
    | .Try body [.ExceptHandler (some (.Name y _)) z (s0 :: sr) _] [] [] _ => glB sc y && decide (y = x) && decide (xlAt nm.xl x = some l) && decide (k ≤ nm.nx) && chkXN N sc n z && chkEH N nm sc n s (s0 :: sr) && chkSs a body
    | _ => false)
def chkSs : CSs → List Stmt → Bool
  | .nil, sts => sts.isEmpty
  | .cons a r, sts => (match a with
    | .frz _ => chkSs r sts
    | _ => match sts with
      | st :: rest => chkS a st && chkSs r rest
      | [] => false)
end
end

/-! ### readings -/
structure EndsOk (C : Nat → Addr) (K : PySem.W.Frag) (W : WX) (β : Nat → Option Addr) (ω : List Addr) (H : Hp) (ρ U : List Addr) (R : CEnds) (D : Ends) : Prop where
  nx : ∀ env' h' ρ' U' σ' H', RS C K β ω ρ' U' env' h' σ' H' → SStp ω H ρ U H' ρ' U' → R.nx env' h' → D.nx σ' H'
  bk : ∀ env' h' ρ' U' σ' H', RS C K β ω ρ' U' env' h' σ' H' → SStp ω H ρ U H' ρ' U' → R.bk env' h' → D.bk σ' H'
  ct : ∀ env' h' ρ' U' σ' H', RS C K β ω ρ' U' env' h' σ' H' → SStp ω H ρ U H' ρ' U' → R.ct env' h' → D.ct σ' H'
  rt : ∀ r v h' ρ' U' H', HR C K ω ρ' U' h' H' → SStp ω H ρ U H' ρ' U' → RRel C K ω ρ' U' H' r v → R.rt r h' → D.rt v H'
  ex : ∀ x cls dd env' h' ρ' U' σ' H', RS C K β ω ρ' U' env' h' σ' H' → SStp ω H ρ U H' ρ' U' → RX C K ω ρ' U' H' x cls dd → R.ex x env' h' → W cls dd σ' H'
theorem EndsOk.step {C : Nat → Addr} {K : PySem.W.Frag} {W : WX} {β : Nat → Option Addr} {ω : List Addr} {H H1 : Hp} {ρ U ρ1 U1 : List Addr} {R : CEnds} {D : Ends} (e : EndsOk C K W β ω H ρ U R D) (g : SStp ω H ρ U H1 ρ1 U1) : EndsOk C K W β ω H1 ρ1 U1 R D :=
  ⟨fun _ _ _ _ _ _ rs st q => e.nx _ _ _ _ _ _ rs (g.trans st) q, fun _ _ _ _ _ _ rs st q => e.bk _ _ _ _ _ _ rs (g.trans st) q, fun _ _ _ _ _ _ rs st q => e.ct _ _ _ _ _ _ rs (g.trans st) q,
    fun _ _ _ _ _ _ hr st rr q => e.rt _ _ _ _ _ _ hr (g.trans st) rr q, fun _ _ _ _ _ _ _ _ _ rs st rx q => e.ex _ _ _ _ _ _ _ _ _ rs (g.trans st) rx q⟩
def tSG (C : Nat → Addr) (K : PySem.W.Frag) (W : WX) (w : Ev → AH → CEnds → Prop) : TS := fun D σ H =>
  ∃ (ω : List Addr) (β : Nat → Option Addr) (ρ U : List Addr) (env : Ev) (h : AH) (R : CEnds), RS C K β ω ρ U env h σ H ∧ w env h R ∧ EndsOk C K W β ω H ρ U R D
theorem PS.imp {X : Cx} {e : Stmt} {t t' : TS} (h : PS X e t) (w : ∀ D σ H, t' D σ H → t D σ H) : PS X e t' := ⟨fun pins s σ H D I q => h.run pins s σ H D I (w D σ H q)⟩
theorem PSs.imp {X : Cx} {e : List Stmt} {t t' : TS} (h : PSs X e t) (w : ∀ D σ H, t' D σ H → t D σ H) : PSs X e t' := ⟨fun pins s σ H D I q => h.run pins s σ H D I (w D σ H q)⟩

/-! ### the syntax of assignments -/
theorem swaps_no {v : Expr} {t : Option Expr} {l : Nat} {env : Env} (h : isLC v = false) : swapsWith v t l env = pure false := by
  cases v <;> first | rfl | cases h
theorem sole_no {tg v : Expr} {l : Nat} {env : Env} (h : isLC v = false) : swapsWithSole [tg] v l env = pure false := swaps_no (t := some tg) h
theorem sole_cell {elt : Expr} {gs : List Comprehension} {scope : Scope} {pos py : Pos} {y : Str} {l : Nat} {env : Env} (hy : env.scope.names.lookup y = some .cell) : swapsWithSole [.Name y py] (.ListComp elt gs scope pos) l env = pure false := by
  have ky : env.kindOf y = some .cell := hy
  have e : ((some NameKind.cell : Option NameKind) == some .local) = false := by decide
  have q : swapsWith (.ListComp elt gs scope pos) (some (.Name y py)) l env = pure false := by
    unfold swapsWith
    simp only [ky, e, Bool.and_false, Bool.false_and]
  exact q
theorem stores_no {tg v : Expr} {env : Env} (h : ∀ a b c d e f, tg = .Tuple a b c → v ≠ .Tuple d e f) (h2 : ∀ a b, tg ≠ .List a b) : swappedStores [tg] v env = pure none := by
  cases tg with
  | Tuple a b c => cases v <;> first | rfl | exact absurd rfl (h a b c _ _ _ rfl)
  | List a b => exact absurd rfl (h2 a b)
  | _ => rfl
theorem each_one {tg : Expr} {env : Env} (h : notStar tg = true) : (assignEach [tg] env).map (·.2) = [assign tg env] := by
  cases tg <;> first | rfl | cases h

section
variable {C : Nat → Addr} {K : PySem.W.Frag} {ω ρ U : List Addr} {β : Nat → Option Addr} {env : Ev} {h : AH} {σ : L2.St} {H : Hp}
/-- one's own list is given away: nobody changes it any more -/
theorem RS.freeze (r : RS C K β ω ρ U env h σ H) {i : Nat} {xs : List D} (e : env[i]? = some (some (.own (.lst xs)))) : ∃ U', (∀ a ∈ U', a ∈ U) ∧ RS C K β ω ρ U' (env.set i (some (.val (.fz xs)))) h σ H ∧ SStp ω H ρ U H ρ U' := by
  obtain ⟨v, ev, a, rfl, ha, vs, h1, h2⟩ := r.sl i _ e
  have hi : i < env.length := (List.getElem?_eq_some_iff.mp e).1
  have sub : ∀ b ∈ U.filter (fun b => decide (b ≠ a)), b ∈ U ∧ b ≠ a := fun b hb => by
    have := List.mem_filter.mp hb
    exact ⟨this.1, by simpa using this.2⟩
  have mem : ∀ b ∈ U, b ≠ a → b ∈ U.filter (fun b => decide (b ≠ a)) := fun b hb n => List.mem_filter.mpr ⟨hb, by simpa using n⟩
  have g : Grow H ρ (ms ω ρ U) H ρ (ms ω ρ (U.filter fun b => decide (b ≠ a))) := .same fun b z => by
    rcases z with z | z | z
    · exact .inl z
    · exact .inr (.inl z)
    · exact .inr (.inr (sub b z).1)
  refine ⟨U.filter fun b => decide (b ≠ a), fun b hb => (sub b hb).1, ⟨⟨r.hr.lh, fun n o z => ?_, r.hr.nd, fun b hb => ⟨(r.hr.dj b hb).1, fun z => (r.hr.dj b hb).2 (sub b z).1⟩, fun b hb => r.hr.du b (sub b hb).1, fun b z => r.hr.pr b ?_⟩,
    by simpa using r.len, fun j s z => ?_, fun j k o1 o2 b e1 e2 s1 s2 => ?_, fun j o1 z => ?_⟩, ⟨g, fun _ _ => rfl⟩⟩
  · obtain ⟨b, e1, r1⟩ := r.hr.hp n o z
    exact ⟨b, e1, r1.grow g rfl⟩
  · rcases z with z | z | z
    · exact .inl z
    · exact .inr (.inl z)
    · exact .inr (.inr (sub b z).1)
  · by_cases hj : j = i
    · subst hj
      rw [List.getElem?_set_self hi] at z
      cases z
      refine ⟨_, ev, .fz (.inl ⟨h1, fun z => ?_⟩) (h2.grow g)⟩
      rcases z with z | z | z
      · exact r.hr.du a ha z
      · exact (r.hr.dj a z).2 ha
      · exact (sub a z).2 rfl
    · rw [List.getElem?_set_ne (Ne.symm hj)] at z
      obtain ⟨v, ev', rv⟩ := r.sl j s z
      refine ⟨v, ev', ?_⟩
      cases s with
      | val d => exact RD.grow g rv
      | own o =>
        obtain ⟨b, rfl, hb, rb⟩ := rv
        have nb : b ≠ a := fun q => hj (by subst q; exact r.inj j i _ _ b z e ev' ev)
        exact ⟨b, rfl, mem b hb nb, rb.grow g rfl⟩
      | bor o =>
        obtain ⟨b, rfl, hb, rb⟩ := rv
        exact ⟨b, rfl, hb, rb.grow g rfl⟩
  · have q : ∀ (k : Nat) (o2 : AO), (env.set i (some (.val (.fz xs))))[k]? = some (some (Sl.own o2)) → env[k]? = some (some (Sl.own o2)) := fun k o2 ek => by
      by_cases hk : k = i
      · subst hk
        rw [List.getElem?_set_self hi] at ek
        cases ek
      · rw [List.getElem?_set_ne (Ne.symm hk)] at ek
        exact ek
    exact r.inj j k o1 o2 b (q j o1 e1) (q k o2 e2) s1 s2
  · have n : j ≠ i := fun q => by
      subst q
      rw [List.getElem?_set_self hi] at z
      cases z
    rw [List.getElem?_set_ne (Ne.symm n)] at z
    exact r.bo j o1 z
def frz1 (env : Ev) (i : Nat) : Ev := match env[i]? with
  | some (some (.own (.lst xs))) => env.set i (some (.val (.fz xs)))
  | _ => env
theorem frz1_get {env : Ev} {i j : Nat} : (frz1 env i)[j]? = if j = i then (match env[i]? with
  | some (some (.own (.lst xs))) => some (some (Sl.val (.fz xs)))
  | z => z) else env[j]? := by
  unfold frz1
  by_cases hj : j = i
  · subst hj
    rw [if_pos rfl]
    split
    · rename_i xs e
      rw [List.getElem?_set_self (List.getElem?_eq_some_iff.mp e).1]
    · rename_i n
      cases e : env[j]? with
      | none => rfl
      | some s =>
        cases s with
        | none => rfl
        | some s =>
          cases s with
          | own o => cases o <;> first | rfl | exact absurd e (n _)
          | _ => rfl
  · rw [if_neg hj]
    split
    · rw [List.getElem?_set_ne (Ne.symm hj)]
    · rfl
theorem RS.frzN (r : RS C K β ω ρ U env h σ H) : ∀ n : Nat, ∃ U' env', RS C K β ω ρ U' env' h σ H ∧ SStp ω H ρ U H ρ U' ∧ ∀ j, env'[j]? = if j < n then (match env[j]? with
    | some (some (.own (.lst xs))) => some (some (Sl.val (.fz xs)))
    | z => z) else env[j]?
  | 0 => ⟨U, env, r, .refl, fun j => by rw [if_neg (by omega)]⟩
  | n + 1 => by
    obtain ⟨U', env', r', g', e'⟩ := RS.frzN r n
    have en : env'[n]? = env[n]? := by rw [e', if_neg (by omega)]
    have key : ∃ U'', RS C K β ω ρ U'' (frz1 env' n) h σ H ∧ SStp ω H ρ U' H ρ U'' := by
      unfold frz1
      split
      · rename_i xs e
        obtain ⟨U'', _, r'', g''⟩ := r'.freeze e
        exact ⟨U'', r'', g''⟩
      · exact ⟨U', r', .refl⟩
    obtain ⟨U'', r'', g''⟩ := key
    refine ⟨U'', _, r'', g'.trans g'', fun j => ?_⟩
    rw [frz1_get, en]
    by_cases hj : j = n
    · subst hj
      rw [if_pos rfl, if_pos (by omega)]
    · rw [if_neg hj, e']
      by_cases hlt : j < n
      · rw [if_pos hlt, if_pos (by omega)]
      · rw [if_neg hlt, if_neg (by omega)]
theorem RS.frzAll (r : RS C K β ω ρ U env h σ H) : ∃ U', RS C K β ω ρ U' (frzE env) h σ H ∧ SStp ω H ρ U H ρ U' := by
  obtain ⟨U', env', r', g', e'⟩ := r.frzN env.length
  have : env' = frzE env := by
    apply List.ext_getElem?
    intro j
    rw [e']
    unfold frzE
    rw [List.getElem?_map]
    cases e : env[j]? with
    | none => simp
    | some s =>
      have hj : j < env.length := (List.getElem?_eq_some_iff.mp e).1
      rw [if_pos hj]
      cases s with
      | none => rfl
      | some s =>
        cases s with
        | own o => cases o <;> rfl
        | _ => rfl
  subst this
  exact ⟨U', r', g'⟩
end

/-- a def's call, whose new object is kept -/
theorem pe_callR {C : Nat → Addr} {Γ : GM} {nm : NT} {cs : Nat → Option (Str × D)} {k : Nat} {N : List Str} {X : Cx} {sc : Scope} {W : WX} {f : Nat} {es : CEs} {x : Str} {y : Expr} {ys : List Expr} {pn p : Pos} (cc : CC C Γ nm cs k N X) (hs : X.env.scope = sc) (tk : Takes X W)
    (hg : glB sc x = true) (hf : nm f = some x) (he : chkEs N nm (cnam cs) es sc (y :: ys) = true) : PE X (.Call (.Name x pn) (y :: ys) [] p) (fun σ H Q =>
      ∃ (ω : List Addr) (β : Nat → Option Addr) (ρ U : List Addr) (env : Ev) (h : AH) (Q' : RR → AH → Prop) (X' : EX → AH → Prop), RS C X.K β ω ρ U env h σ H ∧ wpEs Γ (cval cs) es env h (fun vs h1 => Γ f (vs.map toArg) h1 Q' X') X' ∧
        (∀ r v h' ρ' U' H', RS C X.K β ω ρ' U env h' σ H' → Stp ω U H ρ H' ρ' → HR C X.K (ω ++ U) ρ' U' h' H' → Grow H ρ (ms ω ρ U) H' ρ' (ms (ω ++ U) ρ' U') → RRel C X.K (ω ++ U) ρ' U' H' r v → Q' r h' → Q v H') ∧
        (∀ x cls dd h' ρ' H', RS C X.K β ω ρ' U env h' σ H' → Stp ω U H ρ H' ρ' → RX C X.K ω ρ' U H' x cls dd → X' x h' → W cls dd σ H')) := by
  obtain ⟨g1, g2⟩ := glB_ok hs hg
  obtain ⟨fa, fd, ps, hm, hk, hb, F⟩ := cc.fns f x hf
  have pa := soundEs es cc hs tk he
  have st := chkEs_star he
  refine PE.imp (pe_callSD (dvs := []) (ds := []) (E := fun σ cls d H => W cls d σ H) F cc.room g1 hm hk hb .nil (fun σ => passAt tk σ) pa g2 (star_cons (st y (by simp))) (star_any fun e he => st e (by simp [he])))
    fun σ H Q ⟨ω, β, ρ, U, env, h, Q', X', rs, w, hq, hx⟩ => ?_
  exact ⟨ω, β, ρ, U, env, h, _, X', rs, w, fun d v h1 ρ1 H1 rs1 g1 rv1 w1 => by
    show spI C X.K Γ f (v ++ []) H1 Q (fun cls d H => W cls d σ H)
    rw [List.append_nil]
    exact spI_call rs1 rv1 w1 (fun r v h' ρ' U' H' rs' g' hr' gr' rr' q' => hq r v h' ρ' U' H' rs' (g1.trans g') hr' (g1.gr.trans gr') rr' q') (upX g1 hx), hx⟩

/-! ### except suites -/
def dV : D → V
  | .bl b => .bl b
  | .str z => .str z
  | _ => .non
theorem EE.val_rd {K : PySem.W.Frag} {H : Hp} {ρ : List Addr} {m : Addr → Prop} (c : Nat) : ∀ e : EE, RD K H ρ m (e.val c) (dV (e.val c))
  | .bl b => .bl b
  | .non => .non
  | .str z => .str z
  | .isE l x => .bl _
  | .notE a => by
    unfold EE.val
    split
    · exact .bl _
    · exact .non
  | .andE a b => by
    unfold EE.val
    split
    · exact EE.val_rd c b
    · exact .bl _
theorem EE.val_bl (c : Nat) : ∀ e : EE, e.isB = true → ∃ b, e.val c = .bl b
  | .bl b, _ => ⟨b, rfl⟩
  | .non, h => by cases h
  | .str _, h => by cases h
  | .isE l x, _ => ⟨_, rfl⟩
  | .notE a, h => by
    obtain ⟨b, e⟩ := EE.val_bl c a h
    exact ⟨!b, by unfold EE.val; rw [e]⟩
  | .andE a b, h => by
    simp only [EE.isB, Bool.and_eq_true] at h
    obtain ⟨b1, e1⟩ := EE.val_bl c a h.1
    obtain ⟨b2, e2⟩ := EE.val_bl c b h.2
    cases b1 with
    | true => exact ⟨b2, by unfold EE.val; rw [e1]; exact e2⟩
    | false => exact ⟨false, by unfold EE.val; rw [e1]⟩
theorem xl_pe {C : Nat → Addr} {Γ : GM} {nm : NT} {cs : Nat → Option (Str × D)} {k : Nat} {N : List Str} {X Y : Cx} {sc : Scope} {z : Str} {p : Pos} (cc : CC C Γ nm cs k N X) (hs : Y.env.scope = sc) (hmg : Y.mg = X.mg) {l : List Nat} (hg : glB sc z = true) (e : xlAt nm.xl z = some l) :
    ∃ (c : V) (cv : Value), PE Y (.Name z p) (tC c) ∧ (∀ u, RelV c u → u = cv) ∧ Names Y z cv ∧ ∀ c, c < nm.nx → PySem.W.exmOne X.K (.ref (C (c + 1000))) cv = some (l.contains c) ∧ PySem.W.kitOne X.K (.ref (C (c + 1000))) cv = some (l.contains c) := by
  obtain ⟨c, cv, h1, h2, h3, h4⟩ := cc.exl z l e
  obtain ⟨g1, g2⟩ := glB_ok hs hg
  refine ⟨c, cv, ?_, fun u r => h1.eq r, ⟨g1, g2, ?_⟩, h4⟩
  · rcases h3 with h3 | ⟨h3, h5, h6⟩
    · exact pe_glob g1 (by rw [hmg]; exact h3) h2 g2
    · exact pe_bltn g1 (by rw [hmg]; exact h3) h5 h2 h6 g2
  · rw [hmg]; exact h3
/-- an except suite's expression, asked -/
theorem soundEE {C : Nat → Addr} {Γ : GM} {nm : NT} {cs : Nat → Option (Str × D)} {k : Nat} {N : List Str} {X : Cx} {sc : Scope} {n : Option Nat} {c : Nat} {a : Addr} {oe : Obj} {pn : List (Addr × Obj)} (cc : CC C Γ nm cs k N X) (hs : X.env.scope = sc) (hc : c < nm.nx) (hz : Zc (.ref (C (c + 1000))) none oe) (hf : ∃ vs, oe.data = .fields vs) :
    ∀ (e : EE) {v : Expr}, chkEE N nm sc n e v = true → PE (X.suite a ((a, oe) :: pn)) v (fun σ H Q => (∀ i, n = some i → σ[i]? = some (some (V.ref a))) ∧ Q (dV (e.val c)) H)
  | .bl b, v, h => by
    cases v with
    | Constant q _ _ =>
      cases q with
      | bool d =>
        have e : b = d := by simpa [chkEE] using h
        subst e
        exact PE.imp pe_bl fun σ H Q q => q.2
      | _ => simp [chkEE] at h
    | _ => simp [chkEE] at h
  | .non, v, h => by
    cases v with
    | Constant q _ _ =>
      cases q with
      | none => exact PE.imp pe_non fun σ H Q q => q.2
      | _ => simp [chkEE] at h
    | _ => simp [chkEE] at h
  | .str z, v, h => by
    cases v with
    | Constant q _ _ =>
      cases q with
      | str d =>
        have e : z = d := by simpa [chkEE] using h
        subst e
        exact PE.imp pe_str fun σ H Q q => q.2
      | _ => simp [chkEE] at h
    | _ => simp [chkEE] at h
  | .isE l x, v, h => by
    cases v with
    | Call fn xs kw p =>
      cases fn with
      | Name f pf =>
        match xs, kw, h with
        | [y, z], [], h =>
          cases y with
          | Name y py =>
            cases z with
            | Name z pz =>
              simp only [chkEE, Bool.and_eq_true, decide_eq_true_eq] at h
              obtain ⟨⟨⟨⟨⟨h1, rfl⟩, h2⟩, h3⟩, rfl⟩, h5⟩ := h
              obtain ⟨g1, g2⟩ := glB_ok (X := X.suite a ((a, oe) :: pn)) hs h1
              obtain ⟨cv, u, pz', hu, _, hk⟩ := xl_pe (Y := X.suite a ((a, oe) :: pn)) (p := pz) cc hs rfl h3 h5
              cases n with
              | none => simp at h2
              | some i =>
                simp only [Bool.and_eq_true] at h2
                obtain ⟨v1, v2, v3⟩ := visB_ok h2.2
                have py' : PE (X.suite a ((a, oe) :: pn)) (.Name y py) (tVar i) := pe_var (i := i) (by show X.N[i]? = _; rw [cc.hN]; exact nameAt_ok h2.1) (by show Vis X.env.scope y; rw [hs]; exact v1) v2 v3
                refine PE.imp (pe_callB (call_isE (cc.exc c hc) hz hf) g1 (cc.blt _ (by decide +kernel)) (by decide +kernel) (pa_cons py' (pa_cons pz' pa_nil)) (by decide +kernel) g2) fun σ H Q ⟨q1, q2⟩ => ?_
                exact ⟨_, q1 i rfl, cv, u, l.contains c, rfl, hu, (hk c hc).2, q2⟩
            | _ => simp [chkEE] at h
          | _ => cases z <;> simp [chkEE] at h
        | [], _, h => simp [chkEE] at h
        | [_], _, h => simp [chkEE] at h
        | _ :: _ :: _ :: _, _, h => simp [chkEE] at h
        | [y, z], _ :: _, h => cases y <;> cases z <;> simp [chkEE] at h
      | _ => simp [chkEE] at h
    | _ => simp [chkEE] at h
  | .notE b, v, h => by
    cases v with
    | UnaryOp op w p =>
      cases op with
      | Not =>
        simp only [chkEE, Bool.and_eq_true] at h
        have pb := soundEE cc hs hc hz hf b h.2 (a := a) (pn := pn)
        obtain ⟨b1, e1⟩ := EE.val_bl c b h.1
        refine PE.imp (pe_not pb) fun σ H Q ⟨q1, q2⟩ => ⟨q1, b1, by rw [e1]; rfl, ?_⟩
        unfold EE.val at q2
        rw [e1] at q2
        exact q2
      | _ => simp [chkEE] at h
    | _ => simp [chkEE] at h
  | .andE b d, v, h => by
    have fin : b.isB = true → d.isB = true → ∀ (σ : L2.St) (H : Hp) (Q : VK), ((∀ i, n = some i → σ[i]? = some (some (V.ref a))) ∧ Q (dV ((EE.andE b d).val c)) H) →
        tAndV (fun σ H Q => (∀ i, n = some i → σ[i]? = some (some (V.ref a))) ∧ Q (dV (b.val c)) H) (fun σ H Q => (∀ i, n = some i → σ[i]? = some (some (V.ref a))) ∧ Q (dV (d.val c)) H) σ H Q := fun hb hd σ H Q ⟨q1, q2⟩ => by
      obtain ⟨b1, e1⟩ := EE.val_bl c b hb
      refine ⟨q1, b1, by rw [e1]; rfl, ?_⟩
      unfold EE.val at q2
      rw [e1] at q2
      cases b1 with
      | true => exact ⟨q1, q2⟩
      | false => exact q2
    cases v with
    | BoolOp op xs p =>
      cases op with
      | Or => simp [chkEE] at h
      | And =>
      match xs, h with
      | [x, y], h =>
        simp only [chkEE, Bool.and_eq_true] at h
        obtain ⟨⟨⟨h1, h2⟩, h3⟩, h4⟩ := h
        exact PE.imp (pe_and (soundEE cc hs hc hz hf b h3 (a := a) (pn := pn)) (pe_one (soundEE cc hs hc hz hf d h4 (a := a) (pn := pn)))) (fin h1 h2)
      | x :: y :: z :: r, h =>
        simp only [chkEE, Bool.and_eq_true] at h
        obtain ⟨⟨⟨h1, h2⟩, h3⟩, h4⟩ := h
        exact PE.imp (pe_and (soundEE cc hs hc hz hf b h3 (a := a) (pn := pn)) (soundEE cc hs hc hz hf d h4 (a := a) (pn := pn))) (fin h1 h2)
      | [], h => simp [chkEE] at h
      | [_], h => simp [chkEE] at h
    | _ => simp [chkEE] at h
end G

set_option maxHeartbeats 4000000
/-! Core12: the mutual theorem on statements; defs. -/
namespace G
open PySem PySem.Spec PyProof.Rows L2

/-- where statements stand -/
structure SC (C : Nat → Addr) (Γ : GM) (nm : NT) (cs : Nat → Option (Str × D)) (k : Nat) (N : List Str) (sc : Scope) (X : Cx) : Prop where
  cc : CC C Γ nm cs k N X
  hs : X.env.scope = sc
  fn : ∀ x, X.env.scope.names.lookup x = some .cell → X.fn x = true
  po : PassesOwn (model X.prog X.w) X.A X.env X.xe
  kd : X.env.scope.kind = .function
  st : X.stack = X.env :: X.outer
  fr : X.env.frame = some X.env.locals
section
variable {C : Nat → Addr} {Γ : GM} {nm : NT} {cs : Nat → Option (Str × D)} {k : Nat} {N : List Str} {sc : Scope}
abbrev tS (C : Nat → Addr) (K : PySem.W.Frag) (W : WX) (Γ : GM) (cs : Nat → Option D) (c : CS) : TS := tSG C K W (wpS Γ cs c)
abbrev tSs (C : Nat → Addr) (K : PySem.W.Frag) (W : WX) (Γ : GM) (cs : Nat → Option D) (c : CSs) : TS := tSG C K W (wpSs Γ cs c)
theorem goodS {X : Cx} {g : CG} {tg v : Expr} {te : TE} {pos : Pos} (S : SC C Γ nm cs k N sc X) (hg : chkG N sc g tg = true) (hb : asgB sc tg v = true) (he : PE X v te)
    (hl : ∀ elt gs scope p, v = .ListComp elt gs scope p → ∀ y py, tg = .Name y py → ∀ i, g = .nm i → X.N[i]? = some y → X.env.scope.names.lookup y = some .local → swapsWith v (some tg) pos.line X.env = pure true → PS X (.Assign [tg] v pos) (tAsg te (gName i))) :
    PS X (.Assign [tg] v pos) (tAsg te (gR X.K g)) := by
  have pg := soundG S.cc.hN S.cc.nd (hT_body S.hs S.fn) S.cc.calm hg
  by_cases hv : isLC v = false
  · refine ps_asg he pg (sole_no hv) (stores_no (fun a b c d e f et ev => ?_) fun a b et => ?_) (each_one ?_)
    · subst et; subst ev; simp [asgB] at hb
    · subst et; simp [asgB] at hb
    · cases tg <;> first | rfl | (simp [asgB] at hb; done)
  · cases tg with
    | Name y py =>
      cases v with
      | ListComp elt gs scope p =>
        simp only [asgB, Bool.or_eq_true, Bool.and_eq_true, Bool.not_eq_true'] at hb
        rcases hb with hb | hb
        · exact ps_asg he pg (sole_cell (by rw [S.hs]; exact cellB_ok hb)) (stores_no (fun a b c d e f et ev => by cases et) fun a b et => by cases et) (each_one rfl)
        obtain ⟨⟨⟨h1, h2⟩, h3⟩, h4⟩ := hb
        cases g with
        | nm i =>
          simp only [chkG, Bool.and_eq_true] at hg
          have el : X.env.scope.names.lookup y = some .local := by rw [S.hs]; exact loc1B_ok h1
          exact hl elt gs scope p rfl y py rfl i rfl (by rw [S.cc.hN]; exact nameAt_ok hg.1) el (sw_true S.kd el h3 h4)
        | tp is => simp [chkG] at hg
      | SetComp _ _ _ _ => simp [asgB, isLC] at hb
      | DictComp _ _ _ _ _ => simp [asgB, isLC] at hb
      | _ => exact absurd rfl hv
    | Tuple _ _ _ => simp [asgB, hv] at hb
    | _ => simp [asgB] at hb
/-- a list's assignment -/
theorem asgL {X : Cx} {W : WX} {l : LE} {i : Nat} {tg v : Expr} {pos : Pos} (S : SC C Γ nm cs k N sc X) (tk : Takes X W) (hg : chkG N sc (.nm i) tg = true) (hb : asgB sc tg v = true) (h : chkL N nm (cnam cs) l sc v = true) :
    PS X (.Assign [tg] v pos) (tAsg (tL C X.K W Γ (cval cs) l) (gName i)) := by
  have he := soundL l S.cc S.hs tk h
  refine goodS (g := .nm i) S hg hb he fun elt gs scope p ev y py et j ej hy hyl hsw => ?_
  cases ej
  subst ev
  subst et
  cases l with
  | lc it g ifs el =>
    match gs, h with
    | [⟨tg, iter, fs, na⟩], h =>
      simp only [chkL, Bool.and_eq_true, decide_eq_true_eq] at h
      obtain ⟨⟨⟨⟨⟨⟨rfl, hi⟩, hg2⟩, hb2⟩, ho⟩, ht⟩, he2⟩ := h
      have pi := soundI it (cp := true) S.cc S.hs tk hi
      have ok := blkOk_by hb2
      rw [← S.hs, ← S.cc.hN] at ok
      have esc : ∀ (s : Shared) (H : Hp) (Cd : Addr) (cl : List (Str × Addr)) (fp : List Addr), (X.blk s H scope (compEnvC scope cl Cd X.env) fp).env.scope = relS scope sc := fun s H Cd cl fp => by rw [← S.hs]; rfl
      have p1 := fun (s : Shared) (H : Hp) (Cd : Addr) (cl : List (Str × Addr)) (fp : List Addr) => soundG (S.cc.blk s H scope Cd cl fp).hN (S.cc.blk s H scope Cd cl fp).nd (hT_blk s H scope Cd cl fp) S.cc.calm hg2
      have p2 := fun (s : Shared) (H : Hp) (Cd : Addr) (cl : List (Str × Addr)) (fp : List Addr) => soundTs ifs (S.cc.blk s H scope Cd cl fp) (esc s H Cd cl fp) (takes0 (X := X.blk s H scope (compEnvC scope cl Cd X.env) fp)) ht
      have p3 := fun (s : Shared) (H : Hp) (Cd : Addr) (cl : List (Str × Addr)) (fp : List Addr) => soundE el (S.cc.blk s H scope Cd cl fp) (esc s H Cd cl fp) (takes0 (X := X.blk s H scope (compEnvC scope cl Cd X.env) fp)) he2
      exact PS.imp (ps_setLc S.cc.calm S.cc.nd hy hyl hsw pi ok p1 p2 p3 (folded (plainI hi).set)) fun D σ H q => lc_ok S.cc.calm S.cc.nd pi ok ho p1 p2 p3 (pos := p) q
    | [], h => simp [chkL] at h
    | _ :: _ :: _, h => simp [chkL] at h
  | _ => simp [chkL] at h
/-- a value's assignment -/
theorem asgE {X : Cx} {W : WX} {c : CE} {g : CG} {tg v : Expr} {pos : Pos} (S : SC C Γ nm cs k N sc X) (tk : Takes X W) (hg : chkG N sc g tg = true) (hb : asgB sc tg v = true) (h : chkE N nm (cnam cs) c sc v = true) :
    PS X (.Assign [tg] v pos) (tAsg (tE C X.K W Γ (cval cs) c) (gR X.K g)) := by
  have he := soundE c S.cc S.hs tk h
  refine goodS S hg hb he fun elt gs scope p ev y py et j ej hy hyl hsw => ?_
  subst ej
  subst ev
  cases c with
  | fzOf l =>
    have q := asgL (l := l) (pos := pos) S tk hg hb (by simpa [chkE] using h)
    refine PS.imp q fun D σ H ⟨ω, β, ρ, U, env, h, Q', X', rs, w, hq, hx⟩ => ?_
    exact ⟨ω, β, ρ, U, env, h, _, X', rs, w, fun d v h1 ρ1 H1 rs1 g1 rv1 w1 p hp =>
      hq (.d (.fz d)) _ _ _ _ (rs1.step (rs1.hr.laid hp _).1 (rs1.hr.laid hp _).2) (g1.trans (rs1.hr.laid hp _).2) (rs1.hr.new_fz hp rv1) w1, hx⟩
  | newL l =>
    have q := asgL (l := l) (pos := pos) S tk hg hb (by simpa [chkE] using h)
    refine PS.imp q fun D σ H ⟨ω, β, ρ, U, env, h, Q', X', rs, w, hq, hx⟩ => ?_
    exact ⟨ω, β, ρ, U, env, h, _, X', rs, w, fun d v h1 ρ1 H1 rs1 g1 rv1 w1 p hp => by
      obtain ⟨a1, a2⟩ := rs1.hr.alloc hp (.lst v) (o := .lst d) ⟨v, upd_same, rv1.grow (rs1.hr.growA hp _)⟩
      exact hq (.d (.ref h1.length)) _ _ _ _ (rs1.step a1 a2) (g1.trans a2) (.ref (by rw [rs1.hr.lh, List.getElem?_append_right (Nat.le_refl _)]; simp)) w1, hx⟩
  | bi b es => unfold chkE at h; cases h
  | _ => simp [chkE] at h
/-- the ends of an expression's reading from a statement's -/
theorem EndsOk.exE {K : PySem.W.Frag} {W : WX} {β : Nat → Option Addr} {ω : List Addr} {H : Hp} {ρ U : List Addr} {R : CEnds} {D : Ends} {env : Ev} {σ : L2.St} (e : EndsOk C K W β ω H ρ U R D) :
    ∀ x cls dd h' ρ' H', RS C K β ω ρ' U env h' σ H' → Stp ω U H ρ H' ρ' → RX C K ω ρ' U H' x cls dd → R.ex x env h' → W cls dd σ H' := fun x cls dd h' ρ' H' rs g rx q => e.ex x cls dd env h' ρ' U σ H' rs g.s rx q
theorem aug_ok {X : Cx} (o : BO) (ho : o = .add ∨ o = .sub ∨ o = .mul) : ∃ t : TIp, PIp X o.op t ∧ ∀ {K : PySem.W.Frag} {ω ρ U : List Addr} {H : Hp} {d e : D} {x y : V} {P : D → Prop} {Q : VK}, RD K H ρ (ms ω ρ U) d x → RD K H ρ (ms ω ρ U) e y → augW o d e P →
    (∀ z w, RD K H ρ (ms ω ρ U) z w → P z → Q w H) → t x y H Q := by
  rcases ho with rfl | rfl | rfl
  · refine ⟨_, iop_add.or iop_add_str, fun rx ry w k => ?_⟩
    unfold augW at w
    split at w <;> first | (rename_i h; cases h; done) | skip
    · cases rx; cases ry; exact .inl ⟨_, _, rfl, rfl, k _ _ (.int _) w⟩
    · cases rx; cases ry; exact .inr ⟨_, _, rfl, rfl, w.1, k _ _ (.str _) w.2⟩
    · exact w.elim
  · refine ⟨_, iop_sub, fun rx ry w k => ?_⟩
    unfold augW at w
    split at w <;> first | (rename_i h; cases h; done) | skip
    · cases rx; cases ry; exact ⟨_, _, rfl, rfl, k _ _ (.int _) w⟩
    · exact w.elim
  · refine ⟨_, iop_mul, fun rx ry w k => ?_⟩
    unfold augW at w
    split at w <;> first | (rename_i h; cases h; done) | skip
    · cases rx; cases ry; exact ⟨_, _, rfl, rfl, w.1, k _ _ (.int _) w.2⟩
    · exact w.elim
theorem varPE {X : Cx} {i : Nat} {x : Str} {p : Pos} (S : SC C Γ nm cs k N sc X) (h1 : nameAt N i x = true) (h2 : visB sc x = true) : PE X (.Name x p) (tVar i) := by
  obtain ⟨v1, v2, v3⟩ := visB_ok h2
  exact pe_var (i := i) (by rw [S.cc.hN]; exact nameAt_ok h1) (by rw [S.hs]; exact v1) v2 v3
theorem varDget {K : PySem.W.Frag} {ω ρ U : List Addr} {β : Nat → Option Addr} {env : Ev} {h : AH} {σ : L2.St} {H : Hp} (r : RS C K β ω ρ U env h σ H) {i : Nat} {o : AO} (e : env[i]? = some (some (.own o))) : ∃ a, σ[i]? = some (some (.ref a)) ∧ a ∈ U ∧ RO C K H ρ (ms ω ρ U) o a := by
  obtain ⟨v, ev, a, rfl, ha, ro⟩ := r.sl i _ e
  exact ⟨a, ev, ha, ro⟩
/-- d[k] = v of one's own -/
theorem put_ok {K : PySem.W.Frag} {ω ρ U : List Addr} {H : Hp} {a : Addr} {o o' : AO} {y x : D} {vy vx : V} (ro : RO C K H ρ (ms ω ρ U) o a) (e : o.put y x = some o') (ry : RD K H ρ (ms ω ρ U) y vy) (rx : RD K H ρ (ms ω ρ U) x vx) :
    ∃ u, DPut H a vy vx (upd H a u) ∧ MutO u ∧ ∀ g : Grow H ρ (ms ω ρ U) (upd H a u) ρ (ms ω ρ U), RO C K (upd H a u) ρ (ms ω ρ U) o' a := by
  cases o with
  | lst _ => cases e
  | ins _ _ => cases e
  | dK kvs =>
    obtain ⟨ws, h1, h2⟩ := ro
    simp only [AO.put, Option.bind_eq_some_iff] at e
    obtain ⟨j, ej, e⟩ := e
    split at e
    · rename_i hl
      cases e
      cases ry.key ej
      exact ⟨_, DPut.k h1 (by rw [← h2.length]; exact hl), .dK _, fun g => ⟨_, upd_same, (h2.put j rx).grow g⟩⟩
    · cases e
  | dT kvs =>
    obtain ⟨ws, h1, h2⟩ := ro
    simp only [AO.put, Option.bind_eq_some_iff] at e
    obtain ⟨j, ej, e⟩ := e
    split at e
    · rename_i hl
      cases e
      cases ry with
      | tup s rs =>
        have ev := rs.keysOf (ks := j) (by simpa [D.keys] using ej)
        subst ev
        exact ⟨_, DPut.t h1 s (by rw [← h2.length]; exact hl), .dT _, fun g => ⟨_, upd_same, (h2.put j rx).grow g⟩⟩
      | _ => simp [D.keys] at ej
    · cases e
theorem DPut.eq {H H' : Hp} {a : Addr} {y v : V} {u : HO} (h : DPut H a y v (upd H a u)) : DPut H a y v (upd H a u) := h
theorem PSet.or {X : Cx} {t t' : TSet} (h : PSet X t) (h' : PSet X t') : PSet X (fun o i v H Q => t o i v H Q ∨ t' o i v H Q) := by
  intro pins s σ H o i v ov iv u Q I r1 r2 r3 q
  rcases q with q | q
  · exact h pins s σ H o i v ov iv u Q I r1 r2 r3 q
  · exact h' pins s σ H o i v ov iv u Q I r1 r2 r3 q
theorem ixN_set {K : PySem.W.Frag} {H : Hp} {ρ : List Addr} {m : Addr → Prop} {xs : List D} {vs : List V} (r : RDs K H ρ m xs vs) {z : Int} {j : Nat} (e : ixN xs.length z = some j) : ixN vs.length z = some j := by rw [← r.length]; exact e
/-- one's own at slot i is changed to the object u -/
theorem RS.wr {K : PySem.W.Frag} {ω ρ U : List Addr} {β : Nat → Option Addr} {env : Ev} {h : AH} {σ : L2.St} {H : Hp} (r : RS C K β ω ρ U env h σ H) {i : Nat} {a : Addr} {o o' : AO} {u : HO} (e : env[i]? = some (some (.own o))) (es : σ[i]? = some (some (.ref a))) (ha : a ∈ U) (hu : MutO u)
    (ro : Grow H ρ (ms ω ρ U) (upd H a u) ρ (ms ω ρ U) → RO C K (upd H a u) ρ (ms ω ρ U) o' a) : RS C K β ω ρ U (env.set i (some (.own o'))) h σ (upd H a u) ∧ SStp ω H ρ U (upd H a u) ρ U := by
  have g := (r.hr.write ha hu).2
  exact ⟨r.write e es ha hu (ro g), ⟨g, fun b hb => upd_ne fun z => by subst z; exact r.hr.du _ ha hb⟩⟩
theorem asg_end {K : PySem.W.Frag} {W : WX} {ω ρ U : List Addr} {β : Nat → Option Addr} {env : Ev} {h : AH} {σ : L2.St} {H : Hp} {R : CEnds} {De : Ends} {g : CG} {x : D} {v : V} (e : EndsOk C K W β ω H ρ U R De) (rs : RS C K β ω ρ U env h σ H) (rd : RD K H ρ (ms ω ρ U) x v) (w : gW g x env fun env' => R.nx env' h) : gR K g v σ H De.nx :=
  g_ok rs rd w fun env' σ' rs' _ _ q => e.nx _ _ _ _ _ _ rs' .refl q
theorem CC.tr {X : Cx} (c : CC C Γ nm cs k N X) (pn : List (Addr × Obj)) (xe : Value → Shared → Prop) : CC C Γ nm cs k N (X.tr pn xe) :=
  ⟨c.hN, c.calm, c.room, c.nd, c.fns, c.cst, c.blt, c.exn, c.exc, c.exl, c.cls, c.mth, c.mks, c.srt⟩
theorem SC.tr {X : Cx} (S : SC C Γ nm cs k N sc X) (pn : List (Addr × Obj)) (xe : Value → Shared → Prop) (po : PassesOwn (model X.prog X.w) X.A X.env xe) : SC C Γ nm cs k N sc (X.tr pn xe) :=
  ⟨S.cc.tr pn xe, S.hs, S.fn, po, S.kd, S.st, S.fr⟩
/-- xs.extend(t), t a tuple -/
def rExtT (K : PySem.W.Frag) : V → List V → Hp → VK → Prop := fun x vs H Q => ∃ l b xs zs, x = .ref l ∧ vs = [.ref b] ∧ H l = some (.lst xs) ∧ SqT K H b zs ∧ xs.length + zs.length ≤ sizeLine ∧ Q .non (upd H l (.lst (xs ++ zs)))
theorem list_extend_tup (l : Addr) (items : Array Value) (n : Nat) (b : Addr) (items2 : Array Value) (hs0 : ¬(!items.isEmpty && Builtin.List.listTooLong (items.size + items2.size)) = true) (hs1 : items.size ≤ sizeLine) (hs2 : items.size + items2.size ≤ sizeLine + 1) :
    Meets (Builtin.«list.extend» ⟨[.ref l, .ref b], []⟩) (fun _ R s => s.heap.get? l = some { cls := .type "list", dict := none, data := .seq items n, slots := #[] } ∧ IsTup s.heap b items2 ∧ R (.ok (.ret Value.none)) { s with heap := s.heap.update l (Obj.mapSeq fun x => x ++ items2), toks := s.toks }) :=
  .of_wp fun prog w A R s h => by
    obtain ⟨hp, g, d, tk, os⟩ := s; obtain ⟨hl, ⟨⟨oc, od, odt, osl⟩, hb, hcl, n2, hdt⟩, h⟩ := h
    subst hcl hdt
    have f1 := AutoSeq1.idx_int; have f2 := AutoSeq1.sub_tuple_tuple; have f3 := AutoSeq1.sub_list_list; have f4 := AutoSeq1.sub_tuple_list; have f5 := AutoSeq1.sub_list_tuple
    have hz' : (items ++ items2).size ≤ sizeLine + 1 := by rw [Array.size_append]; exact hs2
    wp_walk using (wpAny_updateSeq hl rfl (hz := hs1) (_hz' := hz')), wpAny_loadPart' hl, wpAny_loadPart' hb; exact ⟨_, rfl, h⟩
theorem mt_extendT {X : Cx} : MtM X "list.extend" (rExtT X.K) := by
  intro pins s σ H x vs v us Q I rx rv h
  obtain ⟨l, b, xs, zs, rfl, rfl, hH, hB, hz, q⟩ := h
  cases rx
  obtain ⟨u, rfl, ru⟩ := rv.one
  cases ru
  obtain ⟨z, its, n, r, hl, e⟩ := I.lstM hH
  obtain ⟨its2, r2, e2, _⟩ := I.tuple hB
  have hl2 := r2.length
  have hsz : its.toArray.size + its2.toArray.size ≤ sizeLine := by rw [List.size_toArray, List.size_toArray]; omega
  have hlong : ¬ (!its.toArray.isEmpty && Builtin.List.listTooLong (its.toArray.size + its2.toArray.size)) = true := by
    rw [notLongL hsz, Bool.and_false]
    exact Bool.false_ne_true
  refine call_meets F.slot_list_extend ⟨_, e, rfl⟩ F.entry_list_extend (F.args_list_extend_2 _ _)
    (list_extend_tup l its.toArray n b its2.toArray hlong (by rw [List.size_toArray]; omega) (by omega)) ⟨e, e2, ?_⟩
  refine ⟨.non, _, I.lset (its' := its ++ its2) hH e (by simp) (r.append r2) ?_, rfl, q⟩
  rw [List.length_append]
  omega
/-- a reading that holds for one of many -/
theorem PSs.ex {X : Cx} {sts : List Stmt} {α : Type} {P : α → Prop} {t : α → TS} (h : ∀ x, P x → PSs X sts (t x)) : PSs X sts (fun D σ H => ∃ x, P x ∧ t x D σ H) :=
  ⟨fun pn s σ H D I ⟨x, hx, q⟩ => (h x hx).run pn s σ H D I q⟩
theorem ms_move {ω ρ U : List Addr} {a : Addr} : ms (a :: ω) ρ (U.filter (· ≠ a)) = ms ω ρ (a :: U) := by
  funext b
  refine propext ⟨?_, ?_⟩
  · rintro (z | z | z)
    · rcases List.mem_cons.mp z with z | z
      · subst z; exact .inr (.inr (List.mem_cons_self ..))
      · exact .inl z
    · exact .inr (.inl z)
    · exact .inr (.inr (List.mem_cons_of_mem _ (List.mem_filter.mp z).1))
  · rintro (z | z | z)
    · exact .inl (List.mem_cons_of_mem _ z)
    · exact .inr (.inl z)
    · by_cases e : b = a
      · subst e; exact .inl (List.mem_cons_self ..)
      · rcases List.mem_cons.mp z with z | z
        · exact absurd z e
        · exact .inr (.inr (List.mem_filter.mpr ⟨z, by simpa using e⟩))
theorem ms_move' {ω ρ U : List Addr} {a : Addr} : ms (a :: ω) ρ U = ms ω ρ (a :: U) := by
  funext b
  refine propext ⟨?_, ?_⟩
  · rintro (z | z | z)
    · rcases List.mem_cons.mp z with z | z
      · subst z; exact .inr (.inr (List.mem_cons_self ..))
      · exact .inl z
    · exact .inr (.inl z)
    · exact .inr (.inr (List.mem_cons_of_mem _ z))
  · rintro (z | z | z)
    · exact .inl (List.mem_cons_of_mem _ z)
    · exact .inr (.inl z)
    · rcases List.mem_cons.mp z with z | z
      · subst z; exact .inl (List.mem_cons_self ..)
      · exact .inr (.inr z)
theorem ms_in {ω ρ U : List Addr} {a : Addr} (ha : a ∈ U) : ms ω ρ (a :: U) = ms ω ρ U := by
  funext b
  refine propext ⟨?_, ?_⟩
  · rintro (z | z | z)
    · exact .inl z
    · exact .inr (.inl z)
    · rcases List.mem_cons.mp z with z | z
      · subst z; exact .inr (.inr ha)
      · exact .inr (.inr z)
  · rintro (z | z | z)
    · exact .inl z
    · exact .inr (.inl z)
    · exact .inr (.inr (List.mem_cons_of_mem _ z))
/-- one's own is read for a while: back -/
theorem RS.back {K : PySem.W.Frag} {ω ρ U : List Addr} {β : Nat → Option Addr} {env : Ev} {h : AH} {σ : L2.St} {H : Hp} {i : Nat} {a : Addr} {o : AO} (r : RS C K (fun j => if j = i then some a else if β j = some a then none else β j) (a :: ω) ρ U env h σ H) (na : a ∉ ω) (e : env[i]? = some (some (.bor o))) :
    RS C K β ω ρ (a :: U) (env.set i (some (.own o))) h σ H := by
  have hi : i < env.length := (List.getElem?_eq_some_iff.mp e).1
  have em : ms (a :: ω) ρ U = ms ω ρ (a :: U) := ms_move'
  obtain ⟨b, eb, es⟩ := r.bo i o e
  rw [if_pos rfl] at eb
  cases eb
  refine ⟨⟨r.hr.lh, fun n o e => by rw [← em]; exact r.hr.hp n o e, r.hr.nd, fun b hb => ⟨fun z => (r.hr.dj b hb).1 (List.mem_cons_of_mem _ z), fun z => ?_⟩, fun b hb z => ?_, fun b hb => r.hr.pr b (by rw [em]; exact hb)⟩, by rw [List.length_set]; exact r.len, fun j s ej => ?_, fun j j' o1 o2 b e1 e2 s1 s2 => ?_, fun j o1 ej => ?_⟩
  · rcases List.mem_cons.mp z with z | z
    · subst z; exact (r.hr.dj b hb).1 (List.mem_cons_self ..)
    · exact (r.hr.dj b hb).2 z
  · rcases List.mem_cons.mp hb with y | y
    · subst y; exact na z
    · exact r.hr.du b y (List.mem_cons_of_mem _ z)
  · by_cases hj : j = i
    · subst hj
      rw [List.getElem?_set_self hi] at ej
      cases ej
      obtain ⟨v, ev, c, rfl, _, ro⟩ := r.sl j _ e
      rw [es] at ev
      cases ev
      exact ⟨_, es, _, rfl, List.mem_cons_self .., by rw [← em]; exact ro⟩
    · rw [List.getElem?_set_ne (Ne.symm hj)] at ej
      obtain ⟨v, ev, rl⟩ := r.sl j s ej
      refine ⟨v, ev, ?_⟩
      cases s with
      | val d => show RD K H ρ (ms ω ρ (a :: U)) d v; rw [← em]; exact rl
      | own o1 =>
        obtain ⟨c, rfl, hc, ro⟩ := rl
        exact ⟨c, rfl, List.mem_cons_of_mem _ hc, em ▸ ro⟩
      | bor o1 =>
        obtain ⟨c, rfl, hc, ro⟩ := rl
        refine ⟨c, rfl, ?_, em ▸ ro⟩
        obtain ⟨c', ec, es'⟩ := r.bo j o1 ej
        rw [es'] at ev
        cases ev
        rw [if_neg hj] at ec
        rcases List.mem_cons.mp hc with z | z
        · subst z
          split at ec
          · cases ec
          · rename_i hn; exact absurd ec hn
        · exact z
  · have key : ∀ (j : Nat) (o1 : AO), j ≠ i → (env.set i (some (.own o)))[j]? = some (some (.own o1)) → σ[j]? = some (some (.ref a)) → False := fun j o1 hj ej sj => by
      rw [List.getElem?_set_ne (Ne.symm hj)] at ej
      obtain ⟨v, ev, c, rfl, hc, ro⟩ := r.sl j _ ej
      rw [sj] at ev
      cases ev
      exact r.hr.du _ hc (List.mem_cons_self ..)
    by_cases h1 : j = i
    · by_cases h2 : j' = i
      · rw [h1, h2]
      · subst h1
        rw [es] at s1
        cases s1
        exact (key j' o2 h2 e2 s2).elim
    · by_cases h2 : j' = i
      · subst h2
        rw [es] at s2
        cases s2
        exact (key j o1 h1 e1 s1).elim
      · rw [List.getElem?_set_ne (Ne.symm h1)] at e1
        rw [List.getElem?_set_ne (Ne.symm h2)] at e2
        exact r.inj j j' o1 o2 b e1 e2 s1 s2
  · by_cases hj : j = i
    · subst hj
      rw [List.getElem?_set_self hi] at ej
      cases ej
    · rw [List.getElem?_set_ne (Ne.symm hj)] at ej
      obtain ⟨c, ec, ev⟩ := r.bo j o1 ej
      rw [if_neg hj] at ec
      split at ec
      · cases ec
      · exact ⟨c, ec, ev⟩
theorem RS.lend {K : PySem.W.Frag} {ω ρ U : List Addr} {β : Nat → Option Addr} {env : Ev} {h : AH} {σ : L2.St} {H : Hp} {i : Nat} {a : Addr} {o : AO} (r : RS C K β ω ρ U env h σ H) (e : env[i]? = some (some (.own o))) (es : σ[i]? = some (some (.ref a))) (ha : a ∈ U) :
    RS C K (fun j => if j = i then some a else if β j = some a then none else β j) (a :: ω) ρ (U.filter (· ≠ a)) (env.set i (some (.bor o))) h σ H := by
  have hi : i < env.length := (List.getElem?_eq_some_iff.mp e).1
  have em : ms (a :: ω) ρ (U.filter (· ≠ a)) = ms ω ρ U := ms_move.trans (ms_in ha)
  refine ⟨⟨r.hr.lh, fun n o e => by rw [em]; exact r.hr.hp n o e, r.hr.nd, fun b hb => ⟨fun z => ?_, fun z => (r.hr.dj b hb).2 (List.mem_filter.mp z).1⟩, fun b hb z => ?_, fun b hb => r.hr.pr b (by rw [← em]; exact hb)⟩, by rw [List.length_set]; exact r.len, fun j s ej => ?_, fun j j' o1 o2 b e1 e2 s1 s2 => ?_, fun j o1 ej => ?_⟩
  · rcases List.mem_cons.mp z with z | z
    · subst z; exact (r.hr.dj b hb).2 ha
    · exact (r.hr.dj b hb).1 z
  · have hb := List.mem_filter.mp hb
    rcases List.mem_cons.mp z with z | z
    · exact absurd z (by simpa using hb.2)
    · exact r.hr.du b hb.1 z
  · by_cases hj : j = i
    · subst hj
      rw [List.getElem?_set_self hi] at ej
      cases ej
      obtain ⟨v, ev, c, rfl, _, ro⟩ := r.sl j _ e
      rw [es] at ev
      cases ev
      exact ⟨_, es, _, rfl, List.mem_cons_self .., by rw [em]; exact ro⟩
    · rw [List.getElem?_set_ne (Ne.symm hj)] at ej
      obtain ⟨v, ev, rl⟩ := r.sl j s ej
      refine ⟨v, ev, ?_⟩
      cases s with
      | val d => show RD K H ρ (ms (a :: ω) ρ (U.filter (· ≠ a))) d v; rw [em]; exact rl
      | own o1 =>
        obtain ⟨c, rfl, hc, ro⟩ := rl
        refine ⟨c, rfl, List.mem_filter.mpr ⟨hc, ?_⟩, em.symm ▸ ro⟩
        simp only [ne_eq, decide_eq_true_eq, decide_not, Bool.not_eq_true', decide_eq_false_iff_not]
        intro z
        subst z
        exact hj (r.inj j i o1 o c ej e ev es)
      | bor o1 =>
        obtain ⟨c, rfl, hc, ro⟩ := rl
        exact ⟨c, rfl, List.mem_cons_of_mem _ hc, em.symm ▸ ro⟩
  · have n1 : j ≠ i := fun z => by
      subst z
      rw [List.getElem?_set_self hi] at e1
      cases e1
    have n2 : j' ≠ i := fun z => by
      subst z
      rw [List.getElem?_set_self hi] at e2
      cases e2
    rw [List.getElem?_set_ne (Ne.symm n1)] at e1
    rw [List.getElem?_set_ne (Ne.symm n2)] at e2
    exact r.inj j j' o1 o2 b e1 e2 s1 s2
  · by_cases hj : j = i
    · subst hj
      exact ⟨a, by simp, es⟩
    · rw [List.getElem?_set_ne (Ne.symm hj)] at ej
      obtain ⟨c, ec, ev⟩ := r.bo j o1 ej
      refine ⟨c, ?_, ev⟩
      rw [if_neg hj, if_neg (fun z => ?_), ec]
      rw [z] at ec
      cases ec
      obtain ⟨v, ev', c', rfl, hc, _⟩ := r.sl j _ ej
      rw [ev] at ev'
      cases ev'
      exact r.hr.du _ ha hc
theorem EndsOk.lend {K : PySem.W.Frag} {W : WX} {β : Nat → Option Addr} {ω : List Addr} {H : Hp} {ρ U : List Addr} {R : CEnds} {D : Ends} {i : Nat} {a : Addr} {o : AO} (ek : EndsOk C K W β ω H ρ U R D) (ha : a ∈ U) (na : a ∉ ω) :
    EndsOk C K W (fun j => if j = i then some a else if β j = some a then none else β j) (a :: ω) H ρ (U.filter (· ≠ a)) (borR i o R) D := by
  have em0 : ms (a :: ω) ρ (U.filter (· ≠ a)) = ms ω ρ U := ms_move.trans (ms_in ha)
  have st : ∀ {H' ρ' U'}, SStp (a :: ω) H ρ (U.filter (· ≠ a)) H' ρ' U' → SStp ω H ρ U H' ρ' (a :: U') := fun g =>
    ⟨by have := g.gr; rw [em0, ms_move'] at this; exact this, fun b hb => g.own b (List.mem_cons_of_mem _ hb)⟩
  refine ⟨fun env' h' ρ' U' σ' H' rs g q => ek.nx _ _ _ _ _ _ (rs.back na q.1) (st g) q.2, fun _ _ _ _ _ _ _ _ q => q.elim, fun _ _ _ _ _ _ _ _ q => q.elim, fun r v h' ρ' U' H' hr g rr q => ?_, fun x cls dd env' h' ρ' U' σ' H' rs g rx q => ek.ex x cls dd _ h' ρ' (a :: U') σ' H' (rs.back na q.1) (st g) ?_ q.2⟩
  · have hr' : HR C K ω ρ' (a :: U') h' H' := by
      refine ⟨hr.lh, fun n o e => by rw [← ms_move']; exact hr.hp n o e, hr.nd, fun b hb => ⟨fun z => (hr.dj b hb).1 (List.mem_cons_of_mem _ z), fun z => ?_⟩, fun b hb z => ?_, fun b hb => hr.pr b (by rw [ms_move']; exact hb)⟩
      · rcases List.mem_cons.mp z with z | z
        · subst z; exact (hr.dj b hb).1 (List.mem_cons_self ..)
        · exact (hr.dj b hb).2 z
      · rcases List.mem_cons.mp hb with y | y
        · subst y; exact na z
        · exact hr.du b y (List.mem_cons_of_mem _ z)
    refine ek.rt r v h' ρ' (a :: U') H' hr' (st g) ?_ q
    cases r with
    | d x => show RD K H' ρ' (ms ω ρ' (a :: U')) x v; rw [← ms_move']; exact rr
    | mv o1 =>
      obtain ⟨c, rfl, hc, ro⟩ := rr
      exact ⟨c, rfl, List.mem_cons_of_mem _ hc, by rw [← ms_move']; exact ro⟩
  · unfold RX at rx ⊢
    rw [← ms_move']
    exact rx
theorem for_ok {X : Cx} {W : WX} {g : CG} {it : CI} {a : CSs} {tg iter : Expr} {x : List Stmt} {pos : Pos} (S : SC C Γ nm cs k N sc X) (tk : Takes X W) (hg : chkG N sc g tg = true) (hi : chkI N nm (cnam cs) it sc tg iter = true) (pa : PSs X x (tSs C X.K W Γ (cval cs) a)) :
    PS X (.For tg iter x [] pos) (tS C X.K W Γ (cval cs) (.for g it a)) := by
  have pg := soundG S.cc.hN S.cc.nd (hT_body S.hs S.fn) S.cc.calm hg
  have pi := soundI it (cp := false) S.cc S.hs tk hi
  refine PS.imp (ps_for S.po S.cc.calm pi pg pa (folded (plainI hi).set)) fun D σ H ⟨ω, β, ρ, U, env, h, R, rs, w, ek⟩ => ?_
  refine ⟨ω, β, ρ, U, env, h, _, _, rs, w, fun xs gd J h1 ρ1 H1 rs1 g1 wk w1 => ?_, ek.exE⟩
  refine ⟨fun i m σ' H' => i ≤ xs.length ∧ m = xs.length - i ∧ ∃ env' h' ρ' U', RS C X.K β ω ρ' U' env' h' σ' H' ∧ SStp ω H1 ρ1 U H' ρ' U' ∧ forW gd g (fun env h R => wpSs Γ (cval cs) a env h R) (xs.drop i) env' h' R,
    ⟨xs.length, Nat.zero_le _, rfl, env, h1, ρ1, U, rs1, .refl, w1⟩, ?_⟩
  rintro i m σ2 H2 ⟨hi1, rfl, env2, h2, ρ2, U2, rs2, g2, w2⟩
  have ek2 := (ek.step g1.s).step g2
  by_cases hlt : i < xs.length
  · obtain ⟨x, ex⟩ : ∃ x, xs[i]? = some x := ⟨_, List.getElem?_eq_getElem hlt⟩
    have ed : xs.drop i = x :: xs.drop (i + 1) := by
      rw [List.drop_eq_getElem_cons hlt]
      rw [List.getElem?_eq_getElem hlt] at ex
      rw [Option.some.inj ex]
    rw [ed] at w2
    obtain ⟨gdh, w2⟩ := w2
    obtain ⟨jgo, jy⟩ := wk.go i x h2 ρ2 U2 H2 rs2.hr g2 (fun z => by cases z) gdh ex
    refine .inr ⟨jgo, fun σ' H' => ∃ m', m' < xs.length - i ∧ (i + 1 ≤ xs.length ∧ m' = xs.length - (i + 1) ∧ ∃ env' h' ρ' U', RS C X.K β ω ρ' U' env' h' σ' H' ∧ SStp ω H1 ρ1 U H' ρ' U' ∧ forW gd g (fun env h R => wpSs Γ (cval cs) a env h R) (xs.drop (i + 1)) env' h' R),
      fun σ' H' z => z, fun v H3 y => ?_⟩
    obtain ⟨hr3, st3, rdx⟩ := jy v H3 y
    have rs3 := rs2.step hr3 st3
    refine g_ok rs3 rdx w2 fun env' σ' rs' hk hl w3 => ?_
    refine ⟨ω, β, ρ2, U2, env', h2, _, rs', w3, ?_⟩
    have ek3 := ek2.step st3.s
    have gg := g2.trans st3.s
    exact ⟨fun env' h' ρ' U' σ' H' rs' st' q => ⟨_, by omega, by omega, rfl, env', h', ρ', U', rs', gg.trans st', q⟩, ek3.nx, fun env' h' ρ' U' σ' H' rs' st' q => ⟨_, by omega, by omega, rfl, env', h', ρ', U', rs', gg.trans st', q⟩, ek3.rt, ek3.ex⟩
  · have e0 : xs.drop i = [] := List.drop_eq_nil_of_le (by omega)
    rw [e0] at w2
    obtain ⟨gdh, w2⟩ := w2
    exact .inl ⟨wk.stop i h2 ρ2 U2 H2 rs2.hr g2 (fun z => by cases z) gdh (by omega), ek2.nx _ _ _ _ _ _ rs2 .refl w2⟩
/-- one's own changes its name -/
theorem RS.mvOwn {K : PySem.W.Frag} {ω ρ U : List Addr} {β : Nat → Option Addr} {env : Ev} {h : AH} {σ : L2.St} {H : Hp} {i j : Nat} {a : Addr} {o : AO} (r : RS C K β ω ρ U env h σ H) (e : env[j]? = some (some (.own o))) (es : σ[j]? = some (some (.ref a))) (ne : i ≠ j) (hi : i < env.length) :
    RS C K β ω ρ U ((env.set j none).set i (some (.own o))) h (σ.set i (some (.ref a))) H := by
  have hl := r.len
  have hi1 : i < (env.set j none).length := by rw [List.length_set]; exact hi
  have hi2 : i < σ.length := by omega
  have hj : j < env.length := (List.getElem?_eq_some_iff.mp e).1
  have at' : ∀ (k : Nat) (s : Sl), k ≠ i → ((env.set j none).set i (some (.own o)))[k]? = some (some s) → k ≠ j ∧ env[k]? = some (some s) := fun k s hk ek => by
    rw [List.getElem?_set_ne (Ne.symm hk)] at ek
    by_cases hkj : k = j
    · subst hkj; rw [List.getElem?_set_self hj] at ek; cases ek
    · rw [List.getElem?_set_ne (Ne.symm hkj)] at ek; exact ⟨hkj, ek⟩
  obtain ⟨v, ev, c, rfl, hc, ro⟩ := r.sl j _ e
  rw [es] at ev
  cases ev
  refine ⟨r.hr, by simp [hl], fun k s ek => ?_, fun k k' o1 o2 b e1 e2 s1 s2 => ?_, fun k o1 ek => ?_⟩
  · by_cases hk : k = i
    · subst hk
      rw [List.getElem?_set_self hi1] at ek
      cases ek
      exact ⟨_, List.getElem?_set_self hi2, _, rfl, hc, ro⟩
    · obtain ⟨hkj, ek⟩ := at' k s hk ek
      rw [List.getElem?_set_ne (Ne.symm hk)]
      exact r.sl k s ek
  · have key : ∀ (k : Nat) (o1 : AO), k ≠ i → ((env.set j none).set i (some (.own o)))[k]? = some (some (.own o1)) → (σ.set i (some (.ref a)))[k]? = some (some (.ref a)) → False := fun k o1 hk ek sk => by
      obtain ⟨hkj, ek⟩ := at' k _ hk ek
      rw [List.getElem?_set_ne (Ne.symm hk)] at sk
      exact hkj (r.inj k j o1 o a ek e sk es)
    by_cases h1 : k = i
    · by_cases h2 : k' = i
      · rw [h1, h2]
      · subst h1
        rw [List.getElem?_set_self hi2] at s1
        cases s1
        exact (key k' o2 h2 e2 s2).elim
    · by_cases h2 : k' = i
      · subst h2
        rw [List.getElem?_set_self hi2] at s2
        cases s2
        exact (key k o1 h1 e1 s1).elim
      · obtain ⟨_, e1⟩ := at' k _ h1 e1
        obtain ⟨_, e2⟩ := at' k' _ h2 e2
        rw [List.getElem?_set_ne (Ne.symm h1)] at s1
        rw [List.getElem?_set_ne (Ne.symm h2)] at s2
        exact r.inj k k' o1 o2 b e1 e2 s1 s2
  · by_cases hk : k = i
    · subst hk; rw [List.getElem?_set_self hi1] at ek; cases ek
    · obtain ⟨_, ek⟩ := at' k _ hk ek
      obtain ⟨b, eb, sb⟩ := r.bo k o1 ek
      exact ⟨b, eb, by rw [List.getElem?_set_ne (Ne.symm hk)]; exact sb⟩
/-- what an except suite does -/
def ehT (n : Option Nat) (s : EH) (c : Nat) (a : Addr) : TS := match s with
  | .asg i e => fun D σ H => (∀ j, n = some j → σ[j]? = some (some (V.ref a))) ∧ D.nx (σ.set i (some (dV (e.val c)))) H
  | .ret e => fun D σ H => (∀ j, n = some j → σ[j]? = some (some (V.ref a))) ∧ D.rt (dV (e.val c)) H
theorem chk_asg {n : Option Nat} {i : Nat} {e : EE} {sts : List Stmt} (h : chkEH N nm sc n (.asg i e) sts = true) :
    ∃ y py v pos, sts = [.Assign [.Name y py] v pos] ∧ nameAt N i y = true ∧ locB sc y = true ∧ n ≠ some i ∧ chkEE N nm sc n e v = true := by
  unfold chkEH at h
  dsimp only at h
  split at h
  · simp only [Bool.and_eq_true, decide_eq_true_eq] at h
    obtain ⟨⟨⟨h1, h2⟩, h3⟩, h4⟩ := h
    exact ⟨_, _, _, _, rfl, h1, h2, h3, h4⟩
  · cases h
theorem chk_ret {n : Option Nat} {e : EE} {sts : List Stmt} (h : chkEH N nm sc n (.ret e) sts = true) : ∃ v pos, sts = [.Return (some v) pos] ∧ chkEE N nm sc n e v = true := by
  unfold chkEH at h
  dsimp only at h
  split at h
  · exact ⟨_, _, rfl, h⟩
  · cases h
theorem eh_ok {X : Cx} {n : Option Nat} {s : EH} {sts : List Stmt} {c : Nat} {a : Addr} {oe : Obj} {pn : List (Addr × Obj)} (S : SC C Γ nm cs k N sc X) (hc : c < nm.nx) (hz : Zc (.ref (C (c + 1000))) none oe) (hf : ∃ vs, oe.data = .fields vs) (h : chkEH N nm sc n s sts = true) :
    PSs (X.suite a ((a, oe) :: pn)) sts (ehT n s c a) := by
  cases s with
  | asg i e =>
    obtain ⟨y, py, v, pos, rfl, h1, h2, h3, h4⟩ := chk_asg h
    have hl := hT_body S.hs S.fn y h2
    have hv : isLC v = false := by cases v <;> first | rfl | (cases e <;> simp [chkEE] at h4)
    have pe := soundEE (a := a) (pn := pn) S.cc S.hs hc hz hf e h4
    have pg : PG (X.suite a ((a, oe) :: pn)) (.Name y py) (gName i) := pg_name (i := i) S.cc.nd (by show X.N[i]? = _; rw [S.cc.hN]; exact nameAt_ok h1) hl.1 hl.2
    exact PSs.imp (pss_cons (ps_asg pe pg (sole_no hv) (stores_no (fun _ _ _ _ _ _ z => (by cases z)) fun _ _ z => (by cases z)) (each_one rfl)) pss_nil) fun D σ H q => q
  | ret e =>
    obtain ⟨v, pos, rfl, h4⟩ := chk_ret h
    have pe := soundEE (a := a) (pn := pn) S.cc S.hs hc hz hf e h4
    exact PSs.imp (pss_cons (ps_ret pe) pss_nil) fun D σ H q => q
theorem set_sw {σ : L2.St} {i j : Nat} {u v : Option V} (n : i ≠ j) : ((σ.set i u).set j v).set i none = (σ.set j v).set i none := by
  rw [List.set_comm _ _ n, List.set_set]
/-- the body's ends, where an exception may be caught; Wc: what the clause wishes -/
theorem EndsOk.body {K : PySem.W.Frag} {W Wc : WX} {β : Nat → Option Addr} {ω : List Addr} {H : Hp} {ρ U : List Addr} {R : CEnds} {D : Ends} {kk : Nat} {l : List Nat} {n : Option Nat} {s : EH} (ek : EndsOk C K W β ω H ρ U R D)
    (hw : ∀ (x : EX) env' h' ρ' U' σ' H', x.c < kk → RS C K β ω ρ' U' env' h' σ' H' → SStp ω H ρ U H' ρ' U' → (l.contains x.c = true → x.fs = [] ∧ ehW s n x env' h' R) → (∀ dd, RX C K ω ρ' U' H' x (.ref (C (x.c + 1000))) dd → l.contains x.c = false → W (.ref (C (x.c + 1000))) dd σ' H') →
      ∀ dd, RX C K ω ρ' U' H' x (.ref (C (x.c + 1000))) dd → Wc (.ref (C (x.c + 1000))) dd σ' H') :
    EndsOk C K Wc β ω H ρ U { R with ex := fun x e h' => x.c < kk ∧ if l.contains x.c = true then x.fs = [] ∧ ehW s n x e h' R else R.ex x e h' } D := by
  refine ⟨ek.nx, ek.bk, ek.ct, ek.rt, fun x cls dd env' h' ρ' U' σ' H' rs st rx q => ?_⟩
  obtain ⟨hk, q⟩ := q
  have ec := rx.1
  subst ec
  refine hw x env' h' ρ' U' σ' H' hk rs st (fun hl => ?_) (fun dd rx hl => ?_) dd rx
  · rw [if_pos hl] at q; exact q
  · rw [if_neg (by rw [hl]; decide)] at q
    exact ek.ex x _ dd env' h' ρ' U' σ' H' rs st rx q
/-- what an except suite leaves, by the core -/
theorem eh_end {W : WX} {K : PySem.W.Frag} {β : Nat → Option Addr} {ω : List Addr} {H H' : Hp} {ρ U ρ' U' : List Addr} {R : CEnds} {D : Ends} {x : EX} {s : EH} {env' : Ev} {h' : AH} {σ' : L2.St} (ek : EndsOk C K W β ω H ρ U R D)
    (rs : RS C K β ω ρ' U' env' h' σ' H') (st : SStp ω H ρ U H' ρ' U') {n : Option Nat} (hn : ∀ j, n = some j → ∀ e, s ≠ .asg j e) (q : ehW s n x env' h' R) (a : Addr) :
    ehT n s x.c a { D with nx := fun σ2 H2 => D.nx (match n with | some j => σ2.set j none | none => σ2) H2, bk := fun σ2 H2 => D.bk (match n with | some j => σ2.set j none | none => σ2) H2, ct := fun σ2 H2 => D.ct (match n with | some j => σ2.set j none | none => σ2) H2 } (match n with | some j => σ'.set j (some (.ref a)) | none => σ') H' := by
  obtain ⟨ql, q⟩ := q
  have hlen : ∀ j, n = some j → j < σ'.length := fun j e => by
    subst e
    have := of_decide_eq_true ql
    rw [← rs.len]; exact this
  cases s with
  | asg i e =>
    refine ⟨fun j ej => ?_, ?_⟩
    · subst ej
      exact List.getElem?_set_self (hlen j rfl)
    · have rs2 := rs.set i (EE.val_rd x.c e)
      cases n with
      | none => exact ek.nx _ _ _ _ _ _ rs2 st q
      | some j =>
        show D.nx (((σ'.set j (some (.ref a))).set i (some (dV (e.val x.c)))).set j none) H'
        rw [set_sw (fun z => hn j rfl e (by rw [z]))]
        exact ek.nx _ _ _ _ _ _ (rs2.wipe j none) st q
  | ret e =>
    refine ⟨fun j ej => ?_, ?_⟩
    · subst ej
      exact List.getElem?_set_self (hlen j rfl)
    · exact ek.rt (.d (e.val x.c)) _ _ _ _ _ rs.hr st (EE.val_rd x.c e) q
theorem eh_ne {n : Option Nat} {s : EH} {sts : List Stmt} (h : chkEH N nm sc n s sts = true) : ∀ j, n = some j → ∀ e, s ≠ .asg j e := by
  intro j ej e es
  subst es ej
  obtain ⟨_, _, _, _, _, _, _, h3, _⟩ := chk_asg h
  exact h3 rfl
theorem soundS_asg (g : CG) (e : CE) {X : Cx} {W : WX} {st : Stmt} (S : SC C Γ nm cs k N sc X) (tk : Takes X W) (h : chkS N nm (cnam cs) sc (.asg g e) st = true) : PS X st (tS C X.K W Γ (cval cs) (.asg g e)) := by
  cases st with
  | Assign tgs v pos =>
    match tgs, h with
    | [tg], h =>
      simp only [chkS, Bool.and_eq_true] at h
      obtain ⟨⟨hg, he⟩, hb⟩ := h
      refine PS.imp (asgE S tk hg hb he) fun D σ H ⟨ω, β, ρ, U, env, h, R, rs, w, ek⟩ => ?_
      exact ⟨ω, β, ρ, U, env, h, _, _, rs, w, fun d v h1 ρ1 H1 rs1 g1 rv1 w1 => by
        obtain ⟨x, rfl, w1⟩ := w1
        exact asg_end (ek.step g1.s) rs1 rv1 w1, ek.exE⟩
    | [], h => simp [chkS] at h
    | _ :: _ :: _, h => simp [chkS] at h
  | _ => simp [chkS] at h
theorem soundS_asgO (i : Nat) (l : LE) {X : Cx} {W : WX} {st : Stmt} (S : SC C Γ nm cs k N sc X) (tk : Takes X W) (h : chkS N nm (cnam cs) sc (.asgO i l) st = true) : PS X st (tS C X.K W Γ (cval cs) (.asgO i l)) := by
  cases st with
  | Assign tgs v pos =>
    match tgs, h with
    | [tg], h =>
      simp only [chkS, Bool.and_eq_true] at h
      obtain ⟨⟨hg, he⟩, hb⟩ := h
      refine PS.imp (asgL S tk hg hb he) fun D σ H ⟨ω, β, ρ, U, env, h, R, rs, w, ek⟩ => ?_
      exact ⟨ω, β, ρ, U, env, h, _, _, rs, w, fun d v h1 ρ1 H1 rs1 g1 rv1 w1 p hp => by
        obtain ⟨hr, g⟩ := rs1.hr.adopt hp (.lst v)
        have own : ∀ a, a ∈ ω ∨ a ∈ U → upd H1 p (.lst v) a = H1 a := fun a ha => upd_ne fun z => by
          subst z
          exact rs1.hr.fresh hp (ha.elim .inl fun q => .inr (.inr q))
        have nU : p ∉ U := fun z => rs1.hr.fresh hp (.inr (.inr z))
        have rs2 := rs1.setOwn hr g own (fun a ha => List.mem_cons_of_mem _ ha) i (o := .lst d) (List.mem_cons_self ..) nU ⟨v, upd_same, rv1.grow g⟩
        exact ek.nx _ _ _ _ _ _ rs2 (g1.s.trans ⟨g, fun a ha => own a (.inl ha)⟩) w1, ek.exE⟩
    | [], h => simp [chkS] at h
    | _ :: _ :: _, h => simp [chkS] at h
  | _ => simp [chkS] at h
theorem soundS_asgD (i : Nat) {X : Cx} {W : WX} {st : Stmt} (S : SC C Γ nm cs k N sc X) (tk : Takes X W) (h : chkS N nm (cnam cs) sc (.asgD i) st = true) : PS X st (tS C X.K W Γ (cval cs) (.asgD i)) := by
  cases st with
  | Assign tgs v pos =>
    match tgs, h with
    | [], h => simp [chkS] at h
    | _ :: _ :: _, h => simp [chkS] at h
    | [tg], h =>
    cases v with
    | Dict ks vs pd =>
      cases ks with
      | cons _ _ => simp [chkS] at h
      | nil =>
      cases vs with
      | cons _ _ => simp [chkS] at h
      | nil =>
      have hg : chkG N sc (.nm i) tg = true := by simpa [chkS] using h
      have pg := soundG S.cc.hN S.cc.nd (hT_body S.hs S.fn) S.cc.calm hg
      have htn : ∃ y py, tg = .Name y py := by cases tg <;> first | exact ⟨_, _, rfl⟩ | (simp [chkG] at hg; done)
      obtain ⟨y, py, rfl⟩ := htn
      have pd : PE X (.Dict [] [] pd) (fun σ H Q => tDNewK σ H Q ∨ tDNewT σ H Q) := ⟨fun pins s σ H Q I q => q.elim (pe_dnewK.run pins s σ H Q I) (pe_dnewT.run pins s σ H Q I)⟩
      refine PS.imp (ps_asg pd pg (sole_no rfl) (stores_no (fun _ _ _ _ _ _ z => (by cases z)) fun _ _ z => (by cases z)) (each_one rfl)) fun D σ H ⟨ω, β, ρ, U, env, h, R, rs, w, ek⟩ => ?_
      have fin : ∀ (o : AO) (u : HO), MutO u → (∀ (H' : Hp) (p : Addr) (m : Addr → Prop), H' p = some u → RO C X.K H' ρ m o p) → R.nx (env.set i (some (.own o))) h → ∀ p, H p = none → gR X.K (.nm i) (.ref p) σ (upd H p u) D.nx := fun o u mu ro wn p hp => by
        obtain ⟨hr, g⟩ := rs.hr.adopt hp mu
        have own : ∀ a, a ∈ ω ∨ a ∈ U → upd H p u a = H a := fun a ha => upd_ne fun z => by
          subst z
          exact rs.hr.fresh hp (ha.elim .inl fun q => .inr (.inr q))
        have nU : p ∉ U := fun z => rs.hr.fresh hp (.inr (.inr z))
        have rs2 := rs.setOwn hr g own (fun a ha => List.mem_cons_of_mem _ ha) i (o := o) (List.mem_cons_self ..) nU (ro _ _ _ upd_same)
        exact ek.nx _ _ _ _ _ _ rs2 ⟨g, fun a ha => own a (.inl ha)⟩ wn
      rcases w with w | w
      · exact .inl fun p hp => fin (AO.dK []) (HO.dK []) (.dK []) (fun H' p m e => ⟨[], e, .nil⟩) w p hp
      · exact .inr fun p hp => fin (AO.dT []) (HO.dT []) (.dT []) (fun H' p m e => ⟨[], e, .nil⟩) w p hp
    | _ => simp [chkS] at h
  | _ => simp [chkS] at h
theorem soundS_asgC (i : Nat) (f : Nat) (es : CEs) {X : Cx} {W : WX} {st : Stmt} (S : SC C Γ nm cs k N sc X) (tk : Takes X W) (h : chkS N nm (cnam cs) sc (.asgC i f es) st = true) : PS X st (tS C X.K W Γ (cval cs) (.asgC i f es)) := by
  cases st with
  | Assign tgs v pos =>
    match tgs, h with
    | [tg], h =>
      cases v with
      | Call fn xs kw p =>
        cases fn with
        | Name x pn =>
          match xs, kw, h with
          | y :: ys, [], h =>
            simp only [chkS, Bool.and_eq_true] at h
            obtain ⟨⟨⟨hg, hgl⟩, hf⟩, he⟩ := h
            have pg := soundG S.cc.hN S.cc.nd (hT_body S.hs S.fn) S.cc.calm hg
            have htn : ∃ y py, tg = .Name y py := by cases tg <;> first | exact ⟨_, _, rfl⟩ | (simp [chkG] at hg; done)
            obtain ⟨yn, py, rfl⟩ := htn
            have en : nm f = some x := by
              cases en : nm f with
              | none => rw [en] at hf; cases hf
              | some z => rw [en] at hf; rw [of_decide_eq_true hf]
            refine PS.imp (ps_asg (pe_callR S.cc S.hs tk hgl en he) pg (sole_no rfl) (stores_no (fun _ _ _ _ _ _ z => (by cases z)) fun _ _ z => (by cases z)) (each_one rfl)) fun D σ H ⟨ω, β, ρ, U, env, h, R, rs, w, ek⟩ => ?_
            exact ⟨ω, β, ρ, U, env, h, _, _, rs, w, fun r v h1 ρ1 U1 H1 rs1 g1 hr1 gr1 rr w1 => by
              cases r with
              | d d =>
                have rd : RD X.K H1 ρ1 (ms ω ρ1 U) d v := RD.grow (.same fun a z => ms_ret z) rr
                exact ek.nx _ _ _ _ _ _ (rs1.set i rd) g1.s w1
              | mv o =>
                obtain ⟨a, rfl, hu, ro⟩ := rr
                have nω : a ∉ ω := fun z => hr1.du a hu (List.mem_append_left _ z)
                have nU : a ∉ U := fun z => hr1.du a hu (List.mem_append_right _ z)
                have nρ : a ∉ ρ1 := fun z => (hr1.dj a z).2 hu
                have le : ∀ b, ms ω ρ1 (a :: U) b → ms (ω ++ U) ρ1 U1 b := fun b z => by
                  rcases ms_cons.mp z with z | z
                  · subst z; exact .inr (.inr hu)
                  · exact ms_ret z
                have gs : Grow H1 ρ1 (ms (ω ++ U) ρ1 U1) H1 ρ1 (ms ω ρ1 (a :: U)) := .same le
                have hr2 : HR C X.K ω ρ1 (a :: U) h1 H1 := ⟨hr1.lh, fun n o z => let ⟨b, e1, r1⟩ := hr1.hp n o z; ⟨b, e1, r1.grow gs rfl⟩, hr1.nd,
                  fun b hb => ⟨(rs1.hr.dj b hb).1, fun z => (List.mem_cons.mp z).elim (fun q => nρ (q ▸ hb)) (rs1.hr.dj b hb).2⟩,
                  fun b hb => (List.mem_cons.mp hb).elim (fun q => q ▸ nω) (rs1.hr.du b), fun b z => hr1.pr b (le b z)⟩
                have rs2 := rs.setOwn hr2 (gr1.trans gs) g1.own (fun b hb => List.mem_cons_of_mem _ hb) i (o := o) (List.mem_cons_self ..) nU (ro.grow gs rfl)
                exact ek.nx _ _ _ _ _ _ rs2 ⟨gr1.trans gs, fun b hb => g1.own b (.inl hb)⟩ w1, ek.exE⟩
          | [], _, h => simp [chkS] at h
          | _ :: _, _ :: _, h => simp [chkS] at h
        | _ => simp [chkS] at h
      | _ => simp [chkS] at h
    | [], h => simp [chkS] at h
    | _ :: _ :: _, h => simp [chkS] at h
  | _ => simp [chkS] at h
theorem soundS_aug (i : Nat) (o : BO) (e : CE) {X : Cx} {W : WX} {st : Stmt} (S : SC C Γ nm cs k N sc X) (tk : Takes X W) (h : chkS N nm (cnam cs) sc (.aug i o e) st = true) : PS X st (tS C X.K W Γ (cval cs) (.aug i o e)) := by
  cases st with
  | AugAssign tg op v pos =>
    cases tg with
    | Name x px =>
      simp only [chkS, Bool.and_eq_true, decide_eq_true_eq] at h
      obtain ⟨⟨⟨⟨h1, h2⟩, rfl⟩, he⟩, ho⟩ := h
      have hl := hT_body S.hs S.fn x h2
      obtain ⟨t, pt, ot⟩ := aug_ok (X := X) o (by cases o <;> simp at ho <;> simp)
      have pe := soundE e S.cc S.hs tk he
      refine PS.imp (ps_aug S.cc.nd (by rw [S.cc.hN]; exact nameAt_ok h1) hl.1 pe pt hl.2) fun D σ H ⟨ω, β, ρ, U, env, h, R, rs, ⟨x, ex, w⟩, ek⟩ => ?_
      obtain ⟨v, ev, rv⟩ := rs.sl i _ ex
      exact ⟨v, ev, ω, β, ρ, U, env, h, _, _, rs, w, fun d v h1 ρ1 H1 rs1 g1 rv1 w1 => by
        obtain ⟨y, rfl, w1⟩ := w1
        exact ot (RD.grow g1.gr rv) rv1 w1 fun z w rz q => ek.nx _ _ _ _ _ _ (rs1.set i rz) g1.s q, ek.exE⟩
    | _ => simp [chkS] at h
  | _ => simp [chkS] at h
theorem soundS_setix (i : Nat) (kk : CE) (e : CE) {X : Cx} {W : WX} {st : Stmt} (S : SC C Γ nm cs k N sc X) (tk : Takes X W) (h : chkS N nm (cnam cs) sc (.setix i kk e) st = true) : PS X st (tS C X.K W Γ (cval cs) (.setix i kk e)) := by
  cases st with
  | Assign tgs v pos =>
    match tgs, h with
    | [tg], h =>
      cases tg with
      | Subscript xo y ps =>
        cases xo with
        | Name x px =>
          simp only [chkS, Bool.and_eq_true, Bool.not_eq_true'] at h
          obtain ⟨⟨⟨⟨h1, h2⟩, hk⟩, he⟩, hv⟩ := h
          have pk := soundE kk S.cc S.hs tk hk
          have pe := soundE e S.cc S.hs tk he
          have pl := (plainE hk).slice
          have pg : PG X (.Subscript (.Name x px) y ps) _ := pg_sub (varPE (p := px) S h1 h2) pk (PSet.or set_list (set_dict (by have := S.cc.room.un; omega))) (fun v => by cases y <;> first | rfl | exact absurd rfl (pl _ _ _ _))
          refine PS.imp (ps_asg pe pg (sole_no hv) (stores_no (fun _ _ _ _ _ _ z => (by cases z)) fun _ _ z => (by cases z)) (each_one rfl)) fun D σ H ⟨ω, β, ρ, U, env, h, R, rs, w, ek⟩ => ?_
          obtain ⟨o, eo, w⟩ := w
          obtain ⟨a, es, ha, _⟩ := varDget rs eo
          refine ⟨ω, β, ρ, U, env, h, _, _, rs, w, fun d v h1 ρ1 H1 rs1 g1 rv1 w1 => ⟨_, es, ?_⟩, ek.exE⟩
          refine ⟨ω, β, ρ1, U, env, h1, _, _, rs1, w1, fun u vu h2 ρ2 H2 rs2 g2 rv2 w2 => ?_, upX g1 ek.exE⟩
          obtain ⟨x, y, rfl, rfl, w2⟩ := w2
          have rx := RD.grow g2.gr rv1
          obtain ⟨a2, es2, _, ro⟩ := varDget rs2 eo
          rw [es] at es2
          cases es2
          rcases w2 with ⟨xs, z, j, rfl, rfl, ej, w2⟩ | ⟨o', ep, w2⟩
          · obtain ⟨vs, h3, h4⟩ := ro
            cases rv2
            obtain ⟨rs3, g3⟩ := rs2.wr eo es ha (.lst (vs.set j v)) (o' := .lst (xs.set j x)) fun g => ⟨_, upd_same, (h4.set rx j).grow g⟩
            exact .inl ⟨a, vs, z, j, rfl, rfl, h3, ixN_set h4 ej, ek.nx _ _ _ _ _ _ rs3 ((g1.trans g2).s.trans g3) w2⟩
          · obtain ⟨un, dp, mu, rg⟩ := put_ok ro ep rv2 rx
            obtain ⟨rs3, g3⟩ := rs2.wr eo es ha mu (o' := o') rg
            exact .inr ⟨a, _, rfl, dp, ek.nx _ _ _ _ _ _ rs3 ((g1.trans g2).s.trans g3) w2⟩
        | _ => simp [chkS] at h
      | _ => simp [chkS] at h
    | [], h => simp [chkS] at h
    | _ :: _ :: _, h => simp [chkS] at h
  | _ => simp [chkS] at h
theorem soundS_app (i : Nat) (e : CE) {X : Cx} {W : WX} {st : Stmt} (S : SC C Γ nm cs k N sc X) (tk : Takes X W) (h : chkS N nm (cnam cs) sc (.app i e) st = true) : PS X st (tS C X.K W Γ (cval cs) (.app i e)) := by
  cases st with
  | Expr v pos =>
    cases v with
    | Call fn xs kw c =>
      cases fn with
      | Attribute ob m ap =>
        cases ob with
        | Name x px =>
          match xs, kw, h with
          | [v], [], h =>
            simp only [chkS, Bool.and_eq_true, decide_eq_true_eq] at h
            obtain ⟨⟨⟨⟨h1, h2⟩, rfl⟩, hb⟩, he⟩ := h
            have pe := soundE e S.cc S.hs tk he
            have s1 := star_cons (es := []) (env := X.env) (plainE he).star
            refine PS.imp (ps_expr (pe_bm PySem.F.plainAttrs_list PySem.F.slot_list_append PySem.F.type_list_append mt_append (varPE (p := px) S h1 h2) (pa_cons pe pa_nil s1) rfl (by rw [s1]; rfl) hb s1 rfl)) fun D σ H ⟨ω, β, ρ, U, env, h, R, rs, ⟨xs, eo, w⟩, ek⟩ => ?_
            obtain ⟨a, es, ha, vs, h3, h4⟩ := varDget rs eo
            refine ⟨_, es, .inl ⟨rfl, vs, SqL.of h3⟩, ω, β, ρ, U, env, h, _, _, rs, w, fun d v h1 ρ1 H1 rs1 g1 rv1 w1 => ?_, ek.exE⟩
            obtain ⟨y, rfl, hl, w1⟩ := w1
            obtain ⟨rs3, g3⟩ := rs1.wr eo es ha (.lst (vs ++ [v])) (o' := .lst (xs ++ [y])) fun g => ⟨_, upd_same, ((h4.grow g1.gr).append (.cons rv1 .nil)).grow g⟩
            exact ⟨a, vs, v, rfl, rfl, (g1.own a (.inr ha)).trans h3, by rw [← h4.length]; exact hl, ek.nx _ _ _ _ _ _ rs3 (g1.s.trans g3) w1⟩
          | [], _, h => simp [chkS] at h
          | _ :: _ :: _, _, h => simp [chkS] at h
          | [_], _ :: _, h => simp [chkS] at h
        | _ => simp [chkS] at h
      | _ => simp [chkS] at h
    | _ => simp [chkS] at h
  | _ => simp [chkS] at h
theorem soundS_ext (i : Nat) (l : LE) {X : Cx} {W : WX} {st : Stmt} (S : SC C Γ nm cs k N sc X) (tk : Takes X W) (h : chkS N nm (cnam cs) sc (.ext i l) st = true) : PS X st (tS C X.K W Γ (cval cs) (.ext i l)) := by
  cases st with
  | Expr v pos =>
    cases v with
    | Call fn xs kw c =>
      cases fn with
      | Attribute ob m ap =>
        cases ob with
        | Name x px =>
          match xs, kw, h with
          | [v], [], h =>
            simp only [chkS, Bool.and_eq_true, decide_eq_true_eq] at h
            obtain ⟨⟨⟨⟨h1, h2⟩, rfl⟩, hb⟩, he⟩ := h
            have pe := soundL l S.cc S.hs tk he
            have s1 := star_cons (es := []) (env := X.env) (plainL he).star
            refine PS.imp (ps_expr (pe_bm PySem.F.plainAttrs_list PySem.F.slot_list_extend PySem.F.type_list_extend mt_extend (varPE (p := px) S h1 h2) (pa_cons pe pa_nil s1) rfl (by rw [s1]; rfl) hb s1 rfl)) fun D σ H ⟨ω, β, ρ, U, env, h, R, rs, ⟨xs, eo, w⟩, ek⟩ => ?_
            obtain ⟨a, es, ha, vs, h3, h4⟩ := varDget rs eo
            refine ⟨_, es, .inl ⟨rfl, vs, SqL.of h3⟩, ω, β, ρ, U, env, h, _, _, rs, w, fun d v h1 ρ1 H1 rs1 g1 rv1 w1 p hp => ?_, ek.exE⟩
            have l1 := rs1.hr.laid hp (.lst v)
            have rs2 := rs1.step l1.1 l1.2
            have gg := g1.trans l1.2
            obtain ⟨rs3, g3⟩ := rs2.wr eo es ha (.lst (vs ++ v)) (o' := .lst (xs ++ d)) fun g => ⟨_, upd_same, ((h4.grow gg.gr).append (rv1.grow l1.2.gr)).grow g⟩
            exact ⟨a, p, vs, v, rfl, rfl, (gg.own a (.inr ha)).trans h3, upd_same, by rw [← h4.length, ← rv1.length]; exact w1.1, ek.nx _ _ _ _ _ _ rs3 (gg.s.trans g3) w1.2⟩
          | [], _, h => simp [chkS] at h
          | _ :: _ :: _, _, h => simp [chkS] at h
          | [_], _ :: _, h => simp [chkS] at h
        | _ => simp [chkS] at h
      | _ => simp [chkS] at h
    | _ => simp [chkS] at h
  | _ => simp [chkS] at h
theorem soundS_extV (i : Nat) (j : Nat) {X : Cx} {W : WX} {st : Stmt} (S : SC C Γ nm cs k N sc X) (tk : Takes X W) (h : chkS N nm (cnam cs) sc (.extV i j) st = true) : PS X st (tS C X.K W Γ (cval cs) (.extV i j)) := by
  cases st with
  | Expr v pos =>
    cases v with
    | Call fn xs kw c =>
      cases fn with
      | Attribute ob m ap =>
        cases ob with
        | Name x px =>
          match xs, kw, h with
          | [], _, h => simp [chkS] at h
          | _ :: _ :: _, _, h => simp [chkS] at h
          | [_], _ :: _, h => simp [chkS] at h
          | [v], [], h =>
            cases v with
            | Name y py =>
              simp only [chkS, Bool.and_eq_true, decide_eq_true_eq] at h
              obtain ⟨⟨⟨⟨⟨h1, h2⟩, rfl⟩, hb⟩, h5⟩, h6⟩ := h
              have pe := varPE (p := py) S h5 h6
              refine PS.imp (ps_expr (pe_bm PySem.F.plainAttrs_list PySem.F.slot_list_extend PySem.F.type_list_extend mt_extend (varPE (p := px) S h1 h2) (pa_cons pe pa_nil) rfl rfl hb rfl rfl)) fun D σ H ⟨ω, β, ρ, U, env, h, R, rs, ⟨xs, ys, eo, eo2, hl, w⟩, ek⟩ => ?_
              obtain ⟨a, es, ha, vs, h3, h4⟩ := varDget rs eo
              obtain ⟨a2, es2, ha2, vs2, h7, h8⟩ := varDget rs eo2
              obtain ⟨rs3, g3⟩ := rs.wr eo es ha (.lst (vs ++ vs2)) (o' := .lst (xs ++ ys)) fun g => ⟨_, upd_same, (h4.append h8).grow g⟩
              exact ⟨_, es, .inl ⟨rfl, vs, SqL.of h3⟩, _, es2, a, a2, vs, vs2, rfl, rfl, h3, h7, by rw [← h4.length, ← h8.length]; exact hl, ek.nx _ _ _ _ _ _ rs3 g3 w⟩
            | _ => simp [chkS] at h
        | _ => simp [chkS] at h
      | _ => simp [chkS] at h
    | _ => simp [chkS] at h
  | _ => simp [chkS] at h
theorem soundS_clr (i : Nat) {X : Cx} {W : WX} {st : Stmt} (S : SC C Γ nm cs k N sc X) (tk : Takes X W) (h : chkS N nm (cnam cs) sc (.clr i) st = true) : PS X st (tS C X.K W Γ (cval cs) (.clr i)) := by
  cases st with
  | Expr v pos =>
    cases v with
    | Call fn xs kw c =>
      cases fn with
      | Attribute ob m ap =>
        cases ob with
        | Name x px =>
          match xs, kw, h with
          | [], [], h =>
            simp only [chkS, Bool.and_eq_true, decide_eq_true_eq] at h
            obtain ⟨⟨⟨h1, h2⟩, rfl⟩, hb⟩ := h
            refine PS.imp (ps_expr (pe_bm0 PySem.F.plainAttrs_list PySem.F.slot_list_clear PySem.F.type_list_clear mt_clear (varPE (p := px) S h1 h2) rfl hb)) fun D σ H ⟨ω, β, ρ, U, env, h, R, rs, ⟨xs, eo, w⟩, ek⟩ => ?_
            obtain ⟨a, es, ha, vs, h3, h4⟩ := varDget rs eo
            obtain ⟨rs3, g3⟩ := rs.wr eo es ha (.lst []) (o' := .lst []) fun g => ⟨_, upd_same, .nil⟩
            exact ⟨_, es, .inl ⟨rfl, vs, SqL.of h3⟩, a, vs, rfl, rfl, h3, ek.nx _ _ _ _ _ _ rs3 g3 w⟩
          | _ :: _, _, h => simp [chkS] at h
          | [], _ :: _, h => simp [chkS] at h
        | _ => simp [chkS] at h
      | _ => simp [chkS] at h
    | _ => simp [chkS] at h
  | _ => simp [chkS] at h
theorem soundS_exp (e : CE) {X : Cx} {W : WX} {st : Stmt} (S : SC C Γ nm cs k N sc X) (tk : Takes X W) (h : chkS N nm (cnam cs) sc (.exp e) st = true) : PS X st (tS C X.K W Γ (cval cs) (.exp e)) := by
  cases st with
  | Expr v pos =>
    simp only [chkS, Bool.and_eq_true, Bool.not_eq_true'] at h
    have pe := soundE e S.cc S.hs tk h.1
    refine PS.imp (ps_expr pe (swaps_no h.2)) fun D σ H ⟨ω, β, ρ, U, env, h, R, rs, w, ek⟩ => ?_
    exact ⟨ω, β, ρ, U, env, h, _, _, rs, w, fun d v h1 ρ1 H1 rs1 g1 rv1 w1 => ek.nx _ _ _ _ _ _ rs1 g1.s w1, ek.exE⟩
  | _ => simp [chkS] at h
theorem soundS_ret (e : CE) {X : Cx} {W : WX} {st : Stmt} (S : SC C Γ nm cs k N sc X) (tk : Takes X W) (h : chkS N nm (cnam cs) sc (.ret e) st = true) : PS X st (tS C X.K W Γ (cval cs) (.ret e)) := by
  cases st with
  | Return v pos =>
    cases v with
    | none => simp [chkS] at h
    | some v =>
      have pe := soundE e S.cc S.hs tk (by simpa [chkS] using h)
      refine PS.imp (ps_ret pe) fun D σ H ⟨ω, β, ρ, U, env, h, R, rs, w, ek⟩ => ?_
      obtain ⟨U', rs', g'⟩ := rs.frzAll
      have ek' := ek.step g'
      exact ⟨ω, β, ρ, U', frzE env, h, _, _, rs', w, fun d v h1 ρ1 H1 rs1 g1 rv1 w1 => by
        obtain ⟨x, rfl, w1⟩ := w1
        exact ek'.rt (.d x) v h1 ρ1 U' H1 rs1.hr g1.s rv1 w1, ek'.exE⟩
  | _ => simp [chkS] at h
theorem soundS_retM (i : Nat) {X : Cx} {W : WX} {st : Stmt} (S : SC C Γ nm cs k N sc X) (tk : Takes X W) (h : chkS N nm (cnam cs) sc (.retM i) st = true) : PS X st (tS C X.K W Γ (cval cs) (.retM i)) := by
  cases st with
  | Return v pos =>
    cases v with
    | none => simp [chkS] at h
    | some v =>
      cases v with
      | Name x p =>
        simp only [chkS, Bool.and_eq_true] at h
        refine PS.imp (ps_ret (varPE S h.1 h.2)) fun D σ H ⟨ω, β, ρ, U, env, h, R, rs, ⟨o, eo, w⟩, ek⟩ => ?_
        obtain ⟨a, es, ha, ro⟩ := varDget rs eo
        exact ⟨_, es, ek.rt (.mv o) _ _ _ _ _ rs.hr .refl ⟨a, rfl, ha, ro⟩ w⟩
      | _ => simp [chkS] at h
  | _ => simp [chkS] at h
theorem soundS_retN  {X : Cx} {W : WX} {st : Stmt} (S : SC C Γ nm cs k N sc X) (tk : Takes X W) (h : chkS N nm (cnam cs) sc .retN st = true) : PS X st (tS C X.K W Γ (cval cs) .retN) := by
  cases st with
  | Return v pos =>
    cases v with
    | some v => simp [chkS] at h
    | none => exact PS.imp ps_retN fun D σ H ⟨ω, β, ρ, U, env, h, R, rs, w, ek⟩ => ek.rt (.d .non) .non _ _ _ _ rs.hr .refl RD.non w
  | _ => simp [chkS] at h
theorem soundS_retL (l : LE) {X : Cx} {W : WX} {st : Stmt} (S : SC C Γ nm cs k N sc X) (tk : Takes X W) (h : chkS N nm (cnam cs) sc (.retL l) st = true) : PS X st (tS C X.K W Γ (cval cs) (.retL l)) := by
  cases st with
  | Return v pos =>
    cases v with
    | none => simp [chkS] at h
    | some v =>
      have pe := soundL l S.cc S.hs tk (by simpa [chkS] using h)
      refine PS.imp (ps_ret pe) fun D σ H ⟨ω, β, ρ, U, env, h, R, rs, w, ek⟩ => ?_
      exact ⟨ω, β, ρ, U, env, h, _, _, rs, w, fun d v h1 ρ1 H1 rs1 g1 rv1 w1 p hp => by
        obtain ⟨hr, g⟩ := rs1.hr.adopt hp (.lst v)
        have own : ∀ a, a ∈ ω ∨ a ∈ U → upd H1 p (.lst v) a = H1 a := fun a ha => upd_ne fun z => by
          subst z
          exact rs1.hr.fresh hp (ha.elim .inl fun q => .inr (.inr q))
        exact ek.rt (.mv (.lst d)) (.ref p) h1 ρ1 (p :: U) _ hr (g1.s.trans ⟨g, fun a ha => own a (.inl ha)⟩) ⟨p, rfl, List.mem_cons_self .., v, upd_same, rv1.grow g⟩ w1, ek.exE⟩
  | _ => simp [chkS] at h
theorem soundS_exte (i : Nat) (e : CE) {X : Cx} {W : WX} {st : Stmt} (S : SC C Γ nm cs k N sc X) (tk : Takes X W) (h : chkS N nm (cnam cs) sc (.exte i e) st = true) : PS X st (tS C X.K W Γ (cval cs) (.exte i e)) := by
  cases st with
  | Expr v pos =>
    cases v with
    | Call fn xs kw c =>
      cases fn with
      | Attribute ob m ap =>
        cases ob with
        | Name x px =>
          match xs, kw, h with
          | [v], [], h =>
            simp only [chkS, Bool.and_eq_true, decide_eq_true_eq] at h
            obtain ⟨⟨⟨⟨h1, h2⟩, rfl⟩, hb⟩, he⟩ := h
            have pe := soundE e S.cc S.hs tk he
            have s1 := star_cons (es := []) (env := X.env) (plainE he).star
            refine PS.imp (ps_expr (pe_bm PySem.F.plainAttrs_list PySem.F.slot_list_extend PySem.F.type_list_extend mt_extendT (varPE (p := px) S h1 h2) (pa_cons pe pa_nil s1) rfl (by rw [s1]; rfl) hb s1 rfl)) fun D σ H ⟨ω, β, ρ, U, env, h, R, rs, ⟨xs, eo, w⟩, ek⟩ => ?_
            obtain ⟨a, es, ha, vs, h3, h4⟩ := varDget rs eo
            refine ⟨_, es, .inl ⟨rfl, vs, SqL.of h3⟩, ω, β, ρ, U, env, h, _, _, rs, w, fun d v h1 ρ1 H1 rs1 g1 rv1 w1 => ?_, ek.exE⟩
            obtain ⟨ys, rfl, hl, w1⟩ := w1
            cases rv1 with
            | tup sv rys =>
              obtain ⟨rs3, g3⟩ := rs1.wr eo es ha (.lst (vs ++ _)) (o' := .lst (xs ++ ys)) fun g => ⟨_, upd_same, ((h4.grow g1.gr).append rys).grow g⟩
              exact ⟨a, _, vs, _, rfl, rfl, (g1.own a (.inr ha)).trans h3, SqT.of sv, by rw [← h4.length, ← rys.length]; exact hl, ek.nx _ _ _ _ _ _ rs3 (g1.s.trans g3) w1⟩
          | [], _, h => simp [chkS] at h
          | _ :: _ :: _, _, h => simp [chkS] at h
          | [_], _ :: _, h => simp [chkS] at h
        | _ => simp [chkS] at h
      | _ => simp [chkS] at h
    | _ => simp [chkS] at h
  | _ => simp [chkS] at h
theorem soundS_asgV (i : Nat) (j : Nat) {X : Cx} {W : WX} {st : Stmt} (S : SC C Γ nm cs k N sc X) (tk : Takes X W) (h : chkS N nm (cnam cs) sc (.asgV i j) st = true) : PS X st (tS C X.K W Γ (cval cs) (.asgV i j)) := by
  cases st with
  | Assign tgs v pos =>
    match tgs, h with
    | [tg], h =>
      cases v with
      | Name y py =>
        simp only [chkS, Bool.and_eq_true] at h
        obtain ⟨⟨⟨hg, h1⟩, h2⟩, hb⟩ := h
        refine PS.imp (goodS (g := .nm i) S hg hb (varPE (p := py) S h1 h2) fun _ _ _ _ z => (by cases z)) fun D σ H ⟨ω, β, ρ, U, env, h, R, rs, ⟨o, eo, ne, hi, w⟩, ek⟩ => ?_
        obtain ⟨a, es, ha, ro⟩ := varDget rs eo
        exact ⟨_, es, ek.nx _ _ _ _ _ _ (rs.mvOwn eo es ne hi) .refl w⟩
      | _ => simp [chkS] at h
    | [], h => simp [chkS] at h
    | _ :: _ :: _, h => simp [chkS] at h
  | _ => simp [chkS] at h
theorem soundS_brk  {X : Cx} {W : WX} {st : Stmt} (S : SC C Γ nm cs k N sc X) (tk : Takes X W) (h : chkS N nm (cnam cs) sc .brk st = true) : PS X st (tS C X.K W Γ (cval cs) .brk) := by
  cases st with
  | Break p => exact PS.imp ps_break fun D σ H ⟨ω, β, ρ, U, env, h, R, rs, w, ek⟩ => ek.bk _ _ _ _ _ _ rs .refl w
  | _ => simp [chkS] at h
theorem soundS_cnt  {X : Cx} {W : WX} {st : Stmt} (S : SC C Γ nm cs k N sc X) (tk : Takes X W) (h : chkS N nm (cnam cs) sc .cnt st = true) : PS X st (tS C X.K W Γ (cval cs) .cnt) := by
  cases st with
  | Continue p => exact PS.imp ps_continue fun D σ H ⟨ω, β, ρ, U, env, h, R, rs, w, ek⟩ => ek.ct _ _ _ _ _ _ rs .refl w
  | _ => simp [chkS] at h
theorem soundS_pas  {X : Cx} {W : WX} {st : Stmt} (S : SC C Γ nm cs k N sc X) (tk : Takes X W) (h : chkS N nm (cnam cs) sc .pas st = true) : PS X st (tS C X.K W Γ (cval cs) .pas) := by
  cases st with
  | Pass p => exact PS.imp ps_pass fun D σ H ⟨ω, β, ρ, U, env, h, R, rs, w, ek⟩ => ek.nx _ _ _ _ _ _ rs .refl w
  | Expr v p =>
    cases v with
    | Constant c kk pc =>
      cases c with
      | str z => exact PS.imp ps_doc fun D σ H ⟨ω, β, ρ, U, env, h, R, rs, w, ek⟩ => ek.nx _ _ _ _ _ _ rs .refl w
      | _ => simp [chkS] at h
    | _ => simp [chkS] at h
  | _ => simp [chkS] at h
theorem soundS_asgD1 (i : Nat) (kk : CE) (e : CE) {X : Cx} {W : WX} {st : Stmt} (S : SC C Γ nm cs k N sc X) (tk : Takes X W) (h : chkS N nm (cnam cs) sc (.asgD1 i kk e) st = true) : PS X st (tS C X.K W Γ (cval cs) (.asgD1 i kk e)) := by
  cases st with
  | Assign tgs v pos =>
    match tgs, h with
    | [], h => simp [chkS] at h
    | _ :: _ :: _, h => simp [chkS] at h
    | [tg], h =>
    cases v with
    | Dict ks vs pd =>
      match ks, vs, h with
      | [some x], [y], h =>
        simp only [chkS, Bool.and_eq_true] at h
        obtain ⟨⟨hg, hk⟩, he⟩ := h
        have pg := soundG S.cc.hN S.cc.nd (hT_body S.hs S.fn) S.cc.calm hg
        have htn : ∃ y py, tg = .Name y py := by cases tg <;> first | exact ⟨_, _, rfl⟩ | (simp [chkG] at hg; done)
        obtain ⟨yn, py, rfl⟩ := htn
        have pk := soundE kk S.cc S.hs tk hk
        have pe := soundE e S.cc S.hs tk he
        refine PS.imp (ps_asg (pe_disp1T (by have := S.cc.room.un; omega) pk pe) pg (sole_no rfl) (stores_no (fun _ _ _ _ _ _ z => (by cases z)) fun _ _ z => (by cases z)) (each_one rfl)) fun D σ H ⟨ω, β, ρ, U, env, h, R, rs, w, ek⟩ p hp => ?_
        have nf := rs.hr.fresh hp
        obtain ⟨hr0, g0⟩ := rs.hr.adopt hp (.dT [])
        have rs0 := rs.more hp (.dT [])
        have s0 : SStp ω H ρ U (upd H p (.dT [])) ρ (p :: U) := ⟨g0, fun a ha => upd_ne fun z => nf (.inl (z ▸ ha))⟩
        have ek0 := ek.step s0
        refine ⟨ω, β, ρ, p :: U, env, h, _, _, rs0, w, fun d vx h1 ρ1 H1 rs1 g1 rv1 w1 => ⟨ω, β, ρ1, p :: U, env, h1, _, _, rs1, w1, fun d2 vy h2 ρ2 H2 rs2 g2 rv2 w2 => ?_, upX g1 ek0.exE⟩, ek0.exE⟩
        obtain ⟨u, z, kl, rfl, rfl, eu, w2⟩ := w2
        have mp : p ∈ p :: U := List.mem_cons_self ..
        have e2 : H2 p = some (.dT []) := ((g1.trans g2).own p (.inr mp)).trans upd_same
        have ru := RD.grow g2.gr rv1
        cases ru with
        | tup st rt =>
          have ev := rt.keysOf (ks := kl) (by simpa [G.D.keys] using eu)
          subst ev
          obtain ⟨hr3, g3⟩ := rs2.hr.write (h := h2) mp (.dT [(kl, vy)])
          have own : ∀ a, a ∈ ω ∨ a ∈ U → upd H2 p (.dT [(kl, vy)]) a = H a := fun a ha => by
            have na : a ≠ p := fun q => nf (by subst q; exact ha.elim .inl fun q => .inr (.inr q))
            rw [upd_ne na, (g1.trans g2).own a (ha.elim .inl fun q => .inr (List.mem_cons_of_mem _ q)), upd_ne na]
          have gg := (g0.trans (g1.trans g2).gr).trans g3
          have rs4 := rs.setOwn hr3 gg own (fun a ha => List.mem_cons_of_mem _ ha) i (o := .dT [(kl, z)]) mp (fun q => nf (.inr (.inr q))) ⟨_, upd_same, .cons ⟨rfl, RD.grow g3 rv2⟩ .nil⟩
          exact ⟨e2, _, kl, rfl, st, ek.nx _ _ _ _ _ _ rs4 ⟨gg, fun a ha => own a (.inl ha)⟩ w2⟩
        | _ => simp [G.D.keys] at eu
      | [], _, h => simp [chkS] at h
      | [none], _, h => simp [chkS] at h
      | _ :: _ :: _, _, h => simp [chkS] at h
      | [some _], [], h => simp [chkS] at h
      | [some _], _ :: _ :: _, h => simp [chkS] at h
    | _ => simp [chkS] at h
  | _ => simp [chkS] at h
theorem soundS_setixE (o : CE) (kk : CE) (e : CE) {X : Cx} {W : WX} {st : Stmt} (S : SC C Γ nm cs k N sc X) (tk : Takes X W) (h : chkS N nm (cnam cs) sc (.setixE o kk e) st = true) : PS X st (tS C X.K W Γ (cval cs) (.setixE o kk e)) := by
  cases st with
  | Assign tgs v pos =>
    match tgs, h with
    | [tg], h =>
      cases tg with
      | Subscript xo y ps =>
          simp only [chkS, Bool.and_eq_true, Bool.not_eq_true'] at h
          obtain ⟨⟨⟨ho, hk⟩, he⟩, hv⟩ := h
          have po := soundE o S.cc S.hs tk ho
          have pk := soundE kk S.cc S.hs tk hk
          have pe := soundE e S.cc S.hs tk he
          have pl := (plainE hk).slice
          have pg : PG X (.Subscript xo y ps) _ := pg_sub po pk (PSet.or set_list (set_dict (by have := S.cc.room.un; omega))) (fun v => by cases y <;> first | rfl | exact absurd rfl (pl _ _ _ _))
          refine PS.imp (ps_asg pe pg (sole_no hv) (stores_no (fun _ _ _ _ _ _ z => (by cases z)) fun _ _ z => (by cases z)) (each_one rfl)) fun D σ H ⟨ω, β, ρ, U, env, h, R, rs, w, ek⟩ => ?_
          refine ⟨ω, β, ρ, U, env, h, _, _, rs, w, fun d v h1 ρ1 H1 rs1 g1 rv1 w1 => ?_, ek.exE⟩
          refine ⟨ω, β, ρ1, U, env, h1, _, _, rs1, w1, fun xo vo h2 ρ2 H2 rs2 g2 rv2 w2 => ?_, upX g1 ek.exE⟩
          refine ⟨ω, β, ρ2, U, env, h2, _, _, rs2, w2, fun u vu h3 ρ3 H3 rs3 g3 rv3 w3 => ?_, upX (g1.trans g2) ek.exE⟩
          obtain ⟨x, n, ob, y, rfl, rfl, eo, rfl, w3⟩ := w3
          have rx := RD.grow g3.gr (RD.grow g2.gr rv1)
          have ro := RD.grow g3.gr rv2
          have gg := (g1.trans g2).trans g3
          cases ro with
          | ref hn =>
          obtain ⟨a, ea, ro⟩ := rs3.hr.hp n ob eo
          rw [hn] at ea
          cases ea
          rcases w3 with ⟨xs, z, j, rfl, rfl, ej, w3⟩ | ⟨o', ep, w3⟩
          · obtain ⟨vs, h4, h5⟩ := ro
            cases rv3
            obtain ⟨a1, a2⟩ := rs3.hr.mutL hn (h5.set rx j)
            exact .inl ⟨_, vs, z, j, rfl, rfl, h4, ixN_set h5 ej, ek.nx _ _ _ _ _ _ (rs3.step a1 a2) (gg.trans a2).s w3⟩
          · obtain ⟨un, dp, mu, rg⟩ := put_ok ro ep rv3 rx
            obtain ⟨a1, a2⟩ := rs3.hr.mut hn mu (o := o') rg
            exact .inr ⟨_, _, rfl, dp, ek.nx _ _ _ _ _ _ (rs3.step a1 a2) (gg.trans a2).s w3⟩
      | _ => simp [chkS] at h
    | [], h => simp [chkS] at h
    | _ :: _ :: _, h => simp [chkS] at h
  | _ => simp [chkS] at h
theorem soundS_setf (k0 : Nat) (o : CE) (f : Str) (e : CE) {X : Cx} {W : WX} {st : Stmt} (S : SC C Γ nm cs k N sc X) (tk : Takes X W) (h : chkS N nm (cnam cs) sc (.setf k0 o f e) st = true) : PS X st (tS C X.K W Γ (cval cs) (.setf k0 o f e)) := by
  cases st with
  | Assign tgs v pos =>
    match tgs, h with
    | [tg], h =>
      cases tg with
      | Attribute ob m ps =>
          simp only [chkS, Bool.and_eq_true, Bool.not_eq_true', decide_eq_true_eq] at h
          obtain ⟨⟨⟨⟨⟨rfl, hf⟩, hk⟩, ho⟩, he⟩, hv⟩ := h
          have po := soundE o S.cc S.hs tk ho
          have pe := soundE e S.cc S.hs tk he
          refine PS.imp (ps_fld po pe (swaps_no hv)) fun D σ H ⟨ω, β, ρ, U, env, h, R, rs, w, ek⟩ => ?_
          refine ⟨ω, β, ρ, U, env, h, _, _, rs, w, fun d v h1 ρ1 H1 rs1 g1 rv1 w1 => ?_, ek.exE⟩
          refine ⟨ω, β, ρ1, U, env, h1, _, _, rs1, w1, fun xo vo h2 ρ2 H2 rs2 g2 rv2 w2 => ?_, upX g1 ek.exE⟩
          obtain ⟨x, n, c, fs, rfl, rfl, eo, hc, hl, w2⟩ := w2
          obtain ⟨a, dx, ws, rfl, hn, ha, rk⟩ := ins_ok rs2.hr rv2 eo
          have cl := S.cc.cls c (by omega)
          have rx := RD.grow g2.gr rv1
          obtain ⟨a1, a2⟩ := rs2.hr.mut hn (u := .ins (C c) dx (L2.putF m v ws)) ⟨fun _ z => (by cases z), fun _ _ z => (by cases z)⟩ (o := .ins c (putFD m x fs)) fun g => ⟨dx, _, upd_same, (RK.putF rx rk).grow g⟩
          exact ⟨a, C c, dx, ws, rfl, ha, cl.1, cl.2 m (by simpa using hf), by rw [← rk.len]; exact hl, ek.nx _ _ _ _ _ _ (rs2.step a1 a2) ((g1.trans g2).trans a2).s w2⟩
      | _ => simp [chkS] at h
    | [], h => simp [chkS] at h
    | _ :: _ :: _, h => simp [chkS] at h
  | _ => simp [chkS] at h
theorem soundS_raise (c : Nat) {X : Cx} {W : WX} {st : Stmt} (S : SC C Γ nm cs k N sc X) (tk : Takes X W) (h : chkS N nm (cnam cs) sc (.raise c) st = true) : PS X st (tS C X.K W Γ (cval cs) (.raise c)) := by
  cases st with
  | Raise e from_ pos =>
    match e, from_, h with
    | some (.Call (.Name x px) [.Constant (.str m) j p2] [] p), none, h =>
      simp only [chkS, Bool.and_eq_true, decide_eq_true_eq] at h
      obtain ⟨g1, g2⟩ := glB_ok S.hs h.1
      obtain ⟨m1, m2, m3, m4⟩ := S.cc.exn c x h.2
      refine PS.imp (ps_raise S.cc.calm tk (pmk_own PySem.F.excBase_ValueError m2 m1 m3 m4 g1 g2)) fun D σ H ⟨ω, β, ρ, U, env, h, R, rs, w, ek⟩ => ?_
      exact ek.ex ⟨c, []⟩ _ none _ _ _ _ _ _ rs .refl ⟨rfl, .inl ⟨rfl, rfl⟩⟩ w
  | _ => simp [chkS] at h
mutual
theorem soundS : ∀ (c : CS) {X : Cx} {W : WX} {st : Stmt}, SC C Γ nm cs k N sc X → Takes X W → chkS N nm (cnam cs) sc c st = true → PS X st (tS C X.K W Γ (cval cs) c)
  | .asg g e, X, W, st, S, tk, h => soundS_asg g e S tk h
  | .asgO i l, X, W, st, S, tk, h => soundS_asgO i l S tk h
  | .asgD i, X, W, st, S, tk, h => soundS_asgD i S tk h
  | .asgC i f es, X, W, st, S, tk, h => soundS_asgC i f es S tk h
  | .aug i o e, X, W, st, S, tk, h => soundS_aug i o e S tk h
  | .setix i kk e, X, W, st, S, tk, h => soundS_setix i kk e S tk h
  | .app i e, X, W, st, S, tk, h => soundS_app i e S tk h
  | .ext i l, X, W, st, S, tk, h => soundS_ext i l S tk h
  | .extV i j, X, W, st, S, tk, h => soundS_extV i j S tk h
  | .clr i, X, W, st, S, tk, h => soundS_clr i S tk h
  | .exp e, X, W, st, S, tk, h => soundS_exp e S tk h
  | .ret e, X, W, st, S, tk, h => soundS_ret e S tk h
  | .retM i, X, W, st, S, tk, h => soundS_retM i S tk h
  | .retN, X, W, st, S, tk, h => soundS_retN S tk h
  | .retL l, X, W, st, S, tk, h => soundS_retL l S tk h
  | .exte i e, X, W, st, S, tk, h => soundS_exte i e S tk h
  | .ite t a b, X, W, st, S, tk, h => by
    cases st with
    | If c x y pos =>
      simp only [chkS, Bool.and_eq_true] at h
      obtain ⟨⟨ht, ha⟩, hb⟩ := h
      have pt := (soundT t S.cc S.hs tk ht).1
      have pa := soundSs a S tk ha
      have pb := soundSs b S tk hb
      refine PS.imp (ps_if pt pa pb) fun D σ H ⟨ω, β, ρ, U, env, h, R, rs, w, ek⟩ => ?_
      exact ⟨ω, β, ρ, U, env, h, _, _, rs, w, fun d v h1 ρ1 H1 rs1 g1 ev w1 => by
        subst ev
        by_cases hk : d = true
        · rw [if_pos hk] at w1 ⊢
          exact ⟨ω, β, ρ1, U, env, h1, R, rs1, w1, ek.step g1.s⟩
        · rw [if_neg hk] at w1 ⊢
          exact ⟨ω, β, ρ1, U, env, h1, R, rs1, w1, ek.step g1.s⟩, ek.exE⟩
    | _ => simp [chkS] at h
  | .whl t a, X, W, st, S, tk, h => by
    cases st with
    | While c x els pos =>
      cases els with
      | cons _ _ => simp [chkS] at h
      | nil =>
      simp only [chkS, Bool.and_eq_true] at h
      have pt := (soundT t S.cc S.hs tk h.1).1
      have pa := soundSs a S tk h.2
      refine PS.imp (ps_while S.po pt pa) fun D σ H ⟨ω, β, ρ, U, env, h, R, rs, ⟨Wv, ⟨m0, w0⟩, turn⟩, ek⟩ => ?_
      refine ⟨fun m σ' H' => ∃ env' h' ρ' U', RS C X.K β ω ρ' U' env' h' σ' H' ∧ SStp ω H ρ U H' ρ' U' ∧ Wv m env' h', ⟨m0, env, h, ρ, U, rs, .refl, w0⟩, ?_⟩
      rintro m σ1 H1 ⟨env1, h1, ρ1, U1, rs1, g1, w1⟩
      have ek1 := ek.step g1
      refine ⟨ω, β, ρ1, U1, env1, h1, _, _, rs1, turn m env1 h1 w1, fun d v h2 ρ2 H2 rs2 g2 ev w2 => ?_, ek1.exE⟩
      subst ev
      by_cases hk : d = true
      · rw [if_pos hk] at w2 ⊢
        refine ⟨fun σ' H' => ∃ m', m' < m ∧ ∃ env' h' ρ' U', RS C X.K β ω ρ' U' env' h' σ' H' ∧ SStp ω H ρ U H' ρ' U' ∧ Wv m' env' h', fun _ _ z => z, ω, β, ρ2, U1, env1, h2, _, rs2, w2, ?_⟩
        have ek2 := ek1.step g2.s
        have gg := g1.trans g2.s
        exact ⟨fun env' h' ρ' U' σ' H' rs' st' ⟨m', hm, q⟩ => ⟨m', hm, env', h', ρ', U', rs', gg.trans st', q⟩, ek2.nx, fun env' h' ρ' U' σ' H' rs' st' ⟨m', hm, q⟩ => ⟨m', hm, env', h', ρ', U', rs', gg.trans st', q⟩, ek2.rt, ek2.ex⟩
      · rw [if_neg hk] at w2 ⊢
        exact ek1.nx _ _ _ _ _ _ rs2 g2.s w2
    | _ => simp [chkS] at h
  | .for g it a, X, W, st, S, tk, h => by
    cases st with
    | For tg iter x els pos =>
      cases els with
      | cons _ _ => simp [chkS] at h
      | nil =>
      simp only [chkS, Bool.and_eq_true] at h
      obtain ⟨⟨hg, hi⟩, ha⟩ := h
      exact for_ok S tk hg hi (soundSs a S tk ha)
    | _ => simp [chkS] at h
  | .asgV i j, X, W, st, S, tk, h => soundS_asgV i j S tk h
  | .forO g i a, X, W, st, S, tk, h => by
    cases st with
    | For tg iter x els pos =>
      cases els with
      | cons _ _ => simp [chkS] at h
      | nil =>
      simp only [chkS, Bool.and_eq_true] at h
      obtain ⟨⟨hg, hi⟩, ha⟩ := h
      refine PS.imp (for_ok S tk hg hi (soundSs a S tk ha)) fun D σ H ⟨ω, β, ρ, U, env, h, R, rs, ⟨xs, eo, w⟩, ek⟩ => ?_
      obtain ⟨b, es, hb, _⟩ := varDget rs eo
      have hi' : i < env.length := (List.getElem?_eq_some_iff.mp eo).1
      exact ⟨b :: ω, _, ρ, U.filter (· ≠ b), env.set i (some (.bor (.lst xs))), h, borR i (.lst xs) R, rs.lend eo es hb, ⟨.bor (.lst xs), List.getElem?_set_self hi', .inr (fun o z => by cases z), xs, rfl, w⟩, ek.lend hb (rs.hr.du b hb)⟩
    | _ => simp [chkS] at h
  | .brk, X, W, st, S, tk, h => soundS_brk S tk h
  | .cnt, X, W, st, S, tk, h => soundS_cnt S tk h
  | .pas, X, W, st, S, tk, h => soundS_pas S tk h
  | .frz i, X, W, st, S, tk, h => by simp [chkS] at h
  | .asg2 _ _ _ _, X, W, st, S, tk, h => by simp [chkS] at h
  | .asgD1 i kk e, X, W, st, S, tk, h => soundS_asgD1 i kk e S tk h
  | .setixE o kk e, X, W, st, S, tk, h => soundS_setixE o kk e S tk h
  | .setf k0 o f e, X, W, st, S, tk, h => soundS_setf k0 o f e S tk h
  | .tryX kk l x n a s, X, W, st, S, tk, h => by
    cases st with
    | Try body hds orelse fin pos =>
      match hds, orelse, fin, h with
      | [.ExceptHandler (some (.Name y py)) z (s0 :: sr) ph], [], [], h =>
        simp only [chkS, Bool.and_eq_true, decide_eq_true_eq] at h
        obtain ⟨⟨⟨⟨⟨⟨hg, rfl⟩, hxl⟩, hk⟩, hn⟩, he⟩, ha⟩ := h
        obtain ⟨cv0, cv, pe0, hu, hN, hl⟩ := xl_pe (Y := X) (p := py) S.cc S.hs rfl hg hxl
        have pb : ∀ (W : WX) (pn : List (Addr × Obj)) (xe : Value → Shared → Prop), Takes (X.tr pn xe) W → PassesOwn (model X.prog X.w) X.A X.env xe → PSs (X.tr pn xe) body (tSs C X.K W Γ (cval cs) a) := fun W pn xe tk' po => soundSs a (S.tr pn xe po) tk' ha
        have su : ∀ (a0 : Addr) (oe : Obj) (cls : Value) (d : Option Addr) (pn : List (Addr × Obj)), Zc cls d oe → (∃ vs, oe.data = .fields vs) → PSs (X.suite a0 ((a0, oe) :: pn)) (s0 :: sr) (fun D σ H => ∃ c, (c < nm.nx ∧ cls = .ref (C (c + 1000)) ∧ d = none) ∧ ehT n s c a0 D σ H) :=
          fun a0 oe cls d pn hz hf => PSs.ex fun c ⟨h1, h2, h3⟩ => by subst h2; subst h3; exact eh_ok S h1 hz hf he
        have fin : ∀ {ω : List Addr} {H' : Hp} {ρ' U' : List Addr} {x : EX} {dd : Option Addr}, RX C X.K ω ρ' U' H' x (.ref (C (x.c + 1000))) dd → x.fs = [] → dd = none := fun rx f0 => by
          rcases rx.2 with r | r
          · exact r.2
          · exact absurd f0 r.1
        cases n with
        | none =>
          cases z with
          | some _ => simp [chkXN] at hn
          | none =>
          refine PS.imp (ps_try_only S.st S.fr hN tk pb su) fun D σ H ⟨ω, β, ρ, U, env, h, R, rs, w, ek⟩ => ?_
          refine ⟨ω, β, ρ, U, env, h, _, rs, w, ek.body fun x env' h' ρ' U' σ' H' hk' rs' st' h1 h2 dd rx => ?_⟩
          refine ⟨l.contains x.c, (hl x.c (by omega)).1, fun hc a0 na => ?_, fun hc => h2 dd rx hc⟩
          obtain ⟨f0, q⟩ := h1 hc
          exact ⟨x.c, ⟨by omega, rfl, fin rx f0⟩, eh_end ek rs' st' (eh_ne he) q a0⟩
        | some i =>
          cases z with
          | none => simp [chkXN] at hn
          | some z =>
          simp only [chkXN, Bool.and_eq_true] at hn
          refine PS.imp (ps_try_as (i := i) S.st S.fr S.cc.nd (by rw [S.cc.hN]; exact nameAt_ok hn.1) (by show X.env.scope.names.lookup z = _; rw [S.hs]; exact loc1B_ok hn.2) hN tk pb su) fun D σ H ⟨ω, β, ρ, U, env, h, R, rs, w, ek⟩ => ?_
          refine ⟨ω, β, ρ, U, env, h, _, rs, w, ek.body fun x env' h' ρ' U' σ' H' hk' rs' st' h1 h2 dd rx => ?_⟩
          refine ⟨l.contains x.c, (hl x.c (by omega)).1, fun hc a0 na => ?_, fun hc => h2 dd rx hc⟩
          obtain ⟨f0, q⟩ := h1 hc
          exact ⟨x.c, ⟨by omega, rfl, fin rx f0⟩, eh_end ek rs' st' (eh_ne he) q a0⟩
    | _ => simp [chkS] at h
  | .raise c, X, W, st, S, tk, h => soundS_raise c S tk h
termination_by c => sizeOf c
theorem soundSs : ∀ (c : CSs) {X : Cx} {W : WX} {sts : List Stmt}, SC C Γ nm cs k N sc X → Takes X W → chkSs N nm (cnam cs) sc c sts = true → PSs X sts (tSs C X.K W Γ (cval cs) c)
  | .nil, X, W, sts, S, tk, h => by
    cases sts with
    | cons _ _ => simp [chkSs] at h
    | nil => exact PSs.imp pss_nil fun D σ H ⟨ω, β, ρ, U, env, h, R, rs, w, ek⟩ => ek.nx _ _ _ _ _ _ rs .refl w
  | .cons a r, X, W, sts, S, tk, h => by
    by_cases hf : ∃ i, a = .frz i
    · obtain ⟨i, rfl⟩ := hf
      have pr := soundSs r S tk (sts := sts) (by simpa [chkSs] using h)
      refine PSs.imp pr fun D σ H ⟨ω, β, ρ, U, env, h, R, rs, ⟨xs, ex, w⟩, ek⟩ => ?_
      obtain ⟨U', _, rs', g'⟩ := rs.freeze ex
      exact ⟨ω, β, ρ, U', _, h, R, rs', w, ek.step g'⟩
    · cases sts with
      | nil => cases a <;> first | (simp [chkSs] at h; done) | exact absurd ⟨_, rfl⟩ hf
      | cons st rest =>
        have h' : chkS N nm (cnam cs) sc a st = true ∧ chkSs N nm (cnam cs) sc r rest = true := by
          cases a <;> first | (simpa [chkSs] using h; done) | exact absurd ⟨_, rfl⟩ hf
        have pa := soundS a S tk h'.1
        have pr := soundSs r S tk h'.2
        refine PSs.imp (pss_cons pa pr) fun D σ H ⟨ω, β, ρ, U, env, h, R, rs, w, ek⟩ => ?_
        exact ⟨ω, β, ρ, U, env, h, _, rs, w, ⟨fun env' h' ρ' U' σ' H' rs' st' q => ⟨ω, β, ρ', U', env', h', R, rs', q, ek.step st'⟩, ek.bk, ek.ct, ek.rt, ek.ex⟩⟩
termination_by c => sizeOf c
decreasing_by all_goals (simp_wf <;> omega)
end
end
end G

set_option maxHeartbeats 4000000
/-! Core13: defs at their levels; a law's end. -/
namespace G
open PySem PySem.Spec PyProof.Rows L2

def clsBody (s : Stmt) : List Stmt := match s with
  | .ClassDef _ _ _ b _ _ _ _ _ _ _ => b
  | _ => []
/-- a def: where it stands, its row, its names by slot, its parameters, its text in the core; a method: its class's number, its name -/
structure DI where
  d : He.DefD
  x : Str
  N : List Str
  ps : List Str
  fd : FD
  mc : Option (Nat × Str) := none
/-- a module: its defs and methods; its classes, with where their __init__ stands in the table; its exceptions' classes; what isinstance and except may name (a built-in's type), with the exceptions below it; the fields of instances -/
structure Tabs where
  tbl : List DI
  cls : List (Str × Nat) := []
  xns : List Str := []
  xl : List (Str × Option String × List Nat) := []
  fl : List Str := []
def Tabs.nt (t : Tabs) : NT where
  fn := fun f => (t.tbl[f]?).bind fun y => match y.mc with
    | none => some y.x
    | some _ => none
  xn := fun c => t.xns[c]?
  nx := t.xns.length
  xl := t.xl.map fun q => (q.1, q.2.2)
  cl := fun c => t.cls[c]?
  nc := t.cls.length
  fl := t.fl
  mt := fun f => (t.tbl[f]?).bind DI.mc
def scopeB (N ps : List Str) (sc : Scope) : Bool := (match sc.kind with
  | .function => true
  | _ => false) && !sc.isCoroutine && !sc.isGenerator && decide N.Nodup && decide (N.take ps.length = ps) && (ps.all fun x => locB sc x) && (sc.names.all fun y => match y.2 with
  | .free => false
  | _ => true)
theorem scopeB_ok {N ps : List Str} {sc : Scope} (h : scopeB N ps sc = true) : FnScope N ps sc := by
  unfold scopeB at h
  simp only [Bool.and_eq_true, Bool.not_eq_true', decide_eq_true_eq, List.all_eq_true] at h
  obtain ⟨⟨⟨⟨⟨⟨h1, h2⟩, h3⟩, h4⟩, h5⟩, h6⟩, h7⟩ := h
  refine ⟨?_, h2, h3, h4, h5, fun x hx => locB_ok (h6 x hx), fun y hy e => ?_⟩
  · split at h1
    · assumption
    · cases h1
  · have := h7 y hy
    rw [e] at this
    cases this
def diB (t : Tabs) (cn : Nat → Option Str) (y : DI) : Bool := scopeB y.N y.ps y.d.scope && chkSs y.N t.nt cn y.d.scope y.fd.body y.d.body && decide (y.fd.np = y.ps.length) && decide (y.fd.ns = y.N.length) && (match y.mc with
  | none => decide (y.d.at_ = (y.x, none))
  | some (c, m) => (match t.cls[c]? with
    | some q => decide (y.d.at_ = (q.1, some m))
    | none => false)) && y.d.dfl.isEmpty && y.d.kwd.isEmpty
/-- how a def without defaults binds -/
def BindN (y : DI) : Prop := ∀ (kV doc pm : Value) (an : Option Addr) (cdv ct : Value) (us : List Value), us.length = y.ps.length → bindArgs (PySem.W.fnOf y.d.name y.d.qual y.d.params y.d.body y.d.scope .none kV doc pm an cdv ct) ⟨us, []⟩ = pure (y.ps.zip us)

section
variable {C : Nat → Addr} {P : Program} {w : World} {K : PySem.W.Frag} {mg : Str → Option Value} {base : Heap}
theorem start_rs {ω ρ : List Addr} {h : AH} {H : Hp} {as : List VV} {vs : List V} {fd : FD} {N : List Str} (hr : HR C K ω ρ [] h H) (rv : RVs C K ω ρ [] H as vs) (hl : vs.length ≤ N.length) (hn : fd.ns = N.length) :
    RS C K (fun i => match as[i]?, vs[i]? with
      | some (.bw _), some (.ref a) => some a
      | _, _ => none) ω ρ [] (startE fd as) h (start N vs) H := by
  have el : as.length = vs.length := Paired.length rv
  have get : ∀ {as : List VV} {vs : List V} {i : Nat} {a : VV}, RVs C K ω ρ [] H as vs → as[i]? = some a → ∃ v, vs[i]? = some v ∧ RV C K ω ρ [] H a v := by
    intro as vs i a r
    induction r generalizing i with
    | nil => intro e; simp at e
    | cons r t ih =>
      cases i with
      | zero => intro e; simp at e; subst e; exact ⟨_, rfl, r⟩
      | succ i => intro e; obtain ⟨v, h1, h2⟩ := ih (i := i) (by simpa using e); exact ⟨v, by simpa using h1, h2⟩
  have key : ∀ (i : Nat) (s : Sl), (startE fd as)[i]? = some (some s) → ∃ a v, as[i]? = some a ∧ vs[i]? = some v ∧ argSl a = some s ∧ RV C K ω ρ [] H a v ∧ (start N vs)[i]? = some (some v) := fun i s e => by
    unfold startE at e
    by_cases hi : i < as.length
    · rw [List.getElem?_append_left (by simpa using hi), List.getElem?_map] at e
      cases ea : as[i]? with
      | none => rw [ea] at e; cases e
      | some a =>
        rw [ea] at e
        obtain ⟨v, ev, r⟩ := get rv ea
        refine ⟨a, v, rfl, ev, by simpa using e, r, ?_⟩
        unfold L2.start
        rw [List.getElem?_append_left (by simpa using el ▸ hi), List.getElem?_map, ev]
        rfl
    · rw [List.getElem?_append_right (by simpa using hi), List.getElem?_replicate] at e
      split at e <;> cases e
  have noTw : ∀ (o : AO) (v : V), ¬ RV C K ω ρ [] H (.tw o) v := fun o v ⟨a, _, z, _⟩ => by simp at z
  refine ⟨hr, ?_, fun i s e => ?_, fun i j o o' a e1 e2 _ _ => ?_, fun i o e => ?_⟩
  · unfold startE L2.start
    simp
    omega
  · obtain ⟨a, v, ea, ev, es, r, e3⟩ := key i s e
    refine ⟨v, e3, ?_⟩
    cases a with
    | d d => cases es; exact r
    | tw o => exact absurd r (noTw _ _)
    | bw o => cases es; exact r
  · obtain ⟨b, v, ea, ev, es, r, e3⟩ := key i _ e1
    cases b with
    | d d => cases es
    | tw o => cases es
    | bw o => cases es
  · obtain ⟨b, v, ea, ev, es, r, e3⟩ := key i _ e
    cases b with
    | d d => cases es
    | tw o => exact absurd r (noTw _ _)
    | bw o =>
      obtain ⟨a, rfl, _, _⟩ := r
      exact ⟨a, by rw [ea, ev], e3⟩
variable {T : Nat → Option FD} {nm : NT} {cs : Nat → Option (Str × D)}
/-- a def's body -/
theorem body_ok {k kk : Nat} {y : DI} {X : Cx} {W : WX} (S : SC C (wpF T (cval cs) k) nm cs kk y.N y.d.scope X) (tk : Takes X W) (hc : chkSs y.N nm (cnam cs) y.d.scope y.fd.body y.d.body = true) (hnp : y.fd.np = y.ps.length) (hns : y.fd.ns = y.N.length) (hps : y.ps.length ≤ y.N.length)
    {f : Nat} (hT : T f = some y.fd) {vs : List V} {H : Hp} {Q : VK} {E : XK} (hW : ∀ cls dd σ H, E cls dd H → W cls dd σ H) (sp : spI C X.K (wpF T (cval cs) (k + 1)) f vs H Q E) :
    ∃ t, PSs X y.d.body t ∧ t { nx := fun _ H' => Q .non H', rt := Q } (start y.N vs) H := by
  obtain ⟨ω, ρ, h, as, Q', X', hr, rv, g, hq, hx⟩ := sp
  rcases g with ⟨fd, eT, hlen, w⟩ | ⟨eT, _⟩
  case inr => rw [hT] at eT; cases eT
  rw [hT] at eT
  cases eT
  refine ⟨_, soundSs y.fd.body S tk hc, ω, _, ρ, [], _, h, _, start_rs (N := y.N) hr rv (by rw [← Paired.length rv, hlen, hnp]; exact hps) hns, w, ?_⟩
  exact ⟨fun env' h' ρ' U' σ' H' rs st q => hq (.d .non) .non h' ρ' U' H' rs.hr st RD.non q, fun _ _ _ _ _ _ _ _ z => z.elim, fun _ _ _ _ _ _ _ _ z => z.elim,
    fun r v h' ρ' U' H' hr st rr q => hq r v h' ρ' U' H' hr st rr q, fun x cls dd env' h' ρ' U' σ' H' rs st rx q => hW _ _ _ _ (hx x cls dd h' ρ' U' H' rs.hr st rx q)⟩
theorem sp_len {k f : Nat} {n : Nat} (hf : f < 1000) (hT : ∀ fd, T f = some fd → fd.np = n) {vs : List V} {H : Hp} {Q : VK} {E : XK} (sp : spI C K (wpF T (cval cs) k) f vs H Q E) : vs.length = n := by
  obtain ⟨ω, ρ, h, as, Q', X', hr, rv, g, hq, hx⟩ := sp
  cases k with
  | zero => exact g.elim
  | succ k =>
    rcases g with ⟨fd, eT, hlen, _⟩ | ⟨_, z, _⟩
    · rw [← Paired.length rv, hlen, hT fd eT]
    · omega
abbrev tT' (tbl : List DI) : Nat → Option FD := fun f => (tbl[f]?).map DI.fd
/-- where the classes stand -/
def Cof (K : PySem.W.Frag) (t : Tabs) : Nat → Addr := fun n => if n < 1000 then He.ga K (((t.cls[n]?).map (·.1)).getD ("" : Str)) else He.ga K ((t.xns[n - 1000]?).getD ("" : Str))
/-- what is known of the module -/
structure Mo (C : Nat → Addr) (P : Program) (w : World) (K : PySem.W.Frag) (mg : Str → Option Value) (cs : Nat → Option (Str × D)) (t : Tabs) : Prop where
  defs : ∀ y ∈ t.tbl, (∃ fd : FuncData, FunD K y.d.name y.d.qual y.d.params y.d.body y.d.scope [] [] (He.fAd K y.d.at_) fd) ∧ (y.mc = none → mg y.x = some (.ref (He.fAd K y.d.at_))) ∧ ∀ c m, y.mc = some (c, m) → Cls K (C c) ∧ Meth K (C c) m (He.fAd K y.d.at_)
  cst : ∀ j x d, cs j = some (x, d) → ∃ u v, mg x = some u ∧ RelV v u ∧ ∀ H ρ m, RD K H ρ m d v
  blt : ∀ x ∈ bltNames, mg x = none
  chk : ∀ y ∈ t.tbl, diB t (cnam cs) y = true
  bind : ∀ y ∈ t.tbl, BindN y
  small : t.tbl.length ≤ 1000
  exn : ∀ (c : Nat) (x : Str), t.xns[c]? = some x → mg x = some (.ref (C (c + 1000))) ∧ PySem.W.excIn K (C (c + 1000)) He.veBase "ValueError.__new__" = true ∧ PySem.W.keepIn K (.ref (C (c + 1000))) = true ∧ PySem.W.subIn K (.ref (C (c + 1000))) (.type "BaseException") = some true ∧
    PySem.W.typeIn K (.ref (C (c + 1000))) = some (.type "type")
  exc : ∀ c, c < t.xns.length → ExcC K (C (c + 1000))
  exl : ∀ x l, xlAt t.nt.xl x = some l → ∃ (cc : V) (cv : Value), ClsV cc cv ∧ RelV cc cv ∧ (mg x = some cv ∨ (mg x = none ∧ bootBuiltins x = some cv ∧ x ≠ "__name__")) ∧
    ∀ c, c < t.xns.length → PySem.W.exmOne K (.ref (C (c + 1000))) cv = some (l.contains c) ∧ PySem.W.kitOne K (.ref (C (c + 1000))) cv = some (l.contains c)
  cls : ∀ c, c < t.cls.length → Cls K (C c) ∧ ∀ f ∈ t.fl, NoAttr K (C c) f
  mks : ∀ (c : Nat) (x : Str) (f : Nat), t.cls[c]? = some (x, f) → mg x = some (.ref (C c)) ∧ ∃ y, t.tbl[f]? = some y ∧ Mk K (C c) (He.fAd K y.d.at_)
variable {t : Tabs}
theorem Mo.parts (M : Mo C P w K mg cs t) {y : DI} (hy : y ∈ t.tbl) : FnScope y.N y.ps y.d.scope ∧ chkSs y.N t.nt (cnam cs) y.d.scope y.fd.body y.d.body = true ∧ y.fd.np = y.ps.length ∧ y.fd.ns = y.N.length := by
  have h := M.chk y hy
  unfold diB at h
  simp only [Bool.and_eq_true, decide_eq_true_eq] at h
  obtain ⟨⟨⟨⟨⟨⟨b1, b2⟩, b3⟩, b4⟩, _⟩, _⟩, _⟩ := h
  exact ⟨scopeB_ok b1, b2, b3, b4⟩
theorem scope_ple {N ps : List Str} {sc : Scope} (S : FnScope N ps sc) : ps.length ≤ N.length := by
  have h := congrArg List.length S.pre
  rw [List.length_take] at h
  omega
/-- the defs of the table do what the core says, to the depth k -/
structure Lev (C : Nat → Addr) (P : Program) (w : World) (K : PySem.W.Frag) (mg : Str → Option Value) (base : Heap) (cs : Nat → Option (Str × D)) (t : Tabs) (k : Nat) : Prop where
  fns : ∀ (f : Nat) (y : DI), t.tbl[f]? = some y → ∃ fd, PySem.W.keepIn K (.ref (He.fAd K y.d.at_)) = true ∧ Binds K fd y.ps [] ∧ FnOk P w K mg base (L2.CX P w) (k + 1) (He.fAd K y.d.at_) fd y.ps (spI C K (wpF (tT' t.tbl) (cval cs) k) f)
  mks : ∀ (f : Nat) (y : DI), t.tbl[f]? = some y → ∃ fd, Binds K fd y.ps [] ∧ FnOk P w K mg base (L2.CX P w) k (He.fAd K y.d.at_) fd y.ps (spI C K (wpF (tT' t.tbl) (cval cs) k) (f + 1000))
theorem Mo.cc (M : Mo C P w K mg cs t) {k : Nat} {N : List Str} {X : Cx} (e1 : X.prog = P) (e2 : X.w = w) (e3 : X.K = K) (e4 : X.mg = mg) (e5 : X.base = base) (hN : X.N = N) (nd : N.Nodup) (calm : X.calm = true) (room : Room (k + 1) X.A)
    (L : Lev C P w K mg base cs t k) : CC C (wpF (tT' t.tbl) (cval cs) k) t.nt cs (k + 1) N X := by
  subst e1; subst e2; subst e3; subst e4; subst e5; subst hN
  refine ⟨rfl, calm, room, nd, fun f x e => ?_, M.cst, M.blt, fun c x e => ?_, M.exc, M.exl, M.cls, fun f c m e => ?_, fun c x f e => ?_, fun f x e => ?_⟩
  · cases ey : t.tbl[f]? with
    | none => simp [Tabs.nt, ey] at e
    | some y =>
      have hy : y ∈ t.tbl := List.mem_of_getElem? ey
      cases em : y.mc with
      | some q => simp [Tabs.nt, ey, em] at e
      | none =>
        have : y.x = x := by simpa [Tabs.nt, ey, em] using e
        subst this
        obtain ⟨fd, q2, q3, q4⟩ := L.fns f y ey
        exact ⟨_, fd, y.ps, (M.defs y hy).2.1 em, q2, q3, q4⟩
  · obtain ⟨a1, a2, a3, a4, a5⟩ := M.exn c x e
    exact ⟨a1, a2, a3, raises_own a4 a5⟩
  · cases ey : t.tbl[f]? with
    | none => simp [Tabs.nt, ey] at e
    | some y =>
      have hy : y ∈ t.tbl := List.mem_of_getElem? ey
      have em : y.mc = some (c, m) := by simpa [Tabs.nt, ey] using e
      obtain ⟨fd, q2, q3, q4⟩ := L.fns f y ey
      obtain ⟨b1, b2⟩ := (M.defs y hy).2.2 c m em
      exact ⟨_, fd, y.ps, b1, b2, q3, q4⟩
  · obtain ⟨a1, y, ey, a2⟩ := M.mks c x f e
    obtain ⟨fd, q3, q4⟩ := L.mks f y ey
    exact ⟨k, _, fd, y.ps, a1, a2, q3, q4, room⟩
  · cases ey : t.tbl[f]? with
    | none => simp [Tabs.nt, ey] at e
    | some y =>
      have hy : y ∈ t.tbl := List.mem_of_getElem? ey
      cases em : y.mc with
      | some q => simp [Tabs.nt, ey, em] at e
      | none =>
        have : y.x = x := by simpa [Tabs.nt, ey, em] using e
        subst this
        obtain ⟨fd, q3, q4⟩ := L.mks f y ey
        exact ⟨k, _, fd, y.ps, (M.defs y hy).2.1 em, q3, q4, room⟩
theorem fnOk_none {n : Nat} {fa : Addr} {fd : FuncData} {ps : List Str} {f : Nat} : FnOk P w K mg base (L2.CX P w) n fa fd ps (spI C K (wpF T (cval cs) 0) f) :=
  ⟨fun vs H Q E sp => by obtain ⟨_, _, _, _, _, _, _, _, g, _⟩ := sp; exact g.elim, fun A outer s H args us vs Q E _ _ _ _ sp => by obtain ⟨_, _, _, _, _, _, _, _, g, _⟩ := sp; exact g.elim⟩
theorem spI_down (M : Mo C P w K mg cs t) {k f : Nat} {vs : List V} {H : Hp} {Q : VK} {E : XK} (h : spI C K (wpF (tT' t.tbl) (cval cs) (k + 1)) (f + 1000) vs H Q E) : spI C K (wpF (tT' t.tbl) (cval cs) k) f vs H Q E := by
  obtain ⟨ω, ρ, hh, as, Q', X', hr, rv, g, hq, hx⟩ := h
  have hn : tT' t.tbl (f + 1000) = none := by
    have := M.small
    simp only [tT']
    rw [List.getElem?_eq_none (by omega)]; rfl
  rcases g with ⟨fd, e, _⟩ | ⟨_, _, g⟩
  · rw [hn] at e; cases e
  · rw [Nat.add_sub_cancel] at g
    exact ⟨ω, ρ, hh, as, Q', X', hr, rv, g, hq, hx⟩
theorem Mo.lev (M : Mo C P w K mg cs t) : ∀ k : Nat, Lev C P w K mg base cs t k := by
  intro k
  induction k with
  | zero =>
    refine ⟨fun f y e => ?_, fun f y e => ?_⟩
    · obtain ⟨⟨fd, F⟩, _⟩ := M.defs y (List.mem_of_getElem? e)
      exact ⟨fd, F.kp, F.bindsN (ps := y.ps) (M.bind y (List.mem_of_getElem? e)), fnOk_none⟩
    · obtain ⟨⟨fd, F⟩, _⟩ := M.defs y (List.mem_of_getElem? e)
      exact ⟨fd, F.bindsN (ps := y.ps) (M.bind y (List.mem_of_getElem? e)), fnOk_none⟩
  | succ k ih =>
    refine ⟨fun f y e => ?_, fun f y e => ?_⟩
    · have hy : y ∈ t.tbl := List.mem_of_getElem? e
      obtain ⟨⟨fd, F⟩, _⟩ := M.defs y hy
      obtain ⟨S, hc, hnp, hns⟩ := M.parts hy
      have eT : tT' t.tbl f = some y.fd := by simp [tT', e]
      have hs : f < 1000 := by have := M.small; have := (List.getElem?_eq_some_iff.mp e).1; omega
      refine ⟨fd, F.kp, F.bindsN (ps := y.ps) (M.bind y hy), F.ok S (fun vs H Q E sp => sp_len (n := y.ps.length) hs (fun fd e => by rw [eT] at e; cases e; exact hnp) sp) fun cdv A outer s H vs Q E hr sp => ?_⟩
      refine body_ok (W := fun cls dd _ H => E cls dd H) ⟨M.cc rfl rfl rfl rfl rfl rfl S.nd rfl hr ih, rfl, fun _ _ => rfl, passes_of rfl, S.kind, rfl, rfl⟩ (takes_of rfl rfl rfl rfl) hc hnp hns (scope_ple S) eT (fun _ _ _ _ z => z) sp
    · obtain ⟨fd, q2, q3, q4⟩ := ih.fns f y e
      exact ⟨fd, q3, ⟨fun vs H Q E sp => q4.len vs H Q E (spI_down M sp), fun A outer s H args us vs Q E h1 h2 h3 h4 sp => q4.run A outer s H args us vs Q E h1 h2 h3 h4 (spI_down M sp)⟩⟩
/-- the law's def: nothing leaves it -/
theorem Mo.law (M : Mo C P w K mg cs t) {k f : Nat} {y : DI} (e : t.tbl[f]? = some y) (hm : y.mc = none) : ∃ fd, mg y.x = some (.ref (He.fAd K y.d.at_)) ∧ (∀ (s : Shared) (us : List Value), us.length = y.ps.length → BindsTo s fd ⟨us, []⟩ (y.ps.zip us)) ∧
    ∀ base : Heap, FnOk P w K mg base CX0 (k + 2) (He.fAd K y.d.at_) fd y.ps (fun vs H Q _ => spI C K (wpF (tT' t.tbl) (cval cs) (k + 1)) f vs H Q fun _ _ _ => False) := by
  have hy : y ∈ t.tbl := List.mem_of_getElem? e
  obtain ⟨⟨fd, F⟩, hg, _⟩ := M.defs y hy
  obtain ⟨S, hc, hnp, hns⟩ := M.parts hy
  have eT : tT' t.tbl f = some y.fd := by simp [tT', e]
  have hs : f < 1000 := by have := M.small; have := (List.getElem?_eq_some_iff.mp e).1; omega
  refine ⟨fd, hg hm, FunD.bindsA (ps := y.ps) F (M.bind y hy), fun base => F.ok S (fun vs H Q E sp => sp_len (n := y.ps.length) hs (fun fd e => by rw [eT] at e; cases e; exact hnp) sp) fun cdv A outer s H vs Q E hr sp => ?_⟩
  exact body_ok (W := W0) ⟨M.cc rfl rfl rfl rfl rfl rfl S.nd rfl hr (M.lev (base := base) k), rfl, fun _ _ => rfl, passes_of rfl, S.kind, rfl, rfl⟩ takes0 hc hnp hns (scope_ple S) eT (fun _ _ _ _ z => z) sp
/-- what a law's proof gives -/
theorem spI_law {Γ : GM} {f : Nat} {ns : List Int} (h : Γ f [.d (.fz (ns.map .int))] [] (fun r _ => r = .d (.bl true)) fun _ _ => False) {H : Hp} {a : Addr} (hS : SqL K H a (ns.map V.int)) : spI C K Γ f [.ref a] H (fun v _ => v = .bl true) fun _ _ _ => False := by
  refine ⟨[], [], [], [.d (.fz (ns.map .int))], _, _, ⟨rfl, fun n o e => by simp at e, List.nodup_nil, fun a z => by simp at z, fun a z => by simp at z, fun a z => ?_⟩, .cons (RD.fz ?_ (RDs.of_ints ns)) .nil, h, fun r v h' ρ' U' H' _ _ rr q => ?_, fun _ _ _ _ _ _ _ _ _ _ z => z⟩
  · rcases z with z | z | z <;> simp at z
  · rcases hS with (hS | ⟨o, hS⟩) | hS
    · exact .inl ⟨hS, fun z => by rcases z with z | z | z <;> simp at z⟩
    · exact .inr (.inl ⟨o, hS⟩)
    · exact .inr (.inr hS)
  · subst q
    cases rr
    rfl
end

/-! ### the head's facts, by the tables -/
section
open He
/-- what isinstance asks of an exception's class -/
def excCB (K : PySem.W.Frag) (D : Addr) : Bool := eqO (PySem.W.findIn K (.ref D) "__getattribute__") (some (some (.builtin "BaseException.__getattribute__"))) && (eqO (PySem.W.findIn K (.ref D) "__getattr__") (some none) &&
  (decide (PySem.W.subIn K (.ref D) (.type "BaseException") = some true) && (PySem.W.hasDictIn K D && (eqO (PySem.W.findIn K (.ref D) "__class__") (some (some (.builtin "object.__class__"))) &&
  (eqO (PySem.W.specialIn K (.builtin "object.__class__") "__get__") (some (some (.builtin "getset_descriptor.__get__"))) && (decide (PySem.W.takesIn K (.builtin "object.__class__") = some true) && decide (PySem.W.mroIn K D (.type "object") = some true)))))))
theorem excCB_ok {K : PySem.W.Frag} {D : Addr} (h : excCB K D = true) : ExcC K D := by
  obtain ⟨h1, h⟩ := ba h
  obtain ⟨h2, h⟩ := ba h
  obtain ⟨h3, h⟩ := ba h
  obtain ⟨h4, h⟩ := ba h
  obtain ⟨h5, h⟩ := ba h
  obtain ⟨h6, h⟩ := ba h
  obtain ⟨h7, h8⟩ := ba h
  exact ⟨eqO_ok h1, eqO_ok h2, of_decide_eq_true h3, h4, eqO_ok h5, eqO_ok h6, of_decide_eq_true h7, of_decide_eq_true h8⟩
/-- a class that may be named: own, or a built-in's type -/
def cvOf (K : PySem.W.Frag) (q : Str × Option String × List Nat) : Value := match q.2.1 with
  | some T => .type T
  | none => .ref (ga K q.1)
def xlB (K : PySem.W.Frag) (t : Tabs) : Bool := t.xl.all fun q => ((List.range t.xns.length).all fun c => decide (PySem.W.exmOne K (.ref (Cof K t (c + 1000))) (cvOf K q) = some (q.2.2.contains c)) && decide (PySem.W.kitOne K (.ref (Cof K t (c + 1000))) (cvOf K q) = some (q.2.2.contains c))) &&
  (match q.2.1 with
  | some T => decide (bootBuiltins q.1 = some (.type T)) && decide (q.1 ≠ "__name__")
  | none => true)
def exB (t : Tabs) (K : PySem.W.Frag) : Bool := ((List.range t.xns.length).all fun c => excCB K (Cof K t (c + 1000))) && xlB K t
def csFa (q : Str × D) : Fa := match q.2 with
  | .int i => .int q.1 i
  | .str z => .str q.1 z
  | _ => .free "__no__"
def Tabs.fa (t : Tabs) (csl : List (Str × D)) : List Fa :=
  t.tbl.map (fun y => match y.mc with
    | none => .glo y.x
    | some (c, m) => .meth (((t.cls[c]?).map (·.1)).getD ("" : Str)) m) ++
  (bltNames.map .free ++ (t.cls.map (fun q => .glo q.1) ++ (t.cls.map (fun q => .cls q.1) ++ (t.cls.map (fun q => .mkr q.1) ++ (t.cls.flatMap (fun q => t.fl.map fun f => .noat q.1 f) ++
  (t.xns.map .glo ++ (t.xns.map .exc ++ (t.xl.map (fun q => match q.2.1 with
    | some _ => .free q.1
    | none => .glo q.1) ++ csl.map csFa))))))))
def csB (csl : List (Str × D)) : Bool := csl.all fun q => match q.2 with
  | .int _ => true
  | .str _ => true
  | _ => false
/-- the table is in order -/
def Tabs.okB (t : Tabs) (csl : List (Str × D)) : Bool := (t.tbl.all fun y => diB t (cnam fun j => csl[j]?) y) && (decide (t.tbl.length ≤ 1000) && (decide (t.cls.length ≤ 1000) && (csB csl && (t.cls.all fun q => match t.tbl[q.2]? with
  | some y => decide (y.d.at_ = (q.1, some ("__init__" : Str)))
  | none => false))))
theorem diB_at {t : Tabs} {cn : Nat → Option Str} {y : DI} (h : diB t cn y = true) : (y.mc = none → y.d.at_ = (y.x, none)) ∧ (∀ c m, y.mc = some (c, m) → ∃ q, t.cls[c]? = some q ∧ y.d.at_ = (q.1, some m)) ∧ y.d.dfl = [] ∧ y.d.kwd = [] := by
  unfold diB at h
  simp only [Bool.and_eq_true, List.isEmpty_iff] at h
  obtain ⟨⟨⟨_, h5⟩, h6⟩, h7⟩ := h
  refine ⟨fun e => ?_, fun c m e => ?_, h6, h7⟩
  · rw [e] at h5; exact of_decide_eq_true h5
  · rw [e] at h5
    simp only at h5
    split at h5
    · rename_i q eq
      exact ⟨q, eq, of_decide_eq_true h5⟩
    · cases h5
variable {P : Program} {w : World} {K : PySem.W.Frag} {mg : Str → Option Value} {fn : List DefD} {csl : List (Str × D)} {h : Heap}
theorem facts_of {fa : List Fa} (c : SaysD fa fn K) {f : Fa} (hf : f ∈ fa) : f.ok K = true := by
  obtain ⟨i, hi, e⟩ := List.mem_iff_getElem.mp hf
  exact c.fact i (by rw [List.getElem?_eq_getElem hi, e])
theorem mo_of {t : Tabs} (X : K.In h) (Gl : h.Ns mainGlobals mg) (c : SaysD (t.fa csl) (t.tbl.map DI.d) K) (ex : exB t K = true) (ok : t.okB csl = true) (bind : ∀ y ∈ t.tbl, BindN y) : Mo (Cof K t) P w K mg (fun j => csl[j]?) t := by
  obtain ⟨k1, ok⟩ := ba ok
  obtain ⟨k2, ok⟩ := ba ok
  obtain ⟨k3, ok⟩ := ba ok
  obtain ⟨k4, k5⟩ := ba ok
  obtain ⟨x1, x2⟩ := ba ex
  have small := of_decide_eq_true k2
  have smallc := of_decide_eq_true k3
  have F := fun {f : Fa} (hf : f ∈ t.fa csl) => facts_of c hf
  have cC : ∀ (n : Nat) (q : Str × Nat), t.cls[n]? = some q → Cof K t n = ga K q.1 := fun n q e => by
    have := (List.getElem?_eq_some_iff.mp e).1
    unfold Cof
    rw [if_pos (by omega), e]; rfl
  have cX : ∀ (n : Nat) (x : Str), t.xns[n]? = some x → Cof K t (n + 1000) = ga K x := fun n x e => by
    unfold Cof
    rw [if_neg (by omega), Nat.add_sub_cancel, e]; rfl
  have inA : ∀ {y : DI}, y ∈ t.tbl → (match y.mc with
      | none => Fa.glo y.x
      | some (c, m) => .meth (((t.cls[c]?).map (·.1)).getD ("" : Str)) m) ∈ t.fa csl := fun hy => List.mem_append_left _ (List.mem_map.mpr ⟨_, hy, rfl⟩)
  refine ⟨fun y hy => ?_, fun j x d e => ?_, fun x hx => ?_, fun y hy => List.all_eq_true.mp k1 y hy, bind, small, fun n x e => ?_, fun n hn => ?_, fun x l e => ?_, fun n hn => ?_, fun n x f e => ?_⟩
  · obtain ⟨a1, a2, a3, a4⟩ := diB_at (List.all_eq_true.mp k1 y hy)
    obtain ⟨i, hi, ei⟩ := List.mem_iff_getElem.mp hy
    have e2 : (t.tbl.map DI.d)[i]? = some y.d := by rw [List.getElem?_map, List.getElem?_eq_getElem hi, ei]; rfl
    obtain ⟨fd, Fd⟩ := c.def_ i e2
    have d1 : y.d.dvs K = [] := by unfold DefD.dvs; rw [a3]; rfl
    have d2 : y.d.kws K = [] := by unfold DefD.kws; rw [a4]; rfl
    rw [d1, d2] at Fd
    refine ⟨⟨fd, Fd⟩, fun em => ?_, fun n m em => ?_⟩
    · have q := F (inA hy)
      rw [em] at q
      have ea : fAd K y.d.at_ = ga K y.x := by rw [a1 em]; rfl
      rw [ea]
      exact glo_ok X Gl q
    · obtain ⟨q, eq, ea⟩ := a2 n m em
      have z := F (inA hy)
      rw [em] at z
      have en : ((t.cls[n]?).map (·.1)).getD ("" : Str) = q.1 := by rw [eq]; rfl
      simp only [en] at z
      have hq : q ∈ t.cls := List.mem_of_getElem? eq
      have e3 : fAd K y.d.at_ = ma K (ga K q.1) m := by rw [ea]; rfl
      rw [cC n q eq, e3]
      exact ⟨cls_ok (F (List.mem_append_right _ (List.mem_append_right _ (List.mem_append_right _ (List.mem_append_left _ (List.mem_map.mpr ⟨q, hq, rfl⟩)))))), meth_ok z⟩
  · have hq : (x, d) ∈ csl := List.mem_of_getElem? e
    have z := F (List.mem_append_right _ (List.mem_append_right _ (List.mem_append_right _ (List.mem_append_right _ (List.mem_append_right _ (List.mem_append_right _ (List.mem_append_right _ (List.mem_append_right _ (List.mem_append_right _ (List.mem_map.mpr ⟨_, hq, rfl⟩))))))))))
    have zb := List.all_eq_true.mp k4 _ hq
    cases d with
    | int i =>
      obtain ⟨u, hu⟩ := int_ok X Gl z
      exact ⟨_, .int i, hu, ⟨u, rfl⟩, fun _ _ _ => .int _⟩
    | str s =>
      obtain ⟨u, hu⟩ := str_ok X Gl z
      exact ⟨_, .str s, hu, ⟨u, rfl⟩, fun _ _ _ => .str _⟩
    | _ => cases zb
  · exact free_ok X Gl (F (List.mem_append_right _ (List.mem_append_left _ (List.mem_map.mpr ⟨x, hx, rfl⟩))))
  · have hx : x ∈ t.xns := List.mem_of_getElem? e
    rw [cX n x e]
    have z1 := F (List.mem_append_right _ (List.mem_append_right _ (List.mem_append_right _ (List.mem_append_right _ (List.mem_append_right _ (List.mem_append_right _ (List.mem_append_left _ (List.mem_map.mpr ⟨x, hx, rfl⟩))))))))
    have z2 := F (List.mem_append_right _ (List.mem_append_right _ (List.mem_append_right _ (List.mem_append_right _ (List.mem_append_right _ (List.mem_append_right _ (List.mem_append_right _ (List.mem_append_left _ (List.mem_map.mpr ⟨x, hx, rfl⟩)))))))))
    exact ⟨glo_ok X Gl z1, exc_ok z2⟩
  · exact excCB_ok (List.all_eq_true.mp x1 n (List.mem_range.mpr hn))
  · have key : ∀ (xs : List (Str × Option String × List Nat)), xlAt (xs.map fun q => (q.1, q.2.2)) x = some l → ∃ q ∈ xs, q.1 = x ∧ q.2.2 = l := by
      intro xs
      induction xs with
      | nil => intro e; cases e
      | cons q r ih =>
        intro e
        simp only [List.map_cons, xlAt] at e
        split at e
        · rename_i e1
          cases e
          exact ⟨q, by simp, e1, rfl⟩
        · obtain ⟨q', h1, h2⟩ := ih e
          exact ⟨q', by simp [h1], h2⟩
    obtain ⟨q, hq, rfl, rfl⟩ := key t.xl e
    have z := F (List.mem_append_right _ (List.mem_append_right _ (List.mem_append_right _ (List.mem_append_right _ (List.mem_append_right _ (List.mem_append_right _ (List.mem_append_right _ (List.mem_append_right _ (List.mem_append_left _ (List.mem_map.mpr ⟨q, hq, rfl⟩))))))))))
    obtain ⟨y1, y2⟩ := ba (List.all_eq_true.mp x2 q hq)
    have yk : ∀ n, n < t.xns.length → PySem.W.exmOne K (.ref (Cof K t (n + 1000))) (cvOf K q) = some (q.2.2.contains n) ∧ PySem.W.kitOne K (.ref (Cof K t (n + 1000))) (cvOf K q) = some (q.2.2.contains n) := fun n hn => by
      obtain ⟨u1, u2⟩ := ba (List.all_eq_true.mp y1 n (List.mem_range.mpr hn))
      exact ⟨of_decide_eq_true u1, of_decide_eq_true u2⟩
    obtain ⟨qn, qo, ql⟩ := q
    cases qo with
    | none => exact ⟨.ref (ga K qn), .ref (ga K qn), .own _, rfl, .inl (glo_ok X Gl z), yk⟩
    | some T =>
      obtain ⟨u1, u2⟩ := ba y2
      exact ⟨.ty T, .type T, .ty T, rfl, .inr ⟨free_ok X Gl z, of_decide_eq_true u1, of_decide_eq_true u2⟩, yk⟩
  · obtain ⟨q, eq⟩ : ∃ q, t.cls[n]? = some q := ⟨_, List.getElem?_eq_getElem hn⟩
    have hq : q ∈ t.cls := List.mem_of_getElem? eq
    rw [cC n q eq]
    refine ⟨cls_ok (F (List.mem_append_right _ (List.mem_append_right _ (List.mem_append_right _ (List.mem_append_left _ (List.mem_map.mpr ⟨q, hq, rfl⟩)))))), fun f hf => ?_⟩
    exact noat_ok (F (List.mem_append_right _ (List.mem_append_right _ (List.mem_append_right _ (List.mem_append_right _ (List.mem_append_right _ (List.mem_append_left _ (List.mem_flatMap.mpr ⟨q, hq, List.mem_map.mpr ⟨f, hf, rfl⟩⟩))))))))
  · have hq : (x, f) ∈ t.cls := List.mem_of_getElem? e
    rw [cC n _ e]
    refine ⟨glo_ok X Gl (F (List.mem_append_right _ (List.mem_append_right _ (List.mem_append_left _ (List.mem_map.mpr ⟨_, hq, rfl⟩))))), ?_⟩
    have z := List.all_eq_true.mp k5 _ hq
    have M := mkr_ok (F (List.mem_append_right _ (List.mem_append_right _ (List.mem_append_right _ (List.mem_append_right _ (List.mem_append_left _ (List.mem_map.mpr ⟨_, hq, rfl⟩)))))))
    simp only at z
    split at z
    · rename_i y ey
      have ea := of_decide_eq_true z
      have e3 : fAd K y.d.at_ = ma K (ga K x) "__init__" := by rw [ea]; rfl
      exact ⟨y, ey, by rw [e3]; exact M⟩
    · cases z
/-- the hook: the tables' facts -/
def hookG (n : Nat) (t : Tabs) (csl : List (Str × D)) : PySem.W.Hook where
  α := AlD × Bool
  obs := fun s => (obsDG n (t.fa csl) (t.tbl.map DI.d) s.heap.get?, exB t (frG s.heap.get? (asD s.heap.get? n)))
  val := fun _ => (valD (t.tbl.map DI.d), true)
  says := fun _ h => ∃ K : PySem.W.Frag, K.In h ∧ SaysD (t.fa csl) (t.tbl.map DI.d) K ∧ exB t K = true
  of := fun _ _ e => ⟨_, frG_in, congrArg (fun z : AlD × Bool => z.1) e, congrArg (fun z : AlD × Bool => z.2) e⟩
  keeps := fun _ _ _ ⟨K, hK, c⟩ k => ⟨K, PySem.W.Frag.In.keeps hK k, c⟩
def obG (n : Nat) (t : Tabs) (csl : List (Str × D)) (g : Addr → Option Obj) : AlD × Bool := (obsDG n (t.fa csl) (t.tbl.map DI.d) g, exB t (frG g (asD g n)))
theorem obG_eq {n : Nat} {t : Tabs} {csl : List (Str × D)} {g : Addr → Option Obj} {s : Shared} (h : ∀ a, g a = s.heap.get? a) : obG n t csl g = (hookG n t csl).obs s := by
  have e : g = s.heap.get? := funext h
  rw [e] <;> rfl
end
end G

set_option maxHeartbeats 4000000
/-! Lib1: wp step by step, from the outside. -/
namespace G
open PySem L2
section
variable {Γ : GM} {cs : Nat → Option D} {env : Ev} {h : AH} {X : EX → AH → Prop}
section
variable {Q : VV → AH → Prop}
theorem w_varV {i : Nat} {d : D} (e : env[i]? = some (some (.val d))) (q : Q (.d d) h) : wpE Γ cs (.var i) env h Q X := ⟨_, e, q⟩
theorem w_varO {i : Nat} {o : AO} (e : env[i]? = some (some (.own o))) (q : Q (.tw o) h) : wpE Γ cs (.var i) env h Q X := ⟨_, e, q⟩
theorem w_varB {i : Nat} {o : AO} (e : env[i]? = some (some (.bor o))) (q : Q (.bw o) h) : wpE Γ cs (.var i) env h Q X := ⟨_, e, q⟩
theorem w_int {i : Int} (q : Q (.d (.int i)) h) : wpE Γ cs (.int i) env h Q X := q
theorem w_bl {i : Bool} (q : Q (.d (.bl i)) h) : wpE Γ cs (.bl i) env h Q X := q
theorem w_non (q : Q (.d .non) h) : wpE Γ cs .non env h Q X := q
theorem w_str {z : Str} (q : Q (.d (.str z)) h) : wpE Γ cs (.str z) env h Q X := q
theorem w_glob {j : Nat} {d : D} (e : cs j = some d) (q : Q (.d d) h) : wpE Γ cs (.glob j) env h Q X := ⟨d, e, q⟩
theorem w_bin {o : BO} {a b : CE} (q : wpE Γ cs a env h (fun x h1 => wpE Γ cs b env h1 (fun y h2 => ∃ u v, x = .d u ∧ y = .d v ∧ binW o u v fun z => Q (.d z) h2) X) X) : wpE Γ cs (.bin o a b) env h Q X := q
theorem w_neg {a : CE} (q : wpE Γ cs a env h (fun x h1 => ∃ i, x = .d (.int i) ∧ Q (.d (.int (-i))) h1) X) : wpE Γ cs (.neg a) env h Q X := q
theorem w_cmp {o : CO} {a b : CE} (q : wpE Γ cs a env h (fun x h1 => wpE Γ cs b env h1 (fun y h2 => cmpW o h2 x y fun z => Q (.d z) h2) X) X) : wpE Γ cs (.cmp o a b) env h Q X := q
theorem w_chain {o o' : CO} {a b c : CE} (q : wpE Γ cs a env h (fun x h1 => wpE Γ cs b env h1 (fun y h2 => cmpW o h2 x y fun z =>
      ∃ k, z = .bl k ∧ if k = true then wpE Γ cs c env h2 (fun u h3 => cmpW o' h3 y u fun z => Q (.d z) h3) X else Q (.d (.bl false)) h2) X) X) : wpE Γ cs (.chain o o' a b c) env h Q X := q
theorem w_andV {a b : CE} (q : wpE Γ cs a env h (fun x h1 => ∃ k, x = .d (.bl k) ∧ if k = true then wpE Γ cs b env h1 Q X else Q (.d (.bl false)) h1) X) : wpE Γ cs (.andV a b) env h Q X := q
theorem w_orV {a b : CE} (q : wpE Γ cs a env h (fun x h1 => ∃ k, x = .d (.bl k) ∧ if k = true then Q (.d (.bl true)) h1 else wpE Γ cs b env h1 Q X) X) : wpE Γ cs (.orV a b) env h Q X := q
theorem w_notV {a : CE} (q : wpE Γ cs a env h (fun x h1 => ∃ b, x.tru h1 = some b ∧ Q (.d (.bl (!b))) h1) X) : wpE Γ cs (.notV a) env h Q X := q
theorem w_iteE {t : CT} {a b : CE} (q : wpT Γ cs t env h (fun k h1 => if k = true then wpE Γ cs a env h1 Q X else wpE Γ cs b env h1 Q X) X) : wpE Γ cs (.ite t a b) env h Q X := q
theorem w_tup {es : CEs} (q : wpEs Γ cs es env h (fun vs h1 => ∃ xs, vs = xs.map VV.d ∧ xs.length ≤ sizeLine ∧ Q (.d (.tup xs)) h1) X) : wpE Γ cs (.tup es) env h Q X := q
theorem w_ix {a b : CE} (q : wpE Γ cs a env h (fun x h1 => wpE Γ cs b env h1 (fun y h2 => ixW h2 x y fun z => Q (.d z) h2) X) X) : wpE Γ cs (.ix a b) env h Q X := q
theorem w_slc {a : CE} {lo hi : CO2} (q : wpE Γ cs a env h (fun x h1 => wpO Γ cs lo env h1 (fun i h2 => wpO Γ cs hi env h2 (fun j h3 => ∃ xs, x = .d (.tup xs) ∧ Q (.d (.tup (cutD xs i j))) h3) X) X) X) : wpE Γ cs (.slc a lo hi) env h Q X := q
theorem w_call {f : Nat} {es : CEs} (q : wpEs Γ cs es env h (fun vs h1 => Γ f (vs.map toArg) h1 (RR.rd Q) X) X) : wpE Γ cs (.call f es) env h Q X := q
theorem w_bi {b : BI} {es : CEs} (q : wpEs Γ cs es env h (fun vs h1 => biW b h1 vs fun z => Q (.d z) h1) X) : wpE Γ cs (.bi b es) env h Q X := q
theorem w_tupOf {l : LE} (q : wpL Γ cs l env h (fun xs h1 => Q (.d (.tup xs)) h1) X) : wpE Γ cs (.tupOf l) env h Q X := q
theorem w_tupE {a : CE} (q : wpE Γ cs a env h (fun x h1 => ∃ xs, x.seq h1 = some xs ∧ Q (.d (.tup xs)) h1) X) : wpE Γ cs (.tupE a) env h Q X := q
theorem w_tupRev {a : CE} (q : wpE Γ cs a env h (fun x h1 => ∃ xs, (x.obj h1).bind AO.list = some xs ∧ Q (.d (.tup xs.reverse)) h1) X) : wpE Γ cs (.tupRev a) env h Q X := q
theorem w_fzOf {l : LE} (q : wpL Γ cs l env h (fun xs h1 => Q (.d (.fz xs)) h1) X) : wpE Γ cs (.fzOf l) env h Q X := q
end
theorem w_no {Q : Option Int → AH → Prop} (q : Q none h) : wpO Γ cs .no env h Q X := q
theorem w_so {Q : Option Int → AH → Prop} {a : CE} (q : wpE Γ cs a env h (fun x h1 => ∃ i, x = .d (.int i) ∧ Q (some i) h1) X) : wpO Γ cs (.so a) env h Q X := q
theorem w_nil {Q : List VV → AH → Prop} (q : Q [] h) : wpEs Γ cs .nil env h Q X := q
theorem w_cons {Q : List VV → AH → Prop} {a : CE} {r : CEs} (q : wpE Γ cs a env h (fun x h1 => wpEs Γ cs r env h1 (fun xs h2 => Q (x :: xs) h2) X) X) : wpEs Γ cs (.cons a r) env h Q X := q
section
variable {Q : Bool → AH → Prop}
theorem w_te {a : CE} (q : wpE Γ cs a env h (fun x h1 => ∃ b, x.tru h1 = some b ∧ Q b h1) X) : wpT Γ cs (.e a) env h Q X := q
theorem w_andT {a b : CT} (q : wpT Γ cs a env h (fun k h1 => if k = true then wpT Γ cs b env h1 Q X else Q false h1) X) : wpT Γ cs (.andT a b) env h Q X := q
theorem w_orT {a b : CT} (q : wpT Γ cs a env h (fun k h1 => if k = true then Q true h1 else wpT Γ cs b env h1 Q X) X) : wpT Γ cs (.orT a b) env h Q X := q
theorem w_notT {a : CT} (q : wpT Γ cs a env h (fun k h1 => Q (!k) h1) X) : wpT Γ cs (.notT a) env h Q X := q
theorem w_tsnil (q : Q true h) : wpTs Γ cs .nil env h Q X := q
theorem w_tscons {a : CT} {r : CTs} (q : wpT Γ cs a env h (fun k h1 => if k = true then wpTs Γ cs r env h1 Q X else Q false h1) X) : wpTs Γ cs (.cons a r) env h Q X := q
end
section
variable {Q : List D → AH → Prop}
theorem w_lc {it : CI} {g : CG} {ifs : CTs} {e : CE} (q : wpI Γ cs it true env h (fun xs guard h1 =>
      lcW guard (wipeE env g.slots) g (fun env' h Q => wpTs Γ cs ifs env' h Q fun _ _ => False) (fun env' h Q => wpE Γ cs e env' h Q fun _ _ => False) xs [] h1 Q) X) : wpL Γ cs (.lc it g ifs e) env h Q X := q
theorem w_dsp {es : CEs} (q : wpEs Γ cs es env h (fun vs h1 => ∃ xs, vs = xs.map VV.d ∧ xs.length ≤ sizeLine ∧ Q xs h1) X) : wpL Γ cs (.dsp es) env h Q X := q
theorem w_listE {a : CE} (q : wpE Γ cs a env h (fun x h1 => (∃ xs, x.seq h1 = some xs ∧ Q xs h1) ∨ ∃ o xs, x.obj h1 = some o ∧ o.keyList = some xs ∧ Q xs h1) X) : wpL Γ cs (.listE a) env h Q X := q
theorem w_sortK {f : Nat} {a : CE} (q : wpE Γ cs a env h (fun x h1 => ∃ xs, (x.obj h1).bind AO.list = some xs ∧ keysW Γ f xs [] h1 fun ks h2 => srtOk ks ∧ ks.length = xs.length ∧ Q (sortD xs ks) h2) X) : wpL Γ cs (.sortK f a) env h Q X := q
theorem w_srt {a : CE} (q : wpE Γ cs a env h (fun x h1 => ∃ xs ns, (x.obj h1).bind AO.list = some xs ∧ intsOf xs = some ns ∧ ∀ ms : List Int, ms.Perm ns → ms.Pairwise (· ≤ ·) → Q (ms.map .int) h1) X) : wpL Γ cs (.srt a) env h Q X := q
theorem w_listRg {a : CE} (q : wpE Γ cs a env h (fun x h1 => ∃ i, x = .d (.int i) ∧ 0 ≤ i ∧ i ≤ 16777216 ∧ Q (rgD 0 i.toNat) h1) X) : wpL Γ cs (.listRg a) env h Q X := q
theorem w_cat {a b : LE} (q : wpL Γ cs a env h (fun xs h1 => wpL Γ cs b env h1 (fun ys h2 => xs.length + ys.length ≤ sizeLine ∧ Q (xs ++ ys) h2) X) X) : wpL Γ cs (.cat a b) env h Q X := q
theorem w_catE {a b : CE} (q : wpE Γ cs a env h (fun x h1 => wpE Γ cs b env h1 (fun y h2 => ∃ xs ys, (x.obj h2).bind AO.list = some xs ∧ (y.obj h2).bind AO.list = some ys ∧ xs.length + ys.length ≤ sizeLine ∧ Q (xs ++ ys) h2) X) X) : wpL Γ cs (.catE a b) env h Q X := q
theorem w_rep {a : LE} {b : CE} (q : wpL Γ cs a env h (fun xs h1 => wpE Γ cs b env h1 (fun y h2 => ∃ k, y = .d (.int k) ∧ -(2 ^ 63) ≤ k ∧ k < 2 ^ 63 ∧ xs.length * k.toNat ≤ sizeLine ∧ Q (List.replicate k.toNat xs).flatten h2) X) X) : wpL Γ cs (.rep a b) env h Q X := q
theorem w_slcL {a : CE} {lo hi : CO2} (q : wpE Γ cs a env h (fun x h1 => wpO Γ cs lo env h1 (fun i h2 => wpO Γ cs hi env h2 (fun j h3 => ∃ xs, (x.obj h3).bind AO.list = some xs ∧ Q (cutD xs i j) h3) X) X) X) : wpL Γ cs (.slcL a lo hi) env h Q X := q
end
section
variable {Q : List D → (AH → Prop) → AH → Prop} {cp : Bool}
theorem w_ival {a : CE} (q : wpE Γ cs a env h (fun x h1 => (cp = true ∨ ∀ o, x ≠ .tw o) ∧ ∃ xs, x.seq h1 = some xs ∧ Q xs (fun h => x.seq h = some xs) h1) X) : wpI Γ cs (.val a) cp env h Q X := q
theorem w_irg1 {a : CE} (q : wpE Γ cs a env h (fun x h1 => ∃ i, x = .d (.int i) ∧ -(2 ^ 62) ≤ i ∧ i < 2 ^ 62 ∧ Q (rgD 0 i.toNat) (fun _ => True) h1) X) : wpI Γ cs (.rg1 a) cp env h Q X := q
theorem w_irg2 {a b : CE} (q : wpE Γ cs a env h (fun x h1 => wpE Γ cs b env h1 (fun y h2 => ∃ i j, x = .d (.int i) ∧ y = .d (.int j) ∧ (-(2 ^ 62) ≤ i ∧ i < 2 ^ 62 ∧ -(2 ^ 62) ≤ j ∧ j < 2 ^ 62) ∧ Q (rgD i (j - i).toNat) (fun _ => True) h2) X) X) : wpI Γ cs (.rg2 a b) cp env h Q X := q
theorem w_izip {a b : CE} (q : wpE Γ cs a env h (fun x h1 => wpE Γ cs b env h1 (fun y h2 => ∃ xs ys, x = .d (.tup xs) ∧ y = .d (.tup ys) ∧ Q (zipD xs ys) (fun _ => True) h2) X) X) : wpI Γ cs (.zip a b) cp env h Q X := q
theorem w_ienum {a : CE} (q : wpE Γ cs a env h (fun x h1 => (cp = true ∨ ∀ o, x ≠ .tw o) ∧ ∃ xs, (x.obj h1).bind AO.list = some xs ∧ Q (enumD xs) (fun h => (x.obj h).bind AO.list = some xs) h1) X) : wpI Γ cs (.enum a) cp env h Q X := q
end
section
variable {rn : Ev → AH → Prop} {rt : RR → AH → Prop} {rb rc : Ev → AH → Prop} {rx : EX → Ev → AH → Prop}
theorem w_sasg {g : CG} {e : CE} (q : wpE Γ cs e env h (fun v h' => ∃ x, v = .d x ∧ gW g x env fun env' => rn env' h') (fun x h' => rx x env h')) : wpS Γ cs (.asg g e) env h ⟨rn, rt, rb, rc, rx⟩ := q
theorem w_sasgO {i : Nat} {l : LE} (q : wpL Γ cs l env h (fun xs h' => rn (env.set i (some (.own (.lst xs)))) h') (fun x h' => rx x env h')) : wpS Γ cs (.asgO i l) env h ⟨rn, rt, rb, rc, rx⟩ := q
theorem w_sasgC {i f : Nat} {es : CEs} (q : wpEs Γ cs es env h (fun vs h1 => Γ f (vs.map toArg) h1 (fun r h2 => match r with
      | .d x => rn (env.set i (some (.val x))) h2
      | .mv o => rn (env.set i (some (.own o))) h2) (fun x h' => rx x env h')) (fun x h' => rx x env h')) : wpS Γ cs (.asgC i f es) env h ⟨rn, rt, rb, rc, rx⟩ := q
theorem w_saug {i : Nat} {o : BO} {e : CE} {x : D} (e1 : env[i]? = some (some (.val x))) (q : wpE Γ cs e env h (fun v h' => ∃ y, v = .d y ∧ augW o x y fun z => rn (env.set i (some (.val z))) h') (fun x h' => rx x env h')) : wpS Γ cs (.aug i o e) env h ⟨rn, rt, rb, rc, rx⟩ := ⟨x, e1, q⟩
theorem w_ssetix {i : Nat} {k e : CE} {o : AO} (e1 : env[i]? = some (some (.own o))) (q : wpE Γ cs e env h (fun v h1 => wpE Γ cs k env h1 (fun u h2 => ∃ x y, v = .d x ∧ u = .d y ∧
      ((∃ xs z j, o = .lst xs ∧ y = .int z ∧ ixN xs.length z = some j ∧ rn (env.set i (some (.own (.lst (xs.set j x))))) h2) ∨
       ∃ o', o.put y x = some o' ∧ rn (env.set i (some (.own o'))) h2)) (fun x h' => rx x env h')) (fun x h' => rx x env h')) : wpS Γ cs (.setix i k e) env h ⟨rn, rt, rb, rc, rx⟩ := ⟨o, e1, q⟩
theorem w_sapp {i : Nat} {e : CE} {xs : List D} (e1 : env[i]? = some (some (.own (.lst xs)))) (q : wpE Γ cs e env h (fun v h1 => ∃ x, v = .d x ∧ xs.length < sizeLine ∧ rn (env.set i (some (.own (.lst (xs ++ [x]))))) h1) (fun x h' => rx x env h')) : wpS Γ cs (.app i e) env h ⟨rn, rt, rb, rc, rx⟩ := ⟨xs, e1, q⟩
theorem w_sext {i : Nat} {l : LE} {xs : List D} (e1 : env[i]? = some (some (.own (.lst xs)))) (q : wpL Γ cs l env h (fun ys h1 => xs.length + ys.length ≤ sizeLine ∧ rn (env.set i (some (.own (.lst (xs ++ ys))))) h1) (fun x h' => rx x env h')) : wpS Γ cs (.ext i l) env h ⟨rn, rt, rb, rc, rx⟩ := ⟨xs, e1, q⟩
theorem w_sclr {i : Nat} {xs : List D} (e1 : env[i]? = some (some (.own (.lst xs)))) (q : rn (env.set i (some (.own (.lst [])))) h) : wpS Γ cs (.clr i) env h ⟨rn, rt, rb, rc, rx⟩ := ⟨xs, e1, q⟩
theorem w_sexp {e : CE} (q : wpE Γ cs e env h (fun _ h' => rn env h') (fun x h' => rx x env h')) : wpS Γ cs (.exp e) env h ⟨rn, rt, rb, rc, rx⟩ := q
theorem w_sret {e : CE} (q : wpE Γ cs e (frzE env) h (fun v h' => ∃ x, v = .d x ∧ rt (.d x) h') (fun x h' => rx x (frzE env) h')) : wpS Γ cs (.ret e) env h ⟨rn, rt, rb, rc, rx⟩ := q
theorem w_sretM {i : Nat} {o : AO} (e1 : env[i]? = some (some (.own o))) (q : rt (.mv o) h) : wpS Γ cs (.retM i) env h ⟨rn, rt, rb, rc, rx⟩ := ⟨o, e1, q⟩
theorem w_sretL {l : LE} (q : wpL Γ cs l env h (fun xs h' => rt (.mv (.lst xs)) h') (fun x h' => rx x env h')) : wpS Γ cs (.retL l) env h ⟨rn, rt, rb, rc, rx⟩ := q
theorem w_sexte {i : Nat} {e : CE} {xs : List D} (e1 : env[i]? = some (some (.own (.lst xs)))) (q : wpE Γ cs e env h (fun v h1 => ∃ ys, v = .d (.tup ys) ∧ xs.length + ys.length ≤ sizeLine ∧ rn (env.set i (some (.own (.lst (xs ++ ys))))) h1) (fun x h' => rx x env h')) : wpS Γ cs (.exte i e) env h ⟨rn, rt, rb, rc, rx⟩ := ⟨xs, e1, q⟩
theorem w_sretN (q : rt (.d .non) h) : wpS Γ cs .retN env h ⟨rn, rt, rb, rc, rx⟩ := q
theorem w_site {t : CT} {a b : CSs} (q : wpT Γ cs t env h (fun k h' => if k = true then wpSs Γ cs a env h' ⟨rn, rt, rb, rc, rx⟩ else wpSs Γ cs b env h' ⟨rn, rt, rb, rc, rx⟩) (fun x h' => rx x env h')) : wpS Γ cs (.ite t a b) env h ⟨rn, rt, rb, rc, rx⟩ := q
theorem w_sfor {g : CG} {it : CI} {a : CSs} (q : wpI Γ cs it false env h (fun xs guard h' => forW guard g (fun env h R => wpSs Γ cs a env h R) xs env h' ⟨rn, rt, rb, rc, rx⟩) (fun x h' => rx x env h')) : wpS Γ cs (.for g it a) env h ⟨rn, rt, rb, rc, rx⟩ := q
theorem w_sforO {g : CG} {i : Nat} {a : CSs} {xs : List D} (e1 : env[i]? = some (some (.own (.lst xs)))) (q : forW (fun h' => (VV.bw (.lst xs)).seq h' = some xs) g (fun env h R => wpSs Γ cs a env h R) xs (env.set i (some (.bor (.lst xs)))) h ⟨fun e h => e[i]? = some (some (.bor (.lst xs))) ∧ rn (e.set i (some (.own (.lst xs)))) h, rt, fun _ _ => False, fun _ _ => False, fun x e h => e[i]? = some (some (.bor (.lst xs))) ∧ rx x (e.set i (some (.own (.lst xs)))) h⟩) : wpS Γ cs (.forO g i a) env h ⟨rn, rt, rb, rc, rx⟩ := ⟨xs, e1, q⟩
theorem w_sasgV {i j : Nat} {o : AO} (e1 : env[j]? = some (some (.own o))) (ne : i ≠ j) (hi : i < env.length) (q : rn ((env.set j none).set i (some (.own o))) h) : wpS Γ cs (.asgV i j) env h ⟨rn, rt, rb, rc, rx⟩ := ⟨o, e1, ne, hi, q⟩
theorem w_sbrk (q : rb env h) : wpS Γ cs .brk env h ⟨rn, rt, rb, rc, rx⟩ := q
theorem w_scnt (q : rc env h) : wpS Γ cs .cnt env h ⟨rn, rt, rb, rc, rx⟩ := q
theorem w_spas (q : rn env h) : wpS Γ cs .pas env h ⟨rn, rt, rb, rc, rx⟩ := q
theorem w_sfrz {i : Nat} {xs : List D} (e1 : env[i]? = some (some (.own (.lst xs)))) (q : rn (env.set i (some (.val (.fz xs)))) h) : wpS Γ cs (.frz i) env h ⟨rn, rt, rb, rc, rx⟩ := ⟨xs, e1, q⟩
theorem w_ssnil (q : rn env h) : wpSs Γ cs .nil env h ⟨rn, rt, rb, rc, rx⟩ := q
theorem w_sscons {a : CS} {r : CSs} (q : wpS Γ cs a env h ⟨fun e h => wpSs Γ cs r e h ⟨rn, rt, rb, rc, rx⟩, rt, rb, rc, rx⟩) : wpSs Γ cs (.cons a r) env h ⟨rn, rt, rb, rc, rx⟩ := q
end
end
/-! ### what is left by the operators -/
section
variable {P : D → Prop} {h : AH}
theorem l_bin {o : BO} {u v : D} (q : binW o u v P) : ∃ u' v', VV.d u = .d u' ∧ VV.d v = .d v' ∧ binW o u' v' P := ⟨u, v, rfl, rfl, q⟩
theorem b_add {i j : Int} (q : P (.int (i + j))) : binW .add (.int i) (.int j) P := q
theorem b_sub {i j : Int} (q : P (.int (i - j))) : binW .sub (.int i) (.int j) P := q
theorem b_mul {i j : Int} (c : cMul i j) (q : P (.int (i * j))) : binW .mul (.int i) (.int j) P := ⟨c, q⟩
theorem b_mulT {a : List D} {k : Int} (h0 : a ≠ []) (h1 : -(2 ^ 63) ≤ k) (h2 : k ≤ 1000) (h3 : a.length ≤ 1000) (q : P (.tup (List.replicate k.toNat a).flatten)) : binW .mul (.tup a) (.int k) P := ⟨h0, h1, h2, h3, q⟩
theorem b_mulL {i j : Int} (c1 : -18446744073709551616 < i) (c2 : i < 18446744073709551616) (q : P (.int (i * j))) : binW .mul (.int i) (.int j) P := ⟨.inl ⟨c1, c2⟩, q⟩
theorem b_mulR {i j : Int} (c1 : -18446744073709551616 < j) (c2 : j < 18446744073709551616) (q : P (.int (i * j))) : binW .mul (.int i) (.int j) P := ⟨.inr ⟨c1, c2⟩, q⟩
theorem b_fdivB {i j : Int} (c1 : 0 < j) (c2 : j < 1073741824) (q : P (.int (i / j))) : binW .fdiv (.int i) (.int j) P := ⟨⟨c1, c2⟩, q⟩
theorem b_fdiv {i j : Int} (c : cDiv j) (q : P (.int (i / j))) : binW .fdiv (.int i) (.int j) P := ⟨c, q⟩
theorem b_mod {i j : Int} (c : 0 < j) (q : P (.int (i % j))) : binW .mod (.int i) (.int j) P := ⟨c, q⟩
theorem b_addT {a b : List D} (c : a.length + b.length ≤ sizeLine) (q : P (.tup (a ++ b))) : binW .add (.tup a) (.tup b) P := ⟨c, q⟩
theorem l_dval {P : D → Prop} {d : D} (q : P d) : ∃ x, VV.d d = .d x ∧ P x := ⟨d, rfl, q⟩
theorem l_ival {P : Int → Prop} {i : Int} (q : P i) : ∃ j, VV.d (.int i) = .d (.int j) ∧ P j := ⟨i, rfl, q⟩
theorem l_bval {P : Bool → Prop} {i : Bool} (q : P i) : ∃ j, VV.d (.bl i) = .d (.bl j) ∧ P j := ⟨i, rfl, q⟩
theorem l_bvalD {P : Bool → Prop} {i : Bool} (q : P i) : ∃ j, D.bl i = .bl j ∧ P j := ⟨i, rfl, q⟩
theorem l_tru {P : Bool → Prop} {i : Bool} (q : P i) : ∃ b, (VV.d (.bl i)).tru h = some b ∧ P b := ⟨i, rfl, q⟩
theorem c_lt {i j : Int} (q : P (.bl (decide (i < j)))) : cmpW .lt h (.d (.int i)) (.d (.int j)) P := ⟨i, j, rfl, rfl, q⟩
theorem c_le {i j : Int} (q : P (.bl (decide (i ≤ j)))) : cmpW .le h (.d (.int i)) (.d (.int j)) P := ⟨i, j, rfl, rfl, q⟩
theorem c_gt {i j : Int} (q : P (.bl (decide (j < i)))) : cmpW .gt h (.d (.int i)) (.d (.int j)) P := ⟨i, j, rfl, rfl, q⟩
theorem c_ge {i j : Int} (q : P (.bl (decide (j ≤ i)))) : cmpW .ge h (.d (.int i)) (.d (.int j)) P := ⟨i, j, rfl, rfl, q⟩
theorem c_eqI {i j : Int} (q : P (.bl (decide (i = j)))) : cmpW .eq h (.d (.int i)) (.d (.int j)) P := by
  refine ⟨_, _, .inl rfl, .inl rfl, rfl, rfl, ?_⟩
  have e : D.eqv (.int i) (.int j) = decide (i = j) := by simp only [D.eqv]; rw [Bool.eq_iff_iff]; simp
  rw [e]; exact q
theorem c_neI {i j : Int} (q : P (.bl (!decide (i = j)))) : cmpW .ne h (.d (.int i)) (.d (.int j)) P := by
  refine ⟨_, _, .inl rfl, .inl rfl, rfl, rfl, ?_⟩
  have e : D.eqv (.int i) (.int j) = decide (i = j) := by simp only [D.eqv]; rw [Bool.eq_iff_iff]; simp
  rw [e]; exact q
theorem c_isN {d : D} (q : P (.bl (match d with | .non => true | _ => false))) : cmpW .isN h (.d d) (.d .non) P := ⟨rfl, by cases d <;> exact q⟩
theorem c_isB {a b : Bool} (q : P (.bl (decide (a = b)))) : cmpW .isB h (.d (.bl a)) (.d (.bl b)) P := ⟨a, b, rfl, rfl, q⟩
theorem c_notB {a b : Bool} (q : P (.bl (!decide (a = b)))) : cmpW .notB h (.d (.bl a)) (.d (.bl b)) P := ⟨a, b, rfl, rfl, q⟩
theorem c_notN {d : D} (q : P (.bl (match d with | .non => false | _ => true))) : cmpW .notN h (.d d) (.d .non) P := ⟨rfl, by cases d <;> exact q⟩
theorem i_lenTm {α : Type} {f : α → D} {ns : List α} (q : P (.int ns.length)) : biW .len h [.d (.tup (ns.map f))] P := ⟨_, rfl, by rw [List.length_map]; exact q⟩
theorem i_lenFm {α : Type} {f : α → D} {ns : List α} (q : P (.int ns.length)) : biW .len h [.d (.fz (ns.map f))] P := ⟨_, rfl, by rw [List.length_map]; exact q⟩
theorem i_lenOm {α : Type} {f : α → D} {ns : List α} (q : P (.int ns.length)) : biW .len h [.tw (.lst (ns.map f))] P := ⟨_, rfl, by rw [List.length_map]; exact q⟩
theorem i_lenBm {α : Type} {f : α → D} {ns : List α} (q : P (.int ns.length)) : biW .len h [.bw (.lst (ns.map f))] P := ⟨_, rfl, by rw [List.length_map]; exact q⟩
theorem i_lenT {xs : List D} (q : P (.int xs.length)) : biW .len h [.d (.tup xs)] P := ⟨_, rfl, q⟩
theorem i_lenF {xs : List D} (q : P (.int xs.length)) : biW .len h [.d (.fz xs)] P := ⟨_, rfl, q⟩
theorem i_lenO {xs : List D} (q : P (.int xs.length)) : biW .len h [.tw (.lst xs)] P := ⟨_, rfl, q⟩
theorem i_lenB {xs : List D} (q : P (.int xs.length)) : biW .len h [.bw (.lst xs)] P := ⟨_, rfl, q⟩
theorem i_min2 {i j : Int} (q : P (.int (if j < i then j else i))) : biW .min2 h [.d (.int i), .d (.int j)] P := q
theorem i_max2 {i j : Int} (q : P (.int (if i < j then j else i))) : biW .max2 h [.d (.int i), .d (.int j)] P := q
theorem g_nm {i : Nat} {x : D} {env : Ev} {Q : Ev → Prop} (q : Q (env.set i (some (.val x)))) : gW (.nm i) x env Q := q
theorem ite_i {b : Bool} {A B : Prop} (h1 : b = true → A) (h2 : b = false → B) : if b = true then A else B := by
  cases b with
  | true => exact h1 rfl
  | false => exact h2 rfl
theorem ite_p {C : Prop} [Decidable C] {A B : Prop} (h1 : C → A) (h2 : ¬ C → B) : if decide C = true then A else B := by
  by_cases c : C
  · rw [if_pos (decide_eq_true c)]; exact h1 c
  · rw [if_neg (by simpa using c)]; exact h2 c
theorem ite_t {A B : Prop} (q : A) : if true = true then A else B := by rw [if_pos rfl]; exact q
theorem ite_f {A B : Prop} (q : B) : if false = true then A else B := by rw [if_neg (by decide)]; exact q
theorem ite_nt {A B : Prop} (q : B) : if (!true) = true then A else B := by rw [if_neg (by decide)]; exact q
theorem ite_nf {A B : Prop} (q : A) : if (!false) = true then A else B := by rw [if_pos (by decide)]; exact q
theorem ite_nn {b : Bool} {A B : Prop} (q : if b = true then A else B) : if (!!b) = true then A else B := by rw [Bool.not_not]; exact q
theorem ite_n {C : Prop} [Decidable C] {A B : Prop} (h1 : ¬ C → A) (h2 : C → B) : if (!decide C) = true then A else B := by
  by_cases c : C
  · rw [if_neg (by simpa using c)]; exact h2 c
  · rw [if_pos (by simpa using c)]; exact h1 c
end
end G
namespace G
open PySem L2
/-! ### loops, joins, calls -/
section
variable {Γ : GM} {cs : Nat → Option D} {X : EX → AH → Prop}
theorem r_d {Q : VV → AH → Prop} {x : D} {h : AH} (q : Q (.d x) h) : RR.rd Q (.d x) h := q
theorem r_mv {Q : VV → AH → Prop} {xs : List D} {h : AH} (q : Q (.d (.fz xs)) h) : RR.rd Q (.mv (.lst xs)) h := q
/-- two roads meet -/
theorem w_join {a : CS} {r : CSs} {env : Ev} {h : AH} {rn : Ev → AH → Prop} {rt : RR → AH → Prop} {rb rc : Ev → AH → Prop} {rx : EX → Ev → AH → Prop} (P : Ev → Prop) (hr : ∀ e, P e → wpSs Γ cs r e h ⟨rn, rt, rb, rc, rx⟩) (q : ∀ N : Ev → AH → Prop, (∀ e, P e → N e h) → wpS Γ cs a env h ⟨N, rt, rb, rc, rx⟩) : wpSs Γ cs (.cons a r) env h ⟨rn, rt, rb, rc, rx⟩ :=
  q _ hr
/-- a loop, by what holds before each turn -/
theorem for_ind {g : CG} {B : Ev → AH → CEnds → Prop} {guard : AH → Prop} {h : AH} {rn : Ev → AH → Prop} {rt : RR → AH → Prop} {rb rc : Ev → AH → Prop} {rx : EX → Ev → AH → Prop} (hg : guard h) (I : List D → Ev → Prop) (h0 : ∀ env, I [] env → rn env h)
    (hs : ∀ x xs env, I (x :: xs) env → ∀ N : Ev → AH → Prop, (∀ e, I xs e → N e h) → gW g x env fun env' => B env' h ⟨N, rt, rn, N, rx⟩) :
    ∀ xs env, I xs env → forW guard g B xs env h ⟨rn, rt, rb, rc, rx⟩
  | [], env, i => ⟨hg, h0 env i⟩
  | x :: xs, env, i => ⟨hg, hs x xs env i _ fun e ie => for_ind hg I h0 hs xs e ie⟩
/-- a loop over the numbers below n -/
theorem for_rg {g : Nat} {B : Ev → AH → CEnds → Prop} {guard : AH → Prop} {h : AH} {rn : Ev → AH → Prop} {rt : RR → AH → Prop} {rb rc : Ev → AH → Prop} {rx : EX → Ev → AH → Prop} (hg : guard h) {lo : Int} {n : Nat} (I : Nat → Ev → Prop) {env : Ev} (i0 : I 0 env) (h0 : ∀ env, I n env → rn env h)
    (hs : ∀ (j : Nat) env, j < n → I j env → ∀ N : Ev → AH → Prop, (∀ e, I (j + 1) e → N e h) → B (env.set g (some (.val (.int (lo + j))))) h ⟨N, rt, rn, N, rx⟩) :
    forW guard (.nm g) B (rgD lo n) env h ⟨rn, rt, rb, rc, rx⟩ := by
  have key : ∀ (m j : Nat) env, j + m = n → I j env → forW guard (.nm g) B ((List.range' j m).map fun (k : Nat) => D.int (lo + (k : Int))) env h ⟨rn, rt, rb, rc, rx⟩ := by
    intro m
    induction m with
    | zero => intro j env e i; have : j = n := by omega
              subst this; exact ⟨hg, h0 env i⟩
    | succ m ih => intro j env e i; exact ⟨hg, hs j env (by omega) i _ fun e' i' => ih (j + 1) e' (by omega) i'⟩
  have := key n 0 env (by omega) i0
  rwa [← List.range_eq_range'] at this
theorem for_rg0 {g : Nat} {B : Ev → AH → CEnds → Prop} {guard : AH → Prop} {h : AH} {rn : Ev → AH → Prop} {rt : RR → AH → Prop} {rb rc : Ev → AH → Prop} {rx : EX → Ev → AH → Prop} (hg : guard h) {n : Nat} (I : Nat → Ev → Prop) {env : Ev} (i0 : I 0 env) (h0 : ∀ env, I n env → rn env h)
    (hs : ∀ (j : Nat) env, j < n → I j env → ∀ N : Ev → AH → Prop, (∀ e, I (j + 1) e → N e h) → B (env.set g (some (.val (.int (j : Int))))) h ⟨N, rt, rn, N, rx⟩) :
    forW guard (.nm g) B (rgD 0 n) env h ⟨rn, rt, rb, rc, rx⟩ :=
  for_rg hg I i0 h0 fun j e hj i N hN => by rw [Int.zero_add]; exact hs j e hj i N hN
theorem rgD0 (n : Nat) : rgD 0 n = (List.range n).map fun (g : Nat) => D.int (g : Int) := by
  unfold rgD; congr 1; funext k; rw [Int.zero_add]
/-- a loop over a list's items -/
theorem for_ix {g : Nat} {B : Ev → AH → CEnds → Prop} {guard : AH → Prop} {h : AH} {rn : Ev → AH → Prop} {rt : RR → AH → Prop} {rb rc : Ev → AH → Prop} {rx : EX → Ev → AH → Prop} (hg : guard h) {xs : List D} (I : Nat → Ev → Prop) {env : Ev} (i0 : I 0 env) (h0 : ∀ env, I xs.length env → rn env h)
    (hs : ∀ (j : Nat) (hj : j < xs.length) env, I j env → ∀ N : Ev → AH → Prop, (∀ e, I (j + 1) e → N e h) → B (env.set g (some (.val (xs[j]'hj)))) h ⟨N, rt, rn, N, rx⟩) :
    forW guard (.nm g) B xs env h ⟨rn, rt, rb, rc, rx⟩ := by
  have key : ∀ (m j : Nat) env, j + m = xs.length → I j env → forW guard (.nm g) B (xs.drop j) env h ⟨rn, rt, rb, rc, rx⟩ := by
    intro m
    induction m with
    | zero => intro j env e i; have : j = xs.length := by omega
              subst this; rw [List.drop_length]; exact ⟨hg, h0 env i⟩
    | succ m ih =>
      intro j env e i
      have hj : j < xs.length := by omega
      rw [List.drop_eq_getElem_cons hj]; exact ⟨hg, hs j hj env i _ fun e' i' => ih (j + 1) e' (by omega) i'⟩
  exact key xs.length 0 env (by omega) i0
theorem whl_ind {t : CT} {a : CSs} {env : Ev} {h : AH} {rn : Ev → AH → Prop} {rt : RR → AH → Prop} {rb rc : Ev → AH → Prop} {rx : EX → Ev → AH → Prop} (W : Nat → Ev → Prop) (m : Nat) (i : W m env)
    (hs : ∀ m env, W m env → ∀ N : Ev → AH → Prop, (∀ m' e, m' < m → W m' e → N e h) → wpT Γ cs t env h (fun k h' => if k = true then wpSs Γ cs a env h' ⟨N, rt, rn, N, rx⟩ else rn env h') (fun x h' => rx x env h')) : wpS Γ cs (.whl t a) env h ⟨rn, rt, rb, rc, rx⟩ :=
  ⟨fun m e h' => h' = h ∧ W m e, ⟨m, rfl, i⟩, fun m e h' w => by
    obtain ⟨rfl, w⟩ := w
    exact hs m e w _ fun m' e' l i' => ⟨m', l, rfl, i'⟩⟩
/-- a comprehension with no test whose items are found one by one -/
theorem lc_map {g : Nat} {E : Ev → AH → (VV → AH → Prop) → Prop} {guard : AH → Prop} {h : AH} {Q : List D → AH → Prop} {env : Ev} (hg : guard h) (f : D → D) {xs : List D} (hl : xs.length ≤ sizeLine)
    (hs : ∀ x ∈ xs, ∀ Q : VV → AH → Prop, Q (.d (f x)) h → E (env.set g (some (.val x))) h Q) (q : Q (xs.map f) h) :
    lcW guard env (.nm g) (fun env' h Q => wpTs Γ cs .nil env' h Q fun _ _ => False) E xs [] h Q := by
  have key : ∀ (ys acc : List D), acc.length + ys.length ≤ sizeLine → (∀ y ∈ ys, y ∈ xs) → Q (acc ++ ys.map f) h → lcW guard env (.nm g) (fun env' h Q => wpTs Γ cs .nil env' h Q fun _ _ => False) E ys acc h Q := by
    intro ys
    induction ys with
    | nil => intro acc _ _ q; exact ⟨hg, by simpa using q⟩
    | cons y ys ih =>
      intro acc l m q
      refine ⟨hg, g_nm (w_tsnil ?_)⟩
      rw [if_pos rfl]
      refine hs y (m y (by simp)) _ ⟨_, rfl, by simp at l; omega, ih _ (by simp at l ⊢; omega) (fun z hz => m z (by simp [hz])) (by simpa using q)⟩
  exact key xs [] (by simpa using hl) (fun _ h => h) (by simpa using q)
theorem lc_mapL {α : Type} {g : Nat} {E : Ev → AH → (VV → AH → Prop) → Prop} {guard : AH → Prop} {h : AH} {Q : List D → AH → Prop} {env : Ev} (hg : guard h) {f0 : α → D} (f1 : α → D) {ns : List α} (hl : ns.length ≤ sizeLine)
    (hs : ∀ x ∈ ns, ∀ Q : VV → AH → Prop, Q (.d (f1 x)) h → E (env.set g (some (.val (f0 x)))) h Q) (q : Q (ns.map f1) h) :
    lcW guard env (.nm g) (fun env' h Q => wpTs Γ cs .nil env' h Q fun _ _ => False) E (ns.map f0) [] h Q := by
  have key : ∀ (ys : List α) (acc : List D), acc.length + ys.length ≤ sizeLine → (∀ y ∈ ys, y ∈ ns) → Q (acc ++ ys.map f1) h → lcW guard env (.nm g) (fun env' h Q => wpTs Γ cs .nil env' h Q fun _ _ => False) E (ys.map f0) acc h Q := by
    intro ys
    induction ys with
    | nil => intro acc _ _ q; exact ⟨hg, by simpa using q⟩
    | cons y ys ih =>
      intro acc l m q
      refine ⟨hg, g_nm (w_tsnil ?_)⟩
      rw [if_pos rfl]
      refine hs y (m y (by simp)) _ ⟨_, rfl, by simp at l; omega, ih _ (by simp at l ⊢; omega) (fun z hz => m z (by simp [hz])) (by simpa using q)⟩
  exact key ns [] (by simpa using hl) (fun _ h => h) (by simpa using q)
theorem lc_rgm {g : Nat} {E : Ev → AH → (VV → AH → Prop) → Prop} {guard : AH → Prop} {h : AH} {Q : List D → AH → Prop} {env : Ev} (hg : guard h) (f1 : Nat → D) {n : Nat} (hl : n ≤ sizeLine)
    (hs : ∀ j, j < n → ∀ Q : VV → AH → Prop, Q (.d (f1 j)) h → E (env.set g (some (.val (.int (j : Int))))) h Q) (q : Q ((List.range n).map f1) h) :
    lcW guard env (.nm g) (fun env' h Q => wpTs Γ cs .nil env' h Q fun _ _ => False) E (rgD 0 n) [] h Q := by
  rw [rgD0]
  exact lc_mapL hg f1 (by simpa using hl) (fun x hx => hs x (by simpa using hx)) q
theorem lc_filtL {α : Type} {g : Nat} {t : CT} {E : Ev → AH → (VV → AH → Prop) → Prop} {guard : AH → Prop} {h : AH} {Q : List D → AH → Prop} {env : Ev} (hg : guard h) {f0 : α → D} (p : α → Bool) (f1 : α → D) {xs : List α} (hl : xs.length ≤ sizeLine)
    (ht : ∀ x ∈ xs, ∀ Q : Bool → AH → Prop, Q (p x) h → wpT Γ cs t (env.set g (some (.val (f0 x)))) h Q fun _ _ => False)
    (hs : ∀ x ∈ xs, p x = true → ∀ Q : VV → AH → Prop, Q (.d (f1 x)) h → E (env.set g (some (.val (f0 x)))) h Q) (q : Q ((xs.filter p).map f1) h) :
    lcW guard env (.nm g) (fun env' h Q => wpTs Γ cs (.cons t .nil) env' h Q fun _ _ => False) E (xs.map f0) [] h Q := by
  have key : ∀ (ys : List α) (acc : List D), acc.length + ys.length ≤ sizeLine → (∀ y ∈ ys, y ∈ xs) → Q (acc ++ (ys.filter p).map f1) h → lcW guard env (.nm g) (fun env' h Q => wpTs Γ cs (.cons t .nil) env' h Q fun _ _ => False) E (ys.map f0) acc h Q := by
    intro ys
    induction ys with
    | nil => intro acc _ _ q; exact ⟨hg, by simpa using q⟩
    | cons y ys ih =>
      intro acc l m q
      refine ⟨hg, g_nm (w_tscons (ht y (m y (by simp)) _ ?_))⟩
      cases hp : p y with
      | true =>
        rw [if_pos rfl]
        refine w_tsnil ?_
        rw [if_pos rfl]
        refine hs y (m y (by simp)) hp _ ⟨_, rfl, by simp at l; omega, ih _ (by simp at l ⊢; omega) (fun z hz => m z (by simp [hz])) (by simpa [hp] using q)⟩
      | false =>
        rw [if_neg (by decide)]
        exact ih _ (by simp at l; omega) (fun z hz => m z (by simp [hz])) (by simpa [hp] using q)
  exact key xs [] (by simpa using hl) (fun _ h => h) (by simpa using q)
theorem lc_rgf {g : Nat} {t : CT} {E : Ev → AH → (VV → AH → Prop) → Prop} {guard : AH → Prop} {h : AH} {Q : List D → AH → Prop} {env : Ev} (hg : guard h) (p : Nat → Bool) (f1 : Nat → D) {n : Nat} (hl : n ≤ sizeLine)
    (ht : ∀ j, j < n → ∀ Q : Bool → AH → Prop, Q (p j) h → wpT Γ cs t (env.set g (some (.val (.int (j : Int))))) h Q fun _ _ => False)
    (hs : ∀ j, j < n → p j = true → ∀ Q : VV → AH → Prop, Q (.d (f1 j)) h → E (env.set g (some (.val (.int (j : Int))))) h Q) (q : Q (((List.range n).filter p).map f1) h) :
    lcW guard env (.nm g) (fun env' h Q => wpTs Γ cs (.cons t .nil) env' h Q fun _ _ => False) E (rgD 0 n) [] h Q := by
  rw [rgD0]
  exact lc_filtL hg p f1 (by simpa using hl) (fun x hx => ht x (by simpa using hx)) (fun x hx => hs x (by simpa using hx)) q
/-- a comprehension with one test -/
theorem lc_filt {g : Nat} {t : CT} {E : Ev → AH → (VV → AH → Prop) → Prop} {guard : AH → Prop} {h : AH} {Q : List D → AH → Prop} {env : Ev} (hg : guard h) (p : D → Bool) (f : D → D) {xs : List D} (hl : xs.length ≤ sizeLine)
    (ht : ∀ x ∈ xs, ∀ Q : Bool → AH → Prop, Q (p x) h → wpT Γ cs t (env.set g (some (.val x))) h Q fun _ _ => False)
    (hs : ∀ x ∈ xs, p x = true → ∀ Q : VV → AH → Prop, Q (.d (f x)) h → E (env.set g (some (.val x))) h Q) (q : Q ((xs.filter p).map f) h) :
    lcW guard env (.nm g) (fun env' h Q => wpTs Γ cs (.cons t .nil) env' h Q fun _ _ => False) E xs [] h Q := by
  have key : ∀ (ys acc : List D), acc.length + ys.length ≤ sizeLine → (∀ y ∈ ys, y ∈ xs) → Q (acc ++ (ys.filter p).map f) h → lcW guard env (.nm g) (fun env' h Q => wpTs Γ cs (.cons t .nil) env' h Q fun _ _ => False) E ys acc h Q := by
    intro ys
    induction ys with
    | nil => intro acc _ _ q; exact ⟨hg, by simpa using q⟩
    | cons y ys ih =>
      intro acc l m q
      refine ⟨hg, g_nm (w_tscons (ht y (m y (by simp)) _ ?_))⟩
      cases hp : p y with
      | true =>
        rw [if_pos rfl]
        refine w_tsnil ?_
        rw [if_pos rfl]
        refine hs y (m y (by simp)) hp _ ⟨_, rfl, by simp at l; omega, ih _ (by simp at l ⊢; omega) (fun z hz => m z (by simp [hz])) (by simpa [hp] using q)⟩
      | false =>
        rw [if_neg (by decide)]
        exact ih _ (by simp at l; omega) (fun z hz => m z (by simp [hz])) (by simpa [hp] using q)
  exact key xs [] (by simpa using hl) (fun _ h => h) (by simpa using q)
end
/-! ### items -/
section
variable {α : Type} {f : α → D} {ns : List α} {j : Nat} {P : D → Prop} {h : AH}
theorem x_fz (hj : j < ns.length) (q : P (f (ns[j]'hj))) : ixW h (.d (.fz (ns.map f))) (.d (.int (j : Int))) P := .inl ⟨_, _, _, rfl, rfl, atI_nat (by rw [List.getElem?_map, List.getElem?_eq_getElem hj]; rfl), q⟩
theorem x_fzA {i : Int} (h0 : 0 ≤ i) (h1 : i < ns.length) (q : ∀ x ∈ ns, P (f x)) : ixW h (.d (.fz (ns.map f))) (.d (.int i)) P := by
  obtain ⟨j, rfl⟩ := Int.eq_ofNat_of_zero_le h0
  exact x_fz (by omega) (q _ (List.getElem_mem _))
theorem x_tupA {i : Int} (h0 : 0 ≤ i) (h1 : i < ns.length) (q : ∀ x ∈ ns, P (f x)) : ixW h (.d (.tup (ns.map f))) (.d (.int i)) P := by
  obtain ⟨j, rfl⟩ := Int.eq_ofNat_of_zero_le h0
  exact .inl ⟨_, _, _, rfl, rfl, atI_nat (by rw [List.getElem?_map, List.getElem?_eq_getElem (by omega)]; rfl), q _ (List.getElem_mem _)⟩
theorem x_tup (hj : j < ns.length) (q : P (f (ns[j]'hj))) : ixW h (.d (.tup (ns.map f))) (.d (.int (j : Int))) P := .inl ⟨_, _, _, rfl, rfl, atI_nat (by rw [List.getElem?_map, List.getElem?_eq_getElem hj]; rfl), q⟩
theorem x_tw (hj : j < ns.length) (q : P (f (ns[j]'hj))) : ixW h (.tw (.lst (ns.map f))) (.d (.int (j : Int))) P := .inl ⟨_, _, _, rfl, rfl, atI_nat (by rw [List.getElem?_map, List.getElem?_eq_getElem hj]; rfl), q⟩
theorem x_bw (hj : j < ns.length) (q : P (f (ns[j]'hj))) : ixW h (.bw (.lst (ns.map f))) (.d (.int (j : Int))) P := .inl ⟨_, _, _, rfl, rfl, atI_nat (by rw [List.getElem?_map, List.getElem?_eq_getElem hj]; rfl), q⟩
end
section
variable {P : D → Prop} {h : AH} {a b c d : D} {r : List D}
theorem x0 (q : P a) : ixW h (.d (.tup (a :: r))) (.d (.int 0)) P := .inl ⟨_, _, _, rfl, rfl, atI_nat (j := 0) rfl, q⟩
theorem x1 (q : P b) : ixW h (.d (.tup (a :: b :: r))) (.d (.int 1)) P := .inl ⟨_, _, _, rfl, rfl, atI_nat (j := 1) rfl, q⟩
theorem x2 (q : P c) : ixW h (.d (.tup (a :: b :: c :: r))) (.d (.int 2)) P := .inl ⟨_, _, _, rfl, rfl, atI_nat (j := 2) rfl, q⟩
theorem x3 (q : P d) : ixW h (.d (.tup (a :: b :: c :: d :: r))) (.d (.int 3)) P := .inl ⟨_, _, _, rfl, rfl, atI_nat (j := 3) rfl, q⟩
end
section
variable {h : AH} {α : Type} {f : α → D} {ns : List α} {P : D → Prop}
/-- an own list's item is set -/
theorem set_nat {Pn : List D → Nat → D → Prop} {o' : AO → Prop} {j : Nat} {x : D} (hj : j < ns.length) (q : Pn (ns.map f) j x) :
    ∃ a b, VV.d x = .d a ∧ VV.d (.int (j : Int)) = .d b ∧ ((∃ xs z i, AO.lst (ns.map f) = .lst xs ∧ b = .int z ∧ ixN xs.length z = some i ∧ Pn xs i a) ∨ ∃ o, (AO.lst (ns.map f)).put b a = some o ∧ o' o) := by
  refine ⟨x, _, rfl, rfl, .inl ⟨_, _, j, rfl, rfl, ?_, q⟩⟩
  rw [List.length_map]
  unfold ixN
  rw [if_pos (by omega), if_pos (by omega)]
  simp
theorem isI_tt {xs : List D} (q : P (.bl true)) : biW (.isI "tuple") h [.d (.tup xs)] P := ⟨true, rfl, q⟩
theorem isI_ii {i : Int} (q : P (.bl true)) : biW (.isI "int") h [.d (.int i)] P := ⟨true, rfl, q⟩
theorem isI_bi {i : Int} (q : P (.bl false)) : biW (.isI "bool") h [.d (.int i)] P := ⟨false, rfl, q⟩
theorem isI_lf {xs : List D} (q : P (.bl true)) : biW (.isI "list") h [.d (.fz xs)] P := ⟨true, rfl, q⟩
theorem isI_lo {xs : List D} (q : P (.bl true)) : biW (.isI "list") h [.tw (.lst xs)] P := ⟨true, rfl, q⟩
theorem isI_lr {n : Nat} {xs : List D} (e : h[n]? = some (.lst xs)) (q : P (.bl true)) : biW (.isI "list") h [.d (.ref n)] P := ⟨true, by simp [isT, e], q⟩
theorem isI_lb {xs : List D} (q : P (.bl true)) : biW (.isI "list") h [.bw (.lst xs)] P := ⟨true, rfl, q⟩
end
/-! ### equal data -/
mutual
theorem eqv_self : ∀ (d : D) (n : Nat), d.fla n = true → D.eqv d d = true
  | .non, _, _ => by simp [D.eqv]
  | .bl _, _, _ => by simp [D.eqv]
  | .int _, _, _ => by simp [D.eqv]
  | .str _, _, _ => by simp [D.eqv]
  | .tup xs, 0, h => by simp [D.fla] at h
  | .tup xs, m + 1, h => by simp only [D.fla] at h; simp only [D.eqv]; exact eqvs_self xs m h
  | .fz xs, 0, h => by simp [D.fla] at h
  | .fz xs, m + 1, h => by simp only [D.fla] at h; simp only [D.eqv]; exact eqvs_self xs m h
  | .ref _, _, h => by simp [D.fla] at h
theorem eqvs_self : ∀ (xs : List D) (n : Nat), D.flas n xs = true → D.eqvs xs xs = true
  | [], _, _ => by simp [D.eqvs]
  | x :: xs, n, h => by
    simp only [D.flas, Bool.and_eq_true] at h
    simp only [D.eqvs, Bool.and_eq_true]
    exact ⟨eqv_self x n h.1, eqvs_self xs n h.2⟩
end
theorem flas_map {α : Type} {f : α → D} {n : Nat} : ∀ {ns : List α}, (∀ x ∈ ns, (f x).fla n = true) → D.flas n (ns.map f) = true
  | [], _ => by simp [D.flas]
  | x :: xs, h => by
    simp only [List.map_cons, D.flas, Bool.and_eq_true]
    exact ⟨h x (by simp), flas_map fun y hy => h y (by simp [hy])⟩
theorem fla_int {i : Int} {n : Nat} : (D.int i).fla n = true := by simp [D.fla]
theorem fla_tup {xs : List D} {n : Nat} (h : D.flas n xs = true) : (D.tup xs).fla (n + 1) = true := by simp only [D.fla]; exact h
theorem fla_fz {xs : List D} {n : Nat} (h : D.flas n xs = true) : (D.fz xs).fla (n + 1) = true := by simp only [D.fla]; exact h
theorem c_ne {h : AH} {P : D → Prop} {x y : VV} {a b : D} (e1 : x.dat h = some a) (e2 : y.dat h = some b) (h1 : a.fla 60 = true) (h2 : b.fla 60 = true) (q : P (.bl (!D.eqv a b))) : cmpW .ne h x y P := ⟨a, b, .inl e1, .inl e2, h1, h2, q⟩
theorem c_eq {h : AH} {P : D → Prop} {x y : VV} {a b : D} (e1 : x.dat h = some a) (e2 : y.dat h = some b) (h1 : a.fla 60 = true) (h2 : b.fla 60 = true) (q : P (.bl (D.eqv a b))) : cmpW .eq h x y P := ⟨a, b, .inl e1, .inl e2, h1, h2, q⟩
/-- the two are the same -/
theorem c_neS {h : AH} {P : D → Prop} {x y : VV} {a : D} (e1 : x.dat h = some a) (e2 : y.dat h = some a) (h1 : a.fla 60 = true) (q : P (.bl false)) : cmpW .ne h x y P := c_ne e1 e2 h1 h1 (by rw [eqv_self a 60 h1]; exact q)
theorem c_eqS {h : AH} {P : D → Prop} {x y : VV} {a : D} (e1 : x.dat h = some a) (e2 : y.dat h = some a) (h1 : a.fla 60 = true) (q : P (.bl true)) : cmpW .eq h x y P := c_eq e1 e2 h1 h1 (by rw [eqv_self a 60 h1]; exact q)
theorem c_leD {h : AH} {P : D → Prop} {x y : VV} {a b : D} (e1 : x.dat h = some a) (e2 : y.dat h = some b) (h1 : a.fla 60 = true) (h2 : b.fla 60 = true) (h3 : D.alike a b = true) (q : P (.bl (!D.ltd b a))) : cmpW .leD h x y P := ⟨a, b, e1, e2, h1, h2, h3, q⟩
theorem ltds_int {i j : Int} {xs ys : List D} : D.ltds (.int i :: xs) (.int j :: ys) = if i = j then D.ltds xs ys else decide (i < j) := by
  simp [D.ltds, D.eqv, D.ltd]
theorem cutD_none (xs : List D) (k : Nat) : cutD xs none (some (k : Int)) = xs.take k := by
  unfold cutD
  rw [HT.sIx_none, HT.sIx_nat, Nat.sub_zero, List.drop_zero]
  rcases Nat.le_total k xs.length with h | h
  · rw [Nat.min_eq_left h]
  · rw [Nat.min_eq_right h, List.take_of_length_le (Nat.le_refl _), List.take_of_length_le h]
section
variable {h : AH} {P : List D → Prop} {xs : List D} {R : Prop}
theorem e_tup (q : P xs) : (∃ ys, (VV.d (.tup xs)).seq h = some ys ∧ P ys) ∨ R := .inl ⟨xs, rfl, q⟩
theorem e_fz (q : P xs) : (∃ ys, (VV.d (.fz xs)).seq h = some ys ∧ P ys) ∨ R := .inl ⟨xs, rfl, q⟩
theorem e_tw (q : P xs) : (∃ ys, (VV.tw (.lst xs)).seq h = some ys ∧ P ys) ∨ R := .inl ⟨xs, rfl, q⟩
theorem e_bw (q : P xs) : (∃ ys, (VV.bw (.lst xs)).seq h = some ys ∧ P ys) ∨ R := .inl ⟨xs, rfl, q⟩
end
theorem any_nat {ws : List Nat} {y : Nat} : ((ws.map fun (g : Nat) => D.int (g : Int)).any fun z => D.eqv z (.int (y : Int))) = decide (y ∈ ws) := by
  induction ws with
  | nil => simp
  | cons x xs ih =>
    rw [List.map_cons, List.any_cons, ih]
    simp only [D.eqv, List.mem_cons]
    by_cases e : y = x
    · subst e; simp
    · simp [e]; omega
section
variable {h : AH} {P : D → Prop} {ws : List Nat} {y : Nat} {v : VV}
theorem c_notInN (e : (v.obj h).bind AO.list = some (ws.map fun (g : Nat) => D.int (g : Int))) (q : P (.bl (!decide (y ∈ ws)))) : cmpW .notIn h (.d (.int (y : Int))) v P :=
  ⟨_, rfl, .inr ⟨_, e, fla_int, flas_map fun _ _ => fla_int, by rw [any_nat]; exact q⟩⟩
theorem c_isInN (e : (v.obj h).bind AO.list = some (ws.map fun (g : Nat) => D.int (g : Int))) (q : P (.bl (decide (y ∈ ws)))) : cmpW .isIn h (.d (.int (y : Int))) v P :=
  ⟨_, rfl, .inr ⟨_, e, fla_int, flas_map fun _ _ => fla_int, by rw [any_nat]; exact q⟩⟩
theorem c_geD {x y : VV} {a b : D} (e1 : x.dat h = some a) (e2 : y.dat h = some b) (h1 : a.fla 60 = true) (h2 : b.fla 60 = true) (h3 : D.alike a b = true) (q : P (.bl (!D.ltd a b))) : cmpW .geD h x y P := ⟨a, b, e1, e2, h1, h2, h3, q⟩
theorem c_ltD {x y : VV} {a b : D} (e1 : x.dat h = some a) (e2 : y.dat h = some b) (h1 : a.fla 60 = true) (h2 : b.fla 60 = true) (h3 : D.alike a b = true) (q : P (.bl (D.ltd a b))) : cmpW .ltD h x y P := ⟨a, b, e1, e2, h1, h2, h3, q⟩
end
theorem nodup_le : ∀ (n : Nat) (l : List Nat), l.Nodup → (∀ x ∈ l, x < n) → l.length ≤ n
  | 0, [], _, _ => Nat.le_refl _
  | 0, x :: l, _, h => absurd (h x (by simp)) (by omega)
  | n + 1, l, hn, h => by
    have := nodup_le n (l.erase n) (hn.erase n) (fun x hx => by
      have h1 := (hn.mem_erase_iff).mp hx
      have := h x h1.2
      have := h1.1
      omega)
    rw [List.length_erase] at this
    split at this <;> omega
theorem fla_boolD {b : Bool} {n : Nat} : (D.bl b).fla n = true := by simp [D.fla]
/-! ### enders of w_tup, w_dsp, w_ival, w_irg -/
theorem t_1 {a : D} {P : List D → Prop} (q : P [a]) : ∃ xs, [VV.d a] = xs.map VV.d ∧ xs.length ≤ sizeLine ∧ P xs := ⟨[a], rfl, by simp only [List.length]; decide, q⟩
theorem t_0 {P : List D → Prop} (q : P []) : ∃ xs, ([] : List VV) = xs.map VV.d ∧ xs.length ≤ sizeLine ∧ P xs := ⟨[], rfl, by simp only [List.length]; decide, q⟩
theorem t_2 {a b : D} {P : List D → Prop} (q : P [a, b]) : ∃ xs, [VV.d a, .d b] = xs.map VV.d ∧ xs.length ≤ sizeLine ∧ P xs := ⟨[a, b], rfl, by simp only [List.length]; decide, q⟩
theorem t_3 {a b c : D} {P : List D → Prop} (q : P [a, b, c]) : ∃ xs, [VV.d a, .d b, .d c] = xs.map VV.d ∧ xs.length ≤ sizeLine ∧ P xs := ⟨[a, b, c], rfl, by simp only [List.length]; decide, q⟩
theorem t_4 {a b c d : D} {P : List D → Prop} (q : P [a, b, c, d]) : ∃ xs, [VV.d a, .d b, .d c, .d d] = xs.map VV.d ∧ xs.length ≤ sizeLine ∧ P xs := ⟨[a, b, c, d], rfl, by simp only [List.length]; decide, q⟩
section
variable {h : AH} {P : List D → Prop} {xs : List D}
theorem s_tup (q : P xs) : ∃ ys, (VV.d (.tup xs)).seq h = some ys ∧ P ys := ⟨xs, rfl, q⟩
theorem s_fz (q : P xs) : ∃ ys, (VV.d (.fz xs)).seq h = some ys ∧ P ys := ⟨xs, rfl, q⟩
theorem s_tw (q : P xs) : ∃ ys, (VV.tw (.lst xs)).seq h = some ys ∧ P ys := ⟨xs, rfl, q⟩
theorem s_bw (q : P xs) : ∃ ys, (VV.bw (.lst xs)).seq h = some ys ∧ P ys := ⟨xs, rfl, q⟩
end
section
variable {P : List D → Prop} {h : AH} {xs : List D}
theorem v_tup {cp : Bool} (q : P xs) : (cp = true ∨ ∀ o, VV.d (.tup xs) ≠ .tw o) ∧ ∃ ys, (VV.d (.tup xs)).seq h = some ys ∧ P ys := ⟨.inr (by intro _ e; cases e), xs, rfl, q⟩
theorem v_fz {cp : Bool} (q : P xs) : (cp = true ∨ ∀ o, VV.d (.fz xs) ≠ .tw o) ∧ ∃ ys, (VV.d (.fz xs)).seq h = some ys ∧ P ys := ⟨.inr (by intro _ e; cases e), xs, rfl, q⟩
theorem v_tw (q : P xs) : (true = true ∨ ∀ o, VV.tw (.lst xs) ≠ .tw o) ∧ ∃ ys, (VV.tw (.lst xs)).seq h = some ys ∧ P ys := ⟨.inl rfl, xs, rfl, q⟩
theorem v_bw {cp : Bool} (q : P xs) : (cp = true ∨ ∀ o, VV.bw (.lst xs) ≠ .tw o) ∧ ∃ ys, (VV.bw (.lst xs)).seq h = some ys ∧ P ys := ⟨.inr (by intro _ e; cases e), xs, rfl, q⟩
theorem v_rg1 {i : Int} {P : Prop} (c1 : -(2 ^ 62) ≤ i) (c2 : i < 2 ^ 62) (q : P) : -(2 ^ 62) ≤ i ∧ i < 2 ^ 62 ∧ P := ⟨c1, c2, q⟩
theorem v_rg2 {i j : Int} {P : Int → Int → Prop} (c1 : -(2 ^ 62) ≤ i) (c2 : i < 2 ^ 62) (c3 : -(2 ^ 62) ≤ j) (c4 : j < 2 ^ 62) (q : P i j) : ∃ i' j', VV.d (.int i) = .d (.int i') ∧ VV.d (.int j) = .d (.int j') ∧ (-(2 ^ 62) ≤ i' ∧ i' < 2 ^ 62 ∧ -(2 ^ 62) ≤ j' ∧ j' < 2 ^ 62) ∧ P i' j' := ⟨i, j, rfl, rfl, ⟨c1, c2, c3, c4⟩, q⟩
theorem v_lrg {i : Int} {P : Prop} (c1 : 0 ≤ i) (c2 : i ≤ 16777216) (q : P) : 0 ≤ i ∧ i ≤ 16777216 ∧ P := ⟨c1, c2, q⟩
theorem w_ssv {Γ : GM} {cs : Nat → Option D} {r : CSs} {e e' : Ev} {h : AH} {R : CEnds} (c : e = e') (q : wpSs Γ cs r e' h R) : wpSs Γ cs r e h R := c ▸ q
theorem sz {n : Nat} (h : n < 1000000) : n < sizeLine := Nat.lt_of_lt_of_le h (by decide)
theorem szl {n : Nat} (h : n ≤ 1000000) : n ≤ sizeLine := Nat.le_trans h (by decide)
theorem l_app {P : D → Prop} {d : D} {xs : List D} (c : xs.length < sizeLine) (q : P d) : ∃ x, VV.d d = .d x ∧ xs.length < sizeLine ∧ P x := ⟨d, rfl, c, q⟩
end
theorem x_at {h : AH} {x : VV} {xs : List D} {i : Int} {v : D} {P : D → Prop} (e : x.seq h = some xs) (a : atI xs i = some v) (q : P v) : ixW h x (.d (.int i)) P := .inl ⟨xs, i, v, e, rfl, a, q⟩
end G
namespace G
open PySem L2
/-! ### own dicts with values by value -/
section
variable {κ α β : Type} [DecidableEq κ] [DecidableEq α]
def look (kvs : List (α × β)) (a : α) : Option β := (kvs.find? fun kv => decide (kv.1 = a)).map (·.2)
theorem look_cons {p : α × β} {kvs : List (α × β)} {a : α} : look (p :: kvs) a = if p.1 = a then some p.2 else look kvs a := by
  unfold look
  rw [List.find?_cons]
  by_cases h : p.1 = a
  · rw [if_pos h]; simp [h]
  · rw [if_neg h]; simp [h]
theorem look_nil {a : α} : look ([] : List (α × β)) a = none := rfl
theorem look_app {xs ys : List (α × β)} {a : α} : look (xs ++ ys) a = (look xs a).or (look ys a) := by
  induction xs with
  | nil => simp [look_nil]
  | cons p xs ih =>
    rw [List.cons_append, look_cons, look_cons, ih]
    by_cases h : p.1 = a
    · rw [if_pos h, if_pos h]; rfl
    · rw [if_neg h, if_neg h]
theorem gV_map (e : α → κ) (f : β → D) (he : ∀ a b, e a = e b → a = b) : ∀ (kvs : List (α × β)) (a : α), gV (kvs.map fun p => (e p.1, f p.2)) (e a) = (look kvs a).map f
  | [], a => rfl
  | p :: kvs, a => by
    rw [look_cons]
    have ih := gV_map e f he kvs a
    unfold gV at ih ⊢
    rw [List.map_cons, List.find?_cons]
    by_cases h : p.1 = a
    · rw [if_pos h]; simp [h]
    · have : decide (e p.1 = e a) = false := decide_eq_false fun z => h (he _ _ z)
      rw [if_neg h, ← ih]
      show Option.map _ (match decide (e p.1 = e a) with | true => _ | false => _) = _
      rw [this]
theorem pV_new (e : α → κ) (f : β → D) (he : ∀ a b, e a = e b → a = b) {kvs : List (α × β)} {a : α} (hn : look kvs a = none) (v : β) : pV (kvs.map fun p => (e p.1, f p.2)) (e a) (f v) = (kvs ++ [(a, v)]).map fun p => (e p.1, f p.2) := by
  unfold pV
  rw [if_neg, List.map_append]
  · rfl
  · intro h
    obtain ⟨q, hq, hk⟩ := List.any_eq_true.mp h
    obtain ⟨p, hp, rfl⟩ := List.mem_map.mp hq
    have e1 : p.1 = a := he _ _ (by simpa using hk)
    unfold look at hn
    rw [Option.map_eq_none_iff, List.find?_eq_none] at hn
    exact hn p hp (by simp [e1])
def setV (kvs : List (α × β)) (a : α) (v : β) : List (α × β) := if (look kvs a).isSome = true then kvs.map (fun kv => if kv.1 = a then (kv.1, v) else kv) else kvs ++ [(a, v)]
theorem look_isSome {kvs : List (α × β)} {a : α} : (look kvs a).isSome = kvs.any fun kv => decide (kv.1 = a) := by
  induction kvs with
  | nil => rfl
  | cons p kvs ih =>
    rw [look_cons, List.any_cons, ← ih]
    by_cases h : p.1 = a
    · rw [if_pos h]; simp [h]
    · rw [if_neg h]; simp [h]
theorem pV_map (e : α → κ) (f : β → D) (he : ∀ a b, e a = e b → a = b) (kvs : List (α × β)) (a : α) (v : β) : pV (kvs.map fun p => (e p.1, f p.2)) (e a) (f v) = (setV kvs a v).map fun p => (e p.1, f p.2) := by
  have h1 : ((kvs.map fun p => (e p.1, f p.2)).any fun kv => decide (kv.1 = e a)) = (look kvs a).isSome := by
    rw [look_isSome, List.any_map]
    congr 1
    funext p
    by_cases h : p.1 = a
    · simp [h]
    · have : e p.1 ≠ e a := fun z => h (he _ _ z)
      simp [h, this]
  unfold pV setV
  rw [h1]
  by_cases h : (look kvs a).isSome = true
  · rw [if_pos h, if_pos h, List.map_map, List.map_map]
    refine List.map_congr_left fun p _ => ?_
    by_cases hp : p.1 = a
    · simp [hp]
    · have : e p.1 ≠ e a := fun z => hp (he _ _ z)
      simp [hp, this]
  · rw [if_neg h, if_neg h, List.map_append]; rfl
theorem look_setV {kvs : List (α × β)} {a b : α} {v : β} : look (setV kvs a v) b = if a = b then some v else look kvs b := by
  unfold setV
  by_cases h : (look kvs a).isSome = true
  · rw [if_pos h]
    induction kvs with
    | nil => simp [look_nil] at h
    | cons p kvs ih =>
      rw [List.map_cons, look_cons, look_cons]
      rw [look_cons] at h
      by_cases hp : p.1 = a
      · rw [if_pos hp]
        by_cases hab : a = b
        · rw [if_pos hab]; simp [hp, hab]
        · rw [if_neg hab]
          simp only [hp]
          rw [if_neg hab, if_neg hab]
          by_cases h2 : (look kvs a).isSome = true
          · rw [ih h2, if_neg hab]
          · have : kvs.map (fun kv => if kv.1 = a then (kv.1, v) else kv) = kvs := by
              rw [look_isSome] at h2
              have h3 : ∀ q ∈ kvs, q.1 ≠ a := fun q hq e => h2 (List.any_eq_true.mpr ⟨q, hq, by simp [e]⟩)
              conv => rhs; rw [← List.map_id kvs]
              exact List.map_congr_left fun q hq => by rw [if_neg (h3 q hq)]; rfl
            rw [this]
      · rw [if_neg hp]
        rw [if_neg hp] at h
        rw [ih h]
        by_cases hab : a = b
        · subst hab; simp [hp]
        · simp [hab]
  · rw [if_neg h, look_app, look_cons, look_nil]
    have : look kvs a = none := by cases e : look kvs a <;> simp_all
    by_cases hab : a = b
    · subst hab; rw [this, if_pos rfl]; simp
    · rw [if_neg hab, if_neg hab]; cases look kvs b <;> rfl
theorem setV_len {kvs : List (α × β)} {a : α} {v : β} : (setV kvs a v).length = if (look kvs a).isSome = true then kvs.length else kvs.length + 1 := by
  unfold setV
  split <;> simp
end
/-- keys of a kind, and the dict with them -/
structure KeyT (α : Type) [DecidableEq α] where
  kd : α → D
  ob : {β : Type} → (β → D) → List (α × β) → AO
  get : ∀ {β : Type} (f : β → D) (kvs : List (α × β)) (a : α), (ob f kvs).get (kd a) = some ((look kvs a).map f)
  put : ∀ {β : Type} (f : β → D) (kvs : List (α × β)) (a : α) (v : β), kvs.length < sizeLine → (ob f kvs).put (kd a) (f v) = some (ob f (setV kvs a v))
  size : ∀ {β : Type} (f : β → D) (kvs : List (α × β)), (ob f kvs).size = some kvs.length
  nol : ∀ {β : Type} (f : β → D) (kvs : List (α × β)), (ob f kvs).list = none
  emp : ∀ {β : Type} (f : β → D), ob f [] = .dK [] ∨ ob f [] = .dT []
def intKey : KeyT Int where
  kd := .int
  ob f kvs := .dK (kvs.map fun p => (.inl p.1, f p.2))
  get f kvs a := by
    show some (gV _ _) = _
    exact congrArg some (gV_map (κ := Key) Sum.inl f (fun a b h => by cases h; rfl) kvs a)
  put f kvs a v h := by
    show (if (kvs.map fun p => ((Sum.inl p.1 : Key), f p.2)).length < sizeLine then some (AO.dK (pV _ _ _)) else none) = _
    rw [List.length_map, if_pos h]
    exact congrArg (fun z => some (AO.dK z)) (pV_map (κ := Key) Sum.inl f (fun a b h => by cases h; rfl) kvs a v)
  size f kvs := by show some _ = _; rw [List.length_map]
  nol _ _ := rfl
  emp _ := .inl rfl
def listKey : KeyT (List Int) where
  kd w := .tup (w.map .int)
  ob f kvs := .dT (kvs.map fun p => (p.1.map Sum.inl, f p.2))
  get f kvs a := by
    show (keysOf _).map _ = _
    have e : ∀ w : List Int, keysOf (w.map .int) = some (w.map Sum.inl) := by
      intro w
      induction w with
      | nil => rfl
      | cons i w ih => simp only [List.map_cons, keysOf, D.key, ih]
    rw [e]
    exact congrArg some (gV_map (κ := List Key) (List.map Sum.inl) f (fun a b h => List.map_inj_right (fun _ _ z => Sum.inl.inj z) |>.mp h) kvs a)
  put f kvs a v h := by
    show (keysOf _).bind _ = _
    have e : ∀ w : List Int, keysOf (w.map .int) = some (w.map Sum.inl) := by
      intro w
      induction w with
      | nil => rfl
      | cons i w ih => simp only [List.map_cons, keysOf, D.key, ih]
    rw [e]
    show (if (kvs.map fun p => ((p.1.map Sum.inl : List Key), f p.2)).length < sizeLine then some (AO.dT (pV _ _ _)) else none) = _
    rw [List.length_map, if_pos h]
    exact congrArg (fun z => some (AO.dT z)) (pV_map (κ := List Key) (List.map Sum.inl) f (fun a b h => List.map_inj_right (fun _ _ z => Sum.inl.inj z) |>.mp h) kvs a v)
  size f kvs := by show some _ = _; rw [List.length_map]
  nol _ _ := rfl
  emp _ := .inr rfl
section
variable {α β : Type} [DecidableEq α] {T : KeyT α} {f : β → D} {kvs : List (α × β)} {a : α} {h : AH} {P : D → Prop}
theorem k_notIn (q : P (.bl (!(look kvs a).isSome))) : cmpW .notIn h (.d (T.kd a)) (.tw (T.ob f kvs)) P :=
  ⟨_, rfl, .inl ⟨_, _, rfl, T.get f kvs a, by simpa using q⟩⟩
theorem k_isIn (q : P (.bl (look kvs a).isSome)) : cmpW .isIn h (.d (T.kd a)) (.tw (T.ob f kvs)) P :=
  ⟨_, rfl, .inl ⟨_, _, rfl, T.get f kvs a, by simpa using q⟩⟩
theorem k_get {v : β} (e : look kvs a = some v) (q : P (f v)) : ixW h (.tw (T.ob f kvs)) (.d (T.kd a)) P :=
  .inr ⟨_, _, _, rfl, rfl, by rw [T.get, e]; rfl, q⟩
theorem k_len (q : P (.int kvs.length)) : biW .len h [.tw (T.ob f kvs)] P := ⟨_, T.size f kvs, q⟩
theorem k_put {Pl : List D → Nat → D → Prop} {Po : AO → Prop} {v : β} (hl : kvs.length < sizeLine) (q : Po (T.ob f (setV kvs a v))) :
    ∃ x y, VV.d (f v) = .d x ∧ VV.d (T.kd a) = .d y ∧ ((∃ xs z j, T.ob f kvs = .lst xs ∧ y = .int z ∧ ixN xs.length z = some j ∧ Pl xs j x) ∨ ∃ o', (T.ob f kvs).put y x = some o' ∧ Po o') :=
  ⟨_, _, rfl, rfl, .inr ⟨_, T.put f kvs a v hl, q⟩⟩
theorem w_sasgDk {Γ : GM} {cs : Nat → Option D} {env : Ev} {i : Nat} {rn : Ev → AH → Prop} {rt : RR → AH → Prop} {rb rc : Ev → AH → Prop} {rx : EX → Ev → AH → Prop} (T : KeyT α) (f : β → D) (q : rn (env.set i (some (.own (T.ob f [])))) h) : wpS Γ cs (.asgD i) env h ⟨rn, rt, rb, rc, rx⟩ := by
  rcases T.emp f with e | e
  · rw [e] at q; exact .inl q
  · rw [e] at q; exact .inr q
end
end G

namespace G
open PySem L2
/-! ### the heap's objects; exceptions; instances -/
section
variable {Γ : GM} {cs : Nat → Option D} {env : Ev} {h : AH} {X : EX → AH → Prop} {Q : VV → AH → Prop}
theorem w_getD {o k : CE} (q : wpE Γ cs o env h (fun x h1 => (∃ ob, x.obj h1 = some ob ∧ ob.isD = true) ∧ wpE Γ cs k env h1 (fun y h2 => ∃ a u r, x.obj h2 = some a ∧ y = .d u ∧ a.get u = some r ∧ Q (.d (r.getD .non)) h2) X) X) : wpE Γ cs (.getD o k) env h Q X := q
theorem w_newL {l : LE} (q : wpL Γ cs l env h (fun xs h1 => newW h1 (.lst xs) Q) X) : wpE Γ cs (.newL l) env h Q X := q
theorem w_newD {t : Bool} (q : newW h (if t = true then .dT [] else .dK []) Q) : wpE Γ cs (.newD t) env h Q X := q
theorem l_new {o : AO} (q : Q (.d (.ref h.length)) (h ++ [o])) : newW h o Q := q
theorem w_sdf {o k v : CE} (q : wpE Γ cs o env h (fun x h1 => (∃ ob, x.obj h1 = some ob ∧ ob.isD = true) ∧ wpE Γ cs k env h1 (fun y h2 => wpE Γ cs v env h2 (fun z h3 => setdW h3 x y z Q) X) X) X) : wpE Γ cs (.sdf o k v) env h Q X := q
theorem w_appX {o a : CE} (q : wpE Γ cs o env h (fun x h1 => (∃ n xs, hL h1 x = some (n, xs)) ∧ wpE Γ cs a env h1 (fun y h2 => ∃ n xs v, hL h2 x = some (n, xs) ∧ y = .d v ∧ xs.length < sizeLine ∧ Q (.d .non) (h2.set n (.lst (xs ++ [v])))) X) X) : wpE Γ cs (.appX o a) env h Q X := q
theorem w_extX {o : CE} {l : LE} (q : wpE Γ cs o env h (fun x h1 => (∃ n xs, hL h1 x = some (n, xs)) ∧ wpL Γ cs l env h1 (fun ys h2 => ∃ n xs, hL h2 x = some (n, xs) ∧ xs.length + ys.length ≤ sizeLine ∧ Q (.d .non) (h2.set n (.lst (xs ++ ys)))) X) X) : wpE Γ cs (.extX o l) env h Q X := q
theorem w_clrX {o : CE} (q : wpE Γ cs o env h (fun x h1 => ∃ n xs, hL h1 x = some (n, xs) ∧ Q (.d .non) (h1.set n (.lst []))) X) : wpE Γ cs (.clrX o) env h Q X := q
theorem w_popX {o : CE} (q : wpE Γ cs o env h (fun x h1 => ∃ n xs v, hL h1 x = some (n, xs) ∧ xs[xs.length - 1]? = some v ∧ Q (.d v) (h1.set n (.lst xs.dropLast))) X) : wpE Γ cs (.popX o) env h Q X := q
theorem w_popAt {o i : CE} (q : wpE Γ cs o env h (fun x h1 => (∃ n xs, hL h1 x = some (n, xs)) ∧ wpE Γ cs i env h1 (fun y h2 => ∃ n xs j k v, hL h2 x = some (n, xs) ∧ y = .d (.int j) ∧ -(2 ^ 63) ≤ j ∧ j < 2 ^ 63 ∧ seqIndex? j xs.length = some k ∧ xs[k]? = some v ∧ Q (.d v) (h2.set n (.lst (xs.eraseIdx k)))) X) X) : wpE Γ cs (.popAt o i) env h Q X := q
theorem w_idx {o a : CE} (q : wpE Γ cs o env h (fun x h1 => (∃ xs, (x.obj h1).bind AO.list = some xs) ∧ wpE Γ cs a env h1 (fun y h2 => idxW h2 x y fun z => Q (.d z) h2) X) X) : wpE Γ cs (.idx o a) env h Q X := q
theorem w_divm {a b : CE} (q : wpE Γ cs a env h (fun x h1 => wpE Γ cs b env h1 (fun y h2 => ∃ i j, x = .d (.int i) ∧ y = .d (.int j) ∧ cDiv j ∧ Q (.d (.tup [.int (i / j), .int (i % j)])) h2) X) X) : wpE Γ cs (.divm a b) env h Q X := q
theorem w_fld {k : Nat} {o : CE} {f : Str} (q : wpE Γ cs o env h (fun x h1 => ∃ n c fs d, x = .d (.ref n) ∧ h1[n]? = some (.ins c fs) ∧ c < k ∧ fs.lookup f = some d ∧ Q (.d d) h1) X) : wpE Γ cs (.fld k o f) env h Q X := q
theorem w_meth {c f : Nat} {m : Str} {o : CE} {es : CEs} (q : wpE Γ cs o env h (fun x h1 => ∃ n fs, x = .d (.ref n) ∧ h1[n]? = some (.ins c fs) ∧ fs.lookup m = none ∧ wpEs Γ cs es env h1 (fun vs h2 => Γ f (x :: vs.map toArg) h2 (RR.rd Q) X) X) X) : wpE Γ cs (.meth c m f o es) env h Q X := q
theorem w_mk {c f : Nat} {es : CEs} (q : wpEs Γ cs es env h (fun vs h1 => Γ (f + 1000) (.d (.ref h1.length) :: vs.map toArg) (h1 ++ [.ins c []]) (fun r h2 => r = .d .non ∧ Q (.d (.ref h1.length)) h2) X) X) : wpE Γ cs (.mk c f es) env h Q X := q
theorem w_listRg2 {Ql : List D → AH → Prop} {a b : CE} (q : wpE Γ cs a env h (fun x h1 => wpE Γ cs b env h1 (fun y h2 => ∃ i j, x = .d (.int i) ∧ y = .d (.int j) ∧ (-(2 ^ 62) ≤ i ∧ i < 2 ^ 62 ∧ -(2 ^ 62) ≤ j ∧ j < 2 ^ 62) ∧ (j - i).toNat ≤ 16777216 ∧ Ql (rgD i (j - i).toNat) h2) X) X) : wpL Γ cs (.listRg2 a b) env h Ql X := q
/-! leaves -/
theorem r_list {A : Prop} {n : Nat} {xs : List D} (e : h[n]? = some (.lst xs)) (q : A) : (∃ m ys, hL h (.d (.ref n)) = some (m, ys)) ∧ A := ⟨⟨n, xs, by simp [hL, e]⟩, q⟩
theorem app_at {n : Nat} {xs : List D} {v : D} (e : h[n]? = some (.lst xs)) (l : xs.length < sizeLine) (q : Q (.d .non) (h.set n (.lst (xs ++ [v])))) : ∃ m ys u, hL h (.d (.ref n)) = some (m, ys) ∧ VV.d v = .d u ∧ ys.length < sizeLine ∧ Q (.d .non) (h.set m (.lst (ys ++ [u]))) := ⟨n, xs, v, by simp [hL, e], rfl, l, q⟩
theorem ext_at {n : Nat} {xs zs : List D} (e : h[n]? = some (.lst xs)) (l : xs.length + zs.length ≤ sizeLine) (q : Q (.d .non) (h.set n (.lst (xs ++ zs)))) : ∃ m ys, hL h (.d (.ref n)) = some (m, ys) ∧ ys.length + zs.length ≤ sizeLine ∧ Q (.d .non) (h.set m (.lst (ys ++ zs))) := ⟨n, xs, by simp [hL, e], l, q⟩
theorem pop_at {n : Nat} {xs : List D} {v : D} (e : h[n]? = some (.lst (xs ++ [v]))) (q : Q (.d v) (h.set n (.lst xs))) : ∃ m ys u, hL h (.d (.ref n)) = some (m, ys) ∧ ys[ys.length - 1]? = some u ∧ Q (.d u) (h.set m (.lst ys.dropLast)) :=
  ⟨n, xs ++ [v], v, by simp [hL, e], by simp, by rw [List.dropLast_concat]; exact q⟩
theorem idx_at {P : D → Prop} {v : VV} {xs : List D} {a : D} {j : Nat} (e : (v.obj h).bind AO.list = some xs) (f1 : a.fla 60 = true) (f2 : D.flas 59 xs = true) (ej : (xs.findIdx? fun z => D.eqv z a) = some j) (q : P (.int (j : Nat))) : idxW h v (.d a) P := ⟨xs, a, j, e, rfl, f1, f2, ej, q⟩
theorem fld_at {n c k : Nat} {fs : List (Str × D)} {f : Str} {d : D} (e : h[n]? = some (.ins c fs)) (hc : c < k) (el : fs.lookup f = some d) (q : Q (.d d) h) : ∃ m c' gs u, VV.d (.ref n) = .d (.ref m) ∧ h[m]? = some (.ins c' gs) ∧ c' < k ∧ gs.lookup f = some u ∧ Q (.d u) h := ⟨n, c, fs, d, rfl, e, hc, el, q⟩
theorem meth_at {A : Prop} {n c : Nat} {fs : List (Str × D)} {m : Str} (e : h[n]? = some (.ins c fs)) (el : fs.lookup m = none) (q : A) : ∃ n' gs, VV.d (.ref n) = .d (.ref n') ∧ h[n']? = some (.ins c gs) ∧ gs.lookup m = none ∧ A := ⟨n, fs, rfl, e, el, q⟩
theorem divm_at {i j : Int} (c1 : 0 < j) (c2 : j < 1073741824) (q : Q (.d (.tup [.int (i / j), .int (i % j)])) h) : ∃ i' j', VV.d (.int i) = .d (.int i') ∧ VV.d (.int j) = .d (.int j') ∧ cDiv j' ∧ Q (.d (.tup [.int (i' / j'), .int (i' % j')])) h := ⟨i, j, rfl, rfl, ⟨c1, c2⟩, q⟩
theorem sdf_new {n : Nat} {o o' : AO} {a v : D} (e : h[n]? = some o) (hs : ∃ m, o.size = some m ∧ m < sizeLine) (eg : o.get a = some none) (ep : o.put a v = some o') (q : Q (.d v) (h.set n o')) : setdW h (.d (.ref n)) (.d a) (.d v) Q := ⟨n, o, a, v, none, rfl, e, rfl, rfl, eg, hs, o', ep, q⟩
theorem sdf_old {n : Nat} {o : AO} {a v w : D} (e : h[n]? = some o) (hs : ∃ m, o.size = some m ∧ m < sizeLine) (eg : o.get a = some (some w)) (q : Q (.d w) h) : setdW h (.d (.ref n)) (.d a) (.d v) Q := ⟨n, o, a, v, some w, rfl, e, rfl, rfl, eg, hs, q⟩
section
variable {rn : Ev → AH → Prop} {rt : RR → AH → Prop} {rb rc : Ev → AH → Prop} {rx : EX → Ev → AH → Prop}
theorem w_sasgD1 {i : Nat} {k v : CE} (q : wpE Γ cs k env h (fun y h1 => wpE Γ cs v env h1 (fun z h2 => ∃ u w ks, y = .d u ∧ z = .d w ∧ u.keys = some ks ∧ rn (env.set i (some (.own (.dT [(ks, w)])))) h2) (fun x h' => rx x env h')) (fun x h' => rx x env h')) : wpS Γ cs (.asgD1 i k v) env h ⟨rn, rt, rb, rc, rx⟩ := q
theorem w_ssetixE {o k e : CE} (q : wpE Γ cs e env h (fun v h1 => wpE Γ cs o env h1 (fun x h2 => wpE Γ cs k env h2 (fun u h3 => ∃ d n ob y, v = .d d ∧ x = .d (.ref n) ∧ h3[n]? = some ob ∧ u = .d y ∧
      ((∃ xs z j, ob = .lst xs ∧ y = .int z ∧ ixN xs.length z = some j ∧ rn env (h3.set n (.lst (xs.set j d)))) ∨ ∃ o', ob.put y d = some o' ∧ rn env (h3.set n o'))) (fun x h' => rx x env h')) (fun x h' => rx x env h')) (fun x h' => rx x env h')) : wpS Γ cs (.setixE o k e) env h ⟨rn, rt, rb, rc, rx⟩ := q
theorem w_ssetf {k : Nat} {o e : CE} {f : Str} (q : wpE Γ cs e env h (fun v h1 => wpE Γ cs o env h1 (fun x h2 => ∃ d n c fs, v = .d d ∧ x = .d (.ref n) ∧ h2[n]? = some (.ins c fs) ∧ c < k ∧ fs.length < 1000 ∧ rn env (h2.set n (.ins c (putFD f d fs)))) (fun x h' => rx x env h')) (fun x h' => rx x env h')) : wpS Γ cs (.setf k o f e) env h ⟨rn, rt, rb, rc, rx⟩ := q
theorem w_sraise {c : Nat} (q : rx ⟨c, []⟩ env h) : wpS Γ cs (.raise c) env h ⟨rn, rt, rb, rc, rx⟩ := q
theorem w_stry {k : Nat} {l : List Nat} {x : Str} {n : Option Nat} {a : CSs} {s : EH} (q : wpSs Γ cs a env h ⟨rn, rt, rb, rc, fun x e h' => x.c < k ∧ if l.contains x.c = true then x.fs = [] ∧ ehW s n x e h' ⟨rn, rt, rb, rc, rx⟩ else rx x e h'⟩) : wpS Γ cs (.tryX k l x n a s) env h ⟨rn, rt, rb, rc, rx⟩ := q
/-- a caught exception -/
theorem ex_in {k c : Nat} {l : List Nat} {s : EH} {n : Option Nat} {R : CEnds} {A : Prop} (hk : c < k) (hl : l.contains c = true) (q : ehW s n ⟨c, []⟩ env h R) : (⟨c, []⟩ : EX).c < k ∧ if l.contains (⟨c, []⟩ : EX).c = true then (⟨c, []⟩ : EX).fs = [] ∧ ehW s n ⟨c, []⟩ env h R else A :=
  ⟨hk, by rw [if_pos hl]; exact ⟨rfl, q⟩⟩
theorem eh_asg {i : Nat} {e : EE} {c : Nat} {n : Option Nat} {d : D} (hn : (match n with
  | some k => decide (k < env.length) = true
  | none => True)) (ed : e.val c = d) (q : rn (wipeE (env.set i (some (.val d))) n.toList) h) : ehW (.asg i e) n ⟨c, []⟩ env h ⟨rn, rt, rb, rc, rx⟩ := ⟨hn, by subst ed; exact q⟩
theorem eh_ret {e : EE} {c : Nat} {n : Option Nat} {d : D} (hn : (match n with
  | some k => decide (k < env.length) = true
  | none => True)) (ed : e.val c = d) (q : rt (.d d) h) : ehW (.ret e) n ⟨c, []⟩ env h ⟨rn, rt, rb, rc, rx⟩ := ⟨hn, by subst ed; exact q⟩
end
/-- d[k] = v, an item of a list of the heap -/
theorem setE_nat {α : Type} {f : α → D} {ns : List α} {Pl : List D → AH → Prop} {Po : AO → AH → Prop} {n j : Nat} {x : D} (e : h[n]? = some (.lst (ns.map f))) (hj : j < ns.length) (q : Pl ((ns.map f).set j x) (h.set n (.lst ((ns.map f).set j x)))) :
    ∃ d m ob y, VV.d x = .d d ∧ VV.d (.ref n) = .d (.ref m) ∧ h[m]? = some ob ∧ VV.d (.int (j : Int)) = .d y ∧
      ((∃ xs z i, ob = .lst xs ∧ y = .int z ∧ ixN xs.length z = some i ∧ Pl (xs.set i d) (h.set m (.lst (xs.set i d)))) ∨ ∃ o', ob.put y d = some o' ∧ Po o' (h.set m o')) := by
  refine ⟨x, n, _, _, rfl, rfl, e, rfl, .inl ⟨_, _, j, rfl, rfl, ?_, q⟩⟩
  rw [List.length_map]
  unfold ixN
  rw [if_pos (by omega), if_pos (by omega)]
  simp
end
theorem keysOf_ints : ∀ w : List Int, keysOf (w.map .int) = some (w.map Sum.inl)
  | [] => rfl
  | i :: w => by simp only [List.map_cons, keysOf, D.key, keysOf_ints w]
/-- {k: v} with a tuple of numbers as its key -/
theorem k_disp {β : Type} {f : β → D} {a : List Int} {v : β} {P : List Key → D → Prop} (q : P (a.map Sum.inl) (f v)) : ∃ u w ks, VV.d (listKey.kd a) = .d u ∧ VV.d (f v) = .d w ∧ u.keys = some ks ∧ P ks w := ⟨_, _, a.map Sum.inl, rfl, rfl, keysOf_ints a, q⟩
end G

open PySem PySem.Spec PyProof.Rows L2 G in
local macro_rules | `(tactic| walk_at "w") => `(tactic| first
  | (with_reducible refine v_rg1 ?_ ?_ ?_); omega; omega
  | (with_reducible refine v_rg2 ?_ ?_ ?_ ?_ ?_); omega; omega; omega; omega
  | (with_reducible refine v_lrg ?_ ?_ ?_); omega; omega
  | (with_reducible refine w_varV (d := ?_) ?_ ?_); rotate_left; rfl
  | with_reducible refine w_int ?_
  | with_reducible refine w_bin ?_
  | with_reducible refine l_bin ?_
  | with_reducible refine b_add ?_
  | with_reducible refine b_sub ?_
  | (with_reducible refine b_mulL ?_ ?_ ?_); omega; omega
  | (with_reducible refine b_mulR ?_ ?_ ?_); omega; omega
  | (with_reducible refine b_mod ?_ ?_); omega
  | (with_reducible refine b_fdivB ?_ ?_ ?_); omega; omega
  | with_reducible refine w_sasg ?_
  | with_reducible refine l_dval ?_
  | with_reducible refine g_nm ?_
  | with_reducible refine w_cons ?_
  | with_reducible refine w_nil ?_
  | with_reducible refine w_call ?_
  | with_reducible refine w_cmp ?_
  | with_reducible refine c_lt ?_
  | with_reducible refine c_eqI ?_
  | with_reducible refine c_neI ?_
  | with_reducible refine c_le ?_
  | with_reducible refine c_gt ?_
  | with_reducible refine c_ge ?_
  | with_reducible refine w_te ?_
  | with_reducible refine l_tru ?_
  | with_reducible refine w_site ?_
  | with_reducible refine w_ssnil ?_
  | with_reducible refine w_andT ?_
  | with_reducible refine w_orT ?_
  | with_reducible refine w_notT ?_
  | with_reducible refine w_sret ?_
  | with_reducible refine w_bi ?_
  | with_reducible refine i_lenTm ?_
  | with_reducible refine i_lenFm ?_
  | with_reducible refine i_lenOm ?_
  | with_reducible refine i_lenBm ?_
  | with_reducible refine i_lenT ?_
  | with_reducible refine i_lenF ?_
  | with_reducible refine i_lenO ?_
  | with_reducible refine i_lenB ?_
  | with_reducible refine i_min2 ?_
  | with_reducible refine i_max2 ?_
  | (with_reducible refine w_varO (o := ?_) ?_ ?_); rotate_left; rfl
  | (with_reducible refine w_varB (o := ?_) ?_ ?_); rotate_left; rfl
  | with_reducible refine w_ix ?_
  | with_reducible refine r_d ?_
  | with_reducible refine r_mv ?_
  | with_reducible refine w_bl ?_
  | with_reducible refine w_non ?_
  | with_reducible refine w_str ?_
  | with_reducible refine w_neg ?_
  | with_reducible refine l_ival ?_
  | with_reducible refine l_bval ?_
  | with_reducible refine l_bvalD ?_
  | with_reducible refine w_andV ?_
  | with_reducible refine w_orV ?_
  | with_reducible refine w_notV ?_
  | with_reducible refine w_chain ?_
  | with_reducible refine w_iteE ?_
  | with_reducible refine w_tup ?_
  | (with_reducible refine w_glob (d := ?_) ?_ ?_); rotate_left; rfl
  | with_reducible refine c_isN ?_
  | with_reducible refine c_notN ?_
  | with_reducible refine c_isB ?_
  | with_reducible refine c_notB ?_
  | with_reducible refine w_tupOf ?_
  | with_reducible refine w_tupE ?_
  | with_reducible refine w_fzOf ?_
  | with_reducible refine w_tupRev ?_
  | with_reducible refine w_no ?_
  | with_reducible refine w_so ?_
  | with_reducible refine w_slc ?_
  | with_reducible refine w_lc ?_
  | with_reducible refine w_dsp ?_
  | with_reducible refine w_listE ?_
  | with_reducible refine w_listRg ?_
  | with_reducible refine w_srt ?_
  | with_reducible refine w_cat ?_
  | with_reducible refine w_catE ?_
  | with_reducible refine w_rep ?_
  | with_reducible refine w_slcL ?_
  | with_reducible refine w_ival ?_
  | with_reducible refine w_irg1 ?_
  | with_reducible refine w_irg2 ?_
  | with_reducible refine w_ienum ?_
  | with_reducible refine w_izip ?_
  | with_reducible refine w_sasgO ?_
  | with_reducible refine w_sasgC ?_
  | (with_reducible refine w_saug (x := ?_) ?_ ?_); rotate_left; rfl
  | (with_reducible refine w_ssetix (o := ?_) ?_ ?_); rotate_left; rfl
  | (with_reducible refine w_sapp (xs := ?_) ?_ ?_); rotate_left; rfl
  | (with_reducible refine w_sext (xs := ?_) ?_ ?_); rotate_left; rfl
  | (with_reducible refine w_sexte (xs := ?_) ?_ ?_); rotate_left; rfl
  | (with_reducible refine w_sclr (xs := ?_) ?_ ?_); rotate_left; rfl
  | with_reducible refine w_sexp ?_
  | (with_reducible refine w_sretM (o := ?_) ?_ ?_); rotate_left; rfl
  | with_reducible refine w_sretN ?_
  | with_reducible refine w_sretL ?_
  | with_reducible refine w_sfor ?_
  | (with_reducible refine w_sasgV (o := ?_) ?_ ?_ ?_ ?_); rotate_left; rfl; decide; (exact Nat.le_of_ble_eq_true rfl)
  | (with_reducible refine w_sforO (xs := ?_) ?_ ?_); rotate_left; rfl
  | with_reducible refine w_sbrk ?_
  | with_reducible refine w_scnt ?_
  | with_reducible refine w_spas ?_
  | (with_reducible refine w_sfrz (xs := ?_) ?_ ?_); rotate_left; rfl
  | with_reducible refine ite_t ?_
  | with_reducible refine ite_f ?_
  | with_reducible refine ite_nt ?_
  | with_reducible refine ite_nf ?_
  | with_reducible refine ite_nn ?_
  | with_reducible refine x0 ?_
  | with_reducible refine x1 ?_
  | with_reducible refine x2 ?_
  | with_reducible refine x3 ?_
  | with_reducible refine t_0 ?_
  | with_reducible refine t_1 ?_
  | with_reducible refine t_2 ?_
  | with_reducible refine t_3 ?_
  | with_reducible refine t_4 ?_
  | with_reducible refine s_tup ?_
  | with_reducible refine s_fz ?_
  | with_reducible refine s_tw ?_
  | with_reducible refine s_bw ?_
  | with_reducible refine v_tup ?_
  | with_reducible refine v_fz ?_
  | with_reducible refine v_tw ?_
  | with_reducible refine v_bw ?_
  | with_reducible refine isI_tt ?_
  | with_reducible refine e_tup ?_
  | with_reducible refine e_fz ?_
  | with_reducible refine e_tw ?_
  | with_reducible refine e_bw ?_
  | with_reducible refine isI_ii ?_
  | with_reducible refine isI_bi ?_
  | with_reducible refine isI_lf ?_
  | with_reducible refine isI_lo ?_
  | with_reducible refine isI_lb ?_
  | with_reducible refine w_getD ?_
  | with_reducible refine w_newL ?_
  | with_reducible refine w_newD ?_
  | with_reducible refine l_new ?_
  | with_reducible refine w_sdf ?_
  | with_reducible refine w_appX ?_
  | with_reducible refine w_extX ?_
  | with_reducible refine w_clrX ?_
  | with_reducible refine w_popX ?_
  | with_reducible refine w_popAt ?_
  | with_reducible refine w_idx ?_
  | with_reducible refine w_divm ?_
  | with_reducible refine w_fld ?_
  | with_reducible refine w_meth ?_
  | with_reducible refine w_mk ?_
  | with_reducible refine w_listRg2 ?_
  | with_reducible refine w_sortK ?_
  | with_reducible refine w_sasgD1 ?_
  | with_reducible refine w_ssetixE ?_
  | with_reducible refine w_ssetf ?_
  | with_reducible refine w_sraise ?_
  | with_reducible refine w_stry ?_)
local macro_rules | `(tactic| walk_at "a") => `(tactic| repeat (first | walk_at "w" | (with_reducible refine G.w_sscons ?_)))
local macro_rules | `(tactic| walk_at "s") => `(tactic| ((repeat walk_at "w"); (with_reducible refine G.w_sscons ?_); repeat walk_at "w"))
local macro_rules | `(tactic| walk_at "b") => `(tactic| repeat' (first | walk_at "w" | (with_reducible refine G.w_sscons ?_) | (with_reducible refine G.ite_p (fun _ => ?_) (fun _ => ?_)) | (with_reducible refine G.ite_n (fun _ => ?_) (fun _ => ?_))))

namespace N80
open PySem L2 G
def top (i : Nat) : Stmt := PySem.Challenge.pw_guesswide_k80_whole_shortest_rows.main.body.getD i (.Pass ⟨0, 0, 0, 0⟩)
def sub (i j : Nat) : Stmt := (clsBody (top i)).getD j (.Pass ⟨0, 0, 0, 0⟩)
def b_less : CSs := (.cons (.ite (.e (.cmp .ne (.bi .len (.cons (.var 0) .nil)) (.bi .len (.cons (.var 1) .nil)))) (.cons (.ret (.cmp .lt (.bi .len (.cons (.var 0) .nil)) (.bi .len (.cons (.var 1) .nil)))) .nil) .nil) (.cons (.for (.tp [2, 3]) (.zip (.var 0) (.var 1)) (.cons (.ite (.e (.cmp .ne (.var 2) (.var 3))) (.cons (.ret (.cmp .lt (.var 2) (.var 3))) .nil) .nil) .nil)) (.cons (.ret (.bl false)) .nil)))
def di_less : DI := ⟨⟨("less", none), "less", "less", defArgs (top 1), defBody (top 1), defScope (top 1), [], []⟩, "less", ["word", "other", "mine", "theirs"], ["word", "other"], ⟨2, 4, b_less⟩, none⟩
theorem bn_less : BindN di_less := fun _ _ _ _ _ _ us hl => match us, hl with | [_, _], _ => rfl
def b_spread : CSs := (.cons (.asgO 4 (.dsp .nil)) (.cons (.for (.nm 5) (.val (.var 2)) (.cons (.app 4 (.var 5)) (.cons (.ite (.e (.cmp .ge (.var 5) (.var 0))) (.cons (.exte 4 (.ix (.var 3) (.bin .sub (.var 5) (.var 0)))) (.cons (.app 4 (.bin .add (.var 0) (.var 1))) .nil)) .nil) .nil))) (.cons (.ret (.tupE (.var 4))) .nil)))
def di_spread : DI := ⟨⟨("spread", none), "spread", "spread", defArgs (top 3), defBody (top 3), defScope (top 3), [], []⟩, "spread", ["plain", "helpers", "local", "rows", "signs", "sign"], ["plain", "helpers", "local", "rows"], ⟨4, 6, b_spread⟩, none⟩
theorem bn_spread : BindN di_spread := fun _ _ _ _ _ _ us hl => match us, hl with | [_, _, _, _], _ => rfl
def b_letters_made : CSs := (.cons (.asg (.tp [4, 5]) (.var 0)) (.cons (.asgO 2 (.lc (.rg1 (.var 4)) (.nm 6) .nil (.tup (.cons (.var 6) .nil)))) (.cons (.for (.nm 3) (.rg1 (.bi .len (.cons (.var 5) .nil))) (.cons (.ite (.e (.cmp .isN (.ix (.var 1) (.var 3)) .non)) (.cons (.app 2 .non) .nil) (.cons (.app 2 (.call 1 (.cons (.var 4) (.cons (.bi .len (.cons (.var 5) .nil)) (.cons (.tup (.cons (.bin .add (.var 4) (.var 3)) .nil)) (.cons (.var 1) .nil)))))) .nil)) .nil)) (.cons (.retM 2) .nil))))
def di_letters_made : DI := ⟨⟨("letters_made", none), "letters_made", "letters_made", defArgs (top 5), defBody (top 5), defScope (top 5), [], []⟩, "letters_made", ["works", "rows", "made", "helper", "plain", "houses", "letter"], ["works", "rows"], ⟨2, 7, b_letters_made⟩, none⟩
theorem bn_letters_made : BindN di_letters_made := fun _ _ _ _ _ _ us hl => match us, hl with | [_, _], _ => rfl
def b_lesser : CSs := (.cons (.ite (.orT (.e (.cmp .isN (.var 0) .non)) (.andT (.e (.cmp .notN (.var 1) .non)) (.e (.call 0 (.cons (.var 1) (.cons (.var 0) .nil)))))) (.cons (.ret (.var 1)) .nil) .nil) (.cons (.ret (.var 0)) .nil))
def di_lesser : DI := ⟨⟨("lesser", none), "lesser", "lesser", defArgs (top 6), defBody (top 6), defScope (top 6), [], []⟩, "lesser", ["row", "other"], ["row", "other"], ⟨2, 2, b_lesser⟩, none⟩
theorem bn_lesser : BindN di_lesser := fun _ _ _ _ _ _ us hl => match us, hl with | [_, _], _ => rfl
def b_rows_to_rooms : CSs := (.cons (.asgO 2 (.rep (.dsp (.cons .non .nil)) (.bi .len (.cons (.ix (.var 0) (.int 1)) .nil)))) (.cons (.setix 2 (.int 0) (.tup .nil)) (.cons (.asg (.nm 3) (.bl true)) (.cons (.whl (.e (.var 3)) (.cons (.asg (.nm 3) (.bl false)) (.cons (.for (.nm 4) (.rg1 (.bi .len (.cons (.var 2) .nil))) (.cons (.for (.nm 5) (.rg1 (.ix (.var 0) (.int 0))) (.cons (.ite (.andT (.e (.cmp .notN (.ix (.var 2) (.var 4)) .non)) (.e (.cmp .notN (.ix (.var 1) (.var 5)) .non))) (.cons (.asg (.nm 6) (.ix (.ix (.ix (.var 0) (.int 2)) (.var 4)) (.var 5))) (.cons (.asg (.nm 7) (.call 3 (.cons (.ix (.var 2) (.var 6)) (.cons (.bin .add (.ix (.var 2) (.var 4)) (.ix (.var 1) (.var 5))) .nil)))) (.cons (.ite (.e (.cmp .ne (.var 7) (.ix (.var 2) (.var 6)))) (.cons (.setix 2 (.var 6) (.var 7)) (.cons (.asg (.nm 3) (.bl true)) .nil)) .nil) .nil))) .nil) .nil)) .nil)) .nil))) (.cons (.retM 2) .nil)))))
def di_rows_to_rooms : DI := ⟨⟨("rows_to_rooms", none), "rows_to_rooms", "rows_to_rooms", defArgs (top 7), defBody (top 7), defScope (top 7), [], []⟩, "rows_to_rooms", ["house", "made", "found", "turned", "room", "letter", "to", "row"], ["house", "made"], ⟨2, 8, b_rows_to_rooms⟩, none⟩
theorem bn_rows_to_rooms : BindN di_rows_to_rooms := fun _ _ _ _ _ _ us hl => match us, hl with | [_, _], _ => rfl
def b_shortest : CSs := (.cons (.asgO 1 (.rep (.dsp (.cons .non .nil)) (.bi .len (.cons (.ix (.var 0) (.int 1)) .nil)))) (.cons (.asg (.nm 2) (.bl true)) (.cons (.whl (.e (.var 2)) (.cons (.asg (.nm 2) (.bl false)) (.cons (.asg (.nm 3) (.call 2 (.cons (.var 0) (.cons (.var 1) .nil)))) (.cons (.for (.nm 4) (.rg1 (.bi .len (.cons (.var 1) .nil))) (.cons (.asg (.nm 5) (.ix (.ix (.var 0) (.int 1)) (.var 4))) (.cons (.asg (.nm 6) .non) (.cons (.for (.tp [7, 8]) (.enum (.call 4 (.cons (.var 5) (.cons (.var 3) .nil)))) (.cons (.ite (.e (.cmp .ne (.ix (.ix (.var 5) (.int 1)) (.var 7)) (.int 0))) (.cons (.asg (.nm 6) (.call 3 (.cons (.var 6) (.cons (.var 8) .nil)))) .nil) .nil) .nil)) (.cons (.ite (.e (.cmp .ne (.var 6) (.ix (.var 1) (.var 4)))) (.cons (.setix 1 (.var 4) (.var 6)) (.cons (.asg (.nm 2) (.bl true)) .nil)) .nil) .nil))))) .nil)))) (.cons (.retM 1) .nil))))
def di_shortest : DI := ⟨⟨("shortest", none), "shortest", "shortest", defArgs (top 8), defBody (top 8), defScope (top 8), [], []⟩, "shortest", ["works", "rows", "turned", "made", "helper", "house", "best", "room", "row"], ["works"], ⟨1, 9, b_shortest⟩, none⟩
theorem bn_shortest : BindN di_shortest := fun _ _ _ _ _ _ us hl => match us, hl with | [_], _ => rfl
def b_law_cell_at : CSs := (.cons (.ite (.e (.cmp .lt (.var 1) (.bi .len (.cons (.var 0) .nil)))) (.cons (.ret (.ix (.var 0) (.var 1))) .nil) .nil) (.cons (.ret (.int 0)) .nil))
def di_law_cell_at : DI := ⟨⟨("_law_cell_at", none), "_law_cell_at", "_law_cell_at", defArgs (top 10), defBody (top 10), defScope (top 10), [], []⟩, "_law_cell_at", ["script", "k"], ["script", "k"], ⟨2, 2, b_law_cell_at⟩, none⟩
theorem bn_law_cell_at : BindN di_law_cell_at := fun _ _ _ _ _ _ us hl => match us, hl with | [_, _], _ => rfl
def b_law_whole : CSs := (.cons (.ret (.andV (.bi (.isI "int") (.cons (.var 0) .nil)) (.notV (.bi (.isI "bool") (.cons (.var 0) .nil))))) .nil)
def di_law_whole : DI := ⟨⟨("_law_whole", none), "_law_whole", "_law_whole", defArgs (top 11), defBody (top 11), defScope (top 11), [], []⟩, "_law_whole", ["found"], ["found"], ⟨1, 1, b_law_whole⟩, none⟩
theorem bn_law_whole : BindN di_law_whole := fun _ _ _ _ _ _ us hl => match us, hl with | [_], _ => rfl
def b_law_nest : CSs := (.cons (.asgO 3 (.dsp .nil)) (.cons (.asg (.nm 4) (.int 0)) (.cons (.for (.nm 5) (.val (.var 0)) (.cons (.asg (.nm 6) (.bin .mod (.var 5) (.bin .add (.bin .add (.var 1) (.var 2)) (.int 1)))) (.cons (.ite (.andT (.e (.cmp .eq (.var 6) (.bin .add (.var 1) (.var 2)))) (.e (.cmp .eq (.var 4) (.int 0)))) (.cons (.asg (.nm 6) (.bin .mod (.bin .fdiv (.var 5) (.int 13)) (.var 1))) .nil) .nil) (.cons (.ite (.e (.cmp .eq (.var 6) (.bin .add (.var 1) (.var 2)))) (.cons (.asg (.nm 4) (.bin .sub (.var 4) (.int 1))) .nil) (.cons (.ite (.e (.cmp .ge (.var 6) (.var 1))) (.cons (.asg (.nm 4) (.bin .add (.var 4) (.int 1))) .nil) .nil) .nil)) (.cons (.app 3 (.var 6)) .nil))))) (.cons (.ret (.fzOf (.catE (.var 3) (.fzOf (.rep (.dsp (.cons (.bin .add (.var 1) (.var 2)) .nil)) (.var 4)))))) .nil))))
def di_law_nest : DI := ⟨⟨("_law_nest", none), "_law_nest", "_law_nest", defArgs (top 12), defBody (top 12), defScope (top 12), [], []⟩, "_law_nest", ["flow", "plain", "helpers", "row", "deep", "cell", "sign"], ["flow", "plain", "helpers"], ⟨3, 7, b_law_nest⟩, none⟩
theorem bn_law_nest : BindN di_law_nest := fun _ _ _ _ _ _ us hl => match us, hl with | [_, _, _], _ => rfl
def b_law_nested : CSs := (.cons (.asg (.nm 3) (.newL (.dsp .nil))) (.cons (.for (.nm 4) (.val (.var 2)) (.cons (.ite (.orT (.e (.cmp .lt (.var 4) (.int 0))) (.e (.cmp .gt (.var 4) (.bin .add (.var 0) (.var 1))))) (.cons (.ret (.bl false)) .nil) .nil) (.cons (.ite (.e (.cmp .eq (.var 4) (.bin .add (.var 0) (.var 1)))) (.cons (.ite (.e (.cmp .eq (.bi .len (.cons (.var 3) .nil)) (.int 0))) (.cons (.ret (.bl false)) .nil) .nil) (.cons (.exp (.popX (.var 3))) .nil)) (.cons (.ite (.e (.cmp .ge (.var 4) (.var 0))) (.cons (.exp (.appX (.var 3) (.var 4))) .nil) .nil) .nil)) .nil))) (.cons (.ret (.cmp .eq (.bi .len (.cons (.var 3) .nil)) (.int 0))) .nil)))
def di_law_nested : DI := ⟨⟨("_law_nested", none), "_law_nested", "_law_nested", defArgs (top 13), defBody (top 13), defScope (top 13), [], []⟩, "_law_nested", ["plain", "helpers", "signs", "waiting", "sign"], ["plain", "helpers", "signs"], ⟨3, 5, b_law_nested⟩, none⟩
theorem bn_law_nested : BindN di_law_nested := fun _ _ _ _ _ _ us hl => match us, hl with | [_, _, _], _ => rfl
def b_law_parts : CSs := (.cons (.asgO 4 (.dsp .nil)) (.cons (.asg (.nm 5) (.newL (.dsp (.cons (.var 3) .nil)))) (.cons (.asg (.nm 6) (.newL (.dsp (.cons (.newL (.dsp .nil)) .nil)))) (.cons (.for (.nm 7) (.val (.var 2)) (.cons (.ite (.e (.cmp .eq (.var 7) (.bin .add (.var 0) (.var 1)))) (.cons (.app 4 (.tup (.cons (.popX (.var 5)) (.cons (.popX (.var 6)) .nil)))) .nil) (.cons (.exp (.appX (.ix (.var 6) (.neg (.int 1))) (.var 7))) (.cons (.ite (.e (.cmp .ge (.var 7) (.var 0))) (.cons (.exp (.appX (.var 5) (.bin .sub (.var 7) (.var 0)))) (.cons (.exp (.appX (.var 6) (.newL (.dsp .nil)))) .nil)) .nil) .nil))) .nil)) (.cons (.app 4 (.tup (.cons (.var 3) (.cons (.ix (.var 6) (.int 0)) .nil)))) (.cons (.retM 4) .nil))))))
def di_law_parts : DI := ⟨⟨("_law_parts", none), "_law_parts", "_law_parts", defArgs (top 14), defBody (top 14), defScope (top 14), [], []⟩, "_law_parts", ["plain", "helpers", "signs", "top", "due", "called", "words", "sign"], ["plain", "helpers", "signs", "top"], ⟨4, 8, b_law_parts⟩, none⟩
theorem bn_law_parts : BindN di_law_parts := fun _ _ _ _ _ _ us hl => match us, hl with | [_, _, _, _], _ => rfl
def b_law_draw : CSs := (.cons (.ite (.e (.cmp .lt (.var 1) (.bi .len (.cons (.var 0) .nil)))) (.cons (.ret (.bin .mod (.ix (.var 0) (.var 1)) (.var 2))) .nil) .nil) (.cons (.ite (.e (.cmp .eq (.bi .len (.cons (.var 0) .nil)) (.int 0))) (.cons (.ret (.int 0)) .nil) .nil) (.cons (.asg (.nm 3) (.bin .mod (.ix (.var 0) (.bin .mod (.var 1) (.bi .len (.cons (.var 0) .nil)))) (.int 2147483647))) (.cons (.asg (.nm 4) (.bin .mod (.bin .mul (.bin .add (.bin .add (.var 3) (.bin .mul (.var 1) (.var 1))) (.int 1)) (.int 48271)) (.int 2147483647))) (.cons (.ret (.bin .mod (.bin .mod (.bin .mul (.var 4) (.var 4)) (.int 1000000007)) (.var 2))) .nil)))))
def di_law_draw : DI := ⟨⟨("_law_draw", none), "_law_draw", "_law_draw", defArgs (top 15), defBody (top 15), defScope (top 15), [], []⟩, "_law_draw", ["flow", "k", "many", "cell", "mixed"], ["flow", "k", "many"], ⟨3, 5, b_law_draw⟩, none⟩
theorem bn_law_draw : BindN di_law_draw := fun _ _ _ _ _ _ us hl => match us, hl with | [_, _, _], _ => rfl
def b_law_house_by : CSs := (.cons (.asg (.nm 3) (.bin .add (.int 1) (.call 11 (.cons (.var 0) (.cons (.var 1) (.cons (.int 4) .nil)))))) (.cons (.asgO 4 (.dsp .nil)) (.cons (.asgO 5 (.dsp .nil)) (.cons (.for (.nm 6) (.rg1 (.var 3)) (.cons (.asg (.nm 7) (.bin .add (.bin .add (.var 1) (.int 1)) (.bin .mul (.var 6) (.int 7)))) (.cons (.asg (.nm 8) (.call 11 (.cons (.var 0) (.cons (.var 7) (.cons (.int 4000000000) .nil))))) (.cons (.ite (.e (.cmp .eq (.bin .mod (.var 8) (.int 4)) (.int 0))) (.cons (.app 4 (.int 0)) .nil) (.cons (.app 4 (.bin .add (.int 1) (.bin .fdiv (.var 8) (.int 4)))) .nil)) (.cons (.app 5 (.tupOf (.lc (.rg1 (.var 2)) (.nm 9) .nil (.call 11 (.cons (.var 0) (.cons (.bin .add (.bin .add (.var 7) (.int 1)) (.var 9)) (.cons (.var 3) .nil))))))) .nil))))) (.cons (.ret (.tup (.cons (.var 2) (.cons (.tupE (.var 4)) (.cons (.tupE (.var 5)) .nil))))) .nil)))))
def di_law_house_by : DI := ⟨⟨("_law_house_by", none), "_law_house_by", "_law_house_by", defArgs (top 16), defBody (top 16), defScope (top 16), [], []⟩, "_law_house_by", ["flow", "at", "letters", "rooms", "marks", "ways", "room", "first", "mark", "letter"], ["flow", "at", "letters"], ⟨3, 10, b_law_house_by⟩, none⟩
theorem bn_law_house_by : BindN di_law_house_by := fun _ _ _ _ _ _ us hl => match us, hl with | [_, _, _], _ => rfl
def b_law_works_by : CSs := (.cons (.ret (.tup (.cons (.var 1) (.cons (.tupOf (.lc (.rg1 (.var 2)) (.nm 3) .nil (.call 12 (.cons (.var 0) (.cons (.bin .mul (.int 29) (.var 3)) (.cons (.bin .add (.var 1) (.var 2)) .nil)))))) .nil)))) .nil)
def di_law_works_by : DI := ⟨⟨("_law_works_by", none), "_law_works_by", "_law_works_by", defArgs (top 17), defBody (top 17), defScope (top 17), [], []⟩, "_law_works_by", ["flow", "plain", "helpers", "j"], ["flow", "plain", "helpers"], ⟨3, 4, b_law_works_by⟩, none⟩
theorem bn_law_works_by : BindN di_law_works_by := fun _ _ _ _ _ _ us hl => match us, hl with | [_, _, _], _ => rfl
def b_law_answer : CSs := (.cons (.asg (.nm 2) (.int 0)) (.cons (.for (.nm 3) (.val (.var 1)) (.cons (.asg (.nm 2) (.ix (.ix (.ix (.var 0) (.int 2)) (.var 2)) (.var 3))) .nil)) (.cons (.ret (.ix (.ix (.var 0) (.int 1)) (.var 2))) .nil)))
def di_law_answer : DI := ⟨⟨("_law_answer", none), "_law_answer", "_law_answer", defArgs (top 18), defBody (top 18), defScope (top 18), [], []⟩, "_law_answer", ["house", "word", "room", "letter"], ["house", "word"], ⟨2, 4, b_law_answer⟩, none⟩
theorem bn_law_answer : BindN di_law_answer := fun _ _ _ _ _ _ us hl => match us, hl with | [_, _], _ => rfl
def b_law_accepted : CSs := (.cons (.for (.tp [3, 4]) (.val (.call 10 (.cons (.ix (.var 0) (.int 0)) (.cons (.bi .len (.cons (.ix (.var 0) (.int 1)) .nil)) (.cons (.var 1) (.cons (.var 2) .nil)))))) (.cons (.ite (.e (.cmp .eq (.call 14 (.cons (.ix (.ix (.var 0) (.int 1)) (.var 3)) (.cons (.var 4) .nil))) (.int 0))) (.cons (.ret (.bl false)) .nil) .nil) .nil)) (.cons (.ret (.bl true)) .nil))
def di_law_accepted : DI := ⟨⟨("_law_accepted", none), "_law_accepted", "_law_accepted", defArgs (top 19), defBody (top 19), defScope (top 19), [], []⟩, "_law_accepted", ["works", "signs", "top", "j", "word"], ["works", "signs", "top"], ⟨3, 5, b_law_accepted⟩, none⟩
theorem bn_law_accepted : BindN di_law_accepted := fun _ _ _ _ _ _ us hl => match us, hl with | [_, _, _], _ => rfl
def b_law_row_good : CSs := (.cons (.ite (.notT (.e (.bi (.isI "tuple") (.cons (.var 0) .nil)))) (.cons (.ret (.bl false)) .nil) .nil) (.cons (.for (.nm 1) (.val (.var 0)) (.cons (.ite (.notT (.e (.call 7 (.cons (.var 1) .nil)))) (.cons (.ret (.bl false)) .nil) .nil) .nil)) (.cons (.ret (.bl true)) .nil)))
def di_law_row_good : DI := ⟨⟨("_law_row_good", none), "_law_row_good", "_law_row_good", defArgs (top 20), defBody (top 20), defScope (top 20), [], []⟩, "_law_row_good", ["found", "sign"], ["found"], ⟨1, 2, b_law_row_good⟩, none⟩
theorem bn_law_row_good : BindN di_law_row_good := fun _ _ _ _ _ _ us hl => match us, hl with | [_], _ => rfl
def b_law_ahead : CSs := (.cons (.ite (.e (.cmp .ne (.bi .len (.cons (.var 0) .nil)) (.bi .len (.cons (.var 1) .nil)))) (.cons (.ret (.cmp .lt (.bi .len (.cons (.var 0) .nil)) (.bi .len (.cons (.var 1) .nil)))) .nil) .nil) (.cons (.for (.nm 2) (.rg1 (.bi .len (.cons (.var 0) .nil))) (.cons (.ite (.e (.cmp .ne (.ix (.var 0) (.var 2)) (.ix (.var 1) (.var 2)))) (.cons (.ret (.cmp .lt (.ix (.var 0) (.var 2)) (.ix (.var 1) (.var 2)))) .nil) .nil) .nil)) (.cons (.ret (.bl false)) .nil)))
def di_law_ahead : DI := ⟨⟨("_law_ahead", none), "_law_ahead", "_law_ahead", defArgs (top 21), defBody (top 21), defScope (top 21), [], []⟩, "_law_ahead", ["one", "other", "k"], ["one", "other"], ⟨2, 3, b_law_ahead⟩, none⟩
theorem bn_law_ahead : BindN di_law_ahead := fun _ _ _ _ _ _ us hl => match us, hl with | [_, _], _ => rfl
def b_law_rooms_to : CSs := (.cons (.asgO 2 (.dsp (.cons (.int 0) .nil))) (.cons (.asg (.nm 3) (.int 0)) (.cons (.whl (.e (.cmp .lt (.var 3) (.bi .len (.cons (.var 2) .nil)))) (.cons (.for (.nm 4) (.val (.var 1)) (.cons (.ite (.e (.cmp .notIn (.ix (.ix (.ix (.var 0) (.int 2)) (.ix (.var 2) (.var 3))) (.var 4)) (.var 2))) (.cons (.app 2 (.ix (.ix (.ix (.var 0) (.int 2)) (.ix (.var 2) (.var 3))) (.var 4))) .nil) .nil) .nil)) (.cons (.asg (.nm 3) (.bin .add (.var 3) (.int 1))) .nil))) (.cons (.retM 2) .nil))))
def di_law_rooms_to : DI := ⟨⟨("_law_rooms_to", none), "_law_rooms_to", "_law_rooms_to", defArgs (top 22), defBody (top 22), defScope (top 22), [], []⟩, "_law_rooms_to", ["house", "letters", "rooms", "at", "letter"], ["house", "letters"], ⟨2, 5, b_law_rooms_to⟩, none⟩
theorem bn_law_rooms_to : BindN di_law_rooms_to := fun _ _ _ _ _ _ us hl => match us, hl with | [_, _], _ => rfl
def b_law_letters_good : CSs := (.cons (.asg (.nm 1) (.ix (.var 0) (.int 0))) (.cons (.asgO 2 (.listRg (.var 1))) (.cons (.for (.nm 3) (.rg1 (.bi .len (.cons (.ix (.var 0) (.int 1)) .nil))) (.cons (.for (.nm 4) (.rg1 (.bi .len (.cons (.ix (.var 0) (.int 1)) .nil))) (.cons (.for (.nm 5) (.val (.call 18 (.cons (.ix (.ix (.var 0) (.int 1)) (.var 4)) (.cons (.var 2) .nil)))) (.cons (.ite (.andT (.e (.cmp .ne (.ix (.ix (.ix (.ix (.var 0) (.int 1)) (.var 4)) (.int 1)) (.var 5)) (.int 0))) (.e (.cmp .notIn (.bin .add (.var 1) (.var 4)) (.var 2)))) (.cons (.app 2 (.bin .add (.var 1) (.var 4))) .nil) .nil) .nil)) .nil)) .nil)) (.cons (.retM 2) .nil))))
def di_law_letters_good : DI := ⟨⟨("_law_letters_good", none), "_law_letters_good", "_law_letters_good", defArgs (top 23), defBody (top 23), defScope (top 23), [], []⟩, "_law_letters_good", ["works", "plain", "good", "turn", "j", "room"], ["works"], ⟨1, 6, b_law_letters_good⟩, none⟩
theorem bn_law_letters_good : BindN di_law_letters_good := fun _ _ _ _ _ _ us hl => match us, hl with | [_], _ => rfl
def b_law_told_good : CSs := (.cons (.asg (.nm 2) (.ix (.var 0) (.int 0))) (.cons (.asg (.nm 3) (.bi .len (.cons (.ix (.var 0) (.int 1)) .nil))) (.cons (.ite (.orT (.notT (.e (.bi (.isI "list") (.cons (.var 1) .nil)))) (.e (.cmp .ne (.bi .len (.cons (.var 1) .nil)) (.var 3)))) (.cons (.ret (.bl false)) .nil) .nil) (.cons (.asg (.nm 4) (.call 19 (.cons (.var 0) .nil))) (.cons (.for (.nm 5) (.rg1 (.var 3)) (.cons (.ite (.e (.cmp .ne (.cmp .notN (.ix (.var 1) (.var 5)) .non) (.cmp .isIn (.bin .add (.var 2) (.var 5)) (.var 4)))) (.cons (.ret (.bl false)) .nil) .nil) (.cons (.ite (.e (.cmp .notN (.ix (.var 1) (.var 5)) .non)) (.cons (.ite (.orT (.notT (.e (.call 16 (.cons (.ix (.var 1) (.var 5)) .nil)))) (.notT (.e (.call 9 (.cons (.var 2) (.cons (.var 3) (.cons (.ix (.var 1) (.var 5)) .nil))))))) (.cons (.ret (.bl false)) .nil) .nil) (.cons (.ite (.notT (.e (.call 15 (.cons (.var 0) (.cons (.ix (.var 1) (.var 5)) (.cons (.var 5) .nil)))))) (.cons (.ret (.bl false)) .nil) .nil) .nil)) .nil) .nil))) (.cons (.ret (.bl true)) .nil))))))
def di_law_told_good : DI := ⟨⟨("_law_told_good", none), "_law_told_good", "_law_told_good", defArgs (top 24), defBody (top 24), defScope (top 24), [], []⟩, "_law_told_good", ["works", "told", "plain", "helpers", "good", "j"], ["works", "told"], ⟨2, 6, b_law_told_good⟩, none⟩
theorem bn_law_told_good : BindN di_law_told_good := fun _ _ _ _ _ _ us hl => match us, hl with | [_, _], _ => rfl
def b_law_none_ahead : CSs := (.cons (.for (.nm 3) (.rg1 (.bi .len (.cons (.var 1) .nil))) (.cons (.ite (.e (.call 15 (.cons (.var 0) (.cons (.var 2) (.cons (.var 3) .nil))))) (.cons (.ite (.orT (.e (.cmp .isN (.ix (.var 1) (.var 3)) .non)) (.e (.call 17 (.cons (.var 2) (.cons (.ix (.var 1) (.var 3)) .nil))))) (.cons (.ret (.bl false)) .nil) .nil) .nil) .nil) .nil)) (.cons (.ret (.bl true)) .nil))
def di_law_none_ahead : DI := ⟨⟨("_law_none_ahead", none), "_law_none_ahead", "_law_none_ahead", defArgs (top 25), defBody (top 25), defScope (top 25), [], []⟩, "_law_none_ahead", ["works", "told", "row", "j"], ["works", "told", "row"], ⟨3, 4, b_law_none_ahead⟩, none⟩
theorem bn_law_none_ahead : BindN di_law_none_ahead := fun _ _ _ _ _ _ us hl => match us, hl with | [_, _, _], _ => rfl
def b_law_rows_by : CSs := (.cons (.asg (.nm 3) (.ix (.var 0) (.int 0))) (.cons (.asg (.nm 4) (.bi .len (.cons (.ix (.var 0) (.int 1)) .nil))) (.cons (.asgO 5 (.listRg (.var 3))) (.cons (.for (.nm 6) (.rg1 (.var 4)) (.cons (.ite (.e (.cmp .notN (.ix (.var 1) (.var 6)) .non)) (.cons (.app 5 (.bin .add (.var 3) (.var 6))) .nil) .nil) .nil)) (.cons (.asgO 7 (.dsp (.cons (.fzOf (.dsp .nil)) .nil))) (.cons (.for (.nm 8) (.val (.var 2)) (.cons (.asg (.nm 9) (.ix (.var 5) (.bin .mod (.var 8) (.bi .len (.cons (.var 5) .nil))))) (.cons (.asg (.nm 10) (.fzOf (.catE (.ix (.var 7) (.neg (.int 1))) (.fzOf (.dsp (.cons (.var 9) .nil)))))) (.cons (.ite (.e (.cmp .ge (.var 9) (.var 3))) (.cons (.asg (.nm 10) (.fzOf (.catE (.fzOf (.catE (.var 10) (.fzOf (.listE (.ix (.var 1) (.bin .sub (.var 9) (.var 3))))))) (.fzOf (.dsp (.cons (.bin .add (.var 3) (.var 4)) .nil)))))) .nil) .nil) (.cons (.app 7 (.var 10)) .nil))))) (.cons (.retM 7) .nil)))))))
def di_law_rows_by : DI := ⟨⟨("_law_rows_by", none), "_law_rows_by", "_law_rows_by", defArgs (top 26), defBody (top 26), defScope (top 26), [], []⟩, "_law_rows_by", ["works", "told", "flow", "plain", "helpers", "signs", "j", "rows", "cell", "sign", "row"], ["works", "told", "flow"], ⟨3, 11, b_law_rows_by⟩, none⟩
theorem bn_law_rows_by : BindN di_law_rows_by := fun _ _ _ _ _ _ us hl => match us, hl with | [_, _, _], _ => rfl
def b_law : CSs := (.cons (.asg (.nm 1) (.bin .add (.int 1) (.bin .mod (.call 6 (.cons (.var 0) (.cons (.int 0) .nil))) (.int 4)))) (.cons (.asg (.nm 2) (.bin .add (.int 1) (.bin .mod (.bin .fdiv (.call 6 (.cons (.var 0) (.cons (.int 0) .nil))) (.int 4)) (.bi .min2 (.cons (.int 3) (.cons (.bin .sub (.int 6) (.var 1)) .nil)))))) (.cons (.asg (.nm 3) (.bin .add (.int 2) (.bin .mod (.call 6 (.cons (.var 0) (.cons (.int 1) .nil))) (.bi .max2 (.cons (.int 1) (.cons (.bin .sub (.bi .len (.cons (.var 0) .nil)) (.int 1)) .nil)))))) (.cons (.asg (.nm 4) (.call 13 (.cons (.fzOf (.slcL (.var 0) (.so (.int 2)) (.so (.var 3)))) (.cons (.var 1) (.cons (.var 2) .nil))))) (.cons (.asg (.nm 5) (.call 5 (.cons (.var 4) .nil))) (.cons (.ite (.notT (.e (.call 20 (.cons (.var 4) (.cons (.var 5) .nil))))) (.cons (.ret (.bl false)) .nil) .nil) (.cons (.for (.nm 6) (.val (.call 22 (.cons (.var 4) (.cons (.var 5) (.cons (.fzOf (.slcL (.var 0) (.so (.var 3)) (.so (.bin .add (.var 3) (.int 8))))) .nil))))) (.cons (.ite (.notT (.e (.call 21 (.cons (.var 4) (.cons (.var 5) (.cons (.var 6) .nil)))))) (.cons (.ret (.bl false)) .nil) .nil) .nil)) (.cons (.ret (.call 21 (.cons (.var 4) (.cons (.var 5) (.cons (.call 8 (.cons (.fzOf (.slcL (.var 0) (.so (.var 3)) (.so (.bin .add (.var 3) (.int 100))))) (.cons (.var 1) (.cons (.var 2) .nil)))) .nil))))) .nil))))))))
def di_law : DI := ⟨⟨("law", none), "law", "law", defArgs (top 27), defBody (top 27), defScope (top 27), [], []⟩, "law", ["script", "plain", "helpers", "cut", "works", "told", "row"], ["script"], ⟨1, 7, b_law⟩, none⟩
theorem bn_law : BindN di_law := fun _ _ _ _ _ _ us hl => match us, hl with | [_], _ => rfl
abbrev f_less : Nat := 0
abbrev f_spread : Nat := 1
abbrev f_letters_made : Nat := 2
abbrev f_lesser : Nat := 3
abbrev f_rows_to_rooms : Nat := 4
abbrev f_shortest : Nat := 5
abbrev f_law_cell_at : Nat := 6
abbrev f_law_whole : Nat := 7
abbrev f_law_nest : Nat := 8
abbrev f_law_nested : Nat := 9
abbrev f_law_parts : Nat := 10
abbrev f_law_draw : Nat := 11
abbrev f_law_house_by : Nat := 12
abbrev f_law_works_by : Nat := 13
abbrev f_law_answer : Nat := 14
abbrev f_law_accepted : Nat := 15
abbrev f_law_row_good : Nat := 16
abbrev f_law_ahead : Nat := 17
abbrev f_law_rooms_to : Nat := 18
abbrev f_law_letters_good : Nat := 19
abbrev f_law_told_good : Nat := 20
abbrev f_law_none_ahead : Nat := 21
abbrev f_law_rows_by : Nat := 22
abbrev f_law : Nat := 23
def tbl : List DI := [di_less, di_spread, di_letters_made, di_lesser, di_rows_to_rooms, di_shortest, di_law_cell_at, di_law_whole, di_law_nest, di_law_nested, di_law_parts, di_law_draw, di_law_house_by, di_law_works_by, di_law_answer, di_law_accepted, di_law_row_good, di_law_ahead, di_law_rooms_to, di_law_letters_good, di_law_told_good, di_law_none_ahead, di_law_rows_by, di_law]
def csl : List (Str × D) := []
abbrev cs : Nat → Option (Str × D) := fun j => csl[j]?
abbrev T : Nat → Option FD := tT' tbl
abbrev cv : Nat → Option D := cval cs
def tabs : Tabs := ⟨tbl, [], [], [], []⟩
theorem T_less : T f_less = some di_less.fd := rfl
theorem in_less {k : Nat} {a0 a1 : VV} {h : AH} {Q : RR → AH → Prop} {X : EX → AH → Prop} (q : wpSs (wpF T cv k) cv b_less [argSl a0, argSl a1, none, none] h ⟨fun _ h' => Q (.d .non) h', Q, fun _ _ => False, fun _ _ => False, fun x _ h' => X x h'⟩) : wpF T cv (k + 1) 0 [a0, a1] h Q X := .inl ⟨_, T_less, rfl, q⟩
theorem T_spread : T f_spread = some di_spread.fd := rfl
theorem in_spread {k : Nat} {a0 a1 a2 a3 : VV} {h : AH} {Q : RR → AH → Prop} {X : EX → AH → Prop} (q : wpSs (wpF T cv k) cv b_spread [argSl a0, argSl a1, argSl a2, argSl a3, none, none] h ⟨fun _ h' => Q (.d .non) h', Q, fun _ _ => False, fun _ _ => False, fun x _ h' => X x h'⟩) : wpF T cv (k + 1) 1 [a0, a1, a2, a3] h Q X := .inl ⟨_, T_spread, rfl, q⟩
theorem T_letters_made : T f_letters_made = some di_letters_made.fd := rfl
theorem in_letters_made {k : Nat} {a0 a1 : VV} {h : AH} {Q : RR → AH → Prop} {X : EX → AH → Prop} (q : wpSs (wpF T cv k) cv b_letters_made [argSl a0, argSl a1, none, none, none, none, none] h ⟨fun _ h' => Q (.d .non) h', Q, fun _ _ => False, fun _ _ => False, fun x _ h' => X x h'⟩) : wpF T cv (k + 1) 2 [a0, a1] h Q X := .inl ⟨_, T_letters_made, rfl, q⟩
theorem T_lesser : T f_lesser = some di_lesser.fd := rfl
theorem in_lesser {k : Nat} {a0 a1 : VV} {h : AH} {Q : RR → AH → Prop} {X : EX → AH → Prop} (q : wpSs (wpF T cv k) cv b_lesser [argSl a0, argSl a1] h ⟨fun _ h' => Q (.d .non) h', Q, fun _ _ => False, fun _ _ => False, fun x _ h' => X x h'⟩) : wpF T cv (k + 1) 3 [a0, a1] h Q X := .inl ⟨_, T_lesser, rfl, q⟩
theorem T_rows_to_rooms : T f_rows_to_rooms = some di_rows_to_rooms.fd := rfl
theorem in_rows_to_rooms {k : Nat} {a0 a1 : VV} {h : AH} {Q : RR → AH → Prop} {X : EX → AH → Prop} (q : wpSs (wpF T cv k) cv b_rows_to_rooms [argSl a0, argSl a1, none, none, none, none, none, none] h ⟨fun _ h' => Q (.d .non) h', Q, fun _ _ => False, fun _ _ => False, fun x _ h' => X x h'⟩) : wpF T cv (k + 1) 4 [a0, a1] h Q X := .inl ⟨_, T_rows_to_rooms, rfl, q⟩
theorem T_shortest : T f_shortest = some di_shortest.fd := rfl
theorem in_shortest {k : Nat} {a0 : VV} {h : AH} {Q : RR → AH → Prop} {X : EX → AH → Prop} (q : wpSs (wpF T cv k) cv b_shortest [argSl a0, none, none, none, none, none, none, none, none] h ⟨fun _ h' => Q (.d .non) h', Q, fun _ _ => False, fun _ _ => False, fun x _ h' => X x h'⟩) : wpF T cv (k + 1) 5 [a0] h Q X := .inl ⟨_, T_shortest, rfl, q⟩
theorem T_law_cell_at : T f_law_cell_at = some di_law_cell_at.fd := rfl
theorem in_law_cell_at {k : Nat} {a0 a1 : VV} {h : AH} {Q : RR → AH → Prop} {X : EX → AH → Prop} (q : wpSs (wpF T cv k) cv b_law_cell_at [argSl a0, argSl a1] h ⟨fun _ h' => Q (.d .non) h', Q, fun _ _ => False, fun _ _ => False, fun x _ h' => X x h'⟩) : wpF T cv (k + 1) 6 [a0, a1] h Q X := .inl ⟨_, T_law_cell_at, rfl, q⟩
theorem T_law_whole : T f_law_whole = some di_law_whole.fd := rfl
theorem in_law_whole {k : Nat} {a0 : VV} {h : AH} {Q : RR → AH → Prop} {X : EX → AH → Prop} (q : wpSs (wpF T cv k) cv b_law_whole [argSl a0] h ⟨fun _ h' => Q (.d .non) h', Q, fun _ _ => False, fun _ _ => False, fun x _ h' => X x h'⟩) : wpF T cv (k + 1) 7 [a0] h Q X := .inl ⟨_, T_law_whole, rfl, q⟩
theorem T_law_nest : T f_law_nest = some di_law_nest.fd := rfl
theorem in_law_nest {k : Nat} {a0 a1 a2 : VV} {h : AH} {Q : RR → AH → Prop} {X : EX → AH → Prop} (q : wpSs (wpF T cv k) cv b_law_nest [argSl a0, argSl a1, argSl a2, none, none, none, none] h ⟨fun _ h' => Q (.d .non) h', Q, fun _ _ => False, fun _ _ => False, fun x _ h' => X x h'⟩) : wpF T cv (k + 1) 8 [a0, a1, a2] h Q X := .inl ⟨_, T_law_nest, rfl, q⟩
theorem T_law_nested : T f_law_nested = some di_law_nested.fd := rfl
theorem in_law_nested {k : Nat} {a0 a1 a2 : VV} {h : AH} {Q : RR → AH → Prop} {X : EX → AH → Prop} (q : wpSs (wpF T cv k) cv b_law_nested [argSl a0, argSl a1, argSl a2, none, none] h ⟨fun _ h' => Q (.d .non) h', Q, fun _ _ => False, fun _ _ => False, fun x _ h' => X x h'⟩) : wpF T cv (k + 1) 9 [a0, a1, a2] h Q X := .inl ⟨_, T_law_nested, rfl, q⟩
theorem T_law_parts : T f_law_parts = some di_law_parts.fd := rfl
theorem in_law_parts {k : Nat} {a0 a1 a2 a3 : VV} {h : AH} {Q : RR → AH → Prop} {X : EX → AH → Prop} (q : wpSs (wpF T cv k) cv b_law_parts [argSl a0, argSl a1, argSl a2, argSl a3, none, none, none, none] h ⟨fun _ h' => Q (.d .non) h', Q, fun _ _ => False, fun _ _ => False, fun x _ h' => X x h'⟩) : wpF T cv (k + 1) 10 [a0, a1, a2, a3] h Q X := .inl ⟨_, T_law_parts, rfl, q⟩
theorem T_law_draw : T f_law_draw = some di_law_draw.fd := rfl
theorem in_law_draw {k : Nat} {a0 a1 a2 : VV} {h : AH} {Q : RR → AH → Prop} {X : EX → AH → Prop} (q : wpSs (wpF T cv k) cv b_law_draw [argSl a0, argSl a1, argSl a2, none, none] h ⟨fun _ h' => Q (.d .non) h', Q, fun _ _ => False, fun _ _ => False, fun x _ h' => X x h'⟩) : wpF T cv (k + 1) 11 [a0, a1, a2] h Q X := .inl ⟨_, T_law_draw, rfl, q⟩
theorem T_law_house_by : T f_law_house_by = some di_law_house_by.fd := rfl
theorem in_law_house_by {k : Nat} {a0 a1 a2 : VV} {h : AH} {Q : RR → AH → Prop} {X : EX → AH → Prop} (q : wpSs (wpF T cv k) cv b_law_house_by [argSl a0, argSl a1, argSl a2, none, none, none, none, none, none, none] h ⟨fun _ h' => Q (.d .non) h', Q, fun _ _ => False, fun _ _ => False, fun x _ h' => X x h'⟩) : wpF T cv (k + 1) 12 [a0, a1, a2] h Q X := .inl ⟨_, T_law_house_by, rfl, q⟩
theorem T_law_works_by : T f_law_works_by = some di_law_works_by.fd := rfl
theorem in_law_works_by {k : Nat} {a0 a1 a2 : VV} {h : AH} {Q : RR → AH → Prop} {X : EX → AH → Prop} (q : wpSs (wpF T cv k) cv b_law_works_by [argSl a0, argSl a1, argSl a2, none] h ⟨fun _ h' => Q (.d .non) h', Q, fun _ _ => False, fun _ _ => False, fun x _ h' => X x h'⟩) : wpF T cv (k + 1) 13 [a0, a1, a2] h Q X := .inl ⟨_, T_law_works_by, rfl, q⟩
theorem T_law_answer : T f_law_answer = some di_law_answer.fd := rfl
theorem in_law_answer {k : Nat} {a0 a1 : VV} {h : AH} {Q : RR → AH → Prop} {X : EX → AH → Prop} (q : wpSs (wpF T cv k) cv b_law_answer [argSl a0, argSl a1, none, none] h ⟨fun _ h' => Q (.d .non) h', Q, fun _ _ => False, fun _ _ => False, fun x _ h' => X x h'⟩) : wpF T cv (k + 1) 14 [a0, a1] h Q X := .inl ⟨_, T_law_answer, rfl, q⟩
theorem T_law_accepted : T f_law_accepted = some di_law_accepted.fd := rfl
theorem in_law_accepted {k : Nat} {a0 a1 a2 : VV} {h : AH} {Q : RR → AH → Prop} {X : EX → AH → Prop} (q : wpSs (wpF T cv k) cv b_law_accepted [argSl a0, argSl a1, argSl a2, none, none] h ⟨fun _ h' => Q (.d .non) h', Q, fun _ _ => False, fun _ _ => False, fun x _ h' => X x h'⟩) : wpF T cv (k + 1) 15 [a0, a1, a2] h Q X := .inl ⟨_, T_law_accepted, rfl, q⟩
theorem T_law_row_good : T f_law_row_good = some di_law_row_good.fd := rfl
theorem in_law_row_good {k : Nat} {a0 : VV} {h : AH} {Q : RR → AH → Prop} {X : EX → AH → Prop} (q : wpSs (wpF T cv k) cv b_law_row_good [argSl a0, none] h ⟨fun _ h' => Q (.d .non) h', Q, fun _ _ => False, fun _ _ => False, fun x _ h' => X x h'⟩) : wpF T cv (k + 1) 16 [a0] h Q X := .inl ⟨_, T_law_row_good, rfl, q⟩
theorem T_law_ahead : T f_law_ahead = some di_law_ahead.fd := rfl
theorem in_law_ahead {k : Nat} {a0 a1 : VV} {h : AH} {Q : RR → AH → Prop} {X : EX → AH → Prop} (q : wpSs (wpF T cv k) cv b_law_ahead [argSl a0, argSl a1, none] h ⟨fun _ h' => Q (.d .non) h', Q, fun _ _ => False, fun _ _ => False, fun x _ h' => X x h'⟩) : wpF T cv (k + 1) 17 [a0, a1] h Q X := .inl ⟨_, T_law_ahead, rfl, q⟩
theorem T_law_rooms_to : T f_law_rooms_to = some di_law_rooms_to.fd := rfl
theorem in_law_rooms_to {k : Nat} {a0 a1 : VV} {h : AH} {Q : RR → AH → Prop} {X : EX → AH → Prop} (q : wpSs (wpF T cv k) cv b_law_rooms_to [argSl a0, argSl a1, none, none, none] h ⟨fun _ h' => Q (.d .non) h', Q, fun _ _ => False, fun _ _ => False, fun x _ h' => X x h'⟩) : wpF T cv (k + 1) 18 [a0, a1] h Q X := .inl ⟨_, T_law_rooms_to, rfl, q⟩
theorem T_law_letters_good : T f_law_letters_good = some di_law_letters_good.fd := rfl
theorem in_law_letters_good {k : Nat} {a0 : VV} {h : AH} {Q : RR → AH → Prop} {X : EX → AH → Prop} (q : wpSs (wpF T cv k) cv b_law_letters_good [argSl a0, none, none, none, none, none] h ⟨fun _ h' => Q (.d .non) h', Q, fun _ _ => False, fun _ _ => False, fun x _ h' => X x h'⟩) : wpF T cv (k + 1) 19 [a0] h Q X := .inl ⟨_, T_law_letters_good, rfl, q⟩
theorem T_law_told_good : T f_law_told_good = some di_law_told_good.fd := rfl
theorem in_law_told_good {k : Nat} {a0 a1 : VV} {h : AH} {Q : RR → AH → Prop} {X : EX → AH → Prop} (q : wpSs (wpF T cv k) cv b_law_told_good [argSl a0, argSl a1, none, none, none, none] h ⟨fun _ h' => Q (.d .non) h', Q, fun _ _ => False, fun _ _ => False, fun x _ h' => X x h'⟩) : wpF T cv (k + 1) 20 [a0, a1] h Q X := .inl ⟨_, T_law_told_good, rfl, q⟩
theorem T_law_none_ahead : T f_law_none_ahead = some di_law_none_ahead.fd := rfl
theorem in_law_none_ahead {k : Nat} {a0 a1 a2 : VV} {h : AH} {Q : RR → AH → Prop} {X : EX → AH → Prop} (q : wpSs (wpF T cv k) cv b_law_none_ahead [argSl a0, argSl a1, argSl a2, none] h ⟨fun _ h' => Q (.d .non) h', Q, fun _ _ => False, fun _ _ => False, fun x _ h' => X x h'⟩) : wpF T cv (k + 1) 21 [a0, a1, a2] h Q X := .inl ⟨_, T_law_none_ahead, rfl, q⟩
theorem T_law_rows_by : T f_law_rows_by = some di_law_rows_by.fd := rfl
theorem in_law_rows_by {k : Nat} {a0 a1 a2 : VV} {h : AH} {Q : RR → AH → Prop} {X : EX → AH → Prop} (q : wpSs (wpF T cv k) cv b_law_rows_by [argSl a0, argSl a1, argSl a2, none, none, none, none, none, none, none, none] h ⟨fun _ h' => Q (.d .non) h', Q, fun _ _ => False, fun _ _ => False, fun x _ h' => X x h'⟩) : wpF T cv (k + 1) 22 [a0, a1, a2] h Q X := .inl ⟨_, T_law_rows_by, rfl, q⟩
theorem T_law : T f_law = some di_law.fd := rfl
theorem in_law {k : Nat} {a0 : VV} {h : AH} {Q : RR → AH → Prop} {X : EX → AH → Prop} (q : wpSs (wpF T cv k) cv b_law [argSl a0, none, none, none, none, none, none] h ⟨fun _ h' => Q (.d .non) h', Q, fun _ _ => False, fun _ _ => False, fun x _ h' => X x h'⟩) : wpF T cv (k + 1) 23 [a0] h Q X := .inl ⟨_, T_law, rfl, q⟩
theorem bind_all : ∀ y ∈ tbl, BindN y := by
  intro y hy
  simp only [tbl, List.mem_cons, List.not_mem_nil, or_false] at hy
  rcases hy with rfl | rfl | rfl | rfl | rfl | rfl | rfl | rfl | rfl | rfl | rfl | rfl | rfl | rfl | rfl | rfl | rfl | rfl | rfl | rfl | rfl | rfl | rfl | rfl
  · exact bn_less
  · exact bn_spread
  · exact bn_letters_made
  · exact bn_lesser
  · exact bn_rows_to_rooms
  · exact bn_shortest
  · exact bn_law_cell_at
  · exact bn_law_whole
  · exact bn_law_nest
  · exact bn_law_nested
  · exact bn_law_parts
  · exact bn_law_draw
  · exact bn_law_house_by
  · exact bn_law_works_by
  · exact bn_law_answer
  · exact bn_law_accepted
  · exact bn_law_row_good
  · exact bn_law_ahead
  · exact bn_law_rooms_to
  · exact bn_law_letters_good
  · exact bn_law_told_good
  · exact bn_law_none_ahead
  · exact bn_law_rows_by
  · exact bn_law
end N80

namespace N80
open PySem PySem.Spec PyProof.Rows L2 G
/-- a row of a house -/
def rowD (r : List Nat) : D := .tup (r.map fun (g : Nat) => D.int (g : Int))
structure Hs where
  l : Nat
  marks : List Int
  W : List (List Nat)
def Hs.n (H : Hs) : Nat := H.W.length
structure Hs.Ok (H : Hs) : Prop where
  l1 : 1 ≤ H.l
  l6 : H.l ≤ 6
  n1 : 1 ≤ H.W.length
  n40 : H.W.length ≤ 40
  mkl : H.marks.length = H.W.length
  mb : ∀ m ∈ H.marks, 0 ≤ m ∧ m ≤ 1000000000
  row : ∀ row ∈ H.W, row.length = H.l ∧ ∀ g ∈ row, g < H.W.length
def hD (H : Hs) : D := .tup [.int H.l, .tup (H.marks.map .int), .tup (H.W.map rowD)]
end N80

namespace N80
open PySem PySem.Spec PyProof.Rows L2 G
/-! plain: words in order of length, then of letters -/
def lx : List Nat → List Nat → Prop
  | x :: a, y :: b => x < y ∨ (x = y ∧ lx a b)
  | _, _ => False
def slt (a b : List Nat) : Prop := a.length < b.length ∨ (a.length = b.length ∧ lx a b)
def sle (a b : List Nat) : Prop := slt a b ∨ a = b
theorem lx_trans : ∀ {a b c : List Nat}, lx a b → lx b c → lx a c
  | x :: a, y :: b, z :: c, h1, h2 => by
    simp only [lx] at h1 h2 ⊢
    rcases h1 with h1 | ⟨rfl, h1⟩ <;> rcases h2 with h2 | ⟨rfl, h2⟩
    · left; omega
    · left; omega
    · left; omega
    · right; exact ⟨rfl, lx_trans h1 h2⟩
  | [], _, _, h, _ => by simp [lx] at h
  | _ :: _, [], _, h, _ => by simp [lx] at h
  | _ :: _, _ :: _, [], _, h => by simp [lx] at h
theorem lx_irr : ∀ {a : List Nat}, ¬ lx a a
  | [], h => by simp [lx] at h
  | x :: a, h => by
    simp only [lx] at h
    rcases h with h | ⟨_, h⟩
    · omega
    · exact lx_irr h
theorem lx_app : ∀ {a b : List Nat} (u v : List Nat), lx a b → lx (a ++ u) (b ++ v)
  | x :: a, y :: b, u, v, h => by
    simp only [lx, List.cons_append] at h ⊢
    rcases h with h | ⟨rfl, h⟩
    · exact .inl h
    · exact .inr ⟨rfl, lx_app u v h⟩
  | [], _, _, _, h => by simp [lx] at h
  | _ :: _, [], _, _, h => by simp [lx] at h
theorem lx_last : ∀ (a : List Nat) {x y : Nat}, x < y → lx (a ++ [x]) (a ++ [y])
  | [], x, y, h => by simp [lx, h]
  | z :: a, x, y, h => by simp only [List.cons_append, lx]; exact .inr ⟨trivial, lx_last a h⟩
theorem slt_trans {a b c : List Nat} (h1 : slt a b) (h2 : slt b c) : slt a c := by
  rcases h1 with h1 | ⟨e1, h1⟩ <;> rcases h2 with h2 | ⟨e2, h2⟩
  · left; omega
  · left; omega
  · left; omega
  · exact .inr ⟨by omega, lx_trans h1 h2⟩
theorem slt_irr {a : List Nat} (h : slt a a) : False := by
  rcases h with h | ⟨_, h⟩
  · omega
  · exact lx_irr h
theorem slt_last (a : List Nat) {x y : Nat} (h : x < y) : slt (a ++ [x]) (a ++ [y]) := .inr ⟨by simp, lx_last a h⟩
theorem slt_app {a b : List Nat} (x y : Nat) (h : slt a b) : slt (a ++ [x]) (b ++ [y]) := by
  rcases h with h | ⟨e, h⟩
  · left; simp; omega
  · right; exact ⟨by simp [e], lx_app _ _ h⟩
theorem sle_slt {a b c : List Nat} (h1 : sle a b) (h2 : slt b c) : slt a c := by
  rcases h1 with h1 | rfl
  · exact slt_trans h1 h2
  · exact h2
theorem sle_trans {a b c : List Nat} (h1 : sle a b) (h2 : sle b c) : sle a c := by
  rcases h2 with h2 | rfl
  · exact .inl (sle_slt h1 h2)
  · exact h1
theorem sle_app {a b : List Nat} (x : Nat) (h : sle a b) : sle (a ++ [x]) (b ++ [x]) := by
  rcases h with h | rfl
  · exact .inl (slt_app x x h)
  · exact .inr rfl
/-! plain: walks of a house -/
def nx (H : Hs) (x c : Nat) : Nat := (H.W.getD x []).getD c 0
def wk (H : Hs) (x : Nat) (w : List Nat) : Nat := w.foldl (nx H) x
theorem nx_lt {H : Hs} (ok : H.Ok) {x c : Nat} (hx : x < H.W.length) (hc : c < H.l) : nx H x c < H.W.length := by
  obtain ⟨a, b⟩ := ok.row _ (List.getElem_mem hx)
  unfold nx
  rw [List.getD_eq_getElem?_getD (l := H.W), List.getElem?_eq_getElem hx, Option.getD_some, List.getD_eq_getElem?_getD, List.getElem?_eq_getElem (by omega)]
  exact b _ (List.getElem_mem _)
theorem nx_eq {H : Hs} {x c : Nat} (hx : x < H.W.length) (hc : c < (H.W[x]).length) : (H.W[x])[c] = nx H x c := by
  unfold nx
  rw [List.getD_eq_getElem?_getD (l := H.W), List.getElem?_eq_getElem hx, Option.getD_some, List.getD_eq_getElem?_getD, List.getElem?_eq_getElem hc, Option.getD_some]
theorem wk_app {H : Hs} {x : Nat} (w : List Nat) (c : Nat) : wk H x (w ++ [c]) = nx H (wk H x w) c := by simp [wk]
theorem wk_lt {H : Hs} (ok : H.Ok) : ∀ {w : List Nat} {x : Nat}, x < H.W.length → (∀ c ∈ w, c < H.l) → wk H x w < H.W.length
  | [], x, hx, _ => hx
  | c :: w, x, hx, hc => wk_lt (w := w) ok (nx_lt ok hx (hc c (by simp))) (fun d hd => hc d (by simp [hd]))
structure Base (H : Hs) (F : List (Option (List Nat))) (ws : List (List Nat)) : Prop where
  fl : F.length = H.W.length
  f1 : ∀ (x : Nat) (w : List Nat), F.getD x none = some w → w ∈ ws ∧ wk H 0 w = x
  f2 : ∀ w ∈ ws, F.getD (wk H 0 w) none = some w
  z : ([] : List Nat) ∈ ws
  lt : ∀ w ∈ ws, ∀ c ∈ w, c < H.l
  pw : ws.Pairwise slt
  cnt : ws.length + F.countP (·.isNone) = H.W.length
  len : ∀ (i : Nat) (w : List Nat), ws[i]? = some w → w.length ≤ i
def Done (H : Hs) (ws : List (List Nat)) (w : List Nat) (c : Nat) : Prop := ∃ v ∈ ws, wk H 0 v = nx H (wk H 0 w) c ∧ sle v (w ++ [c])
theorem Done.more {H : Hs} {ws : List (List Nat)} {w : List Nat} {c : Nat} {u : List Nat} (h : Done H ws w c) : Done H (ws ++ [u]) w c := by
  obtain ⟨v, m, a, b⟩ := h
  exact ⟨v, by simp [m], a, b⟩
structure Out (H : Hs) (F : List (Option (List Nat))) (ws : List (List Nat)) (a : Nat) : Prop where
  b : Base H F ws
  done : ∀ (i : Nat) (w : List Nat), i < a → ws[i]? = some w → ∀ c, c < H.l → Done H ws w c
  up : ∀ w : List Nat, ws[a]? = some w → ∀ v ∈ ws, slt v (w ++ [0])
structure Inn (H : Hs) (F : List (Option (List Nat))) (ws : List (List Nat)) (a : Nat) (w : List Nat) (c : Nat) : Prop where
  b : Base H F ws
  at' : ws[a]? = some w
  done : ∀ (i : Nat) (w : List Nat), i < a → ws[i]? = some w → ∀ c, c < H.l → Done H ws w c
  cur : ∀ c', c' < c → Done H ws w c'
  up : ∀ v ∈ ws, slt v (w ++ [c])
structure WaysOk (H : Hs) (F : List (Option (List Nat))) : Prop where
  fl : F.length = H.W.length
  z : F.getD 0 none = some []
  ok : ∀ (x : Nat) (w : List Nat), F.getD x none = some w → wk H 0 w = x ∧ (∀ c ∈ w, c < H.l) ∧ w.length ≤ H.W.length ∧ ∀ c, c < H.l → ∃ v, F.getD (nx H x c) none = some v ∧ sle v (w ++ [c])
theorem Out.inn {H : Hs} {F : List (Option (List Nat))} {ws : List (List Nat)} {a : Nat} {w : List Nat} (o : Out H F ws a) (e : ws[a]? = some w) : Inn H F ws a w 0 :=
  ⟨o.b, e, o.done, fun _ h => by omega, o.up w e⟩
theorem Inn.out {H : Hs} {F : List (Option (List Nat))} {ws : List (List Nat)} {a : Nat} {w : List Nat} (i : Inn H F ws a w H.l) : Out H F ws (a + 1) := by
  refine ⟨i.b, fun j u hj e c hc => ?_, fun u e v hv => ?_⟩
  · rcases Nat.lt_or_ge j a with h | h
    · exact i.done j u h e c hc
    · have : j = a := by omega
      subst this
      rw [i.at'] at e
      cases e
      exact i.cur c hc
  · have hp := List.pairwise_iff_getElem.mp i.b.pw
    obtain ⟨h1, e1⟩ := List.getElem?_eq_some_iff.mp i.at'
    obtain ⟨h2, e2⟩ := List.getElem?_eq_some_iff.mp e
    have := hp a (a + 1) h1 h2 (by omega)
    rw [e1, e2] at this
    exact slt_trans (i.up v hv) (slt_app _ _ this)
theorem Inn.skip {H : Hs} {F : List (Option (List Nat))} {ws : List (List Nat)} {a : Nat} {w v : List Nat} {c : Nat} (i : Inn H F ws a w c) (e : F.getD (nx H (wk H 0 w) c) none = some v) : Inn H F ws a w (c + 1) := by
  obtain ⟨m, k⟩ := i.b.f1 _ _ e
  refine ⟨i.b, i.at', i.done, fun c' hc => ?_, fun u hu => slt_trans (i.up u hu) (slt_last w (by omega))⟩
  rcases Nat.lt_or_ge c' c with h | h
  · exact i.cur c' h
  · have : c' = c := by omega
    subst this
    exact ⟨v, m, k, .inl (i.up v m)⟩
theorem Inn.add {H : Hs} (ok : H.Ok) {F : List (Option (List Nat))} {ws : List (List Nat)} {a : Nat} {w : List Nat} {c : Nat} (i : Inn H F ws a w c) (hc : c < H.l) (e : F.getD (nx H (wk H 0 w) c) none = none) :
    Inn H (F.set (nx H (wk H 0 w) c) (some (w ++ [c]))) (ws ++ [w ++ [c]]) a w (c + 1) := by
  have hw : w ∈ ws := List.mem_of_getElem? i.at'
  obtain ⟨ha, _⟩ := List.getElem?_eq_some_iff.mp i.at'
  have hx := wk_lt ok (x := 0) (w := w) (by have := ok.n1; omega) (i.b.lt w hw)
  have hy := nx_lt ok hx hc
  have hyF : nx H (wk H 0 w) c < F.length := by rw [i.b.fl]; exact hy
  have hk : wk H 0 (w ++ [c]) = nx H (wk H 0 w) c := wk_app w c
  have hn : F[nx H (wk H 0 w) c] = none := by
    rw [List.getD_eq_getElem?_getD, List.getElem?_eq_getElem hyF] at e; exact e
  refine ⟨⟨by rw [List.length_set]; exact i.b.fl, fun x u eu => ?_, fun u hu => ?_, by simp [i.b.z], fun u hu d hd => ?_, ?_, ?_, fun j u eu => ?_⟩, ?_, fun j u hj eu d hd => ?_, fun d hd => ?_, fun u hu => ?_⟩
  · rw [List.getD_eq_getElem?_getD] at eu
    by_cases hxy : nx H (wk H 0 w) c = x
    · subst hxy
      rw [List.getElem?_set_self hyF] at eu
      simp at eu; subst eu
      exact ⟨by simp, hk⟩
    · rw [List.getElem?_set_ne hxy, ← List.getD_eq_getElem?_getD] at eu
      obtain ⟨m, k⟩ := i.b.f1 _ _ eu
      exact ⟨by simp [m], k⟩
  · rcases List.mem_append.mp hu with hu | hu
    · have h2 := i.b.f2 u hu
      have hne : nx H (wk H 0 w) c ≠ wk H 0 u := by intro h; rw [← h, e] at h2; cases h2
      rw [List.getD_eq_getElem?_getD, List.getElem?_set_ne hne, ← List.getD_eq_getElem?_getD]; exact h2
    · simp at hu; subst hu
      rw [hk, List.getD_eq_getElem?_getD, List.getElem?_set_self hyF]; rfl
  · rcases List.mem_append.mp hu with hu | hu
    · exact i.b.lt u hu d hd
    · simp at hu; subst hu
      rcases List.mem_append.mp hd with hd | hd
      · exact i.b.lt w hw d hd
      · simp at hd; omega
  · refine List.pairwise_append.mpr ⟨i.b.pw, by simp, fun u hu v hv => ?_⟩
    simp at hv; subst hv
    exact i.up u hu
  · have := i.b.cnt
    rw [List.countP_set hyF, hn]
    have hpos : 0 < F.countP (·.isNone) := List.countP_pos_iff.mpr ⟨none, by rw [← hn]; exact List.getElem_mem _, rfl⟩
    simp
    omega
  · rcases Nat.lt_or_ge j ws.length with h | h
    · rw [List.getElem?_append_left h] at eu; exact i.b.len j u eu
    · rw [List.getElem?_append_right h] at eu
      have : j - ws.length = 0 := by
        rcases Nat.eq_zero_or_pos (j - ws.length) with h | h
        · exact h
        · rw [List.getElem?_eq_none (by simp; omega)] at eu; cases eu
      rw [this] at eu
      simp at eu; subst eu
      have := i.b.len a w i.at'
      simp; omega
  · rw [List.getElem?_append_left ha]; exact i.at'
  · rw [List.getElem?_append_left (by omega)] at eu
    exact (i.done j u hj eu d hd).more
  · rcases Nat.lt_or_ge d c with h | h
    · exact (i.cur d h).more
    · have : d = c := by omega
      subst this
      exact ⟨w ++ [d], by simp, hk, .inr rfl⟩
  · rcases List.mem_append.mp hu with hu | hu
    · exact slt_trans (i.up u hu) (slt_last w (by omega))
    · simp at hu; subst hu
      exact slt_last w (by omega)
theorem out0 {H : Hs} (hn : 1 ≤ H.W.length) : Out H ((List.replicate H.W.length none).set 0 (some [])) [[]] 0 := by
  have hl : 0 < (List.replicate H.W.length (none : Option (List Nat))).length := by simp; omega
  have hz : ((List.replicate H.W.length none).set 0 (some ([] : List Nat))).getD 0 none = some [] := by
    rw [List.getD_eq_getElem?_getD, List.getElem?_set_self hl]; rfl
  refine ⟨⟨by simp, fun x w e => ?_, fun w hw => ?_, by simp, fun w hw => ?_, by simp, ?_, fun i w e => ?_⟩, fun i w h => by omega, fun w e v hv => ?_⟩
  · rcases Nat.eq_zero_or_pos x with rfl | hx
    · rw [hz] at e; cases e; exact ⟨by simp, rfl⟩
    · rw [List.getD_eq_getElem?_getD, List.getElem?_set_ne (by omega), ← List.getD_eq_getElem?_getD] at e
      simp [List.getD_eq_getElem?_getD, List.getElem?_replicate] at e
      split at e <;> simp at e
  · simp at hw; subst hw; exact hz
  · simp at hw; subst hw; simp
  · rw [List.countP_set hl]
    simp [List.countP_replicate]
    omega
  · cases i with
    | zero => simp at e; subst e; simp
    | succ i => simp at e
  · simp at e hv; subst e; subst hv
    left; simp
theorem Out.ok {H : Hs} {F : List (Option (List Nat))} {ws : List (List Nat)} {a : Nat} (o : Out H F ws a) (ha : ws.length ≤ a) : WaysOk H F := by
  refine ⟨o.b.fl, o.b.f2 [] o.b.z, fun x w e => ?_⟩
  obtain ⟨m, k⟩ := o.b.f1 x w e
  obtain ⟨i, hi, ei⟩ := List.mem_iff_getElem.mp m
  have ei' : ws[i]? = some w := by rw [List.getElem?_eq_getElem hi, ei]
  refine ⟨k, o.b.lt w m, by have := o.b.len i w ei'; have := o.b.cnt; omega, fun c hc => ?_⟩
  obtain ⟨v, hv, kv, sv⟩ := o.done i w (by omega) ei' c hc
  rw [k] at kv
  exact ⟨v, kv ▸ o.b.f2 v hv, sv⟩
theorem WaysOk.least {H : Hs} {F : List (Option (List Nat))} (o : WaysOk H F) (u : List Nat) : ∀ (n : Nat), u.length = n → (∀ c ∈ u, c < H.l) → ∃ v, F.getD (wk H 0 u) none = some v ∧ sle v u := by
  intro n
  induction n generalizing u with
  | zero => intro hu _; have : u = [] := List.length_eq_zero_iff.mp hu
            subst this; exact ⟨[], o.z, .inr rfl⟩
  | succ n ih =>
    intro hu hc
    have hne : u ≠ [] := by intro h; subst h; simp at hu
    rw [← List.dropLast_concat_getLast hne] at hc ⊢
    generalize hd : u.dropLast = d at hc ⊢
    generalize u.getLast hne = x at hc ⊢
    obtain ⟨w, e, s⟩ := ih d (by subst hd; simp; omega) (fun c h => hc c (by simp [h]))
    obtain ⟨_, _, _, h⟩ := o.ok _ _ e
    obtain ⟨v, e', s'⟩ := h x (hc x (by simp))
    exact ⟨v, by rw [wk_app]; exact e', sle_trans s' (sle_app x s)⟩
theorem sle_anti {a b : List Nat} (h1 : sle a b) (h2 : sle b a) : a = b := by
  rcases h1 with h1 | h1
  · exact (slt_irr (sle_slt h2 h1)).elim
  · exact h1
theorem WaysOk.uniq {H : Hs} {F G : List (Option (List Nat))} (o : WaysOk H F) (p : WaysOk H G) : F = G := by
  have key : ∀ {F G : List (Option (List Nat))}, WaysOk H F → WaysOk H G → ∀ x w, F.getD x none = some w → G.getD x none = some w := by
    intro F G o p x w e
    obtain ⟨k, hl, _, _⟩ := o.ok x w e
    obtain ⟨v, ev, sv⟩ := p.least w _ rfl hl
    rw [k] at ev
    obtain ⟨k', hl', _, _⟩ := p.ok x v ev
    obtain ⟨u, eu, su⟩ := o.least v _ rfl hl'
    rw [k', e] at eu
    cases eu
    rw [ev, sle_anti sv su]
  refine List.ext_getElem? fun x => ?_
  rcases Nat.lt_or_ge x H.W.length with h | h
  · have hF : x < F.length := by rw [o.fl]; exact h
    have hG : x < G.length := by rw [p.fl]; exact h
    have e : F.getD x none = G.getD x none := by
      cases e1 : F.getD x none with
      | some w => rw [key o p x w e1]
      | none =>
        cases e2 : G.getD x none with
        | none => rfl
        | some w => rw [key p o x w e2] at e1; cases e1
    rw [List.getD_eq_getElem?_getD, List.getD_eq_getElem?_getD, List.getElem?_eq_getElem hF, List.getElem?_eq_getElem hG] at e
    rw [List.getElem?_eq_getElem hF, List.getElem?_eq_getElem hG]
    exact congrArg some e
  · rw [List.getElem?_eq_none (by rw [o.fl]; exact h), List.getElem?_eq_none (by rw [p.fl]; exact h)]

/-- the rooms that are reached -/
def addAll (row : List Nat) : List Nat → List Nat
  | [] => row
  | g :: gs => addAll (if g ∈ row then row else row ++ [g]) gs
def bfs (H : Hs) : Nat → List Nat → Nat → List Nat
  | 0, row, _ => row
  | f + 1, row, a => if a < row.length then bfs H f (addAll row (H.W.getD (row.getD a 0) [])) (a + 1) else row
def reach (H : Hs) : List Nat := bfs H H.W.length [0] 0
theorem bfs_end {H : Hs} {row : List Nat} {a : Nat} (h : row.length ≤ a) : ∀ m, bfs H m row a = row
  | 0 => rfl
  | m + 1 => by unfold bfs; rw [if_neg (by omega)]
/-! the walk -/
def wD (w : List Nat) : D := .tup (w.map fun (g : Nat) => D.int (g : Int))
def oD : Option (List Nat) → D
  | none => .non
  | some w => wD w
theorem alikes_int : ∀ (a b : List Nat), D.alikes (a.map fun (g : Nat) => D.int (g : Int)) (b.map fun (g : Nat) => D.int (g : Int)) = true
  | [], _ => by simp [D.alikes]
  | _ :: _, [] => by simp [D.alikes]
  | x :: a, y :: b => by simp only [List.map_cons, D.alikes, D.alike, Bool.true_and]; exact alikes_int a b
theorem ltds_lx : ∀ {a b : List Nat}, lx a b ∨ a = b → D.ltds (b.map fun (g : Nat) => D.int (g : Int)) (a.map fun (g : Nat) => D.int (g : Int)) = false
  | [], [], _ => by simp [D.ltds]
  | [], _ :: _, h => by simp [lx] at h
  | _ :: _, [], h => by simp [lx] at h
  | x :: a, y :: b, h => by
    rw [List.map_cons, List.map_cons, ltds_int]
    simp only [lx, List.cons.injEq] at h
    by_cases e : x = y
    · subst e
      rw [if_pos rfl]
      exact ltds_lx (h.elim (fun h => h.elim (fun h => absurd h (Nat.lt_irrefl _)) (fun h => .inl h.2)) (fun h => .inr h.2))
    · rw [if_neg (by omega)]
      have : x < y := by rcases h with (h | h) | h <;> omega
      simp; omega
theorem fla_oD (o : Option (List Nat)) (n : Nat) : (oD o).fla (n + 1) = true := by
  cases o with
  | none => simp [oD, D.fla]
  | some w => exact fla_tup (flas_map fun _ _ => fla_int)
end N80

namespace N80
open PySem PySem.Spec PyProof.Rows L2 G
theorem lx_tri : ∀ {a b : List Nat}, a.length = b.length → lx a b ∨ a = b ∨ lx b a
  | [], [], _ => .inr (.inl rfl)
  | [], _ :: _, h => by simp at h
  | _ :: _, [], h => by simp at h
  | x :: a, y :: b, h => by
    simp only [lx]
    rcases Nat.lt_trichotomy x y with z | z | z
    · exact .inl (.inl z)
    · subst z
      rcases lx_tri (a := a) (b := b) (by simpa using h) with q | q | q
      · exact .inl (.inr ⟨rfl, q⟩)
      · subst q; exact .inr (.inl rfl)
      · exact .inr (.inr (.inr ⟨rfl, q⟩))
    · exact .inr (.inr (.inl z))
theorem slt_tri (a b : List Nat) : slt a b ∨ a = b ∨ slt b a := by
  rcases Nat.lt_trichotomy a.length b.length with h | h | h
  · exact .inl (.inl h)
  · rcases lx_tri h with q | q | q
    · exact .inl (.inr ⟨h, q⟩)
    · exact .inr (.inl q)
    · exact .inr (.inr (.inr ⟨h.symm, q⟩))
  · exact .inr (.inr (.inl h))
end N80

namespace N80
open PySem PySem.Spec PyProof.Rows L2 G
def col (H : Hs) (w : List Nat) (x : Nat) : Int := H.marks.getD (wk H x w) 0
theorem col_cons (H : Hs) (c : Nat) (w : List Nat) (x : Nat) : col H (c :: w) x = col H w (nx H x c) := rfl
theorem mk_col {H : Hs} {w : List Nat} (hx : wk H 0 w < H.marks.length) : H.marks[wk H 0 w] = col H w 0 := by
  unfold col
  rw [List.getD_eq_getElem?_getD, List.getElem?_eq_getElem hx]; rfl
end N80

namespace N80
open PySem PySem.Spec PyProof.Rows L2 G
/-! lists of data of a kind: is it in, and where -/
/-- data of a kind: alike just where they are the same -/
structure KF {α : Type} (f : α → D) : Prop where
  eq : ∀ a b, D.eqv (f a) (f b) = true ↔ a = b
  fl : ∀ a n, (f a).fla (n + 10) = true
section
variable {α : Type} {f : α → D} {l : List α} {a b : α}
theorem KF.t (hf : KF f) : D.eqv (f a) (f a) = true := (hf.eq a a).mpr rfl
theorem KF.ne (hf : KF f) (h : a ≠ b) : D.eqv (f a) (f b) = false := Bool.eq_false_iff.mpr fun z => h ((hf.eq a b).mp z)
theorem any_f (hf : KF f) : ((l.map f).any fun z => D.eqv z (f a)) = true ↔ a ∈ l := by
  rw [List.any_eq_true]
  constructor
  · rintro ⟨d, hd, e⟩
    obtain ⟨b, hb, rfl⟩ := List.mem_map.mp hd
    rw [← (hf.eq b a).mp e]; exact hb
  · exact fun h => ⟨f a, List.mem_map.mpr ⟨a, h, rfl⟩, hf.t⟩
theorem any_t (hf : KF f) (h : a ∈ l) : ((l.map f).any fun z => D.eqv z (f a)) = true := (any_f hf).mpr h
theorem any_n (hf : KF f) (h : a ∉ l) : ((l.map f).any fun z => D.eqv z (f a)) = false := Bool.eq_false_iff.mpr fun z => h ((any_f hf).mp z)
theorem find_f [DecidableEq α] (hf : KF f) (ha : a ∈ l) : ((l.map f).findIdx? fun z => D.eqv z (f a)) = some (l.idxOf a) := by
  induction l with
  | nil => cases ha
  | cons x l ih =>
    rw [List.map_cons, List.findIdx?_cons, List.idxOf_cons]
    by_cases e : x = a
    · subst e; rw [hf.t]; simp
    · have h1 : (x == a) = false := by simpa using e
      have ha' : a ∈ l := (List.mem_cons.mp ha).elim (fun z => absurd z.symm e) id
      rw [hf.ne e, h1, ih ha']
      rfl
theorem eqvs_f (he : ∀ a b, D.eqv (f a) (f b) = true ↔ a = b) : ∀ {l m : List α}, D.eqvs (l.map f) (m.map f) = true ↔ l = m
  | [], [] => by simp [D.eqvs]
  | [], _ :: _ => by simp [D.eqvs]
  | _ :: _, [] => by simp [D.eqvs]
  | x :: l, y :: m => by
    rw [List.map_cons, List.map_cons]
    simp only [D.eqvs, Bool.and_eq_true, he, eqvs_f he, List.cons.injEq]
theorem flas_f (hf : KF f) (n : Nat) : D.flas (n + 10) (l.map f) = true := flas_map fun a _ => hf.fl a n
variable {h : AH} {P : D → Prop} {v : VV}
theorem notIn_t (hf : KF f) (e : (v.obj h).bind AO.list = some (l.map f)) (hm : a ∈ l) (q : P (.bl false)) : cmpW .notIn h (.d (f a)) v P :=
  ⟨_, rfl, .inr ⟨_, e, hf.fl a 50, flas_f hf 49, by rw [any_t hf hm]; exact q⟩⟩
theorem notIn_n (hf : KF f) (e : (v.obj h).bind AO.list = some (l.map f)) (hm : a ∉ l) (q : P (.bl true)) : cmpW .notIn h (.d (f a)) v P :=
  ⟨_, rfl, .inr ⟨_, e, hf.fl a 50, flas_f hf 49, by rw [any_n hf hm]; exact q⟩⟩
theorem isIn_t (hf : KF f) (e : (v.obj h).bind AO.list = some (l.map f)) (hm : a ∈ l) (q : P (.bl true)) : cmpW .isIn h (.d (f a)) v P :=
  ⟨_, rfl, .inr ⟨_, e, hf.fl a 50, flas_f hf 49, by rw [any_t hf hm]; exact q⟩⟩
theorem isIn_n (hf : KF f) (e : (v.obj h).bind AO.list = some (l.map f)) (hm : a ∉ l) (q : P (.bl false)) : cmpW .isIn h (.d (f a)) v P :=
  ⟨_, rfl, .inr ⟨_, e, hf.fl a 50, flas_f hf 49, by rw [any_n hf hm]; exact q⟩⟩
theorem idx_f [DecidableEq α] (hf : KF f) (e : (v.obj h).bind AO.list = some (l.map f)) (ha : a ∈ l) (q : P (.int (l.idxOf a : Nat))) : idxW h v (.d (f a)) P :=
  idx_at e (hf.fl a 50) (flas_f hf 49) (find_f hf ha) q
theorem eq_t (hf : KF f) {x y : VV} (e1 : x.dat h = some (f a)) (e2 : y.dat h = some (f a)) (q : P (.bl true)) : cmpW .eq h x y P :=
  c_eq e1 e2 (hf.fl a 50) (hf.fl a 50) (by rw [hf.t]; exact q)
theorem eq_n (hf : KF f) {x y : VV} (e1 : x.dat h = some (f a)) (e2 : y.dat h = some (f b)) (hn : a ≠ b) (q : P (.bl false)) : cmpW .eq h x y P :=
  c_eq e1 e2 (hf.fl a 50) (hf.fl b 50) (by rw [hf.ne hn]; exact q)
theorem ne_t (hf : KF f) {x y : VV} (e1 : x.dat h = some (f a)) (e2 : y.dat h = some (f a)) (q : P (.bl false)) : cmpW .ne h x y P :=
  c_ne e1 e2 (hf.fl a 50) (hf.fl a 50) (by rw [hf.t]; exact q)
theorem ne_n (hf : KF f) {x y : VV} (e1 : x.dat h = some (f a)) (e2 : y.dat h = some (f b)) (hn : a ≠ b) (q : P (.bl true)) : cmpW .ne h x y P :=
  c_ne e1 e2 (hf.fl a 50) (hf.fl b 50) (by rw [hf.ne hn]; exact q)
end
theorem isI_bb {h : AH} {P : D → Prop} {b : Bool} (q : P (.bl true)) : biW (.isI "bool") h [.d (.bl b)] P := ⟨true, rfl, q⟩
theorem ixN_last {n : Nat} (h : 1 ≤ n) : ixN n (-1) = some (n - 1) := by
  unfold ixN
  rw [if_neg (by omega), if_pos (by omega)]
  congr 1
  omega
theorem atI_last {α : Type} {xs : List α} {v : α} (e : xs.getLast? = some v) : atI xs (-1) = some v := by
  have hl : 1 ≤ xs.length := by
    cases xs with
    | nil => cases e
    | cons x xs => simp
  unfold atI
  rw [ixN_last hl]
  rw [List.getLast?_eq_getElem?] at e
  exact e
theorem kf_int : KF D.int := ⟨fun a b => by simp only [D.eqv]; exact beq_iff_eq, fun _ _ => fla_int⟩
theorem kf_nat : KF (fun (g : Nat) => D.int (g : Int)) := ⟨fun a b => by
  simp only [D.eqv]
  rw [beq_iff_eq]
  omega, fun _ _ => fla_int⟩
theorem kf_wD : KF wD := ⟨fun a b => by unfold wD; simp only [D.eqv]; exact eqvs_f kf_nat.eq, fun w n => fla_tup (n := n + 9) (flas_map fun _ _ => fla_int)⟩
end N80

namespace N80
open PySem PySem.Spec PyProof.Rows L2 G
/-- a list, be it a value or an object -/
def LV (h : AH) (v : D) (xs : List D) : Prop := ((VV.d v).obj h).bind AO.list = some xs
theorem LV.obj {h : AH} {v : D} {xs : List D} (e : LV h v xs) : (VV.d v).obj h = some (.lst xs) := by
  unfold LV at e
  generalize (VV.d v).obj h = o at e
  cases o with
  | none => cases e
  | some o => cases o <;> first | (cases e; rfl) | cases e
theorem LV.seq {h : AH} {v : D} {xs : List D} (e : LV h v xs) : (VV.d v).seq h = some xs := by
  unfold LV at e
  cases v <;> first | exact e | cases e
theorem LV.len {h : AH} {v : D} {xs : List D} (e : LV h v xs) : (VV.d v).len h = some xs.length := by
  have e0 := e.obj
  cases v with
  | fz ys => cases e0; rfl
  | ref n =>
    show ((VV.d (.ref n)).obj h).bind AO.size = _
    rw [e0]; rfl
  | _ => cases e0
theorem LV.dat {h : AH} {v : D} {xs : List D} (e : LV h v xs) : (VV.d v).dat h = some (.fz xs) := by
  have e0 := e.obj
  cases v with
  | fz ys => cases e0; rfl
  | ref n =>
    show (h[n]?).bind (fun o => o.list.map D.fz) = some (D.fz xs)
    rw [show h[n]? = some (.lst xs) from e0]; rfl
  | _ => cases e0
theorem intsOf_map : ∀ z : List Int, intsOf (z.map D.int) = some z
  | [] => rfl
  | i :: z => by
    show intsOf (D.int i :: z.map D.int) = _
    unfold intsOf
    rw [intsOf_map z]
    rfl
theorem x_lv {α : Type} {f : α → D} {xs : List α} {h : AH} {v : D} {j : Nat} {P : D → Prop} (lv : LV h v (xs.map f)) (hj : j < xs.length) (q : P (f (xs[j]'hj))) : ixW h (.d v) (.d (.int (j : Int))) P :=
  x_at lv.seq (atI_nat (by rw [List.getElem?_map, List.getElem?_eq_getElem hj]; rfl)) q
def fzI (z : List Int) : D := .fz (z.map .int)
theorem kf_fzI : KF fzI := ⟨fun a b => by unfold fzI; simp only [D.eqv]; exact eqvs_f kf_int.eq, fun w n => fla_fz (n := n + 9) (flas_map fun _ _ => fla_int)⟩
/-- a loop over a list, whatever its target -/
theorem for_ixG {g : CG} {B : Ev → AH → CEnds → Prop} {guard : AH → Prop} {h : AH} {env : Ev} {rn : Ev → AH → Prop} {rt : RR → AH → Prop} {rb rc : Ev → AH → Prop} {rx : EX → Ev → AH → Prop} (hg : guard h) {xs : List D} (I : Nat → Ev → Prop) (i0 : I 0 env) (h0 : ∀ env, I xs.length env → rn env h)
    (hs : ∀ (j : Nat) (hj : j < xs.length) env, I j env → ∀ N : Ev → AH → Prop, (∀ e, I (j + 1) e → N e h) → gW g (xs[j]'hj) env fun env' => B env' h ⟨N, rt, rn, N, rx⟩) :
    forW guard g B xs env h ⟨rn, rt, rb, rc, rx⟩ := by
  have key : ∀ (m j : Nat) env, j + m = xs.length → I j env → forW guard g B (xs.drop j) env h ⟨rn, rt, rb, rc, rx⟩ := by
    intro m
    induction m with
    | zero => intro j env e i; have : j = xs.length := by omega
              subst this; rw [List.drop_length]; exact ⟨hg, h0 env i⟩
    | succ m ih =>
      intro j env e i
      have hj : j < xs.length := by omega
      rw [List.drop_eq_getElem_cons hj]; exact ⟨hg, hs j hj env i _ fun e' i' => ih (j + 1) e' (by omega) i'⟩
  exact key xs.length 0 env (by omega) i0
theorem gW2 {i j : Nat} {a b : D} {env : Ev} {Q : Ev → Prop} (q : Q (setsE [i, j] [a, b] env)) : gW (.tp [i, j]) (.tup [a, b]) env Q := ⟨_, rfl, rfl, q⟩
end N80

namespace N80
open PySem PySem.Spec PyProof.Rows L2 G
/-! lists of the heap, as they are made and read -/
section
variable {Γ : GM} {cs : Nat → Option D} {h : AH} {X : EX → AH → Prop}
/-- a comprehension whose items are new objects of the heap -/
theorem lc_newL {α : Type} {g : Nat} {E : Ev → AH → (VV → AH → Prop) → Prop} {guard : AH → Prop} {Q : List D → AH → Prop} {env : Ev} (hg : ∀ u, guard (h ++ u)) {f0 : α → D} (ob : α → AO) {ns : List α} (hl : ns.length ≤ sizeLine)
    (hs : ∀ x ∈ ns, ∀ u, ∀ Q : VV → AH → Prop, Q (.d (.ref (h ++ u).length)) ((h ++ u) ++ [ob x]) → E (env.set g (some (.val (f0 x)))) (h ++ u) Q) (q : Q ((List.range' h.length ns.length).map .ref) (h ++ ns.map ob)) :
    lcW guard env (.nm g) (fun env' h Q => wpTs Γ cs .nil env' h Q fun _ _ => False) E (ns.map f0) [] h Q := by
  have key : ∀ (ys : List α) (u : AH) (acc : List D), acc.length + ys.length ≤ sizeLine → (∀ y ∈ ys, y ∈ ns) → Q (acc ++ (List.range' (h ++ u).length ys.length).map .ref) ((h ++ u) ++ ys.map ob) →
      lcW guard env (.nm g) (fun env' h Q => wpTs Γ cs .nil env' h Q fun _ _ => False) E (ys.map f0) acc (h ++ u) Q := by
    intro ys
    induction ys with
    | nil => intro u acc _ _ q; exact ⟨hg u, by simpa using q⟩
    | cons y ys ih =>
      intro u acc l m q
      refine ⟨hg u, g_nm (w_tsnil ?_)⟩
      rw [if_pos rfl]
      refine hs y (m y (by simp)) u _ ⟨_, rfl, by simp at l; omega, ?_⟩
      have e : (h ++ u) ++ [ob y] = h ++ (u ++ [ob y]) := List.append_assoc ..
      rw [e]
      refine ih (u ++ [ob y]) _ (by simp at l ⊢; omega) (fun z hz => m z (by simp [hz])) ?_
      have e1 : (h ++ (u ++ [ob y])).length = (h ++ u).length + 1 := by simp; omega
      have e2 : (h ++ (u ++ [ob y])) ++ ys.map ob = (h ++ u) ++ (y :: ys).map ob := by simp
      rw [e1, e2, List.append_assoc]
      rw [List.length_cons, List.range'_succ] at q
      simpa using q
  have := key ns [] [] (by simpa using hl) (fun _ h => h) (by simpa using q)
  simpa using this
/-- a comprehension whose items are some of a kind -/
theorem lc_someL {α β : Type} {g : Nat} {E : Ev → AH → (VV → AH → Prop) → Prop} {guard : AH → Prop} {Q : List D → AH → Prop} {env : Ev} (hg : guard h) {f0 : α → D} (f1 : β → D) (P : β → Prop) {ns : List α} (hl : ns.length ≤ sizeLine)
    (hs : ∀ x ∈ ns, ∀ Q : VV → AH → Prop, (∀ y, P y → Q (.d (f1 y)) h) → E (env.set g (some (.val (f0 x)))) h Q) (q : ∀ ys : List β, ys.length = ns.length → (∀ y ∈ ys, P y) → Q (ys.map f1) h) :
    lcW guard env (.nm g) (fun env' h Q => wpTs Γ cs .nil env' h Q fun _ _ => False) E (ns.map f0) [] h Q := by
  have key : ∀ (xs : List α) (acc : List β), acc.length + xs.length ≤ sizeLine → (∀ x ∈ xs, x ∈ ns) → (∀ y ∈ acc, P y) → (∀ ys : List β, ys.length = acc.length + xs.length → (∀ y ∈ ys, P y) → Q (ys.map f1) h) →
      lcW guard env (.nm g) (fun env' h Q => wpTs Γ cs .nil env' h Q fun _ _ => False) E (xs.map f0) (acc.map f1) h Q := by
    intro xs
    induction xs with
    | nil => intro acc _ _ hp q; exact ⟨hg, q acc (by simp) hp⟩
    | cons x xs ih =>
      intro acc l m hp q
      refine ⟨hg, g_nm (w_tsnil ?_)⟩
      rw [if_pos rfl]
      refine hs x (m x (by simp)) _ fun y hy => ⟨_, rfl, by simp at l ⊢; omega, ?_⟩
      have e : acc.map f1 ++ [f1 y] = (acc ++ [y]).map f1 := by simp
      rw [e]
      exact ih (acc ++ [y]) (by simp at l ⊢; omega) (fun z hz => m z (by simp [hz])) (fun z hz => by
        rcases List.mem_append.mp hz with hz | hz
        · exact hp z hz
        · simp at hz; subst hz; exact hy) (fun ys h1 h2 => q ys (by simp at h1 ⊢; omega) h2)
  exact key ns [] (by simpa using hl) (fun _ h => h) (by simp) (fun ys h1 h2 => q ys (by simpa using h1) h2)
theorem lc_rgs {β : Type} {g : Nat} {E : Ev → AH → (VV → AH → Prop) → Prop} {guard : AH → Prop} {Q : List D → AH → Prop} {env : Ev} (hg : guard h) (f1 : β → D) (P : β → Prop) {n : Nat} (hl : n ≤ sizeLine)
    (hs : ∀ j, j < n → ∀ Q : VV → AH → Prop, (∀ y, P y → Q (.d (f1 y)) h) → E (env.set g (some (.val (.int (j : Int))))) h Q) (q : ∀ ys : List β, ys.length = n → (∀ y ∈ ys, P y) → Q (ys.map f1) h) :
    lcW guard env (.nm g) (fun env' h Q => wpTs Γ cs .nil env' h Q fun _ _ => False) E (rgD 0 n) [] h Q := by
  rw [rgD0]
  exact lc_someL hg f1 P (by simpa using hl) (fun x hx => hs x (by simpa using hx)) (fun ys h1 h2 => q ys (by simpa using h1) h2)
theorem x_ref {α : Type} {f : α → D} {ns : List α} {n j : Nat} {P : D → Prop} (e : h[n]? = some (.lst (ns.map f))) (hj : j < ns.length) (q : P (f (ns[j]'hj))) : ixW h (.d (.ref n)) (.d (.int (j : Int))) P :=
  .inl ⟨ns.map f, j, _, by show (h[n]?).bind AO.list = _; rw [e]; rfl, rfl, atI_nat (by rw [List.getElem?_map, List.getElem?_eq_getElem hj]; rfl), q⟩
theorem x_refD {ds : List D} {n j : Nat} {v : D} {P : D → Prop} (e : h[n]? = some (.lst ds)) (hj : ds[j]? = some v) (q : P v) : ixW h (.d (.ref n)) (.d (.int (j : Int))) P :=
  .inl ⟨ds, j, v, by show (h[n]?).bind AO.list = _; rw [e]; rfl, rfl, atI_nat hj, q⟩
theorem s_ref {n : Nat} {xs : List D} {P : List D → Prop} (e : h[n]? = some (.lst xs)) (q : P xs) : ∃ ys, (VV.d (.ref n)).seq h = some ys ∧ P ys := ⟨xs, by show (h[n]?).bind AO.list = _; rw [e]; rfl, q⟩
theorem v_ref {cp : Bool} {n : Nat} {xs : List D} {P : List D → Prop} (e : h[n]? = some (.lst xs)) (q : P xs) : (cp = true ∨ ∀ o, VV.d (.ref n) ≠ .tw o) ∧ ∃ ys, (VV.d (.ref n)).seq h = some ys ∧ P ys := ⟨.inr (by intro _ e; cases e), xs, by show (h[n]?).bind AO.list = _; rw [e]; rfl, q⟩
theorem e_ref {n : Nat} {xs : List D} {P : List D → Prop} {R : Prop} (e : h[n]? = some (.lst xs)) (q : P xs) : (∃ ys, (VV.d (.ref n)).seq h = some ys ∧ P ys) ∨ R := .inl (s_ref e q)
theorem i_ref {n : Nat} {xs : List D} {P : D → Prop} (e : h[n]? = some (.lst xs)) (q : P (.int xs.length)) : biW .len h [.d (.ref n)] P := ⟨xs.length, by show (h[n]?).bind AO.size = _; rw [e]; rfl, q⟩
end
theorem ixN_nat {n j : Nat} (h : j < n) : ixN n (j : Int) = some j := by
  unfold ixN
  rw [if_pos (by omega), if_pos (by omega)]
  simp
theorem w_joinH {Γ : GM} {cs : Nat → Option D} {a : CS} {r : CSs} {env : Ev} {h : AH} {rn : Ev → AH → Prop} {rt : RR → AH → Prop} {rb rc : Ev → AH → Prop} {rx : EX → Ev → AH → Prop} (P : Ev → AH → Prop) (hr : ∀ e h', P e h' → wpSs Γ cs r e h' ⟨rn, rt, rb, rc, rx⟩)
    (q : ∀ N : Ev → AH → Prop, (∀ e h', P e h' → N e h') → wpS Γ cs a env h ⟨N, rt, rb, rc, rx⟩) : wpSs Γ cs (.cons a r) env h ⟨rn, rt, rb, rc, rx⟩ := q _ hr
/-- rows of numbers in the heap, and the list of them -/
def rowO (r : List Nat) : AO := .lst (r.map fun (g : Nat) => D.int (g : Int))
def rfs (n m : Nat) : List D := (List.range' n m).map .ref
def rowsH (h : AH) (R : List (List Nat)) : AH := (h ++ R.map rowO) ++ [.lst (rfs h.length R.length)]
theorem rowsH_top {h : AH} {R : List (List Nat)} : (rowsH h R)[h.length + R.length]? = some (.lst (rfs h.length R.length)) := by
  unfold rowsH
  rw [List.getElem?_append_right (by simp)]
  simp
theorem rowsH_row {h : AH} {R : List (List Nat)} {i : Nat} (hi : i < R.length) : (rowsH h R)[h.length + i]? = some (.lst ((R[i]).map fun (g : Nat) => D.int (g : Int))) := by
  unfold rowsH
  rw [List.getElem?_append_left (by simp; omega), List.getElem?_append_right (by omega), Nat.add_sub_cancel_left, List.getElem?_map, List.getElem?_eq_getElem hi]
  rfl
theorem rfs_at {n m i : Nat} (hi : i < m) : (rfs n m)[i]? = some (.ref (n + i)) := by
  unfold rfs
  rw [List.getElem?_map, List.getElem?_range' hi]; simp
theorem rowsH_set {h : AH} {R : List (List Nat)} {i : Nat} {r : List Nat} (hi : i < R.length) : (rowsH h R).set (h.length + i) (.lst (r.map fun (g : Nat) => D.int (g : Int))) = rowsH h (R.set i r) := by
  unfold rowsH
  rw [List.set_append_left _ _ (by simp; omega), List.set_append_right _ _ (by omega), Nat.add_sub_cancel_left, List.length_set]
  congr 2
  exact List.map_set.symm
theorem rowsH_map {h : AH} {R : List (List Nat)} {f : Nat → D} {g : List Nat → D} (e : ∀ i (hi : i < R.length), f (h.length + i) = g R[i]) : (List.range' h.length R.length).map f = R.map g := by
  refine List.ext_getElem (by simp) fun i hi hi' => ?_
  rw [List.getElem_map, List.getElem_map, List.getElem_range']
  simpa using e i (by simpa using hi)
end N80

namespace N80
open PySem PySem.Spec PyProof.Rows L2 G
/-! loops in which the heap changes -/
section
variable {Γ : GM} {cs : Nat → Option D} {X : EX → AH → Prop} {rn : Ev → AH → Prop} {rt : RR → AH → Prop} {rb rc : Ev → AH → Prop} {rx : EX → Ev → AH → Prop} {env : Ev} {h : AH}
theorem whl_indH {t : CT} {a : CSs} (W : Nat → Ev → AH → Prop) (m : Nat) (i : W m env h)
    (hs : ∀ m env h, W m env h → ∀ N : Ev → AH → Prop, (∀ m' e h', m' < m → W m' e h' → N e h') → wpT Γ cs t env h (fun k h' => if k = true then wpSs Γ cs a env h' ⟨N, rt, rn, N, rx⟩ else rn env h') (fun x h' => rx x env h')) : wpS Γ cs (.whl t a) env h ⟨rn, rt, rb, rc, rx⟩ :=
  ⟨W, ⟨m, i⟩, fun m e h' w => hs m e h' w _ fun m' _ _ l i' => ⟨m', l, i'⟩⟩
theorem for_rgHl {g : Nat} {B : Ev → AH → CEnds → Prop} {guard : AH → Prop} (hg : ∀ h', guard h') {lo : Int} {n : Nat} (I : Nat → Ev → AH → Prop) (i0 : I 0 env h) (h0 : ∀ env h', I n env h' → rn env h')
    (hs : ∀ (j : Nat) env h', j < n → I j env h' → ∀ N : Ev → AH → Prop, (∀ e h'', I (j + 1) e h'' → N e h'') → B (env.set g (some (.val (.int (lo + j))))) h' ⟨N, rt, rn, N, rx⟩) :
    forW guard (.nm g) B (rgD lo n) env h ⟨rn, rt, rb, rc, rx⟩ := by
  have key : ∀ (m j : Nat) env h', j + m = n → I j env h' → forW guard (.nm g) B ((List.range' j m).map fun (k : Nat) => D.int (lo + (k : Int))) env h' ⟨rn, rt, rb, rc, rx⟩ := by
    intro m
    induction m with
    | zero => intro j env h' e i; have : j = n := by omega
              subst this; exact ⟨hg h', h0 env h' i⟩
    | succ m ih => intro j env h' e i; exact ⟨hg h', hs j env h' (by omega) i _ fun e' h'' i' => ih (j + 1) e' h'' (by omega) i'⟩
  have := key n 0 env h (by omega) i0
  rwa [← List.range_eq_range'] at this
theorem for_rgH {g : Nat} {B : Ev → AH → CEnds → Prop} {guard : AH → Prop} (hg : ∀ h', guard h') {n : Nat} (I : Nat → Ev → AH → Prop) (i0 : I 0 env h) (h0 : ∀ env h', I n env h' → rn env h')
    (hs : ∀ (j : Nat) env h', j < n → I j env h' → ∀ N : Ev → AH → Prop, (∀ e h'', I (j + 1) e h'' → N e h'') → B (env.set g (some (.val (.int (j : Int))))) h' ⟨N, rt, rn, N, rx⟩) :
    forW guard (.nm g) B (rgD 0 n) env h ⟨rn, rt, rb, rc, rx⟩ :=
  for_rgHl hg I i0 h0 fun j e h' hj i N hN => by rw [Int.zero_add]; exact hs j e h' hj i N hN
theorem for_ixH {g : Nat} {B : Ev → AH → CEnds → Prop} {guard : AH → Prop} {xs : List D} (I : Nat → Ev → AH → Prop) (hg : ∀ j e h', I j e h' → guard h') (i0 : I 0 env h) (h0 : ∀ env h', I xs.length env h' → rn env h')
    (hs : ∀ (j : Nat) (hj : j < xs.length) env h', I j env h' → ∀ N : Ev → AH → Prop, (∀ e h'', I (j + 1) e h'' → N e h'') → B (env.set g (some (.val (xs[j]'hj)))) h' ⟨N, rt, rn, N, rx⟩) :
    forW guard (.nm g) B xs env h ⟨rn, rt, rb, rc, rx⟩ := by
  have key : ∀ (m j : Nat) env h', j + m = xs.length → I j env h' → forW guard (.nm g) B (xs.drop j) env h' ⟨rn, rt, rb, rc, rx⟩ := by
    intro m
    induction m with
    | zero => intro j env h' e i; have : j = xs.length := by omega
              subst this; rw [List.drop_length]; exact ⟨hg _ _ _ i, h0 env h' i⟩
    | succ m ih =>
      intro j env h' e i
      have hj : j < xs.length := by omega
      rw [List.drop_eq_getElem_cons hj]; exact ⟨hg _ _ _ i, hs j hj env h' i _ fun e' h'' i' => ih (j + 1) e' h'' (by omega) i'⟩
  exact key xs.length 0 env h (by omega) i0
theorem top_at {h : AH} {o : AO} : (h ++ [o])[h.length]? = some o := by simp
theorem top_set {h : AH} {o o' : AO} : (h ++ [o]).set h.length o' = h ++ [o'] := by simp
end
end N80

namespace N80
open PySem PySem.Spec PyProof.Rows L2 G
/-! plain: the places of words -/
def plF (l p : Nat) (w : List Nat) : Nat := w.foldl (fun p c => p * l + c + 1) p
def pl (l : Nat) (w : List Nat) : Nat := plF l 0 w
theorem plF_cons {l p x : Nat} {a : List Nat} : plF l p (x :: a) = plF l (p * l + x + 1) a := rfl
theorem plF_app {l p : Nat} (a b : List Nat) : plF l p (a ++ b) = plF l (plF l p a) b := by simp [plF]
theorem plF_snoc {l p c : Nat} (a : List Nat) : plF l p (a ++ [c]) = plF l p a * l + c + 1 := by rw [plF_app]; rfl
theorem plF_start {l : Nat} : ∀ {a b : List Nat} {p q : Nat}, p < q → a.length = b.length → (∀ c ∈ a, c < l) → plF l p a < plF l q b
  | [], [], p, q, h, _, _ => h
  | [], _ :: _, _, _, _, e, _ => by simp at e
  | _ :: _, [], _, _, _, e, _ => by simp at e
  | x :: a, y :: b, p, q, h, e, hl => by
    rw [plF_cons, plF_cons]
    refine plF_start ?_ (by simpa using e) fun c hc => hl c (by simp [hc])
    have hx := hl x (by simp)
    have h1 : (p + 1) * l ≤ q * l := Nat.mul_le_mul_right _ h
    rw [Nat.add_mul, Nat.one_mul] at h1
    omega
theorem plF_lx {l p : Nat} : ∀ {a b : List Nat}, a.length = b.length → lx a b → (∀ c ∈ a, c < l) → plF l p a < plF l p b
  | [], [], _, h, _ => by simp [lx] at h
  | [], _ :: _, e, _, _ => by simp at e
  | _ :: _, [], e, _, _ => by simp at e
  | x :: a, y :: b, e, h, hl => by
    have e' : a.length = b.length := by simpa using e
    have hl' : ∀ c ∈ a, c < l := fun c hc => hl c (by simp [hc])
    rw [plF_cons, plF_cons]
    simp only [lx] at h
    rcases h with h | ⟨rfl, h⟩
    · exact plF_start (by omega) e' hl'
    · exact plF_lx e' h hl'
theorem plF_pos {l p : Nat} {w : List Nat} (h : w ≠ []) : 1 ≤ plF l p w := by
  rw [← List.dropLast_concat_getLast h, plF_snoc]
  omega
theorem pl_slt {l : Nat} {a b : List Nat} (h : slt a b) (hl : ∀ c ∈ a, c < l) : pl l a < pl l b := by
  rcases h with h | ⟨e, h⟩
  · unfold pl
    rw [← List.take_append_drop (b.length - a.length) b, plF_app]
    refine plF_start (plF_pos fun z => ?_) (by simp; omega) hl
    have := congrArg List.length z
    simp at this; omega
  · exact plF_lx e h hl
theorem pl_lt {l : Nat} {a b : List Nat} (ha : ∀ c ∈ a, c < l) (hb : ∀ c ∈ b, c < l) : pl l a < pl l b ↔ slt a b := by
  refine ⟨fun h => ?_, fun h => pl_slt h ha⟩
  rcases slt_tri a b with z | z | z
  · exact z
  · subst z; omega
  · have := pl_slt z hb; omega
theorem pl_eq {l : Nat} {a b : List Nat} (ha : ∀ c ∈ a, c < l) (hb : ∀ c ∈ b, c < l) : pl l a = pl l b ↔ a = b := by
  refine ⟨fun h => ?_, fun h => by rw [h]⟩
  rcases slt_tri a b with z | z | z
  · have := pl_slt z ha; omega
  · exact z
  · have := pl_slt z hb; omega
theorem pl_zero {l : Nat} {w : List Nat} : pl l w = 0 ↔ w = [] := by
  constructor
  · intro h
    refine Classical.byContradiction fun hn => ?_
    have := plF_pos (l := l) (p := 0) hn
    unfold pl at h; omega
  · intro h; subst h; rfl
/-- the greatest letter, again and again, and 0, again and again -/
theorem plF_rep {l : Nat} (hl : 1 ≤ l) : ∀ (n p : Nat), plF l p (List.replicate n (l - 1)) + 1 = plF l (p + 1) (List.replicate n 0)
  | 0, p => rfl
  | n + 1, p => by
    rw [List.replicate_succ, List.replicate_succ, plF_cons, plF_cons]
    have e1 : p * l + (l - 1) + 1 = (p + 1) * l := by rw [Nat.add_mul, Nat.one_mul]; omega
    have e2 : (p + 1) * l + 0 + 1 = (p + 1) * l + 1 := by omega
    rw [e1, e2]
    exact plF_rep hl n _
theorem pl_next0 {l n : Nat} (hl : 1 ≤ l) : pl l (List.replicate (n + 1) 0) = pl l (List.replicate n (l - 1)) + 1 := by
  unfold pl
  rw [plF_rep hl n 0, List.replicate_succ, plF_cons]
  simp
theorem pl_next1 {l n c : Nat} (hl : 1 ≤ l) (u : List Nat) : pl l (u ++ [c + 1] ++ List.replicate n 0) = pl l (u ++ [c] ++ List.replicate n (l - 1)) + 1 := by
  unfold pl
  rw [plF_app (u ++ [c + 1]), plF_app (u ++ [c]), plF_snoc, plF_snoc, plF_rep hl, show plF l 0 u * l + (c + 1) + 1 = plF l 0 u * l + c + 1 + 1 from by omega]
end N80

namespace N80
/-! nested rows: plain -/
/-- whether a row is nested, from a depth on -/
def nst (p s : Int) : List Int → Nat → Bool
  | [], d => d == 0
  | x :: xs, d => if x < 0 ∨ x > s then false else if x = s then (match d with
    | 0 => false
    | d + 1 => nst p s xs d) else if p ≤ x then nst p s xs (d + 1) else nst p s xs d
/-- the parts of a row: helper and local word, as they end -/
def pts (p s : Int) : List Int → List (Int × List Int) → List (Int × List Int)
  | [], st => st
  | _ :: _, [] => []
  | x :: xs, (j, w) :: st => if x = s then (j, w) :: pts p s xs st else if p ≤ x then pts p s xs ((x - p, []) :: (j, w ++ [x]) :: st) else pts p s xs ((j, w ++ [x]) :: st)
theorem nst_cons {p s x : Int} {xs : List Int} {d : Nat} : nst p s (x :: xs) d = if x < 0 ∨ x > s then false else if x = s then (match d with
    | 0 => false
    | d + 1 => nst p s xs d) else if p ≤ x then nst p s xs (d + 1) else nst p s xs d := by rw [nst.eq_def]
theorem nst_app {p s : Int} : ∀ {xs ys : List Int} {e d : Nat}, nst p s xs e = true → nst p s (xs ++ ys) (e + d) = nst p s ys d
  | [], ys, e, d, h => by
    have : e = 0 := by simpa [nst] using h
    subst this
    rw [List.nil_append, Nat.zero_add]
  | x :: xs, ys, e, d, h => by
    rw [List.cons_append]
    rw [nst_cons] at h ⊢
    by_cases h1 : x < 0 ∨ x > s
    · rw [if_pos h1] at h; cases h
    rw [if_neg h1] at h ⊢
    by_cases h2 : x = s
    · rw [if_pos h2] at h ⊢
      cases e with
      | zero => cases h
      | succ e =>
        rw [show e + 1 + d = (e + d) + 1 from by omega]
        dsimp only at h ⊢
        exact nst_app h
    rw [if_neg h2] at h ⊢
    by_cases h3 : p ≤ x
    · rw [if_pos h3] at h ⊢
      rw [show e + d + 1 = (e + 1) + d from by omega]
      exact nst_app h
    · rw [if_neg h3] at h ⊢
      exact nst_app h
theorem pts_app {p s : Int} : ∀ {xs rest : List Int} {e : Nat} {st1 st0 : List (Int × List Int)}, nst p s xs e = true → st1.length = e + 1 → pts p s (xs ++ s :: rest) (st1 ++ st0) = pts p s xs st1 ++ pts p s rest st0
  | [], rest, e, st1, st0, h, hl => by
    have : e = 0 := by simpa [nst] using h
    subst this
    obtain ⟨t, rfl⟩ : ∃ t, st1 = [t] := by
      match st1, hl with
      | [t], _ => exact ⟨t, rfl⟩
    obtain ⟨j, w⟩ := t
    rw [List.nil_append]
    show pts p s (s :: rest) ((j, w) :: st0) = [(j, w)] ++ pts p s rest st0
    rw [pts, if_pos rfl]
    rfl
  | x :: xs, rest, e, st1, st0, h, hl => by
    match st1, hl with
    | (j, w) :: st1, hl =>
    have hl : st1.length = e := by simpa using hl
    rw [List.cons_append, List.cons_append, pts, pts]
    unfold nst at h
    by_cases h1 : x < 0 ∨ x > s
    · rw [if_pos h1] at h; cases h
    rw [if_neg h1] at h
    by_cases h2 : x = s
    · rw [if_pos h2] at h
      rw [if_pos h2, if_pos h2]
      cases e with
      | zero => cases h
      | succ e => rw [pts_app h hl]; rfl
    rw [if_neg h2] at h
    rw [if_neg h2, if_neg h2]
    by_cases h3 : p ≤ x
    · rw [if_pos h3] at h
      rw [if_pos h3, if_pos h3]
      exact pts_app (st1 := (x - p, []) :: (j, w ++ [x]) :: st1) h (by simp [hl])
    · rw [if_neg h3] at h
      rw [if_neg h3, if_neg h3]
      exact pts_app (st1 := (j, w ++ [x]) :: st1) h (by simp [hl])
/-- a word in which each call has a row as its stretch -/
def spr (p s : Int) (R : Int → List Int) (w : List Int) : List Int := w.flatMap fun x => if x < p then [x] else x :: R (x - p) ++ [s]
/-- the parts of the calls of a word -/
def cal (p s : Int) (R : Int → List Int) (w : List Int) : List (Int × List Int) := w.flatMap fun x => if p ≤ x then pts p s (R (x - p)) [(x - p, [])] else []
theorem nst_spr {p s : Int} {R : Int → List Int} : ∀ {w : List Int}, (∀ x ∈ w, 0 ≤ x ∧ x < s ∧ (p ≤ x → nst p s (R (x - p)) 0 = true)) → nst p s (spr p s R w) 0 = true
  | [], _ => rfl
  | x :: w, h => by
    obtain ⟨h0, h1, h2⟩ := h x (by simp)
    have ih := nst_spr (w := w) (R := R) fun y hy => h y (by simp [hy])
    show nst p s ((if x < p then [x] else x :: R (x - p) ++ [s]) ++ spr p s R w) 0 = true
    by_cases hx : x < p
    · rw [if_pos hx, List.singleton_append, nst, if_neg (by omega), if_neg (by omega), if_neg (by omega)]
      exact ih
    · rw [if_neg hx, List.append_assoc, List.cons_append, nst, if_neg (by omega), if_neg (by omega), if_pos (by omega)]
      rw [show 0 + 1 = 0 + 1 from rfl, nst_app (h2 (by omega)), List.singleton_append, nst, if_neg (by omega), if_pos rfl]
      exact ih
theorem pts_spr {p s : Int} {R : Int → List Int} {j : Int} : ∀ {w v : List Int}, (∀ x ∈ w, 0 ≤ x ∧ x < s ∧ (p ≤ x → nst p s (R (x - p)) 0 = true)) → pts p s (spr p s R w) [(j, v)] = cal p s R w ++ [(j, v ++ w)]
  | [], v, _ => by rw [List.append_nil]; rfl
  | x :: w, v, h => by
    obtain ⟨h0, h1, h2⟩ := h x (by simp)
    have ih := pts_spr (w := w) (R := R) (j := j) (v := v ++ [x]) fun y hy => h y (by simp [hy])
    show pts p s ((if x < p then [x] else x :: R (x - p) ++ [s]) ++ spr p s R w) [(j, v)] = ((if p ≤ x then pts p s (R (x - p)) [(x - p, [])] else []) ++ cal p s R w) ++ [(j, v ++ x :: w)]
    have e : v ++ x :: w = v ++ [x] ++ w := by simp
    by_cases hx : x < p
    · rw [if_pos hx, if_neg (by omega), List.singleton_append, pts, if_neg (by omega), if_neg (by omega), ih, e]
      rfl
    · rw [if_neg hx, if_pos (by omega), List.append_assoc, List.cons_append, pts, if_neg (by omega), if_pos (by omega), List.singleton_append]
      show pts p s (R (x - p) ++ s :: spr p s R w) ([(x - p, [])] ++ [(j, v ++ [x])]) = _
      rw [pts_app (st1 := [(x - p, [])]) (st0 := [(j, v ++ [x])]) (h2 (by omega)) rfl, ih, e]
      simp only [List.append_assoc]
theorem spr_len {p s : Int} {R : Int → List Int} {M : Nat} (hM : ∀ i, (R i).length ≤ M) : ∀ w : List Int, (spr p s R w).length ≤ w.length * (M + 2)
  | [] => by simp [spr]
  | x :: w => by
    have ih := spr_len (p := p) (s := s) hM w
    have h1 := hM (x - p)
    show ((if x < p then [x] else x :: R (x - p) ++ [s]) ++ spr p s R w).length ≤ _
    rw [List.length_append, List.length_cons, Nat.succ_mul]
    split
    · simp; omega
    · simp; omega
/-- lengths -/
theorem pts_len {p s : Int} : ∀ {xs : List Int} {st : List (Int × List Int)}, (pts p s xs st).length ≤ st.length + xs.length
  | [], st => by simp [pts]
  | _ :: _, [] => by simp [pts]
  | x :: xs, (j, w) :: st => by
    rw [pts]
    split
    · have := pts_len (p := p) (s := s) (xs := xs) (st := st)
      simp; omega
    · split
      · have := pts_len (p := p) (s := s) (xs := xs) (st := (x - p, []) :: (j, w ++ [x]) :: st)
        simp at this ⊢; omega
      · have := pts_len (p := p) (s := s) (xs := xs) (st := (j, w ++ [x]) :: st)
        simp at this ⊢; omega
theorem pts_wlen {p s : Int} {M : Nat} : ∀ {xs : List Int} {st : List (Int × List Int)}, (∀ t ∈ st, t.2.length + xs.length ≤ M) → ∀ t ∈ pts p s xs st, t.2.length ≤ M
  | [], st, h => by
    rw [pts]
    intro t ht
    have := h t ht
    simp at this; omega
  | _ :: _, [], h => by simp [pts]
  | x :: xs, (j, w) :: st, h => by
    have h0 := h (j, w) (by simp)
    rw [List.length_cons] at h0
    dsimp only at h0
    have hr : ∀ t ∈ st, t.2.length + xs.length ≤ M := fun t ht => by
      have := h t (by simp [ht])
      rw [List.length_cons] at this; omega
    rw [pts]
    split
    · intro t ht
      rcases List.mem_cons.mp ht with rfl | ht
      · dsimp only; omega
      · exact pts_wlen hr t ht
    · split
      · refine pts_wlen fun t ht => ?_
        rcases List.mem_cons.mp ht with rfl | ht
        · simp; omega
        · rcases List.mem_cons.mp ht with rfl | ht
          · simp; omega
          · exact hr t ht
      · refine pts_wlen fun t ht => ?_
        rcases List.mem_cons.mp ht with rfl | ht
        · simp; omega
        · exact hr t ht
theorem nst_rep {p s : Int} (h0 : 0 ≤ s) : ∀ d : Nat, nst p s (List.replicate d s) d = true
  | 0 => rfl
  | d + 1 => by
    rw [List.replicate_succ, nst, if_neg (by omega), if_pos rfl]
    exact nst_rep h0 d
end N80
namespace N80
/-! nested rows: in what range their parts lie; calls and ends -/
theorem pts_rng {p s : Int} {G : Int × List Int → Prop} (hp : 0 ≤ p) (g1 : ∀ {x j : Int} {w : List Int}, 0 ≤ x → x < s → G (j, w) → G (j, w ++ [x])) (g2 : ∀ {x : Int}, p ≤ x → x < s → G (x - p, [])) :
    ∀ {xs : List Int} {e : Nat} {st : List (Int × List Int)}, nst p s xs e = true → (∀ t ∈ st, G t) → ∀ t ∈ pts p s xs st, G t
  | [], _, st, _, h => by rw [pts]; exact h
  | _ :: _, _, [], _, h => by simp [pts]
  | x :: xs, e, (j, w) :: st, hn, h => by
    have h0 := h (j, w) (by simp)
    have hr : ∀ t ∈ st, G t := fun t ht => h t (by simp [ht])
    rw [nst_cons] at hn
    rw [pts]
    split at hn
    · cases hn
    rename_i hx
    by_cases h1 : x = s
    · rw [if_pos h1] at hn ⊢
      cases e with
      | zero => cases hn
      | succ e =>
        intro t ht
        rcases List.mem_cons.mp ht with rfl | ht
        · exact h0
        · exact pts_rng hp g1 g2 hn hr t ht
    rw [if_neg h1] at hn ⊢
    have ha := g1 (x := x) (by omega) (by omega) h0
    by_cases h2 : p ≤ x
    · rw [if_pos h2] at hn ⊢
      refine pts_rng hp g1 g2 hn fun t ht => ?_
      rcases List.mem_cons.mp ht with rfl | ht
      · exact g2 h2 (by omega)
      · rcases List.mem_cons.mp ht with rfl | ht
        · exact ha
        · exact hr t ht
    · rw [if_neg h2] at hn ⊢
      refine pts_rng hp g1 g2 hn fun t ht => ?_
      rcases List.mem_cons.mp ht with rfl | ht
      · exact ha
      · exact hr t ht
/-- calls less ends -/
def bal (p s : Int) : List Int → Int
  | [] => 0
  | x :: xs => (if x = s then -1 else if p ≤ x then 1 else 0) + bal p s xs
theorem bal_app {p s : Int} : ∀ {xs ys : List Int}, bal p s (xs ++ ys) = bal p s xs + bal p s ys
  | [], _ => by simp [bal]
  | x :: xs, ys => by
    rw [List.cons_append, bal, bal, bal_app (xs := xs)]; omega
theorem nst_bal {p s : Int} : ∀ {xs : List Int} {d : Nat}, nst p s xs d = true → bal p s xs + d = 0
  | [], d, h => by
    have : d = 0 := by simpa [nst] using h
    subst this; rfl
  | x :: xs, d, h => by
    rw [nst_cons] at h
    rw [bal]
    split at h
    · cases h
    by_cases h1 : x = s
    · rw [if_pos h1] at h ⊢
      cases d with
      | zero => cases h
      | succ d => have := nst_bal (xs := xs) h; omega
    rw [if_neg h1] at h ⊢
    by_cases h2 : p ≤ x
    · rw [if_pos h2] at h ⊢
      have := nst_bal (xs := xs) h; omega
    · rw [if_neg h2] at h ⊢
      have := nst_bal (xs := xs) h; omega
theorem nst_ins {p s : Int} {a b : List Int} {y : Int} (h : nst p s (a ++ b) 0 = true) (h1 : p ≤ y) : nst p s (a ++ y :: b) 0 = false := by
  cases hb : nst p s (a ++ y :: b) 0
  · rfl
  have e1 := nst_bal h
  have e2 := nst_bal hb
  rw [bal_app] at e1 e2
  rw [bal] at e2
  split at e2 <;> omega
end N80

namespace N80
open PySem PySem.Spec PyProof.Rows L2 G
/-! nested rows: the two stacks in the heap -/
abbrev Pt := Nat × Int × List Int
abbrev Pt.pl (t : Pt) : Int × List Int := t.2
/-- the heap h' over h: at c the helpers called, at w the references of the words; R: what is open (the last one first), D: what has ended -/
structure PI (h : AH) (c w : Nat) (h' : AH) (R D : List Pt) : Prop where
  le : h.length ≤ h'.length
  old : ∀ i, i < h.length → h'[i]? = h[i]?
  c0 : h.length ≤ c
  w0 : h.length ≤ w
  cw : c ≠ w
  wl : w < h'.length
  cl : c < h'.length
  cs : h'[c]? = some (.lst ((R.reverse.map (·.2.1)).map .int))
  ws : h'[w]? = some (.lst ((R.reverse.map (·.1)).map .ref))
  at' : ∀ t ∈ R ++ D, h'[t.1]? = some (.lst (t.2.2.map .int)) ∧ t.1 ≠ c ∧ t.1 ≠ w ∧ h.length ≤ t.1 ∧ t.1 < h'.length
  nd : ((R ++ D).map (·.1)).Nodup
theorem PI.start {h : AH} {top : Int} : PI h h.length (h.length + 2) (((h ++ [.lst [.int top]]) ++ [.lst []]) ++ [.lst [.ref (h.length + 1)]]) [(h.length + 1, top, [])] [] where
  le := by simp
  old := fun i hi => by
    rw [List.append_assoc, List.append_assoc, List.getElem?_append_left hi]
  c0 := Nat.le_refl _
  w0 := by omega
  cw := by omega
  wl := by simp
  cl := by simp
  cs := by simp
  ws := by simp
  at' := fun t ht => by
    simp only [List.append_nil, List.mem_singleton] at ht
    subst ht
    refine ⟨by simp, by dsimp only; omega, by dsimp only; omega, by dsimp only; omega, by simp⟩
  nd := by simp
/-- an end -/
theorem PI.pop {h : AH} {c w : Nat} {h' : AH} {n : Nat} {j : Int} {v : List Int} {R D : List Pt} (i : PI h c w h' ((n, j, v) :: R) D) :
    PI h c w ((h'.set c (.lst ((R.reverse.map (·.2.1)).map .int))).set w (.lst ((R.reverse.map (·.1)).map .ref))) R (D ++ [(n, j, v)]) where
  le := by simpa using i.le
  old := fun k hk => by
    have h1 := i.c0
    have h2 := i.w0
    rw [List.getElem?_set_ne (by omega), List.getElem?_set_ne (by omega)]
    exact i.old k hk
  c0 := i.c0
  w0 := i.w0
  cw := i.cw
  wl := by simpa using i.wl
  cl := by simpa using i.cl
  cs := by rw [List.getElem?_set_ne i.cw.symm, List.getElem?_set_self i.cl]
  ws := by rw [List.getElem?_set_self (by simpa using i.wl)]
  at' := fun t ht => by
    have hm : t ∈ (n, j, v) :: R ++ D := by
      simp only [List.mem_append, List.mem_cons, List.not_mem_nil, or_false] at ht ⊢
      rcases ht with h1 | h1 | h1
      · exact .inl (.inr h1)
      · exact .inr h1
      · exact .inl (.inl h1)
    obtain ⟨a1, a2, a3, a4, a5⟩ := i.at' t hm
    exact ⟨by rw [List.getElem?_set_ne a3.symm, List.getElem?_set_ne a2.symm]; exact a1, a2, a3, a4, by simpa using a5⟩
  nd := by
    have := i.nd
    refine this.perm ?_
    refine List.Perm.map _ ?_
    rw [List.cons_append, ← List.append_assoc]
    exact (List.perm_append_singleton _ _).symm
/-- a letter -/
theorem PI.add {h : AH} {c w : Nat} {h' : AH} {n : Nat} {j x : Int} {v : List Int} {R D : List Pt} (i : PI h c w h' ((n, j, v) :: R) D) :
    PI h c w (h'.set n (.lst ((v ++ [x]).map .int))) ((n, j, v ++ [x]) :: R) D := by
  obtain ⟨a1, a2, a3, a4, a5⟩ := i.at' (n, j, v) (by simp)
  dsimp only at a1 a2 a3 a4 a5
  refine ⟨by simpa using i.le, fun k hk => ?_, i.c0, i.w0, i.cw, by simpa using i.wl, by simpa using i.cl, ?_, ?_, fun t ht => ?_, i.nd⟩
  · rw [List.getElem?_set_ne (by omega)]
    exact i.old k hk
  · rw [List.getElem?_set_ne a2]
    have := i.cs
    simp only [List.reverse_cons, List.map_append, List.map_cons, List.map_nil] at this ⊢
    exact this
  · rw [List.getElem?_set_ne a3]
    have := i.ws
    simp only [List.reverse_cons, List.map_append, List.map_cons, List.map_nil] at this ⊢
    exact this
  · have nd := i.nd
    rw [List.cons_append, List.map_cons, List.nodup_cons] at nd
    rw [List.cons_append, List.mem_cons] at ht
    rcases ht with rfl | ht
    · exact ⟨by dsimp only; rw [List.getElem?_set_self a5], a2, a3, a4, by simpa using a5⟩
    · obtain ⟨b1, b2, b3, b4, b5⟩ := i.at' t (by simp only [List.cons_append, List.mem_cons]; exact .inr ht)
      have hne : n ≠ t.1 := fun e => nd.1 (List.mem_map.mpr ⟨t, ht, e.symm⟩)
      exact ⟨by rw [List.getElem?_set_ne hne]; exact b1, b2, b3, b4, by simpa using b5⟩
/-- a call -/
theorem PI.push {h : AH} {c w : Nat} {h' : AH} {j : Int} {R D : List Pt} (i : PI h c w h' R D) :
    PI h c w ((h'.set c (.lst ((R.reverse.map (fun (t : Pt) => t.2.1)).map G.D.int ++ [G.D.int j])) ++ [AO.lst []]).set w (.lst ((R.reverse.map (fun (t : Pt) => t.1)).map G.D.ref ++ [G.D.ref h'.length]))) ((h'.length, j, []) :: R) D := by
  have hc := i.cl
  have hw := i.wl
  have h0 := i.le
  have hc0 := i.c0
  have hw0 := i.w0
  have hcw := i.cw
  refine ⟨by simp; omega, fun k hk => ?_, hc0, hw0, hcw, by simp; omega, by simp; omega, ?_, ?_, fun t ht => ?_, ?_⟩
  · rw [List.getElem?_set_ne (by omega), List.getElem?_append_left (by simp; omega), List.getElem?_set_ne (by omega)]
    exact i.old k hk
  · rw [List.getElem?_set_ne hcw.symm, List.getElem?_append_left (by simpa using hc), List.getElem?_set_self hc]
    simp
  · rw [List.getElem?_set_self (by simp; omega)]
    simp
  · rw [List.cons_append, List.mem_cons] at ht
    rcases ht with rfl | ht
    · refine ⟨?_, by dsimp only; omega, by dsimp only; omega, by dsimp only; omega, by simp⟩
      dsimp only
      rw [List.getElem?_set_ne (by omega), List.getElem?_append_right (by simp)]
      simp
    · obtain ⟨b1, b2, b3, b4, b5⟩ := i.at' t ht
      refine ⟨?_, b2, b3, b4, by simp; omega⟩
      rw [List.getElem?_set_ne b3.symm, List.getElem?_append_left (by simpa using b5), List.getElem?_set_ne b2.symm]
      exact b1
  · rw [List.cons_append, List.map_cons, List.nodup_cons]
    refine ⟨fun hm => ?_, i.nd⟩
    obtain ⟨t, ht, e⟩ := List.mem_map.mp hm
    have := (i.at' t ht).2.2.2.2
    omega
end N80

namespace N80
open PySem PySem.Spec PyProof.Rows L2 G
/-- a heap with more behind it -/
structure HX (h h' : AH) : Prop where
  le : h.length ≤ h'.length
  old : ∀ i, i < h.length → h'[i]? = h[i]?
theorem HX.rfl {h : AH} : HX h h := ⟨Nat.le_refl _, fun _ _ => Eq.refl _⟩
theorem HX.trans {h h1 h2 : AH} (a : HX h h1) (b : HX h1 h2) : HX h h2 := ⟨Nat.le_trans a.le b.le, fun i hi => by rw [b.old i (Nat.lt_of_lt_of_le hi a.le), a.old i hi]⟩
theorem PI.hx {h : AH} {c w : Nat} {h' : AH} {R D : List Pt} (i : PI h c w h' R D) : HX h h' := ⟨i.le, i.old⟩
theorem HX.lv {h h' : AH} (x : HX h h') {v : D} {xs : List D} (e : LV h v xs) : LV h' v xs := by
  have e0 := e.obj
  unfold LV
  cases v with
  | ref n =>
    have e1 : h[n]? = some (.lst xs) := e0
    have hn : n < h.length := (List.getElem?_eq_some_iff.mp e1).1
    show (h'[n]?).bind AO.list = _
    rw [x.old n hn, e1]; rfl
  | fz ys => cases e0; rfl
  | _ => cases e0
def ptD (t : Int × List Int) : D := .tup [.int t.1, .tup (t.2.map .int)]
theorem cat_ff {h : AH} {xs ys : List D} {P : List D → List D → Prop} (l : xs.length + ys.length ≤ sizeLine) (q : P xs ys) : ∃ xs' ys', ((VV.d (.fz xs)).obj h).bind AO.list = some xs' ∧ ((VV.d (.fz ys)).obj h).bind AO.list = some ys' ∧ xs'.length + ys'.length ≤ sizeLine ∧ P xs' ys' := ⟨xs, ys, rfl, rfl, l, q⟩
theorem cat_of {h : AH} {xs ys : List D} {P : List D → List D → Prop} (l : xs.length + ys.length ≤ sizeLine) (q : P xs ys) : ∃ xs' ys', ((VV.tw (.lst xs)).obj h).bind AO.list = some xs' ∧ ((VV.d (.fz ys)).obj h).bind AO.list = some ys' ∧ xs'.length + ys'.length ≤ sizeLine ∧ P xs' ys' := ⟨xs, ys, rfl, rfl, l, q⟩
theorem last_top {n : Nat} {a : Int} {v v' : List Int} {R : List Pt} {t : Pt} {z : Int} (e : ((n, a, v) :: R).getLast? = some t) (e6 : t.2.1 = z) : ∃ t', ((n, a, v') :: R).getLast? = some t' ∧ t'.2.1 = z := by
  cases R with
  | nil =>
    simp at e
    subst e
    exact ⟨_, rfl, e6⟩
  | cons b R =>
    rw [List.getLast?_cons_cons] at e ⊢
    exact ⟨t, e, e6⟩
theorem last_push {u u' : Pt} {R : List Pt} {z : Int} : (∃ t, (u :: R).getLast? = some t ∧ t.2.1 = z) → ∃ t, (u' :: u :: R).getLast? = some t ∧ t.2.1 = z := fun ⟨t, e, h⟩ => ⟨t, by rw [List.getLast?_cons_cons]; exact e, h⟩
theorem hL_of {h : AH} {n : Nat} {xs : List D} (e : h[n]? = some (.lst xs)) : hL h (.d (.ref n)) = some (n, xs) := by unfold hL; dsimp only; rw [e]
theorem last_concat {α : Type} {xs : List α} {v : α} : (xs ++ [v])[(xs ++ [v]).length - 1]? = some v := by simp
theorem rev_c {t : Pt} {R : List Pt} : ((t :: R).reverse.map (·.2.1)).map D.int = (R.reverse.map (·.2.1)).map .int ++ [.int t.2.1] := by simp
theorem rev_w {t : Pt} {R : List Pt} : ((t :: R).reverse.map (·.1)).map D.ref = (R.reverse.map (·.1)).map .ref ++ [.ref t.1] := by simp
end N80

namespace N80
open PySem PySem.Spec PyProof.Rows L2 G
section
variable {k : Nat} {ns : List Int} {h : AH} {Q : RR → AH → Prop} {X : EX → AH → Prop}
theorem cell_at_ok {j : Nat} (q : Q (.d (.int (ns.getD j 0))) h) : wpF T cv (k + 1) f_law_cell_at [.d (.fz (ns.map .int)), .d (.int j)] h Q X := by
  refine in_law_cell_at ?_
  unfold b_law_cell_at
  walk_at "a"
  refine ite_p (fun hc => ?_) (fun hc => ?_)
  · have hc : j < ns.length := by omega
    walk_at "a"
    refine x_fz hc ?_
    walk_at "a"
    rw [List.getD_eq_getElem?_getD, List.getElem?_eq_getElem hc] at q
    exact q
  · walk_at "a"
    rw [List.getD_eq_getElem?_getD, List.getElem?_eq_none (by omega)] at q
    exact q
theorem rep_one {d : Nat} {x : D} : (List.replicate d [x]).flatten = List.replicate d x := by
  induction d with
  | zero => rfl
  | succ d ih => rw [List.replicate_succ, List.replicate_succ, List.flatten_cons, ih]; rfl
/-- the law's parts: words as objects of the heap -/
theorem law_parts_ok {p hh top : Int} {xs : List Int} {v : D} (hv : ∀ h' : AH, HX h h' → (VV.d v).seq h' = some (xs.map .int)) (hl : xs.length ≤ 100000) (hb : nst p (p + hh) xs 0 = true)
    (q : ∀ h' (E : List (D × Int × List Int)), HX h h' → E.map (·.2) = pts p (p + hh) xs [(top, [])] → (∀ t ∈ E, LV h' t.1 (t.2.2.map .int)) → Q (.mv (.lst (E.map fun t => .tup [.int t.2.1, t.1]))) h') :
    wpF T cv (k + 1) f_law_parts [.d (.int p), .d (.int hh), .d v, .d (.int top)] h Q X := by
  refine in_law_parts ?_
  unfold b_law_parts
  walk_at "a"
  simp only [List.length_append, List.length_singleton]
  refine ⟨.inr (by intro _ e; cases e), _, hv _ PI.start.hx, ?_⟩
  refine for_ixH (fun j e h' => ∃ (R D : List Pt) (s6 : Option Sl), PI h h.length (h.length + 2) h' R D ∧ nst p (p + hh) (xs.drop j) (R.length - 1) = true ∧ D.map (·.2) ++ pts p (p + hh) (xs.drop j) (R.map (·.2)) = pts p (p + hh) xs [(top, [])] ∧ R.length + D.length ≤ j + 1 ∧ (∀ t ∈ R ++ D, t.2.2.length ≤ j) ∧
     (∃ t, R.getLast? = some t ∧ t.2.1 = top) ∧ e = [some (.val (.int p)), some (.val (.int hh)), some (.val v), some (.val (.int top)), some (.own (.lst (D.map fun t => .tup [.int t.2.1, .ref t.1]))), some (.val (.ref h.length)), some (.val (.ref (h.length + 2))), s6]) (fun _ _ _ hi => by obtain ⟨_, _, _, i, _⟩ := hi; exact hv _ i.hx)
    ⟨[(h.length + 1, top, [])], [], none, PI.start, hb, rfl, by simp, by simp, ⟨_, rfl, rfl⟩, rfl⟩ ?_ ?_
  · rintro e h' ⟨R, D, s6, i, e1, e2, e3, e4, ⟨t, e5, e6⟩, rfl⟩
    rw [List.length_map] at e1 e2 e3 e4
    rw [List.drop_length] at e1 e2
    have hR : R = [t] := by
      have h1 : R.length - 1 = 0 := by simpa [nst] using e1
      match R, e5, h1 with
      | [a], e5, _ => simp at e5; rw [e5]
    subst hR
    walk_at "a"
    refine x_refD i.ws (j := 0) rfl ?_
    walk_at "a"
    refine ⟨sz (by simp at e3 ⊢; omega), ?_⟩
    walk_at "a"
    have := q h' ((D ++ [t]).map fun t => (G.D.ref t.1, t.2)) i.hx (by rw [← e2]; simp [pts, Function.comp_def]) (fun u hu => by
      obtain ⟨t', ht', rfl⟩ := List.mem_map.mp hu
      have := (i.at' t' (by simp at ht' ⊢; rcases ht' with h1 | h1 <;> simp [h1])).1
      show (h'[t'.1]?).bind AO.list = _
      rw [this]; rfl)
    rw [List.map_map, List.map_append] at this
    rw [← e6]
    exact this
  rintro j hj e h' ⟨R, D, s6, i, e1, e2, e3, e4, ⟨tt, e5, e6⟩, rfl⟩ N hN
  rw [List.length_map] at hj
  rw [List.getElem_map]
  rw [List.drop_eq_getElem_cons hj, nst_cons] at e1
  rw [List.drop_eq_getElem_cons hj] at e2
  generalize xs[j] = x at *
  match R, e5 with
  | (n, a, v) :: R, e5 =>
  rw [List.map_cons, pts] at e2
  split at e1
  · cases e1
  have hC := i.cs
  have hW := i.ws
  rw [rev_c] at hC
  rw [rev_w] at hW
  dsimp only at hC hW
  have hT := (i.at' (n, a, v) (by simp)).1
  dsimp only at hT
  walk_at "a"
  refine ite_p (fun hc => ?_) (fun hc => ?_)
  · rw [if_pos hc] at e1 e2
    walk_at "a"
    refine ⟨_, _, _, hL_of hC, last_concat, ?_⟩
    rw [List.dropLast_concat]
    walk_at "a"
    refine ⟨_, _, _, hL_of (by rw [List.getElem?_set_ne i.cw]; exact hW), last_concat, ?_⟩
    rw [List.dropLast_concat]
    walk_at "a"
    refine ⟨sz (by simp at e3 ⊢; omega), ?_⟩
    walk_at "a"
    have hR : 1 ≤ R.length := by
      cases R with
      | nil => simp at e1
      | cons _ _ => simp
    obtain ⟨m, hm⟩ : ∃ m, R.length = m + 1 := ⟨R.length - 1, by omega⟩
    refine hN _ _ ⟨R, D ++ [(n, a, v)], some (.val (.int x)), i.pop, ?_, ?_, ?_, ?_, ?_, ?_⟩
    · simp only [List.length_cons, hm, Nat.add_sub_cancel] at e1 ⊢
      exact e1
    · rw [← e2]; simp
    · simp at e3 ⊢; omega
    · intro t ht
      have := e4 t (by simp at ht ⊢; rcases ht with h1 | h1 | h1 <;> simp [h1])
      omega
    · refine ⟨tt, ?_, e6⟩
      match R, hR, e5 with
      | _ :: _, _, e5 => simpa using e5
    · rw [List.map_append]; rfl
  rw [if_neg hc] at e1 e2
  walk_at "a"
  refine x_at (i := -1) (v := .ref n) (by show (h'[h.length + 2]?).bind AO.list = _; rw [hW]; rfl) (atI_last List.getLast?_concat) ?_
  refine r_list hT ?_
  walk_at "a"
  refine ⟨_, _, _, hL_of hT, rfl, sz (by have := e4 (n, a, v) (by simp); rw [List.length_map]; dsimp only at this; omega), ?_⟩
  have eA : v.map G.D.int ++ [G.D.int x] = (v ++ [x]).map G.D.int := by simp
  rw [eA]
  have iA := i.add (x := x)
  have hC := iA.cs
  have hW := iA.ws
  generalize h'.set n (.lst ((v ++ [x]).map .int)) = h1 at *
  walk_at "a"
  refine ite_p (fun h4 => ?_) (fun h4 => ?_)
  · rw [if_pos h4] at e1 e2
    walk_at "a"
    refine r_list hC ?_
    walk_at "a"
    refine ⟨_, _, _, hL_of hC, rfl, sz (by simp at e3 ⊢; omega), ?_⟩
    walk_at "a"
    refine r_list (by rw [List.getElem?_set_ne i.cw]; exact hW) ?_
    walk_at "a"
    refine ⟨_, _, _, hL_of (by rw [List.getElem?_append_left (by rw [List.length_set]; exact iA.wl), List.getElem?_set_ne i.cw]; exact hW), rfl, sz (by simp at e3 ⊢; omega), ?_⟩
    rw [List.length_set]
    walk_at "a"
    refine hN _ _ ⟨_, D, some (.val (.int x)), iA.push (j := x - p), ?_, ?_, ?_, ?_, last_push (last_top e5 e6), rfl⟩
    · simp only [List.length_cons, Nat.add_sub_cancel] at e1 ⊢
      exact e1
    · rw [← e2]; rfl
    · simp at e3 ⊢; omega
    · intro t ht
      simp only [List.cons_append, List.mem_cons] at ht
      rcases ht with rfl | rfl | ht
      · simp
      · have := e4 (n, a, v) (by simp)
        simp at this ⊢; omega
      · have := e4 t (by simp only [List.cons_append, List.mem_cons]; exact .inr ht)
        omega
  · rw [if_neg h4] at e1 e2
    walk_at "a"
    refine hN _ _ ⟨_, D, some (.val (.int x)), iA, ?_, ?_, ?_, ?_, last_top e5 e6, rfl⟩
    · exact e1
    · rw [← e2]; rfl
    · simp at e3 ⊢; omega
    · intro t ht
      simp only [List.cons_append, List.mem_cons] at ht
      rcases ht with rfl | ht
      · have := e4 (n, a, v) (by simp)
        simp at this ⊢; omega
      · have := e4 t (by simp only [List.cons_append, List.mem_cons]; exact .inr ht)
        omega
end
end N80

namespace N80
open PySem PySem.Spec PyProof.Rows L2 G
section
variable {k : Nat} {ns : List Int} {h : AH} {Q : RR → AH → Prop} {X : EX → AH → Prop}
theorem law_nest_ok {p hh : Int} (hp : 1 ≤ p) (hp6 : p ≤ 100) (hh1 : 1 ≤ hh) {fl : List Int} (hl : fl.length ≤ 100000) (q : ∀ r, nst p (p + hh) r 0 = true → r.length ≤ 2 * fl.length → Q (.d (.fz (r.map .int))) h) :
    wpF T cv (k + 1) f_law_nest [.d (.fz (fl.map .int)), .d (.int p), .d (.int hh)] h Q X := by
  refine in_law_nest ?_
  unfold b_law_nest
  walk_at "a"
  refine for_ix (by exact rfl) (fun j e => ∃ (r : List Int) (d : Nat) (s5 s6 : Option Sl), r.length = j ∧ d ≤ j ∧ (∀ ys, nst p (p + hh) (r ++ ys) 0 = nst p (p + hh) ys d) ∧ e = [some (.val (.fz (fl.map .int))), some (.val (.int p)), some (.val (.int hh)), some (.own (.lst (r.map .int))), some (.val (.int d)), s5, s6]) ⟨[], 0, none, none, rfl, Nat.le_refl _, fun _ => rfl, rfl⟩ ?_ ?_
  · rintro e ⟨r, d, s5, s6, e1, e2, e3, rfl⟩
    rw [List.length_map] at e1 e2
    walk_at "a"
    refine ⟨by omega, by omega, szl (by simp; omega), ?_⟩
    rw [Int.toNat_natCast, rep_one]
    walk_at "a"
    refine cat_ff ?_ ?_
    · exact szl (by simp; omega)
    walk_at "a"
    have e4 := e3 (List.replicate d (p + hh))
    rw [nst_rep (by omega)] at e4
    have := q (r ++ List.replicate d (p + hh)) e4 (by simp; omega)
    rw [List.map_append, List.map_replicate] at this
    exact this
  rintro j hj e ⟨r, d, s5, s6, e1, e2, e3, rfl⟩ N hN
  rw [List.length_map] at hj
  rw [List.getElem_map]
  generalize fl[j] = c at *
  walk_at "s"
  have m0 := Int.emod_nonneg c (b := p + hh + 1) (by omega)
  have m1 := Int.emod_lt_of_pos c (b := p + hh + 1) (by omega)
  generalize c % (p + hh + 1) = m at *
  refine w_join (fun e => ∃ x : Int, 0 ≤ x ∧ x ≤ p + hh ∧ (x = p + hh → 0 < d) ∧ e = [some (.val (.fz (fl.map .int))), some (.val (.int p)), some (.val (.int hh)), some (.own (.lst (r.map .int))), some (.val (.int d)), some (.val (.int c)), some (.val (.int x))]) ?_ ?_
  rotate_left
  · intro N hN
    walk_at "a"
    refine ite_p (fun hc => ?_) (fun hc => ?_)
    · walk_at "a"
      refine ite_p (fun hd => ?_) (fun hd => ?_)
      · walk_at "a"
        have a0 := Int.emod_nonneg (c / 13) (b := p) (by omega)
        have a1 := Int.emod_lt_of_pos (c / 13) (b := p) (by omega)
        exact hN _ ⟨_, a0, by omega, fun e => by omega, rfl⟩
      · walk_at "a"
        exact hN _ ⟨m, m0, by omega, fun e => by omega, rfl⟩
    · walk_at "a"
      exact hN _ ⟨m, m0, by omega, fun e => by omega, rfl⟩
  rintro e ⟨x, x0, x1, x2, rfl⟩
  refine w_join (fun e => ∃ d' : Nat, d' ≤ d + 1 ∧ (∀ ys, nst p (p + hh) (x :: ys) d = nst p (p + hh) ys d') ∧ e = [some (.val (.fz (fl.map .int))), some (.val (.int p)), some (.val (.int hh)), some (.own (.lst (r.map .int))), some (.val (.int d')), some (.val (.int c)), some (.val (.int x))]) ?_ ?_
  rotate_left
  · intro N hN
    walk_at "a"
    refine ite_p (fun hc => ?_) (fun hc => ?_)
    · obtain ⟨d', rfl⟩ : ∃ d', d = d' + 1 := ⟨d - 1, by have := x2 hc; omega⟩
      walk_at "a"
      exact hN _ ⟨d', by omega, fun ys => by rw [nst_cons, if_neg (by omega), if_pos hc], by rw [show ((d' + 1 : Nat) : Int) - 1 = d' from by omega]; rfl⟩
    · walk_at "a"
      refine ite_p (fun hd => ?_) (fun hd => ?_)
      · walk_at "a"
        exact hN _ ⟨d + 1, by omega, fun ys => by rw [nst_cons, if_neg (by omega), if_neg hc, if_pos hd], rfl⟩
      · walk_at "a"
        exact hN _ ⟨d, by omega, fun ys => by rw [nst_cons, if_neg (by omega), if_neg hc, if_neg hd], rfl⟩
  rintro e ⟨d', d1, d2, rfl⟩
  walk_at "a"
  refine ⟨sz (by simp; omega), ?_⟩
  walk_at "a"
  refine hN _ ⟨r ++ [x], d', some (.val (.int c)), some (.val (.int x)), by simp; omega, by omega, fun ys => ?_, by rw [List.map_append]; rfl⟩
  rw [List.append_assoc, e3, List.singleton_append, d2]
end
end N80

namespace N80
open PySem PySem.Spec PyProof.Rows L2 G
/-! works: houses by the script's cells, and what they take -/
def wN (w : List Int) : List Nat := w.map Int.toNat
theorem wN_D {w : List Int} (h : ∀ x ∈ w, 0 ≤ x) : wD (wN w) = .tup (w.map .int) := by
  unfold wD wN
  rw [List.map_map]
  refine congrArg D.tup (List.map_congr_left fun x hx => ?_)
  show D.int ((x.toNat : Nat) : Int) = .int x
  rw [Int.toNat_of_nonneg (h x hx)]
/-- houses of a works -/
structure Wk (p hh : Int) (Hl : List Hs) : Prop where
  p1 : 1 ≤ p
  p4 : p ≤ 4
  h1 : 1 ≤ hh
  h3 : hh ≤ 3
  l6 : p + hh ≤ 6
  len : (Hl.length : Int) = hh
  ok : ∀ H ∈ Hl, H.Ok ∧ (H.l : Int) = p + hh ∧ H.W.length ≤ 4
def kD (p : Int) (Hl : List Hs) : D := .tup [.int p, .tup (Hl.map hD)]
/-- whether one part is taken -/
def tk1 (Hl : List Hs) (t : Int × List Int) : Bool := match Hl[t.1.toNat]? with
  | some H => !decide (col H (wN t.2) 0 = 0)
  | none => false
def acc (p hh top : Int) (Hl : List Hs) (xs : List Int) : Bool := (pts p (p + hh) xs [(top, [])]).all (tk1 Hl)
/-- parts that belong to the works -/
def Pg (p hh : Int) (t : Int × List Int) : Prop := (0 ≤ t.1 ∧ t.1 < hh) ∧ ∀ x ∈ t.2, 0 ≤ x ∧ x < p + hh
theorem pts_pg {p hh : Int} (hp : 0 ≤ p) {xs : List Int} {e : Nat} {st : List (Int × List Int)} (hn : nst p (p + hh) xs e = true) (h : ∀ t ∈ st, Pg p hh t) : ∀ t ∈ pts p (p + hh) xs st, Pg p hh t :=
  pts_rng (G := Pg p hh) hp (fun h0 h1 g => ⟨g.1, fun y hy => by
    rcases List.mem_append.mp hy with hy | hy
    · exact g.2 y hy
    · simp only [List.mem_singleton] at hy
      subst hy; exact ⟨h0, h1⟩⟩) (fun h0 h1 => ⟨⟨by show 0 ≤ _ - p; omega, by show _ - p < hh; omega⟩, by simp⟩) hn h
theorem Wk.at' {p hh : Int} {Hl : List Hs} (o : Wk p hh Hl) {t : Int × List Int} (g : Pg p hh t) : ∃ (j : Nat) (hj : j < Hl.length), t.1 = j ∧ Hl[j].Ok ∧ (∀ c ∈ wN t.2, c < Hl[j].l) ∧ tk1 Hl t = !decide (col Hl[j] (wN t.2) 0 = 0) := by
  have hl := o.len
  obtain ⟨j, hj⟩ := Int.eq_ofNat_of_zero_le g.1.1
  have hj2 : j < Hl.length := by have := g.1.2; omega
  obtain ⟨h1, h2, h3⟩ := o.ok _ (List.getElem_mem hj2)
  refine ⟨j, hj2, hj, h1, fun c hc => ?_, ?_⟩
  · obtain ⟨x, hx, rfl⟩ := List.mem_map.mp hc
    have := g.2 x hx
    omega
  · unfold tk1
    rw [hj, Int.toNat_natCast, List.getElem?_eq_getElem hj2]
section
variable {k : Nat} {ns : List Int} {h : AH} {Q : RR → AH → Prop} {X : EX → AH → Prop}
theorem draw_ok {j : Nat} {m : Int} (h1 : j < 1000000) (hm : 0 < m) (q : ∀ i : Int, 0 ≤ i → i < m → Q (.d (.int i)) h) : wpF T cv (k + 1) f_law_draw [.d (.fz (ns.map .int)), .d (.int j), .d (.int m)] h Q X := by
  refine in_law_draw ?_
  unfold b_law_draw
  walk_at "a"
  refine ite_p (fun hc => ?_) (fun hc => ?_)
  · have hc : j < ns.length := by omega
    walk_at "a"
    refine x_fz hc ?_
    walk_at "a"
    exact q _ (Int.emod_nonneg _ (by omega)) (Int.emod_lt_of_pos _ hm)
  · walk_at "a"
    refine ite_p (fun hz => ?_) (fun hz => ?_)
    · walk_at "a"
      exact q 0 (by omega) hm
    · have hl : 0 < ns.length := by omega
      have hb := Int.emod_lt_of_pos (j : Int) (b := (ns.length : Int)) (by omega)
      have hb0 := Int.emod_nonneg (j : Int) (b := (ns.length : Int)) (by omega)
      obtain ⟨t, ht⟩ := Int.eq_ofNat_of_zero_le hb0
      have ht' : t < ns.length := by omega
      walk_at "a"
      rw [ht]
      refine x_fz ht' ?_
      walk_at "s"
      walk_at "s"
      have m0 := Int.emod_nonneg ((ns[t] % 2147483647 + (j : Int) * j + 1) * 48271) (b := 2147483647) (by omega)
      have m1 := Int.emod_lt_of_pos ((ns[t] % 2147483647 + (j : Int) * j + 1) * 48271) (b := 2147483647) (by omega)
      generalize (ns[t] % 2147483647 + (j : Int) * j + 1) * 48271 % 2147483647 = mx at *
      walk_at "a"
      exact q _ (Int.emod_nonneg _ (by omega)) (Int.emod_lt_of_pos _ hm)
theorem house_by_ok {l a : Nat} (hl1 : 1 ≤ l) (hl6 : l ≤ 6) (ha : a < 100000) (q : ∀ H : Hs, H.Ok → H.l = l → H.W.length ≤ 4 → Q (.d (hD H)) h) : wpF T cv (k + 2) f_law_house_by [.d (.fz (ns.map .int)), .d (.int a), .d (.int l)] h Q X := by
  refine in_law_house_by ?_
  unfold b_law_house_by
  walk_at "s"
  refine draw_ok (by omega) (by omega) fun n0 hn0 hn1 => ?_
  obtain ⟨n, hn⟩ := Int.eq_ofNat_of_zero_le (a := 1 + n0) (by omega)
  walk_at "a"
  rw [hn]
  refine for_rg0 (n := (n : Int).toNat) (by exact trivial) (fun j e => ∃ (M : List Int) (W : List (List Nat)) (s6 s7 s8 : Option Sl), M.length = j ∧ W.length = j ∧ (∀ m ∈ M, 0 ≤ m ∧ m ≤ 1000000000) ∧ (∀ r ∈ W, r.length = l ∧ ∀ g ∈ r, g < n) ∧
    e = [some (.val (.fz (ns.map .int))), some (.val (.int a)), some (.val (.int l)), some (.val (.int n)), some (.own (.lst (M.map .int))), some (.own (.lst (W.map rowD))), s6, s7, s8, none]) ⟨[], [], none, none, none, rfl, rfl, by simp, by simp, rfl⟩ ?_ ?_
  · rintro e ⟨M, W, s6, s7, s8, e1, e2, h1, h2, rfl⟩
    walk_at "a"
    have hWn : W.length = n := by omega
    refine q ⟨l, M, W⟩ ⟨hl1, hl6, ?_, ?_, ?_, h1, ?_⟩ rfl (by dsimp only; omega)
    · dsimp only; omega
    · dsimp only; omega
    · dsimp only; omega
    · dsimp only
      rw [hWn]; exact h2
  rintro j e hj ⟨M, W, s6, s7, s8, e1, e2, h1, h2, rfl⟩ N hN
  walk_at "s"
  rw [show (a : Int) + 1 + (j : Int) * 7 = ((a + 1 + j * 7 : Nat) : Int) from by omega]
  walk_at "s"
  refine draw_ok (by omega) (by omega) fun m0 hm0 hm1 => ?_
  repeat walk_at "w"
  refine w_join (fun e => ∃ m : Int, 0 ≤ m ∧ m ≤ 1000000000 ∧ e = [some (.val (.fz (ns.map .int))), some (.val (.int a)), some (.val (.int l)), some (.val (.int n)), some (.own (.lst ((M ++ [m]).map .int))), some (.own (.lst (W.map rowD))), some (.val (.int j)), some (.val (.int ((a + 1 + j * 7 : Nat) : Int))), some (.val (.int m0)), none]) ?_ ?_
  rotate_left
  · intro N hN
    walk_at "a"
    refine ite_p (fun hc => ?_) (fun hc => ?_)
    · walk_at "a"
      refine ⟨sz (by simp; omega), ?_⟩
      walk_at "a"
      exact hN _ ⟨0, by omega, by omega, by rw [List.map_append]; rfl⟩
    · walk_at "a"
      refine ⟨sz (by simp; omega), ?_⟩
      walk_at "a"
      exact hN _ ⟨1 + m0 / 4, by omega, by omega, by rw [List.map_append]; rfl⟩
  rintro e ⟨m, hm, hm2, rfl⟩
  walk_at "a"
  refine lc_rgs (n := (l : Int).toNat) (by exact trivial) (fun (g : Nat) => D.int (g : Int)) (fun g => g < n) (szl (by omega)) (fun i hi Q0 q0 => ?_) fun w hw hwn => ?_
  · walk_at "a"
    rw [show ((a + 1 + j * 7 : Nat) : Int) + 1 + (i : Int) = ((a + 1 + j * 7 + 1 + i : Nat) : Int) from by omega]
    refine draw_ok (by omega) (by omega) fun c c0 c1 => ?_
    have := q0 c.toNat (by omega)
    rw [Int.toNat_of_nonneg c0] at this
    exact this
  walk_at "a"
  refine ⟨sz (by simp; omega), ?_⟩
  walk_at "a"
  refine hN _ ⟨M ++ [m], W ++ [w], some (.val (.int j)), some (.val (.int ((a + 1 + j * 7 : Nat) : Int))), some (.val (.int m0)), by simp [e1], by simp [e2], fun x hx => ?_, fun x hx => ?_, ?_⟩
  · rcases List.mem_append.mp hx with hx | hx
    · exact h1 x hx
    · simp only [List.mem_singleton] at hx
      subst hx; exact ⟨hm, hm2⟩
  · rcases List.mem_append.mp hx with hx | hx
    · exact h2 x hx
    · simp only [List.mem_singleton] at hx
      subst hx; exact ⟨by omega, hwn⟩
  · rw [List.map_append (l₁ := W)]; rfl
theorem works_by_ok {p hh : Int} (hp : 1 ≤ p) (hp4 : p ≤ 4) (hh1 : 1 ≤ hh) (hh3 : hh ≤ 3) (h6 : p + hh ≤ 6) (q : ∀ Hl, Wk p hh Hl → Q (.d (kD p Hl)) h) : wpF T cv (k + 3) f_law_works_by [.d (.fz (ns.map .int)), .d (.int p), .d (.int hh)] h Q X := by
  refine in_law_works_by ?_
  unfold b_law_works_by
  obtain ⟨l, hl⟩ := Int.eq_ofNat_of_zero_le (a := p + hh) (by omega)
  walk_at "a"
  refine lc_rgs (n := hh.toNat) (by exact trivial) hD (fun H => H.Ok ∧ (H.l : Int) = p + hh ∧ H.W.length ≤ 4) (szl (by omega)) (fun i hi Q0 q0 => ?_) fun Hl hHl hHo => ?_
  · walk_at "a"
    rw [hl, show 29 * (i : Int) = ((29 * i : Nat) : Int) from by omega]
    refine house_by_ok (by omega) (by omega) (by omega) fun H ok e1 e2 => ?_
    exact q0 H ⟨ok, by omega, e2⟩
  walk_at "a"
  exact q Hl ⟨hp, hp4, hh1, hh3, h6, by omega, hHo⟩
theorem answer_ok {H : Hs} (ok : H.Ok) {v : D} {w : List Int} (lv : ∀ h', HX h h' → LV h' v (w.map .int)) (h0 : ∀ x ∈ w, 0 ≤ x) (hw : ∀ c ∈ wN w, c < H.l) (q : Q (.d (.int (col H (wN w) 0))) h) : wpF T cv (k + 1) f_law_answer [.d (hD H), .d v] h Q X := by
  refine in_law_answer ?_
  unfold b_law_answer
  have hd : hD H = .tup [.int H.l, .tup (H.marks.map .int), .tup (H.W.map rowD)] := rfl
  walk_at "a"
  refine ⟨.inr (by intro _ e; cases e), _, (lv h .rfl).seq, ?_⟩
  refine for_ix (by exact (lv h .rfl).seq) (fun j e => ∃ s3 : Option Sl, e = [some (.val (hD H)), some (.val v), some (.val (.int (wk H 0 (wN (w.take j)) : Nat))), s3]) ⟨none, rfl⟩ ?_ ?_
  · rintro e ⟨s3, rfl⟩
    rw [List.length_map, List.take_length]
    have hx := wk_lt ok ok.n1 hw
    have hmk := ok.mkl
    rw [hd]
    walk_at "a"
    refine x_tup (by omega) ?_
    rw [mk_col (by omega)]
    exact ⟨_, rfl, q⟩
  rintro j hj e ⟨s3, rfl⟩ N hN
  rw [List.length_map] at hj
  rw [List.getElem_map]
  have hsub : ∀ c ∈ wN (w.take j), c < H.l := fun c hc => by
    obtain ⟨x, hx, rfl⟩ := List.mem_map.mp hc
    exact hw _ (List.mem_map.mpr ⟨x, List.mem_of_mem_take hx, rfl⟩)
  have hx' := wk_lt ok ok.n1 hsub
  have hrw := (ok.row _ (List.getElem_mem hx')).1
  have hj' := hw _ (List.mem_map.mpr ⟨w[j], List.getElem_mem hj, rfl⟩)
  have hj0 := h0 _ (List.getElem_mem hj)
  rw [hd]
  obtain ⟨c, hc⟩ := Int.eq_ofNat_of_zero_le hj0
  rw [hc] at hj' ⊢
  rw [Int.toNat_natCast] at hj'
  walk_at "a"
  refine x_tup (f := rowD) hx' ?_
  rw [show rowD H.W[wk H 0 (wN (w.take j))] = .tup ((H.W[wk H 0 (wN (w.take j))]).map fun (g : Nat) => D.int (g : Int)) from rfl]
  walk_at "a"
  refine x_tup (by omega) ?_
  rw [nx_eq]
  walk_at "a"
  refine hN _ ⟨some (.val (.int c)), ?_⟩
  have e1 : wN (w.take (j + 1)) = wN (w.take j) ++ [c] := by
    unfold wN
    rw [List.take_succ_eq_append_getElem hj, List.map_append, hc]; rfl
  rw [e1, wk_app]
  rfl
theorem all_take {α : Type} {f : α → Bool} {l : List α} {j : Nat} (hj : j < l.length) (h : (l.take j).all f = true) (h2 : f l[j] = true) : (l.take (j + 1)).all f = true := by
  rw [List.take_succ_eq_append_getElem hj, List.all_append, h]
  simpa using h2
theorem all_not {α : Type} {f : α → Bool} {l : List α} {j : Nat} (hj : j < l.length) (h2 : f l[j] = false) : l.all f = false := by
  rw [List.all_eq_false]
  exact ⟨_, List.getElem_mem hj, by rw [h2]; decide⟩
theorem accepted_ok {p hh top : Int} {Hl : List Hs} (o : Wk p hh Hl) (ht0 : 0 ≤ top) (ht1 : top < hh) {xs : List Int} {v : D} (hv : ∀ h' : AH, HX h h' → (VV.d v).seq h' = some (xs.map .int)) (hl : xs.length ≤ 100000) (hb : nst p (p + hh) xs 0 = true) (q : ∀ h', HX h h' → Q (.d (.bl (acc p hh top Hl xs))) h') :
    wpF T cv (k + 2) f_law_accepted [.d (kD p Hl), .d v, .d (.int top)] h Q X := by
  refine in_law_accepted ?_
  unfold b_law_accepted
  have hlen := o.len
  rw [show kD p Hl = .tup [.int p, .tup (Hl.map hD)] from rfl]
  walk_at "a"
  rw [hlen]
  refine law_parts_ok hv hl hb fun h' E x1 b1 b2 => ?_
  have hpg := pts_pg (p := p) (hh := hh) (by have := o.p1; omega) (st := [(top, [])]) hb (by
    intro t ht
    simp only [List.mem_singleton] at ht
    subst ht
    exact ⟨⟨ht0, ht1⟩, by simp⟩)
  rw [← b1] at hpg
  have eacc : acc p hh top Hl xs = (E.map (·.2)).all (tk1 Hl) := by unfold acc; rw [← b1]
  walk_at "a"
  refine for_ixG (by exact rfl) (fun j e => ∃ s3 s4 : Option Sl, ((E.map (·.2)).take j).all (tk1 Hl) = true ∧ e = [some (.val (.tup [.int p, .tup (Hl.map hD)])), some (.val v), some (.val (.int top)), s3, s4]) ⟨none, none, rfl, rfl⟩ ?_ ?_
  · rintro e ⟨s3, s4, e1, rfl⟩
    rw [List.length_map] at e1
    rw [show E.length = (E.map (·.2)).length from by rw [List.length_map], List.take_length] at e1
    walk_at "a"
    have := q h' x1
    rw [eacc, e1] at this
    exact this
  rintro j hj e ⟨s3, s4, e1, rfl⟩ N hN
  rw [List.length_map] at hj
  rw [List.getElem_map]
  have hj2 : j < (E.map (·.2)).length := by rw [List.length_map]; exact hj
  have g := hpg _ (List.getElem_mem hj2)
  have lv := b2 _ (List.getElem_mem hj)
  have eg : (E.map (·.2))[j] = (E[j]).2 := List.getElem_map ..
  rw [eg] at g
  obtain ⟨i, hi, a1, a2, a3, a4⟩ := o.at' g
  generalize hE : E[j] = t at *
  obtain ⟨v1, t1, w1⟩ := t
  dsimp only at *
  refine gW2 ?_
  simp only [setsE]
  subst a1
  walk_at "a"
  refine x_tup hi ?_
  walk_at "a"
  refine answer_ok a2 (fun h'' x => x.lv lv) (fun x hx => (g.2 x hx).1) a3 ?_
  walk_at "a"
  refine ite_p (fun hc => ?_) (fun hc => ?_)
  · walk_at "a"
    have := q h' x1
    rw [eacc, all_not hj2 (by rw [eg, a4, hc]; rfl)] at this
    exact this
  · walk_at "a"
    exact hN _ ⟨_, _, all_take hj2 e1 (by rw [eg, a4, decide_eq_false hc]; rfl), rfl⟩
end
end N80

namespace N80
open PySem PySem.Spec PyProof.Rows L2 G
/-! plain: rows in their order, by their places -/
def vd (b : Nat) (r : List Nat) : Prop := ∀ c ∈ r, c < b
theorem vd.app {b : Nat} {u v : List Nat} (h1 : vd b u) (h2 : vd b v) : vd b (u ++ v) := fun x hx => (List.mem_append.mp hx).elim (h1 x) (h2 x)
theorem vd.of {b : Nat} {u v : List Nat} (h : vd b (u ++ v)) : vd b u ∧ vd b v := ⟨fun x hx => h x (by simp [hx]), fun x hx => h x (by simp [hx])⟩
theorem plF_eq {b : Nat} : ∀ (v : List Nat) (p : Nat), plF b p v = p * b ^ v.length + pl b v
  | [], p => by simp [plF, pl]
  | c :: v, p => by
    show plF b (p * b + c + 1) v = p * b ^ (v.length + 1) + plF b (0 * b + c + 1) v
    rw [plF_eq v (p * b + c + 1), plF_eq v (0 * b + c + 1), Nat.pow_succ, Nat.add_mul, Nat.add_mul, Nat.add_mul, Nat.add_mul, Nat.mul_assoc, Nat.mul_comm b]
    omega
theorem pl_app {b : Nat} (u v : List Nat) : pl b (u ++ v) = pl b u * b ^ v.length + pl b v := by
  show plF b 0 (u ++ v) = _
  rw [plF_app, plF_eq]; rfl
theorem pl_len {b : Nat} {u v : List Nat} (hu : vd b u) (hv : vd b v) (h : pl b u ≤ pl b v) : u.length ≤ v.length := by
  rcases Nat.lt_or_ge v.length u.length with hl | hl
  · have := pl_slt (l := b) (a := v) (b := u) (.inl hl) hv
    omega
  · exact hl
theorem pl_mono {b : Nat} (hb : 1 ≤ b) {u u' v v' : List Nat} (h2 : vd b v) (h3 : vd b v') (e1 : pl b u ≤ pl b u') (e2 : pl b v ≤ pl b v') : pl b (u ++ v) ≤ pl b (u' ++ v') := by
  rw [pl_app, pl_app]
  have hl := pl_len h2 h3 e2
  have hp := Nat.pow_le_pow_right hb hl
  have := Nat.mul_le_mul e1 hp
  omega
theorem pl_up {b : Nat} : ∀ (n : Nat) {r : List Nat}, r.length = n → vd b r → pl b r + 1 ≤ (b + 1) ^ n
  | 0, r, h, _ => by
    have : r = [] := List.length_eq_zero_iff.mp h
    subst this; simp [pl, plF]
  | n + 1, r, h, hv => by
    have hne : r ≠ [] := by intro z; subst z; simp at h
    rw [← List.dropLast_concat_getLast hne] at hv ⊢
    generalize hd : r.dropLast = d at hv ⊢
    generalize r.getLast hne = x at hv ⊢
    have hx := hv x (by simp)
    have ih := pl_up n (r := d) (by subst hd; simp; omega) (vd.of hv).1
    have e : pl b (d ++ [x]) = pl b d * b + x + 1 := plF_snoc d
    rw [e, Nat.pow_succ]
    have h1 := Nat.mul_le_mul_right (b + 1) ih
    rw [Nat.add_mul, Nat.mul_add] at h1
    omega
theorem pl_bound {b M : Nat} {r : List Nat} (hv : vd b r) (h : r.length ≤ M) : pl b r + 1 ≤ (b + 1) ^ M := Nat.le_trans (pl_up _ rfl hv) (Nat.pow_le_pow_right (by omega) h)
/-- the lesser of two rows -/
abbrev O := Option (List Nat)
def lesO (b : Nat) : O → O → O
  | none, o => o
  | some r, none => some r
  | some r, some o => if pl b o < pl b r then some o else some r
theorem lesO_ss {b : Nat} {r o : List Nat} : lesO b (some r) (some o) = if pl b o < pl b r then some o else some r := rfl
def ky (b K : Nat) : O → Nat
  | none => K
  | some r => pl b r
def leO (b : Nat) (x y : O) : Prop := ∀ r, y = some r → ∃ t, x = some t ∧ pl b t ≤ pl b r
theorem leO.rfl {b : Nat} {x : O} : leO b x x := fun r h => ⟨r, h, Nat.le_refl _⟩
theorem leO.trans {b : Nat} {x y z : O} (h1 : leO b x y) (h2 : leO b y z) : leO b x z := fun r h => by
  obtain ⟨t, e, l⟩ := h2 r h
  obtain ⟨u, e', l'⟩ := h1 t e
  exact ⟨u, e', Nat.le_trans l' l⟩
theorem lesO_l {b : Nat} {x y : O} : leO b (lesO b x y) x := fun r h => by
  subst h
  cases y with
  | none => exact ⟨r, rfl, Nat.le_refl _⟩
  | some o =>
    rw [lesO_ss]
    split
    · exact ⟨o, rfl, by omega⟩
    · exact ⟨r, rfl, Nat.le_refl _⟩
theorem lesO_r {b : Nat} {x y : O} : leO b (lesO b x y) y := fun r h => by
  subst h
  cases x with
  | none => exact ⟨r, rfl, Nat.le_refl _⟩
  | some o =>
    rw [lesO_ss]
    split
    · exact ⟨r, rfl, Nat.le_refl _⟩
    · exact ⟨o, rfl, by omega⟩
theorem lesO_or {b : Nat} (x y : O) : lesO b x y = x ∨ lesO b x y = y := by
  cases x with
  | none => exact .inr rfl
  | some r =>
    cases y with
    | none => exact .inl rfl
    | some o => rw [lesO_ss]; split <;> simp
/-- a new lesser row has a lesser key -/
theorem lesO_ky {b K : Nat} {x : O} {r : List Nat} (hK : pl b r < K) (h : lesO b x (some r) ≠ x) : lesO b x (some r) = some r ∧ ky b K (lesO b x (some r)) < ky b K x := by
  cases x with
  | none => exact ⟨rfl, hK⟩
  | some o =>
    rw [lesO_ss] at h ⊢
    by_cases hc : pl b r < pl b o
    · rw [if_pos hc] at h ⊢
      exact ⟨rfl, hc⟩
    · rw [if_neg hc] at h
      exact absurd rfl h
theorem lesO_eq {b : Nat} {x : O} {r : List Nat} (h : lesO b x (some r) = x) : ∃ t, x = some t ∧ pl b t ≤ pl b r := by
  obtain ⟨t, e, l⟩ := lesO_r (b := b) (x := x) (y := some r) r rfl
  rw [h] at e
  exact ⟨t, e, l⟩
/-! a house, its letters standing for rows: the least rows to its rooms -/
/-- the row that a word of letters stands for -/
def flat (made : List O) (u : List Nat) : List Nat := u.flatMap fun c => (made.getD c none).getD []
/-- a word all of whose letters stand for rows -/
def okW (l : Nat) (made : List O) (u : List Nat) : Prop := ∀ c ∈ u, c < l ∧ ∃ m, made[c]? = some (some m)
theorem flat_app {made : List O} (u v : List Nat) : flat made (u ++ v) = flat made u ++ flat made v := by simp [flat]
theorem flat_one {made : List O} {c : Nat} {m : List Nat} (h : made[c]? = some (some m)) : flat made [c] = m := by
  unfold flat
  rw [List.flatMap_cons, List.flatMap_nil, List.append_nil, List.getD_eq_getElem?_getD, h]; rfl
/-- what stands for the letters -/
structure MadeOk (b l M : Nat) (made : List O) : Prop where
  len : made.length = l
  ok : ∀ (c : Nat) (m : List Nat), made[c]? = some (some m) → vd b m ∧ m.length ≤ M
/-- how many rooms have a row -/
def cntO (F : List O) : Nat := (F.filter Option.isSome).length
structure RI (H : Hs) (b M : Nat) (made : List O) (F : List O) : Prop where
  len : F.length = H.W.length
  z : F[0]? = some (some [])
  snd : ∀ (x : Nat) (r : List Nat), F[x]? = some (some r) → ∃ u, okW H.l made u ∧ wk H 0 u = x ∧ r = flat made u
  vd : ∀ (x : Nat) (r : List Nat), F[x]? = some (some r) → N80.vd b r ∧ r.length + M ≤ cntO F * M
def mu (b K : Nat) (F : List O) : Nat := (F.map (ky b K)).sum
theorem mu_set {b K : Nat} : ∀ {F : List O} {x : Nat} {o y : O}, F[x]? = some y → ky b K o < ky b K y → mu b K (F.set x o) < mu b K F
  | [], x, o, y, h, _ => by simp at h
  | a :: F, 0, o, y, h, hl => by
    simp only [List.getElem?_cons_zero, Option.some.injEq] at h
    subst h
    show (ky b K o :: F.map (ky b K)).sum < (ky b K a :: F.map (ky b K)).sum
    rw [List.sum_cons, List.sum_cons]; omega
  | a :: F, x + 1, o, y, h, hl => by
    have ih := mu_set (F := F) (x := x) (o := o) (by simpa using h) hl
    show (ky b K a :: (F.set x o).map (ky b K)).sum < (ky b K a :: F.map (ky b K)).sum
    rw [List.sum_cons, List.sum_cons]
    unfold mu at ih
    omega
theorem cnt_set : ∀ {F : List O} {x : Nat} {r : List Nat} {y : O}, F[x]? = some y → cntO (F.set x (some r)) = if y = none then cntO F + 1 else cntO F
  | [], x, r, y, h => by simp at h
  | a :: F, 0, r, y, h => by
    simp only [List.getElem?_cons_zero, Option.some.injEq] at h
    subst h
    cases a <;> simp [cntO]
  | a :: F, x + 1, r, y, h => by
    have ih := cnt_set (F := F) (x := x) (r := r) (by simpa using h)
    unfold cntO at ih ⊢
    rw [List.set_cons_succ, List.filter_cons, List.filter_cons]
    split
    · rw [List.length_cons, List.length_cons, ih]; split <;> rfl
    · exact ih
theorem cnt_le {F : List O} : cntO F ≤ F.length := List.length_filter_le _ _
/-- one step: a room's row, a letter's row -/
theorem RI.step {H : Hs} (ok : H.Ok) {b M : Nat} {made F : List O} (mo : MadeOk b H.l M made) (i : RI H b M made F) {x c : Nat} {r m : List Nat} (hx : F[x]? = some (some r)) (hc : c < H.l) (hm : made[c]? = some (some m)) {y : O} (hy : F[nx H x c]? = some y) :
    lesO b y (some (r ++ m)) ≠ y → RI H b M made (F.set (nx H x c) (lesO b y (some (r ++ m)))) ∧ ∀ K, (b + 1) ^ (H.W.length * M) ≤ K → mu b K (F.set (nx H x c) (lesO b y (some (r ++ m)))) < mu b K F := by
  intro hne
  obtain ⟨vr, lr⟩ := i.vd x r hx
  obtain ⟨vm, lm⟩ := mo.ok c m hm
  have hcl := cnt_le (F := F)
  have il := i.len
  have hlen : (r ++ m).length ≤ cntO F * M := by rw [List.length_append]; omega
  have hlen2 : cntO F * M ≤ H.W.length * M := Nat.mul_le_mul_right M (by omega)
  have vrm : N80.vd b (r ++ m) := vr.app vm
  have hK : ∀ K, (b + 1) ^ (H.W.length * M) ≤ K → pl b (r ++ m) < K := fun K hK => by
    have := pl_bound vrm (Nat.le_trans hlen hlen2)
    omega
  obtain ⟨e1, _⟩ := lesO_ky (K := (b + 1) ^ (H.W.length * M)) (hK _ (Nat.le_refl _)) hne
  have hset : ∀ (z : Nat) (w : List Nat), (F.set (nx H x c) (some (r ++ m)))[z]? = some (some w) → (z = nx H x c ∧ w = r ++ m) ∨ (z ≠ nx H x c ∧ F[z]? = some (some w)) := fun z w h => by
    by_cases ez : nx H x c = z
    · subst ez
      rw [List.getElem?_set_self (List.getElem?_eq_some_iff.mp hy).1] at h
      cases h
      exact .inl ⟨rfl, rfl⟩
    · rw [List.getElem?_set_ne ez] at h
      exact .inr ⟨fun e => ez e.symm, h⟩
  refine ⟨?_, fun K h => mu_set hy (lesO_ky (hK K h) hne).2⟩
  rw [e1]
  have hcs := cnt_set (r := r ++ m) hy
  have hnz : nx H x c ≠ 0 ∨ y = some [] := by
    by_cases h0 : nx H x c = 0
    · rw [h0, i.z] at hy
      exact .inr (by cases hy; rfl)
    · exact .inl h0
  refine ⟨by rw [List.length_set]; exact i.len, ?_, fun z w h => ?_, fun z w h => ?_⟩
  · rcases hnz with h0 | h0
    · rw [List.getElem?_set_ne h0]; exact i.z
    · exfalso
      subst h0
      refine hne ?_
      rw [lesO_ss, if_neg (by show ¬ pl b (r ++ m) < pl b []; simp [pl, plF])]
  · rcases hset z w h with ⟨rfl, rfl⟩ | ⟨_, h⟩
    · obtain ⟨u, u1, u2, u3⟩ := i.snd x r hx
      refine ⟨u ++ [c], fun d hd => ?_, by rw [wk_app, u2], by rw [flat_app, flat_one hm, u3]⟩
      rcases List.mem_append.mp hd with hd | hd
      · exact u1 d hd
      · simp only [List.mem_singleton] at hd
        subst hd; exact ⟨hc, m, hm⟩
    · exact i.snd z w h
  · rcases hset z w h with ⟨rfl, rfl⟩ | ⟨_, h⟩
    · refine ⟨vrm, ?_⟩
      rw [hcs]
      split
      · rw [Nat.add_mul, Nat.one_mul]; omega
      · rename_i hyn
        cases y with
        | none => exact absurd rfl hyn
        | some o =>
          obtain ⟨vo, lo⟩ := i.vd _ _ hy
          have h2 : pl b (r ++ m) ≤ pl b o := by
            rw [lesO_ss] at e1 hne
            by_cases hc2 : pl b (r ++ m) < pl b o
            · omega
            · rw [if_neg hc2] at hne; exact absurd rfl hne
          have := pl_len vrm vo h2
          omega
    · obtain ⟨a1, a2⟩ := i.vd z w h
      refine ⟨a1, Nat.le_trans a2 (Nat.mul_le_mul_right M ?_)⟩
      rw [hcs]; split <;> omega
/-- nothing turns any more -/
def Cld (H : Hs) (b : Nat) (made F : List O) : Prop := ∀ (x : Nat) (r : List Nat) (c : Nat) (m : List Nat), F[x]? = some (some r) → c < H.l → made[c]? = some (some m) → ∃ t, F[nx H x c]? = some (some t) ∧ pl b t ≤ pl b (r ++ m)
theorem Cld.least {H : Hs} {b M : Nat} (hb : 1 ≤ b) {made F : List O} (mo : MadeOk b H.l M made) (i : RI H b M made F) (cl : Cld H b made F) : ∀ (n : Nat) (u : List Nat), u.length = n → okW H.l made u → ∃ t, F[wk H 0 u]? = some (some t) ∧ pl b t ≤ pl b (flat made u)
  | 0, u, h, _ => by
    have : u = [] := List.length_eq_zero_iff.mp h
    subst this
    exact ⟨[], i.z, Nat.zero_le _⟩
  | n + 1, u, h, hu => by
    have hne : u ≠ [] := by intro z; subst z; simp at h
    rw [← List.dropLast_concat_getLast hne] at hu ⊢
    generalize hd : u.dropLast = d at hu ⊢
    generalize u.getLast hne = c at hu ⊢
    obtain ⟨hc, m, hm⟩ := hu c (by simp)
    obtain ⟨t, e1, l1⟩ := Cld.least hb mo i cl n d (by subst hd; simp; omega) fun x hx => hu x (by simp [hx])
    obtain ⟨t', e2, l2⟩ := cl _ t c m e1 hc hm
    rw [wk_app, flat_app, flat_one hm]
    have vm := (mo.ok c m hm).1
    exact ⟨t', e2, Nat.le_trans l2 (pl_mono hb vm vm l1 (Nat.le_refl _))⟩
end N80

namespace N80
open PySem PySem.Spec PyProof.Rows L2 G
/-! plain: the shortest rows of a works -/
def iN (r : List Nat) : List Int := r.map fun (g : Nat) => (g : Int)
theorem wN_iN (r : List Nat) : wN (iN r) = r := by
  unfold wN iN
  rw [List.map_map]
  exact (List.map_congr_left fun x _ => by simp).trans (List.map_id r)
def mdR (p n : Nat) (R : List O) : List O := (List.range p).map (fun c => some [c]) ++ (List.range n).map fun j => (R.getD j none).map fun r => (p + j) :: r ++ [p + n]
theorem mdR_pl {p n : Nat} {R : List O} {c : Nat} (h : c < p) : (mdR p n R)[c]? = some (some [c]) := by
  unfold mdR
  rw [List.getElem?_append_left (by simpa using h), List.getElem?_map, List.getElem?_range h]; rfl
theorem mdR_cl {p n : Nat} {R : List O} {j : Nat} (h : j < n) : (mdR p n R)[p + j]? = some ((R.getD j none).map fun r => (p + j) :: r ++ [p + n]) := by
  unfold mdR
  rw [List.getElem?_append_right (by simp), List.getElem?_map]
  simp [h]
theorem mdR_len {p n : Nat} {R : List O} : (mdR p n R).length = p + n := by simp [mdR]
theorem getD_O {R : List O} {j : Nat} {r : List Nat} (h : R[j]? = some (some r)) : R.getD j none = some r := by rw [List.getD_eq_getElem?_getD, h]; rfl
theorem O_getD {R : List O} {j : Nat} {r : List Nat} (h : R.getD j none = some r) : R[j]? = some (some r) := by
  rw [List.getD_eq_getElem?_getD] at h
  cases e : R[j]? with
  | none => rw [e] at h; cases h
  | some o => rw [e] at h; cases h; rfl
theorem mdR_ok {p n M : Nat} {R : List O} (h : ∀ (j : Nat) (r : List Nat), R[j]? = some (some r) → vd (p + n + 1) r ∧ r.length ≤ M) : MadeOk (p + n + 1) (p + n) (M + 2) (mdR p n R) := by
  refine ⟨mdR_len, fun c m e => ?_⟩
  have hc : c < p + n := by
    have := (List.getElem?_eq_some_iff.mp e).1
    rwa [mdR_len] at this
  rcases Nat.lt_or_ge c p with h1 | h1
  · rw [mdR_pl h1] at e
    cases e
    exact ⟨fun x hx => by simp only [List.mem_singleton] at hx; omega, by simp⟩
  · obtain ⟨j, rfl⟩ : ∃ j, c = p + j := ⟨c - p, by omega⟩
    rw [mdR_cl (by omega)] at e
    cases e2 : R.getD j none with
    | none => rw [e2] at e; cases e
    | some r =>
      rw [e2] at e
      cases e
      obtain ⟨v, l⟩ := h j r (O_getD e2)
      refine ⟨fun x hx => ?_, by simp; omega⟩
      simp only [List.cons_append, List.mem_cons, List.mem_append, List.not_mem_nil, or_false] at hx
      rcases hx with rfl | hx | rfl
      · omega
      · exact v x hx
      · omega
/-- rows no greater: what letters stand for is no greater -/
def LeR (b : Nat) (R' R : List O) : Prop := ∀ (j : Nat) (r : List Nat), R[j]? = some (some r) → ∃ t, R'[j]? = some (some t) ∧ pl b t ≤ pl b r
theorem LeR.ok {p n : Nat} {R R' : List O} (h : LeR (p + n + 1) R' R) {u : List Nat} (hu : okW (p + n) (mdR p n R) u) : okW (p + n) (mdR p n R') u := fun c hc => by
  obtain ⟨h1, m, e⟩ := hu c hc
  refine ⟨h1, ?_⟩
  rcases Nat.lt_or_ge c p with h2 | h2
  · exact ⟨_, mdR_pl h2⟩
  · obtain ⟨j, rfl⟩ : ∃ j, c = p + j := ⟨c - p, by omega⟩
    rw [mdR_cl (by omega)] at e ⊢
    cases e2 : R.getD j none with
    | none => rw [e2] at e; cases e
    | some r =>
      obtain ⟨t, e3, _⟩ := h j r (O_getD e2)
      rw [getD_O e3]
      exact ⟨_, rfl⟩
theorem LeR.flat {p n M M' : Nat} {R R' : List O} (h : LeR (p + n + 1) R' R) (mo : MadeOk (p + n + 1) (p + n) M (mdR p n R)) (mo' : MadeOk (p + n + 1) (p + n) M' (mdR p n R')) : ∀ (u : List Nat), okW (p + n) (mdR p n R) u → pl (p + n + 1) (N80.flat (mdR p n R') u) ≤ pl (p + n + 1) (N80.flat (mdR p n R) u) ∧ vd (p + n + 1) (N80.flat (mdR p n R) u) ∧ vd (p + n + 1) (N80.flat (mdR p n R') u)
  | [], _ => ⟨Nat.le_refl _, by simp [N80.flat, vd], by simp [N80.flat, vd]⟩
  | c :: u, hu => by
    obtain ⟨ih, iv, iv'⟩ := LeR.flat h mo mo' u fun x hx => hu x (by simp [hx])
    obtain ⟨h1, m, e⟩ := hu c (by simp)
    obtain ⟨_, m', e'⟩ := h.ok (u := [c]) (fun x hx => by simp only [List.mem_singleton] at hx; subst hx; exact ⟨h1, m, e⟩) c (by simp)
    have f1 : ∀ M, N80.flat M (c :: u) = N80.flat M [c] ++ N80.flat M u := fun M => flat_app [c] u
    rw [f1, f1, flat_one e, flat_one e']
    obtain ⟨vm, _⟩ := mo.ok c m e
    obtain ⟨vm', _⟩ := mo'.ok c m' e'
    refine ⟨pl_mono (by omega) iv' iv ?_ ih, vm.app iv, vm'.app iv'⟩
    rcases Nat.lt_or_ge c p with h2 | h2
    · rw [mdR_pl h2] at e e'
      cases e; cases e'
      exact Nat.le_refl _
    · obtain ⟨j, rfl⟩ : ∃ j, c = p + j := ⟨c - p, by omega⟩
      rw [mdR_cl (by omega)] at e e'
      cases e2 : R.getD j none with
      | none => rw [e2] at e; cases e
      | some r =>
        obtain ⟨t, e3, l3⟩ := h j r (O_getD e2)
        rw [e2] at e
        rw [getD_O e3] at e'
        cases e; cases e'
        have vr : vd (p + n + 1) (r ++ [p + n]) := fun x hx => vm x (by simp at hx ⊢; exact .inr hx)
        have vt : vd (p + n + 1) (t ++ [p + n]) := fun x hx => vm' x (by simp at hx ⊢; exact .inr hx)
        have v1 : vd (p + n + 1) [p + n] := fun x hx => by simp only [List.mem_singleton] at hx; omega
        exact pl_mono (by omega) (u := [p + j]) (u' := [p + j]) vt vr (Nat.le_refl _) (pl_mono (by omega) v1 v1 l3 (Nat.le_refl _))
/-- the best row of a house -/
structure Best (H : Hs) (b M : Nat) (made : List O) (o : O) : Prop where
  snd : ∀ t, o = some t → ∃ u, okW H.l made u ∧ col H u 0 ≠ 0 ∧ t = flat made u ∧ vd b t ∧ t.length ≤ 3 * M
  least : ∀ u, okW H.l made u → col H u 0 ≠ 0 → ∃ t, o = some t ∧ pl b t ≤ pl b (flat made u)
def Bq : Nat → Nat
  | 0 => 0
  | q + 1 => 3 * (Bq q + 2)
theorem Bq_mono {a c : Nat} (h : a ≤ c) : Bq a ≤ Bq c := by
  induction h with
  | refl => exact Nat.le_refl _
  | step _ ih => exact Nat.le_trans ih (by show _ ≤ 3 * (Bq _ + 2); omega)
/-- what is known of the rows all the time -/
structure SI (p n : Nat) (Hl : List Hs) (R : List O) : Prop where
  len : R.length = n
  snd : ∀ (j : Nat) (r : List Nat), R[j]? = some (some r) → nst p ((p : Int) + n) (iN r) 0 = true ∧ acc p n j Hl (iN r) = true
  vd : ∀ (j : Nat) (r : List Nat), R[j]? = some (some r) → N80.vd (p + n + 1) r ∧ r.length ≤ Bq (cntO R)
  wit : ∀ (j : Nat) (r : List Nat), R[j]? = some (some r) → ∃ u H, Hl[j]? = some H ∧ okW (p + n) (mdR p n R) u ∧ col H u 0 ≠ 0 ∧ pl (p + n + 1) (flat (mdR p n R) u) ≤ pl (p + n + 1) r
theorem SI.made {p n : Nat} {Hl : List Hs} {R : List O} (i : SI p n Hl R) : MadeOk (p + n + 1) (p + n) (Bq (cntO R) + 2) (mdR p n R) := mdR_ok i.vd
/-- rows as stretches: the row that a word stands for is nested, and it is taken where the word is -/
theorem flat_acc {p n : Nat} {Hl : List Hs} (w : Wk p n Hl) {R : List O} (snd : ∀ (j : Nat) (r : List Nat), R[j]? = some (some r) → nst p ((p : Int) + n) (iN r) 0 = true ∧ acc p n j Hl (iN r) = true)
    {u : List Nat} (hu : okW (p + n) (mdR p n R) u) {j : Nat} {H : Hs} (hj : Hl[j]? = some H) (hc : col H u 0 ≠ 0) : nst p ((p : Int) + n) (iN (flat (mdR p n R) u)) 0 = true ∧ acc p n j Hl (iN (flat (mdR p n R) u)) = true := by
  let Rf : Int → List Int := fun i => iN ((R.getD i.toNat none).getD [])
  have key : ∀ u : List Nat, okW (p + n) (mdR p n R) u → iN (flat (mdR p n R) u) = spr p ((p : Int) + n) Rf (iN u) := by
    intro u
    induction u with
    | nil => intro _; rfl
    | cons c u ih =>
      intro hu
      obtain ⟨h1, m, e⟩ := hu c (by simp)
      have f1 : flat (mdR p n R) (c :: u) = flat (mdR p n R) [c] ++ flat (mdR p n R) u := flat_app [c] u
      rw [f1, flat_one e]
      have ih := ih fun x hx => hu x (by simp [hx])
      show iN (m ++ flat (mdR p n R) u) = (if (c : Int) < p then [(c : Int)] else (c : Int) :: Rf ((c : Int) - p) ++ [(p : Int) + n]) ++ spr p ((p : Int) + n) Rf (iN u)
      rw [← ih]
      unfold iN
      rw [List.map_append]
      congr 1
      rcases Nat.lt_or_ge c p with h2 | h2
      · rw [mdR_pl h2] at e
        cases e
        rw [if_pos (by omega)]; rfl
      · obtain ⟨i, rfl⟩ : ∃ i, c = p + i := ⟨c - p, by omega⟩
        rw [mdR_cl (by omega)] at e
        rw [if_neg (by omega)]
        cases e2 : R.getD i none with
        | none => rw [e2] at e; cases e
        | some r =>
          rw [e2] at e
          cases e
          have e3 : (((p + i : Nat) : Int) - p).toNat = i := by omega
          show ((p + i) :: r ++ [p + n]).map (fun (g : Nat) => (g : Int)) = _
          show _ = ((p + i : Nat) : Int) :: iN ((R.getD (((p + i : Nat) : Int) - p).toNat none).getD []) ++ _
          rw [e3, e2]
          simp [iN]
  have okI : ∀ x ∈ iN u, 0 ≤ x ∧ x < (p : Int) + n ∧ ((p : Int) ≤ x → nst p ((p : Int) + n) (Rf (x - p)) 0 = true) := fun x hx => by
    obtain ⟨c, hc, rfl⟩ := List.mem_map.mp hx
    obtain ⟨h1, m, e⟩ := hu c hc
    refine ⟨by omega, by omega, fun h => ?_⟩
    obtain ⟨i, rfl⟩ : ∃ i, c = p + i := ⟨c - p, by omega⟩
    rw [mdR_cl (by omega)] at e
    cases e2 : R.getD i none with
    | none => rw [e2] at e; cases e
    | some r =>
      have e3 : (((p + i : Nat) : Int) - p).toNat = i := by omega
      show nst p ((p : Int) + n) (iN ((R.getD (((p + i : Nat) : Int) - p).toNat none).getD [])) 0 = true
      rw [e3, e2]
      exact (snd i r (O_getD e2)).1
  rw [key u hu]
  refine ⟨nst_spr okI, ?_⟩
  unfold acc
  rw [pts_spr okI, List.all_append, List.nil_append]
  have h2 : [((j : Int), iN u)].all (tk1 Hl) = true := by
    simp only [List.all_cons, List.all_nil, Bool.and_true]
    unfold tk1
    rw [Int.toNat_natCast, hj]
    show (!decide (col H (wN (iN u)) 0 = 0)) = true
    rw [wN_iN, decide_eq_false hc]; rfl
  rw [h2, Bool.and_true, List.all_eq_true]
  intro t ht
  unfold cal at ht
  obtain ⟨x, hx, ht⟩ := List.mem_flatMap.mp ht
  obtain ⟨c, hcu, rfl⟩ := List.mem_map.mp hx
  obtain ⟨h1, m, e⟩ := hu c hcu
  by_cases hp : (p : Int) ≤ (c : Int)
  · rw [if_pos hp] at ht
    obtain ⟨i, rfl⟩ : ∃ i, c = p + i := ⟨c - p, by omega⟩
    rw [mdR_cl (by omega)] at e
    cases e2 : R.getD i none with
    | none => rw [e2] at e; cases e
    | some r =>
      have e3 : (((p + i : Nat) : Int) - p).toNat = i := by omega
      have e4 : ((p + i : Nat) : Int) - p = (i : Int) := by omega
      have hr : Rf (((p + i : Nat) : Int) - p) = iN r := by
        show iN ((R.getD (((p + i : Nat) : Int) - p).toNat none).getD []) = _
        rw [e3, e2]; rfl
      rw [hr, e4] at ht
      have := (snd i r (O_getD e2)).2
      unfold acc at this
      exact List.all_eq_true.mp this t ht
  · rw [if_neg hp] at ht
    cases ht
end N80

namespace N80
open PySem PySem.Spec PyProof.Rows L2 G
theorem cnt_mono : ∀ {F F' : List O}, F.length = F'.length → (∀ (j : Nat) (r : List Nat), F[j]? = some (some r) → ∃ t, F'[j]? = some (some t)) → cntO F ≤ cntO F' ∧ ∀ (j : Nat) (t : List Nat), F[j]? = some none → F'[j]? = some (some t) → cntO F + 1 ≤ cntO F'
  | [], [], _, _ => ⟨Nat.le_refl _, fun j t h => by simp at h⟩
  | [], _ :: _, h, _ => by simp at h
  | _ :: _, [], h, _ => by simp at h
  | x :: F, y :: F', hl, h => by
    obtain ⟨i1, i2⟩ := cnt_mono (F := F) (F' := F') (by simpa using hl) fun j r e => h (j + 1) r (by simpa using e)
    have e1 : ∀ (z : O) (G : List O), cntO (z :: G) = (if z.isSome then 1 else 0) + cntO G := fun z G => by
      unfold cntO
      rw [List.filter_cons]
      split <;> simp <;> omega
    rw [e1, e1]
    have h0 : x.isSome = true → y.isSome = true := fun hx => by
      cases x with
      | none => cases hx
      | some r =>
        obtain ⟨t, e⟩ := h 0 r rfl
        simp at e
        rw [e]; rfl
    refine ⟨?_, fun j t e e' => ?_⟩
    · split
      · rename_i hx; rw [if_pos (h0 hx)]; omega
      · omega
    · cases j with
      | zero =>
        simp at e e'
        subst e; subst e'
        simp; omega
      | succ j =>
        have := i2 j t (by simpa using e) (by simpa using e')
        split
        · rename_i hx; rw [if_pos (h0 hx)]; omega
        · omega
theorem mu_le {b K : Nat} : ∀ {F F' : List O}, F.length = F'.length → (∀ (j : Nat) (x y : O), F[j]? = some x → F'[j]? = some y → ky b K y ≤ ky b K x) → mu b K F' ≤ mu b K F ∧ ∀ (j : Nat) (x y : O), F[j]? = some x → F'[j]? = some y → ky b K y < ky b K x → mu b K F' < mu b K F
  | [], [], _, _ => ⟨Nat.le_refl _, fun j x y h => by simp at h⟩
  | [], _ :: _, h, _ => by simp at h
  | _ :: _, [], h, _ => by simp at h
  | x :: F, y :: F', hl, h => by
    obtain ⟨i1, i2⟩ := mu_le (F := F) (F' := F') (by simpa using hl) fun j a c e e' => h (j + 1) a c (by simpa using e) (by simpa using e')
    have e1 : ∀ (z : O) (G : List O), mu b K (z :: G) = ky b K z + mu b K G := fun z G => by unfold mu; rw [List.map_cons, List.sum_cons]
    rw [e1, e1]
    have h0 := h 0 x y rfl rfl
    refine ⟨by omega, fun j a c e e' hlt => ?_⟩
    cases j with
    | zero => simp at e e'; subst e; subst e'; omega
    | succ j => have := i2 j a c (by simpa using e) (by simpa using e') hlt; omega
theorem SI.step {p n : Nat} {Hl : List Hs} (w : Wk p n Hl) {R R1 : List O} (i : SI p n Hl R) (hl : R1.length = n) (hb : ∀ (j : Nat) (H : Hs), Hl[j]? = some H → Best H (p + n + 1) (Bq (cntO R) + 2) (mdR p n R) (R1.getD j none)) :
    SI p n Hl R1 ∧ LeR (p + n + 1) R1 R ∧ (R1 ≠ R → mu (p + n + 1) ((p + n + 2) ^ (3 * (Bq n + 2))) R1 < mu (p + n + 1) ((p + n + 2) ^ (3 * (Bq n + 2))) R) := by
  have hHl : ∀ (j : Nat) (H : Hs), Hl[j]? = some H → H.l = p + n := fun j H e => by
    have := (w.ok H (List.mem_of_getElem? e)).2.1
    omega
  have wl := w.len
  have hat : ∀ j, j < n → ∃ H, Hl[j]? = some H := fun j hj => ⟨_, List.getElem?_eq_getElem (by omega)⟩
  have le : LeR (p + n + 1) R1 R := fun j r e => by
    obtain ⟨u, H, h1, h2, h3, h4⟩ := i.wit j r e
    obtain ⟨t, e1, l1⟩ := (hb j H h1).least u (by rw [hHl j H h1]; exact h2) h3
    exact ⟨t, O_getD e1, Nat.le_trans l1 h4⟩
  have some1 : ∀ (j : Nat) (t : List Nat), R1[j]? = some (some t) → ∃ H u, Hl[j]? = some H ∧ okW (p + n) (mdR p n R) u ∧ col H u 0 ≠ 0 ∧ t = flat (mdR p n R) u ∧ N80.vd (p + n + 1) t ∧ t.length ≤ 3 * (Bq (cntO R) + 2) := fun j t e => by
    have hj : j < n := by rw [← hl]; exact (List.getElem?_eq_some_iff.mp e).1
    obtain ⟨H, hH⟩ := hat j hj
    obtain ⟨u, u1, u2, u3, u4, u5⟩ := (hb j H hH).snd t (getD_O e)
    exact ⟨H, u, hH, by rw [← hHl j H hH]; exact u1, u2, u3, u4, u5⟩
  have len2 : R.length = R1.length := by rw [i.len, hl]
  obtain ⟨c1, c2⟩ := cnt_mono len2 fun j r e => by obtain ⟨t, e', _⟩ := le j r e; exact ⟨t, e'⟩
  have vd1 : ∀ (j : Nat) (r : List Nat), R1[j]? = some (some r) → N80.vd (p + n + 1) r ∧ r.length ≤ Bq (cntO R1) := fun j t e => by
    obtain ⟨H, u, hH, u1, u2, u3, u4, u5⟩ := some1 j t e
    refine ⟨u4, ?_⟩
    have hj : j < R.length := by rw [len2]; exact (List.getElem?_eq_some_iff.mp e).1
    cases e0 : R[j]'hj with
    | none =>
      have := c2 j t (by rw [List.getElem?_eq_getElem hj, e0]) e
      exact Nat.le_trans u5 (Bq_mono this)
    | some r =>
      have e0' : R[j]? = some (some r) := by rw [List.getElem?_eq_getElem hj, e0]
      obtain ⟨t', e1, l1⟩ := le j r e0'
      rw [e] at e1
      cases e1
      obtain ⟨v1, l2⟩ := i.vd j r e0'
      exact Nat.le_trans (pl_len u4 v1 l1) (Nat.le_trans l2 (Bq_mono c1))
  have mo1 : MadeOk (p + n + 1) (p + n) (Bq (cntO R1) + 2) (mdR p n R1) := mdR_ok vd1
  refine ⟨⟨hl, fun j t e => ?_, vd1, fun j t e => ?_⟩, le, fun hne => ?_⟩
  · obtain ⟨H, u, hH, u1, u2, u3, _, _⟩ := some1 j t e
    rw [u3]
    exact flat_acc w i.snd u1 hH u2
  · obtain ⟨H, u, hH, u1, u2, u3, _, _⟩ := some1 j t e
    refine ⟨u, H, hH, le.ok u1, u2, ?_⟩
    rw [u3]
    exact (le.flat i.made mo1 u u1).1
  · have hK : ∀ (j : Nat) (t : List Nat), R1[j]? = some (some t) → pl (p + n + 1) t < (p + n + 2) ^ (3 * (Bq n + 2)) := fun j t e => by
      obtain ⟨v, l⟩ := vd1 j t e
      have h1 : Bq (cntO R1) ≤ 3 * (Bq n + 2) := Nat.le_trans (Bq_mono (Nat.le_trans cnt_le (Nat.le_of_eq hl))) (by omega)
      have := pl_bound v (Nat.le_trans l h1)
      rw [show p + n + 1 + 1 = p + n + 2 from rfl] at this
      omega
    have kle : ∀ (j : Nat) (x y : O), R[j]? = some x → R1[j]? = some y → ky (p + n + 1) ((p + n + 2) ^ (3 * (Bq n + 2))) y ≤ ky (p + n + 1) ((p + n + 2) ^ (3 * (Bq n + 2))) x ∧ (x ≠ y → ky (p + n + 1) ((p + n + 2) ^ (3 * (Bq n + 2))) y < ky (p + n + 1) ((p + n + 2) ^ (3 * (Bq n + 2))) x) := fun j x y ex ey => by
      cases x with
      | none =>
        cases y with
        | none => exact ⟨Nat.le_refl _, fun h => absurd rfl h⟩
        | some t => have := hK j t ey; exact ⟨Nat.le_of_lt this, fun _ => this⟩
      | some r =>
        obtain ⟨t, e1, l1⟩ := le j r ex
        rw [ey] at e1
        cases e1
        refine ⟨l1, fun h => ?_⟩
        have hv := (i.vd j r ex).1
        have ht := (vd1 j t ey).1
        rcases Nat.lt_or_eq_of_le l1 with h1 | h1
        · exact h1
        · exact absurd (by rw [(pl_eq ht hv).mp h1]) h
    obtain ⟨_, m2⟩ := mu_le len2 fun j x y ex ey => (kle j x y ex ey).1
    -- where they differ
    have : ∃ j, R1[j]? ≠ R[j]? := Classical.byContradiction fun h => hne (List.ext_getElem? fun j => Classical.byContradiction fun h2 => h ⟨j, h2⟩)
    obtain ⟨j, hj⟩ := this
    have hjl : j < R.length := by
      rcases Nat.lt_or_ge j R.length with h | h
      · exact h
      · exact absurd (by rw [List.getElem?_eq_none h, List.getElem?_eq_none (by omega)]) hj
    have hj1 : j < R1.length := by omega
    rw [List.getElem?_eq_getElem hjl, List.getElem?_eq_getElem hj1] at hj
    exact m2 j _ _ (List.getElem?_eq_getElem hjl) (List.getElem?_eq_getElem hj1) ((kle j _ _ (List.getElem?_eq_getElem hjl) (List.getElem?_eq_getElem hj1)).2 fun e => hj (by rw [e]))
theorem SI.start {p n : Nat} {Hl : List Hs} : SI p n Hl (List.replicate n none) := by
  have h : ∀ (j : Nat) (r : List Nat), (List.replicate n (none : O))[j]? ≠ some (some r) := fun j r e => by
    obtain ⟨hj, e⟩ := List.getElem?_eq_some_iff.mp e
    rw [List.getElem_replicate] at e
    cases e
  exact ⟨by simp, fun j r e => absurd e (h j r), fun j r e => absurd e (h j r), fun j r e => absurd e (h j r)⟩
/-- where a stretch ends -/
theorem nst_split {p s : Int} : ∀ (k : Nat) {xs : List Int} {d : Nat}, xs.length = k → nst p s xs (d + 1) = true → ∃ a rest, xs = a ++ s :: rest ∧ nst p s a 0 = true ∧ nst p s rest d = true := by
  intro k
  induction k using Nat.strongRecOn with
  | ind k ih =>
    intro xs d hk h
    cases xs with
    | nil => simp [nst] at h
    | cons x xs =>
      have hkl : xs.length < k := by simp at hk; omega
      rw [nst_cons] at h
      split at h
      · cases h
      rename_i hx
      by_cases h1 : x = s
      · rw [if_pos h1] at h
        exact ⟨[], xs, by rw [h1]; rfl, rfl, h⟩
      rw [if_neg h1] at h
      by_cases h2 : p ≤ x
      · rw [if_pos h2] at h
        obtain ⟨a1, r1, rfl, n1, n2⟩ := ih _ hkl rfl h
        obtain ⟨a2, r2, rfl, n3, n4⟩ := ih r1.length (by simp at hkl; omega) rfl n2
        refine ⟨x :: a1 ++ s :: a2, r2, by simp, ?_, n4⟩
        rw [List.cons_append, nst_cons, if_neg hx, if_neg h1, if_pos h2]
        have := nst_app (ys := s :: a2) (d := 1) n1
        rw [Nat.zero_add] at this
        rw [Nat.zero_add, this, nst_cons, if_neg (by omega), if_pos rfl]
        exact n3
      · rw [if_neg h2] at h
        obtain ⟨a1, r1, rfl, n1, n2⟩ := ih _ hkl rfl h
        refine ⟨x :: a1, r1, by simp, ?_, n2⟩
        rw [nst_cons, if_neg hx, if_neg h1, if_neg h2]
        exact n1
theorem tk_iff {Hl : List Hs} {j : Nat} {u : List Nat} : tk1 Hl ((j : Int), iN u) = true ↔ ∃ H, Hl[j]? = some H ∧ col H u 0 ≠ 0 := by
  unfold tk1
  rw [Int.toNat_natCast]
  show (match Hl[j]? with
    | some H => !decide (col H (wN (iN u)) 0 = 0)
    | none => false) = true ↔ _
  rw [wN_iN]
  cases e : Hl[j]? with
  | none => simp
  | some H => simp
theorem iN_split {r : List Nat} {a b : List Int} {c : Int} (h : iN r = a ++ c :: b) : ∃ (a' : List Nat) (c' : Nat) (b' : List Nat), r = a' ++ c' :: b' ∧ iN a' = a ∧ (c' : Int) = c ∧ iN b' = b := by
  unfold iN at h
  obtain ⟨a', r', e1, e2, e3⟩ := List.map_eq_append_iff.mp h
  obtain ⟨c', b', e4, e5, e6⟩ := List.map_eq_cons_iff.mp e3
  exact ⟨a', c', b', by rw [e1, e4], e2, e5, e6⟩
/-- a row that is taken is no less than the row that is told -/
theorem fin_least {p n M : Nat} {Hl : List Hs} (w : Wk p n Hl) {R : List O} (mo : MadeOk (p + n + 1) (p + n) M (mdR p n R))
    (fx : ∀ (j : Nat) (H : Hs), Hl[j]? = some H → Best H (p + n + 1) M (mdR p n R) (R.getD j none)) :
    ∀ (k : Nat) {r : List Nat}, r.length = k → vd (p + n + 1) r → nst p ((p : Int) + n) (iN r) 0 = true → ∀ (j : Nat) (v : List Nat), okW (p + n) (mdR p n R) v → (∀ t ∈ pts p ((p : Int) + n) (iN r) [((j : Int), iN v)], tk1 Hl t = true) →
      ∃ u, okW (p + n) (mdR p n R) u ∧ (∃ H, Hl[j]? = some H ∧ col H u 0 ≠ 0) ∧ pl (p + n + 1) (flat (mdR p n R) u) ≤ pl (p + n + 1) (flat (mdR p n R) v ++ r) := by
  have hHl : ∀ (j : Nat) (H : Hs), Hl[j]? = some H → H.l = p + n := fun j H e => by
    have := (w.ok H (List.mem_of_getElem? e)).2.1
    omega
  have vflat : ∀ v, okW (p + n) (mdR p n R) v → vd (p + n + 1) (flat (mdR p n R) v) := fun v hv x hx => by
    obtain ⟨c, hc, hx⟩ := List.mem_flatMap.mp hx
    obtain ⟨_, m, e⟩ := hv c hc
    rw [getD_O e] at hx
    exact (mo.ok c m e).1 x hx
  intro k
  induction k using Nat.strongRecOn with
  | ind k ih =>
    intro r hk vr hn j v hv ht
    cases r with
    | nil =>
      refine ⟨v, hv, tk_iff.mp (ht _ (by simp [iN, pts])), by rw [List.append_nil]; exact Nat.le_refl _⟩
    | cons c r =>
      have hkl : r.length < k := by simp at hk; omega
      have hn' := hn
      rw [show iN (c :: r) = (c : Int) :: iN r from rfl] at hn' ht
      rw [nst_cons] at hn'
      split at hn'
      · cases hn'
      rename_i hx
      by_cases h1 : (c : Int) = (p : Int) + n
      · rw [if_pos h1] at hn'
        cases hn'
      rw [if_neg h1] at hn'
      rw [pts, if_neg h1] at ht
      have vr' : vd (p + n + 1) r := fun x hx => vr x (by simp [hx])
      by_cases h2 : (p : Int) ≤ (c : Int)
      · rw [if_pos h2] at hn' ht
        obtain ⟨a, rest, e, n1, n2⟩ := nst_split _ rfl hn'
        obtain ⟨a', c', rest', rfl, rfl, ec, rfl⟩ := iN_split e
        have hc' : c' = p + n := by omega
        subst hc'
        have va : vd (p + n + 1) a' := (vd.of vr').1
        have vrest : vd (p + n + 1) rest' := fun x hx => vr' x (by simp [hx])
        obtain ⟨i, rfl⟩ : ∃ i, c = p + i := ⟨c - p, by omega⟩
        have ei : ((p + i : Nat) : Int) - p = (i : Int) := by omega
        have hp := pts_app (rest := iN rest') (st1 := [(((p + i : Nat) : Int) - p, [])]) (st0 := [((j : Int), iN v ++ [((p + i : Nat) : Int)])]) n1 rfl
        rw [List.singleton_append] at hp
        rw [e, hp, ei] at ht
        obtain ⟨u', o', ⟨H', hH', hc1⟩, l'⟩ := ih a'.length (by simp at hkl; omega) rfl va n1 i [] (by simp [okW]) fun t h => ht t (List.mem_append_left _ h)
        obtain ⟨t, et, lt⟩ := (fx i H' hH').least u' (by rw [hHl i H' hH']; exact o') hc1
        rw [show flat (mdR p n R) [] = [] from rfl, List.nil_append] at l'
        have lta := Nat.le_trans lt l'
        have hin : i < n := by omega
        have em : (mdR p n R)[p + i]? = some (some ((p + i) :: t ++ [p + n])) := by rw [mdR_cl hin, et]; rfl
        have ov : okW (p + n) (mdR p n R) (v ++ [p + i]) := fun x hx => by
          rcases List.mem_append.mp hx with hx | hx
          · exact hv x hx
          · simp only [List.mem_singleton] at hx
            subst hx; exact ⟨by omega, _, em⟩
        obtain ⟨u, o, hH, l⟩ := ih rest'.length (by simp at hkl; omega) rfl vrest n2 j (v ++ [p + i]) ov fun t h => ht t (List.mem_append_right _ (by
          rw [show iN (v ++ [p + i]) = iN v ++ [((p + i : Nat) : Int)] from by simp [iN]] at h
          exact h))
        refine ⟨u, o, hH, Nat.le_trans l ?_⟩
        rw [flat_app, flat_one em, List.append_assoc]
        have vm := (mo.ok _ _ em).1
        have v1 : vd (p + n + 1) ([p + n] ++ rest') := fun x hx => by
          rcases List.mem_append.mp hx with hx | hx
          · simp only [List.mem_singleton] at hx; omega
          · exact vrest x hx
        have vt : vd (p + n + 1) t := fun x hx => vm x (by simp [hx])
        have e1 : (p + i) :: t ++ [p + n] ++ rest' = [p + i] ++ (t ++ ([p + n] ++ rest')) := by simp
        have e2 : (p + i) :: (a' ++ (p + n) :: rest') = [p + i] ++ (a' ++ ([p + n] ++ rest')) := by simp
        rw [e1, e2]
        have vp : vd (p + n + 1) [p + i] := fun x hx => by simp only [List.mem_singleton] at hx; omega
        refine pl_mono (by omega) (vp.app (vt.app v1)) (vp.app (va.app v1)) (Nat.le_refl _) (pl_mono (by omega) (vt.app v1) (va.app v1) (Nat.le_refl _) (pl_mono (by omega) v1 v1 lta (Nat.le_refl _)))
      · rw [if_neg h2] at hn' ht
        have hcp : c < p := by omega
        have ov : okW (p + n) (mdR p n R) (v ++ [c]) := fun x hx => by
          rcases List.mem_append.mp hx with hx | hx
          · exact hv x hx
          · simp only [List.mem_singleton] at hx
            subst hx; exact ⟨by omega, _, mdR_pl hcp⟩
        obtain ⟨u, o, hH, l⟩ := ih r.length hkl rfl vr' hn' j (v ++ [c]) ov fun t h => ht t (by
          rw [show iN (v ++ [c]) = iN v ++ [(c : Int)] from by simp [iN]] at h
          exact h)
        refine ⟨u, o, hH, Nat.le_trans l ?_⟩
        rw [flat_app, flat_one (mdR_pl hcp), List.append_assoc]
        exact Nat.le_refl _
/-- which helpers have a row: those that good letters come to -/
theorem fin_good {p n : Nat} {Hl : List Hs} {G : Nat → Prop} (gp : ∀ c, c < p → G c) (gc : ∀ (j : Nat) (H : Hs) (u : List Nat), Hl[j]? = some H → (∀ c ∈ u, G c) → col H u 0 ≠ 0 → G (p + j)) :
    ∀ (k : Nat) {r : List Nat}, r.length = k → nst p ((p : Int) + n) (iN r) 0 = true → ∀ (j : Nat) (v : List Nat), (∀ c ∈ v, G c) → (∀ t ∈ pts p ((p : Int) + n) (iN r) [((j : Int), iN v)], tk1 Hl t = true) → ∃ u, (∀ c ∈ u, G c) ∧ ∃ H, Hl[j]? = some H ∧ col H u 0 ≠ 0 := by
  intro k
  induction k using Nat.strongRecOn with
  | ind k ih =>
    intro r hk hn j v hv ht
    cases r with
    | nil => exact ⟨v, hv, tk_iff.mp (ht _ (by simp [iN, pts]))⟩
    | cons c r =>
      have hkl : r.length < k := by simp at hk; omega
      have hn' := hn
      rw [show iN (c :: r) = (c : Int) :: iN r from rfl] at hn' ht
      rw [nst_cons] at hn'
      split at hn'
      · cases hn'
      rename_i hx
      by_cases h1 : (c : Int) = (p : Int) + n
      · rw [if_pos h1] at hn'
        cases hn'
      rw [if_neg h1] at hn'
      rw [pts, if_neg h1] at ht
      have ov : G c → ∀ x ∈ v ++ [c], G x := fun g x hx => by
        rcases List.mem_append.mp hx with hx | hx
        · exact hv x hx
        · simp only [List.mem_singleton] at hx
          subst hx; exact g
      have eI : iN (v ++ [c]) = iN v ++ [(c : Int)] := by simp [iN]
      by_cases h2 : (p : Int) ≤ (c : Int)
      · rw [if_pos h2] at hn' ht
        obtain ⟨a, rest, e, n1, n2⟩ := nst_split _ rfl hn'
        obtain ⟨a', c', rest', rfl, rfl, ec, rfl⟩ := iN_split e
        obtain ⟨i, rfl⟩ : ∃ i, c = p + i := ⟨c - p, by omega⟩
        have ei : ((p + i : Nat) : Int) - p = (i : Int) := by omega
        have hp := pts_app (rest := iN rest') (st1 := [(((p + i : Nat) : Int) - p, [])]) (st0 := [((j : Int), iN v ++ [((p + i : Nat) : Int)])]) n1 rfl
        rw [List.singleton_append] at hp
        rw [e, hp, ei] at ht
        obtain ⟨u', g', H', hH', hc1⟩ := ih a'.length (by simp at hkl; omega) rfl n1 i [] (by simp) fun t h => ht t (List.mem_append_left _ h)
        exact ih rest'.length (by simp at hkl; omega) rfl n2 j (v ++ [p + i]) (ov (gc i H' u' hH' g' hc1)) fun t h => ht t (List.mem_append_right _ (by rw [eI] at h; exact h))
      · rw [if_neg h2] at hn' ht
        exact ih r.length hkl rfl hn' j (v ++ [c]) (ov (gp c (by omega))) fun t h => ht t (by rw [eI] at h; exact h)
end N80

namespace N80
open PySem PySem.Spec PyProof.Rows L2 G
theorem fla_o {o : O} {n : Nat} : (oD o).fla (n + 10) = true := by
  cases o with
  | none => simp [oD, D.fla]
  | some r => exact fla_tup (n := n + 9) (flas_map fun _ _ => fla_int)
theorem dat_oD (o : O) (h : AH) : (VV.d (oD o)).dat h = some (oD o) := by cases o <;> rfl
theorem kf_oD : KF oD := ⟨fun a b => by
  cases a with
  | none =>
    cases b with
    | none => simp [oD, D.eqv]
    | some b => simp [oD, wD, D.eqv]
  | some a =>
    cases b with
    | none => simp [oD, wD, D.eqv]
    | some b =>
      show D.eqv (wD a) (wD b) = true ↔ _
      rw [kf_wD.eq]
      exact ⟨fun h => by rw [h], fun h => by cases h; rfl⟩, fun _ _ => fla_o⟩
theorem wD_snoc {w : List Nat} {c : Nat} : wD (w ++ [c]) = .tup ((w.map fun (g : Nat) => D.int (g : Int)) ++ [.int (c : Int)]) := by unfold wD; rw [List.map_append]; rfl
section
variable {k : Nat} {ns : List Int} {h : AH} {Q : RR → AH → Prop} {X : EX → AH → Prop}
theorem less_ok {a b : List Nat} (ha : a.length ≤ 1000) (hb : b.length ≤ 1000) {v : Bool} (hv : v = true ↔ slt a b) (q : Q (.d (.bl v)) h) : wpF T cv (k + 1) f_less [.d (wD a), .d (wD b)] h Q X := by
  refine in_less ?_
  unfold b_less wD
  walk_at "a"
  refine ite_n (fun hne => ?_) (fun heq => ?_)
  · walk_at "a"
    have e : v = decide ((a.length : Int) < b.length) := by
      by_cases hl : a.length < b.length
      · rw [decide_eq_true (by omega)]; exact hv.mpr (.inl hl)
      · rw [decide_eq_false (by omega)]
        refine Bool.eq_false_iff.mpr fun z => ?_
        rcases hv.mp z with h1 | h1
        · exact hl h1
        · exact hne (by omega)
    rw [← e]
    exact q
  have hl : a.length = b.length := by omega
  walk_at "a"
  have hv' : v = true ↔ lx a b := hv.trans ⟨fun h => h.elim (fun z => absurd z (by omega)) (fun z => z.2), fun h => .inr ⟨hl, h⟩⟩
  have key : ∀ (x y : List Nat) (s2 s3 : Option Sl), x.length = y.length → (v = true ↔ lx x y) → forW (fun _ => True) (.tp [2, 3]) (fun env h R => wpSs (wpF T cv k) cv (.cons (.ite (.e (.cmp .ne (.var 2) (.var 3))) (.cons (.ret (.cmp .lt (.var 2) (.var 3))) .nil) .nil) .nil) env h R) (zipD (x.map fun (g : Nat) => D.int (g : Int)) (y.map fun (g : Nat) => D.int (g : Int)))
      [some (.val (.tup (a.map fun (g : Nat) => D.int (g : Int)))), some (.val (.tup (b.map fun (g : Nat) => D.int (g : Int)))), s2, s3] h ⟨fun e h => wpSs (wpF T cv k) cv (.cons (.ret (.bl false)) .nil) e h ⟨fun _ h' => Q (.d .non) h', Q, fun _ _ => False, fun _ _ => False, fun x _ h' => X x h'⟩, Q, fun _ _ => False, fun _ _ => False, fun x _ h' => X x h'⟩ := by
    intro x
    induction x with
    | nil =>
      intro y s2 s3 e1 e2
      have : y = [] := List.length_eq_zero_iff.mp (by simpa using e1.symm)
      subst this
      refine ⟨trivial, ?_⟩
      have : v = false := Bool.eq_false_iff.mpr fun z => by have := e2.mp z; simp [lx] at this
      rw [this] at q
      walk_at "a"
      exact q
    | cons c x ih =>
      intro y s2 s3 e1 e2
      cases y with
      | nil => simp at e1
      | cons d y =>
        rw [List.map_cons, List.map_cons]
        refine ⟨trivial, _, rfl, rfl, ?_⟩
        show wpSs _ _ _ [some (.val (.tup (a.map fun (g : Nat) => D.int (g : Int)))), some (.val (.tup (b.map fun (g : Nat) => D.int (g : Int)))), some (.val (.int (c : Nat))), some (.val (.int (d : Nat)))] h _
        simp only [lx] at e2
        walk_at "a"
        refine ite_n (fun hne => ?_) (fun heq => ?_)
        · walk_at "a"
          have e : v = decide ((c : Int) < d) := by
            by_cases hl : c < d
            · rw [decide_eq_true (by omega)]; exact e2.mpr (.inl hl)
            · rw [decide_eq_false (by omega)]
              refine Bool.eq_false_iff.mpr fun z => ?_
              rcases e2.mp z with h1 | h1
              · exact hl h1
              · exact hne (by omega)
          rw [← e]
          exact q
        · walk_at "a"
          exact ih y _ _ (by simpa using e1) (e2.trans ⟨fun h => h.elim (fun z => absurd z (by omega)) (fun z => z.2), fun h => .inr ⟨by omega, h⟩⟩)
  exact ⟨_, _, rfl, rfl, key a b _ _ hl hv'⟩
theorem lesser_ok {b : Nat} {x y : O} (hx : ∀ r, x = some r → vd b r ∧ r.length ≤ 1000) (hy : ∀ r, y = some r → vd b r ∧ r.length ≤ 1000) (q : Q (.d (oD (lesO b x y))) h) : wpF T cv (k + 2) f_lesser [.d (oD x), .d (oD y)] h Q X := by
  refine in_lesser ?_
  unfold b_lesser
  cases x with
  | none =>
    rw [show oD none = .non from rfl]
    walk_at "a"
    exact q
  | some r =>
    obtain ⟨v1, l1⟩ := hx r rfl
    cases y with
    | none =>
      rw [show oD (some r) = .tup (r.map fun (g : Nat) => D.int (g : Int)) from rfl, show oD none = .non from rfl]
      walk_at "a"
      exact q
    | some o =>
      obtain ⟨v2, l2⟩ := hy o rfl
      rw [show oD (some r) = .tup (r.map fun (g : Nat) => D.int (g : Int)) from rfl, show oD (some o) = .tup (o.map fun (g : Nat) => D.int (g : Int)) from rfl]
      walk_at "a"
      refine less_ok (a := o) (b := r) l2 l1 (v := decide (pl b o < pl b r)) (by rw [decide_eq_true_iff]; exact pl_lt v2 v1) ?_
      rw [lesO_ss] at q
      walk_at "a"
      refine ite_p (fun hc => ?_) (fun hc => ?_)
      · rw [if_pos hc] at q
        walk_at "a"
        exact q
      · rw [if_neg hc] at q
        walk_at "a"
        exact q
theorem spread1_ok {p n j : Nat} {R : List O} {r : List Nat} (hj : R[j]? = some (some r)) (hl : r.length ≤ 1000) (q : Q (.d (wD ((p + j) :: r ++ [p + n]))) h) : wpF T cv (k + 1) f_spread [.d (.int p), .d (.int n), .d (.tup [.int ((p + j : Nat) : Int)]), .bw (.lst (R.map oD))] h Q X := by
  refine in_spread ?_
  unfold b_spread
  obtain ⟨hjl, ej⟩ := List.getElem?_eq_some_iff.mp hj
  rw [show D.tup [.int ((p + j : Nat) : Int)] = .tup ([((p + j : Nat) : Int)].map .int) from rfl]
  walk_at "a"
  refine for_ix (by exact rfl) (fun i e => ∃ s5 : Option Sl, e = [some (.val (.int p)), some (.val (.int n)), some (.val (.tup ([((p + j : Nat) : Int)].map .int))), some (.bor (.lst (R.map oD))), some (.own (.lst (if i = 0 then [] else ((p + j) :: r ++ [p + n]).map fun (g : Nat) => D.int (g : Int)))), s5]) ⟨none, rfl⟩ ?_ ?_
  · rintro e ⟨s5, rfl⟩
    rw [if_neg (by simp)]
    walk_at "a"
    exact q
  rintro i hi e ⟨s5, rfl⟩ N hN
  have : i = 0 := by simp at hi; omega
  subst this
  rw [if_pos rfl]
  rw [List.getElem_map, List.getElem_singleton]
  walk_at "a"
  refine ⟨sz (by simp), ?_⟩
  walk_at "a"
  refine ite_p (fun _ => ?_) (fun hc => absurd (by omega) hc)
  walk_at "a"
  rw [show ((p + j : Nat) : Int) - (p : Int) = (j : Int) from by omega]
  refine x_bw hjl ?_
  rw [ej]
  refine ⟨_, rfl, szl (by simp; omega), ?_⟩
  walk_at "a"
  refine ⟨sz (by simp; omega), ?_⟩
  walk_at "a"
  refine hN _ ⟨some (.val (.int ((p + j : Nat) : Int))), ?_⟩
  rw [if_neg (by omega), List.map_append, List.map_cons]
  rfl
theorem letters_made_ok {p n : Nat} {Hl : List Hs} (w : Wk p n Hl) {R : List O} (hR : R.length = n) (hr : ∀ (j : Nat) (r : List Nat), R[j]? = some (some r) → r.length ≤ 1000) (q : Q (.mv (.lst ((mdR p n R).map oD))) h) : wpF T cv (k + 2) f_letters_made [.d (kD p Hl), .bw (.lst (R.map oD))] h Q X := by
  refine in_letters_made ?_
  unfold b_letters_made
  have hlen := w.len
  have p4 := w.p4
  have n3 := w.h3
  rw [show kD p Hl = .tup [.int p, .tup (Hl.map hD)] from rfl]
  walk_at "a"
  refine gW2 ?_
  simp only [setsE]
  walk_at "a"
  refine lc_rgm (n := (p : Int).toNat) (by exact trivial) (fun c => oD (some [c])) (szl (by omega)) (fun i hi Q0 q0 => ?_) ?_
  · walk_at "a"
    exact q0
  walk_at "a"
  rw [hlen]
  refine for_rg0 (n := (n : Int).toNat) (by exact trivial) (fun j e => ∃ s3 : Option Sl, e = [some (.val (.tup [.int p, .tup (Hl.map hD)])), some (.bor (.lst (R.map oD))), some (.own (.lst ((List.range p).map (fun c => oD (some [c])) ++ ((List.range j).map fun j => (R.getD j none).map fun r => (p + j) :: r ++ [p + n]).map oD))), s3, some (.val (.int p)), some (.val (.tup (Hl.map hD))), none]) ⟨none, by simp; exact ⟨rfl, rfl⟩⟩ ?_ ?_
  · rintro e ⟨s3, rfl⟩
    rw [Int.toNat_natCast]
    walk_at "a"
    have := q
    unfold mdR at this
    rw [List.map_append, List.map_map] at this
    exact this
  rintro j e hj ⟨s3, rfl⟩ N hN
  have hj : j < n := by omega
  have hjR : j < R.length := by omega
  have eR : R.getD j none = R[j] := by rw [List.getD_eq_getElem?_getD, List.getElem?_eq_getElem hjR]; rfl
  walk_at "a"
  refine x_bw hjR ?_
  cases e0 : R[j] with
  | none =>
    rw [show oD none = .non from rfl]
    walk_at "a"
    refine ⟨sz (by simp; omega), ?_⟩
    walk_at "a"
    refine hN _ ⟨some (.val (.int j)), ?_⟩
    rw [List.range_succ, List.map_append (f := fun j => (R.getD j none).map fun r => (p + j) :: r ++ [p + n]), List.map_append (f := oD), ← List.append_assoc, List.map_singleton, List.map_singleton, eR, e0]
    rfl
  | some r =>
    have hjr : R[j]? = some (some r) := by rw [List.getElem?_eq_getElem hjR, e0]
    rw [show oD (some r) = .tup (r.map fun (g : Nat) => D.int (g : Int)) from rfl]
    walk_at "a"
    rw [hlen]
    walk_at "a"
    refine spread1_ok hjr (hr j r hjr) ?_
    walk_at "a"
    refine ⟨sz (by simp; omega), ?_⟩
    walk_at "a"
    refine hN _ ⟨some (.val (.int j)), ?_⟩
    rw [List.range_succ, List.map_append (f := fun j => (R.getD j none).map fun r => (p + j) :: r ++ [p + n]), List.map_append (f := oD), ← List.append_assoc, List.map_singleton, List.map_singleton, eR, e0]
    rfl
theorem W_atH {H : Hs} {x : Nat} (hx : x < H.W.length) {c : Nat} (hc : c < (H.W[x]).length) : (H.W[x])[c] = nx H x c := nx_eq hx hc
theorem RI.start {H : Hs} {b M : Nat} {made : List O} (hn : 1 ≤ H.W.length) : RI H b M made ((List.replicate H.W.length none).set 0 (some [])) := by
  have hat : ∀ (x : Nat) (r : List Nat), ((List.replicate H.W.length (none : O)).set 0 (some []))[x]? = some (some r) → x = 0 ∧ r = [] := fun x r e => by
    by_cases h0 : x = 0
    · subst h0
      rw [List.getElem?_set_self (by simp; omega)] at e
      cases e
      exact ⟨rfl, rfl⟩
    · rw [List.getElem?_set_ne (by omega)] at e
      obtain ⟨hx, e⟩ := List.getElem?_eq_some_iff.mp e
      rw [List.getElem_replicate] at e
      cases e
  have hc : cntO ((List.replicate H.W.length (none : O)).set 0 (some [])) = 1 := by
    rw [cnt_set (y := none) (by rw [List.getElem?_eq_getElem (by simp; omega), List.getElem_replicate]), if_pos rfl]
    have : cntO (List.replicate H.W.length (none : O)) = 0 := by
      unfold cntO
      rw [List.length_eq_zero_iff, List.filter_eq_nil_iff]
      intro a ha
      rw [(List.mem_replicate.mp ha).2]
      decide
    omega
  refine ⟨by simp, by rw [List.getElem?_set_self (by simp; omega)], fun x r e => ?_, fun x r e => ?_⟩
  · obtain ⟨rfl, rfl⟩ := hat x r e
    exact ⟨[], by simp [okW], rfl, rfl⟩
  · obtain ⟨rfl, rfl⟩ := hat x r e
    exact ⟨by simp [N80.vd], by rw [hc]; simp⟩
/-- the rooms ahead are closed -/
def CldTo (H : Hs) (b : Nat) (made F : List O) (x y : Nat) : Prop := ∀ (z : Nat) (r : List Nat) (c : Nat) (m : List Nat), (z < x ∨ (z = x ∧ c < y)) → F[z]? = some (some r) → c < H.l → made[c]? = some (some m) → ∃ t, F[nx H z c]? = some (some t) ∧ pl b t ≤ pl b (r ++ m)
theorem rows_to_ok {H : Hs} (ok : H.Ok) (n4 : H.W.length ≤ 4) {b M : Nat} (hM : M ≤ 200) {made : List O} (mo : MadeOk b H.l M made) (q : ∀ F, RI H b M made F → Cld H b made F → Q (.mv (.lst (F.map oD))) h) :
    wpF T cv (k + 3) f_rows_to_rooms [.d (hD H), .d (.fz (made.map oD))] h Q X := by
  refine in_rows_to_rooms ?_
  unfold b_rows_to_rooms
  have hd : hD H = .tup [.int H.l, .tup (H.marks.map .int), .tup (H.W.map rowD)] := rfl
  have hmk := ok.mkl
  have hn1 := ok.n1
  have hl6 := ok.l6
  have hml := mo.len
  generalize hK : (b + 1) ^ (H.W.length * M) = K
  rw [hd]
  walk_at "a"
  rw [hmk]
  refine ⟨by omega, by omega, szl (by simp; omega), ?_⟩
  rw [Int.toNat_natCast, rep_one, show List.replicate H.W.length D.non = (List.replicate H.W.length (none : O)).map oD from by rw [List.map_replicate]; rfl]
  walk_at "a"
  refine set_nat (x := .tup []) (j := 0) (by simp; omega) ?_
  rw [show ((List.replicate H.W.length (none : O)).map oD).set 0 (.tup []) = ((List.replicate H.W.length (none : O)).set 0 (some [])).map oD from by rw [List.map_set]; rfl]
  walk_at "s"
  rw [← hd]
  refine w_sscons (whl_ind (fun m e => ∃ (F : List O) (tb : Bool) (s4 s5 s6 s7 : Option Sl), RI H b M made F ∧ ((tb = true ∧ m = mu b K F + 1) ∨ (tb = false ∧ Cld H b made F ∧ m = 0)) ∧ e = [some (.val (hD H)), some (.val (.fz (made.map oD))), some (.own (.lst (F.map oD))), some (.val (.bl tb)), s4, s5, s6, s7])
    (mu b K ((List.replicate H.W.length none).set 0 (some [])) + 1) ⟨_, true, none, none, none, none, RI.start hn1, .inl ⟨rfl, rfl⟩, rfl⟩ ?_)
  rintro m e ⟨F, tb, s4, s5, s6, s7, ri, hm, rfl⟩ N hN
  walk_at "a"
  rcases hm with ⟨rfl, rfl⟩ | ⟨rfl, cl, rfl⟩
  rotate_left
  · walk_at "a"
    exact q F ri cl
  walk_at "a"
  have hFl := ri.len
  rw [hFl]
  walk_at "a"
  have L : ∀ {F' : List O}, RI H b M made F' → ∀ (x : Nat) (r : List Nat), F'[x]? = some (some r) → r.length ≤ 800 := fun {F'} i x r e => by
    obtain ⟨_, l⟩ := i.vd x r e
    have h1 := cnt_le (F := F')
    rw [i.len] at h1
    have : cntO F' * M ≤ 4 * 200 := Nat.mul_le_mul (by omega) hM
    omega
  refine for_rg0 (n := (H.W.length : Int).toNat) (by exact trivial) (fun x e => ∃ (F' : List O) (tb : Bool) (s4 s5 s6 s7 : Option Sl), RI H b M made F' ∧ (tb = false → F' = F ∧ CldTo H b made F x 0) ∧ (tb = true → mu b K F' < mu b K F) ∧ e = [some (.val (hD H)), some (.val (.fz (made.map oD))), some (.own (.lst (F'.map oD))), some (.val (.bl tb)), s4, s5, s6, s7])
    ⟨F, false, s4, s5, s6, s7, ri, fun _ => ⟨rfl, fun z r c m h _ _ _ => absurd h (by omega)⟩, (fun h => by cases h), rfl⟩ ?_ ?_
  · rintro e ⟨F', tb, s4, s5, s6, s7, ri', h1, h2, rfl⟩
    walk_at "a"
    cases tb with
    | true => exact hN _ _ (by have := h2 rfl; omega) ⟨F', true, s4, s5, s6, s7, ri', .inl ⟨rfl, rfl⟩, rfl⟩
    | false =>
      obtain ⟨rfl, c⟩ := h1 rfl
      refine hN 0 _ (by omega) ⟨F', false, s4, s5, s6, s7, ri', .inr ⟨rfl, fun x r c' m e1 e2 e3 => c x r c' m (.inl ?_) e1 e2 e3, rfl⟩, rfl⟩
      have := (List.getElem?_eq_some_iff.mp e1).1
      omega
  rintro x e hx ⟨F1, tb1, s4, s5, s6, s7, ri1, h1, h2, rfl⟩ N1 hN1
  have hx : x < H.W.length := by omega
  have hro := ok.row _ (List.getElem_mem hx)
  rw [hd]
  walk_at "a"
  rw [← hd]
  refine for_rg0 (n := (H.l : Int).toNat) (by exact trivial) (fun y e => ∃ (F' : List O) (tb : Bool) (s5 s6 s7 : Option Sl), RI H b M made F' ∧ (tb = false → F' = F ∧ CldTo H b made F x y) ∧ (tb = true → mu b K F' < mu b K F) ∧ e = [some (.val (hD H)), some (.val (.fz (made.map oD))), some (.own (.lst (F'.map oD))), some (.val (.bl tb)), some (.val (.int x)), s5, s6, s7])
    ⟨F1, tb1, s5, s6, s7, ri1, h1, h2, rfl⟩ ?_ ?_
  · rintro e ⟨F', tb, s5, s6, s7, ri', h1, h2, rfl⟩
    walk_at "a"
    refine hN1 _ ⟨F', tb, _, s5, s6, s7, ri', fun hb => ?_, h2, rfl⟩
    obtain ⟨rfl, c⟩ := h1 hb
    exact ⟨rfl, fun z r c' m h e1 e2 e3 => c z r c' m (by omega) e1 e2 e3⟩
  rintro y e hy ⟨F2, tb2, s5, s6, s7, ri2, h1, h2, rfl⟩ N2 hN2
  have hy : y < H.l := by omega
  have hF2 := ri2.len
  have hxF : x < F2.length := by omega
  have hym : y < made.length := by omega
  have skip : (∀ (r m : List Nat), F2[x]? = some (some r) → made[y]? = some (some m) → ∃ t, F2[nx H x y]? = some (some t) ∧ pl b t ≤ pl b (r ++ m)) → ∀ s6 s7, N2 [some (.val (hD H)), some (.val (.fz (made.map oD))), some (.own (.lst (F2.map oD))), some (.val (.bl tb2)), some (.val (.int x)), some (.val (.int y)), s6, s7] h := fun hs s6 s7 =>
    hN2 _ ⟨F2, tb2, _, s6, s7, ri2, fun hb => by
      obtain ⟨rfl, c⟩ := h1 hb
      refine ⟨rfl, fun z r c' m h e1 e2 e3 => ?_⟩
      rcases h with h | ⟨rfl, h⟩
      · exact c z r c' m (.inl h) e1 e2 e3
      · by_cases ec : c' = y
        · subst ec; exact hs r m e1 e3
        · exact c z r c' m (.inr ⟨rfl, by omega⟩) e1 e2 e3, h2, rfl⟩
  walk_at "a"
  refine x_tw hxF ?_
  cases e1 : F2[x] with
  | none =>
    rw [show oD none = .non from rfl]
    walk_at "a"
    exact skip (fun r m e _ => by rw [List.getElem?_eq_getElem hxF, e1] at e; cases e) _ _
  | some r =>
    rw [show oD (some r) = .tup (r.map fun (g : Nat) => D.int (g : Int)) from rfl]
    have er : F2[x]? = some (some r) := by rw [List.getElem?_eq_getElem hxF, e1]
    walk_at "a"
    refine x_fz hym ?_
    cases e2 : made[y] with
    | none =>
      rw [show oD none = .non from rfl]
      walk_at "a"
      exact skip (fun r m _ e => by rw [List.getElem?_eq_getElem hym, e2] at e; cases e) _ _
    | some m =>
      rw [show oD (some m) = .tup (m.map fun (g : Nat) => D.int (g : Int)) from rfl]
      have em : made[y]? = some (some m) := by rw [List.getElem?_eq_getElem hym, e2]
      have hto := nx_lt ok hx hy
      have htF : nx H x y < F2.length := by omega
      obtain ⟨vr, _⟩ := ri2.vd x r er
      obtain ⟨vm, lm⟩ := mo.ok y m em
      have lr := L ri2 x r er
      have st := ri2.step ok mo er hy em (List.getElem?_eq_getElem htF)
      rw [hd]
      walk_at "a"
      refine x_tup (f := rowD) hx ?_
      rw [show rowD H.W[x] = .tup ((H.W[x]).map fun (g : Nat) => D.int (g : Int)) from rfl]
      walk_at "a"
      refine x_tup (by omega) ?_
      rw [W_atH hx (by omega)]
      walk_at "a"
      refine x_tw htF ?_
      walk_at "a"
      refine x_tw hxF ?_
      rw [e1, show oD (some r) = .tup (r.map fun (g : Nat) => D.int (g : Int)) from rfl]
      walk_at "a"
      refine x_fz hym ?_
      rw [e2, show oD (some m) = .tup (m.map fun (g : Nat) => D.int (g : Int)) from rfl]
      refine ⟨_, _, rfl, rfl, b_addT (szl (by simp; omega)) ?_⟩
      rw [show D.tup ((r.map fun (g : Nat) => D.int (g : Int)) ++ m.map fun (g : Nat) => D.int (g : Int)) = oD (some (r ++ m)) from by rw [← List.map_append]; rfl]
      walk_at "a"
      refine lesser_ok (b := b) (x := F2[nx H x y]) (y := some (r ++ m)) (fun r' e' => ?_) (fun r' e' => ?_) ?_
      · have e'' : F2[nx H x y]? = some (some r') := by rw [List.getElem?_eq_getElem htF, e']
        exact ⟨(ri2.vd _ _ e'').1, Nat.le_trans (L ri2 _ _ e'') (by omega)⟩
      · cases e'
        exact ⟨vr.app vm, by rw [List.length_append]; omega⟩
      walk_at "a"
      refine x_tw htF ?_
      by_cases hne : lesO b F2[nx H x y] (some (r ++ m)) = F2[nx H x y]
      · rw [hne]
        refine ne_t kf_oD (dat_oD _ _) (dat_oD _ _) ?_
        rw [← hd]
        walk_at "a"
        refine skip (fun r' m' e' e'' => ?_) _ _
        rw [er] at e'
        rw [em] at e''
        cases e'; cases e''
        obtain ⟨t, et, lt⟩ := lesO_eq hne
        exact ⟨t, by rw [List.getElem?_eq_getElem htF, et], lt⟩
      · refine ne_n kf_oD (dat_oD _ _) (dat_oD _ _) hne ?_
        obtain ⟨ri3, mu3⟩ := st hne
        have mu3 := mu3 K (by omega)
        rw [← hd]
        walk_at "a"
        refine set_nat (x := oD (lesO b F2[nx H x y] (some (r ++ m)))) htF ?_
        walk_at "a"
        refine hN2 _ ⟨_, true, _, _, _, ri3, fun hb => (by cases hb), fun _ => ?_, by rw [List.map_set]; rfl⟩
        cases tb2 with
        | true => exact Nat.lt_trans mu3 (h2 rfl)
        | false =>
          obtain ⟨rfl, _⟩ := h1 rfl
          exact mu3
end
end N80

namespace N80
open PySem PySem.Spec PyProof.Rows L2 G
/-- the least of the rows to the first rooms with a mark -/
structure BI (H : Hs) (b : Nat) (F : List O) (i : Nat) (o : O) : Prop where
  snd : ∀ t, o = some t → ∃ x, x < i ∧ F[x]? = some (some t) ∧ H.marks.getD x 0 ≠ 0
  least : ∀ (x : Nat) (r : List Nat), x < i → H.marks.getD x 0 ≠ 0 → F[x]? = some (some r) → ∃ t, o = some t ∧ pl b t ≤ pl b r
theorem BI.start {H : Hs} {b : Nat} {F : List O} : BI H b F 0 none := ⟨fun t e => (by cases e), fun x r h => absurd h (by omega)⟩
theorem BI.skip {H : Hs} {b : Nat} {F : List O} {i : Nat} {o : O} (z : BI H b F i o) (hm : H.marks.getD i 0 = 0) : BI H b F (i + 1) o := ⟨fun t e => by
    obtain ⟨x, h1, h2⟩ := z.snd t e
    exact ⟨x, by omega, h2⟩, fun x r h hx => z.least x r (by
    rcases Nat.lt_or_ge x i with h1 | h1
    · exact h1
    · have : x = i := by omega
      subst this; exact absurd hm hx) hx⟩
theorem BI.add {H : Hs} {b : Nat} {F : List O} {i : Nat} {o y : O} (z : BI H b F i o) (hm : H.marks.getD i 0 ≠ 0) (hy : F[i]? = some y) : BI H b F (i + 1) (lesO b o y) := ⟨fun t e => by
    rcases lesO_or (b := b) o y with h | h
    · rw [h] at e
      obtain ⟨x, h1, h2⟩ := z.snd t e
      exact ⟨x, by omega, h2⟩
    · rw [h] at e
      exact ⟨i, by omega, by rw [hy, e], hm⟩, fun x r h hx er => by
    rcases Nat.lt_or_ge x i with h1 | h1
    · obtain ⟨t, e, l⟩ := z.least x r h1 hx er
      obtain ⟨u, e', l'⟩ := lesO_l (b := b) (x := o) (y := y) t e
      exact ⟨u, e', Nat.le_trans l' l⟩
    · have : x = i := by omega
      subst this
      rw [hy] at er
      cases er
      exact lesO_r r rfl⟩
theorem BI.best {H : Hs} (ok : H.Ok) (n4 : H.W.length ≤ 4) {b M : Nat} (hb : 1 ≤ b) {made F : List O} (mo : MadeOk b H.l M made) (i : RI H b M made F) (cl : Cld H b made F) {o : O} (z : BI H b F H.W.length o) : Best H b M made o := by
  refine ⟨fun t e => ?_, fun u hu hc => ?_⟩
  · obtain ⟨x, h1, h2, h3⟩ := z.snd t e
    obtain ⟨u, u1, u2, u3⟩ := i.snd x t h2
    obtain ⟨v1, v2⟩ := i.vd x t h2
    refine ⟨u, u1, by unfold col; rw [u2]; exact h3, u3, v1, ?_⟩
    have h4 := cnt_le (F := F)
    rw [i.len] at h4
    have : cntO F * M ≤ 4 * M := Nat.mul_le_mul_right M (by omega)
    omega
  · obtain ⟨t, e1, l1⟩ := Cld.least hb mo i cl _ u rfl hu
    have hx : wk H 0 u < H.W.length := by
      have := (List.getElem?_eq_some_iff.mp e1).1
      rw [i.len] at this; exact this
    obtain ⟨t', e2, l2⟩ := z.least (wk H 0 u) t hx hc e1
    exact ⟨t', e2, Nat.le_trans l2 l1⟩
def Fix (p n : Nat) (Hl : List Hs) (R : List O) : Prop := ∀ (j : Nat) (H : Hs), Hl[j]? = some H → Best H (p + n + 1) (Bq (cntO R) + 2) (mdR p n R) (R.getD j none)
theorem enumD_at {α : Type} {f : α → D} {xs : List α} {i : Nat} (hi : i < (enumD (xs.map f)).length) (h : i < xs.length) : (enumD (xs.map f))[i] = .tup [.int (i : Int), f xs[i]] := by
  have : (enumD (xs.map f))[i]? = some (.tup [.int (i : Int), f xs[i]]) := by
    unfold enumD
    rw [List.getElem?_mapIdx, List.getElem?_map, List.getElem?_eq_getElem h]; rfl
  exact (List.getElem?_eq_some_iff.mp this).2
section
variable {k : Nat} {ns : List Int} {h : AH} {Q : RR → AH → Prop} {X : EX → AH → Prop}
theorem shortest_ok {p n : Nat} {Hl : List Hs} (w : Wk p n Hl) (q : ∀ R, SI p n Hl R → Fix p n Hl R → Q (.mv (.lst (R.map oD))) h) : wpF T cv (k + 4) f_shortest [.d (kD p Hl)] h Q X := by
  refine in_shortest ?_
  unfold b_shortest
  have hlen : Hl.length = n := by have := w.len; omega
  have p4 := w.p4
  have n3 := w.h3
  have hB : ∀ {R : List O}, R.length = n → Bq (cntO R) ≤ 78 := fun {R} e => by
    have h1 := cnt_le (F := R)
    exact Nat.le_trans (Bq_mono (c := 3) (by omega)) (by decide)
  rw [show kD p Hl = .tup [.int p, .tup (Hl.map hD)] from rfl]
  walk_at "a"
  rw [hlen]
  refine ⟨by omega, by omega, szl (by simp; omega), ?_⟩
  rw [Int.toNat_natCast, rep_one, show List.replicate n D.non = (List.replicate n (none : O)).map oD from by rw [List.map_replicate]; rfl]
  walk_at "s"
  generalize hK : (p + n + 2) ^ (3 * (Bq n + 2)) = K
  refine w_sscons (whl_ind (fun m e => ∃ (R : List O) (tb : Bool) (s3 s4 s5 s6 s7 s8 : Option Sl), SI p n Hl R ∧ ((tb = true ∧ m = mu (p + n + 1) K R + 1) ∨ (tb = false ∧ Fix p n Hl R ∧ m = 0)) ∧ e = [some (.val (.tup [.int p, .tup (Hl.map hD)])), some (.own (.lst (R.map oD))), some (.val (.bl tb)), s3, s4, s5, s6, s7, s8])
    (mu (p + n + 1) K (List.replicate n none) + 1) ⟨_, true, none, none, none, none, none, none, SI.start, .inl ⟨rfl, rfl⟩, rfl⟩ ?_)
  rintro m e ⟨R, tb, s3, s4, s5, s6, s7, s8, si, hm, rfl⟩ N hN
  walk_at "a"
  rcases hm with ⟨rfl, rfl⟩ | ⟨rfl, fx, rfl⟩
  rotate_left
  · walk_at "a"
    exact q R si fx
  have hRl := si.len
  have hb78 := hB hRl
  have mo := si.made
  have rl : ∀ (j : Nat) (r : List Nat), R[j]? = some (some r) → r.length ≤ 1000 := fun j r e => by
    have := (si.vd j r e).2
    omega
  walk_at "s"
  rw [show D.tup [.int p, .tup (Hl.map hD)] = kD p Hl from rfl]
  walk_at "a"
  refine letters_made_ok w hRl rl ?_
  walk_at "a"
  rw [hRl]
  walk_at "a"
  refine for_rg0 (n := (n : Int).toNat) (by exact trivial) (fun j e => ∃ (R' : List O) (tb : Bool) (s4 s5 s6 s7 s8 : Option Sl), R'.length = n ∧ (∀ (i : Nat) (H : Hs), i < j → Hl[i]? = some H → Best H (p + n + 1) (Bq (cntO R) + 2) (mdR p n R) (R'.getD i none)) ∧ (∀ i, j ≤ i → R'[i]? = R[i]?) ∧ (tb = false → R' = R) ∧ (tb = true → ∃ i, i < j ∧ R'[i]? ≠ R[i]?) ∧
    e = [some (.val (kD p Hl)), some (.own (.lst (R'.map oD))), some (.val (.bl tb)), some (.val (.fz ((mdR p n R).map oD))), s4, s5, s6, s7, s8])
    ⟨R, false, s4, s5, s6, s7, s8, hRl, fun i H h => absurd h (by omega), fun _ _ => rfl, fun _ => rfl, (fun h => by cases h), rfl⟩ ?_ ?_
  · rintro e ⟨R', tb, s4, s5, s6, s7, s8, e1, e2, e3, e4, e5, rfl⟩
    walk_at "a"
    obtain ⟨si', _, hmu⟩ := si.step w e1 fun j H hj => e2 j H (by
      have := (List.getElem?_eq_some_iff.mp hj).1
      omega) hj
    rw [hK] at hmu
    cases tb with
    | true =>
      obtain ⟨i, _, hi⟩ := e5 rfl
      exact hN _ _ (by have := hmu (fun e => hi (by rw [e])); omega) ⟨R', true, _, s4, s5, s6, s7, s8, si', .inl ⟨rfl, rfl⟩, rfl⟩
    | false =>
      have := e4 rfl
      subst this
      refine hN 0 _ (by omega) ⟨R', false, _, s4, s5, s6, s7, s8, si', .inr ⟨rfl, fun j H hj => e2 j H (by
        have := (List.getElem?_eq_some_iff.mp hj).1
        omega) hj, rfl⟩, rfl⟩
  rintro j e hj ⟨R', tb, s4, s5, s6, s7, s8, e1, e2, e3, e4, e5, rfl⟩ N1 hN1
  have hj : j < n := by omega
  have hjl : j < Hl.length := by omega
  obtain ⟨ok, el, n4⟩ := w.ok _ (List.getElem_mem hjl)
  have eHl : Hl[j].l = p + n := by omega
  have hmk := ok.mkl
  have mo' : MadeOk (p + n + 1) Hl[j].l (Bq (cntO R) + 2) (mdR p n R) := by rw [eHl]; exact mo
  rw [show kD p Hl = .tup [.int p, .tup (Hl.map hD)] from rfl]
  walk_at "s"
  refine x_tup hjl ?_
  walk_at "s"
  walk_at "a"
  refine rows_to_ok ok n4 (by omega) mo' fun F ri cl => ?_
  have hFl := ri.len
  walk_at "a"
  refine ⟨.inr (by intro _ e; cases e), _, rfl, ?_⟩
  rw [show hD Hl[j] = .tup [.int Hl[j].l, .tup (Hl[j].marks.map .int), .tup (Hl[j].W.map rowD)] from rfl]
  refine for_ixG (by exact rfl) (fun i e => ∃ (o : O) (s7 s8 : Option Sl), BI Hl[j] (p + n + 1) F i o ∧
    e = [some (.val (.tup [.int p, .tup (Hl.map hD)])), some (.own (.lst (R'.map oD))), some (.val (.bl tb)), some (.val (.fz ((mdR p n R).map oD))), some (.val (.int j)), some (.val (.tup [.int Hl[j].l, .tup (Hl[j].marks.map .int), .tup (Hl[j].W.map rowD)])), some (.val (oD o)), s7, s8]) ⟨none, s7, s8, BI.start, rfl⟩ ?_ ?_
  · rintro e ⟨o, s7, s8, bi, rfl⟩
    have : (enumD (F.map oD)).length = Hl[j].W.length := by unfold enumD; simp [hFl]
    rw [this] at bi
    have bst := BI.best ok n4 (by omega) mo' ri cl bi
    have hjR : j < R'.length := by omega
    walk_at "a"
    refine x_tw hjR ?_
    by_cases hne : o = R'[j]
    · rw [hne]
      refine ne_t kf_oD (dat_oD _ _) (dat_oD _ _) ?_
      walk_at "a"
      refine hN1 _ ⟨R', tb, _, _, _, s7, s8, e1, fun i H hi hH => ?_, fun i hi => e3 i (by omega), e4, fun h => ?_, rfl⟩
      · by_cases hij : i = j
        · subst hij
          rw [List.getElem?_eq_getElem hjl] at hH
          cases hH
          rw [List.getD_eq_getElem?_getD, List.getElem?_eq_getElem hjR]
          show Best _ _ _ _ R'[i]
          rw [← hne]; exact bst
        · exact e2 i H (by omega) hH
      · obtain ⟨i, h1, h2⟩ := e5 h
        exact ⟨i, by omega, h2⟩
    · refine ne_n kf_oD (dat_oD _ _) (dat_oD _ _) hne ?_
      walk_at "a"
      refine set_nat (x := oD o) hjR ?_
      walk_at "a"
      have ej : R'[j]? = some R'[j] := List.getElem?_eq_getElem hjR
      refine hN1 _ ⟨R'.set j o, true, _, _, _, s7, s8, by rw [List.length_set]; exact e1, fun i H hi hH => ?_, fun i hi => ?_, (fun h => by cases h), fun _ => ?_, by rw [List.map_set]; rfl⟩
      · by_cases hij : i = j
        · subst hij
          rw [List.getElem?_eq_getElem hjl] at hH
          cases hH
          rw [List.getD_eq_getElem?_getD, List.getElem?_set_self hjR]
          exact bst
        · rw [List.getD_eq_getElem?_getD, List.getElem?_set_ne (by omega), ← List.getD_eq_getElem?_getD]
          exact e2 i H (by omega) hH
      · rw [List.getElem?_set_ne (by omega)]
        exact e3 i (by omega)
      · refine ⟨j, by omega, ?_⟩
        rw [List.getElem?_set_self hjR, ← e3 j (Nat.le_refl _), ej]
        intro h
        cases h
        exact hne rfl
  rintro i hi e ⟨o, s7, s8, bi, rfl⟩ N2 hN2
  have hiF : i < F.length := by unfold enumD at hi; simpa using hi
  have him : i < Hl[j].marks.length := by omega
  rw [enumD_at hi hiF]
  refine gW2 ?_
  simp only [setsE]
  have em : Hl[j].marks.getD i 0 = Hl[j].marks[i] := by rw [List.getD_eq_getElem?_getD, List.getElem?_eq_getElem him]; rfl
  walk_at "a"
  refine x_tup him ?_
  walk_at "a"
  have lF : ∀ (x : Nat) (r : List Nat), F[x]? = some (some r) → N80.vd (p + n + 1) r ∧ r.length ≤ 1000 := fun x r e => by
    obtain ⟨v, l⟩ := ri.vd x r e
    have h1 := cnt_le (F := F)
    have : cntO F * (Bq (cntO R) + 2) ≤ 4 * (Bq (cntO R) + 2) := Nat.mul_le_mul_right _ (by omega)
    exact ⟨v, by omega⟩
  refine ite_n (fun hc => ?_) (fun hc => ?_)
  · walk_at "a"
    refine lesser_ok (b := p + n + 1) (x := o) (y := F[i]) (fun r e => ?_) (fun r e => ?_) ?_
    · obtain ⟨x, _, h2, _⟩ := bi.snd r e
      exact lF x r h2
    · exact lF i r (by rw [List.getElem?_eq_getElem hiF, e])
    walk_at "a"
    exact hN2 _ ⟨_, _, _, bi.add (by rw [em]; exact hc) (List.getElem?_eq_getElem hiF), rfl⟩
  · walk_at "a"
    exact hN2 _ ⟨o, _, _, bi.skip (by rw [em]; exact hc), rfl⟩
end
end N80

namespace N80
open PySem PySem.Spec PyProof.Rows L2 G
/-- the rooms that letters lead to -/
structure To (H : Hs) (G : List Nat) (row : List Nat) : Prop where
  nd : row.Nodup
  lt : ∀ x ∈ row, x < H.W.length
  snd : ∀ x ∈ row, ∃ u, (∀ c ∈ u, c ∈ G) ∧ wk H 0 u = x
theorem To.le {H : Hs} {G row : List Nat} (r : To H G row) : row.length ≤ H.W.length := nodup_le _ _ r.nd r.lt
theorem To.add {H : Hs} (ok : H.Ok) {G row : List Nat} (hG : ∀ c ∈ G, c < H.l) (r : To H G row) {x c : Nat} (hx : x ∈ row) (hc : c ∈ G) (hn : nx H x c ∉ row) : To H G (row ++ [nx H x c]) := by
  refine ⟨List.nodup_append.mpr ⟨r.nd, by simp, fun a ha b hb => ?_⟩, fun y hy => ?_, fun y hy => ?_⟩
  · simp at hb; subst hb; intro h; subst h; exact hn ha
  · rcases List.mem_append.mp hy with hy | hy
    · exact r.lt y hy
    · simp at hy; subst hy; exact nx_lt ok (r.lt x hx) (hG c hc)
  · rcases List.mem_append.mp hy with hy | hy
    · exact r.snd y hy
    · simp at hy; subst hy
      obtain ⟨u, u1, u2⟩ := r.snd x hx
      exact ⟨u ++ [c], fun d hd => by
        rcases List.mem_append.mp hd with hd | hd
        · exact u1 d hd
        · simp at hd; subst hd; exact hc, by rw [wk_app, u2]⟩
theorem To.all {H : Hs} {G row : List Nat} (z : 0 ∈ row) (cl : ∀ x ∈ row, ∀ c ∈ G, nx H x c ∈ row) : ∀ (u : List Nat) (x : Nat), x ∈ row → (∀ c ∈ u, c ∈ G) → wk H x u ∈ row
  | [], x, hx, _ => hx
  | c :: u, x, hx, hu => To.all z cl u (nx H x c) (cl x hx c (hu c (by simp))) fun d hd => hu d (by simp [hd])
section
variable {k : Nat} {ns : List Int} {h : AH} {Q : RR → AH → Prop} {X : EX → AH → Prop}
theorem whole_ok {i : Int} (q : Q (.d (.bl true)) h) : wpF T cv (k + 1) f_law_whole [.d (.int i)] h Q X := by
  refine in_law_whole ?_
  unfold b_law_whole
  walk_at "a"
  exact q
theorem law_nested_ok {p hh : Int} {xs : List Int} (hl : xs.length ≤ 100000) (q : ∀ h', HX h h' → Q (.d (.bl (nst p (p + hh) xs 0))) h') : wpF T cv (k + 1) f_law_nested [.d (.int p), .d (.int hh), .d (.tup (xs.map .int))] h Q X := by
  refine in_law_nested ?_
  unfold b_law_nested
  have hx : ∀ {ws : List D}, HX h (h ++ [AO.lst ws]) := fun {ws} => ⟨by simp, fun i hi => by rw [List.getElem?_append_left hi]⟩
  walk_at "a"
  refine for_ixH (fun j e h' => ∃ (ws : List D) (s4 : Option Sl), ws.length ≤ j ∧ nst p (p + hh) xs 0 = nst p (p + hh) (xs.drop j) ws.length ∧ h' = h ++ [.lst ws] ∧ e = [some (.val (.int p)), some (.val (.int hh)), some (.val (.tup (xs.map .int))), some (.val (.ref h.length)), s4]) (fun _ _ _ _ => rfl) ⟨[], none, Nat.le_refl _, rfl, rfl, rfl⟩ ?_ ?_
  · rintro e h' ⟨ws, s4, e0, e1, rfl, rfl⟩
    rw [List.length_map, List.drop_length] at e1
    walk_at "a"
    refine i_ref top_at ?_
    walk_at "a"
    have e2 : decide ((ws.length : Int) = 0) = nst p (p + hh) [] ws.length := by
      cases ws with
      | nil => rfl
      | cons d ws => exact decide_eq_false (by simp; omega)
    rw [e2, ← e1]
    exact q _ hx
  rintro j hj e h' ⟨ws, s4, e0, e1, rfl, rfl⟩ N hN
  rw [List.length_map] at hj
  rw [List.getElem_map]
  rw [List.drop_eq_getElem_cons hj, nst_cons] at e1
  generalize xs[j] = x at *
  walk_at "a"
  refine ite_p (fun hc => ?_) (fun h1 => ?_)
  · rw [if_pos (.inl hc)] at e1
    walk_at "a"
    have := q _ (hx (ws := ws))
    rw [e1] at this
    exact this
  walk_at "a"
  refine ite_p (fun hc => ?_) (fun h2 => ?_)
  · rw [if_pos (.inr hc)] at e1
    walk_at "a"
    have := q _ (hx (ws := ws))
    rw [e1] at this
    exact this
  rw [if_neg (by omega)] at e1
  walk_at "a"
  refine ite_p (fun hc => ?_) (fun h3 => ?_)
  · rw [if_pos hc] at e1
    walk_at "a"
    refine i_ref top_at ?_
    walk_at "a"
    refine ite_p (fun hd => ?_) (fun hd => ?_)
    · have : ws = [] := List.length_eq_zero_iff.mp (by omega)
      subst this
      walk_at "a"
      have := q _ (hx (ws := []))
      rw [e1] at this
      exact this
    · have hne : ws ≠ [] := by intro z; subst z; exact hd rfl
      obtain ⟨d, hd⟩ : ∃ d, ws.length = d + 1 := ⟨ws.length - 1, by omega⟩
      walk_at "a"
      refine ⟨_, _, _, hL_of top_at, by rw [← List.getLast?_eq_getElem?]; exact List.getLast?_eq_some_getLast hne, ?_⟩
      rw [top_set]
      refine hN _ _ ⟨ws.dropLast, some (.val (.int x)), by rw [List.length_dropLast]; omega, ?_, rfl, rfl⟩
      rw [hd] at e1
      rw [e1, List.length_dropLast, hd]
      rfl
  rw [if_neg h3] at e1
  walk_at "a"
  refine ite_p (fun hc => ?_) (fun h4 => ?_)
  · rw [if_pos hc] at e1
    walk_at "a"
    refine r_list top_at ?_
    walk_at "a"
    refine ⟨_, _, _, hL_of top_at, rfl, sz (by omega), ?_⟩
    rw [top_set]
    exact hN _ _ ⟨ws ++ [.int x], some (.val (.int x)), by simp; omega, by rw [e1, List.length_append]; rfl, rfl, rfl⟩
  · rw [if_neg h4] at e1
    walk_at "a"
    exact hN _ _ ⟨ws, some (.val (.int x)), by omega, e1, rfl, rfl⟩
theorem row_good_ok {xs : List Int} (q : Q (.d (.bl true)) h) : wpF T cv (k + 2) f_law_row_good [.d (.tup (xs.map .int))] h Q X := by
  refine in_law_row_good ?_
  unfold b_law_row_good
  walk_at "a"
  refine for_ix (by exact rfl) (fun j e => ∃ s1 : Option Sl, e = [some (.val (.tup (xs.map .int))), s1]) ⟨none, rfl⟩ ?_ ?_
  · rintro e ⟨s1, rfl⟩
    walk_at "a"
    exact q
  rintro j hj e ⟨s1, rfl⟩ N hN
  rw [List.length_map] at hj
  rw [List.getElem_map]
  walk_at "a"
  refine whole_ok ?_
  walk_at "a"
  exact hN _ ⟨_, rfl⟩
theorem lx_at : ∀ {a b : List Nat} {j : Nat}, a.length = b.length → a.take j = b.take j → (lx a b ↔ lx (a.drop j) (b.drop j))
  | a, b, 0, _, _ => by simp
  | [], [], j + 1, _, _ => by simp
  | [], _ :: _, _, h, _ => by simp at h
  | _ :: _, [], _, h, _ => by simp at h
  | x :: a, y :: b, j + 1, h, e => by
    rw [List.take_succ_cons, List.take_succ_cons] at e
    injection e with e1 e2
    subst e1
    rw [List.drop_succ_cons, List.drop_succ_cons, ← lx_at (by simpa using h) e2]
    simp [lx]
theorem ahead_ok {a b : List Nat} (hal : a.length ≤ 100000) (q : ∀ v : Bool, (v = true ↔ slt a b) → Q (.d (.bl v)) h) : wpF T cv (k + 1) f_law_ahead [.d (.fz (a.map fun (g : Nat) => D.int (g : Int))), .d (wD b)] h Q X := by
  refine in_law_ahead ?_
  unfold b_law_ahead wD
  walk_at "a"
  refine ite_n (fun hne => ?_) (fun heq => ?_)
  · walk_at "a"
    refine q _ ?_
    rw [decide_eq_true_iff]
    exact ⟨fun z => .inl (by omega), fun z => z.elim (fun z => by omega) (fun z => absurd z.1 (by omega))⟩
  have hl : a.length = b.length := by omega
  walk_at "a"
  refine for_rg0 (n := (a.length : Int).toNat) (by exact trivial) (fun j e => ∃ s2 : Option Sl, a.take j = b.take j ∧ e = [some (.val (.fz (a.map fun (g : Nat) => D.int (g : Int)))), some (.val (.tup (b.map fun (g : Nat) => D.int (g : Int)))), s2]) ⟨none, by simp, rfl⟩ ?_ ?_
  · rintro e ⟨s2, e1, rfl⟩
    rw [Int.toNat_natCast, List.take_length, hl, List.take_length] at e1
    walk_at "a"
    exact q _ ⟨fun z => (by cases z), fun z => by subst e1; exact absurd z (fun z => slt_irr z)⟩
  rintro j e hj ⟨s2, e1, rfl⟩ N hN
  have ha : j < a.length := by omega
  have hb : j < b.length := by omega
  have hlx := lx_at hl e1
  rw [List.drop_eq_getElem_cons ha, List.drop_eq_getElem_cons hb] at hlx
  simp only [lx] at hlx
  walk_at "a"
  refine x_fz ha ?_
  walk_at "a"
  refine x_tup hb ?_
  walk_at "a"
  refine ite_n (fun hne => ?_) (fun heq => ?_)
  · walk_at "a"
    refine x_fz ha ?_
    walk_at "a"
    refine x_tup hb ?_
    walk_at "a"
    refine q _ ?_
    rw [decide_eq_true_iff]
    exact ⟨fun z => .inr ⟨hl, hlx.mpr (.inl (by omega))⟩, fun z => z.elim (fun z => absurd z (by omega)) (fun z => (hlx.mp z.2).elim (fun z => by omega) (fun z => absurd z.1 (by omega)))⟩
  · walk_at "a"
    refine hN _ ⟨_, ?_, rfl⟩
    rw [List.take_succ_eq_append_getElem ha, List.take_succ_eq_append_getElem hb, e1]
    congr 2
    omega
theorem rooms_to_ok {H : Hs} (ok : H.Ok) {G : List Nat} (hG : ∀ c ∈ G, c < H.l) (q : ∀ row, To H G row → 0 ∈ row → (∀ x ∈ row, ∀ c ∈ G, nx H x c ∈ row) → Q (.mv (.lst (row.map fun (g : Nat) => D.int (g : Int)))) h) :
    wpF T cv (k + 1) f_law_rooms_to [.d (hD H), .bw (.lst (G.map fun (g : Nat) => D.int (g : Int)))] h Q X := by
  refine in_law_rooms_to ?_
  unfold b_law_rooms_to
  have h1 := ok.n1
  have h2 := ok.n40
  have hd : hD H = .tup [.int H.l, .tup (H.marks.map .int), .tup (H.W.map rowD)] := rfl
  walk_at "s"
  walk_at "s"
  refine w_sscons (whl_ind (fun m e => ∃ (row : List Nat) (a : Nat) (s4 : Option Sl), To H G row ∧ 0 ∈ row ∧ a ≤ row.length ∧ m = H.W.length - a ∧ (∀ (i : Nat) (x : Nat), i < a → row[i]? = some x → ∀ c ∈ G, nx H x c ∈ row) ∧
    e = [some (.val (hD H)), some (.bor (.lst (G.map fun (g : Nat) => D.int (g : Int)))), some (.own (.lst (row.map fun (g : Nat) => D.int (g : Int)))), some (.val (.int (a : Int))), s4])
    (H.W.length - 0) ⟨[0], 0, none, ⟨by simp, by simp; omega, fun x hx => by simp at hx; subst hx; exact ⟨[], by simp, rfl⟩⟩, by simp, by simp, rfl, fun i x h => absurd h (by omega), rfl⟩ ?_)
  rintro m e ⟨row, a, s4, to, hz, ha, rfl, cl, rfl⟩ N0 hN0
  have hle := to.le
  walk_at "a"
  refine ite_p (fun hc => ?_) (fun hc => ?_)
  rotate_left
  · walk_at "a"
    refine q row to hz fun x hx c hc => ?_
    obtain ⟨i, hi, e⟩ := List.mem_iff_getElem.mp hx
    exact cl i x (by omega) (by rw [List.getElem?_eq_getElem hi, e]) c hc
  have hal : a < row.length := by omega
  have hx := to.lt _ (List.getElem_mem hal)
  walk_at "a"
  refine for_ix (by exact rfl) (fun j e => ∃ (row' : List Nat) (s4 : Option Sl), To H G row' ∧ (∃ E, row' = row ++ E) ∧ (∀ c ∈ G.take j, nx H row[a] c ∈ row') ∧
    e = [some (.val (hD H)), some (.bor (.lst (G.map fun (g : Nat) => D.int (g : Int)))), some (.own (.lst (row'.map fun (g : Nat) => D.int (g : Int)))), some (.val (.int (a : Int))), s4]) ⟨row, s4, to, ⟨[], by simp⟩, by simp, rfl⟩ ?_ ?_
  · rintro e ⟨row', s4, to', ⟨E, hE⟩, e1, rfl⟩
    rw [List.length_map, List.take_length] at e1
    walk_at "a"
    refine hN0 _ _ ?_ ⟨row', a + 1, s4, to', by rw [hE]; simp [hz], by rw [hE, List.length_append]; omega, rfl, fun i x hi ex c hcg => ?_, rfl⟩
    · omega
    · rw [hE] at ex
      rw [List.getElem?_append_left (by omega)] at ex
      by_cases hia : i = a
      · subst hia
        rw [List.getElem?_eq_getElem hal] at ex
        cases ex
        exact e1 c hcg
      · rw [hE]
        exact List.mem_append_left _ (cl i x (by omega) ex c hcg)
  rintro j hj e ⟨row', s4, to', ⟨E, hE⟩, e1, rfl⟩ N hN
  rw [List.length_map] at hj
  rw [List.getElem_map]
  have hal' : a < row'.length := by rw [hE, List.length_append]; omega
  have era : row'[a] = row[a] := by subst hE; exact List.getElem_append_left hal
  have hcG := List.getElem_mem hj
  have hcl := hG _ hcG
  have hrw := (ok.row _ (List.getElem_mem hx)).1
  have hle' := to'.le
  have hxm : row[a] ∈ row' := by rw [hE]; exact List.mem_append_left _ (List.getElem_mem hal)
  rw [hd]
  walk_at "a"
  refine x_tw hal' ?_
  rw [era]
  refine x_tup (f := rowD) hx ?_
  rw [show rowD H.W[row[a]] = .tup ((H.W[row[a]]).map fun (g : Nat) => D.int (g : Int)) from rfl]
  walk_at "a"
  refine x_tup (by omega) ?_
  rw [nx_eq]
  walk_at "a"
  refine c_notInN rfl ?_
  walk_at "a"
  refine ite_n (fun hn => ?_) (fun hn => ?_)
  · walk_at "a"
    refine x_tw hal' ?_
    rw [era]
    refine x_tup (f := rowD) hx ?_
    rw [show rowD H.W[row[a]] = .tup ((H.W[row[a]]).map fun (g : Nat) => D.int (g : Int)) from rfl]
    walk_at "a"
    refine x_tup (by omega) ?_
    rw [nx_eq]
    walk_at "a"
    refine ⟨sz (by simp; omega), ?_⟩
    rw [← hd]
    refine hN _ ⟨row' ++ [nx H row[a] G[j]], _, to'.add ok hG hxm hcG hn, ⟨E ++ [nx H row[a] G[j]], by rw [hE, List.append_assoc]⟩, fun c hc => ?_, by rw [List.map_append]; rfl⟩
    rw [List.take_succ_eq_append_getElem hj] at hc
    rcases List.mem_append.mp hc with hc | hc
    · exact List.mem_append_left _ (e1 c hc)
    · simp only [List.mem_singleton] at hc
      subst hc; simp
  · rw [← hd]
    walk_at "a"
    refine hN _ ⟨row', _, to', ⟨E, hE⟩, fun c hc => ?_, rfl⟩
    rw [List.take_succ_eq_append_getElem hj] at hc
    rcases List.mem_append.mp hc with hc | hc
    · exact e1 c hc
    · simp only [List.mem_singleton] at hc
      subst hc; exact hn
/-- letters found so far -/
structure Gi (p n : Nat) (S : Nat → Prop) (G : List Nat) : Prop where
  nd : G.Nodup
  lt : ∀ c ∈ G, c < p + n
  pl : ∀ c, c < p → c ∈ G
  s : ∀ c ∈ G, S c
def GCj (p : Nat) (Hl : List Hs) (G : List Nat) (j : Nat) : Prop := ∀ (H : Hs) (u : List Nat), Hl[j]? = some H → (∀ c ∈ u, c ∈ G) → col H u 0 ≠ 0 → p + j ∈ G
theorem full {n : Nat} {l : List Nat} (nd : l.Nodup) (h : ∀ x ∈ l, x < n) (hl : n ≤ l.length) {c : Nat} (hc : c < n) : c ∈ l := Classical.byContradiction fun hn => by
  have := nodup_le n (c :: l) (List.nodup_cons.mpr ⟨hn, nd⟩) fun x hx => by
    rcases List.mem_cons.mp hx with rfl | hx
    · exact hc
    · exact h x hx
  rw [List.length_cons] at this
  omega
theorem letters_good_ok {p n : Nat} {Hl : List Hs} (w : Wk p n Hl) {S : Nat → Prop} (sp : ∀ c, c < p → S c) (sc : ∀ (j : Nat) (H : Hs) (u : List Nat), Hl[j]? = some H → (∀ c ∈ u, S c) → col H u 0 ≠ 0 → S (p + j))
    (q : ∀ G, Gi p n S G → (∀ j, GCj p Hl G j) → Q (.mv (.lst (G.map fun (g : Nat) => D.int (g : Int)))) h) : wpF T cv (k + 2) f_law_letters_good [.d (kD p Hl)] h Q X := by
  refine in_law_letters_good ?_
  unfold b_law_letters_good
  have hlen : Hl.length = n := by have := w.len; omega
  have p4 := w.p4
  have n3 := w.h3
  rw [show kD p Hl = .tup [.int p, .tup (Hl.map hD)] from rfl]
  walk_at "a"
  rw [hlen]
  refine for_rg0 (n := (n : Int).toNat) (by exact trivial) (fun t e => ∃ (G : List Nat) (s3 s4 s5 : Option Sl), Gi p n S G ∧ ((∀ j, GCj p Hl G j) ∨ p + t ≤ G.length) ∧
    e = [some (.val (.tup [.int p, .tup (Hl.map hD)])), some (.val (.int p)), some (.own (.lst (G.map fun (g : Nat) => D.int (g : Int)))), s3, s4, s5])
    ⟨List.range p, none, none, none, ⟨List.nodup_range, fun c hc => by have := List.mem_range.mp hc; omega, fun c hc => List.mem_range.mpr hc, fun c hc => sp c (List.mem_range.mp hc)⟩, .inr (by simp), by rw [rgD0, Int.toNat_natCast]; rfl⟩ ?_ ?_
  · rintro e ⟨G, s3, s4, s5, g, hc, rfl⟩
    walk_at "a"
    refine q G g ?_
    rcases hc with hc | hc
    · exact hc
    · intro j H u hj _ _
      have := (List.getElem?_eq_some_iff.mp hj).1
      exact full g.nd g.lt (by omega) (by omega)
  rintro t e ht ⟨G, s3, s4, s5, g, hc, rfl⟩ N hN
  walk_at "a"
  rw [hlen]
  refine for_rg0 (n := (n : Int).toNat) (by exact trivial) (fun j e => ∃ (G1 : List Nat) (s4 s5 : Option Sl), Gi p n S G1 ∧ ((∀ j, GCj p Hl G j) → G1 = G) ∧ (G1 = G → ∀ i, i < j → GCj p Hl G i) ∧ (G1 ≠ G → G.length < G1.length) ∧
    e = [some (.val (.tup [.int p, .tup (Hl.map hD)])), some (.val (.int p)), some (.own (.lst (G1.map fun (g : Nat) => D.int (g : Int)))), some (.val (.int t)), s4, s5])
    ⟨G, s4, s5, g, fun _ => rfl, fun _ i h => absurd h (by omega), fun h => absurd rfl h, rfl⟩ ?_ ?_
  · rintro e ⟨G1, s4, s5, g1, c1, c2, c3, rfl⟩
    walk_at "a"
    refine hN _ ⟨G1, _, s4, s5, g1, ?_, rfl⟩
    by_cases hG : G1 = G
    · subst hG
      refine .inl fun j H u hj hu hcol => c2 rfl j ?_ H u hj hu hcol
      have := (List.getElem?_eq_some_iff.mp hj).1
      omega
    · have := c3 hG
      rcases hc with hc | hc
      · exact absurd (c1 hc) hG
      · exact .inr (by omega)
  rintro j e hj ⟨G1, s4, s5, g1, c1, c2, c3, rfl⟩ N1 hN1
  have hj : j < n := by omega
  have hjl : j < Hl.length := by omega
  obtain ⟨ok, el, n4⟩ := w.ok _ (List.getElem_mem hjl)
  have eHl : Hl[j].l = p + n := by omega
  have hmk := ok.mkl
  have eH : Hl[j]? = some Hl[j] := List.getElem?_eq_getElem hjl
  have hG1l := nodup_le _ _ g1.nd g1.lt
  walk_at "a"
  refine x_tup hjl ?_
  walk_at "a"
  refine rooms_to_ok ok (fun c hc => by rw [eHl]; exact g1.lt c hc) fun row to hz cl => ?_
  walk_at "a"
  refine for_ix (by exact rfl) (fun i e => ∃ (G2 : List Nat) (s5 : Option Sl), ((G2 = G1 ∧ ∀ x ∈ row.take i, Hl[j].marks.getD x 0 ≠ 0 → p + j ∈ G1) ∨ (G2 = G1 ++ [p + j] ∧ p + j ∉ G1 ∧ ∃ u, (∀ c ∈ u, c ∈ G1) ∧ col Hl[j] u 0 ≠ 0)) ∧
    e = [some (.val (.tup [.int p, .tup (Hl.map hD)])), some (.val (.int p)), some (.own (.lst (G2.map fun (g : Nat) => D.int (g : Int)))), some (.val (.int t)), some (.val (.int j)), s5]) ⟨G1, s5, .inl ⟨rfl, by simp⟩, rfl⟩ ?_ ?_
  · rintro e ⟨G2, s5, hG2, rfl⟩
    rw [List.length_map, List.take_length] at hG2
    walk_at "a"
    rcases hG2 with ⟨rfl, hr⟩ | ⟨rfl, hn, u, u1, u2⟩
    · refine hN1 _ ⟨G2, _, s5, g1, c1, fun he i hi => ?_, c3, rfl⟩
      by_cases hij : i = j
      · subst hij
        intro H u hH hu hcol
        rw [eH] at hH
        cases hH
        have hw := To.all hz cl u 0 hz (fun c hc => by rw [he]; exact hu c hc)
        have := hr _ hw hcol
        rw [he] at this
        exact this
      · exact c2 he i (by omega)
    · have g2 : Gi p n S (G1 ++ [p + j]) := by
        refine ⟨List.nodup_append.mpr ⟨g1.nd, by simp, fun a ha b hb => ?_⟩, fun c hc => ?_, fun c hc => List.mem_append_left _ (g1.pl c hc), fun c hc => ?_⟩
        · simp at hb; subst hb; intro h; subst h; exact hn ha
        · rcases List.mem_append.mp hc with hc | hc
          · exact g1.lt c hc
          · simp at hc; omega
        · rcases List.mem_append.mp hc with hc | hc
          · exact g1.s c hc
          · simp only [List.mem_singleton] at hc
            subst hc
            exact sc j _ u eH (fun c hc => g1.s c (u1 c hc)) u2
      have hlt : G.length < (G1 ++ [p + j]).length := by
        rw [List.length_append, List.length_singleton]
        by_cases hG : G1 = G
        · rw [hG]; omega
        · have := c3 hG; omega
      refine hN1 _ ⟨_, _, s5, g2, fun hcl => ?_, fun he => ?_, fun _ => hlt, rfl⟩
      · have e := c1 hcl
        subst e
        exact absurd (hcl j _ u eH u1 u2) hn
      · rw [he] at hlt; omega
  rintro i hi e ⟨G2, s5, hG2, rfl⟩ N2 hN2
  rw [List.length_map] at hi
  rw [List.getElem_map]
  have hxr := List.getElem_mem hi
  have hx := to.lt _ hxr
  have him : row[i] < Hl[j].marks.length := by omega
  have em : Hl[j].marks.getD row[i] 0 = Hl[j].marks[row[i]] := by rw [List.getD_eq_getElem?_getD, List.getElem?_eq_getElem him]; rfl
  have tk : ∀ x ∈ row.take (i + 1), x ∈ row.take i ∨ x = row[i] := fun x hx => by
    rw [List.take_succ_eq_append_getElem hi] at hx
    rcases List.mem_append.mp hx with hx | hx
    · exact .inl hx
    · exact .inr (by simpa using hx)
  walk_at "a"
  refine x_tup hjl ?_
  rw [show hD Hl[j] = .tup [.int Hl[j].l, .tup (Hl[j].marks.map .int), .tup (Hl[j].W.map rowD)] from rfl]
  walk_at "a"
  refine x_tup him ?_
  walk_at "a"
  refine ite_n (fun hne => ?_) (fun heq => ?_)
  · walk_at "a"
    rw [show (p : Int) + (j : Int) = ((p + j : Nat) : Int) from by omega]
    refine c_notInN (ws := G2) rfl ?_
    walk_at "a"
    refine ite_n (fun hn => ?_) (fun hn => ?_)
    · walk_at "a"
      rcases hG2 with ⟨rfl, hr⟩ | ⟨rfl, _⟩
      · rw [show (p : Int) + (j : Int) = ((p + j : Nat) : Int) from by omega]
        refine ⟨sz (by simp; omega), ?_⟩
        obtain ⟨u, u1, u2⟩ := to.snd _ hxr
        exact hN2 _ ⟨_, _, .inr ⟨rfl, hn, u, u1, by unfold col; rw [u2, em]; exact hne⟩, by rw [List.map_append]; rfl⟩
      · exact absurd (by simp) hn
    · walk_at "a"
      refine hN2 _ ⟨G2, _, ?_, rfl⟩
      rcases hG2 with ⟨rfl, hr⟩ | h
      · refine .inl ⟨rfl, fun x hx hm => ?_⟩
        rcases tk x hx with hx | hx
        · exact hr x hx hm
        · exact hn
      · exact .inr h
  · walk_at "a"
    refine hN2 _ ⟨G2, _, ?_, rfl⟩
    rcases hG2 with ⟨rfl, hr⟩ | h
    · refine .inl ⟨rfl, fun x hx hm => ?_⟩
      rcases tk x hx with hx | hx
      · exact hr x hx hm
      · subst hx
        exact absurd heq (by rw [em] at hm; exact hm)
    · exact .inr h
end
end N80

namespace N80
open PySem PySem.Spec PyProof.Rows L2 G
theorem iN_D (u : List Nat) : (iN u).map D.int = u.map fun (g : Nat) => D.int (g : Int) := by unfold iN; rw [List.map_map]; rfl
theorem nst_rng {p s : Int} : ∀ {xs : List Int} {d : Nat}, nst p s xs d = true → ∀ x ∈ xs, 0 ≤ x ∧ x ≤ s
  | [], _, _, x, hx => by cases hx
  | y :: xs, d, h, x, hx => by
    rw [nst_cons] at h
    split at h
    · cases h
    rename_i h0
    rcases List.mem_cons.mp hx with rfl | hx
    · omega
    split at h
    · cases d with
      | zero => cases h
      | succ d => exact nst_rng h x hx
    · split at h
      · exact nst_rng h x hx
      · exact nst_rng h x hx
theorem nst_vd {p n : Nat} {u : List Nat} {d : Nat} (h : nst p ((p : Int) + n) (iN u) d = true) : vd (p + n + 1) u := fun c hc => by
  have := nst_rng h (c : Int) (List.mem_map.mpr ⟨c, hc, rfl⟩)
  omega
/-- what the law knows of the rows told -/
structure Sh (p n : Nat) (Hl : List Hs) (R : List O) : Prop where
  w : Wk p n Hl
  si : SI p n Hl R
  fx : Fix p n Hl R
def Ltr (p n : Nat) (R : List O) (c : Nat) : Prop := c < p + n ∧ ∃ m, (mdR p n R)[c]? = some (some m)
section
variable {p n : Nat} {Hl : List Hs} {R : List O}
theorem Sh.hlen (s : Sh p n Hl R) : Hl.length = n := by have := s.w.len; omega
theorem Sh.hl (s : Sh p n Hl R) {j : Nat} {H : Hs} (e : Hl[j]? = some H) : H.l = p + n := by
  have := (s.w.ok H (List.mem_of_getElem? e)).2.1
  omega
theorem Sh.rl (s : Sh p n Hl R) {j : Nat} {r : List Nat} (e : R[j]? = some (some r)) : r.length ≤ 78 := by
  have h1 := (s.si.vd j r e).2
  have h2 := cnt_le (F := R)
  have h3 := s.w.h3
  have h4 := s.si.len
  exact Nat.le_trans h1 (Nat.le_trans (Bq_mono (c := 3) (by omega)) (by decide))
theorem Sh.sp (s : Sh p n Hl R) {c : Nat} (h : c < p) : Ltr p n R c := ⟨by omega, _, mdR_pl h⟩
theorem Sh.sc (s : Sh p n Hl R) (j : Nat) (H : Hs) (u : List Nat) (e : Hl[j]? = some H) (hu : ∀ c ∈ u, Ltr p n R c) (hc : col H u 0 ≠ 0) : Ltr p n R (p + j) := by
  obtain ⟨t, et, _⟩ := (s.fx j H e).least u (by rw [s.hl e]; exact hu) hc
  have hj : j < n := by
    have := (List.getElem?_eq_some_iff.mp e).1
    have := s.hlen
    omega
  exact ⟨by omega, _, by rw [mdR_cl hj, et]; rfl⟩
theorem Sh.ltr (s : Sh p n Hl R) {j : Nat} (h : Ltr p n R (p + j)) : ∃ r, R[j]? = some (some r) := by
  obtain ⟨h1, m, e⟩ := h
  rw [mdR_cl (by omega)] at e
  cases e2 : R.getD j none with
  | none => rw [e2] at e; cases e
  | some r => exact ⟨r, O_getD e2⟩
theorem Sh.good (s : Sh p n Hl R) {G : List Nat} (g : Gi p n (Ltr p n R) G) (cl : ∀ j, GCj p Hl G j) {j : Nat} {r : List Nat} (e : R[j]? = some (some r)) : p + j ∈ G := by
  obtain ⟨h1, h2⟩ := s.si.snd j r e
  unfold acc at h2
  obtain ⟨u, hu, H, hH, hc⟩ := fin_good (G := fun c => c ∈ G) (fun c hc => g.pl c hc) (fun j H u hH hu hc => cl j H u hH hu hc) _ rfl h1 j [] (by simp) (List.all_eq_true.mp h2)
  exact cl j H u hH hu hc
theorem Sh.least (s : Sh p n Hl R) {u : List Nat} (hn : nst p ((p : Int) + n) (iN u) 0 = true) {j : Nat} (ha : acc p n j Hl (iN u) = true) : ∃ t, R[j]? = some (some t) ∧ ¬ slt u t := by
  have vu := nst_vd hn
  unfold acc at ha
  obtain ⟨v, ov, ⟨H, hH, hc⟩, l⟩ := fin_least s.w s.si.made s.fx _ rfl vu hn j [] (by simp [okW]) (List.all_eq_true.mp ha)
  obtain ⟨t, et, lt⟩ := (s.fx j H hH).least v (by rw [s.hl hH]; exact ov) hc
  have et' := O_getD et
  refine ⟨t, et', fun hs => ?_⟩
  have h1 := pl_slt (l := p + n + 1) hs vu
  rw [show flat (mdR p n R) [] = [] from rfl, List.nil_append] at l
  omega
variable {k : Nat} {ns : List Int} {h : AH} {Q : RR → AH → Prop} {X : EX → AH → Prop}
theorem told_good_ok (s : Sh p n Hl R) (q : ∀ h', HX h h' → Q (.d (.bl true)) h') : wpF T cv (k + 3) f_law_told_good [.d (kD p Hl), .d (.fz (R.map oD))] h Q X := by
  refine in_law_told_good ?_
  unfold b_law_told_good
  have hlen := s.hlen
  have hRl := s.si.len
  have p4 := s.w.p4
  have n3 := s.w.h3
  have n1 := s.w.h1
  rw [show kD p Hl = .tup [.int p, .tup (Hl.map hD)] from rfl]
  walk_at "a"
  rw [hlen, hRl]
  refine ite_n (fun hc => absurd rfl hc) (fun _ => ?_)
  walk_at "a"
  rw [show D.tup [.int p, .tup (Hl.map hD)] = kD p Hl from rfl]
  refine letters_good_ok s.w (fun c hc => s.sp hc) s.sc fun G g cl => ?_
  walk_at "a"
  refine for_rgH (fun _ => by exact trivial) (n := (n : Int).toNat) (fun j e h' => HX h h' ∧ ∃ s5 : Option Sl, e = [some (.val (kD p Hl)), some (.val (.fz (R.map oD))), some (.val (.int p)), some (.val (.int n)), some (.val (.fz (G.map fun (g : Nat) => D.int (g : Int)))), s5]) ⟨.rfl, none, rfl⟩ ?_ ?_
  · rintro e h' ⟨hx, s5, rfl⟩
    walk_at "a"
    exact q h' hx
  rintro j e h' hj ⟨hx, s5, rfl⟩ N hN
  have hjR : j < R.length := by omega
  walk_at "a"
  refine x_fz hjR ?_
  cases e1 : R[j] with
  | none =>
    rw [show oD none = .non from rfl]
    walk_at "a"
    rw [show (p : Int) + (j : Int) = ((p + j : Nat) : Int) from by omega]
    refine c_isInN (ws := G) rfl ?_
    rw [decide_eq_false (fun hm => by
      obtain ⟨r, er⟩ := s.ltr (g.s _ hm)
      rw [List.getElem?_eq_getElem hjR, e1] at er
      cases er)]
    refine c_neS (a := .bl false) rfl rfl fla_boolD ?_
    walk_at "a"
    refine x_fz hjR ?_
    rw [e1, show oD none = .non from rfl]
    walk_at "a"
    exact hN _ _ ⟨hx, _, rfl⟩
  | some r =>
    have er : R[j]? = some (some r) := by rw [List.getElem?_eq_getElem hjR, e1]
    have erD : oD (some r) = .tup ((iN r).map .int) := by rw [iN_D]; rfl
    have hrl := s.rl er
    have hil : (iN r).length ≤ 100000 := by unfold iN; rw [List.length_map]; omega
    obtain ⟨a1, a2⟩ := s.si.snd j r er
    rw [erD]
    walk_at "a"
    rw [show (p : Int) + (j : Int) = ((p + j : Nat) : Int) from by omega]
    refine c_isInN (ws := G) rfl ?_
    rw [decide_eq_true (s.good g cl er)]
    refine c_neS (a := .bl true) rfl rfl fla_boolD ?_
    walk_at "a"
    refine x_fz hjR ?_
    rw [e1, erD]
    walk_at "a"
    refine x_fz hjR ?_
    rw [e1, erD]
    walk_at "a"
    refine row_good_ok ?_
    walk_at "a"
    refine x_fz hjR ?_
    rw [e1, erD]
    walk_at "a"
    refine law_nested_ok hil fun h1 x1 => ?_
    rw [a1]
    walk_at "a"
    refine x_fz hjR ?_
    rw [e1, erD]
    walk_at "a"
    refine accepted_ok s.w (by omega) (by omega) (xs := iN r) (fun _ _ => rfl) hil a1 fun h2 x2 => ?_
    rw [a2]
    walk_at "a"
    exact hN _ _ ⟨hx.trans (x1.trans x2), _, rfl⟩
theorem none_ahead_ok (s : Sh p n Hl R) {u : List Nat} (hu : nst p ((p : Int) + n) (iN u) 0 = true) (hl : u.length ≤ 100000) (q : ∀ h', HX h h' → Q (.d (.bl true)) h') :
    wpF T cv (k + 3) f_law_none_ahead [.d (kD p Hl), .d (.fz (R.map oD)), .d (.fz (u.map fun (g : Nat) => D.int (g : Int)))] h Q X := by
  refine in_law_none_ahead ?_
  unfold b_law_none_ahead
  have hRl := s.si.len
  have n3 := s.w.h3
  have hil : (iN u).length ≤ 100000 := by unfold iN; rw [List.length_map]; omega
  walk_at "a"
  rw [hRl]
  walk_at "a"
  refine for_rgH (fun _ => by exact trivial) (n := (n : Int).toNat) (fun j e h' => HX h h' ∧ ∃ s3 : Option Sl, e = [some (.val (kD p Hl)), some (.val (.fz (R.map oD))), some (.val (.fz (u.map fun (g : Nat) => D.int (g : Int)))), s3]) ⟨.rfl, none, rfl⟩ ?_ ?_
  · rintro e h' ⟨hx, s3, rfl⟩
    walk_at "a"
    exact q h' hx
  rintro j e h' hj ⟨hx, s3, rfl⟩ N hN
  have hjR : j < R.length := by omega
  walk_at "a"
  refine accepted_ok s.w (by omega) (by omega) (xs := iN u) (fun _ _ => by rw [iN_D]; rfl) hil hu fun h2 x2 => ?_
  cases ha : acc p n j Hl (iN u) with
  | false =>
    walk_at "a"
    exact hN _ _ ⟨hx.trans x2, _, rfl⟩
  | true =>
    obtain ⟨t, et, hns⟩ := s.least hu ha
    have e1 : R[j] = some t := by
      rw [List.getElem?_eq_getElem hjR] at et
      exact Option.some.inj et
    have etD : oD (some t) = wD t := rfl
    walk_at "a"
    refine x_fz hjR ?_
    rw [e1, etD, show wD t = .tup (t.map fun (g : Nat) => D.int (g : Int)) from rfl]
    walk_at "a"
    refine x_fz hjR ?_
    rw [e1, etD]
    walk_at "a"
    refine ahead_ok hl fun v hv => ?_
    have : v = false := Bool.eq_false_iff.mpr fun z => hns (hv.mp z)
    subst this
    walk_at "a"
    exact hN _ _ ⟨hx.trans x2, _, rfl⟩
theorem nst_snoc {p s : Int} {a b : List Int} (h1 : nst p s a 0 = true) (h2 : nst p s b 0 = true) : nst p s (a ++ b) 0 = true := by
  have := nst_app (ys := b) (d := 0) h1
  rw [this, h2]
theorem nst_call {p s x : Int} {r : List Int} (h0 : 0 ≤ x) (h1 : p ≤ x) (h2 : x < s) (hr : nst p s r 0 = true) : nst p s (x :: r ++ [s]) 0 = true := by
  rw [List.cons_append, nst_cons, if_neg (by omega), if_neg (by omega), if_pos h1]
  have := nst_app (ys := [s]) (d := 1) hr
  rw [Nat.zero_add] at this
  rw [Nat.zero_add, this, nst_cons, if_neg (by omega), if_pos rfl]
  rfl
theorem iN_app (a b : List Nat) : iN (a ++ b) = iN a ++ iN b := by unfold iN; rw [List.map_append]
abbrev uD (u : List Nat) : D := .fz (u.map fun (g : Nat) => D.int (g : Int))
theorem rows_by_ok (s : Sh p n Hl R) (hns : ns.length ≤ 1000) (q : ∀ Rs : List (List Nat), (∀ u ∈ Rs, nst p ((p : Int) + n) (iN u) 0 = true ∧ u.length ≤ 100000) → Q (.mv (.lst (Rs.map uD))) h) :
    wpF T cv (k + 1) f_law_rows_by [.d (kD p Hl), .d (.fz (R.map oD)), .d (.fz (ns.map .int))] h Q X := by
  refine in_law_rows_by ?_
  unfold b_law_rows_by
  have hlen := s.hlen
  have hRl := s.si.len
  have p1 := s.w.p1
  have p4 := s.w.p4
  have n3 := s.w.h3
  have n1 := s.w.h1
  rw [show kD p Hl = .tup [.int p, .tup (Hl.map hD)] from rfl]
  walk_at "a"
  rw [hlen]
  walk_at "a"
  refine for_rg0 (by exact trivial) (n := (n : Int).toNat) (fun j e => ∃ (Sg : List Nat) (s6 : Option Sl), (∀ c ∈ Sg, Ltr p n R c) ∧ 1 ≤ Sg.length ∧ Sg.length ≤ p + j ∧ e = [some (.val (.tup [.int p, .tup (Hl.map hD)])), some (.val (.fz (R.map oD))), some (.val (.fz (ns.map .int))), some (.val (.int p)), some (.val (.int n)), some (.own (.lst (Sg.map fun (g : Nat) => D.int (g : Int)))), s6, none, none, none, none])
    ⟨List.range p, none, fun c hc => s.sp (List.mem_range.mp hc), by rw [List.length_range]; omega, by rw [List.length_range]; omega, by rw [rgD0, Int.toNat_natCast]; rfl⟩ ?_ ?_
  rotate_left
  · rintro j e hj ⟨Sg, s6, e1, e2, e3, rfl⟩ N hN
    have hjR : j < R.length := by omega
    walk_at "a"
    refine x_fz hjR ?_
    cases e0 : R[j] with
    | none =>
      rw [show oD none = .non from rfl]
      walk_at "a"
      exact hN _ ⟨Sg, _, e1, e2, by omega, rfl⟩
    | some r =>
      rw [show oD (some r) = .tup (r.map fun (g : Nat) => D.int (g : Int)) from rfl]
      walk_at "a"
      refine ⟨sz (by simp; omega), ?_⟩
      rw [show (p : Int) + (j : Int) = ((p + j : Nat) : Int) from by omega]
      refine hN _ ⟨Sg ++ [p + j], _, fun c hc => ?_, by simp, by simp; omega, by rw [List.map_append]; rfl⟩
      rcases List.mem_append.mp hc with hc | hc
      · exact e1 c hc
      · simp only [List.mem_singleton] at hc
        subst hc
        exact ⟨by omega, _, by rw [mdR_cl (by omega), List.getD_eq_getElem?_getD, List.getElem?_eq_getElem hjR, e0]; rfl⟩
  rintro e ⟨Sg, s6, e1, e2, e3, rfl⟩
  walk_at "a"
  refine for_ix (by exact rfl) (fun i e => ∃ (Rs : List (List Nat)) (s8 s9 s10 : Option Sl), Rs.length = i + 1 ∧ (∀ u ∈ Rs, nst p ((p : Int) + n) (iN u) 0 = true ∧ u.length ≤ i * 80) ∧ e = [some (.val (.tup [.int p, .tup (Hl.map hD)])), some (.val (.fz (R.map oD))), some (.val (.fz (ns.map .int))), some (.val (.int p)), some (.val (.int n)), some (.own (.lst (Sg.map fun (g : Nat) => D.int (g : Int)))), s6, some (.own (.lst (Rs.map uD))), s8, s9, s10])
    ⟨[[]], none, none, none, rfl, fun u hu => by simp at hu; subst hu; exact ⟨rfl, by simp⟩, rfl⟩ ?_ ?_
  · rintro e ⟨Rs, s8, s9, s10, f1, f2, rfl⟩
    rw [List.length_map] at f2
    walk_at "a"
    refine q Rs fun u hu => ⟨(f2 u hu).1, ?_⟩
    have := (f2 u hu).2
    omega
  rintro i hi e ⟨Rs, s8, s9, s10, f1, f2, rfl⟩ N hN
  rw [List.length_map] at hi
  rw [List.getElem_map]
  generalize ns[i] = c
  have c0 := Int.emod_nonneg c (b := (Sg.length : Int)) (by omega)
  have c1 := Int.emod_lt_of_pos c (b := (Sg.length : Int)) (by omega)
  obtain ⟨m, hm⟩ := Int.eq_ofNat_of_zero_le c0
  have hml : m < Sg.length := by omega
  have hL := e1 _ (List.getElem_mem hml)
  have hne : Rs ≠ [] := by intro z; subst z; simp at f1
  have hlast := f2 _ (List.getLast_mem hne)
  have hgl : (Rs.map uD).getLast? = some (uD (Rs.getLast hne)) := by rw [List.getLast?_map, List.getLast?_eq_some_getLast hne]; rfl
  generalize Rs.getLast hne = u at hlast hgl
  walk_at "a"
  rw [hm]
  refine x_tw hml ?_
  generalize Sg[m] = g at hL
  walk_at "a"
  refine x_at (v := uD u) rfl (atI_last hgl) ?_
  walk_at "a"
  refine cat_ff (szl (by simp; omega)) ?_
  walk_at "a"
  have f3 : ∀ v, nst p ((p : Int) + n) (iN v) 0 = true → v.length ≤ 80 → ∀ u' ∈ Rs ++ [u ++ v], nst p ((p : Int) + n) (iN u') 0 = true ∧ u'.length ≤ (i + 1) * 80 := fun v hv hvl u' hu' => by
    rcases List.mem_append.mp hu' with h1 | h1
    · obtain ⟨a1, a2⟩ := f2 u' h1
      exact ⟨a1, by omega⟩
    · simp only [List.mem_singleton] at h1
      subst h1
      exact ⟨by rw [iN_app]; exact nst_snoc hlast.1 hv, by rw [List.length_append]; have := hlast.2; omega⟩
  have hul := hlast.2
  refine ite_p (fun hg => ?_) (fun hg => ?_)
  · obtain ⟨j, rfl⟩ : ∃ j, g = p + j := ⟨g - p, by omega⟩
    obtain ⟨r, er⟩ := s.ltr hL
    obtain ⟨hjR, e0⟩ := List.getElem?_eq_some_iff.mp er
    have hrl := s.rl er
    have hL1 := hL.1
    walk_at "a"
    rw [show ((p + j : Nat) : Int) - (p : Int) = (j : Int) from by omega]
    refine x_fz hjR ?_
    rw [e0, show oD (some r) = .tup (r.map fun (g : Nat) => D.int (g : Int)) from rfl]
    walk_at "a"
    refine cat_ff (szl (by simp; omega)) ?_
    walk_at "a"
    refine cat_ff (szl (by simp; omega)) ?_
    walk_at "a"
    refine ⟨sz (by simp; omega), ?_⟩
    walk_at "a"
    have eL : (Rs ++ [u ++ ((p + j) :: r ++ [p + n])]).map uD = Rs.map uD ++ [.fz (((u.map (fun (g : Nat) => D.int (g : Int)) ++ [.int ((p + j : Nat) : Int)]) ++ r.map (fun (g : Nat) => D.int (g : Int))) ++ [.int ((p : Int) + (n : Int))])] := by
      rw [List.map_append]; simp [uD]
    refine hN _ ⟨Rs ++ [u ++ ((p + j) :: r ++ [p + n])], _, _, _, by simp [f1], f3 _ ?_ (by simp; omega), by rw [eL]; rfl⟩
    · rw [show iN ((p + j) :: r ++ [p + n]) = ((p + j : Nat) : Int) :: iN r ++ [(p : Int) + n] from by unfold iN; simp]
      exact nst_call (by omega) (by omega) (by omega) (s.si.snd j r er).1
  · walk_at "a"
    refine ⟨sz (by simp; omega), ?_⟩
    walk_at "a"
    have eL : (Rs ++ [u ++ [g]]).map uD = Rs.map uD ++ [.fz (u.map (fun (g : Nat) => D.int (g : Int)) ++ [.int (g : Int)])] := by
      rw [List.map_append]; simp [uD]
    refine hN _ ⟨Rs ++ [u ++ [g]], _, _, _, by simp [f1], f3 _ ?_ (by simp), by rw [eL]; rfl⟩
    · show nst p ((p : Int) + n) [(g : Int)] 0 = true
      rw [nst_cons, if_neg (by omega), if_neg (by omega), if_neg (by omega)]
      rfl
end
end N80

namespace N80
open PySem PySem.Spec PyProof.Rows L2 G
theorem cutS (ns : List Int) (lo hi : Option Int) : ∃ z : List Int, cutD (ns.map D.int) lo hi = z.map .int ∧ z.length ≤ ns.length := by
  refine ⟨(ns.drop (HT.sIx ns.length 0 lo)).take (HT.sIx ns.length ns.length hi - HT.sIx ns.length 0 lo), ?_, ?_⟩
  · unfold G.cutD
    rw [List.map_take, List.map_drop, List.length_map]
  · rw [List.length_take, List.length_drop]; omega
theorem law_ok (ns : List Int) (hl : ns.length ≤ 63) : wpF T cv 21 f_law [.d (.fz (ns.map .int))] [] (fun r _ => r = .d (.bl true)) fun _ _ => False := by
  refine in_law ?_
  unfold b_law
  walk_at "s"
  refine cell_at_ok (j := 0) ?_
  generalize ns.getD 0 0 = c0
  walk_at "s"
  refine cell_at_ok (j := 0) ?_
  generalize ns.getD 0 0 = c1
  have hp0 := Int.emod_nonneg c0 (b := 4) (by omega)
  have hp1 := Int.emod_lt_of_pos c0 (b := 4) (by omega)
  generalize hp : 1 + c0 % 4 = p
  walk_at "s"
  refine cell_at_ok (j := 1) ?_
  generalize ns.getD 1 0 = c2
  have hm : 0 < (if 6 - p < 3 then 6 - p else 3) := by split <;> omega
  have hm2 : (if 6 - p < 3 then 6 - p else 3) ≤ 6 - p := by split <;> omega
  have hm3 : (if 6 - p < 3 then 6 - p else 3) ≤ 3 := by split <;> omega
  have hh0 := Int.emod_nonneg (c1 / 4) (b := if 6 - p < 3 then 6 - p else 3) (by omega)
  have hh1 := Int.emod_lt_of_pos (c1 / 4) (b := if 6 - p < 3 then 6 - p else 3) (by omega)
  generalize hH : 1 + c1 / 4 % (if 6 - p < 3 then 6 - p else 3) = hh
  have hh6 : p + hh ≤ 6 := by omega
  have hh3 : hh ≤ 3 := by omega
  have hh1 : 1 ≤ hh := by omega
  have hp1 : 1 ≤ p := by omega
  have hp4 : p ≤ 4 := by omega
  clear hm hm2 hm3 hh0 hH hp hp0
  obtain ⟨p, rfl⟩ := Int.eq_ofNat_of_zero_le (a := p) (by omega)
  obtain ⟨n, rfl⟩ := Int.eq_ofNat_of_zero_le (a := hh) (by omega)
  walk_at "s"
  generalize 2 + c2 % (if 1 < (ns.length : Int) - 1 then (ns.length : Int) - 1 else 1) = cut
  obtain ⟨z, ez, hz⟩ := cutS ns (some 2) (some cut)
  refine ⟨_, rfl, ?_⟩
  rw [ez]
  walk_at "a"
  refine works_by_ok hp1 hp4 hh1 hh3 hh6 fun Hl o => ?_
  walk_at "s"
  refine shortest_ok o fun R si fx => ?_
  have s : Sh p n Hl R := ⟨o, si, fx⟩
  walk_at "s"
  refine told_good_ok s fun h1 x1 => ?_
  walk_at "a"
  obtain ⟨z2, ez2, hz2⟩ := cutS ns (some cut) (some (cut + 8))
  refine ⟨_, rfl, ?_⟩
  rw [ez2]
  walk_at "a"
  refine rows_by_ok s (by omega) fun Rs hRs => ?_
  walk_at "a"
  refine for_ixH (fun i e h' => ∃ s6 : Option Sl, e = [some (.val (.fz (ns.map .int))), some (.val (.int p)), some (.val (.int n)), some (.val (.int cut)), some (.val (kD p Hl)), some (.val (.fz (R.map oD))), s6]) (fun _ _ _ _ => rfl) ⟨none, rfl⟩ ?_ ?_
  · rintro e h' ⟨s6, rfl⟩
    walk_at "a"
    obtain ⟨z3, ez3, hz3⟩ := cutS ns (some cut) (some (cut + 100))
    refine ⟨_, rfl, ?_⟩
    rw [ez3]
    walk_at "a"
    refine law_nest_ok hp1 (by omega) hh1 (by omega) fun r hr1 hr2 => ?_
    walk_at "a"
    have er : r = iN (wN r) := by
      unfold iN wN
      rw [List.map_map]
      exact ((List.map_congr_left fun x hx => Int.toNat_of_nonneg (nst_rng hr1 x hx).1).trans (List.map_id r)).symm
    rw [er] at hr1 hr2 ⊢
    rw [iN_D]
    refine none_ahead_ok s hr1 ?_ fun h2 x2 => ?_
    · have : (iN (wN r)).length = (wN r).length := by unfold iN; rw [List.length_map]
      omega
    exact ⟨_, rfl, rfl⟩
  rintro i hi e h' ⟨s6, rfl⟩ N hN
  rw [List.length_map] at hi
  rw [List.getElem_map]
  obtain ⟨g1, g2⟩ := hRs _ (List.getElem_mem hi)
  walk_at "a"
  refine none_ahead_ok s g1 g2 fun h2 x2 => ?_
  walk_at "a"
  exact hN _ _ ⟨_, rfl⟩
end N80

namespace N80
open PySem L2 G
def loose : List PySem.Str := "less" :: "spread" :: "letters_made" :: "lesser" :: "rows_to_rooms" :: "shortest" :: "_law_cell_at" :: "_law_whole" :: "_law_nest" :: "_law_nested" :: "_law_parts" :: "_law_draw" :: "_law_house_by" :: "_law_works_by" :: "_law_answer" :: "_law_accepted" :: "_law_row_good" :: "_law_ahead" :: "_law_rooms_to" :: "_law_letters_good" :: "_law_told_good" :: "_law_none_ahead" :: "_law_rows_by" :: []
abbrev lawAt : Nat := 27
abbrev lawIx : Nat := f_law
abbrev depth : Nat := 4
end N80

namespace N80
open PySem L2 G
theorem tabs_ok : tabs.okB csl = true := by kernel_rfl
abbrev R : PySem.W.OpenRow := PySem.W.OpenLaw.row PySem.Challenge.rw_guesswide_k80_whole_shortest_rows
abbrev hk : PySem.W.Hook := hookG depth tabs csl
def ob (s : PySem.W.SharedT) : He.AlD × Bool := obG depth tabs csl (HandSHeadRun.getT s)
theorem ob_eq (s : PySem.W.SharedT) : ob s = hk.obs s.abs := obG_eq (HandSHeadRun.getT_eq s)
theorem run (w : World) : HandSHeadRun.RunEq R (PySem.W.view R.prog [lawAt]) hk ob 2000 loose w := by
  intro os
  kernel_rfl
end N80

open PySem PySem.W PySem.Calls PyProof.Rows
theorem PySem.Challenge.cw_guesswide_k80_whole_shortest_rows_holds : PySem.Challenge.rw_guesswide_k80_whole_shortest_rows.Holds := by
  w_on; o_law
  refine HandSHeadRun.head_any (r := OpenLaw.row PySem.Challenge.rw_guesswide_k80_whole_shortest_rows) (q := view (OpenLaw.row PySem.Challenge.rw_guesswide_k80_whole_shortest_rows).prog [N80.lawAt]) (H := N80.hk) (ob := N80.ob) (M := 2000) (loose := N80.loose) (d := HandSHeadRun.topDef (OpenLaw.row PySem.Challenge.rw_guesswide_k80_whole_shortest_rows).prog N80.lawAt) (kwd := []) N80.ob_eq
    (by kernel_rfl) (fun s => by kernel_rfl) N80.run (by kernel_rfl) (by kernel_rfl) (by kernel_rfl) (by rfl) (by first | assumption | decide +kernel) (by decide +kernel) ⟨rfl, rfl, rfl, rfl, rfl, by decide +kernel⟩ ?hw ?hc
  case hw => w_witness2
  case hc =>
    refine L2.walk_ofE (l := PySem.Challenge.rw_guesswide_k80_whole_shortest_rows) (n := 63) (k := 22) (x := "script") (CX := L2.CX0) rfl (by decide) (by kernel_rfl) ⟨rfl, by decide, by decide⟩ ?F (fun _ _ _ _ z => z)
    intro w mg fa h Y Gl hmg0
    obtain ⟨K, KX, c, ex⟩ := Y
    have hmg : mg ("law" : PySem.Str) = some (.ref fa) := by
      have e : (HandSHeadRun.topDef (OpenLaw.row PySem.Challenge.rw_guesswide_k80_whole_shortest_rows).prog N80.lawAt).name = ("law" : PySem.Str) := by kernel_rfl
      rw [← e]
      exact hmg0
    have M := G.mo_of (P := (PySem.Challenge.rw_guesswide_k80_whole_shortest_rows).prog) (w := w) KX Gl c ex N80.tabs_ok N80.bind_all
    obtain ⟨fd, hm, hb, F⟩ := M.law (k := 20) (f := N80.lawIx) (y := N80.di_law) rfl rfl
    have e := hmg.symm.trans hm
    cases e
    exact ⟨K, fd, (fun vs H Q _ => G.spI (G.Cof K N80.tabs) K (G.wpF N80.T N80.cv 21) N80.lawIx vs H Q fun _ _ _ => False), KX, fun s u => hb s [u] rfl, fun H a ns hl _ hS => G.spI_law (N80.law_ok ns hl) hS, fun base _ _ => F base⟩
