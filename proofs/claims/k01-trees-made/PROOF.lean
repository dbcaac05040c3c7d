import PyProof.Rows.All
import Wide.All
import OpenK.AllK
import Wide.FinOn
import PySem.Challenge.RW_treeserved_k01_trees_made
import HandS.ForMost
import HandS.Deep
import HandS.More
import HandS.Style
import HandS.NoneIn
import KE.SortData
import KE.DataMinMax
import PyProof.Rows.SetFrom
import HandS.IsInst
import HandS.Flow
import HandS.Set
import HandS.Comp
import HandS.TupAny
import HandS.SetFor
import HandS.Strs
import HandS.DictComp
import HandS.AnyAll
import HandS.EndTab
import KE.KDictPairs
import KE.KDictWalk
import HandS.TupLen
import HandS.SetBool
import HandS.ExcIs
import KE.KExcIs
import KE.KNest
import HandS.ExcInit
import HandS.ExcField
import HandS.ExcOwn
import HandS.WordsExc
import KE.KSuper
import KE.KExcSuper
set_option Elab.async false
set_option linter.all false
set_option autoImplicit false
set_option maxRecDepth 100000
set_option maxHeartbeats 4000000
set_option linter.all false
/-! Plain values, and what a def's text does with them: expressions Ex, statements St, and their evaluation over plain values (lists that are one's own may be changed; all others stand still). -/
namespace Ts
open PySem L2

inductive D where
  | non | bl (b : Bool) | int (i : Int) | str (s : Str)
  | tup (l : List D) | lst (l : List D)
  | dk (kvs : List (Key × D)) | dt (kvs : List (List Key × D))
  | scr (l : List Int)
  /-- a tuple that is known to be bare -/
  | tpn (l : List D)

mutual
def D.pd : D → PyData
  | .non => .none | .bl b => .bool b | .int i => .int i | .str s => .str s
  | .tup l => .tuple (D.pds l) | .lst l => .list (D.pds l)
  | .dk _ => .none | .dt _ => .none | .scr _ => .none | .tpn _ => .none
def D.pds : List D → List PyData
  | [] => []
  | d :: l => d.pd :: D.pds l
end
theorem D.pds_map (l : List D) : D.pds l = l.map D.pd := by
  induction l with
  | nil => rfl
  | cons a l ih => simp [D.pds, ih]

mutual
/-- no bools, no dicts, texts as they may be, so deep at most -/
def D.ok : D → Nat → Bool
  | .non, _ => true | .int _, _ => true | .str s, _ => PyData.canLay0 (.str s)
  | .bl _, _ => false | .dk _, _ => false | .dt _, _ => false | .scr _, _ => false | .tpn _, _ => false
  | .tup _, 0 => false | .lst _, 0 => false
  | .tup l, n + 1 => D.oks l n
  | .lst l, n + 1 => D.oks l n
def D.oks : List D → Nat → Bool
  | [], _ => true
  | d :: l, n => d.ok n && D.oks l n
end
theorem D.oks_all (l : List D) (n : Nat) : D.oks l n = l.all (fun d => d.ok n) := by
  induction l with
  | nil => rfl
  | cons a l ih => simp [D.oks, ih]

mutual
/-- no list and no dict in it -/
def D.flat : D → Bool
  | .non => true | .bl _ => true | .int _ => true | .str _ => true
  | .tup l => D.flats l
  | .tpn l => D.flats l
  | .lst _ => false | .dk _ => false | .dt _ => false | .scr _ => false
def D.flats : List D → Bool
  | [] => true
  | d :: l => d.flat && D.flats l
end
theorem D.flats_all (l : List D) : D.flats l = l.all D.flat := by
  induction l with
  | nil => rfl
  | cons a l ih => simp [D.flats, ih]

mutual
def D.beq : D → D → Bool
  | .non, .non => true
  | .int a, .int b => a == b
  | .str a, .str b => decide (a = b)
  | .tup l, .tup m => D.beqs l m
  | .lst l, .lst m => D.beqs l m
  | _, _ => false
def D.beqs : List D → List D → Bool
  | [], [] => true
  | a :: l, b :: m => a.beq b && D.beqs l m
  | _, _ => false
end

mutual
/-- a bare tuple is a tuple -/
def D.nm : D → D
  | .tpn l => .tup (D.nms l)
  | .tup l => .tup (D.nms l)
  | .lst l => .lst (D.nms l)
  | d => d
def D.nms : List D → List D
  | [] => []
  | d :: l => d.nm :: D.nms l
end
theorem D.nms_map (l : List D) : D.nms l = l.map D.nm := by
  induction l with
  | nil => rfl
  | cons a l ih => simp [D.nms, ih]
mutual
theorem ok_nm : ∀ (d : D) (n : Nat), d.ok n = true → d.nm = d
  | .non, _, _ => rfl
  | .int _, _, _ => rfl
  | .str _, _, _ => rfl
  | .bl _, _, _ => rfl
  | .dk _, _, _ => rfl
  | .dt _, _, _ => rfl
  | .scr _, _, _ => rfl
  | .tpn _, _, h => by simp [D.ok] at h
  | .tup l, 0, h => by simp [D.ok] at h
  | .lst l, 0, h => by simp [D.ok] at h
  | .tup l, n + 1, h => by rw [D.nm, oks_nm l n (by simpa [D.ok] using h)]
  | .lst l, n + 1, h => by rw [D.nm, oks_nm l n (by simpa [D.ok] using h)]
theorem oks_nm : ∀ (l : List D) (n : Nat), D.oks l n = true → D.nms l = l
  | [], _, _ => rfl
  | d :: l, n, h => by
    simp only [D.oks, Bool.and_eq_true] at h
    rw [D.nms, ok_nm d n h.1, oks_nm l n h.2]
end

def D.key? : D → Option Key
  | .int i => some (.inl i)
  | .str s => some (.inr s)
  | _ => none
def D.keyL? : List D → Option (List Key)
  | [] => some []
  | d :: l => d.key?.bind fun k => (D.keyL? l).bind fun ks => some (k :: ks)
def D.ofKey : Key → D
  | .inl i => .int i
  | .inr s => .str s

section
variable {κ : Type} [DecidableEq κ]
def valD (kvs : List (κ × D)) (k : κ) : Option D := (kvs.find? fun kv => decide (kv.1 = k)).map (·.2)
def putD (kvs : List (κ × D)) (k : κ) (v : D) : List (κ × D) :=
  if (kvs.any fun kv => decide (kv.1 = k)) = true then kvs.map (fun kv => if kv.1 = k then (kv.1, v) else kv) else kvs ++ [(k, v)]
end

/-! ### operators, by values -/
def bigLine : Nat := 1000000
def mulLine : Nat := 2 ^ 64
def divLine : Nat := 2 ^ 30
def rngLine : Nat := 2 ^ 62

/-- what is computed: shared, or new and one's own -/
inductive Nv where | sh (d : D) | ow (d : D) | mu (r : D) (fs : List D)
  /-- raised: the class' number, its fields -/
  | ex (c : Nat) (fs : List D)

def binV : Operator → D → D → Option Nv
  | .Add, .int a, .int b => some (.sh (.int (a + b)))
  | .Add, .str a, .str b => if a.length + b.length ≤ bigLine then some (.sh (.str (a ++ b))) else none
  | .Add, .lst a, .lst b => if a.length + b.length ≤ bigLine then some (.ow (.lst (a ++ b))) else none
  | .Add, .tup a, .tup b => if a.length + b.length ≤ bigLine then some (.sh (.tup (a ++ b))) else none
  | .Sub, .int a, .int b => some (.sh (.int (a - b)))
  | .Mult, .int a, .int b => if a.natAbs < mulLine ∨ b.natAbs < mulLine then some (.sh (.int (a * b))) else none
  | .Mult, .lst a, .int k => if 0 ≤ k ∧ k < 1000 ∧ a.length * k.toNat ≤ bigLine then some (.ow (.lst (List.replicate k.toNat a).flatten)) else none
  | .Mod, .int a, .int b => if 0 < b then some (.sh (.int (a % b))) else none
  | .FloorDiv, .int a, .int b => if 0 < b ∧ b.natAbs < divLine then some (.sh (.int (a / b))) else none
  | .Pow, .int a, .int b => if 0 ≤ b ∧ b ≤ 1000000 ∧ a.natAbs < mulLine then some (.sh (.int (a ^ b.toNat))) else none
  | _, _, _ => none

def negV : D → Option D
  | .int a => some (.int (-a))
  | _ => none

def eqV : D → D → Option Bool
  | .bl a, .bl b => some (decide (a = b))
  | a, b => if a.nm.ok 60 = true ∧ b.nm.ok 60 = true then some (a.nm.beq b.nm) else none

def strLt (a b : Str) : Bool := decide (a.cps.toList < b.cps.toList)

def scalar : D → Bool
  | .non => true | .int _ => true | .str _ => true
  | _ => false

def inV : D → D → Option Bool
  | a, .lst l => if a.ok 59 = true ∧ D.oks l 59 = true then some (l.any fun z => z.beq a) else none
  | a, .tup l => if scalar a = true ∧ l.all scalar = true then some (l.any fun z => z.beq a) else none
  | a, .dk kvs => a.key?.bind fun k => some (valD kvs k).isSome
  | .tup l, .dt kvs => (D.keyL? l).bind fun k => some (valD kvs k).isSome
  | .str a, .str b => if a.length = 1 then some (b.cps.toList.contains (a.cps.toList.headD 0)) else none
  | _, _ => none

def cmpV : CmpOp → D → D → Option Bool
  | .Eq, a, b => eqV a b
  | .NotEq, a, b => (eqV a b).map (!·)
  | .Lt, .int a, .int b => some (decide (a < b))
  | .LtE, .int a, .int b => some (decide (a ≤ b))
  | .Gt, .int a, .int b => some (decide (b < a))
  | .GtE, .int a, .int b => some (decide (b ≤ a))
  | .Lt, .str a, .str b => some (strLt a b)
  | .LtE, .str a, .str b => some (!strLt b a)
  | .Gt, .str a, .str b => some (strLt b a)
  | .GtE, .str a, .str b => some (!strLt a b)
  | .In, a, b => inV a b
  | .NotIn, a, b => (inV a b).map (!·)
  | .Is, .non, .non => some true
  | .Is, .int _, .non => some false | .Is, .str _, .non => some false | .Is, .bl _, .non => some false
  | .Is, .tup _, .non => some false | .Is, .lst _, .non => some false | .Is, .dk _, .non => some false | .Is, .dt _, .non => some false
  | .Is, .bl a, .bl b => some (decide (a = b))
  | .IsNot, .bl a, .bl b => some (!decide (a = b))
  | .IsNot, .non, .non => some false
  | .IsNot, .int _, .non => some true | .IsNot, .str _, .non => some true | .IsNot, .bl _, .non => some true
  | .IsNot, .tup _, .non => some true | .IsNot, .lst _, .non => some true | .IsNot, .dk _, .non => some true | .IsNot, .dt _, .non => some true
  | _, _, _ => none

/-- a[b] -/
def ixV : D → D → Option D
  | .lst l, .int i => atI l i
  | .tup l, .int i => atI l i
  | .tpn l, .int i => atI l i
  | .scr l, .int i => (atI l i).map .int
  | .str s, .int i => if s.length ≤ bigLine then (atI s.cps.toList i).map fun c => .str ⟨#[c]⟩ else none
  | .dk kvs, k => k.key?.bind fun k => valD kvs k
  | .dt kvs, .tup l => (D.keyL? l).bind fun k => valD kvs k
  | _, _ => none

def cutD {α : Type} (xs : List α) (lo hi : Option Int) : List α := (xs.drop (HT.sIx xs.length 0 lo)).take (HT.sIx xs.length xs.length hi - HT.sIx xs.length 0 lo)
/-- a[lo:hi] -/
def slV : D → Option Int → Option Int → Option Nv
  | .lst l, lo, hi => some (.ow (.lst (cutD l lo hi)))
  | .tup l, lo, hi => if (cutD l lo hi).length < l.length then some (.sh (.tup (cutD l lo hi))) else none
  | _, _, _ => none

/-! ### built-in functions, by values -/
inductive Bi where | len | abs | min1 | max1 | min2 | max2 | sorted | sum | tuple | list | all | any | tupK
  deriving DecidableEq

def D.strs? : List D → Option (List Str)
  | [] => some []
  | .str s :: l => (D.strs? l).bind fun m => some (s :: m)
  | _ => none
def D.ints? : List D → Option (List Int)
  | [] => some []
  | .int s :: l => (D.ints? l).bind fun m => some (s :: m)
  | _ => none
def D.bls? : List D → Option (List Bool)
  | [] => some []
  | .bl s :: l => (D.bls? l).bind fun m => some (s :: m)
  | _ => none

/-- any two of them can be compared, and all are of one sort -/
def ordOk (l : List D) : Bool :=
  D.oks l 59 && (l.all fun d => l.all fun e => PySem.W.alike d.pd e.pd) &&
    ((l.all fun d => match d with | .tup (_ :: _) => true | _ => false) || (l.all fun d => match d with | .int _ => true | .str _ => true | _ => false))
def leD : D → D → Bool := PySem.W.dataLe false D.pd
/-- the first least one -/
def leastD (d : D) (l : List D) : D := l.foldl (fun a y => if PySem.W.dataLt y.pd a.pd then y else a) d
/-- the first greatest one -/
def mostD (d : D) (l : List D) : D := l.foldl (fun a y => if PySem.W.dataLt a.pd y.pd then y else a) d

def keysS? : List (Key × D) → Option (List Str)
  | [] => some []
  | (.inr s, _) :: l => (keysS? l).bind fun m => some (s :: m)
  | _ => none

def items? : D → Option (List D)
  | .lst l => some l
  | .tup l => some l
  | .tpn l => some l
  | _ => none

def biV : Bi → List D → Option Nv
  | .len, [.lst l] => some (.sh (.int l.length))
  | .len, [.tup l] => some (.sh (.int l.length))
  | .len, [.scr l] => some (.sh (.int l.length))
  | .len, [.str s] => if s.length ≤ bigLine then some (.sh (.int s.length)) else none
  | .len, [.dk kvs] => some (.sh (.int kvs.length))
  | .len, [.dt kvs] => some (.sh (.int kvs.length))
  | .abs, [.int i] => some (.sh (.int (if i < 0 then -i else i)))
  | .min2, [.int a, .int b] => some (.sh (.int (if b < a then b else a)))
  | .max2, [.int a, .int b] => some (.sh (.int (if b > a then b else a)))
  | .min2, [.str a, .str b] => some (.sh (.str (if strLt b a then b else a)))
  | .max2, [.str a, .str b] => some (.sh (.str (if strLt a b then b else a)))
  | .min1, [.lst (d :: l)] => if ordOk (d :: l) = true then some (.sh (leastD d l)) else none
  | .max1, [.lst (d :: l)] => if ordOk (d :: l) = true then some (.sh (mostD d l)) else none
  | .sorted, [.lst l] => if ordOk l = true ∧ l.length ≤ bigLine then some (.ow (.lst (l.mergeSort leD))) else none
  | .sorted, [.dk kvs] => (keysS? kvs).bind fun ks => if ks.length < 64 then some (.ow (.lst ((ks.map D.str).mergeSort leD))) else none
  | .sum, [.lst l] => (D.ints? l).bind fun ns => some (.sh (.int ns.sum))
  | .tuple, [.lst l] => some (.sh (.tup l))
  | .tuple, [.tup l] => some (.sh (.tup l))
  | .list, [.lst l] => some (.ow (.lst l))
  | .list, [.tup l] => some (.ow (.lst l))
  | .all, [.lst l] => (D.bls? l).bind fun bs => some (.sh (.bl (bs.all id)))
  | .any, [.lst l] => (D.bls? l).bind fun bs => some (.sh (.bl (bs.any id)))
  | .len, [.tpn l] => some (.sh (.int l.length))
  | .list, [.tpn l] => some (.ow (.lst l))
  | .tuple, [.tpn l] => some (.sh (.tpn l))
  | .tupK, [.lst l] => some (.sh (.tpn l))
  | _, _ => none

/-! ### more, by values -/
inductive Ti where | bool | int | str | tuple
  deriving DecidableEq
/-- isinstance -/
def isiV : Ti → D → Option Bool
  | t, .bl _ => some (decide (t = .bool ∨ t = .int))
  | t, .int _ => some (decide (t = .int))
  | t, .str _ => some (decide (t = .str))
  | t, .tup _ => some (decide (t = .tuple))
  | _, .lst _ => some false
  | _, .non => some false
  | _, _ => none
/-- the different ones, in the order in which they are met -/
def dedI (ns : List Int) : List Int := ns.foldl PyProof.Rows.step_dedup []
/-- len(set(whole numbers)) -/
def lsetV : D → Option D
  | .lst l => (D.ints? l).bind fun ns => if ns.length < 64 then some (.int (dedI ns).length) else none
  | _ => none

/-- the different ones -/
def dedS : List Str → List Str
  | [] => []
  | x :: l => if x ∈ l then dedS l else x :: dedS l
/-- sorted(set(texts)) -/
def ssetV : D → Option (List D)
  | .tup l => (D.strs? l).bind fun ks => if ks.length < 1000 then some (((dedS ks).map D.str).mergeSort leD) else none
  | _ => none

/-- the first parts of keys -/
def firsts? : List (List Key × D) → Option (List Str)
  | [] => some []
  | (.inr s :: _, _) :: l => (firsts? l).bind fun m => some (s :: m)
  | _ => none
/-- a.index(b): the first place, a list of texts -/
def idxV (a b : D) : Option D := match a, b with
  | .lst l, .str s => (D.strs? l).bind fun ss => (ss.findIdx? fun z => decide (z = s)).map fun (i : Nat) => .int i
  | _, _ => none
/-- .. of a tuple -/
def idxTV (a b : D) : Option D := match a, b with
  | .tpn l, .str s => (D.strs? l).bind fun ss => (ss.findIdx? fun z => decide (z = s)).map fun (i : Nat) => .int i
  | _, _ => none
/-- a.count(k), whole numbers -/
def cntV (a b : D) : Option D := match a, b with
  | .lst l, .int k => (D.ints? l).map fun ns => .int (ns.count k : Nat)
  | _, _ => none

/-! ### dict(..), get -/
def pairsD? : List D → Option (List (Key × D))
  | [] => some []
  | .tup [k, v] :: r => k.key?.bind fun kk => (pairsD? r).bind fun ps => some ((kk, v) :: ps)
  | _ :: _ => none
def mergeD (acc ps : List (Key × D)) : List (Key × D) := ps.foldl (fun acc p => putD acc p.1 p.2) acc
/-- dict(a list of pairs) -/
def dictV : D → Option D
  | .lst l => (pairsD? l).bind fun ps => some (.dk (mergeD [] ps))
  | .tpn l => (pairsD? l).bind fun ps => some (.dk (mergeD [] ps))
  | _ => none
def isDk : Option D → Bool | some (.dk _) => true | some (.dt _) => true | _ => false
/-- a.get(b, c) -/
def dgetV (a b c : D) : Option D := match a with
  | .dk kvs => b.key?.bind fun k => if scalar c = true then some ((valD kvs k).getD c) else none
  | .dt kvs => match b with
    | .tup l => (D.keyL? l).bind fun k => if scalar c = true then some ((valD kvs k).getD c) else none
    | _ => none
  | _ => none
def keyD : Key → D | .inl i => .int i | .inr s => .str s

/-! ### the text -/
inductive Pt where | v (i : Nat) | t (is : List Nat)

mutual
inductive Ex where
  | var (i : Nat) | int (i : Int) | str (s : Str) | bl (b : Bool) | non
  | gl (x : Str) (d : D)
  | bin (op : Operator) (a b : Ex) | neg (a : Ex)
  | cmp (op : CmpOp) (a b : Ex)
  | cmp2 (op op' : CmpOp) (a b c : Ex)
  | and (as : Exs) | or (as : Exs) | not (a : Ex)
  | ite (c a b : Ex)
  | tup (as : Exs) | lst (as : Exs)
  | dnew (t : Bool)
  | dlit (k v : Ex)
  | ix (a b : Ex)
  | sl (a : Ex) (lo hi : Ox)
  | rev (a : Ex)
  | call (f : Nat) (as : Exs)
  | bi (b : Bi) (as : Exs)
  | pop (i : Nat) (front : Bool)
  | isi (t : Ti) (a : Ex)
  | idx (a b : Ex)
  | idxT (a b : Ex)
  | cnt (a b : Ex)
  | dictc (a : Ex)
  | dget (a k d : Ex)
  | dc (own uses : List Nat) (p : Pt) (it : Itx) (k v : Ex)
  | lk (own : List Nat) (p : Pt) (i : Nat) (e : Ex)
  /-- the keys of a dict in slot i, those that pass -/
  | lkx (own uses : List Nat) (p : Pt) (i : Nat) (cs : Exs) (e : Ex)
  | lset (a : Ex)
  | sset (a : Ex)
  /-- sorted({k[0] for k in the dict in slot j}), k in slot i -/
  | sscK (i j : Nat)
  | strI (a : Ex)
  | callM (f : Nat) (as : Exs) (m : Nat)
  | anyIn (it : Ex) (i : Nat)
  | anyPos (i : Nat)
  | neverE
  | ix2 (i : Nat) (a b : Ex)
  | lenN (i : Nat)
  | callX (f : Nat) (as : Exs)
  | orV (a b : Ex)
  | lc (own : List Nat) (uses : List Nat) (p : Pt) (it : Itx) (cs : Exs) (e : Ex)
  | lc2 (own uses own1 : List Nat) (p : Pt) (it : Itx) (p1 : Pt) (it1 : Itx) (e : Ex)
inductive Exs where | nil | cons (e : Ex) (es : Exs)
inductive Ox where | no | yes (e : Ex)
inductive Itx where
  | seq (e : Ex)
  | rng1 (e : Ex) | rng2 (a b : Ex) | rngD (a b : Ex)
  /-- the keys of a new dict -/
  | dkeys (e : Ex)
  | enum (e : Ex)
  | chars (e : Ex)
end

/-- an except suite that returns: None, a field, two fields -/
inductive Rx where | no | f1 (k : Nat) | f2 (j k : Nat)
mutual
inductive St where
  | asg (i : Nat) (e : Ex)
  | unp (is : List Nat) (e : Ex)
  | app (i : Nat) (e : Ex)
  | par (i j : Nat) (a b : Ex)
  | aug (i : Nat) (e : Ex)
  | put (i : Nat) (k e : Ex)
  | exp (e : Ex)
  | ifs (c : Ex) (a b : Sts)
  | for_ (p : Pt) (it : Itx) (body : Sts) (w : List Nat)
  | while_ (c : Ex) (body : Sts) (w : List Nat)
  | ret (e : Ex) | retM (ms : List Nat) (e : Ex) | retN | brk | cnt | pass
  | never
  | asgN (i : Nat) (own uses : List Nat) (p : Pt) (it : Itx) (e : Ex)
  | put2 (i : Nat) (a b e : Ex)
  /-- for over the dict in slot i, which is shared from then on -/
  | forK (i : Nat) (p : Pt) (body : Sts) (w : List Nat)
  /-- x[a], x[b] = x[b], x[a] -/
  | swp (i a b : Nat)
  | asgX (i : Nat) (f : Nat) (as : Exs)
  | expX (f : Nat) (as : Exs)
  | retX (f : Nat) (as : Exs)
  | unpX (is : List Nat) (f : Nat) (as : Exs)
  | forX (p : Pt) (f : Nat) (as : Exs) (body : Sts) (w : List Nat)
  | raise (c : Nat) (as : Exs)
  /-- try: body, except .. as n: a suite that returns; hs: the classes that are caught; g: of these, those that are told -/
  | try_ (body : Sts) (hs g : List Nat) (i : Nat) (r : Rx)
inductive Sts where | nil | cons (s : St) (ss : Sts)
  /-- no row of the program: the hidden lists in slot i are shared from now on -/
  | un (i : Nat) (ss : Sts)
end

/-! ### slots -/
/-- nw: one's own list of one's own lists, hidden -/
inductive Sl where | u | sh (d : D) | ow (d : D) | nw (l : List D)
abbrev En := List Sl
/-- what an expression gives: shared, new, the object in one's own slot i -/
inductive Rv where | sh (d : D) | ow (d : D) | bo (i : Nat)
def Nv.rv : Nv → Rv | .sh d => .sh d | .ow d => .ow d | .mu r _ => .sh r | .ex _ _ => .sh .non
def isEx : Nv → Bool | .ex _ _ => true | _ => false
def isMu : Nv → Bool | .mu _ _ => true | .ex _ _ => true | _ => false
def slD : Sl → Option D | .u => none | .sh d => some d | .ow d => some d | .nw _ => none
def getAt (env : En) (i : Nat) : Option D := (env[i]?).bind slD
/-- read -/
def Rv.get (env : En) : Rv → Option D
  | .sh d => some d
  | .ow d => some d
  | .bo i => getAt env i
/-- it goes out of hand -/
def leak (env : En) : Rv → Option (D × En)
  | .sh d => some (d, env)
  | .ow d => some (d, env)
  | .bo i => (getAt env i).bind fun d => some (d, env.set i (.sh d))
def leakAll (env : En) : List Rv → Option En
  | [] => some env
  | r :: rs => (leak env r).bind fun p => leakAll p.2 rs
def getAll (env : En) : List Rv → Option (List D)
  | [] => some []
  | r :: rs => (r.get env).bind fun d => (getAll env rs).bind fun ds => some (d :: ds)
def wipeE (env : En) : List Nat → En
  | [] => env
  | i :: is => (wipeE env is).set i .u
def isOw : Sl → Bool | .ow _ => true | _ => false
def hide (env : En) : En := env.map fun s => match s with | .ow _ => .u | .nw _ => .u | s => s
def frzS : Sl → Sl | .ow d => .sh d | s => s
def frz (env : En) : List Nat → En
  | [] => env
  | i :: is => (frz env is).modify i frzS
/-- is one of these one's own? -/
def anyOw (env : En) (is : List Nat) : Bool := is.any fun i => match env[i]? with | some (.ow _) => true | _ => false
def flatRet : Nv → Bool
  | .sh d => d.flat
  | .ow (.lst l) => l.all D.flat
  | .ow _ => false
  | .mu _ _ => false
  | .ex _ _ => false
def noBo : List Rv → Bool
  | [] => true
  | .bo _ :: _ => false
  | _ :: rs => noBo rs

/-- slots whose own things are handed over -/
def bos : List Rv → Option (List Nat)
  | [] => some []
  | .bo i :: rs => (bos rs).bind fun is => some (i :: is)
  | _ :: _ => none
def owAll (env : En) : List Nat → Option (List D)
  | [] => some []
  | i :: is => match env[i]? with
    | some (.ow d) => (owAll env is).bind fun ds => some (d :: ds)
    | _ => none
def putAll (env : En) : List Nat → List D → Option En
  | [], [] => some env
  | i :: is, d :: ds => (putAll env is ds).bind fun e => match e[i]? with
    | some (.ow _) => some (e.set i (.ow d))
    | _ => none
  | _, _ => none

/-- any(x in m for x in l), texts -/
def anyInV (l m : D) : Option Bool := match l, m with
  | .lst a, .lst b => (D.strs? a).bind fun ss => (D.strs? b).bind fun ms => if ss.length ≤ bigLine ∧ ms.length ≤ bigLine then some (ss.any fun s => ms.any fun z => decide (z = s)) else none
  | _, _ => none
def valsI? : List (List Key × D) → Option (List Int)
  | [] => some []
  | (_, .int i) :: l => (valsI? l).bind fun m => some (i :: m)
  | _ => none

/-- a target takes a value -/
def asgs (env : En) : List Nat → List D → Option En
  | [], [] => some env
  | i :: is, d :: ds => if i < env.length then asgs (env.set i (.sh d)) is ds else none
  | _, _ => none
def asgP (env : En) : Pt → D → Option En
  | .v i, d => if i < env.length then some (env.set i (.sh d)) else none
  | .t is, .tup l => asgs env is l
  | .t is, .lst l => asgs env is l
  | .t _, _ => none

def bad : Option Bool → Option Bool := id
def isPt : Pt → Bool | .t _ => true | _ => false
/-- a dict that is walked, its keys -/
def lkItems (p : Pt) : Option Sl → Option (D × List D)
  | some (.ow (.dk es)) => some (.dk es, es.map fun kv => keyD kv.1)
  | some (.sh (.dk es)) => some (.dk es, es.map fun kv => keyD kv.1)
  | some (.sh (.dt es)) => if isPt p = true then some (.dt es, es.map fun kv => .tup (kv.1.map keyD)) else none
  | _ => none

def enumD (l : List D) : List D := (List.range l.length).map fun i => D.tup [.int (i : Nat), l.getD i .non]
/-- a dict that a loop walks -/
def lkItemsO (p : Pt) : Option Sl → Option (D × List D)
  | some (.ow (.dt es)) => if isPt p = true then some (.dt es, es.map fun kv => .tup (kv.1.map keyD)) else none
  | s => lkItems p s
/-- the items one by one, those that pass -/
def lcD (step : D → Option (Option D)) : List D → Option (List D)
  | [] => some []
  | d :: ds => (step d).bind fun r => (lcD step ds).bind fun rs => some (match r with | some x => x :: rs | none => rs)

/-- two walks, one in the other -/
def lc2D (step : D → Option (List D)) : List D → Option (List D)
  | [] => some []
  | d :: ds => (step d).bind fun r => (lc2D step ds).bind fun rs => some (r ++ rs)

inductive Out where | nx (env : En) | rt (v : Nv) | bk (env : En) | ct (env : En)
  /-- raised -/
  | rx (env : En) (c : Nat) (fs : List D)

def forD (step : D → En → Option Out) : List D → En → Option Out
  | [], env => some (.nx env)
  | d :: ds, env => (step d env).bind fun o => match o with
    | .nx e => forD step ds e
    | .ct e => forD step ds e
    | .bk e => some (.nx e)
    | .rt v => some (.rt v)
    | .rx e c fs => some (.rx e c fs)
def whileD (cond : En → Option (Bool × En)) (step : En → Option Out) : Nat → En → Option Out
  | 0, _ => none
  | n + 1, env => (cond env).bind fun p => if p.1 = true then (step p.2).bind fun o => match o with
      | .nx e => whileD cond step n e
      | .ct e => whileD cond step n e
      | .bk e => some (.nx e)
      | .rt v => some (.rt v)
      | .rx e c fs => some (.rx e c fs)
    else some (.nx p.2)

/-- a list? -/
def isL : Option D → Bool | some (.lst _) => true | _ => false
def isTpn : Option D → Bool | some (.tpn _) => true | _ => false
abbrev Run := Nat → List D → Option Nv

section
variable (R : Run)
mutual
def evE : Ex → En → Option (Rv × En)
  | .var i, env => match env[i]? with
    | some (.sh d) => some (.sh d, env)
    | some (.ow _) => some (.bo i, env)
    | _ => none
  | .int i, env => some (.sh (.int i), env)
  | .str s, env => some (.sh (.str s), env)
  | .bl b, env => some (.sh (.bl b), env)
  | .non, env => some (.sh .non, env)
  | .gl _ d, env => some (.sh d, env)
  | .bin op a b, env => (evE a env).bind fun p => (evE b p.2).bind fun q => (p.1.get q.2).bind fun x => (q.1.get q.2).bind fun y => (binV op x y).bind fun r => some (r.rv, q.2)
  | .neg a, env => (evE a env).bind fun p => (p.1.get p.2).bind fun x => (negV x).bind fun r => some (.sh r, p.2)
  | .cmp op a b, env => (evE a env).bind fun p => (evE b p.2).bind fun q => (p.1.get q.2).bind fun x => (q.1.get q.2).bind fun y => (cmpV op x y).bind fun r => some (.sh (.bl r), q.2)
  | .cmp2 op op' a b c, env => (evE a env).bind fun p => (evE b p.2).bind fun q => (p.1.get q.2).bind fun x => (q.1.get q.2).bind fun y => (cmpV op x y).bind fun r =>
      if r = true then (evE c q.2).bind fun t => (t.1.get t.2).bind fun z => (q.1.get t.2).bind fun y' => (cmpV op' y' z).bind fun r' => some (.sh (.bl r'), t.2) else some (.sh (.bl false), q.2)
  | .and as, env => evAnd as env
  | .or as, env => evOr as env
  | .not a, env => (evE a env).bind fun p => match p.1 with | .sh (.bl b) => some (.sh (.bl (!b)), p.2) | _ => none
  | .ite c a b, env => (evE c env).bind fun p => match p.1 with | .sh (.bl true) => evE a p.2 | .sh (.bl false) => evE b p.2 | _ => none
  | .tup as, env => (evL as env).bind fun p => if p.1.length ≤ bigLine then some (.sh (.tup p.1), p.2) else none
  | .lst as, env => (evL as env).bind fun p => if p.1.length ≤ bigLine then some (.ow (.lst p.1), p.2) else none
  | .dnew t, env => some (.ow (if t = true then .dt [] else .dk []), env)
  | .dlit k v, env => (evE k env).bind fun p => (evE v p.2).bind fun q => (leak q.2 q.1).bind fun t => (p.1.get t.2).bind fun x => x.key?.bind fun y => some (.ow (.dk [(y, t.1)]), t.2)
  | .ix a b, env => (evE a env).bind fun p => (evE b p.2).bind fun q => (p.1.get q.2).bind fun x => (q.1.get q.2).bind fun y => (ixV x y).bind fun r => some (.sh r, q.2)
  | .sl a lo hi, env => (evE a env).bind fun p => (evO lo p.2).bind fun q => (evO hi q.2).bind fun t => (p.1.get t.2).bind fun x => (slV x q.1 t.1).bind fun r => some (r.rv, t.2)
  | .rev a, env => (evE a env).bind fun p => (p.1.get p.2).bind fun x => match x with | .lst l => some (.ow (.lst l.reverse), p.2) | _ => none
  | .call f as, env => (evA as env).bind fun p => (getAll p.2 p.1).bind fun ds => (R f ds).bind fun r =>
      if noBo p.1 = true ∨ flatRet r = true then some (r.rv, p.2) else (leakAll p.2 p.1).bind fun e => some (r.rv, e)
  | .bi b as, env => (evA as env).bind fun p => (getAll p.2 p.1).bind fun ds => (biV b ds).bind fun r => some (r.rv, p.2)
  | .pop i front, env => match env[i]? with
    | some (.ow (.lst l)) => if front = true then (match l with | d :: r => some (.sh d, env.set i (.ow (.lst r))) | [] => none)
        else (match l.getLast? with | some d => some (.sh d, env.set i (.ow (.lst l.dropLast))) | none => none)
    | _ => none
  | .idx a b, env => (evE a env).bind fun p => (evE b p.2).bind fun q => (p.1.get q.2).bind fun x => (q.1.get q.2).bind fun y => (idxV x y).bind fun r => if isL (p.1.get p.2) = true then some (.sh r, q.2) else none
  | .idxT a b, env => (evE a env).bind fun p => (evE b p.2).bind fun q => (p.1.get q.2).bind fun x => (q.1.get q.2).bind fun y => (idxTV x y).bind fun r => if isTpn (p.1.get p.2) = true then some (.sh r, q.2) else none
  | .cnt a b, env => (evE a env).bind fun p => (evE b p.2).bind fun q => (p.1.get q.2).bind fun x => (q.1.get q.2).bind fun y => (cntV x y).bind fun r => if isL (p.1.get p.2) = true then some (.sh r, q.2) else none
  | .dictc a, env => (evE a env).bind fun q => (q.1.get q.2).bind fun x => (dictV x).bind fun r => some (.ow r, q.2)
  | .dget a k d, env => (evE a env).bind fun p => (evE k p.2).bind fun q => (evE d q.2).bind fun t => (p.1.get t.2).bind fun x => (q.1.get t.2).bind fun y => (t.1.get t.2).bind fun z => (dgetV x y z).bind fun r => if isDk (p.1.get p.2) = true then some (.sh r, t.2) else none
  | .dc own uses p it k v, env => (evI it env).bind fun q =>
      (lcD (fun d => (asgP (wipeE (hide (frz q.2 uses)) own) p d).bind fun e1 => (evE k e1).bind fun a => (a.1.get a.2).bind fun x => x.key?.bind fun _ => (evE v a.2).bind fun b => (leak b.2 b.1).bind fun y => some (some (.tup [x, y.1]))) q.1).bind fun ds =>
        if ds.length ≤ bigLine then (pairsD? ds).bind fun ps => if anyOw q.2 uses = false then some (.ow (.dk (mergeD [] ps)), q.2) else none else none
  | .lk own p i e, env => match env[i]? with
    | some (.ow (.dk es)) => (lcD (fun d => (asgP (wipeE (hide (env.set i (.sh (.dk es)))) own) p d).bind fun e1 => (evE e e1).bind fun r => (leak r.2 r.1).bind fun x => some (some x.1)) (es.map fun kv => keyD kv.1)).bind fun ds =>
        if ds.length ≤ bigLine ∧ ds.all D.flat = true then some (.ow (.lst ds), env) else none
    | _ => none
  | .lkx own uses p i cs e, env => (lkItems p env[i]?).bind fun q =>
      (lcD (fun d => (asgP (wipeE (hide (frz (env.set i (.sh q.1)) uses)) own) p d).bind fun e1 => (evC cs e1).bind fun c => if c = true then (evE e e1).bind fun r => (leak r.2 r.1).bind fun x => some (some x.1) else some none) q.2).bind fun ds =>
        if ds.length ≤ bigLine ∧ ds.all D.flat = true then some (.ow (.lst ds), env) else none
  | .isi t a, env => (evE a env).bind fun p => (p.1.get p.2).bind fun x => (isiV t x).bind fun r => some (.sh (.bl r), p.2)
  | .callM f as m, env => (evA as env).bind fun p => (getAll p.2 p.1).bind fun ds => if noBo (p.1.take (p.1.length - m)) = true then
      (bos (p.1.drop (p.1.length - m))).bind fun is => if is.Nodup ∧ is.length = m then (R f ds).bind fun r => match r with
        | .mu x fs => (putAll p.2 is fs).bind fun e => some (.sh x, e)
        | _ => none
      else none else none
  | .neverE, _ => none
  | .ix2 i a b, env => match env[i]? with
    | some (.nw ls) => (evE a env).bind fun p => (evE b p.2).bind fun q => match p.1, q.1 with
      | .sh (.int x), .sh (.int y) => (atI ls x).bind fun l => match l with
        | .lst ds => (atI ds y).bind fun d => some (.sh d, q.2)
        | _ => none
      | _, _ => none
    | _ => none
  | .lenN i, env => match env[i]? with
    | some (.nw ls) => some (.sh (.int ls.length), env)
    | _ => none
  | .callX f as, env => (evA as env).bind fun p => (getAll p.2 p.1).bind fun ds => (R f ds).bind fun r => if isEx r = true then none else
      if noBo p.1 = true ∨ flatRet r = true then some (r.rv, p.2) else (leakAll p.2 p.1).bind fun e => some (r.rv, e)
  | .anyIn it i, env => (evE it env).bind fun p => (p.1.get p.2).bind fun l => (getAt p.2 i).bind fun m => (anyInV l m).bind fun b => some (.sh (.bl b), p.2)
  | .anyPos i, env => match env[i]? with
    | some (.ow (.dt kvs)) => (valsI? kvs).bind fun ns => if kvs.length ≤ bigLine then some (.sh (.bl (ns.any fun n => decide (0 < n))), env) else none
    | _ => none
  | .lset a, env => (evE a env).bind fun p => (p.1.get p.2).bind fun x => (lsetV x).bind fun r => some (.sh r, p.2)
  | .sscK i j, env => match env[j]? with
    | some (.ow (.dt kvs)) => (firsts? kvs).bind fun ks => if ks.length < 1000 ∧ i < env.length then some (.ow (.lst (((dedS ks).map D.str).mergeSort leD)), env) else none
    | _ => none
  | .strI a, env => (evE a env).bind fun p => match p.1 with | .sh (.int n) => if n.natAbs < rngLine then some (.sh (.str (toString n)), p.2) else none | _ => none
  | .sset a, env => (evE a env).bind fun p => (p.1.get p.2).bind fun x => (ssetV x).bind fun r => some (.ow (.lst r), p.2)
  | .orV a b, env => (evE a env).bind fun p => match p.1 with
    | .sh .non => (evE b p.2).bind fun q => match q.1 with | .sh (.tup l) => some (.sh (.tup l), q.2) | _ => none
    | .sh (.tup (d :: l)) => some (.sh (.tup (d :: l)), p.2)
    | _ => none
  | .lc own uses p it cs e, env => (evI it env).bind fun q =>
      (lcD (fun d => (asgP (wipeE (hide (frz q.2 uses)) own) p d).bind fun e1 => (evC cs e1).bind fun c => if c = true then (evE e e1).bind fun r => (leak r.2 r.1).bind fun x => some (some x.1) else some none) q.1).bind fun ds =>
        if ds.length ≤ bigLine then
          if anyOw q.2 uses = false ∨ ds.all D.flat = true then some (.ow (.lst ds), q.2) else some (.ow (.lst ds), frz q.2 uses)
        else none
  | .lc2 own uses own1 p it p1 it1 e, env => (evI it env).bind fun q =>
      (lc2D (fun d => (asgP (wipeE (hide (frz q.2 uses)) own) p d).bind fun e1 => (evI it1 e1).bind fun q1 =>
          lcD (fun d1 => (asgP (wipeE (hide q1.2) own1) p1 d1).bind fun e2 => (evE e e2).bind fun r => (leak r.2 r.1).bind fun x => some (some x.1)) q1.1) q.1).bind fun ds =>
        if ds.length ≤ bigLine then
          if anyOw q.2 uses = false ∨ ds.all D.flat = true then some (.ow (.lst ds), q.2) else some (.ow (.lst ds), frz q.2 uses)
        else none
def evA : Exs → En → Option (List Rv × En)
  | .nil, env => some ([], env)
  | .cons e es, env => (evE e env).bind fun p => (evA es p.2).bind fun q => some (p.1 :: q.1, q.2)
/-- all go out of hand -/
def evL : Exs → En → Option (List D × En)
  | .nil, env => some ([], env)
  | .cons e es, env => (evE e env).bind fun p => (leak p.2 p.1).bind fun t => (evL es t.2).bind fun q => some (t.1 :: q.1, q.2)
def evAnd : Exs → En → Option (Rv × En)
  | .nil, _ => none
  | .cons e .nil, env => (evE e env).bind fun p => match p.1 with | .sh (.bl b) => some (.sh (.bl b), p.2) | _ => none
  | .cons e es, env => (evE e env).bind fun p => match p.1 with | .sh (.bl true) => evAnd es p.2 | .sh (.bl false) => some (.sh (.bl false), p.2) | _ => none
def evOr : Exs → En → Option (Rv × En)
  | .nil, _ => none
  | .cons e .nil, env => (evE e env).bind fun p => match p.1 with | .sh (.bl b) => some (.sh (.bl b), p.2) | _ => none
  | .cons e es, env => (evE e env).bind fun p => match p.1 with | .sh (.bl false) => evOr es p.2 | .sh (.bl true) => some (.sh (.bl true), p.2) | _ => none
def evO : Ox → En → Option (Option Int × En)
  | .no, env => some (none, env)
  | .yes e, env => (evE e env).bind fun p => match p.1 with | .sh (.int i) => some (some i, p.2) | _ => none
def evI : Itx → En → Option (List D × En)
  | .seq e, env => (evE e env).bind fun p => (leak p.2 p.1).bind fun q => (items? q.1).bind fun l => some (l, q.2)
  | .rng1 e, env => (evE e env).bind fun p => match p.1 with
    | .sh (.int n) => if n.natAbs < rngLine then some ((List.range n.toNat).map (fun (k : Nat) => D.int k), p.2) else none
    | _ => none
  | .dkeys e, env => (evE e env).bind fun p => match p.1 with
    | .ow (.dk es) => some (es.map (fun kv => keyD kv.1), p.2)
    | _ => none
  | .enum e, env => (evE e env).bind fun p => (leak p.2 p.1).bind fun q => match q.1 with
    | .lst l => some (enumD l, q.2)
    | _ => none
  | .chars e, env => (evE e env).bind fun p => match p.1 with
    | .sh (.str s) => some (s.cps.toList.map (fun c => D.str ⟨#[c]⟩), p.2)
    | _ => none
  | .rngD a b, env => (evE a env).bind fun p => (evE b p.2).bind fun q => match p.1, q.1 with
    | .sh (.int m), .sh (.int n) => if m.natAbs < rngLine ∧ n.natAbs < rngLine then some ((List.range (m - n).toNat).map (fun (k : Nat) => D.int (m - k)), q.2) else none
    | _, _ => none
  | .rng2 a b, env => (evE a env).bind fun p => (evE b p.2).bind fun q => match p.1, q.1 with
    | .sh (.int m), .sh (.int n) => if m.natAbs < rngLine ∧ n.natAbs < rngLine then some ((List.range (n - m).toNat).map (fun (k : Nat) => D.int (m + k)), q.2) else none
    | _, _ => none
/-- tests of a comprehension, one at most -/
def evC : Exs → En → Option Bool
  | .nil, _ => some true
  | .cons e .nil, env => (evE e env).bind fun p => match p.1 with | .sh (.bl b) => some b | _ => none
  | .cons _ (.cons _ _), _ => none
end

def putV (i : Nat) (k v : D) (env : En) : Option En :=
  match env[i]? with
  | some (.ow (.dk kvs)) => k.key?.bind fun k => if kvs.length < bigLine then some (env.set i (.ow (.dk (putD kvs k v)))) else none
  | some (.ow (.dt kvs)) => match k with
    | .tup l => (D.keyL? l).bind fun k => if kvs.length < bigLine then some (env.set i (.ow (.dt (putD kvs k v)))) else none
    | _ => none
  | some (.ow (.lst l)) => match k with
    | .int j => (ixN l.length j).bind fun j => some (env.set i (.ow (.lst (l.set j v))))
    | _ => none
  | _ => none

def whileMost : Nat := 1000000

/-! ### one's own lists of one's own lists -/
/-- one turn: the element is one's own new list of flat things -/
def nwStep (p : Pt) (e : Ex) (envb : En) (d : D) : Option (Option D) :=
  (asgP envb p d).bind fun e1 => (evE R e e1).bind fun r => match r.1 with | .ow (.lst l) => if l.all D.flat = true then some (some (.lst l)) else none | _ => none
def nwV (own uses : List Nat) (p : Pt) (it : Itx) (e : Ex) (env : En) : Option (List D × En) :=
  (evI R it env).bind fun q => (lcD (nwStep R p e (wipeE (hide (frz q.2 uses)) own)) q.1).bind fun ds => if ds.length ≤ bigLine then some (ds, q.2) else none
def isNw : Sl → Bool | .nw _ => true | _ => false
/-- no other slot hides lists -/
def lone (i : Nat) (env : En) : Bool := (env.set i .u).all fun s => !(isNw s)
def set2 (i : Nat) (x y : Int) (d : D) (env : En) : Option En := match env[i]? with
  | some (.nw ls) => (ixN ls.length x).bind fun k => match ls[k]? with
    | some (.lst ds) => (ixN ds.length y).bind fun m => if lone i env = true then some (env.set i (.nw (ls.set k (.lst (ds.set m d))))) else none
    | _ => none
  | _ => none
def put2V (i : Nat) (a b e : Ex) (env : En) : Option En :=
  (evE R e env).bind fun p => match p.1, p.2[i]? with
    | .sh d, some (.nw _) => (evE R a p.2).bind fun q => match q.1, q.2[i]? with
      | .sh (.int x), some (.nw l1) => (atI l1 x).bind fun _ => (evE R b q.2).bind fun t => match t.1 with
        | .sh (.int y) => set2 i x y d t.2
        | _ => none
      | _, _ => none
    | _, _ => none
/-- what a call raises -/
def exC (f : Nat) (as : Exs) (env : En) : Option (En × Nat × List D) :=
  (evA R as env).bind fun p => (getAll p.2 p.1).bind fun ds => (leakAll p.2 p.1).bind fun e => match R f ds with
    | some (.ex c fs) => some (e, c, fs)
    | _ => none
def Rx.ev (told : Bool) (fs : List D) : Rx → Option D
  | .no => some .non
  | .f1 k => if told = true then fs[k]? else some .non
  | .f2 j k => if told = true then fs[j]?.bind fun a => fs[k]?.bind fun b => some (.tup [a, b]) else some .non

def wipeOut (w : List Nat) : Out → Out
  | .nx e => .nx (wipeE e w)
  | .bk e => .bk (wipeE e w)
  | .ct e => .ct (wipeE e w)
  | .rt v => .rt v
  | .rx e c fs => .rx e c fs

def noRx : Out → Bool | .rx _ _ _ => false | .rt (.mu _ _) => false | .rt (.ex _ _) => false | _ => true
/-- a value is stored -/
def store (env : En) (i : Nat) : Rv → Option En
  | .sh d => if i < env.length then some (env.set i (.sh d)) else none
  | .ow d => if i < env.length then some (env.set i (.ow d)) else none
  | .bo j => (leak env (.bo j)).bind fun p => if i < env.length then some (p.2.set i (.sh p.1)) else none
def retV (env : En) : Rv → Option Nv
  | .sh d => some (.sh d)
  | .ow d => some (.ow d)
  | .bo j => (getAt env j).bind fun d => some (.ow d)

mutual
def evS : St → En → Option Out
  | .asg i e, env => (evE R e env).bind fun p => (store p.2 i p.1).bind fun e => some (.nx e)
  | .unp is e, env => (evE R e env).bind fun p => (leak p.2 p.1).bind fun q => match q.1 with
    | .tup l => (asgs q.2 is l).bind fun e => some (.nx e)
    | .lst l => (asgs q.2 is l).bind fun e => some (.nx e)
    | _ => none
  | .app i e, env => match env[i]? with
    | some (.ow (.lst _)) => (evE R e env).bind fun p => (leak p.2 p.1).bind fun q => match q.2[i]? with
      | some (.ow (.lst l)) => if l.length < bigLine then some (.nx (q.2.set i (.ow (.lst (l ++ [q.1]))))) else none
      | _ => none
    | _ => none
  | .par i j a b, env => (evE R a env).bind fun p => (evE R b p.2).bind fun q => match p.1, q.1 with
    | .sh x, .sh y => if i < q.2.length ∧ j < q.2.length then some (.nx ((q.2.set i (.sh x)).set j (.sh y))) else none
    | _, _ => none
  | .aug i e, env => match env[i]? with
    | some (.sh (.int m)) => (evE R e env).bind fun p => match p.1 with
      | .sh (.int n) => if i < p.2.length then some (.nx (p.2.set i (.sh (.int (m + n))))) else none
      | _ => none
    | _ => none
  | .put i k e, env => match env[i]? with
    | some (.ow _) => (evE R e env).bind fun p => (leak p.2 p.1).bind fun q => (evE R k q.2).bind fun t => (leak t.2 t.1).bind fun z => (putV i z.1 q.1 z.2).bind fun e => some (.nx e)
    | _ => none
  | .exp e, env => (evE R e env).bind fun p => some (.nx p.2)
  | .ifs c a b, env => (evE R c env).bind fun p => match p.1 with
    | .sh (.bl true) => evSs a p.2
    | .sh (.bl false) => evSs b p.2
    | _ => none
  | .for_ p it body w, env => (evI R it env).bind fun q => forD (fun d e => (asgP e p d).bind fun e1 => (evSs body e1).bind fun o => some (wipeOut w o)) q.1 q.2
  | .forK i p body w, env => (lkItemsO p env[i]?).bind fun q => (forD (fun d e => (asgP e p d).bind fun e1 => (evSs body e1).bind fun o => some (wipeOut w o)) q.2 (env.set i (.sh q.1))).bind fun o => if noRx o = true then some o else none
  | .swp i a b, env => match env[i]?, env[a]?, env[b]? with
    | some (.ow (.lst m)), some (.sh (.int x)), some (.sh (.int y)) => (ixN m.length x).bind fun k => (ixN m.length y).bind fun j =>
        (m[k]?).bind fun u => (m[j]?).bind fun v => some (.nx (env.set i (.ow (.lst ((m.set k v).set j u)))))
    | _, _, _ => none
  | .while_ c body w, env => whileD (fun e => (evE R c e).bind fun p => match p.1 with | .sh (.bl b) => some (b, p.2) | _ => none) (fun e => (evSs body e).bind fun o => some (wipeOut w o)) whileMost env
  | .ret e, env => (evE R e env).bind fun p => (retV p.2 p.1).bind fun r => some (.rt r)
  | .retM ms e, env => (evE R e env).bind fun p => match p.1 with
    | .sh d => (owAll p.2 ms).bind fun fs => some (.rt (.mu d fs))
    | _ => none
  | .retN, _ => some (.rt (.sh .non))
  | .brk, env => some (.bk env)
  | .cnt, env => some (.ct env)
  | .pass, env => some (.nx env)
  | .never, _ => none
  | .asgN i own uses p it e, env => (nwV R own uses p it e env).bind fun q => if i < q.2.length then some (.nx (q.2.set i (.nw q.1))) else none
  | .put2 i a b e, env => (put2V R i a b e env).bind fun e => some (.nx e)
  | .asgX i f as, env => match exC R f as env with
    | some q => some (.rx q.1 q.2.1 q.2.2)
    | none => (evE R (.callX f as) env).bind fun p => (store p.2 i p.1).bind fun e => some (.nx e)
  | .expX f as, env => match exC R f as env with
    | some q => some (.rx q.1 q.2.1 q.2.2)
    | none => (evE R (.callX f as) env).bind fun p => some (.nx p.2)
  | .retX f as, env => match exC R f as env with
    | some q => some (.rx q.1 q.2.1 q.2.2)
    | none => (evE R (.callX f as) env).bind fun p => (retV p.2 p.1).bind fun r => some (.rt r)
  | .unpX is f as, env => match exC R f as env with
    | some q => some (.rx q.1 q.2.1 q.2.2)
    | none => (evE R (.callX f as) env).bind fun p => (leak p.2 p.1).bind fun q => match q.1 with
      | .tup l => (asgs q.2 is l).bind fun e => some (.nx e)
      | .lst l => (asgs q.2 is l).bind fun e => some (.nx e)
      | _ => none
  | .forX p f as body w, env => match exC R f as env with
    | some q => some (.rx q.1 q.2.1 q.2.2)
    | none => (evI R (.seq (.callX f as)) env).bind fun q => forD (fun d e => (asgP e p d).bind fun e1 => (evSs body e1).bind fun o => some (wipeOut w o)) q.1 q.2
  | .raise c as, env => (evL R as env).bind fun p => some (.rx p.2 c p.1)
  | .try_ body hs g i r, env => (evSs body env).bind fun o => match o with
    | .rx e c fs => if hs.contains c = true then if i < e.length then (r.ev (g.contains c) fs).bind fun d => some (.rt (.sh d)) else none else some (.rx e c fs)
    | o => some o
def evSs : Sts → En → Option Out
  | .nil, env => some (.nx env)
  | .cons s ss, env => (evS s env).bind fun o => match o with
    | .nx e => evSs ss e
    | o => some o
  | .un i ss, env => match env[i]? with
    | some (.nw ls) => if lone i env = true then evSs ss (env.set i (.sh (.lst ls))) else none
    | _ => none
end
end

/-- a def: its name, how many parameters, how many slots, its body; mp: the last so many parameters are changed -/
structure Fx where
  np : Nat
  ns : Nat
  body : Sts
  mp : Nat
  /-- it may raise -/
  xr : Bool
abbrev Tab := Nat → Option Fx
def startE (fx : Fx) (ds : List D) : En := ds.map Sl.sh ++ List.replicate (fx.ns - fx.np) .u
def startM (fx : Fx) (ds : List D) : En := (ds.take (fx.np - fx.mp)).map Sl.sh ++ (ds.drop (fx.np - fx.mp)).map Sl.ow ++ List.replicate (fx.ns - fx.np) .u
def runF (R : Run) (fx : Fx) (ds : List D) : Option Nv :=
  if ds.length = fx.np then
    if fx.mp = 0 then (evSs R fx.body (startE fx ds)).bind fun o => match o with
      | .rt v => if isMu v = true then none else some v
      | .nx _ => some (.sh .non)
      | .rx _ c fs => if fx.xr = true then some (.ex c fs) else none
      | _ => none
    else (evSs R fx.body (startM fx ds)).bind fun o => match o with
      | .rt v => if isMu v = true ∧ isEx v = false then some v else none
      | _ => none
  else none
def run (T : Tab) : Nat → Run
  | 0 => fun _ _ => none
  | k + 1 => fun f ds => (T f).bind fun fx => runF (run T k) fx ds

end Ts

set_option linter.all false
set_option autoImplicit false
/-! How plain values lie in the heap: Rp (shared things, by the part F of the heap that nobody changes any more), OwnAt (one's own list or dict), SR (all slots). -/
namespace Ts
open PySem L2

/-- a bare tuple object -/
def BareT (o : Obj) : Prop := o.cls = .type "tuple" ∧ o.dict = none
def isTp : HO → Bool | .tup _ => true | .frz _ (.tup _) => true | _ => false
section
variable (K : PySem.W.Frag) (F : Hp)
mutual
inductive Rp : V → D → Prop
  | non : Rp .non .non
  | bl (b : Bool) : Rp (.bl b) (.bl b)
  | int (i : Int) : Rp (.int i) (.int i)
  | str (s : Str) : Rp (.str s) (.str s)
  | tup {a : Addr} {xs : List V} {ds : List D} : F a = some (.tup xs) → RpL xs ds → Rp (.ref a) (.tup ds)
  | lst {a : Addr} {xs : List V} {ds : List D} : F a = some (.lst xs) → RpL xs ds → Rp (.ref a) (.lst ds)
  | scr {a : Addr} {ns : List Int} : SqL K F a (ns.map V.int) → Rp (.ref a) (.scr ns)
  | dk {a : Addr} {kvs : List (Key × V)} {es : List (Key × D)} : Rd F a (.dK kvs) → RpK kvs es → Rp (.ref a) (.dk es)
  | dt {a : Addr} {kvs : List (List Key × V)} {es : List (List Key × D)} : Rd F a (.dT kvs) → RpT kvs es → Rp (.ref a) (.dt es)
  | tpn {a : Addr} {o : Obj} {xs : List V} {ds : List D} : F a = some (.frz o (.tup xs)) → BareT o → RpL xs ds → Rp (.ref a) (.tpn ds)
inductive RpL : List V → List D → Prop
  | nil : RpL [] []
  | cons {v : V} {d : D} {vs : List V} {ds : List D} : Rp v d → RpL vs ds → RpL (v :: vs) (d :: ds)
inductive RpK : List (Key × V) → List (Key × D) → Prop
  | nil : RpK [] []
  | cons {k : Key} {v : V} {d : D} {vs : List (Key × V)} {ds : List (Key × D)} : Rp v d → RpK vs ds → RpK ((k, v) :: vs) ((k, d) :: ds)
inductive RpT : List (List Key × V) → List (List Key × D) → Prop
  | nil : RpT [] []
  | cons {k : List Key} {v : V} {d : D} {vs : List (List Key × V)} {ds : List (List Key × D)} : Rp v d → RpT vs ds → RpT ((k, v) :: vs) ((k, d) :: ds)
end
end

theorem rd_mono {F F' : Hp} {a : Addr} {u : HO} (s : Same F F') : Rd F a u → Rd F' a u
  | .inl h => .inl (s _ _ h)
  | .inr ⟨o, h⟩ => .inr ⟨o, s _ _ h⟩

section
variable {K : PySem.W.Frag} {F F' : Hp}
mutual
theorem Rp.mono (s : Same F F') : ∀ {v : V} {d : D}, Rp K F v d → Rp K F' v d
  | _, _, .non => .non
  | _, _, .bl b => .bl b
  | _, _, .int i => .int i
  | _, _, .str i => .str i
  | _, _, .tup h r => .tup (s _ _ h) (RpL.mono s r)
  | _, _, .lst h r => .lst (s _ _ h) (RpL.mono s r)
  | _, _, .scr h => .scr (s.seq h)
  | _, _, .dk h r => .dk (rd_mono s h) (RpK.mono s r)
  | _, _, .dt h r => .dt (rd_mono s h) (RpT.mono s r)
  | _, _, .tpn h b r => .tpn (s _ _ h) b (RpL.mono s r)
theorem RpL.mono (s : Same F F') : ∀ {v : List V} {d : List D}, RpL K F v d → RpL K F' v d
  | _, _, .nil => .nil
  | _, _, .cons h r => .cons (Rp.mono s h) (RpL.mono s r)
theorem RpK.mono (s : Same F F') : ∀ {v : List (Key × V)} {d : List (Key × D)}, RpK K F v d → RpK K F' v d
  | _, _, .nil => .nil
  | _, _, .cons h r => .cons (Rp.mono s h) (RpK.mono s r)
theorem RpT.mono (s : Same F F') : ∀ {v : List (List Key × V)} {d : List (List Key × D)}, RpT K F v d → RpT K F' v d
  | _, _, .nil => .nil
  | _, _, .cons h r => .cons (Rp.mono s h) (RpT.mono s r)
end

/-- flat things lean on tuples alone -/
def SameT (F F' : Hp) : Prop := ∀ b u, isTp u = true → F b = some u → F' b = some u
mutual
theorem Rp.flat (s : SameT F F') : ∀ {v : V} {d : D}, d.flat = true → Rp K F v d → Rp K F' v d
  | _, _, _, .non => .non
  | _, _, _, .bl b => .bl b
  | _, _, _, .int i => .int i
  | _, _, _, .str i => .str i
  | _, _, e, .tup h r => .tup (s _ _ rfl h) (RpL.flat s (by simpa [D.flat] using e) r)
  | _, _, e, .tpn h b r => .tpn (s _ _ rfl h) b (RpL.flat s (by simpa [D.flat] using e) r)
  | _, _, e, .lst h r => by simp [D.flat] at e
  | _, _, e, .scr h => by simp [D.flat] at e
  | _, _, e, .dk h r => by simp [D.flat] at e
  | _, _, e, .dt h r => by simp [D.flat] at e
theorem RpL.flat (s : SameT F F') : ∀ {v : List V} {d : List D}, D.flats d = true → RpL K F v d → RpL K F' v d
  | _, _, _, .nil => .nil
  | _, _, e, .cons h r => by
    simp only [D.flats, Bool.and_eq_true] at e
    exact .cons (Rp.flat s e.1 h) (RpL.flat s e.2 r)
end

theorem RpL.length : ∀ {v : List V} {d : List D}, RpL K F v d → v.length = d.length
  | _, _, .nil => rfl
  | _, _, .cons _ r => by simp [RpL.length r]
theorem RpL.get : ∀ {v : List V} {d : List D} {i : Nat} {x : D}, RpL K F v d → d[i]? = some x → ∃ y, v[i]? = some y ∧ Rp K F y x
  | _, _, _, _, .nil, e => by simp at e
  | _, _, 0, _, .cons h r, e => by simp at e; subst e; exact ⟨_, rfl, h⟩
  | _, _, i + 1, _, .cons h r, e => by
    obtain ⟨y, h1, h2⟩ := RpL.get (i := i) r (by simpa using e)
    exact ⟨y, by simpa using h1, h2⟩
theorem RpL.getV : ∀ {v : List V} {d : List D} {i : Nat} {x : V}, RpL K F v d → v[i]? = some x → ∃ y, d[i]? = some y ∧ Rp K F x y
  | _, _, _, _, .nil, e => by simp at e
  | _, _, 0, _, .cons h r, e => by simp at e; subst e; exact ⟨_, rfl, h⟩
  | _, _, i + 1, _, .cons h r, e => by
    obtain ⟨y, h1, h2⟩ := RpL.getV (i := i) r (by simpa using e)
    exact ⟨y, by simpa using h1, h2⟩
theorem RpL.append : ∀ {v w : List V} {d e : List D}, RpL K F v d → RpL K F w e → RpL K F (v ++ w) (d ++ e)
  | _, _, _, _, .nil, s => s
  | _, _, _, _, .cons h r, s => .cons h (RpL.append r s)
theorem RpL.one {v : V} {d : D} (h : Rp K F v d) : RpL K F [v] [d] := .cons h .nil
theorem RpL.set {x : V} {y : D} (h : Rp K F x y) : ∀ {v : List V} {d : List D} (i : Nat), RpL K F v d → RpL K F (v.set i x) (d.set i y)
  | _, _, _, .nil => .nil
  | _, _, 0, .cons _ r => .cons h r
  | _, _, i + 1, .cons g r => .cons g (RpL.set h i r)
theorem RpL.take : ∀ {v : List V} {d : List D} (n : Nat), RpL K F v d → RpL K F (v.take n) (d.take n)
  | _, _, 0, _ => .nil
  | _, _, _ + 1, .nil => .nil
  | _, _, n + 1, .cons h r => .cons h (RpL.take n r)
theorem RpL.drop : ∀ {v : List V} {d : List D} (n : Nat), RpL K F v d → RpL K F (v.drop n) (d.drop n)
  | _, _, 0, r => r
  | _, _, _ + 1, .nil => .nil
  | _, _, n + 1, .cons _ r => RpL.drop n r
theorem RpL.dropLast : ∀ {v : List V} {d : List D}, RpL K F v d → RpL K F v.dropLast d.dropLast
  | _, _, .nil => .nil
  | _, _, .cons h .nil => .nil
  | _, _, .cons h (.cons g r) => .cons h (RpL.dropLast (.cons g r))
theorem RpL.rep {v : List V} {d : List D} (h : RpL K F v d) : ∀ k : Nat, RpL K F (List.replicate k v).flatten (List.replicate k d).flatten
  | 0 => .nil
  | k + 1 => by
    rw [List.replicate_succ, List.replicate_succ, List.flatten_cons, List.flatten_cons]
    exact h.append (RpL.rep h k)
theorem RpL.reverse : ∀ {v : List V} {d : List D}, RpL K F v d → RpL K F v.reverse d.reverse
  | _, _, .nil => .nil
  | _, _, .cons h r => by
    rw [List.reverse_cons, List.reverse_cons]
    exact (RpL.reverse r).append (.one h)
theorem RpK.length : ∀ {v : List (Key × V)} {d : List (Key × D)}, RpK K F v d → v.length = d.length
  | _, _, .nil => rfl
  | _, _, .cons _ r => by simp [RpK.length r]
theorem RpT.length : ∀ {v : List (List Key × V)} {d : List (List Key × D)}, RpT K F v d → v.length = d.length
  | _, _, .nil => rfl
  | _, _, .cons _ r => by simp [RpT.length r]
def RpO (K : PySem.W.Frag) (F : Hp) : Option V → Option D → Prop
  | some v, some d => Rp K F v d
  | none, none => True
  | _, _ => False
theorem RpK.val : ∀ {v : List (Key × V)} {d : List (Key × D)} (k : Key), RpK K F v d → RpO K F (valV v k) (valD d k)
  | _, _, k, .nil => True.intro
  | _, _, k, .cons (k := j) (v := x) (d := y) h r => by
    have ih := RpK.val k r
    by_cases e : j = k
    · simpa [valV, valD, List.find?_cons, e, RpO] using h
    · simpa [valV, valD, List.find?_cons, e] using ih
theorem RpT.val : ∀ {v : List (List Key × V)} {d : List (List Key × D)} (k : List Key), RpT K F v d → RpO K F (valV v k) (valD d k)
  | _, _, k, .nil => True.intro
  | _, _, k, .cons (k := j) (v := x) (d := y) h r => by
    have ih := RpT.val k r
    by_cases e : j = k
    · simpa [valV, valD, List.find?_cons, e, RpO] using h
    · simpa [valV, valD, List.find?_cons, e] using ih
theorem RpK.any : ∀ {v : List (Key × V)} {d : List (Key × D)} (k : Key), RpK K F v d → (v.any fun kv => decide (kv.1 = k)) = (d.any fun kv => decide (kv.1 = k))
  | _, _, k, .nil => rfl
  | _, _, k, .cons h r => by simp only [List.any_cons]; rw [RpK.any k r]
theorem RpT.any : ∀ {v : List (List Key × V)} {d : List (List Key × D)} (k : List Key), RpT K F v d → (v.any fun kv => decide (kv.1 = k)) = (d.any fun kv => decide (kv.1 = k))
  | _, _, k, .nil => rfl
  | _, _, k, .cons h r => by simp only [List.any_cons]; rw [RpT.any k r]
theorem RpK.snoc {k : Key} {x : V} {y : D} (h : Rp K F x y) : ∀ {v : List (Key × V)} {d : List (Key × D)}, RpK K F v d → RpK K F (v ++ [(k, x)]) (d ++ [(k, y)])
  | _, _, .nil => .cons h .nil
  | _, _, .cons g r => .cons g (RpK.snoc h r)
theorem RpT.snoc {k : List Key} {x : V} {y : D} (h : Rp K F x y) : ∀ {v : List (List Key × V)} {d : List (List Key × D)}, RpT K F v d → RpT K F (v ++ [(k, x)]) (d ++ [(k, y)])
  | _, _, .nil => .cons h .nil
  | _, _, .cons g r => .cons g (RpT.snoc h r)
theorem RpK.mapK {k : Key} {x : V} {y : D} (h : Rp K F x y) : ∀ {v : List (Key × V)} {d : List (Key × D)}, RpK K F v d → RpK K F (v.map fun kv => if kv.1 = k then (kv.1, x) else kv) (d.map fun kv => if kv.1 = k then (kv.1, y) else kv)
  | _, _, .nil => .nil
  | _, _, .cons (k := j) g r => by
    have ih := RpK.mapK (k := k) h r
    rw [List.map_cons, List.map_cons]
    by_cases e : j = k
    · simp only [e, if_true]; exact .cons h ih
    · simp only [e, if_false]; exact .cons g ih
theorem RpT.mapK {k : List Key} {x : V} {y : D} (h : Rp K F x y) : ∀ {v : List (List Key × V)} {d : List (List Key × D)}, RpT K F v d → RpT K F (v.map fun kv => if kv.1 = k then (kv.1, x) else kv) (d.map fun kv => if kv.1 = k then (kv.1, y) else kv)
  | _, _, .nil => .nil
  | _, _, .cons (k := j) g r => by
    have ih := RpT.mapK (k := k) h r
    rw [List.map_cons, List.map_cons]
    by_cases e : j = k
    · simp only [e, if_true]; exact .cons h ih
    · simp only [e, if_false]; exact .cons g ih
theorem RpK.put {k : Key} {x : V} {y : D} (h : Rp K F x y) {v : List (Key × V)} {d : List (Key × D)} (r : RpK K F v d) : RpK K F (putK v k x) (putD d k y) := by
  unfold putK putD
  rw [r.any k]
  split
  · exact RpK.mapK h r
  · exact RpK.snoc h r
theorem RpT.put {k : List Key} {x : V} {y : D} (h : Rp K F x y) {v : List (List Key × V)} {d : List (List Key × D)} (r : RpT K F v d) : RpT K F (putK v k x) (putD d k y) := by
  unfold putK putD
  rw [r.any k]
  split
  · exact RpT.mapK h r
  · exact RpT.snoc h r
end

/-! ### what holds for a whole def -/
structure Cfg where
  ts : List Addr
  pin : List (Nat × Addr)
/-- what stays still: h now, b0 since the def's beginning -/
structure Bs (C : Cfg) where
  of ::
  h : Hp
  b0 : Hp
  le : Same b0 h
@[reducible] def Bs.mk {C : Cfg} (h : Hp) : Bs C := ⟨h, h, fun _ _ e => e⟩
instance {C : Cfg} : CoeFun (Bs C) fun _ => Addr → Option HO := ⟨Bs.h⟩
def isTbl : HO → Bool | .tbl _ => true | _ => false
/-- not one of these tables -/
def Kp (ts : List Addr) (b : Addr) : HO → Prop | .tbl _ => b ∉ ts | _ => True
theorem kp_of {ts : List Addr} {b : Addr} {o : HO} (h : isTbl o = false) : Kp ts b o := by
  cases o <;> first | trivial | cases h
/-- all but the tables stays -/
def SameN (ts : List Addr) (H H' : Hp) : Prop := ∀ b o, H b = some o → Kp ts b o → H' b = some o
theorem SameN.of {ts : List Addr} {H H' : Hp} (s : Same H H') : SameN ts H H' := fun b o h _ => s b o h
theorem SameN.refl {ts : List Addr} {H : Hp} : SameN ts H H := fun _ _ h _ => h
theorem SameN.trans {ts : List Addr} {H1 H2 H3 : Hp} (a : SameN ts H1 H2) (b : SameN ts H2 H3) : SameN ts H1 H3 := fun c o h n => b c o (a c o h n) n
def NoT (F : Hp) : Prop := ∀ b o, F b = some o → isTbl o = false
theorem NoT.put1 {F : Hp} {p : Addr} {o : HO} (n : NoT F) (h : isTbl o = false) : NoT (upd F p o) := fun b u e => by
  by_cases hb : b = p
  · subst hb; rw [upd_same] at e; cases e; exact h
  · rw [upd_ne hb] at e; exact n b u e
def KpA (ts : List Addr) (B : Hp) : Prop := ∀ b o, B b = some o → Kp ts b o
theorem KpA.put1 {ts : List Addr} {F : Hp} {p : Addr} {o : HO} (n : KpA ts F) (h : isTbl o = false) : KpA ts (upd F p o) := fun b u e => by
  by_cases hb : b = p
  · subst hb; rw [upd_same] at e; cases e; exact kp_of h
  · rw [upd_ne hb] at e; exact n b u e
/-- what was not shared, is not -/
def NewF (ts : List Addr) (H F F' : Hp) : Prop := ∀ b o, H b = some o → Kp ts b o → F b = none → F' b = none
/-- the tables are there -/
def Tabs (ts : List Addr) (H : Hp) : Prop := ∀ P ∈ ts, GxR.TabG H P
theorem Tabs.put1 {ts : List Addr} {H : Hp} {p : Addr} {o : HO} (t : Tabs ts H) (h : ∀ ps, H p ≠ some (.tbl ps)) : Tabs ts (upd H p o) := fun P hP => by
  obtain ⟨ps, e, r⟩ := t P hP
  have hne : P ≠ p := fun z => h ps (by rw [← z]; exact e)
  exact ⟨ps, by rw [upd_ne hne]; exact e, r⟩
theorem Tabs.new {ts : List Addr} {H : Hp} {p : Addr} {o : HO} (t : Tabs ts H) (h : H p = none) : Tabs ts (upd H p o) := t.put1 (fun ps e => by rw [h] at e; cases e)
def PinOk (C : Cfg) (i : Nat) (p : Addr) : Prop := ∀ q ∈ C.pin, q.1 = i → q.2 = p

/-- one's own list or dict at p -/
def OwnAt (K : PySem.W.Frag) (F H : Hp) (p : Addr) : D → Prop
  | .lst ds => ∃ xs, H p = some (.lst xs) ∧ RpL K F xs ds
  | .dk es => ∃ kvs, H p = some (.dK kvs) ∧ RpK K F kvs es
  | .dt es => ∃ kvs, H p = some (.dT kvs) ∧ RpT K F kvs es
  | _ => False
theorem OwnAt.mono {K : PySem.W.Frag} {F F' H H' : Hp} {p : Addr} {d : D} (s : Same F F') (h : H' p = H p) (o : OwnAt K F H p d) : OwnAt K F' H' p d := by
  cases d <;> simp only [OwnAt] at o ⊢
  case lst ds => obtain ⟨xs, e, r⟩ := o; exact ⟨xs, h.trans e, r.mono s⟩
  case dk ds => obtain ⟨xs, e, r⟩ := o; exact ⟨xs, h.trans e, r.mono s⟩
  case dt ds => obtain ⟨xs, e, r⟩ := o; exact ⟨xs, h.trans e, r.mono s⟩
theorem OwnAt.some {K : PySem.W.Frag} {F H : Hp} {p : Addr} {d : D} (o : OwnAt K F H p d) : ∃ u, H p = some u ∧ isTp u = false ∧ isTbl u = false := by
  cases d <;> simp only [OwnAt] at o
  case lst ds => obtain ⟨xs, e, r⟩ := o; exact ⟨_, e, rfl, rfl⟩
  case dk ds => obtain ⟨xs, e, r⟩ := o; exact ⟨_, e, rfl, rfl⟩
  case dt ds => obtain ⟨xs, e, r⟩ := o; exact ⟨_, e, rfl, rfl⟩
/-- it is shared from now on -/
theorem OwnAt.rp {K : PySem.W.Frag} {F F' H : Hp} {p : Addr} {d : D} (s : Same F F') (h : F' p = H p) (o : OwnAt K F H p d) : Rp K F' (.ref p) d := by
  cases d <;> simp only [OwnAt] at o
  case lst ds => obtain ⟨xs, e, r⟩ := o; exact .lst (h.trans e) (r.mono s)
  case dk ds => obtain ⟨xs, e, r⟩ := o; exact .dk (.inl (h.trans e)) (r.mono s)
  case dt ds => obtain ⟨xs, e, r⟩ := o; exact .dt (.inl (h.trans e)) (r.mono s)

/-- a value as it is read now -/
def Cr (K : PySem.W.Frag) (F H : Hp) (v : V) (d : D) : Prop := Rp K F v d ∨ ∃ p, v = .ref p ∧ OwnAt K F H p d

theorem Cr.lst {K : PySem.W.Frag} {F H : Hp} (s : Same F H) {v : V} {ds : List D} (c : Cr K F H v (.lst ds)) : ∃ a xs, v = .ref a ∧ H a = some (.lst xs) ∧ RpL K F xs ds := by
  rcases c with c | ⟨p, rfl, xs, h, r⟩
  · cases c with
    | lst h r => exact ⟨_, _, rfl, s _ _ h, r⟩
  · exact ⟨p, xs, rfl, h, r⟩
theorem Cr.scr {K : PySem.W.Frag} {F H : Hp} (s : Same F H) {v : V} {ns : List Int} (c : Cr K F H v (.scr ns)) : ∃ a, v = .ref a ∧ SqL K H a (ns.map V.int) := by
  rcases c with c | ⟨p, rfl, c⟩
  · cases c with
    | scr h => exact ⟨_, rfl, s.seq h⟩
  · exact c.elim
theorem Cr.tup {K : PySem.W.Frag} {F H : Hp} (s : Same F H) {v : V} {ds : List D} (c : Cr K F H v (.tup ds)) : ∃ a xs, v = .ref a ∧ H a = some (.tup xs) ∧ RpL K F xs ds := by
  rcases c with c | ⟨p, rfl, c⟩
  · cases c with
    | tup h r => exact ⟨_, _, rfl, s _ _ h, r⟩
  · exact c.elim
theorem Cr.tpn {K : PySem.W.Frag} {F H : Hp} (s : Same F H) {v : V} {ds : List D} (c : Cr K F H v (.tpn ds)) : ∃ a o xs, v = .ref a ∧ BareT o ∧ H a = some (.frz o (.tup xs)) ∧ RpL K F xs ds := by
  rcases c with c | ⟨p, rfl, c⟩
  · cases c with
    | tpn h b r => exact ⟨_, _, _, rfl, b, s _ _ h, r⟩
  · exact c.elim
theorem Cr.dk {K : PySem.W.Frag} {F H : Hp} (s : Same F H) {v : V} {ds : List (Key × D)} (c : Cr K F H v (.dk ds)) : ∃ a xs, v = .ref a ∧ Rd H a (.dK xs) ∧ RpK K F xs ds := by
  rcases c with c | ⟨p, rfl, xs, h, r⟩
  · cases c with
    | dk h r => exact ⟨_, _, rfl, rd_mono s h, r⟩
  · exact ⟨p, xs, rfl, .inl h, r⟩
theorem Cr.dt {K : PySem.W.Frag} {F H : Hp} (s : Same F H) {v : V} {ds : List (List Key × D)} (c : Cr K F H v (.dt ds)) : ∃ a xs, v = .ref a ∧ Rd H a (.dT xs) ∧ RpT K F xs ds := by
  rcases c with c | ⟨p, rfl, xs, h, r⟩
  · cases c with
    | dt h r => exact ⟨_, _, rfl, rd_mono s h, r⟩
  · exact ⟨p, xs, rfl, .inl h, r⟩
theorem Cr.int {K : PySem.W.Frag} {F H : Hp} {v : V} {i : Int} (c : Cr K F H v (.int i)) : v = .int i := by
  rcases c with c | ⟨p, rfl, c⟩
  · cases c; rfl
  · exact c.elim
theorem Cr.str {K : PySem.W.Frag} {F H : Hp} {v : V} {i : Str} (c : Cr K F H v (.str i)) : v = .str i := by
  rcases c with c | ⟨p, rfl, c⟩
  · cases c; rfl
  · exact c.elim
theorem Cr.bl {K : PySem.W.Frag} {F H : Hp} {v : V} {i : Bool} (c : Cr K F H v (.bl i)) : v = .bl i := by
  rcases c with c | ⟨p, rfl, c⟩
  · cases c; rfl
  · exact c.elim
theorem Cr.non {K : PySem.W.Frag} {F H : Hp} {v : V} (c : Cr K F H v .non) : v = .non := by
  rcases c with c | ⟨p, rfl, c⟩
  · cases c; rfl
  · exact c.elim

/-! ### all slots -/
/-- one's own list of one's own lists: hidden in what stays still -/
def NwOk (K : PySem.W.Frag) {C : Cfg} (B : Bs C) (F : Hp) (p : Addr) (ls : List D) : Prop :=
  ∃ qs : List Addr, B p = some (.lst (qs.map V.ref)) ∧ B.b0 p = none ∧ (p :: qs).Nodup ∧ qs.length = ls.length ∧
    ∀ (k : Nat) (q : Addr), qs[k]? = some q → B.b0 q = none ∧ ∃ ds xs, ls[k]? = some (.lst ds) ∧ B q = some (.lst xs) ∧ RpL K F xs ds
theorem NwOk.mono {K : PySem.W.Frag} {C : Cfg} {B : Bs C} {F F' : Hp} {p : Addr} {ls : List D} (s : Same F F') (o : NwOk K B F p ls) : NwOk K B F' p ls := by
  obtain ⟨qs, h1, h2, h3, h4, h5⟩ := o
  refine ⟨qs, h1, h2, h3, h4, fun k q e => ?_⟩
  obtain ⟨g1, ds, xs, g2, g3, g4⟩ := h5 k q e
  exact ⟨g1, ds, xs, g2, g3, g4.mono s⟩
def SlOk (K : PySem.W.Frag) {C : Cfg} (B : Bs C) (F H : Hp) (σ : L2.St) (i : Nat) : Sl → Prop
  | .u => True
  | .sh d => ∃ v, σ[i]? = some (some v) ∧ Rp K F v d
  | .ow d => ∃ p, σ[i]? = some (some (V.ref p)) ∧ OwnAt K F H p d ∧ F p = none ∧ B p = none ∧ PinOk C i p
  | .nw ls => ∃ p, σ[i]? = some (some (V.ref p)) ∧ NwOk K B F p ls
structure SR (K : PySem.W.Frag) {C : Cfg} (B : Bs C) (F H : Hp) (σ : L2.St) (env : En) : Prop where
  len : env.length = σ.length
  bas : Same B.h H
  frz : Same F H
  dis : ∀ (b : Addr) (o : HO), B b = some o → F b = none
  slot : ∀ (i : Nat) (s : Sl), env[i]? = some s → SlOk K B F H σ i s
  inj : ∀ (i j : Nat) (d e : D) (p : Addr), env[i]? = some (Sl.ow d) → env[j]? = some (Sl.ow e) → σ[i]? = some (some (V.ref p)) → σ[j]? = some (some (V.ref p)) → i = j
  nb : KpA C.ts B.h
  nf : NoT F
  tab : Tabs C.ts H

/-- the slots' own objects -/
def Owns (σ : L2.St) (env : En) (p : Addr) : Prop := ∃ (i : Nat) (d : D), env[i]? = some (Sl.ow d) ∧ σ[i]? = some (some (V.ref p))

/-- what is shared stays -/
structure Ext (F F' : Hp) : Prop where
  ff : Same F F'
theorem Ext.refl {F : Hp} : Ext F F := ⟨.refl _⟩
theorem Ext.trans {F1 F2 F3 : Hp} (a : Ext F1 F2) (b : Ext F2 F3) : Ext F1 F3 := ⟨a.ff.trans b.ff⟩

/-- what an expression has given -/
def RvOk (K : PySem.W.Frag) {C : Cfg} (B : Bs C) (F H : Hp) (σ : L2.St) (env : En) (v : V) : Rv → Prop
  | .sh d => Rp K F v d
  | .ow d => ∃ p, v = .ref p ∧ OwnAt K F H p d ∧ F p = none ∧ B p = none ∧ ¬ Owns σ env p
  | .bo i => ∃ d, env[i]? = some (Sl.ow d) ∧ σ[i]? = some (some v)

section
variable {K : PySem.W.Frag} {C : Cfg} {B : Bs C} {F H : Hp} {σ : L2.St} {env : En}
theorem SR.ownAt (s : SR K B F H σ env) {i : Nat} {d : D} (h : env[i]? = some (Sl.ow d)) : ∃ p, σ[i]? = some (some (V.ref p)) ∧ OwnAt K F H p d ∧ F p = none ∧ B p = none ∧ PinOk C i p := s.slot i _ h
theorem SR.sh (s : SR K B F H σ env) {i : Nat} {d : D} (h : env[i]? = some (Sl.sh d)) : ∃ v, σ[i]? = some (some v) ∧ Rp K F v d := s.slot i _ h
theorem SR.ownsNone (s : SR K B F H σ env) {p : Addr} (o : Owns σ env p) : F p = none ∧ B p = none ∧ H p ≠ none := by
  obtain ⟨i, d, h, e⟩ := o
  obtain ⟨q, e2, o, f, b, _⟩ := s.ownAt h
  rw [e] at e2
  cases e2
  obtain ⟨u, hu, _⟩ := o.some
  exact ⟨f, b, by rw [hu]; simp⟩
theorem SR.ownsT (s : SR K B F H σ env) {p : Addr} (o : Owns σ env p) : ∀ ps, H p ≠ some (.tbl ps) := fun ps z => by
  obtain ⟨i, d, h, e⟩ := o
  obtain ⟨q, e2, o, f, b, _⟩ := s.ownAt h
  rw [e] at e2
  cases e2
  obtain ⟨u, hu, _, n⟩ := o.some
  rw [hu] at z
  cases z
  cases n
theorem same_upd {H : Hp} {p : Addr} {o : HO} (h : H p = none) : Same H (upd H p o) := fun b x e => by
  rw [upd_ne (ne_of_none e h)]
  exact e
theorem same_upd2 {F H : Hp} {p : Addr} {o : HO} (s : Same F H) : Same (upd F p o) (upd H p o) := fun b x e => by
  by_cases hb : b = p
  · subst hb; rw [upd_same] at e ⊢; exact e
  · rw [upd_ne hb] at e ⊢; exact s b x e
/-- F grows by something of H that is not one's own -/
theorem SR.grow (s : SR K B F H σ env) {F' : Hp} (f : Same F F') (g : Same F' H) (n : ∀ p, Owns σ env p → F' p = none) (di : ∀ (b : Addr) (o : HO), B b = some o → F' b = none) (nf : NoT F') : SR K B F' H σ env := by
  refine ⟨s.len, s.bas, g, di, fun i sl h => ?_, s.inj, s.nb, nf, s.tab⟩
  cases sl with
  | u => trivial
  | sh d => obtain ⟨v, e, r⟩ := s.sh h; exact ⟨v, e, r.mono f⟩
  | ow d => obtain ⟨p, e, o, _, b⟩ := s.ownAt h; exact ⟨p, e, o.mono f rfl, n p ⟨i, d, h, e⟩, b⟩
  | nw ls => obtain ⟨p, e, o⟩ := s.slot i _ h; exact ⟨p, e, o.mono f⟩
/-- the heap changes beside the slots' own objects -/
theorem SR.heap (s : SR K B F H σ env) {H' : Hp} (b : Same B.h H') (f : Same F H') (n : ∀ p, Owns σ env p → H' p = H p) (t : Tabs C.ts H') : SR K B F H' σ env := by
  refine ⟨s.len, b, f, s.dis, fun i sl h => ?_, s.inj, s.nb, s.nf, t⟩
  cases sl with
  | u => trivial
  | sh d => exact s.sh h
  | ow d => obtain ⟨p, e, o, z, b⟩ := s.ownAt h; exact ⟨p, e, o.mono (.refl _) (n p ⟨i, d, h, e⟩), z, b⟩
  | nw ls => exact s.slot i _ h
theorem SR.free (s : SR K B F H σ env) {p : Addr} (h : H p = none) : F p = none := s.frz.free h
theorem SR.freeB (s : SR K B F H σ env) {p : Addr} (h : H p = none) : B p = none := s.bas.free h
theorem SR.notOwn (s : SR K B F H σ env) {p : Addr} (h : H p = none) : ¬ Owns σ env p := fun o => (s.ownsNone o).2.2 h
/-- something new, not shared -/
theorem SR.new (s : SR K B F H σ env) {p : Addr} {o : HO} (h : H p = none) : SR K B F (upd H p o) σ env :=
  s.heap (s.bas.trans (same_upd h)) (s.frz.trans (same_upd h)) (fun q z => upd_ne fun e => s.notOwn h (e ▸ z)) (s.tab.new h)
theorem ext_new {p : Addr} {o : HO} (h : H p = none) : Ext F F := ⟨.refl _⟩
/-- something that is nobody's is shared -/
theorem SR.share (s : SR K B F H σ env) {p : Addr} {o : HO} (h : H p = some o) (f : F p = none) (hb : B p = none) (n : ¬ Owns σ env p) (nt : isTbl o = false) : SR K B (upd F p o) H σ env := by
  refine s.grow (same_upd f) (fun b x e => ?_) (fun q z => ?_) (fun b x e => by rw [upd_ne (ne_of_none e hb)]; exact s.dis b x e) (s.nf.put1 nt)
  · by_cases hb : b = p
    · subst hb; rw [upd_same] at e; rw [h]; exact e
    · rw [upd_ne hb] at e; exact s.frz b x e
  · rw [upd_ne (fun (e : q = p) => n (by rw [← e]; exact z))]
    exact (s.ownsNone z).1
theorem ext_share {p : Addr} {o : HO} (f : F p = none) : Ext F (upd F p o) := ⟨same_upd f⟩

theorem get_set {env : En} {i j : Nat} {s : Sl} : (env.set i s)[j]? = if i = j then (if i < env.length then some s else none) else env[j]? := List.getElem?_set ..
theorem lt_of_get {env : En} {i : Nat} {s : Sl} (h : env[i]? = some s) : i < env.length := (List.getElem?_eq_some_iff.mp h).1
/-- a slot is given up, or told otherwise -/
theorem SR.put (s : SR K B F H σ env) {i : Nat} {sl : Sl} (ok : SlOk K B F H σ i sl) (inj : ∀ (d : D) (p : Addr), sl = .ow d → σ[i]? = some (some (V.ref p)) → ∀ (j : Nat) (e : D), j ≠ i → env[j]? = some (Sl.ow e) → σ[j]? ≠ some (some (V.ref p))) : SR K B F H σ (env.set i sl) := by
  refine ⟨by simpa using s.len, s.bas, s.frz, s.dis, fun j x h => ?_, fun j k d e p h1 h2 e1 e2 => ?_, s.nb, s.nf, s.tab⟩
  · rw [get_set] at h
    split at h
    · rename_i z; subst z
      split at h
      · cases h; exact ok
      · cases h
    · exact s.slot j x h
  · rw [get_set] at h1 h2
    split at h1
    · rename_i z; subst z
      split at h2
      · rename_i z; exact z
      · split at h1
        · cases h1
          rename_i z1 _
          exact absurd e2 (inj d p rfl e1 k e (fun z => z1 z.symm) h2)
        · cases h1
    · split at h2
      · rename_i z1 z; subst z
        split at h2
        · cases h2
          exact absurd e1 (inj e p rfl e2 j d (fun z => z1 z.symm) h1)
        · cases h2
      · exact s.inj j k d e p h1 h2 e1 e2
theorem SR.wipe1 (s : SR K B F H σ env) (i : Nat) : SR K B F H σ (env.set i .u) := s.put trivial fun d p e => nomatch e
theorem SR.wipe (s : SR K B F H σ env) : ∀ w : List Nat, SR K B F H σ (wipeE env w)
  | [] => s
  | i :: w => (SR.wipe s w).wipe1 i
theorem owns_set {i : Nat} {sl : Sl} {p : Addr} (n : ∀ d, sl ≠ .ow d) (o : Owns σ (env.set i sl) p) : Owns σ env p := by
  obtain ⟨j, d, h, e⟩ := o
  rw [get_set] at h
  split at h
  · split at h
    · cases h; exact absurd rfl (n d)
    · cases h
  · exact ⟨j, d, h, e⟩
theorem owns_set_ne {i : Nat} {sl : Sl} {p : Addr} (s : SR K B F H σ env) (n : ∀ d, sl ≠ .ow d) (he : σ[i]? = some (some (V.ref p))) {d : D} (hi : env[i]? = some (Sl.ow d)) : ¬ Owns σ (env.set i sl) p := fun o => by
  obtain ⟨j, e, h, e2⟩ := o
  rw [get_set] at h
  split at h
  · split at h
    · cases h; exact absurd rfl (n e)
    · cases h
  · rename_i z
    exact z (s.inj i j d e p hi h he e2)
/-- F' has no more tuples than F -/
def FrzP (F F' : Hp) : Prop := ∀ (b : Addr) (o : HO), F' b = some o → F b = some o ∨ (F b = none ∧ isTp o = false)
theorem FrzP.refl {F : Hp} : FrzP F F := fun b o h => .inl h
theorem FrzP.trans {F1 F2 F3 : Hp} (a : FrzP F1 F2) (s : Same F1 F2) (c : FrzP F2 F3) : FrzP F1 F3 := fun b o h => by
  rcases c b o h with h | ⟨h, n⟩
  · exact a b o h
  · exact .inr ⟨s.free h, n⟩
/-- one's own object is shared from now on -/
theorem SR.freeze (s : SR K B F H σ env) {i : Nat} {d : D} (h : env[i]? = some (Sl.ow d)) :
    ∃ F' p, σ[i]? = some (some (V.ref p)) ∧ Rp K F' (.ref p) d ∧ SR K B F' H σ (env.set i (.sh d)) ∧ Ext F F' ∧ FrzP F F' := by
  obtain ⟨p, e, o, f, b, _⟩ := s.ownAt h
  obtain ⟨u, hu, ntu, ntb⟩ := o.some
  have hn := owns_set_ne (sl := Sl.sh d) s (fun d e => nomatch e) e h
  have r : Rp K (upd F p u) (.ref p) d := o.rp (same_upd f) (by rw [upd_same, hu])
  have s1 : SR K B F H σ (env.set i .u) := s.wipe1 i
  have n1 : ¬ Owns σ (env.set i .u) p := owns_set_ne s (fun d e => nomatch e) e h
  have s2 := s1.share hu f b n1 ntb
  have s3 := s2.put (i := i) (sl := .sh d) ⟨_, e, r⟩ fun d p e => nomatch e
  refine ⟨_, p, e, r, by simpa [List.set_set] using s3, ⟨same_upd f⟩, fun b o z => ?_⟩
  by_cases hb : b = p
  · subst hb; rw [upd_same] at z; cases z; exact .inr ⟨f, ntu⟩
  · rw [upd_ne hb] at z; exact .inl z
/-- one's own object is changed -/
theorem SR.change (s : SR K B F H σ env) {i : Nat} {d d' : D} {p : Addr} {o : HO} (h : env[i]? = some (Sl.ow d)) (e : σ[i]? = some (some (V.ref p))) (ok : OwnAt K F (upd H p o) p d') : SR K B F (upd H p o) σ (env.set i (.ow d')) ∧ Ext F F := by
  obtain ⟨q, e', o', f, b, pk⟩ := s.ownAt h
  rw [e] at e'; cases e'
  have n1 : ¬ Owns σ (env.set i .u) p := owns_set_ne s (fun d e => nomatch e) e h
  have s1 : SR K B F (upd H p o) σ (env.set i .u) := (s.wipe1 i).heap (fun c x z => by rw [upd_ne (fun y => by rw [y, b] at z; cases z)]; exact s.bas c x z) (fun c x z => by rw [upd_ne (fun y => by rw [y, f] at z; cases z)]; exact s.frz c x z) (fun q z => upd_ne fun y => n1 (y ▸ z)) (s.tab.put1 (s.ownsT ⟨i, d, h, e⟩))
  have s2 := s1.put (i := i) (sl := .ow d') ⟨p, e, ok, f, b, pk⟩ fun d'' q z1 z2 j e1 hj h1 => by
    rw [get_set, if_neg (fun y => hj y.symm)] at h1
    intro z3
    exact hj (s.inj j i e1 d q h1 h z3 z2)
  exact ⟨by simpa [List.set_set] using s2, .refl⟩
theorem getσ {σ : L2.St} {i j : Nat} {x : Option V} : (σ.set i x)[j]? = if i = j then (if i < σ.length then some x else none) else σ[j]? := List.getElem?_set ..
/-- a slot is stored -/
theorem SR.storeS (s : SR K B F H σ env) {i : Nat} {v : V} {sl : Sl} (hi : i < env.length) (ok : SlOk K B F H (σ.set i (some v)) i sl) (n : ∀ d, sl = .ow d → ∀ p, v = .ref p → ¬ Owns σ env p) : SR K B F H (σ.set i (some v)) (env.set i sl) := by
  have hi' : i < σ.length := by rw [← s.len]; exact hi
  refine ⟨by simpa using s.len, s.bas, s.frz, s.dis, fun j x h => ?_, fun j k d e p h1 h2 e1 e2 => ?_, s.nb, s.nf, s.tab⟩
  · rw [get_set, if_pos hi] at h
    split at h
    · rename_i z; subst z
      cases h; exact ok
    · rename_i z
      have q := s.slot j x h
      cases x with
      | u => trivial
      | sh d => obtain ⟨w, e, r⟩ := q; exact ⟨w, by rw [getσ, if_neg z]; exact e, r⟩
      | ow d => obtain ⟨w, e, r⟩ := q; exact ⟨w, by rw [getσ, if_neg z]; exact e, r⟩
      | nw ls => obtain ⟨w, e, r⟩ := q; exact ⟨w, by rw [getσ, if_neg z]; exact e, r⟩
  · rw [get_set] at h1 h2
    rw [getσ] at e1 e2
    by_cases z1 : i = j
    · by_cases z2 : i = k
      · rw [← z1, z2]
      · rw [if_pos z1, if_pos hi] at h1
        rw [if_pos z1, if_pos hi'] at e1
        rw [if_neg z2] at h2 e2
        cases h1
        cases e1
        exact absurd ⟨k, e, h2, e2⟩ (n d rfl p rfl)
    · by_cases z2 : i = k
      · rw [if_neg z1] at h1 e1
        rw [if_pos z2, if_pos hi] at h2
        rw [if_pos z2, if_pos hi'] at e2
        cases h2
        cases e2
        exact absurd ⟨j, d, h1, e1⟩ (n e rfl p rfl)
      · rw [if_neg z1] at h1 e1
        rw [if_neg z2] at h2 e2
        exact s.inj j k d e p h1 h2 e1 e2
/-- a value's content -/
theorem RvOk.cr (s : SR K B F H σ env) {v : V} {r : Rv} {d : D} (o : RvOk K B F H σ env v r) (g : r.get env = some d) : Cr K F H v d := by
  cases r with
  | sh e => cases g; exact .inl o
  | ow e => cases g; obtain ⟨p, rfl, o, _⟩ := o; exact .inr ⟨p, rfl, o⟩
  | bo i =>
    obtain ⟨e, h, hv⟩ := o
    simp only [Rv.get, getAt, h, Option.bind_some, slD, Option.some.injEq] at g
    subst g
    obtain ⟨p, e2, o, _⟩ := s.ownAt h
    rw [hv] at e2; cases e2
    exact .inr ⟨p, rfl, o⟩
/-- a temporary is shared: then it stays what it is -/
theorem RvOk.settle (s : SR K B F H σ env) {v : V} {r : Rv} (o : RvOk K B F H σ env v r) : ∃ F', SR K B F' H σ env ∧ Ext F F' ∧ (match r with | .sh d => Rp K F' v d | .ow d => Rp K F' v d | .bo i => ∃ d, env[i]? = some (Sl.ow d) ∧ σ[i]? = some (some v)) := by
  cases r with
  | sh e => exact ⟨F, s, .refl, o⟩
  | bo i => exact ⟨F, s, .refl, o⟩
  | ow e =>
    obtain ⟨p, rfl, o, f, b, n⟩ := o
    obtain ⟨u, hu, _, nt⟩ := o.some
    exact ⟨_, s.share hu f b n nt, ext_share f, o.rp (same_upd f) (by rw [upd_same, hu])⟩
/-- .. through what comes behind -/
def Settled (K : PySem.W.Frag) (F : Hp) (σ : L2.St) (v : V) : Rv → Prop
  | .sh d => Rp K F v d
  | .ow d => Rp K F v d
  | .bo i => σ[i]? = some (some v)
theorem Settled.mono {F' : Hp} {v : V} {r : Rv} (s : Same F F') (o : Settled K F σ v r) : Settled K F' σ v r := by
  cases r with
  | sh d => exact Rp.mono s o
  | ow d => exact Rp.mono s o
  | bo i => exact o
theorem RvOk.settled (s : SR K B F H σ env) {v : V} {r : Rv} (o : RvOk K B F H σ env v r) : ∃ F', SR K B F' H σ env ∧ Ext F F' ∧ Settled K F' σ v r := by
  cases r with
  | sh d =>
    obtain ⟨F', a, b, c⟩ := o.settle s
    exact ⟨F', a, b, c⟩
  | ow d =>
    obtain ⟨F', a, b, c⟩ := o.settle s
    exact ⟨F', a, b, c⟩
  | bo i =>
    obtain ⟨F', a, b, d, _, c⟩ := o.settle s
    exact ⟨F', a, b, c⟩
theorem Settled.cr (s : SR K B F H σ env) {v : V} {r : Rv} {d : D} (o : Settled K F σ v r) (g : r.get env = some d) : Cr K F H v d := by
  cases r with
  | sh e => cases g; exact .inl o
  | ow e => cases g; exact .inl o
  | bo i =>
    simp only [Rv.get, getAt] at g
    cases h : env[i]? with
    | none => rw [h] at g; cases g
    | some sl =>
      rw [h] at g
      cases sl with
      | u => cases g
      | nw ls => cases g
      | sh e =>
        cases g
        obtain ⟨w, e2, r⟩ := s.sh h
        have o' : σ[i]? = some (some v) := o
        rw [o'] at e2; cases e2
        exact .inl r
      | ow e =>
        cases g
        obtain ⟨p, e2, o2, _⟩ := s.ownAt h
        have o' : σ[i]? = some (some v) := o
        rw [o'] at e2; cases e2
        exact .inr ⟨p, rfl, o2⟩
/-- out of hand -/
theorem Settled.leak (s : SR K B F H σ env) {v : V} {r : Rv} {d : D} {env' : En} (o : Settled K F σ v r) (g : leak env r = some (d, env')) : ∃ F', SR K B F' H σ env' ∧ Ext F F' ∧ Rp K F' v d ∧ FrzP F F' := by
  cases r with
  | sh e => cases g; exact ⟨F, s, .refl, o, .refl⟩
  | ow e => cases g; exact ⟨F, s, .refl, o, .refl⟩
  | bo i =>
    have o' : σ[i]? = some (some v) := o
    simp only [Ts.leak, getAt] at g
    cases h : env[i]? with
    | none => rw [h] at g; cases g
    | some sl =>
      rw [h] at g
      cases sl with
      | u => cases g
      | nw ls => cases g
      | sh e =>
        simp only [Option.bind_some, slD, Option.some.injEq, Prod.mk.injEq] at g
        obtain ⟨rfl, rfl⟩ := g
        have z : env.set i (.sh e) = env := by
          apply List.ext_getElem?
          intro j
          rw [get_set]
          split
          · rename_i q; subst q; rw [if_pos (lt_of_get h), h]
          · rfl
        obtain ⟨w, e2, r⟩ := s.sh h
        rw [o'] at e2; cases e2
        rw [z]
        exact ⟨F, s, .refl, r, .refl⟩
      | ow e =>
        simp only [Option.bind_some, slD, Option.some.injEq, Prod.mk.injEq] at g
        obtain ⟨rfl, rfl⟩ := g
        obtain ⟨F', p, e2, r, s', x, np⟩ := s.freeze h
        rw [o'] at e2; cases e2
        exact ⟨F', s', x, r, np⟩
end
end Ts

set_option linter.all false
set_option autoImplicit false
set_option maxRecDepth 100000
/-! The operators and built-in functions, by values. -/
namespace Ts
open PySem PySem.Spec PyProof.Rows L2

/-- what is handed back: v in H', where r is told -/
def Res (K : PySem.W.Frag) (F H : Hp) : Nv → V → Hp → Prop
  | .sh d, v, H' => (H' = H ∧ Rp K F v d) ∨ ∃ p o, H p = none ∧ H' = upd H p o ∧ isTbl o = false ∧ Rp K (upd F p o) v d
  | .ow d, v, H' => ∃ p o, v = .ref p ∧ H p = none ∧ H' = upd H p o ∧ OwnAt K F H' p d
  | .mu _ _, _, _ => False
  | .ex _ _, _, _ => False
theorem Res.ok {K : PySem.W.Frag} {C : Cfg} {B : Bs C} {F H H' : Hp} {σ : L2.St} {env : En} {r : Nv} {v : V} (s : SR K B F H σ env) (h : Res K F H r v H') : ∃ F', SR K B F' H' σ env ∧ Ext F F' ∧ RvOk K B F' H' σ env v r.rv := by
  cases r with
  | sh d =>
    rcases h with ⟨rfl, h⟩ | ⟨p, o, n, rfl, nt, h⟩
    · exact ⟨F, s, .refl, h⟩
    · have s1 := s.new (o := o) n
      have f := s.free n
      have no : ¬ Owns σ env p := s.notOwn n
      exact ⟨_, s1.share (o := o) upd_same f (s.freeB n) no nt, ext_share f, h⟩
  | ow d =>
    obtain ⟨p, o, rfl, n, rfl, h⟩ := h
    exact ⟨F, s.new n, .refl, p, rfl, h, s.free n, s.freeB n, s.notOwn n⟩
  | mu r fs => exact h.elim
  | ex c fs => exact h.elim

/-! ### data as the library has it -/
section
variable {K : PySem.W.Frag} {F H : Hp}
mutual
theorem Rp.dp (sm : Same F H) : ∀ {v : V} {d : D} {n : Nat}, d.ok n = true → Rp K F v d → Dp K H v d.pd
  | _, _, _, _, .non => .non
  | _, _, _, _, .bl b => .bl b
  | _, _, _, _, .int i => .int i
  | _, _, _, _, .str i => .str i
  | _, _, 0, e, .tup h r => by simp [D.ok] at e
  | _, _, n + 1, e, .tup h r => .tup (.inl (.inl (sm _ _ h))) (RpL.dp sm (n := n) (by simpa [D.ok] using e) r)
  | _, _, 0, e, .lst h r => by simp [D.ok] at e
  | _, _, n + 1, e, .lst h r => .lst (.inl (.inl (sm _ _ h))) (RpL.dp sm (n := n) (by simpa [D.ok] using e) r)
  | _, _, _, e, .scr h => by simp [D.ok] at e
  | _, _, _, e, .dk h r => by simp [D.ok] at e
  | _, _, _, e, .dt h r => by simp [D.ok] at e
  | _, _, _, e, .tpn h b r => by simp [D.ok] at e
theorem RpL.dp (sm : Same F H) : ∀ {v : List V} {d : List D} {n : Nat}, D.oks d n = true → RpL K F v d → DpAll K H v (D.pds d)
  | _, _, _, _, .nil => .nil
  | _, _, n, e, .cons h r => by
    simp only [D.oks, Bool.and_eq_true] at e
    exact .cons (Rp.dp sm e.1 h) (RpL.dp sm e.2 r)
end
theorem Cr.dp (sm : Same F H) {v : V} {d : D} {n : Nat} (e : d.ok n = true) (c : Cr K F H v d) : Dp K H v d.pd := by
  rcases c with c | ⟨p, rfl, c⟩
  · exact c.dp sm e
  · cases d with
    | lst ds =>
      obtain ⟨xs, h, r⟩ := c
      cases n with
      | zero => simp [D.ok] at e
      | succ n => exact .lst (.inl (.inl h)) (r.dp sm (n := n) (by simpa [D.ok] using e))
    | dk ds => simp [D.ok] at e
    | tpn ds => simp [D.ok] at e
    | dt ds => simp [D.ok] at e
    | non => exact c.elim
    | bl _ => exact c.elim
    | int _ => exact c.elim
    | str _ => exact c.elim
    | tup _ => exact c.elim
    | scr _ => exact c.elim
end
section
variable {K : PySem.W.Frag} {F H : Hp}
mutual
theorem Rp.dpN (sm : Same F H) : ∀ {v : V} {d : D} {n : Nat}, d.nm.ok n = true → Rp K F v d → Dp K H v d.nm.pd
  | _, _, _, _, .non => .non
  | _, _, _, _, .bl b => .bl b
  | _, _, _, _, .int i => .int i
  | _, _, _, _, .str i => .str i
  | _, _, 0, e, .tup h r => by simp [D.nm, D.ok] at e
  | _, _, n + 1, e, .tup h r => .tup (.inl (.inl (sm _ _ h))) (RpL.dpN sm (n := n) (by simpa [D.nm, D.ok] using e) r)
  | _, _, 0, e, .lst h r => by simp [D.nm, D.ok] at e
  | _, _, n + 1, e, .lst h r => .lst (.inl (.inl (sm _ _ h))) (RpL.dpN sm (n := n) (by simpa [D.nm, D.ok] using e) r)
  | _, _, 0, e, .tpn h b r => by simp [D.nm, D.ok] at e
  | _, _, n + 1, e, .tpn h b r => .tup (.inl (.inr ⟨_, sm _ _ h⟩)) (RpL.dpN sm (n := n) (by simpa [D.nm, D.ok] using e) r)
  | _, _, _, e, .scr h => by simp [D.nm, D.ok] at e
  | _, _, _, e, .dk h r => by simp [D.nm, D.ok] at e
  | _, _, _, e, .dt h r => by simp [D.nm, D.ok] at e
theorem RpL.dpN (sm : Same F H) : ∀ {v : List V} {d : List D} {n : Nat}, D.oks (D.nms d) n = true → RpL K F v d → DpAll K H v (D.pds (D.nms d))
  | _, _, _, _, .nil => .nil
  | _, _, n, e, .cons h r => by
    simp only [D.nms, D.oks, Bool.and_eq_true] at e
    exact .cons (Rp.dpN sm e.1 h) (RpL.dpN sm e.2 r)
end
theorem Cr.dpN (sm : Same F H) {v : V} {d : D} {n : Nat} (e : d.nm.ok n = true) (c : Cr K F H v d) : Dp K H v d.nm.pd := by
  rcases c with c | ⟨p, rfl, c⟩
  · exact c.dpN sm e
  · cases d with
    | lst ds =>
      obtain ⟨xs, h, r⟩ := c
      cases n with
      | zero => simp [D.nm, D.ok] at e
      | succ n => exact .lst (.inl (.inl h)) (r.dpN sm (n := n) (by simpa [D.nm, D.ok] using e))
    | dk ds => simp [D.nm, D.ok] at e
    | dt ds => simp [D.nm, D.ok] at e
    | tpn ds => exact c.elim
    | non => exact c.elim
    | bl _ => exact c.elim
    | int _ => exact c.elim
    | str _ => exact c.elim
    | tup _ => exact c.elim
    | scr _ => exact c.elim
end
mutual
theorem ok_lay : ∀ (d : D) (n : Nat), d.ok n = true → d.pd.canLay0 = true ∧ d.pd.depth ≤ n
  | .non, n, _ => ⟨by simp [D.pd, PyData.canLay0], by simp [D.pd, PyData.depth]⟩
  | .int _, n, _ => ⟨by simp [D.pd, PyData.canLay0], by simp [D.pd, PyData.depth]⟩
  | .str _, n, e => ⟨by simpa [D.pd, D.ok] using e, by simp [D.pd, PyData.depth]⟩
  | .bl _, n, e => by simp [D.ok] at e
  | .dk _, n, e => by simp [D.ok] at e
  | .dt _, n, e => by simp [D.ok] at e
  | .scr _, n, e => by simp [D.ok] at e
  | .tpn _, n, e => by simp [D.ok] at e
  | .tup l, 0, e => by simp [D.ok] at e
  | .lst l, 0, e => by simp [D.ok] at e
  | .tup l, n + 1, e => by
    have h := oks_lay l n (by simpa [D.ok] using e)
    exact ⟨by simpa [D.pd, PyData.canLay0] using h.1, by simpa [D.pd, PyData.depth] using h.2⟩
  | .lst l, n + 1, e => by
    have h := oks_lay l n (by simpa [D.ok] using e)
    exact ⟨by simpa [D.pd, PyData.canLay0] using h.1, by simpa [D.pd, PyData.depth] using h.2⟩
theorem oks_lay : ∀ (l : List D) (n : Nat), D.oks l n = true → PyData.canLayAll0 (D.pds l) = true ∧ PyData.depthAll (D.pds l) ≤ n
  | [], n, _ => ⟨by simp [D.pds, PyData.canLayAll0], by simp [D.pds, PyData.depthAll]⟩
  | d :: l, n, e => by
    simp only [D.oks, Bool.and_eq_true] at e
    have h1 := ok_lay d n e.1
    have h2 := oks_lay l n e.2
    exact ⟨by simp [D.pds, PyData.canLayAll0, h1.1, h2.1], by rw [D.pds, PyData.depthAll]; exact Nat.max_le.mpr ⟨h1.2, h2.2⟩⟩
end
theorem ok_shaped {d : D} {n : Nat} (h : d.ok n = true) (hn : n ≤ 64) : SeqAt.shaped d.pd = true := by
  have q := ok_lay d n h
  unfold SeqAt.shaped
  rw [q.1, Bool.true_and, decide_eq_true_eq]
  omega
mutual
theorem beq_eqv : ∀ (d e : D) (n m : Nat), d.ok n = true → e.ok m = true → PyData.eqv d.pd e.pd = d.beq e
  | .non, e, n, m, _, h => by cases e <;> simp_all [D.pd, PyData.eqv, D.beq, D.ok]
  | .int _, e, n, m, _, h => by cases e <;> simp_all [D.pd, PyData.eqv, D.beq, D.ok]
  | .str x, e, n, m, _, h => by
    cases e with
    | str y =>
      rw [D.pd, D.pd, PyData.eqv, D.beq]
      by_cases q : x = y
      · subst q; simp
      · simp [q]
    | _ => simp_all [D.pd, PyData.eqv, D.beq, D.ok]
  | .bl _, e, n, m, h, _ => by simp [D.ok] at h
  | .dk _, e, n, m, h, _ => by simp [D.ok] at h
  | .dt _, e, n, m, h, _ => by simp [D.ok] at h
  | .scr _, e, n, m, h, _ => by simp [D.ok] at h
  | .tpn _, e, n, m, h, _ => by simp [D.ok] at h
  | .tup l, e, 0, m, h, _ => by simp [D.ok] at h
  | .lst l, e, 0, m, h, _ => by simp [D.ok] at h
  | .tup l, e, n + 1, m, h, g => by
    cases e with
    | tup k =>
      cases m with
      | zero => simp [D.ok] at g
      | succ m =>
        have := beqs_eqv l k n m (by simpa [D.ok] using h) (by simpa [D.ok] using g)
        simpa [D.pd, PyData.eqv, D.beq] using this
    | _ => simp_all [D.pd, PyData.eqv, D.beq, D.ok]
  | .lst l, e, n + 1, m, h, g => by
    cases e with
    | lst k =>
      cases m with
      | zero => simp [D.ok] at g
      | succ m =>
        have := beqs_eqv l k n m (by simpa [D.ok] using h) (by simpa [D.ok] using g)
        simpa [D.pd, PyData.eqv, D.beq] using this
    | _ => simp_all [D.pd, PyData.eqv, D.beq, D.ok]
theorem beqs_eqv : ∀ (d e : List D) (n m : Nat), D.oks d n = true → D.oks e m = true → PyData.eqvAll (D.pds d) (D.pds e) = D.beqs d e
  | [], [], n, m, _, _ => by simp [D.pds, PyData.eqvAll, D.beqs]
  | [], _ :: _, n, m, _, _ => by simp [D.pds, PyData.eqvAll, D.beqs]
  | _ :: _, [], n, m, _, _ => by simp [D.pds, PyData.eqvAll, D.beqs]
  | a :: l, b :: k, n, m, h, g => by
    simp only [D.oks, Bool.and_eq_true] at h g
    simp only [D.pds, PyData.eqvAll, D.beqs, beq_eqv a b n m h.1 g.1, beqs_eqv l k n m h.2 g.2]
end

/-! ### two values -/
def rV2 (K : PySem.W.Frag) (f : D → D → Option Nv) : R2 := fun x y H Q => ∃ F dx dy r, Same F H ∧ Cr K F H x dx ∧ Cr K F H y dy ∧ f dx dy = some r ∧ ∀ v H', Res K F H r v H' → Q v H'
def rVB (K : PySem.W.Frag) (f : D → D → Option Bool) : R2 := fun x y H Q => ∃ F dx dy r, Same F H ∧ Cr K F H x dx ∧ Cr K F H y dy ∧ f dx dy = some r ∧ Q (.bl r) H
theorem big_le {n : Nat} (h : n ≤ bigLine) : n ≤ sizeLine := by
  rw [sizeLine_eq]
  unfold bigLine at h
  omega
theorem big_lt {n : Nat} (h : n ≤ bigLine) : n < sizeLine := by
  rw [sizeLine_eq]
  unfold bigLine at h
  omega
section
variable {X : Cx}
theorem cmul_of {a b : Int} (h : a.natAbs < mulLine ∨ b.natAbs < mulLine) : CMul a b := by
  simp only [mulLine] at h
  unfold CMul
  omega
theorem cdiv_of {a b : Int} (h : 0 < b ∧ b.natAbs < divLine) : CDiv a b := by
  simp only [divLine] at h
  unfold CDiv
  omega
theorem crng_of {n : Int} (h : n.natAbs < rngLine) : -(2 ^ 62) ≤ n ∧ n < 2 ^ 62 := by
  simp only [rngLine] at h
  omega
theorem op_binV (op : Operator) : OpR X (binaryOp op) (rV2 X.K (binV op)) := by
  intro pins s σ H x y v u Q I rx ry ⟨F, dx, dy, r, sm, cx, cy, e, q⟩
  unfold binV at e
  split at e
  · cases e; cases cx.int; cases cy.int
    exact op_add pins s σ H _ _ v u Q I rx ry ⟨_, _, rfl, rfl, q _ _ (.inl ⟨rfl, .int _⟩)⟩
  · rename_i a b
    split at e
    · rename_i hl
      cases e; cases cx.str; cases cy.str
      exact op_add_str pins s σ H _ _ v u Q I rx ry ⟨_, _, rfl, rfl, big_le hl, q _ _ (.inl ⟨rfl, .str _⟩)⟩
    · cases e
  · rename_i a b
    split at e
    · rename_i hl
      cases e
      obtain ⟨p, xs, rfl, h1, r1⟩ := cx.lst sm
      obtain ⟨p2, ys, rfl, h2, r2⟩ := cy.lst sm
      exact op_cat pins s σ H _ _ v u Q I rx ry ⟨_, _, _, _, rfl, rfl, h1, h2, by rw [r1.length, r2.length]; exact big_le hl, fun z hz => q _ _ ⟨z, _, rfl, hz, rfl, _, upd_same, r1.append r2⟩⟩
    · cases e
  · rename_i a b
    split at e
    · rename_i hl
      cases e
      obtain ⟨p, xs, rfl, h1, r1⟩ := cx.tup sm
      obtain ⟨p2, ys, rfl, h2, r2⟩ := cy.tup sm
      refine op_catA pins s σ H _ _ v u Q I rx ry ⟨_, _, _, _, rfl, rfl, .inl (.inl h1), .inl (.inl h2), by rw [r1.length, r2.length]; exact big_le hl, fun z => ?_, fun _ z => ?_,
        fun _ _ z hz => q _ _ (.inr ⟨z, _, hz, rfl, rfl, .tup upd_same ((r1.append r2).mono (same_upd (sm.free hz)))⟩)⟩
      · subst z
        cases r1
        rw [List.nil_append] at q
        rcases cy with cy | ⟨z, e, o⟩
        · exact q _ _ (.inl ⟨rfl, cy⟩)
        · exact absurd o (by cases o)
      · subst z
        cases r2
        rw [List.append_nil] at q
        rcases cx with cx | ⟨z, e, o⟩
        · exact q _ _ (.inl ⟨rfl, cx⟩)
        · exact absurd o (by cases o)
    · cases e
  · cases e; cases cx.int; cases cy.int
    exact op_sub pins s σ H _ _ v u Q I rx ry ⟨_, _, rfl, rfl, q _ _ (.inl ⟨rfl, .int _⟩)⟩
  · split at e
    · rename_i hl
      cases e; cases cx.int; cases cy.int
      exact op_mul pins s σ H _ _ v u Q I rx ry ⟨_, _, rfl, rfl, cmul_of hl, q _ _ (.inl ⟨rfl, .int _⟩)⟩
    · cases e
  · split at e
    · rename_i hl
      cases e
      obtain ⟨p, xs, rfl, h1, r1⟩ := cx.lst sm
      cases cy.int
      exact op_rep pins s σ H _ _ v u Q I rx ry ⟨_, _, _, rfl, rfl, h1, by omega, by omega, by rw [r1.length]; exact big_le hl.2.2, fun z hz => q _ _ ⟨z, _, rfl, hz, rfl, _, upd_same, r1.rep _⟩⟩
    · cases e
  · split at e
    · rename_i hl
      cases e; cases cx.int; cases cy.int
      exact op_mod pins s σ H _ _ v u Q I rx ry ⟨_, _, rfl, rfl, hl, q _ _ (.inl ⟨rfl, .int _⟩)⟩
    · cases e
  · split at e
    · rename_i hl
      cases e; cases cx.int; cases cy.int
      exact op_fdiv pins s σ H _ _ v u Q I rx ry ⟨_, _, rfl, rfl, cdiv_of hl, q _ _ (.inl ⟨rfl, .int _⟩)⟩
    · cases e
  · split at e
    · rename_i hl
      cases e; cases cx.int; cases cy.int
      exact op_pow pins s σ H _ _ v u Q I rx ry ⟨_, _, rfl, rfl, hl, q _ _ (.inl ⟨rfl, .int _⟩)⟩
    · cases e
  · cases e

def rV1 (K : PySem.W.Frag) (f : D → Option D) : V → Hp → VK → Prop := fun x H Q => ∃ F dx r, Same F H ∧ Cr K F H x dx ∧ f dx = some r ∧ ∀ v, Rp K F v r → Q v H
theorem un_negV : UnR X (unaryOp .USub) (rV1 X.K negV) := by
  intro pins s σ H x v Q I rx ⟨F, dx, r, sm, cx, e, q⟩
  unfold negV at e
  split at e
  · cases e; cases cx.int
    exact un_neg pins s σ H _ v Q I rx ⟨_, rfl, q _ (.int _)⟩
  · cases e

theorem op_eqV (hu : X.A.units + 64 < cLine) : OpR X (compareOp .Eq) (rVB X.K eqV) := by
  intro pins s σ H x y v u Q I rx ry ⟨F, dx, dy, r, sm, cx, cy, e, q⟩
  unfold eqV at e
  split at e
  · cases e; cases cx.bl; cases cy.bl
    refine op_eq pins s σ H _ _ v u Q I rx ry ⟨rfl, ?_⟩
    rename_i a b
    have z : decide ((V.bl a) = V.bl b) = decide (a = b) := by cases a <;> cases b <;> rfl
    rw [z]; exact q
  · split at e
    · rename_i hl
      cases e
      refine op_eqD hu pins s σ H _ _ v u Q I rx ry ⟨_, _, cx.dpN sm hl.1, cy.dpN sm hl.2, ok_shaped hl.1 (by decide), ok_shaped hl.2 (by decide), ?_⟩
      rw [beq_eqv _ _ _ _ hl.1 hl.2]; exact q
    · cases e
theorem op_neV (hu : X.A.units + 64 < cLine) : OpR X (compareOp .NotEq) (rVB X.K fun a b => (eqV a b).map (!·)) := by
  intro pins s σ H x y v u Q I rx ry ⟨F, dx, dy, r, sm, cx, cy, e, q⟩
  obtain ⟨r', e', rfl⟩ := Option.map_eq_some_iff.mp e
  clear e
  have e := e'
  clear e'
  unfold eqV at e
  split at e
  · cases e; cases cx.bl; cases cy.bl
    refine op_ne pins s σ H _ _ v u Q I rx ry ⟨rfl, ?_⟩
    rename_i a b
    have z : decide ((V.bl a) = V.bl b) = decide (a = b) := by cases a <;> cases b <;> rfl
    rw [z]; exact q
  · split at e
    · rename_i hl
      cases e
      refine op_neD hu pins s σ H _ _ v u Q I rx ry ⟨_, _, cx.dpN sm hl.1, cy.dpN sm hl.2, ok_shaped hl.1 (by decide), ok_shaped hl.2 (by decide), ?_⟩
      rw [beq_eqv _ _ _ _ hl.1 hl.2]; exact q
    · cases e
end
end Ts

set_option linter.all false
set_option autoImplicit false
set_option maxRecDepth 100000
/-! in, comparisons, subscripts, slices, by values. -/
namespace Ts
open PySem PySem.Spec PyProof.Rows L2

section
variable {X : Cx}
theorem key_kV {K : PySem.W.Frag} {F H : Hp} {v : V} {d : D} {k : Key} (c : Cr K F H v d) (e : d.key? = some k) : v = kV k := by
  cases d <;> simp only [D.key?, Option.some.injEq, reduceCtorEq] at e
  · subst e; exact c.int
  · subst e; exact c.str
theorem keyL_kV {K : PySem.W.Frag} {F H : Hp} : ∀ {l : List D} {ks : List Key} {xs : List V}, RpL K F xs l → D.keyL? l = some ks → xs = ks.map kV
  | [], ks, _, .nil, e => by
    simp only [D.keyL?, Option.some.injEq] at e
    subst e; rfl
  | d :: l, ks, _, .cons h r, e => by
    simp only [D.keyL?, Option.bind_eq_some_iff, Option.some.injEq] at e
    obtain ⟨k, e1, ks', e2, rfl⟩ := e
    rw [keyL_kV (H := H) r e2, key_kV (H := H) (.inl h) e1]
    rfl
/-- a key's look-up -/
def RpOk (K : PySem.W.Frag) (F : Hp) := RpO K F
theorem dget_k {K : PySem.W.Frag} {F H : Hp} (sm : Same F H) {x y : V} {kvs : List (Key × D)} {d : D} {k : Key} (c : Cr K F H x (.dk kvs)) (cy : Cr K F H y d) (e : d.key? = some k) :
    ∃ a o, x = .ref a ∧ DGet H a y o ∧ RpO K F o (valD kvs k) := by
  obtain ⟨a, xs, rfl, h, r⟩ := c.dk sm
  exact ⟨a, _, rfl, .inl ⟨xs, k, h, key_kV cy e, rfl⟩, r.val k⟩
theorem dget_t {K : PySem.W.Frag} {F H : Hp} (sm : Same F H) {x y : V} {kvs : List (List Key × D)} {l : List D} {k : List Key} (c : Cr K F H x (.dt kvs)) (cy : Cr K F H y (.tup l)) (e : D.keyL? l = some k) :
    ∃ a o, x = .ref a ∧ DGet H a y o ∧ RpO K F o (valD kvs k) := by
  obtain ⟨a, xs, rfl, h, r⟩ := c.dt sm
  obtain ⟨b, ys, rfl, h2, r2⟩ := cy.tup sm
  have := keyL_kV (H := H) r2 e
  subst this
  exact ⟨a, _, rfl, .inr ⟨xs, k, b, h, rfl, h2, rfl⟩, r.val k⟩
theorem RpO.isSome {K : PySem.W.Frag} {F : Hp} {o : Option V} {p : Option D} (h : RpO K F o p) : o.isSome = p.isSome := by
  cases o <;> cases p <;> first | rfl | exact h.elim
theorem scal_flat {K : PySem.W.Frag} {F H : Hp} {v : V} {d : D} (h : scalar d = true) (c : Cr K F H v d) : flatV v = true := by
  cases d <;> simp [scalar] at h
  · cases c.non; rfl
  · cases c.int; rfl
  · cases c.str; rfl
theorem scal_eq {K : PySem.W.Frag} {F H : Hp} {v w : V} {d e : D} (h : scalar d = true) (g : scalar e = true) (c : Cr K F H v d) (c' : Cr K F H w e) : L2.eqV v w = d.beq e := by
  cases d <;> simp [scalar] at h <;> cases e <;> simp [scalar] at g
  · cases c.non; cases c'.non; rfl
  · cases c.non; cases c'.int; rfl
  · cases c.non; cases c'.str; rfl
  · cases c.int; cases c'.non; rfl
  · cases c.int; cases c'.int; simp [L2.eqV, D.beq]
  · cases c.int; cases c'.str; rfl
  · cases c.str; cases c'.non; rfl
  · cases c.str; cases c'.int; rfl
  · rename_i a b
    cases c.str; cases c'.str
    simp only [L2.eqV, D.beq]
    by_cases q : a = b
    · subst q; simp
    · simp [q]
theorem scal_any {K : PySem.W.Frag} {F H : Hp} {v : V} {d : D} (h : scalar d = true) (c : Cr K F H v d) : ∀ {xs : List V} {l : List D}, RpL K F xs l → l.all scalar = true → xs.all flatV = true ∧ L2.inV v xs = l.any fun z => z.beq d
  | _, _, .nil, _ => ⟨rfl, rfl⟩
  | _, _, .cons g r, e => by
    rw [List.all_cons, Bool.and_eq_true] at e
    have ih := scal_any h c r e.2
    refine ⟨by rw [List.all_cons, scal_flat (H := H) e.1 (.inl g), ih.1]; rfl, ?_⟩
    have q := ih.2
    unfold L2.inV at q ⊢
    rw [List.any_cons, List.any_cons, q, scal_eq e.1 h (H := H) (.inl g) c]
theorem any_eqv {d : D} {n : Nat} (hd : d.ok n = true) : ∀ {l : List D} {m : Nat}, D.oks l m = true → ((D.pds l).any fun z => PyData.eqv z d.pd) = l.any fun z => z.beq d
  | [], _, _ => rfl
  | a :: l, m, e => by
    simp only [D.oks, Bool.and_eq_true] at e
    simp only [D.pds, List.any_cons, beq_eqv a d m n e.1 hd, any_eqv hd e.2]
theorem str_one {a : Str} (h : a.length = 1) : a = ⟨#[a.cps.toList.headD 0]⟩ := by
  obtain ⟨cps⟩ := a
  have h' : cps.size = 1 := h
  cases cps with
  | mk l =>
    match l, h' with
    | [c], _ => rfl
theorem op_inV (hu : X.A.units + 65 < cLine) : OpR X (compareOp .In) (rVB X.K inV) := by
  intro pins s σ H x y v u Q I rx ry ⟨F, dx, dy, r, sm, cx, cy, e, q⟩
  unfold inV at e
  split at e
  · split at e
    · rename_i l hl
      cases e
      have o2 : D.ok (.lst l) 60 = true := by simpa [D.ok] using hl.2
      refine op_inD hu pins s σ H _ _ v u Q I rx ry ⟨_, _, cx.dp sm hl.1, by simpa [D.pd] using cy.dp sm o2, ok_shaped hl.1 (by decide), by simpa [D.pd] using ok_shaped o2 (by decide), ?_⟩
      rw [any_eqv hl.1 hl.2]; exact q
    · cases e
  · split at e
    · rename_i hl
      cases e
      obtain ⟨p, ys, rfl, h2, r2⟩ := cy.tup sm
      have z := scal_any hl.1 cx r2 hl.2
      refine op_in_seq pins s σ H _ _ v u Q I rx ry ⟨_, _, rfl, .inr (.inl (.inl h2)), scal_flat hl.1 cx, z.1, ?_⟩
      rw [if_neg Bool.false_ne_true, z.2]; exact q
    · cases e
  · simp only [Option.bind_eq_some_iff, Option.some.injEq] at e
    obtain ⟨k, e1, rfl⟩ := e
    obtain ⟨a, o, rfl, g, ro⟩ := dget_k sm cy cx e1
    cases ry
    exact d_in (by omega) I g rx fun s3 I3 => ⟨.bl o.isSome, H, I3, rfl, by rw [ro.isSome]; exact q⟩
  · simp only [Option.bind_eq_some_iff, Option.some.injEq] at e
    obtain ⟨k, e1, rfl⟩ := e
    obtain ⟨a, o, rfl, g, ro⟩ := dget_t sm cy cx e1
    cases ry
    exact d_in (by omega) I g rx fun s3 I3 => ⟨.bl o.isSome, H, I3, rfl, by rw [ro.isSome]; exact q⟩
  · split at e
    · rename_i hl
      cases e
      cases cx.str; cases cy.str
      refine op_in_sign pins s σ H _ _ v u Q I rx ry ⟨_, _, congrArg V.str (str_one hl), rfl, ?_⟩
      simp only [List.contains_eq_mem] at q
      exact q
    · cases e
  · cases e
theorem op_notInV (hu : X.A.units + 65 < cLine) : OpR X (compareOp .NotIn) (rVB X.K fun a b => (inV a b).map (!·)) := by
  intro pins s σ H x y v u Q I rx ry ⟨F, dx, dy, r, sm, cx, cy, e, q⟩
  obtain ⟨r', e', rfl⟩ := Option.map_eq_some_iff.mp e
  clear e
  have e := e'
  clear e'
  unfold inV at e
  split at e
  · split at e
    · rename_i l hl
      cases e
      have o2 : D.ok (.lst l) 60 = true := by simpa [D.ok] using hl.2
      refine op_notInD hu pins s σ H _ _ v u Q I rx ry ⟨_, _, cx.dp sm hl.1, by simpa [D.pd] using cy.dp sm o2, ok_shaped hl.1 (by decide), by simpa [D.pd] using ok_shaped o2 (by decide), ?_⟩
      rw [any_eqv hl.1 hl.2]; exact q
    · cases e
  · split at e
    · rename_i hl
      cases e
      obtain ⟨p, ys, rfl, h2, r2⟩ := cy.tup sm
      have z := scal_any hl.1 cx r2 hl.2
      refine op_notIn_seq pins s σ H _ _ v u Q I rx ry ⟨_, _, rfl, .inr (.inl (.inl h2)), scal_flat hl.1 cx, z.1, ?_⟩
      rw [if_pos rfl, z.2]; exact q
    · cases e
  · simp only [Option.bind_eq_some_iff, Option.some.injEq] at e
    obtain ⟨k, e1, rfl⟩ := e
    obtain ⟨a, o, rfl, g, ro⟩ := dget_k sm cy cx e1
    cases ry
    exact d_notIn (by omega) I g rx fun s3 I3 => ⟨.bl (!o.isSome), H, I3, rfl, by rw [ro.isSome]; exact q⟩
  · simp only [Option.bind_eq_some_iff, Option.some.injEq] at e
    obtain ⟨k, e1, rfl⟩ := e
    obtain ⟨a, o, rfl, g, ro⟩ := dget_t sm cy cx e1
    cases ry
    exact d_notIn (by omega) I g rx fun s3 I3 => ⟨.bl (!o.isSome), H, I3, rfl, by rw [ro.isSome]; exact q⟩
  · split at e
    · rename_i hl
      cases e
      cases cx.str; cases cy.str
      refine op_notIn_sign pins s σ H _ _ v u Q I rx ry ⟨_, _, congrArg V.str (str_one hl), rfl, ?_⟩
      simp only [List.contains_eq_mem] at q
      exact q
    · cases e
  · cases e

theorem Cr.isN {K : PySem.W.Frag} {F H : Hp} {v : V} {d : D} (c : Cr K F H v d) : decide (v = .non) = (match d with | .non => true | _ => false) := by
  rcases c with c | ⟨p, rfl, c⟩
  · cases c <;> rfl
  · cases d <;> first | exact c.elim | rfl
theorem op_cmpV (hu : X.A.units + 65 < cLine) (op : CmpOp) : OpR X (compareOp op) (rVB X.K (cmpV op)) := by
  cases op with
  | Eq => exact op_eqV (by omega)
  | NotEq => exact op_neV (by omega)
  | In => exact op_inV hu
  | NotIn => exact op_notInV hu
  | Lt =>
    intro pins s σ H x y v u Q I rx ry ⟨F, dx, dy, r, sm, cx, cy, e, q⟩
    cases dx <;> cases dy <;> simp only [cmpV, Option.some.injEq, reduceCtorEq] at e
    · cases e; cases cx.int; cases cy.int
      exact op_lt pins s σ H _ _ v u Q I rx ry ⟨_, _, rfl, rfl, q⟩
    · cases e; cases cx.str; cases cy.str
      exact op_lt_str pins s σ H _ _ v u Q I rx ry ⟨_, _, rfl, rfl, q⟩
  | LtE =>
    intro pins s σ H x y v u Q I rx ry ⟨F, dx, dy, r, sm, cx, cy, e, q⟩
    cases dx <;> cases dy <;> simp only [cmpV, Option.some.injEq, reduceCtorEq] at e
    · cases e; cases cx.int; cases cy.int
      exact op_le pins s σ H _ _ v u Q I rx ry ⟨_, _, rfl, rfl, q⟩
    · cases e; cases cx.str; cases cy.str
      exact op_le_str pins s σ H _ _ v u Q I rx ry ⟨_, _, rfl, rfl, q⟩
  | Gt =>
    intro pins s σ H x y v u Q I rx ry ⟨F, dx, dy, r, sm, cx, cy, e, q⟩
    cases dx <;> cases dy <;> simp only [cmpV, Option.some.injEq, reduceCtorEq] at e
    · cases e; cases cx.int; cases cy.int
      exact op_gt pins s σ H _ _ v u Q I rx ry ⟨_, _, rfl, rfl, q⟩
    · cases e; cases cx.str; cases cy.str
      exact op_gt_str pins s σ H _ _ v u Q I rx ry ⟨_, _, rfl, rfl, q⟩
  | GtE =>
    intro pins s σ H x y v u Q I rx ry ⟨F, dx, dy, r, sm, cx, cy, e, q⟩
    cases dx <;> cases dy <;> simp only [cmpV, Option.some.injEq, reduceCtorEq] at e
    · cases e; cases cx.int; cases cy.int
      exact op_ge pins s σ H _ _ v u Q I rx ry ⟨_, _, rfl, rfl, q⟩
    · cases e; cases cx.str; cases cy.str
      exact op_ge_str pins s σ H _ _ v u Q I rx ry ⟨_, _, rfl, rfl, q⟩
  | Is =>
    intro pins s σ H x y v u Q I rx ry ⟨F, dx, dy, r, sm, cx, cy, e, q⟩
    have n := cx.isN
    cases dy <;> cases dx <;> simp only [cmpV, Option.some.injEq, reduceCtorEq] at e
    all_goals first
      | (cases e; cases cy.non
         refine op_isN pins s σ H _ _ v u Q I rx ry ⟨rfl, ?_⟩
         rw [n]; exact q)
      | (cases e; cases cx.bl; cases cy.bl
         exact op_isBl pins s σ H _ _ v u Q I rx ry ⟨_, _, rfl, rfl, q⟩)
  | IsNot =>
    intro pins s σ H x y v u Q I rx ry ⟨F, dx, dy, r, sm, cx, cy, e, q⟩
    have n := cx.isN
    cases dy <;> cases dx <;> simp only [cmpV, Option.some.injEq, reduceCtorEq] at e
    all_goals first
      | (cases e; cases cy.non
         refine op_notN pins s σ H _ _ v u Q I rx ry ⟨rfl, ?_⟩
         rw [n]; exact q)
      | (cases e; cases cx.bl; cases cy.bl
         exact op_notBl pins s σ H _ _ v u Q I rx ry ⟨_, _, rfl, rfl, q⟩)

/-! ### subscripts -/
theorem RpL.at {K : PySem.W.Frag} {F : Hp} {xs : List V} {l : List D} {i : Int} {d : D} (r : RpL K F xs l) (h : atI l i = some d) : ∃ v, atI xs i = some v ∧ Rp K F v d := by
  unfold atI at h ⊢
  rw [r.length]
  obtain ⟨j, e1, e2⟩ := Option.bind_eq_some_iff.mp h
  obtain ⟨v, e3, rv⟩ := r.get e2
  exact ⟨v, by rw [e1]; exact e3, rv⟩
theorem atI_map {α β : Type} (f : α → β) (l : List α) (i : Int) : atI (l.map f) i = (atI l i).map f := by
  unfold atI
  rw [List.length_map]
  cases ixN l.length i with
  | none => rfl
  | some j => simp
theorem d_ix (hu : X.A.units + 1 < cLine) : IxR X (fun x y H Q => ∃ a w, x = .ref a ∧ DGet H a y (some w) ∧ Q w H) := by
  intro value slice pins s σ H x y v u Q I rx ry h hs
  obtain ⟨a, w, rfl, g, q⟩ := h
  cases rx
  unfold subscriptTail
  refine wpAny_bind ?_
  have hT := dict_typeIs I g
  rw [getitemInPython_of_ne hT.not_modules]
  refine wpAny_bind (wpAny_specialOf hT PySem.F.slot_dict_getitem.lookup ?_)
  have fin : wpAny (model X.prog X.w) X.A (subscripted slice false (.ref a) u) (fun r s₃ => wpAny (model X.prog X.w) X.A (letTemporaryGo value (.ref a) r >>= fun _ => pure r) (EP X pins σ Q) X.xe s₃) X.xe s := by
    rw [hs]
    exact wpAny_operating (wpAny_mono (d_getItem hu I g ry fun w' s3 I3 rw' => (show EP X pins σ Q w' s3 from ⟨w, H, I3, rw', q⟩)) (fun r s₃ h₃ => wpAny_bind (wpAny_letTemporaryGo (wpAny_pure h₃))) fun _ _ x => x)
  first
    | exact wpAny_pure (wpAny_bind fin)
    | exact wpAny_bind (wpAny_pure (wpAny_bind fin))
    | exact wpAny_bind fin
def rVX (K : PySem.W.Frag) (f : D → D → Option D) : R2 := fun x y H Q => ∃ F dx dy r, Same F H ∧ Cr K F H x dx ∧ Cr K F H y dy ∧ f dx dy = some r ∧ ∀ v, Rp K F v r → Q v H
theorem ix_V (hu : X.A.units + 1 < cLine) : IxR X (rVX X.K ixV) := by
  intro value slice pins s σ H x y v u Q I rx ry ⟨F, dx, dy, r, sm, cx, cy, e, q⟩ hs
  unfold ixV at e
  split at e
  · obtain ⟨p, xs, rfl, h1, r1⟩ := cx.lst sm
    cases cy.int
    obtain ⟨w, e2, rw2⟩ := r1.at e
    exact ix_list value slice pins s σ H _ _ v u Q I rx ry ⟨_, _, _, _, rfl, rfl, .inl (.inl h1), e2, q _ rw2⟩ hs
  · obtain ⟨p, xs, rfl, h1, r1⟩ := cx.tup sm
    cases cy.int
    obtain ⟨w, e2, rw2⟩ := r1.at e
    exact ix_tup value slice pins s σ H _ _ v u Q I rx ry ⟨_, _, _, _, rfl, rfl, .inl (.inl h1), e2, q _ rw2⟩ hs
  · obtain ⟨p, o, xs, rfl, _, h1, r1⟩ := cx.tpn sm
    cases cy.int
    obtain ⟨w, e2, rw2⟩ := r1.at e
    exact ix_tup value slice pins s σ H _ _ v u Q I rx ry ⟨_, _, _, _, rfl, rfl, .inl (.inr ⟨_, h1⟩), e2, q _ rw2⟩ hs
  · obtain ⟨n, e1, rfl⟩ := Option.map_eq_some_iff.mp e
    obtain ⟨p, rfl, h1⟩ := cx.scr sm
    cases cy.int
    refine ix_list value slice pins s σ H _ _ v u Q I rx ry ⟨_, _, _, _, rfl, rfl, h1, ?_, q _ (.int n)⟩ hs
    rw [atI_map, e1]; rfl
  · split at e
    · rename_i hl
      obtain ⟨n, e1, rfl⟩ := Option.map_eq_some_iff.mp e
      cases cx.str; cases cy.int
      exact ix_str value slice pins s σ H _ _ v u Q I rx ry ⟨_, _, _, rfl, rfl, big_le hl, e1, q _ (.str _)⟩ hs
    · cases e
  · obtain ⟨k, e1, e2⟩ := Option.bind_eq_some_iff.mp e
    obtain ⟨a, o, rfl, g, ro⟩ := dget_k sm cx cy e1
    rw [e2] at ro
    cases o with
    | none => exact ro.elim
    | some w => exact d_ix hu value slice pins s σ H _ _ v u Q I rx ry ⟨a, w, rfl, g, q _ ro⟩ hs
  · obtain ⟨k, e1, e2⟩ := Option.bind_eq_some_iff.mp e
    obtain ⟨a, o, rfl, g, ro⟩ := dget_t sm cx cy e1
    rw [e2] at ro
    cases o with
    | none => exact ro.elim
    | some w => exact d_ix hu value slice pins s σ H _ _ v u Q I rx ry ⟨a, w, rfl, g, q _ ro⟩ hs
  · cases e

/-! ### slices -/
theorem RpL.cut {K : PySem.W.Frag} {F : Hp} {xs : List V} {l : List D} (r : RpL K F xs l) (lo hi : Option Int) : RpL K F (cutV xs lo hi) (cutD l lo hi) := by
  unfold cutV cutD
  rw [r.length]
  exact (r.drop _).take _
def rVS (K : PySem.W.Frag) : V → Option Int → Option Int → Hp → VK → Prop := fun x lo hi H Q => ∃ F dx r, Same F H ∧ Cr K F H x dx ∧ slV dx lo hi = some r ∧ ∀ v H', Res K F H r v H' → Q v H'
theorem sl_V : SlR X (rVS X.K) := by
  intro pins s σ H x v vl vu lo hi sl Q I rx hs pl pu ⟨F, dx, r, sm, cx, e, q⟩
  unfold slV at e
  split at e
  · cases e
    obtain ⟨p, xs, rfl, h1, r1⟩ := cx.lst sm
    exact sl_list pins s σ H _ v vl vu _ _ sl Q I rx hs pl pu ⟨_, _, rfl, .inl (.inl h1), fun z hz => q _ _ ⟨z, _, rfl, hz, rfl, _, upd_same, r1.cut _ _⟩⟩
  · split at e
    · rename_i hl
      cases e
      obtain ⟨p, xs, rfl, h1, r1⟩ := cx.tup sm
      have hc := (r1.cut lo hi).length
      refine sl_tup pins s σ H _ v vl vu lo hi sl Q I rx hs pl pu ⟨_, _, rfl, .inl (.inl h1), ?_, fun z hz => q _ _ (.inr ⟨z, _, hz, rfl, rfl, .tup upd_same ((r1.cut lo hi).mono (same_upd (sm.free hz)))⟩)⟩
      intro z
      have hl' : (cutV xs lo hi).length < xs.length := by rw [hc, r1.length]; exact hl
      unfold cutV at hl'
      simp only [List.length_take, List.length_drop] at hl'
      omega
    · cases e
  · cases e
end
end Ts

set_option linter.all false
set_option autoImplicit false
set_option maxRecDepth 100000
/-! The built-in functions, by values. -/
namespace Ts
open PySem PySem.Spec PyProof.Rows L2

inductive CrL (K : PySem.W.Frag) (F H : Hp) : List V → List D → Prop
  | nil : CrL K F H [] []
  | cons {v : V} {d : D} {vs : List V} {ds : List D} : Cr K F H v d → CrL K F H vs ds → CrL K F H (v :: vs) (d :: ds)
theorem CrL.one {K : PySem.W.Frag} {F H : Hp} {vs : List V} {d : D} (c : CrL K F H vs [d]) : ∃ v, vs = [v] ∧ Cr K F H v d := by
  cases c with
  | cons h t => cases t; exact ⟨_, rfl, h⟩
theorem CrL.two {K : PySem.W.Frag} {F H : Hp} {vs : List V} {d e : D} (c : CrL K F H vs [d, e]) : ∃ v w, vs = [v, w] ∧ Cr K F H v d ∧ Cr K F H w e := by
  cases c with
  | cons h t =>
    cases t with
    | cons h2 t => cases t; exact ⟨_, _, rfl, h, h2⟩

section
variable {K : PySem.W.Frag} {F H : Hp}
theorem RpL.ints : ∀ {xs : List V} {l : List D} {ns : List Int}, RpL K F xs l → D.ints? l = some ns → xs = ns.map V.int
  | _, _, ns, .nil, e => by simp only [D.ints?, Option.some.injEq] at e; subst e; rfl
  | _, d :: l, ns, .cons h r, e => by
    cases d <;> simp only [D.ints?, reduceCtorEq, Option.bind_eq_some_iff, Option.some.injEq] at e
    obtain ⟨m, e1, rfl⟩ := e
    rw [RpL.ints r e1]
    cases h
    rfl
theorem RpL.bls : ∀ {xs : List V} {l : List D} {ns : List Bool}, RpL K F xs l → D.bls? l = some ns → xs = ns.map V.bl
  | _, _, ns, .nil, e => by simp only [D.bls?, Option.some.injEq] at e; subst e; rfl
  | _, d :: l, ns, .cons h r, e => by
    cases d <;> simp only [D.bls?, reduceCtorEq, Option.bind_eq_some_iff, Option.some.injEq] at e
    obtain ⟨m, e1, rfl⟩ := e
    rw [RpL.bls r e1]
    cases h
    rfl
theorem RpK.keysS : ∀ {xs : List (Key × V)} {l : List (Key × D)} {ks : List Str}, RpK K F xs l → keysS? l = some ks → xs.map (·.1) = ks.map Sum.inr
  | _, _, ks, .nil, e => by simp only [keysS?, Option.some.injEq] at e; subst e; rfl
  | _, (k, d) :: l, ks, .cons h r, e => by
    cases k <;> simp only [keysS?, reduceCtorEq, Option.bind_eq_some_iff, Option.some.injEq] at e
    obtain ⟨m, e1, rfl⟩ := e
    rw [List.map_cons, RpK.keysS r e1]
    rfl
end

/-! ### the order -/
theorem leD_total : PySem.W.TotalLe leD := by
  unfold leD PySem.W.dataLe
  exact PySem.W.sortLe_total _ _ _
theorem leD_str (a b : Str) : leD (.str a) (.str b) = !strLt b a := by
  show (!PySem.W.dataLt (.str b) (.str a)) = _
  rw [PySem.W.dataLt_str]
  rfl
theorem leD_int (a b : Int) : leD (.int a) (.int b) = decide (a ≤ b) := by
  show (!PySem.W.dataLt (.int b) (.int a)) = _
  rw [PySem.W.dataLt_int]
  by_cases h : a ≤ b
  · rw [decide_eq_true h, decide_eq_false (by omega)]; rfl
  · rw [decide_eq_false h, decide_eq_true (by omega)]; rfl
theorem strLt_irrefl (a : Str) : strLt a a = false := by
  unfold strLt
  exact decide_eq_false (List.lt_irrefl _)
theorem strLt_antisymm {a b : Str} (h : strLt a b = false) (g : strLt b a = false) : a = b := by
  unfold strLt at h g
  have h1 := of_decide_eq_false h
  have g1 := of_decide_eq_false g
  exact PySem.W.str_of_cps (List.le_antisymm (List.not_lt.mp g1) (List.not_lt.mp h1))
theorem leD_sortedS : ∀ {ys : List Str}, sortedS ys = true → (ys.map D.str).Pairwise (fun a b => leD a b = true) := by
  have key : ∀ (r : List Str) (x : Str), risingS x r = true → ((x :: r).map D.str).Pairwise (fun a b => leD a b = true) := by
    intro r
    induction r with
    | nil => intro x _; simp
    | cons y r ih =>
      intro x h
      have h' : (!strLt y x) = true ∧ risingS y r = true := by
        unfold risingS at h
        rw [Bool.and_eq_true] at h
        exact ⟨by rw [← h.1, ltCps_eq]; rfl, h.2⟩
      have p := ih y h'.2
      have xy : leD (.str x) (.str y) = true := by rw [leD_str]; exact h'.1
      rw [List.map_cons, List.pairwise_cons]
      refine ⟨fun z hz => ?_, p⟩
      rw [List.map_cons, List.mem_cons] at hz
      rcases hz with rfl | hz
      · exact xy
      · rw [List.map_cons, List.pairwise_cons] at p
        exact leD_total.trans _ _ _ xy (p.1 z hz)
  intro ys h
  cases ys with
  | nil => simp
  | cons x r => exact key r x h
/-- two arrangements of texts in order are one -/
theorem strs_unique {ys ks : List Str} (p : ys.Perm ks) (s : sortedS ys = true) : ys.map D.str = (ks.map D.str).mergeSort leD := by
  have e1 : (ks.map D.str).mergeSort leD = (ks.mergeSort fun a b => !strLt b a).map D.str := by
    rw [← PySem.W.sort_maps]
    intro a _ b _
    exact (leD_str a b).symm
  rw [e1]
  congr 1
  have t1 : ys.Pairwise (fun a b => (!strLt b a) = true) := by
    have := leD_sortedS s
    rw [List.pairwise_map] at this
    exact this.imp fun {a b} h => by rw [leD_str] at h; exact h
  have t2 : (ks.mergeSort fun a b => !strLt b a).Pairwise (fun a b => (!strLt b a) = true) := by
    refine List.pairwise_mergeSort (le := fun a b => !strLt b a) (fun a b c h1 h2 => ?_) (fun a b => ?_) ks
    · rw [← leD_str] at h1 h2 ⊢; exact leD_total.trans _ _ _ h1 h2
    · rw [← leD_str, ← leD_str, Bool.or_eq_true]; exact leD_total.total _ _
  refine List.Perm.eq_of_pairwise (le := fun a b => (!strLt b a) = true) ?_ t1 t2 (p.trans (List.mergeSort_perm _ _).symm)
  intro a b _ _ h1 h2
  simp only [Bool.not_eq_true'] at h1 h2
  exact strLt_antisymm h2 h1
/-! ### min, max of two texts -/
section
variable {prog : Program} {w : World} {A : Around} {E : Value → Shared → Prop} {s : Shared} {x y : Str} {t u : Tok}
theorem strs_at {vs : Array Value} {ks : List Str} (h : vs.toList.length = ks.length) (g : ∀ (i : Nat) (v : Value), vs[i]? = some v → ∃ t : Tok, v = Value.str (ks.getD i ⟨#[]⟩) t) :
    CmpOf prog w A .Lt (fun i v => vs[i]? = some v) (fun i j => strLt (ks.getD i ⟨#[]⟩) (ks.getD j ⟨#[]⟩)) := fun i j vi vj s' Q E hi hj hq => by
  obtain ⟨t, rfl⟩ := g i vi hi
  obtain ⟨t', rfl⟩ := g j vj hj
  exact PySem.P.lt_str hq
theorem strs_atG {vs : Array Value} {ks : List Str} (h : vs.toList.length = ks.length) (g : ∀ (i : Nat) (v : Value), vs[i]? = some v → ∃ t : Tok, v = Value.str (ks.getD i ⟨#[]⟩) t) :
    CmpOf prog w A .Gt (fun i v => vs[i]? = some v) (fun i j => strLt (ks.getD j ⟨#[]⟩) (ks.getD i ⟨#[]⟩)) := fun i j vi vj s' Q E hi hj hq => by
  obtain ⟨t, rfl⟩ := g i vi hi
  obtain ⟨t', rfl⟩ := g j vj hj
  exact PySem.P.gt_str hq
theorem pair_at (x y : Str) (t u : Tok) (i : Nat) (v : Value) (h : (#[Value.str x t, Value.str y u])[i]? = some v) : ∃ t : Tok, v = Value.str ([x, y].getD i ⟨#[]⟩) t := by
  match i, h with
  | 0, h => exact ⟨t, (Option.some.inj (by simpa using h)).symm⟩
  | 1, h => exact ⟨u, (Option.some.inj (by simpa using h)).symm⟩
  | i + 2, h => simp at h
theorem min_two_str {Q : Value → Shared → Prop} (hh : A.handled = none)
    (h : ∀ h' tk, (∀ c o, s.heap.get? c = some o → h'.get? c = some o) → Q (if strLt y x = true then .str y u else .str x t) { s with heap := h', toks := tk }) :
    wpAny (model prog w) A (call (.builtin "min") [.str x t, .str y u]) Q E s := by
  have hT : (s.heap.push { cls := .type "tuple", data := .seq #[.str x t, .str y u] }).IsTuple s.heap.objs.size #[.str x t, .str y u] := ⟨_, Heap.get?_push_size _ rfl, rfl, 0, rfl⟩
  refine call_min_two (wpAny_pyIter_tuple hT ?_)
  have hsz : (s.heap.push { cls := .type "tuple", data := .seq #[.str x t, .str y u] }).objs.size = s.heap.objs.size + 1 := Heap.size_push ..
  refine ⟨_, [_, s.heap.objs.size], [_], _, _, _, _, rfl, Walks.tuple (A := A.in1) hh _ s.heap.objs.size (by rw [hsz]; exact Nat.ne_of_lt (Nat.lt_succ_self _)) #[.str x t, .str y u],
    ⟨⟨_, Heap.get?_push_size _ rfl, rfl, rfl⟩, hT.push _⟩, fun c hc => ?_, by simp, strs_at (ks := [x, y]) rfl (pair_at x y t u), fun v h' tk hP hk => ?_⟩
  · show c < ((s.heap.push _).push _).objs.size
    rw [Heap.size_push, hsz]
    rcases List.mem_cons.mp hc with rfl | hc
    · rw [hsz]; exact Nat.lt_succ_self _
    · rcases List.mem_cons.mp hc with rfl | hc
      · exact Nat.lt_succ_of_lt (Nat.lt_succ_self _)
      · cases hc
  · have hold : ∀ c o, s.heap.get? c = some o → h'.get? c = some o := fun c o e => by
      refine hk c o (fun hm => ?_) (Heap.get?_push_of_some _ (Heap.get?_push_of_some _ e))
      rcases List.mem_cons.mp hm with e1 | hm
      · have := Heap.lt_size e; rw [e1, hsz] at this; exact Nat.lt_irrefl _ (Nat.lt_of_succ_lt this)
      · cases hm
    have := h h' tk hold
    have hv : v = if strLt y x = true then .str y u else .str x t := by
      cases hc : strLt y x <;> simp [argBest, hc] at hP <;> simp [hP]
    rw [hv]; exact this
theorem max_two_str {Q : Value → Shared → Prop} (hh : A.handled = none)
    (h : ∀ h' tk, (∀ c o, s.heap.get? c = some o → h'.get? c = some o) → Q (if strLt x y = true then .str y u else .str x t) { s with heap := h', toks := tk }) :
    wpAny (model prog w) A (call (.builtin "max") [.str x t, .str y u]) Q E s := by
  have hT : (s.heap.push { cls := .type "tuple", data := .seq #[.str x t, .str y u] }).IsTuple s.heap.objs.size #[.str x t, .str y u] := ⟨_, Heap.get?_push_size _ rfl, rfl, 0, rfl⟩
  refine call_max_two (wpAny_pyIter_tuple hT ?_)
  have hsz : (s.heap.push { cls := .type "tuple", data := .seq #[.str x t, .str y u] }).objs.size = s.heap.objs.size + 1 := Heap.size_push ..
  refine ⟨_, [_, s.heap.objs.size], [_], _, _, _, _, rfl, Walks.tuple (A := A.in1) hh _ s.heap.objs.size (by rw [hsz]; exact Nat.ne_of_lt (Nat.lt_succ_self _)) #[.str x t, .str y u],
    ⟨⟨_, Heap.get?_push_size _ rfl, rfl, rfl⟩, hT.push _⟩, fun c hc => ?_, by simp, strs_atG (ks := [x, y]) rfl (pair_at x y t u), fun v h' tk hP hk => ?_⟩
  · show c < ((s.heap.push _).push _).objs.size
    rw [Heap.size_push, hsz]
    rcases List.mem_cons.mp hc with rfl | hc
    · rw [hsz]; exact Nat.lt_succ_self _
    · rcases List.mem_cons.mp hc with rfl | hc
      · exact Nat.lt_succ_of_lt (Nat.lt_succ_self _)
      · cases hc
  · have hold : ∀ c o, s.heap.get? c = some o → h'.get? c = some o := fun c o e => by
      refine hk c o (fun hm => ?_) (Heap.get?_push_of_some _ (Heap.get?_push_of_some _ e))
      rcases List.mem_cons.mp hm with e1 | hm
      · have := Heap.lt_size e; rw [e1, hsz] at this; exact Nat.lt_irrefl _ (Nat.lt_of_succ_lt this)
      · cases hm
    have := h h' tk hold
    have hv : v = if strLt x y = true then .str y u else .str x t := by
      cases hc : strLt x y <;> simp [argBest, hc] at hP <;> simp [hP]
    rw [hv]; exact this
end

/-! ### data read -/
section
variable {X : Cx} {pins : List (Addr × Obj)} {σ : L2.St} {H F : Hp} {s : Shared}
theorem rps_reads (I : Inv X pins σ H s) (sm : Same F H) {n : Nat} : ∀ {xs : List V} {l : List D} {us : List Value}, RpL X.K F xs l → Vals xs us → D.oks l n = true → ∃ as, ReadsAll s.heap us (D.pds l) as := fun {xs l us} r rv e =>
  Dp.readsAll I _ _ _ (r.dp sm e) rv
theorem each_reads : ∀ {us : List Value} {l : List D} {as : List Addr} {h : Heap}, ReadsAll h us (D.pds l) as → PySem.W.EachIs (fun v b => ∃ as, Reads h v b.pd as) us l
  | us, [], as, h, r => by cases r; exact .nil
  | us, d :: l, as, h, r => by
    cases r with
    | cons r1 r2 => exact .cons ⟨_, r1⟩ (each_reads r2)
theorem each_rp {K : PySem.W.Frag} : ∀ {us : List Value} {xs : List V} {l : List D}, RpL K F xs l → Vals xs us → PySem.W.EachIs (fun u d => ∃ v, RelV v u ∧ Rp K F v d) us l
  | _, _, _, .nil, .nil => .nil
  | _, _, _, .cons h r, .cons g t => .cons ⟨_, g, h⟩ (each_rp r t)
theorem rp_each {K : PySem.W.Frag} : ∀ {us : List Value} {l : List D}, PySem.W.EachIs (fun u d => ∃ v, RelV v u ∧ Rp K F v d) us l → ∃ xs, Vals xs us ∧ RpL K F xs l
  | _, _, .nil => ⟨[], .nil, .nil⟩
  | _, _, .cons ⟨v, g, h⟩ t => by
    obtain ⟨xs, a, b⟩ := rp_each t
    exact ⟨v :: xs, .cons g a, .cons h b⟩
theorem ord_alike {l : List D} (h : ordOk l = true) : D.oks l 59 = true ∧ PySem.W.AllAlike (l.map D.pd) ∧ PySem.W.Sortable (l.map D.pd) ∧ ∀ d ∈ l, d.pd ≠ .none := by
  unfold ordOk at h
  rw [Bool.and_eq_true, Bool.and_eq_true, Bool.or_eq_true] at h
  obtain ⟨⟨h1, h2⟩, h3⟩ := h
  refine ⟨h1, fun d hd e he => ?_, ?_, ?_⟩
  · obtain ⟨d', hd', rfl⟩ := List.mem_map.mp hd
    obtain ⟨e', he', rfl⟩ := List.mem_map.mp he
    exact List.all_eq_true.mp (List.all_eq_true.mp h2 d' hd') e' he'
  · rcases h3 with h3 | h3
    · refine .inl fun d hd => ?_
      obtain ⟨d', hd', rfl⟩ := List.mem_map.mp hd
      have := List.all_eq_true.mp h3 d' hd'
      split at this
      · rename_i a r; exact ⟨_, _, by rw [D.pd, D.pds]⟩
      · cases this
    · refine .inr fun d hd => ?_
      obtain ⟨d', hd', rfl⟩ := List.mem_map.mp hd
      have := List.all_eq_true.mp h3 d' hd'
      split at this
      · exact ⟨by simp [D.pd], fun xs => by simp [D.pd]⟩
      · exact ⟨by simp [D.pd], fun xs => by simp [D.pd]⟩
      · cases this
  · intro d' hd'
    rcases h3 with h3 | h3
    · have := List.all_eq_true.mp h3 d' hd'
      split at this
      · simp [D.pd]
      · cases this
    · have := List.all_eq_true.mp h3 d' hd'
      split at this
      · simp [D.pd]
      · simp [D.pd]
      · cases this
theorem oks_mem {l : List D} {n : Nat} (h : D.oks l n = true) {d : D} (hd : d ∈ l) : d.ok n = true := by
  rw [D.oks_all] at h
  exact List.all_eq_true.mp h d hd
end

section
variable {X : Cx}
def rBi (K : PySem.W.Frag) (f : List D → Option Nv) : List V → Hp → VK → Prop := fun xs H Q => ∃ F ds r, Same F H ∧ CrL K F H xs ds ∧ f ds = some r ∧ ∀ v H', Res K F H r v H' → Q v H'
theorem cr_sortedL (hu : X.A.units + 64 < cLine) : CallR X (.builtin "sorted") (fun xs H Q => ∃ F v l, xs = [v] ∧ Same F H ∧ Cr X.K F H v (.lst l) ∧ ordOk l = true ∧ l.length ≤ bigLine ∧ ∀ v H', Res X.K F H (.ow (.lst (l.mergeSort leD))) v H' → Q v H') := by
  intro pins s σ H vs us Q I r ⟨F, v, l, e, sm, c, o, hl, q⟩
  subst e
  obtain ⟨a, xs, rfl, h1, r1⟩ := c.lst sm
  obtain ⟨its, rv, pl, hz⟩ := I.list (.inl (.inl h1) : SqL X.K H a xs)
  rw [Vals.ref1 r]
  obtain ⟨o1, o2, o3, _⟩ := ord_alike o
  obtain ⟨as, ra⟩ := rps_reads I sm r1 rv o1
  refine PySem.W.sorted_data (bs := l) (enc := D.pd) (R := fun u d => ∃ v, RelV v u ∧ Rp X.K F v d) pl.isList (each_rp r1 rv) (each_reads ra) o2 o3 (big_le hl) (fun d hd => ?_) fun out ho eo => ?_
  · have := (ok_lay d 59 (oks_mem o1 hd)).2
    omega
  · obtain ⟨ys, ev, er⟩ := rp_each eo
    obtain ⟨ep, he'⟩ := PyProof.Rows.sortedAll_at s.heap its out.toArray
    have hlen : ys.length ≤ sizeLine := by rw [er.length, List.length_mergeSort]; exact big_le hl
    have hn : H (s.heap.objs.size + 1) = none := I.hok.fresh (Nat.le_succ _)
    exact ⟨.ref _, upd H (s.heap.objs.size + 1) (.lst ys), I.laid (t' := s.toks) (fun _ _ => PyProof.Rows.sortedAll_old) (Nat.le_succ _) ⟨hlen, out, ep, ev, he'⟩, rfl, q _ _ ⟨_, _, rfl, hn, rfl, _, upd_same, er⟩⟩
mutual
theorem pd_inj : ∀ (d e : D) (n m : Nat), d.ok n = true → e.ok m = true → d.pd = e.pd → d = e
  | .non, e, n, m, _, h, q => by cases e <;> simp_all [D.pd, D.ok]
  | .int _, e, n, m, _, h, q => by cases e <;> simp_all [D.pd, D.ok]
  | .str x, e, n, m, _, h, q => by cases e <;> simp_all [D.pd, D.ok]
  | .bl _, e, n, m, h, _, _ => by simp [D.ok] at h
  | .dk _, e, n, m, h, _, _ => by simp [D.ok] at h
  | .dt _, e, n, m, h, _, _ => by simp [D.ok] at h
  | .scr _, e, n, m, h, _, _ => by simp [D.ok] at h
  | .tpn _, e, n, m, h, _, _ => by simp [D.ok] at h
  | .tup l, e, 0, m, h, _, _ => by simp [D.ok] at h
  | .lst l, e, 0, m, h, _, _ => by simp [D.ok] at h
  | .tup l, e, n + 1, m, h, g, q => by
    cases e with
    | tup k =>
      cases m with
      | zero => simp [D.ok] at g
      | succ m =>
        rw [D.pd, D.pd] at q
        rw [pds_inj l k n m (by simpa [D.ok] using h) (by simpa [D.ok] using g) (PyData.tuple.inj q)]
    | _ => simp_all [D.pd, D.ok]
  | .lst l, e, n + 1, m, h, g, q => by
    cases e with
    | lst k =>
      cases m with
      | zero => simp [D.ok] at g
      | succ m =>
        rw [D.pd, D.pd] at q
        rw [pds_inj l k n m (by simpa [D.ok] using h) (by simpa [D.ok] using g) (PyData.list.inj q)]
    | _ => simp_all [D.pd, D.ok]
theorem pds_inj : ∀ (d e : List D) (n m : Nat), D.oks d n = true → D.oks e m = true → D.pds d = D.pds e → d = e
  | [], [], n, m, _, _, _ => rfl
  | [], _ :: _, n, m, _, _, q => by simp [D.pds] at q
  | _ :: _, [], n, m, _, _, q => by simp [D.pds] at q
  | a :: l, b :: k, n, m, h, g, q => by
    simp only [D.oks, Bool.and_eq_true] at h g
    simp only [D.pds, List.cons.injEq] at q
    rw [pd_inj a b n m h.1 g.1 q.1, pds_inj l k n m h.2 g.2 q.2]
end
theorem minD_pd (l : List D) : ∀ d : D, PySem.W.minD d.pd (D.pds l) = (leastD d l).pd ∧ leastD d l ∈ d :: l := by
  induction l with
  | nil => exact fun d => ⟨rfl, by simp [leastD]⟩
  | cons e l ih =>
    intro d
    have ih' := ih (if PySem.W.dataLt e.pd d.pd then e else d)
    unfold PySem.W.minD leastD at ih' ⊢
    rw [D.pds, List.foldl_cons, List.foldl_cons]
    refine ⟨?_, ?_⟩
    · rw [← ih'.1]
      split <;> rfl
    · rcases List.mem_cons.mp ih'.2 with h | h
      · rw [h]; split <;> simp
      · exact List.mem_cons_of_mem _ (List.mem_cons_of_mem _ h)
theorem maxD_pd (l : List D) : ∀ d : D, PySem.W.maxD d.pd (D.pds l) = (mostD d l).pd ∧ mostD d l ∈ d :: l := by
  induction l with
  | nil => exact fun d => ⟨rfl, by simp [mostD]⟩
  | cons e l ih =>
    intro d
    have ih' := ih (if PySem.W.dataLt d.pd e.pd then e else d)
    unfold PySem.W.maxD mostD at ih' ⊢
    rw [D.pds, List.foldl_cons, List.foldl_cons]
    refine ⟨?_, ?_⟩
    · rw [← ih'.1]
      split <;> rfl
    · rcases List.mem_cons.mp ih'.2 with h | h
      · rw [h]; split <;> simp
      · exact List.mem_cons_of_mem _ (List.mem_cons_of_mem _ h)
theorem vals_at {vs : List V} {us : List Value} (h : Vals vs us) {i : Nat} {u : Value} (e : us[i]? = some u) : ∃ v, vs[i]? = some v ∧ RelV v u := by
  cases q : vs[i]? with
  | none => rw [h.none_of q] at e; cases e
  | some v =>
    obtain ⟨u', e', r⟩ := h.get q
    rw [e] at e'; cases e'
    exact ⟨v, rfl, r⟩
/-- which item it was -/
theorem picked {pins : List (Addr × Obj)} {σ : L2.St} {H F : Hp} {s : Shared} {xs : List V} {l : List D} {us : List Value} (I : Inv X pins σ H s) (sm : Same F H) (r : RpL X.K F xs l) (rv : Vals xs us) (o1 : D.oks l 59 = true) (o2 : PySem.W.AllAlike (l.map D.pd))
    {best : D} (hb : best ∈ l) {i : Nat} {v : Value} {h' : Heap} {bs : List Addr} (e : us[i]? = some v) (rd : Reads h' v best.pd bs) (k : ∀ b o, s.heap.get? b = some o → h'.get? b = some o) : ∃ x, RelV x v ∧ Rp X.K F x best := by
  obtain ⟨x, ex, rx⟩ := vals_at rv e
  obtain ⟨d, ed, rd'⟩ := r.getV ex
  have hd : d ∈ l := List.mem_of_getElem? ed
  obtain ⟨as, ra⟩ := Dp.reads I _ _ _ (rd'.dp sm (oks_mem o1 hd)) rx
  have ra' : Reads h' v d.pd as := PyProof.Rows.Reads.keeps k ra
  have := PySem.W.alike_unique _ _ _ _ _ (o2 _ (List.mem_map.mpr ⟨d, hd, rfl⟩) _ (List.mem_map.mpr ⟨best, hb, rfl⟩)) ra' rd
  have q := pd_inj d best 59 59 (oks_mem o1 hd) (oks_mem o1 hb) this
  subst q
  exact ⟨x, rx, rd'⟩
theorem cr_min1 (hc : X.calm = true) (hu : X.A.units + 64 < cLine) : CallR X (.builtin "min") (fun xs H Q => ∃ F v d l, xs = [v] ∧ Same F H ∧ Cr X.K F H v (.lst (d :: l)) ∧ ordOk (d :: l) = true ∧ ∀ v, Rp X.K F v (leastD d l) → Q v H) := by
  intro pins s σ H vs us Q I r ⟨F, v, d, l, e, sm, c, o, q⟩
  subst e
  obtain ⟨a, xs, rfl, h1, r1⟩ := c.lst sm
  obtain ⟨its, rv, pl, hz⟩ := I.list (.inl (.inl h1) : SqL X.K H a xs)
  rw [Vals.ref1 r]
  obtain ⟨o1, o2, o3, o4⟩ := ord_alike o
  obtain ⟨as, ra⟩ := rps_reads I sm r1 rv o1
  refine PySem.W.min_list_data (vs := its.toArray) (x := d.pd) (xs := D.pds l) (I.ok.hd hc) pl.isList (by simpa [D.pds] using ra) ⟨fun x hx y hy => ?_, fun x hx => ?_⟩ ?_ fun i w h' tk bs e rd k => ?_
  · rw [D.pds_map, ← List.map_cons] at hx hy
    exact o2 _ hx _ hy
  · rw [D.pds_map, ← List.map_cons] at hx
    obtain ⟨e, he, rfl⟩ := List.mem_map.mp hx
    exact o4 e he
  · have := (oks_lay _ _ o1).2
    rw [D.pds] at this
    omega
  · rw [(minD_pd l d).1] at rd
    obtain ⟨x, rx, rp⟩ := picked I sm r1 rv o1 o2 (minD_pd l d).2 (by simpa using e) rd k
    exact ⟨x, H, I.kept k, rx, q x rp⟩
theorem cr_max1 (hc : X.calm = true) (hu : X.A.units + 64 < cLine) : CallR X (.builtin "max") (fun xs H Q => ∃ F v d l, xs = [v] ∧ Same F H ∧ Cr X.K F H v (.lst (d :: l)) ∧ ordOk (d :: l) = true ∧ ∀ v, Rp X.K F v (mostD d l) → Q v H) := by
  intro pins s σ H vs us Q I r ⟨F, v, d, l, e, sm, c, o, q⟩
  subst e
  obtain ⟨a, xs, rfl, h1, r1⟩ := c.lst sm
  obtain ⟨its, rv, pl, hz⟩ := I.list (.inl (.inl h1) : SqL X.K H a xs)
  rw [Vals.ref1 r]
  obtain ⟨o1, o2, o3, o4⟩ := ord_alike o
  obtain ⟨as, ra⟩ := rps_reads I sm r1 rv o1
  refine PySem.W.max_list_data (vs := its.toArray) (x := d.pd) (xs := D.pds l) (I.ok.hd hc) pl.isList (by simpa [D.pds] using ra) ⟨fun x hx y hy => ?_, fun x hx => ?_⟩ ?_ fun i w h' tk bs e rd k => ?_
  · rw [D.pds_map, ← List.map_cons] at hx hy
    exact o2 _ hx _ hy
  · rw [D.pds_map, ← List.map_cons] at hx
    obtain ⟨e, he, rfl⟩ := List.mem_map.mp hx
    exact o4 e he
  · have := (oks_lay _ _ o1).2
    rw [D.pds] at this
    omega
  · rw [(maxD_pd l d).1] at rd
    obtain ⟨x, rx, rp⟩ := picked I sm r1 rv o1 o2 (maxD_pd l d).2 (by simpa using e) rd k
    exact ⟨x, H, I.kept k, rx, q x rp⟩

def biVal : Bi → Value
  | .len => .builtin "len" | .abs => .builtin "abs" | .min1 => .builtin "min" | .max1 => .builtin "max" | .min2 => .builtin "min" | .max2 => .builtin "max"
  | .sorted => .builtin "sorted" | .sum => .builtin "sum" | .tuple => .type "tuple" | .list => .type "list" | .all => .builtin "all" | .any => .builtin "any" | .tupK => .type "tuple"
theorem vals_two {x y : V} {us : List Value} (h : Vals [x, y] us) : ∃ u v, us = [u, v] ∧ RelV x u ∧ RelV y v := h.two
theorem call_tupleK {X : Cx} : CallR X (.type "tuple") (fun xs H Q => ∃ p ys, xs = [.ref p] ∧ SqL X.K H p ys ∧ ∀ l o, H l = none → BareT o → Q (.ref l) (upd H l (.frz o (.tup ys)))) := by
  intro pins s σ H xs us Q I r h
  obtain ⟨p, ys, rfl, hq, q⟩ := h
  obtain ⟨u, rfl, rx⟩ := vals1 r
  cases rx
  obtain ⟨its, r', pl, hz⟩ := I.list hq
  have hlen := r'.length
  refine call_tuple_list pl.isList (fun h' kp => ?_) (by simp only [List.size_toArray] <;> omega)
  have I1 : Inv X pins σ H { s with heap := h' } := I.kept (t' := s.toks) kp
  have I2 : Inv X pins σ (upd H h'.objs.size (.frz { cls := .type "tuple", data := .seq its.toArray } (.tup ys))) { s with heap := h'.push { cls := .type "tuple", data := .seq its.toArray } } :=
    I1.laid (t' := s.toks) (fun b o e => Heap.get?_push_of_some _ e) (Nat.le_refl _) (show ObjOk X.prog X.w _ _ _ (.frz _ (.tup ys)) from ⟨Heap.get?_push_size _ rfl, hz, its, r', IsTup.new _ _⟩)
  exact ⟨.ref h'.objs.size, _, I2, rfl, q _ _ (I1.hok.fresh (Nat.le_refl _)) ⟨rfl, rfl⟩⟩
/-- len of a dict whose keys are tuples -/
theorem t_len {pins : List (Addr × Obj)} {σ : L2.St} {H : Hp} {s : Shared} {E : Value → Shared → Prop} {a : Addr} {kvs : List (List Key × V)} {Q : Value → Shared → Prop} (I : Inv X pins σ H s) (e : Rd H a (.dT kvs)) (h : ∀ t s', Inv X pins σ H s' → Q (.int kvs.length t) s') : wpAny (model X.prog X.w) X.A (call (.builtin "len") [.ref a]) Q E s := by
  obtain ⟨z, hd, xs, rel, dd⟩ := dt_rd I.hok e
  refine call_len_dictH hd dd (by rw [← Paired.length rel]; rw [sizeLine_eq] at z; omega) ?_
  rw [← Paired.length rel]
  exact h _ _ (I.tok _)
theorem cr_bi (hc : X.calm = true) (hu : X.A.units + 64 < cLine) (b : Bi) : CallR X (biVal b) (rBi X.K (biV b)) := by
  intro pins s σ H vs us Q I rv ⟨F, ds, r, sm, cs, e, q⟩
  have hh := I.ok.hd hc
  unfold biV at e
  split at e
  · cases e
    obtain ⟨v, rfl, c⟩ := cs.one
    obtain ⟨a, xs, rfl, h1, r1⟩ := c.lst sm
    exact call_len_seq pins s σ H _ us Q I rv ⟨_, _, rfl, .inl (.inl (.inl h1)), by rw [r1.length]; exact q _ _ (.inl ⟨rfl, .int _⟩)⟩
  · cases e
    obtain ⟨v, rfl, c⟩ := cs.one
    obtain ⟨a, xs, rfl, h1, r1⟩ := c.tup sm
    exact call_len_seq pins s σ H _ us Q I rv ⟨_, _, rfl, .inr (.inl (.inl h1)), by rw [r1.length]; exact q _ _ (.inl ⟨rfl, .int _⟩)⟩
  · cases e
    obtain ⟨v, rfl, c⟩ := cs.one
    obtain ⟨a, rfl, h1⟩ := c.scr sm
    exact call_len_seq pins s σ H _ us Q I rv ⟨_, _, rfl, .inl h1, by rw [List.length_map]; exact q _ _ (.inl ⟨rfl, .int _⟩)⟩
  · split at e
    · rename_i hl
      cases e
      obtain ⟨v, rfl, c⟩ := cs.one
      cases c.str
      exact call_len_str pins s σ H _ us Q I rv ⟨_, rfl, big_le hl, q _ _ (.inl ⟨rfl, .int _⟩)⟩
    · cases e
  · cases e
    obtain ⟨v, rfl, c⟩ := cs.one
    obtain ⟨a, xs, rfl, h1, r1⟩ := c.dk sm
    obtain ⟨u, rfl, ru⟩ := rv.one
    cases ru
    exact d_len I h1 fun t s' I' => ⟨.int xs.length, H, I', ⟨t, rfl⟩, by rw [r1.length]; exact q _ _ (.inl ⟨rfl, .int _⟩)⟩
  · cases e
    obtain ⟨v, rfl, c⟩ := cs.one
    obtain ⟨a, xs, rfl, h1, r1⟩ := c.dt sm
    obtain ⟨u, rfl, ru⟩ := rv.one
    cases ru
    exact t_len I h1 fun t s' I' => ⟨.int xs.length, H, I', ⟨t, rfl⟩, by rw [r1.length]; exact q _ _ (.inl ⟨rfl, .int _⟩)⟩
  · cases e
    obtain ⟨v, rfl, c⟩ := cs.one
    cases c.int
    exact call_abs pins s σ H _ us Q I rv ⟨_, rfl, q _ _ (.inl ⟨rfl, .int _⟩)⟩
  · cases e
    obtain ⟨v, w, rfl, c, c'⟩ := cs.two
    cases c.int; cases c'.int
    exact call_min2 hc pins s σ H _ us Q I rv ⟨_, _, rfl, q _ _ (.inl ⟨rfl, .int _⟩)⟩
  · cases e
    obtain ⟨v, w, rfl, c, c'⟩ := cs.two
    cases c.int; cases c'.int
    exact call_max2 hc pins s σ H _ us Q I rv ⟨_, _, rfl, q _ _ (.inl ⟨rfl, .int _⟩)⟩
  · cases e
    obtain ⟨v, w, rfl, c, c'⟩ := cs.two
    cases c.str; cases c'.str
    obtain ⟨u, u', rfl, ⟨t, rfl⟩, t', rfl⟩ := rv.two
    refine min_two_str hh fun h' tk k => ⟨.str _, H, I.kept k, ?_, q _ _ (.inl ⟨rfl, .str _⟩)⟩
    split
    · exact ⟨_, rfl⟩
    · exact ⟨_, rfl⟩
  · cases e
    obtain ⟨v, w, rfl, c, c'⟩ := cs.two
    cases c.str; cases c'.str
    obtain ⟨u, u', rfl, ⟨t, rfl⟩, t', rfl⟩ := rv.two
    refine max_two_str hh fun h' tk k => ⟨.str _, H, I.kept k, ?_, q _ _ (.inl ⟨rfl, .str _⟩)⟩
    split
    · exact ⟨_, rfl⟩
    · exact ⟨_, rfl⟩
  · split at e
    · rename_i hl
      cases e
      obtain ⟨v, rfl, c⟩ := cs.one
      exact cr_min1 hc hu pins s σ H _ us Q I rv ⟨F, _, _, _, rfl, sm, c, hl, fun v rp => q _ _ (.inl ⟨rfl, rp⟩)⟩
    · cases e
  · split at e
    · rename_i hl
      cases e
      obtain ⟨v, rfl, c⟩ := cs.one
      exact cr_max1 hc hu pins s σ H _ us Q I rv ⟨F, _, _, _, rfl, sm, c, hl, fun v rp => q _ _ (.inl ⟨rfl, rp⟩)⟩
    · cases e
  · split at e
    · rename_i hl
      cases e
      obtain ⟨v, rfl, c⟩ := cs.one
      exact cr_sortedL hu pins s σ H _ us Q I rv ⟨F, _, _, rfl, sm, c, hl.1, hl.2, q⟩
    · cases e
  · obtain ⟨ks, e1, e2⟩ := Option.bind_eq_some_iff.mp e
    split at e2
    · rename_i hl
      cases e2
      obtain ⟨v, rfl, c⟩ := cs.one
      obtain ⟨a, xs, rfl, h1, r1⟩ := c.dk sm
      refine call_sortedD hc pins s σ H _ us Q I rv ⟨a, xs, ks, rfl, h1, r1.keysS e1, hl, fun ys p hp hs hn => q _ _ ⟨p, _, rfl, hn, rfl, _, upd_same, ?_⟩⟩
      rw [← strs_unique hp hs]
      clear hp hs
      induction ys with
      | nil => exact .nil
      | cons y ys ih => exact .cons (.str y) ih
    · cases e2
  · obtain ⟨ns, e1, e2⟩ := Option.bind_eq_some_iff.mp e
    cases e2
    obtain ⟨v, rfl, c⟩ := cs.one
    obtain ⟨a, xs, rfl, h1, r1⟩ := c.lst sm
    have := r1.ints e1
    subst this
    exact cr_sum hc pins s σ H _ us Q I rv ⟨_, _, rfl, .inl (.inl h1), q _ _ (.inl ⟨rfl, .int _⟩)⟩
  · cases e
    obtain ⟨v, rfl, c⟩ := cs.one
    obtain ⟨a, xs, rfl, h1, r1⟩ := c.lst sm
    exact call_tuple_of pins s σ H _ us Q I rv ⟨_, _, rfl, .inl ⟨.inl (.inl h1), fun p hp => q _ _ (.inr ⟨p, _, hp, rfl, rfl, .tup upd_same (r1.mono (same_upd (sm.free hp)))⟩)⟩⟩
  · cases e
    obtain ⟨v, rfl, c⟩ := cs.one
    rcases c with c | ⟨p, _, c⟩
    · cases c with
      | tup h1 r1 => exact call_tuple_of pins s σ H _ us Q I rv ⟨_, _, rfl, .inr ⟨.inl (.inl (sm _ _ h1)), q _ _ (.inl ⟨rfl, .tup h1 r1⟩)⟩⟩
    · exact c.elim
  · cases e
    obtain ⟨v, rfl, c⟩ := cs.one
    obtain ⟨a, xs, rfl, h1, r1⟩ := c.lst sm
    exact call_list_of pins s σ H _ us Q I rv ⟨_, _, rfl, .inl (.inl (.inl h1)), fun p hp => q _ _ ⟨p, _, rfl, hp, rfl, _, upd_same, r1⟩⟩
  · cases e
    obtain ⟨v, rfl, c⟩ := cs.one
    obtain ⟨a, xs, rfl, h1, r1⟩ := c.tup sm
    exact call_list_of pins s σ H _ us Q I rv ⟨_, _, rfl, .inr (.inl (.inl h1)), fun p hp => q _ _ ⟨p, _, rfl, hp, rfl, _, upd_same, r1⟩⟩
  · obtain ⟨ns, e1, e2⟩ := Option.bind_eq_some_iff.mp e
    cases e2
    obtain ⟨v, rfl, c⟩ := cs.one
    obtain ⟨a, xs, rfl, h1, r1⟩ := c.lst sm
    have := r1.bls e1
    subst this
    exact cr_all hc pins s σ H _ us Q I rv ⟨_, _, rfl, .inl (.inl h1), q _ _ (.inl ⟨rfl, .bl _⟩)⟩
  · obtain ⟨ns, e1, e2⟩ := Option.bind_eq_some_iff.mp e
    cases e2
    obtain ⟨v, rfl, c⟩ := cs.one
    obtain ⟨a, xs, rfl, h1, r1⟩ := c.lst sm
    have := r1.bls e1
    subst this
    exact cr_any hc pins s σ H _ us Q I rv ⟨_, _, rfl, .inl (.inl h1), q _ _ (.inl ⟨rfl, .bl _⟩)⟩
  · cases e
    obtain ⟨v, rfl, c⟩ := cs.one
    obtain ⟨a, o, xs, rfl, _, h1, r1⟩ := c.tpn sm
    exact call_len_seq pins s σ H _ us Q I rv ⟨_, _, rfl, .inr (.inl (.inr ⟨_, h1⟩)), by rw [r1.length]; exact q _ _ (.inl ⟨rfl, .int _⟩)⟩
  · cases e
    obtain ⟨v, rfl, c⟩ := cs.one
    obtain ⟨a, o, xs, rfl, _, h1, r1⟩ := c.tpn sm
    exact call_list_of pins s σ H _ us Q I rv ⟨_, _, rfl, .inr (.inl (.inr ⟨_, h1⟩)), fun p hp => q _ _ ⟨p, _, rfl, hp, rfl, _, upd_same, r1⟩⟩
  · cases e
    obtain ⟨v, rfl, c⟩ := cs.one
    rcases c with c | ⟨p, _, c⟩
    · cases c with
      | tpn h1 b1 r1 => exact call_tuple_of pins s σ H _ us Q I rv ⟨_, _, rfl, .inr ⟨.inl (.inr ⟨_, sm _ _ h1⟩), q _ _ (.inl ⟨rfl, .tpn h1 b1 r1⟩)⟩⟩
    · exact c.elim
  · cases e
    obtain ⟨v, rfl, c⟩ := cs.one
    obtain ⟨a, xs, rfl, h1, r1⟩ := c.lst sm
    exact call_tupleK pins s σ H _ us Q I rv ⟨_, _, rfl, .inl (.inl h1), fun p o hp ho => q _ _ (.inr ⟨p, _, hp, rfl, rfl, .tpn upd_same ho (r1.mono (same_upd (sm.free hp)))⟩)⟩
  · cases e
end
end Ts

set_option linter.all false
set_option autoImplicit false
set_option maxRecDepth 100000
/-! Which text an expression stands for (chkE), and that the text does what evE says. -/
namespace Ts
open PySem PySem.Spec PyProof.Rows L2

/-- names: the defs by number, the module's constants -/
structure Tb where
  nm : Nat → Option Str
  cons : List (Str × D)
  nmM : Nat → Option (Str × Nat)
  pins : List Nat
  gn : Bool
  /-- defs that may raise -/
  nmX : Nat → Option Str := fun _ => none
  /-- the program's exceptions: name, fields -/
  xcs : List (Str × List Str) := []
  /-- classes of except clauses, and which exceptions they catch -/
  hcs : List (Str × List Nat) := []
  /-- except suites may ask isinstance -/
  iss : Bool := false

def visB (sc : Scope) (x : Str) : Bool := match sc.names.lookup x with | some .local => true | some .cell => true | some .free => true | _ => false
def locB (sc : Scope) (x : Str) : Bool := match sc.names.lookup x with | some .local => true | some .cell => true | _ => false
def justLoc (sc : Scope) (x : Str) : Bool := match sc.names.lookup x with | some .local => true | _ => false
def glB (sc : Scope) (x : Str) : Bool := match sc.names.lookup x with | some .globalImplicit => true | _ => false
def nameOk (x : Str) : Bool := !(x == ("__debug__" : Str)) && !(x == ("__classdict__" : Str))
def noStar : Expr → Bool | .Starred _ _ => false | _ => true
def noIf : Expr → Bool | .IfExp _ _ _ _ => false | _ => true
def noSlice : Expr → Bool | .Slice _ _ _ _ => false | _ => true
def biName : Bi → Str
  | .len => "len" | .abs => "abs" | .min1 => "min" | .max1 => "max" | .min2 => "min" | .max2 => "max"
  | .sorted => "sorted" | .sum => "sum" | .tuple => "tuple" | .list => "list" | .all => "all" | .any => "any" | .tupK => "tuple"
def cellB (sc : Scope) (x : Str) : Bool := match sc.names.lookup x with | some .cell => true | some .free => true | _ => false
def freeB (sc : Scope) (x : Str) : Bool := match sc.names.lookup x with | some .free => true | _ => false
/-- the scope of a generator expression: its name x, the walked thing, captured names of the def -/
def genB (sc scope : Scope) (x : Str) : Bool := (match scope.kind with | .function => true | _ => false) && !scope.isCoroutine && justLoc scope ".0" && justLoc scope x && scope.names.all fun y => match y.2 with | .cell => false | .free => cellB sc y.1 | _ => true
structure AnyDat where
  y : Str
  x : Str
  x' : Str
  b : Str
  z : Str
  p : Pos
  p1 : Pos
  p2 : Pos
  p3 : Pos
  px : Pos
  zp : Pos
  pos : Pos
  gpos : Pos
  n : Int
  scope : Scope
def AnyDat.e (d : AnyDat) : Expr := .Call (.Name d.y d.p) [.GeneratorExp (.Compare (.Name d.x d.p1) [.In] [.Name d.b d.p2] d.p3) [⟨.Name d.x' d.px, .Name d.z d.zp, [], d.n⟩] d.scope d.gpos] [] d.pos
def anyDec : Expr → Option AnyDat
  | .Call (.Name y p) [.GeneratorExp (.Compare (.Name x p1) [.In] [.Name b p2] p3) [⟨.Name x' px, .Name z zp, [], n⟩] scope gpos] [] pos => some ⟨y, x, x', b, z, p, p1, p2, p3, px, zp, pos, gpos, n, scope⟩
  | _ => none
theorem anyDec_eq {e : Expr} {d : AnyDat} (h : anyDec e = some d) : e = d.e := by
  unfold anyDec at h
  split at h
  · cases h; rfl
  · cases h
def anyChk (T : Tb) (N : List Str) (i : Nat) (sc : Scope) (d : AnyDat) : Bool := decide (d.y = ("any" : Str)) && glB sc d.y && decide (d.n = 0) && decide (d.x' = d.x) && decide (N[i]? = some d.b) && cellB sc d.b && freeB d.scope d.b && genB sc d.scope d.x && nameOk d.x && nameOk d.b && T.gn && (T.nm 1).isSome
structure PosDat where
  y : Str
  x : Str
  x' : Str
  z : Str
  kk : Nat
  p : Pos
  p1 : Pos
  p2 : Pos
  p3 : Pos
  px : Pos
  zp : Pos
  apos : Pos
  cpos : Pos
  pos : Pos
  gpos : Pos
  n : Int
  scope : Scope
def PosDat.e (d : PosDat) : Expr := .Call (.Name d.y d.p) [.GeneratorExp (.Compare (.Name d.x d.p1) [.Gt] [.Constant (.int 0) d.kk d.p2] d.p3) [⟨.Name d.x' d.px, .Call (.Attribute (.Name d.z d.zp) "values" d.apos) [] [] d.cpos, [], d.n⟩] d.scope d.gpos] [] d.pos
def posElt : Expr → Option (Str × Nat × Pos × Pos × Pos)
  | .Compare (.Name x p1) [.Gt] [.Constant (.int i) kk p2] p3 => if i = 0 then some (x, kk, p1, p2, p3) else none
  | _ => none
theorem posElt_eq {e : Expr} {x : Str} {kk : Nat} {p1 p2 p3 : Pos} (h : posElt e = some (x, kk, p1, p2, p3)) : e = .Compare (.Name x p1) [.Gt] [.Constant (.int 0) kk p2] p3 := by
  unfold posElt at h
  split at h
  · split at h
    · rename_i hi
      subst hi
      cases h; rfl
    · cases h
  · cases h
def posIt : Expr → Option (Str × Str × Pos × Pos × Pos)
  | .Call (.Attribute (.Name z zp) v apos) [] [] cpos => some (z, v, zp, apos, cpos)
  | _ => none
theorem posIt_eq {e : Expr} {z v : Str} {zp apos cpos : Pos} (h : posIt e = some (z, v, zp, apos, cpos)) : e = .Call (.Attribute (.Name z zp) v apos) [] [] cpos := by
  unfold posIt at h
  split at h
  · cases h; rfl
  · cases h
def posDec : Expr → Option PosDat
  | .Call (.Name y p) [.GeneratorExp elt [⟨.Name x' px, it, [], n⟩] scope gpos] [] pos => (posElt elt).bind fun a => (posIt it).bind fun b => if b.2.1 = ("values" : Str) then some ⟨y, a.1, x', b.1, a.2.1, p, a.2.2.1, a.2.2.2.1, a.2.2.2.2, px, b.2.2.1, b.2.2.2.1, b.2.2.2.2, pos, gpos, n, scope⟩ else none
  | _ => none
theorem posDec_eq {e : Expr} {d : PosDat} (h : posDec e = some d) : e = d.e := by
  unfold posDec at h
  split at h
  · simp only [Option.bind_eq_some_iff] at h
    obtain ⟨⟨a1, a2, a3, a4, a5⟩, ea, ⟨b1, b2, b3, b4, b5⟩, eb, h⟩ := h
    split at h
    · rename_i hv
      dsimp only at hv
      subst hv
      have e1 := posElt_eq ea
      have e2 := posIt_eq eb
      subst e1 e2
      cases h; rfl
    · cases h
  · cases h
def posChk (T : Tb) (N : List Str) (i : Nat) (sc : Scope) (d : PosDat) : Bool := decide (d.y = ("any" : Str)) && glB sc d.y && decide (d.n = 0) && decide (d.x' = d.x) && decide (N[i]? = some d.z) && visB sc d.z && genB sc d.scope d.x && nameOk d.x && nameOk d.z && T.gn && (T.nm 1).isSome && (d.apos.endLine == d.cpos.line)
structure SscDat where
  x : Str
  z : Str
  z' : Str
  y : Str
  kk : Nat
  p : Pos
  p0 : Pos
  p1 : Pos
  p2 : Pos
  p3 : Pos
  p4 : Pos
  pos : Pos
  qos : Pos
  n : Int
  scope : Scope
def SscDat.e (d : SscDat) : Expr := .Call (.Name d.x d.p) [.SetComp (.Subscript (.Name d.z d.p0) (.Constant (.int 0) d.kk d.p1) d.p2) [⟨.Name d.z' d.p3, .Name d.y d.p4, [], d.n⟩] d.scope d.qos] [] d.pos
def sscElt : Expr → Option (Str × Nat × Pos × Pos × Pos)
  | .Subscript (.Name z p0) (.Constant (.int i) kk p1) p2 => if i = 0 then some (z, kk, p0, p1, p2) else none
  | _ => none
theorem sscElt_eq {e : Expr} {x : Str} {kk : Nat} {p1 p2 p3 : Pos} (h : sscElt e = some (x, kk, p1, p2, p3)) : e = .Subscript (.Name x p1) (.Constant (.int 0) kk p2) p3 := by
  unfold sscElt at h
  split at h
  · split at h
    · rename_i hi
      subst hi
      cases h; rfl
    · cases h
  · cases h
def sscDec : Expr → Option SscDat
  | .Call (.Name x p) [.SetComp elt [⟨.Name z' p3, .Name y p4, [], n⟩] scope q] [] pos => (sscElt elt).bind fun a => some ⟨x, a.1, z', y, a.2.1, p, a.2.2.1, a.2.2.2.1, a.2.2.2.2, p3, p4, pos, q, n, scope⟩
  | _ => none
theorem sscDec_eq {e : Expr} {d : SscDat} (h : sscDec e = some d) : e = d.e := by
  unfold sscDec at h
  split at h
  · simp only [Option.bind_eq_some_iff, Option.some.injEq] at h
    obtain ⟨⟨a1, a2, a3, a4, a5⟩, ea, h⟩ := h
    have e1 := sscElt_eq ea
    subst e1
    cases h; rfl
  · cases h
/-- an object whose method is asked: a name -/
def plainO : Expr → Bool | .Name _ _ => true | .Subscript _ _ _ => true | .Call (.Name _ _) (_ :: _) [] _ => true | _ => false
def tiName : Ti → Str
  | .bool => "bool" | .int => "int" | .str => "str" | .tuple => "tuple"
/-- names of built-ins that the module doesn't have itself -/
def otNames : List Str := ["isinstance", "bool", "int", "str", "tuple", "len", "set", "dict", "enumerate", "zip", "reversed"]
def stOkB (sc : Scope) (fb : Str → Bool) (x : Str) : Bool := locB sc x && (fb x || justLoc sc x)
def ptOk (N : List Str) (sc : Scope) (fb : Str → Bool) : Pt → Expr → Bool
  | .v i, .Name x _ => decide (N[i]? = some x) && stOkB sc fb x
  | .t is, .Tuple es _ _ => tsOk is es
  | _, _ => false
where tsOk : List Nat → List Expr → Bool
  | [], [] => true
  | i :: is, .Name x _ :: es => decide (N[i]? = some x) && stOkB sc fb x && tsOk is es
  | _, _ => false
def ptIn (own : List Nat) : Pt → Bool | .v i => own.contains i | .t is => is.all fun i => own.contains i
def fbOf (scope : Scope) : Str → Bool := fun x => scope.names.lookup x == some .cell

/-- if not isinstance(e, C): return None -/
structure GrdDat where
  n : Str
  gx : Str
  kk : Nat
  p1 : Pos
  p2 : Pos
  p3 : Pos
  p4 : Pos
  p5 : Pos
  p6 : Pos
  p7 : Pos
  p8 : Pos
def GrdDat.s (d : GrdDat) : Stmt := .If (.UnaryOp .Not (.Call (.Name "isinstance" d.p1) [.Name d.n d.p2, .Name d.gx d.p3] [] d.p4) d.p5) [.Return (some (.Constant .none d.kk d.p6)) d.p7] [] d.p8
def grdT : Expr → Option (Str × Str × Str × Pos × Pos × Pos × Pos × Pos)
  | .UnaryOp .Not (.Call (.Name f p1) [.Name n p2, .Name gx p3] [] p4) p5 => some (f, n, gx, p1, p2, p3, p4, p5)
  | _ => none
theorem grdT_eq {e : Expr} {f n gx : Str} {p1 p2 p3 p4 p5 : Pos} (h : grdT e = some (f, n, gx, p1, p2, p3, p4, p5)) : e = .UnaryOp .Not (.Call (.Name f p1) [.Name n p2, .Name gx p3] [] p4) p5 := by
  unfold grdT at h
  split at h
  · cases h; rfl
  · cases h
def grdR : Stmt → Option (Nat × Pos × Pos)
  | .Return (some (.Constant .none kk p6)) p7 => some (kk, p6, p7)
  | _ => none
theorem grdR_eq {s : Stmt} {kk : Nat} {p6 p7 : Pos} (h : grdR s = some (kk, p6, p7)) : s = .Return (some (.Constant .none kk p6)) p7 := by
  unfold grdR at h
  split at h
  · cases h; rfl
  · cases h
def grdDec : Stmt → Option GrdDat
  | .If t [r] [] p8 => (grdT t).bind fun a => (grdR r).bind fun b => if a.1 = ("isinstance" : Str) then some ⟨a.2.1, a.2.2.1, b.1, a.2.2.2.1, a.2.2.2.2.1, a.2.2.2.2.2.1, a.2.2.2.2.2.2.1, a.2.2.2.2.2.2.2, b.2.1, b.2.2, p8⟩ else none
  | _ => none
theorem grdDec_eq {s : Stmt} {d : GrdDat} (h : grdDec s = some d) : s = d.s := by
  unfold grdDec at h
  split at h
  · simp only [Option.bind_eq_some_iff] at h
    obtain ⟨⟨f, n, gx, p1, p2, p3, p4, p5⟩, ea, ⟨kk, p6, p7⟩, eb, h⟩ := h
    split at h
    · rename_i hf
      dsimp only at hf
      subst hf
      have e1 := grdT_eq ea
      have e2 := grdR_eq eb
      subst e1 e2
      cases h; rfl
    · cases h
  · cases h
def isTupE : Expr → Bool | .Tuple _ _ _ => true | _ => false
def sscChk (N : List Str) (i j : Nat) (sc : Scope) (d : SscDat) : Bool := decide (d.n = 0) && decide (d.x = ("sorted" : Str)) && glB sc d.x && decide (N[j]? = some d.y) && visB sc d.y && nameOk d.y && decide (N[i]? = some d.z) && decide (d.z' = d.z) && stOkB (relS d.scope sc) (fbOf d.scope) d.z && visB (relS d.scope sc) d.z && nameOk d.z && blkC N sc d.scope [(N.getD i ⟨#[]⟩, i)]
section
variable (T : Tb) (N : List Str)
mutual
def chkE : Ex → Scope → (Str → Bool) → Expr → Bool
  | .var i, sc, _, .Name x _ => decide (N[i]? = some x) && visB sc x && nameOk x
  | .int i, _, _, .Constant (.int j) _ _ => decide (i = j)
  | .str s, _, _, .Constant (.str t) _ _ => decide (s = t)
  | .bl b, _, _, .Constant (.bool c) _ _ => decide (b = c)
  | .non, _, _, .Constant .none _ _ => true
  | .gl x d, sc, _, .Name y _ => decide (x = y) && glB sc x && nameOk x && (match T.cons.lookup x with | some c => c.beq d | none => false)
  | .bin op a b, sc, fb, .BinOp ea op' eb _ => decide (op = op') && chkE a sc fb ea && chkE b sc fb eb
  | .neg a, sc, fb, .UnaryOp .USub ea _ => chkE a sc fb ea
  | .cmp op a b, sc, fb, .Compare ea [op'] [eb] _ => decide (op = op') && !(behindInMarks op eb) && chkE a sc fb ea && chkE b sc fb eb
  | .cmp2 op op' a b c, sc, fb, .Compare ea [o1, o2] [eb, ec] _ => decide (op = o1) && decide (op' = o2) && !(lastMarks [op, op'] [eb, ec]) && chkE a sc fb ea && chkE b sc fb eb && chkE c sc fb ec
  | .and as, sc, fb, .BoolOp .And es _ => chkTs as sc fb es
  | .or as, sc, fb, .BoolOp .Or es _ => chkTs as sc fb es
  | .not a, sc, fb, .UnaryOp .Not ea _ => noIf ea && chkE a sc fb ea
  | .ite c a b, sc, fb, .IfExp ec ea eb _ => noIf ec && chkE c sc fb ec && chkE a sc fb ea && chkE b sc fb eb
  | .tup as, sc, fb, .Tuple es _ _ => chkL as sc fb es
  | .lst as, sc, fb, .List es _ => chkL as sc fb es
  | .dnew _, _, _, .Dict [] [] _ => true
  | .dlit k v, sc, fb, .Dict [some ek] [ev] _ => chkE k sc fb ek && chkE v sc fb ev
  | .ix a b, sc, fb, .Subscript ea eb _ => noSlice eb && chkE a sc fb ea && chkE b sc fb eb
  | .sl a lo hi, sc, fb, .Subscript ea (.Slice elo ehi none _) _ => chkE a sc fb ea && chkO lo sc fb elo && chkO hi sc fb ehi
  | .rev a, sc, fb, .Subscript ea (.Slice none none (some (.UnaryOp .USub (.Constant (.int 1) _ _) _)) _) _ => chkE a sc fb ea
  | .call f as, sc, fb, .Call (.Name x _) (e :: es) [] _ => decide (T.nm f = some x) && glB sc x && nameOk x && chkL as sc fb (e :: es)
  | .callM f as m, sc, fb, .Call (.Name x _) (e :: es) [] _ => decide (T.nmM f = some (x, m)) && glB sc x && nameOk x && chkL as sc fb (e :: es)
  | .bi b as, sc, fb, .Call (.Name x _) (e :: es) [] _ => decide (x = biName b) && glB sc x && nameOk x && chkL as sc fb (e :: es)
  | .pop i front, sc, _, .Call (.Attribute (.Name x _) m apos) args [] cpos => decide (N[i]? = some x) && visB sc x && nameOk x && decide (m = ("pop" : Str)) && (apos.endLine == cpos.line) &&
      (match front, args with | false, [] => true | true, [.Constant (.int 0) _ _] => true | _, _ => false)
  | .idx a b, sc, fb, .Call (.Attribute ea m apos) [eb] [] cpos => decide (m = ("index" : Str)) && (apos.endLine == cpos.line) && plainO ea && noStar eb && chkE a sc fb ea && chkE b sc fb eb
  | .idxT a b, sc, fb, .Call (.Attribute ea m apos) [eb] [] cpos => decide (m = ("index" : Str)) && (apos.endLine == cpos.line) && plainO ea && noStar eb && chkE a sc fb ea && chkE b sc fb eb
  | .cnt a b, sc, fb, .Call (.Attribute ea m apos) [eb] [] cpos => decide (m = ("count" : Str)) && (apos.endLine == cpos.line) && plainO ea && noStar eb && chkE a sc fb ea && chkE b sc fb eb
  | .dictc a, sc, fb, .Call (.Name x _) [ea] [] _ => decide (x = ("dict" : Str)) && glB sc x && noStar ea && chkE a sc fb ea
  | .dget a k d, sc, fb, .Call (.Attribute ea m apos) [ek, ed] [] cpos => decide (m = ("get" : Str)) && (apos.endLine == cpos.line) && plainO ea && noStar ek && noStar ed && chkE a sc fb ea && chkE k sc fb ek && chkE d sc fb ed
  | .dc own _ p it k v, sc, fb, .DictComp kx vx gens scope _ => match gens with
    | [⟨tg, iter, ifs, n⟩] => decide (n = 0) && ifs.isEmpty && ptIn own p && blkC N sc scope (own.map fun i => (N.getD i ⟨#[]⟩, i)) && ptOk N (relS scope sc) (fbOf scope) p tg && chkI it sc fb tg iter && chkE k (relS scope sc) (fbOf scope) kx && chkE v (relS scope sc) (fbOf scope) vx
    | _ => false
  | .lk own p i e, sc, _, .ListComp elt gens scope _ => match gens with
    | [⟨tg, .Name y _, ifs, n⟩] => decide (n = 0) && ifs.isEmpty && decide (N[i]? = some y) && visB sc y && nameOk y && ptIn own p && blkC N sc scope (own.map fun i => (N.getD i ⟨#[]⟩, i)) && ptOk N (relS scope sc) (fbOf scope) p tg && chkE e (relS scope sc) (fbOf scope) elt
    | _ => false
  | .lkx own _ p i cs e, sc, _, .ListComp elt gens scope _ => match gens with
    | [⟨tg, .Name y _, ifs, n⟩] => decide (n = 0) && decide (N[i]? = some y) && visB sc y && nameOk y && ptIn own p && blkC N sc scope (own.map fun i => (N.getD i ⟨#[]⟩, i)) && ptOk N (relS scope sc) (fbOf scope) p tg && chkTs cs (relS scope sc) (fbOf scope) ifs && chkE e (relS scope sc) (fbOf scope) elt
    | _ => false
  | .isi t a, sc, fb, .Call (.Name x _) [ea, .Name y _] [] _ => decide (x = ("isinstance" : Str)) && glB sc x && decide (y = tiName t) && glB sc y && noStar ea && chkE a sc fb ea
  | .lset a, sc, fb, .Call (.Name x _) [.Call (.Name y _) [ea] [] _] [] _ => decide (x = ("len" : Str)) && glB sc x && decide (y = ("set" : Str)) && glB sc y && noStar ea && chkE a sc fb ea
  | .sset a, sc, fb, .Call (.Name x _) [.Call (.Name y _) [ea] [] _] [] _ => decide (x = ("sorted" : Str)) && glB sc x && decide (y = ("set" : Str)) && glB sc y && noStar ea && chkE a sc fb ea
  | .sscK i j, sc, _, e => match sscDec e with
    | some d => sscChk N i j sc d
    | none => false
  | .orV a b, sc, fb, .BoolOp .Or [ea, eb] _ => chkE a sc fb ea && chkE b sc fb eb
  | .lc own _ p it cs e, sc, fb, .ListComp elt gens scope _ => match gens with
    | [⟨tg, iter, ifs, n⟩] => decide (n = 0) && ptIn own p && blkC N sc scope (own.map fun i => (N.getD i ⟨#[]⟩, i)) && ptOk N (relS scope sc) (fbOf scope) p tg && chkI it sc fb tg iter && chkTs cs (relS scope sc) (fbOf scope) ifs && chkE e (relS scope sc) (fbOf scope) elt
    | _ => false
  | .lc2 own _ own1 p it p1 it1 e, sc, fb, .ListComp elt gens scope _ => match gens with
    | [⟨tg, iter, ifs, n⟩, ⟨tg1, iter1, ifs1, n1⟩] => decide (n = 0) && decide (n1 = 0) && ifs.isEmpty && ifs1.isEmpty && ptIn own p && ptIn own1 p1 && (own1.all fun i => own.contains i) && blkC N sc scope (own.map fun i => (N.getD i ⟨#[]⟩, i)) &&
        ptOk N (relS scope sc) (fbOf scope) p tg && ptOk N (relS scope sc) (fbOf scope) p1 tg1 && chkI it sc fb tg iter && chkI it1 (relS scope sc) (fbOf scope) tg1 iter1 && chkE e (relS scope sc) (fbOf scope) elt
    | _ => false
  | .anyIn it i, sc, fb, e => match anyDec e with
    | some d => anyChk T N i sc d && chkE it sc fb (.Name d.z d.zp)
    | none => false
  | .anyPos i, sc, fb, e => match posDec e with
    | some d => posChk T N i sc d
    | none => false
  | .neverE, _, _, _ => true
  | .ix2 i a b, sc, fb, .Subscript (.Subscript (.Name x _) ea _) eb _ => decide (N[i]? = some x) && visB sc x && nameOk x && noSlice ea && noSlice eb && chkE a sc fb ea && chkE b sc fb eb
  | .lenN i, sc, _, .Call (.Name y _) [.Name x _] [] _ => decide (y = ("len" : Str)) && glB sc y && decide (N[i]? = some x) && visB sc x && nameOk x
  | .callX f as, sc, fb, .Call (.Name x _) (e :: es) [] _ => decide (T.nmX f = some x) && glB sc x && nameOk x && chkL as sc fb (e :: es)
  | .strI a, sc, fb, .Call (.Name x _) [ea] [] _ => decide (x = ("str" : Str)) && glB sc x && noStar ea && chkE a sc fb ea
  | _, _, _, _ => false
def chkL : Exs → Scope → (Str → Bool) → List Expr → Bool
  | .nil, _, _, [] => true
  | .cons a as, sc, fb, e :: es => noStar e && chkE a sc fb e && chkL as sc fb es
  | _, _, _, _ => false
def chkTs : Exs → Scope → (Str → Bool) → List Expr → Bool
  | .nil, _, _, [] => true
  | .cons a as, sc, fb, e :: es => noIf e && chkE a sc fb e && chkTs as sc fb es
  | _, _, _, _ => false
def chkO : Ox → Scope → (Str → Bool) → Option Expr → Bool
  | .no, _, _, none => true
  | .yes a, sc, fb, some e => chkE a sc fb e
  | _, _, _, _ => false
def chkI : Itx → Scope → (Str → Bool) → Expr → Expr → Bool
  | .seq a, sc, fb, _, e => (match e with | .Set _ _ _ => false | _ => true) && chkE a sc fb e
  | .rng1 a, sc, fb, _, .Call (.Name x _) [e] [] _ => decide (x = ("range" : Str)) && glB sc x && noStar e && chkE a sc fb e
  | .dkeys a, sc, fb, _, e => (match e with | .Set _ _ _ => false | _ => true) && chkE a sc fb e
  | .rngD a b, sc, fb, _, .Call (.Name x _) [e, f, .UnaryOp .USub (.Constant (.int 1) _ _) _] [] _ => decide (x = ("range" : Str)) && glB sc x && noStar e && noStar f && chkE a sc fb e && chkE b sc fb f
  | .rng2 a b, sc, fb, _, .Call (.Name x _) [e, f] [] _ => decide (x = ("range" : Str)) && glB sc x && noStar e && noStar f && chkE a sc fb e && chkE b sc fb f
  | .enum a, sc, fb, tg, .Call (.Name x _) [e] [] _ => isTupE tg && decide (x = ("enumerate" : Str)) && glB sc x && noStar e && chkE a sc fb e
  | .chars a, sc, fb, _, e => (match e with | .Set _ _ _ => false | _ => true) && chkE a sc fb e
  | _, _, _, _, _ => false
end
end

/-! ### what a call keeps -/
def spD (K : PySem.W.Frag) (ts : List Addr) (R : Run) (f n : Nat) : Sp := fun vs H Q _ => ∃ F ds r, NoT F ∧ Tabs ts H ∧ Same F H ∧ RpL K F vs ds ∧ ds.length = n ∧ R f ds = some r ∧
  ∀ v H' F', SameN ts H H' → Same F F' → Same F' H' → NewF ts H F F' → NoT F' → Tabs ts H' → (match r with | .sh d => Rp K F' v d | .ow d => ∃ p, v = .ref p ∧ OwnAt K F' H' p d ∧ F' p = none ∧ H p = none | .mu _ _ => False | .ex _ _ => False) → Q v H'
/-- one's own things, one by one -/
def OwnL (K : PySem.W.Frag) (F H : Hp) : List Addr → List D → Prop
  | [], [] => True
  | a :: as, d :: ds => OwnAt K F H a d ∧ F a = none ∧ OwnL K F H as ds
  | _, _ => False
/-- all but these stays -/
def SameM (ts as : List Addr) (H H' : Hp) : Prop := ∀ b o, H b = some o → Kp ts b o → b ∉ as → H' b = some o
/-- a def that changes its last m arguments -/
def spM (K : PySem.W.Frag) (ts : List Addr) (R : Run) (f n m : Nat) : Sp := fun vs H Q _ => ∃ F ds ms as r fs vs0, vs = vs0 ++ as.map V.ref ∧ NoT F ∧ Tabs ts H ∧ Same F H ∧ RpL K F vs0 ds ∧ ds.length + m = n ∧ OwnL K F H as ms ∧ as.length = m ∧ as.Nodup ∧ R f (ds ++ ms) = some (.mu r fs) ∧
  ∀ v H' F', SameM ts as H H' → Same F F' → Same F' H' → NewF ts H F F' → NoT F' → Tabs ts H' → Rp K F' v r → OwnL K F' H' as fs → Q v H'

/-- the class of the exceptions of number c -/
def xcA (xcs : List (Str × List Str)) (mg : Str → Option Value) (c : Nat) (C : Addr) (flds : List Str) : Prop := ∃ nm, xcs[c]? = some (nm, flds) ∧ mg nm = some (.ref C)
/-- an exception's dict -/
def xdV (flds : List Str) (vs : List V) : HO := .xd (flds.zip vs).reverse
/-- a def that may raise -/
def spX (K : PySem.W.Frag) (ts : List Addr) (R : Run) (xcs : List (Str × List Str)) (mg : Str → Option Value) (f n : Nat) : Sp := fun vs H Q E => ∃ F ds r, NoT F ∧ Tabs ts H ∧ Same F H ∧ RpL K F vs ds ∧ ds.length = n ∧ R f ds = some r ∧
  (∀ v H' F', SameN ts H H' → Same F F' → Same F' H' → NewF ts H F F' → NoT F' → Tabs ts H' → (match r with | .sh d => Rp K F' v d | .ow d => ∃ p, v = .ref p ∧ OwnAt K F' H' p d ∧ F' p = none ∧ H p = none | .mu _ _ => False | .ex _ _ => False) → Q v H') ∧
  ∀ c fs, r = .ex c fs → ∀ C flds d vs' H' F', SameN ts H H' → Same F F' → Same F' H' → NewF ts H F F' → NoT F' → Tabs ts H' → xcA xcs mg c C flds → flds.length = fs.length → F' d = some (xdV flds vs') → RpL K F' vs' fs → E (.ref C) (some d) H'
/-- C's own __init__ -/
def spInit (K : PySem.W.Frag) (C : Addr) (flds : List Str) : Sp := fun vs H Q _ => ∃ (a : Addr) (ys : List V), vs = .ref a :: ys ∧ ys.length = flds.length ∧ H a = some (exo a C none) ∧
  ∀ d, H d = none → d ≠ a → Q .non (upd (upd H d (exd d (flds.zip ys).reverse)) a (exo a C (some d)))
/-- what is known of an exception's class -/
structure XcOk (P : Program) (w : World) (K : PySem.W.Frag) (mg : Str → Option Value) (base : Heap) (nm : Str) (C : Addr) (flds : List Str) : Prop where
  mgC : mg nm = some (.ref C)
  oex : OexC K C
  init : ∃ fI fd ps, PySem.W.findIn K (.ref C) "__init__" = some (some (.ref fI)) ∧ PySem.W.typeIn K (.ref fI) = some (.type "function") ∧ FnOk P w K mg base CX0 1 fI fd ps (spInit K C flds) ∧ Binds K fd ps []
  noF : ∀ f ∈ flds, PySem.W.findIn K (.ref C) f = some none
  nd : flds.Nodup
  pos : 0 < flds.length ∧ flds.length ≤ 900
  xf : XfC K C

structure Gd (T : Tb) (N : List Str) (R : Run) (X : Cx) (sc : Scope) (fb : Str → Bool) (C : Cfg) : Prop where
  hN : X.N = N
  nd : N.Nodup
  hsc : X.env.scope = sc
  calm : X.calm = true
  fn : ∀ x, fb x = true → X.fn x = true
  un : X.A.units + 66 < cLine
  calls : ∀ f x, T.nm f = some x → ∃ fa fd k ps n, FnOk X.prog X.w X.K X.mg X.base CX0 k fa fd ps (spD X.K C.ts R f n) ∧ Room k X.A ∧ X.mg x = some (.ref fa) ∧ PySem.W.keepIn X.K (.ref fa) = true ∧ Binds X.K fd ps [] ∧ ∀ ds r, R f ds = some r → ds.length = n
  callsM : ∀ f x m, T.nmM f = some (x, m) → ∃ fa fd k ps n, FnOk X.prog X.w X.K X.mg X.base CX0 k fa fd ps (spM X.K C.ts R f n m) ∧ Room k X.A ∧ X.mg x = some (.ref fa) ∧ PySem.W.keepIn X.K (.ref fa) = true ∧ Binds X.K fd ps [] ∧ ∀ ds r, R f ds = some r → ds.length = n
  callsX : ∀ f x, T.nmX f = some x → ∃ fa fd k ps n, FnOk X.prog X.w X.K X.mg X.base (L2.CX X.prog X.w) k fa fd ps (spX X.K C.ts R T.xcs X.mg f n) ∧ Room k X.A ∧ X.mg x = some (.ref fa) ∧ PySem.W.keepIn X.K (.ref fa) = true ∧ Binds X.K fd ps [] ∧ ∀ ds r, R f ds = some r → ds.length = n
  room : Room 2 X.A
  xc : ∀ (c : Nat) nm flds, T.xcs[c]? = some (nm, flds) → ∃ Cc, XcOk X.prog X.w X.K X.mg X.base nm Cc flds
  hnd : ∀ x hs, T.hcs.lookup x = some hs → ∃ Ch, X.mg x = some (.ref Ch) ∧ ∀ (c : Nat) nm flds Cc, T.xcs[c]? = some (nm, flds) → X.mg nm = some (.ref Cc) → PySem.W.exmOne X.K (.ref Cc) (.ref Ch) = some (hs.contains c)
  iss : T.iss = true → ∀ (c : Nat) nm flds Cc, T.xcs[c]? = some (nm, flds) → X.mg nm = some (.ref Cc) → ExcC X.K Cc
  pins : C.pin.map (·.1) = T.pins
  gen : T.gn = true → ∃ c P, X.env.code = .ref c ∧ GxR.TabB X.base X.mg c P ∧ P ∈ C.ts
  blt : ∀ b : Bi, X.mg (biName b) = none
  rng : X.mg "range" = none
  ot : ∀ x ∈ otNames, X.mg x = none
  cons : ∀ x d, T.cons.lookup x = some d → ∃ u v, X.mg x = some u ∧ RelV v u ∧ (∀ F, Rp X.K F v d) ∧ scalar d = true

theorem Gd.blk {T : Tb} {N : List Str} {R : Run} {X : Cx} {sc : Scope} {fb : Str → Bool} {Cg : Cfg} (g : Gd T N R X sc fb Cg) (s : Shared) (H : Hp) (scope : Scope) (C : Addr) (cl : List (Str × Addr)) (fp : List Addr) :
    Gd T N R (X.blk s H scope (compEnvC scope cl C X.env) fp) (relS scope sc) (fbOf scope) Cg :=
  ⟨g.hN, g.nd, by rw [← g.hsc]; rfl, g.calm, fun x h => h, g.un, g.calls, g.callsM, g.callsX, g.room, g.xc, g.hnd, g.iss, g.pins, g.gen, g.blt, g.rng, g.ot, g.cons⟩

section
variable {T : Tb} {N : List Str} {R : Run} {X : Cx} {sc : Scope} {fb : Str → Bool} {C : Cfg}
theorem vis_of (g : Gd T N R X sc fb C) {x : Str} (h : visB sc x = true) : Vis X.env.scope x := by
  rw [g.hsc]
  unfold visB at h
  unfold Vis
  split at h
  · exact .inl (by assumption)
  · exact .inr (.inl (by assumption))
  · exact .inr (.inr (by assumption))
  · cases h
theorem gl_of (g : Gd T N R X sc fb C) {x : Str} (h : glB sc x = true) : Gl X x := by
  show X.env.scope.names.lookup x = some .globalImplicit
  rw [g.hsc]
  unfold glB at h
  split at h
  · assumption
  · cases h
theorem loc_of (g : Gd T N R X sc fb C) {x : Str} (h : locB sc x = true) : L2.Loc X.env.scope x := by
  rw [g.hsc]
  unfold locB at h
  unfold L2.Loc
  split at h
  · exact .inl (by assumption)
  · exact .inr (by assumption)
  · cases h
theorem just_of (g : Gd T N R X sc fb C) {x : Str} (h : justLoc sc x = true) : X.env.scope.names.lookup x = some .local := by
  rw [g.hsc]
  unfold justLoc at h
  split at h
  · assumption
  · cases h
theorem dbg_of {x : Str} (h : nameOk x = true) : (x == ("__debug__" : Str)) = false ∧ (x == ("__classdict__" : Str)) = false := by
  unfold nameOk at h
  rw [Bool.and_eq_true, Bool.not_eq_true', Bool.not_eq_true'] at h
  exact h
theorem star_of {e : Expr} {es : List Expr} (h : noStar e = true) (env : Env) : starEach (e :: es) env = (false, eval e env) :: starEach es env := by
  cases e <;> first | rfl | (simp [noStar] at h)
theorem ix_of {e : Expr} (h : noSlice e = true) : PlainIx e := by
  intro o i
  cases e <;> first | rfl | (simp [noSlice] at h)
theorem chkL_star {T : Tb} {N : List Str} {sc : Scope} {fb : Str → Bool} : ∀ {as : Exs} {es : List Expr}, chkL T N as sc fb es = true → ∀ e ∈ es, noStar e = true
  | .nil, [], _, e, h => by cases h
  | .cons a as, e' :: es, c, e, h => by
    simp only [chkL, Bool.and_eq_true] at c
    rcases List.mem_cons.mp h with rfl | h
    · exact c.1.1
    · exact chkL_star c.2 e h
  | .nil, _ :: _, c, _, _ => by simp [chkL] at c
  | .cons _ _, [], c, _, _ => by simp [chkL] at c
theorem back_of (pos : Pos) (env : Env) : ∀ {es : List Expr}, (∀ e ∈ es, noStar e = true) → (backTo pos (starEach es env)).any (·.1) = false
  | [], _ => rfl
  | e :: es, h => by
    rw [star_of (h e (List.mem_cons_self ..)) env]
    show (false || (backTo pos (starEach es env)).any (·.1)) = false
    rw [back_of pos env fun e' h' => h e' (List.mem_cons_of_mem _ h')]
    rfl
end

theorem _root_.L2.PE.imp {X : Cx} {e : Expr} {t t' : TE} (h : PE X e t) (i : ∀ σ H Q, t' σ H Q → t σ H Q) : PE X e t' := ⟨fun pins s σ H Q I q => h.run pins s σ H Q I (i σ H Q q)⟩
theorem _root_.L2.PT.imp {X : Cx} {e : Expr} {t t' : TT} (h : PT X e t) (i : ∀ σ H Q, t' σ H Q → t σ H Q) : PT X e t' := ⟨fun pins s σ H Q I q => h.run pins s σ H Q I (i σ H Q q)⟩
theorem _root_.L2.PA.imp {X : Cx} {e : List Expr} {t t' : TA} (h : PA X e t) (i : ∀ σ H Q, t' σ H Q → t σ H Q) : PA X e t' := ⟨fun pos pins s σ H Q I q => h.run pos pins s σ H Q I (i σ H Q q)⟩

section
variable (K : PySem.W.Frag) {C : Cfg} (B : Bs C)
def tE (f : En → Option (Rv × En)) : TE := fun σ H Q => ∃ F env r env', SR K B F H σ env ∧ f env = some (r, env') ∧ ∀ v F' H', SR K B F' H' σ env' → Ext F F' → RvOk K B F' H' σ env' v r → Q v H'
def tT (f : En → Option (Rv × En)) : TT := fun σ H Q => ∃ F env b env', SR K B F H σ env ∧ f env = some (.sh (.bl b), env') ∧ ∀ F' H', SR K B F' H' σ env' → Ext F F' → Q b H'
end
section
variable (K : PySem.W.Frag)
inductive SetL (F : Hp) (σ : L2.St) : List V → List Rv → Prop
  | nil : SetL F σ [] []
  | cons {v : V} {r : Rv} {vs : List V} {rs : List Rv} : Settled K F σ v r → SetL F σ vs rs → SetL F σ (v :: vs) (r :: rs)
end
section
variable (K : PySem.W.Frag) {C : Cfg} (B : Bs C)
def tA (f : En → Option (List Rv × En)) : TA := fun σ H Q => ∃ F env rs env', SR K B F H σ env ∧ f env = some (rs, env') ∧ ∀ vs F' H', SR K B F' H' σ env' → Ext F F' → SetL K F' σ vs rs → Q vs H'
def tL (f : En → Option (List D × En)) : TA := fun σ H Q => ∃ F env ds env', SR K B F H σ env ∧ f env = some (ds, env') ∧ ∀ vs F' H', SR K B F' H' σ env' → Ext F F' → RpL K F' vs ds → Q vs H'
def tO (f : En → Option (Option Int × En)) : TO := fun σ H Q => ∃ F env o env', SR K B F H σ env ∧ f env = some (o, env') ∧ ∀ F' H', SR K B F' H' σ env' → Ext F F' → Q o H'
end
theorem SetL.mono {K : PySem.W.Frag} {F F' : Hp} {σ : L2.St} (s : Same F F') : ∀ {vs : List V} {rs : List Rv}, SetL K F σ vs rs → SetL K F' σ vs rs
  | _, _, .nil => .nil
  | _, _, .cons h t => .cons (h.mono s) (SetL.mono s t)
theorem SetL.crL {K : PySem.W.Frag} {C : Cfg} {B : Bs C} {F H : Hp} {σ : L2.St} {env : En} (s : SR K B F H σ env) : ∀ {vs : List V} {rs : List Rv} {ds : List D}, SetL K F σ vs rs → getAll env rs = some ds → CrL K F H vs ds
  | _, _, ds, .nil, e => by
    simp only [getAll, Option.some.injEq] at e
    subst e; exact .nil
  | _, _, ds, .cons h t, e => by
    simp only [getAll, Option.bind_eq_some_iff, Option.some.injEq] at e
    obtain ⟨d, e1, ds', e2, rfl⟩ := e
    exact .cons (h.cr s e1) (SetL.crL s t e2)
end Ts

set_option linter.all false
set_option autoImplicit false
set_option maxRecDepth 100000
/-! The text of an expression does what evE says. -/
namespace Ts
open PySem PySem.Spec PyProof.Rows L2

section
variable {K : PySem.W.Frag} {Cg : Cfg} {B : Bs Cg} {F H : Hp} {σ : L2.St} {env : En}
/-- behind a call: what was shared for it alone is one's own again -/
theorem SR.restore (s : SR K B F H σ env) {F1 F2 H' : Hp} (sm1 : Same F F1) (s1 : Same F1 H) (np : FrzP F F1) (hh : SameN Cg.ts H H') (s12 : Same F1 F2) (s2 : Same F2 H') (nw : NewF Cg.ts H F1 F2) (nt2 : NoT F2) (tb : Tabs Cg.ts H') :
    ∃ F', SR K B F' H' σ env ∧ Ext F F' ∧ SameT F2 F' ∧ (∀ b, H b = none → F' b = F2 b) := by
  let F' : Hp := fun b => match F b, F1 b with | none, some _ => none | _, _ => F2 b
  have up : ∀ b x, F' b = some x → F2 b = some x := fun b x h => by
    simp only [F'] at h
    split at h
    · cases h
    · exact h
  have keep : Same F F' := fun b x h => by
    show (match F b, F1 b with | none, some _ => none | _, _ => F2 b) = some x
    rw [h]
    exact s12 _ _ (sm1 _ _ h)
  have gone : ∀ b o, H b = some o → Kp Cg.ts b o → F b = none → F' b = none := fun b o h n f => by
    show (match F b, F1 b with | none, some _ => none | _, _ => F2 b) = none
    rw [f]
    cases h1 : F1 b with
    | some u => rfl
    | none => exact nw b o h n h1
  refine ⟨F', ⟨s.len, fun b o h => hh _ _ (s.bas _ _ h) (s.nb _ _ h), fun b x h => s2 _ _ (up b x h), fun b o h => gone b o (s.bas _ _ h) (s.nb _ _ h) (s.dis b o h), fun i sl h => ?_, s.inj, s.nb, fun b o h => nt2 b o (up b o h), tb⟩, ⟨keep⟩, fun b xs htp h => ?_, fun b h => ?_⟩
  · cases sl with
    | u => trivial
    | sh d => obtain ⟨v, e, r⟩ := s.sh h; exact ⟨v, e, r.mono keep⟩
    | ow d =>
      obtain ⟨p, e, o, f, b⟩ := s.ownAt h
      obtain ⟨u, hu, _, nt⟩ := o.some
      exact ⟨p, e, o.mono keep (by rw [hh _ _ hu (kp_of nt), hu]), gone p u hu (kp_of nt) f, b⟩
    | nw ls => obtain ⟨p, e, o⟩ := s.slot i _ h; exact ⟨p, e, o.mono keep⟩
  · show (match F b, F1 b with | none, some _ => none | _, _ => F2 b) = some xs
    split
    · rename_i o f f1
      rcases np b o f1 with z | ⟨_, z⟩
      · rw [f] at z; cases z
      · have := s12 _ _ f1
        rw [h] at this; cases this
        rw [htp] at z; cases z
    · exact h
  · show (match F b, F1 b with | none, some _ => none | _, _ => F2 b) = F2 b
    have f : F b = none := s.free h
    rw [f]
    cases h1 : F1 b with
    | none => rfl
    | some u =>
      have := s1 _ _ h1
      rw [h] at this; cases this
/-- behind a call: what was shared stays so -/
theorem SR.after (s : SR K B F H σ env) {F2 H' : Hp} (hh : SameN Cg.ts H H') (s12 : Same F F2) (s2 : Same F2 H') (nw : NewF Cg.ts H F F2) (nt2 : NoT F2) (tb : Tabs Cg.ts H') : SR K B F2 H' σ env := by
  refine ⟨s.len, fun b o h => hh _ _ (s.bas _ _ h) (s.nb _ _ h), s2, fun b o h => nw b o (s.bas _ _ h) (s.nb _ _ h) (s.dis b o h), fun i sl h => ?_, s.inj, s.nb, nt2, tb⟩
  cases sl with
  | u => trivial
  | sh d => obtain ⟨v, e, r⟩ := s.sh h; exact ⟨v, e, r.mono s12⟩
  | ow d =>
    obtain ⟨p, e, o, f, b⟩ := s.ownAt h
    obtain ⟨u, hu, _, nt⟩ := o.some
    exact ⟨p, e, o.mono s12 (by rw [hh _ _ hu (kp_of nt), hu]), nw p u hu (kp_of nt) f, b⟩
  | nw ls => obtain ⟨p, e, o⟩ := s.slot i _ h; exact ⟨p, e, o.mono s12⟩
theorem SR.weakB {B' : Bs Cg} (s : SR K B' F H σ env) (h : Same B.h B'.h) (hn : (∀ (i : Nat) (ls : List D), env[i]? ≠ some (Sl.nw ls)) ∨ (B.b0 = B'.b0 ∧ ∀ (a : Addr) (xs : List V), B' a = some (.lst xs) → B a = some (.lst xs))) : SR K B F H σ env := by
  refine ⟨s.len, h.trans s.bas, s.frz, fun b o e => s.dis b o (h _ _ e), fun i sl e => ?_, s.inj, fun b o e => s.nb b o (h _ _ e), s.nf, s.tab⟩
  cases sl with
  | u => trivial
  | sh d => exact s.sh e
  | ow d => obtain ⟨p, e, o, f, b, pk⟩ := s.ownAt e; exact ⟨p, e, o, f, h.free b, pk⟩
  | nw ls =>
    rcases hn with hn | ⟨h0, hl⟩
    · exact absurd e (hn i ls)
    · obtain ⟨p, e1, qs, g1, g2, g3, g4, g5⟩ := s.slot i _ e
      refine ⟨p, e1, qs, hl _ _ g1, by rw [h0]; exact g2, g3, g4, fun k q ek => ?_⟩
      obtain ⟨k1, ds, xs, k2, k3, k4⟩ := g5 k q ek
      exact ⟨by rw [h0]; exact k1, ds, xs, k2, hl _ _ k3, k4⟩

theorem leak_get {env env' : En} {r : Rv} {d : D} (g : leak env r = some (d, env')) : r.get env = some d ∧ (∀ j, getAt env' j = getAt env j) ∧ (∀ (j : Nat) (x : D), env'[j]? = some (Sl.ow x) → env[j]? = some (Sl.ow x)) := by
  cases r with
  | sh e => cases g; exact ⟨rfl, fun _ => rfl, fun _ _ h => h⟩
  | ow e => cases g; exact ⟨rfl, fun _ => rfl, fun _ _ h => h⟩
  | bo i =>
    simp only [leak, Option.bind_eq_some_iff, Option.some.injEq, Prod.mk.injEq] at g
    obtain ⟨e, h, rfl, rfl⟩ := g
    refine ⟨h, fun j => ?_, fun j x hj => ?_⟩
    · unfold getAt at h ⊢
      rw [get_set]
      split
      · rename_i q
        subst q
        cases z : env[i]? with
        | none => rw [z] at h; cases h
        | some sl =>
          rw [z] at h
          rw [if_pos (lt_of_get z)]
          exact h.symm
      · rfl
    · rw [get_set] at hj
      split at hj
      · split at hj <;> cases hj
      · exact hj
theorem get_same {env env' : En} {r : Rv} (h : ∀ j, getAt env' j = getAt env j) : r.get env' = r.get env := by
  cases r with
  | sh _ => rfl
  | ow _ => rfl
  | bo i => exact h i
theorem getAll_same {env env' : En} (h : ∀ j, getAt env' j = getAt env j) : ∀ rs : List Rv, getAll env' rs = getAll env rs
  | [] => rfl
  | r :: rs => by
    show (r.get env').bind _ = (r.get env).bind _
    rw [get_same h, getAll_same h rs]
theorem leakAll_ok : ∀ {rs : List Rv} {vs : List V} {ds : List D} {F : Hp} {env : En}, SR K B F H σ env → SetL K F σ vs rs → getAll env rs = some ds →
    ∃ env1 F1, leakAll env rs = some env1 ∧ SR K B F1 H σ env1 ∧ Same F F1 ∧ FrzP F F1 ∧ RpL K F1 vs ds
  | [], _, ds, F, env, s, .nil, e => by
    simp only [getAll, Option.some.injEq] at e
    subst e
    exact ⟨env, F, rfl, s, .refl _, .refl, .nil⟩
  | r :: rs, _, ds, F, env, s, .cons h t, e => by
    simp only [getAll, Option.bind_eq_some_iff, Option.some.injEq] at e
    obtain ⟨d, e1, ds', e2, rfl⟩ := e
    have hl : ∃ env', leak env r = some (d, env') := by
      cases r with
      | sh x => cases e1; exact ⟨_, rfl⟩
      | ow x => cases e1; exact ⟨_, rfl⟩
      | bo i =>
        have e1' : getAt env i = some d := e1
        exact ⟨env.set i (.sh d), by simp only [leak, e1', Option.bind_some]⟩
    obtain ⟨env', hl⟩ := hl
    obtain ⟨_, gs, _⟩ := leak_get hl
    obtain ⟨F', s', x, rp, np⟩ := h.leak s hl
    obtain ⟨env1, F1, l1, s1, sm1, np1, r1⟩ := leakAll_ok (rs := rs) s' (t.mono x.ff) (by rw [getAll_same gs]; exact e2)
    exact ⟨env1, F1, by simp only [leakAll, hl, Option.bind_some, l1], s1, x.ff.trans sm1, np.trans x.ff np1, .cons (rp.mono sm1) r1⟩
theorem noBo_leak : ∀ {rs : List Rv} {env env1 : En}, noBo rs = true → leakAll env rs = some env1 → env1 = env
  | [], env, env1, _, h => by simp only [leakAll, Option.some.injEq] at h; exact h.symm
  | .sh d :: rs, env, env1, n, h => noBo_leak (rs := rs) n (by simpa [leakAll, leak] using h)
  | .ow d :: rs, env, env1, n, h => noBo_leak (rs := rs) n (by simpa [leakAll, leak] using h)
  | .bo i :: rs, env, env1, n, h => by cases n
end

section
variable {T : Tb} {N : List Str} {R : Run} {X : Cx} {sc : Scope} {fb : Str → Bool} {Cg : Cfg} {B : Bs Cg}

theorem pe_sh {e : Expr} {t : TE} (h : PE X e t) {f : En → Option (Rv × En)} (d : D) (hf : ∀ env, f env = some (.sh d, env)) (ht : ∀ σ H (Q : VK), (∀ v, (∀ F, Rp X.K F v d) → Q v H) → t σ H Q) : PE X e (tE X.K B f) :=
  h.imp fun σ H Q ⟨F, env, r, env', s, e, q⟩ => by
    rw [hf] at e; cases e
    exact ht σ H Q fun v rv => q v F H s .refl (rv F)
theorem pe_const {e : Expr} {f : En → Option (Rv × En)} (d : D) (v : V) (h : PE X e (tC v)) (hf : ∀ env, f env = some (.sh d, env)) (hv : ∀ F, Rp X.K F v d) : PE X e (tE X.K B f) :=
  pe_sh h d hf fun σ H Q q => q v hv
theorem pt_of_pe {e : Expr} {f : En → Option (Rv × En)} (h : PE X e (tE X.K B f)) (he : ∀ whole, isTrue e X.env whole = (do let v ← whole; standAt e.pos; holding [v] (truthy v))) : PT X e (tT X.K B f) :=
  (pt_val h he).imp fun σ H Q ⟨F, env, b, env', s, e, q⟩ => ⟨F, env, _, env', s, e, fun v F' H' s' x o => by
    cases o
    exact ⟨b, rfl, q F' H' s' x⟩⟩
theorem pe_var' (g : Gd T N R X sc fb Cg) {i : Nat} {x : Str} {pos : Pos} (h1 : N[i]? = some x) (h2 : visB sc x = true) (h3 : nameOk x = true) : PE X (.Name x pos) (tE X.K B (evE R (.var i))) :=
  (pe_var (by rw [g.hN]; exact h1) (vis_of g h2) (dbg_of h3).1 (dbg_of h3).2).imp fun σ H Q ⟨F, env, r, env', s, e, q⟩ => by
    simp only [evE] at e
    split at e
    · rename_i d h
      cases e
      obtain ⟨v, ev, rv⟩ := s.sh h
      exact ⟨v, ev, q v F H s .refl rv⟩
    · rename_i d h
      cases e
      obtain ⟨p, ev, _⟩ := s.ownAt h
      exact ⟨_, ev, q _ F H s .refl ⟨d, h, ev⟩⟩
    · cases e
theorem pe_bin' {a b : Ex} {ea eb : Expr} {op : Operator} {pos : Pos} (ha : ∀ B : Bs Cg, PE X ea (tE X.K B (evE R a))) (hb : ∀ B : Bs Cg, PE X eb (tE X.K B (evE R b))) : PE X (.BinOp ea op eb pos) (tE X.K B (evE R (.bin op a b))) :=
  (pe_op (op_binV op) (ha B) (hb B)).imp fun σ H Q ⟨F, env, r, env', s, e, q⟩ => by
    simp only [evE, Option.bind_eq_some_iff, Option.some.injEq, Prod.mk.injEq] at e
    obtain ⟨p, e1, p2, e2, x, gx, y, gy, nv, eb, rfl, rfl⟩ := e
    refine ⟨F, env, _, _, s, e1, fun v F1 H1 s1 x1 o1 => ?_⟩
    obtain ⟨F1', s1', y1, st1⟩ := o1.settled s1
    refine ⟨F1', _, _, _, s1', e2, fun w F2 H2 s2 x2 o2 => ?_⟩
    obtain ⟨F2', s2', y2, st2⟩ := o2.settled s2
    refine ⟨F2', x, y, nv, s2'.frz, (st1.mono (x2.trans y2).ff).cr s2' gx, st2.cr s2' gy, eb, fun v' H' res => ?_⟩
    obtain ⟨F3, s3, x3, o3⟩ := res.ok s2'
    exact q v' F3 H' s3 (x1.trans (y1.trans (x2.trans (y2.trans x3)))) o3
theorem pe_neg' {a : Ex} {ea : Expr} {pos : Pos} (ha : ∀ B : Bs Cg, PE X ea (tE X.K B (evE R a))) : PE X (.UnaryOp .USub ea pos) (tE X.K B (evE R (.neg a))) :=
  (pe_un un_negV (ha B)).imp fun σ H Q ⟨F, env, r, env', s, e, q⟩ => by
    simp only [evE, Option.bind_eq_some_iff, Option.some.injEq, Prod.mk.injEq] at e
    obtain ⟨p, e1, x, gx, nv, eb, rfl, rfl⟩ := e
    refine ⟨F, env, _, _, s, e1, fun v F1 H1 s1 x1 o1 => ?_⟩
    obtain ⟨F1', s1', y1, st1⟩ := o1.settled s1
    exact ⟨F1', x, nv, s1'.frz, st1.cr s1' gx, eb, fun v' rv => q v' F1' H1 s1' (x1.trans y1) rv⟩
theorem cmp_read (g : Gd T N R X sc fb Cg) {a b : Ex} {op : CmpOp} {σ : L2.St} {H : Hp} {Q : VK} {F : Hp} {env env' : En} {r : Rv} (s : SR X.K B F H σ env) (e : evE R (.cmp op a b) env = some (r, env'))
    (q : ∀ v F' H', SR X.K B F' H' σ env' → Ext F F' → RvOk X.K B F' H' σ env' v r → Q v H') : tOp (rVB X.K (cmpV op)) (tE X.K B (evE R a)) (tE X.K B (evE R b)) σ H Q := by
  simp only [evE, Option.bind_eq_some_iff, Option.some.injEq, Prod.mk.injEq] at e
  obtain ⟨p, e1, p2, e2, x, gx, y, gy, k, eb, rfl, rfl⟩ := e
  refine ⟨F, env, _, _, s, e1, fun v F1 H1 s1 x1 o1 => ?_⟩
  obtain ⟨F1', s1', y1, st1⟩ := o1.settled s1
  refine ⟨F1', _, _, _, s1', e2, fun w F2 H2 s2 x2 o2 => ?_⟩
  obtain ⟨F2', s2', y2, st2⟩ := o2.settled s2
  exact ⟨F2', x, y, k, s2'.frz, (st1.mono (x2.trans y2).ff).cr s2' gx, st2.cr s2' gy, eb, q _ F2' H2 s2' (x1.trans (y1.trans (x2.trans y2))) (.bl k)⟩
theorem cmp2_read {a b c : Ex} {op op' : CmpOp} {σ : L2.St} {H : Hp} {Q : VK} {F : Hp} {env env' : En} {r : Rv} (s : SR X.K B F H σ env) (e : evE R (.cmp2 op op' a b c) env = some (r, env'))
    (q : ∀ v F' H', SR X.K B F' H' σ env' → Ext F F' → RvOk X.K B F' H' σ env' v r → Q v H') : tChain (rVB X.K (cmpV op)) (rVB X.K (cmpV op')) (tE X.K B (evE R a)) (tE X.K B (evE R b)) (tE X.K B (evE R c)) σ H Q := by
  simp only [evE, Option.bind_eq_some_iff] at e
  obtain ⟨p, e1, p2, e2, x, gx, y, gy, k, eb, e⟩ := e
  refine ⟨F, env, _, _, s, e1, fun v F1 H1 s1 x1 o1 => ?_⟩
  obtain ⟨F1', s1', y1, st1⟩ := o1.settled s1
  refine ⟨F1', _, _, _, s1', e2, fun w F2 H2 s2 x2 o2 => ?_⟩
  obtain ⟨F2', s2', y2, st2⟩ := o2.settled s2
  refine ⟨F2', x, y, k, s2'.frz, (st1.mono (x2.trans y2).ff).cr s2' gx, st2.cr s2' gy, eb, k, rfl, ?_⟩
  cases k with
  | false =>
    simp only [Bool.false_eq_true, if_false, Option.some.injEq, Prod.mk.injEq] at e ⊢
    obtain ⟨rfl, rfl⟩ := e
    exact q _ F2' H2 s2' (x1.trans (y1.trans (x2.trans y2))) (.bl false)
  | true =>
    simp only [if_true, Option.bind_eq_some_iff, Option.some.injEq, Prod.mk.injEq] at e ⊢
    obtain ⟨t, e3, z, gz, y', gy', k', eb', rfl, rfl⟩ := e
    refine ⟨F2', _, _, _, s2', e3, fun w3 F3 H3 s3 x3 o3 => ?_⟩
    obtain ⟨F3', s3', y3, st3⟩ := o3.settled s3
    exact ⟨F3', y', z, k', s3'.frz, (st2.mono (x3.trans y3).ff).cr s3' gy', st3.cr s3' gz, eb', q _ F3' H3 s3' (x1.trans (y1.trans (x2.trans (y2.trans (x3.trans y3))))) (.bl k')⟩
theorem pe_ite' {a b c : Ex} {ea eb ec : Expr} {pos : Pos} (hc : ∀ B : Bs Cg, PT X ec (tT X.K B (evE R c))) (ha : ∀ B : Bs Cg, PE X ea (tE X.K B (evE R a))) (hb : ∀ B : Bs Cg, PE X eb (tE X.K B (evE R b))) : PE X (.IfExp ec ea eb pos) (tE X.K B (evE R (.ite c a b))) :=
  (pe_ifExp (hc B) (ha B) (hb B)).imp fun σ H Q ⟨F, env, r, env', s, e, q⟩ => by
    simp only [evE, Option.bind_eq_some_iff] at e
    obtain ⟨⟨r1, env1⟩, e1, e⟩ := e
    split at e
    · rename_i h
      have h' : r1 = .sh (.bl true) := h
      subst h'
      exact ⟨F, env, true, env1, s, e1, fun F1 H1 s1 x1 => iteT ⟨F1, env1, r, env', s1, e, fun v F' H' s' x o => q v F' H' s' (x1.trans x) o⟩⟩
    · rename_i h
      have h' : r1 = .sh (.bl false) := h
      subst h'
      exact ⟨F, env, false, env1, s, e1, fun F1 H1 s1 x1 => iteF ⟨F1, env1, r, env', s1, e, fun v F' H' s' x o => q v F' H' s' (x1.trans x) o⟩⟩
    · cases e

/-! ### arguments -/
theorem pa_nil' : PA X [] (tA X.K B (evA R .nil)) := pa_nil.imp fun σ H Q ⟨F, env, rs, env', s, e, q⟩ => by
  simp only [evA, Option.some.injEq, Prod.mk.injEq] at e
  obtain ⟨rfl, rfl⟩ := e
  exact q [] F H s .refl .nil
theorem pa_cons' {a : Ex} {as : Exs} {ea : Expr} {es : List Expr} (ha : ∀ B : Bs Cg, PE X ea (tE X.K B (evE R a))) (hs : ∀ B : Bs Cg, PA X es (tA X.K B (evA R as))) (st : noStar ea = true) : PA X (ea :: es) (tA X.K B (evA R (.cons a as))) :=
  (pa_cons (ha B) (hs B) (star_of st _)).imp fun σ H Q ⟨F, env, rs, env', s, e, q⟩ => by
    simp only [evA, Option.bind_eq_some_iff, Option.some.injEq, Prod.mk.injEq] at e
    obtain ⟨p, e1, p2, e2, rfl, rfl⟩ := e
    refine ⟨F, env, _, _, s, e1, fun v F1 H1 s1 x1 o1 => ?_⟩
    obtain ⟨F1', s1', y1, st1⟩ := o1.settled s1
    exact ⟨F1', _, _, _, s1', e2, fun vs F2 H2 s2 x2 o2 => q _ F2 H2 s2 (x1.trans (y1.trans x2)) (.cons (st1.mono x2.ff) o2)⟩
theorem pl_nil' : PA X [] (tL X.K B (evL R .nil)) := pa_nil.imp fun σ H Q ⟨F, env, rs, env', s, e, q⟩ => by
  simp only [evL, Option.some.injEq, Prod.mk.injEq] at e
  obtain ⟨rfl, rfl⟩ := e
  exact q [] F H s .refl .nil
theorem pl_cons' {a : Ex} {as : Exs} {ea : Expr} {es : List Expr} (ha : ∀ B : Bs Cg, PE X ea (tE X.K B (evE R a))) (hs : ∀ B : Bs Cg, PA X es (tL X.K B (evL R as))) (st : noStar ea = true) : PA X (ea :: es) (tL X.K B (evL R (.cons a as))) :=
  (pa_cons (ha B) (hs B) (star_of st _)).imp fun σ H Q ⟨F, env, rs, env', s, e, q⟩ => by
    simp only [evL, Option.bind_eq_some_iff, Option.some.injEq, Prod.mk.injEq] at e
    obtain ⟨p, e1, t, e3, p2, e2, rfl, rfl⟩ := e
    refine ⟨F, env, _, _, s, e1, fun v F1 H1 s1 x1 o1 => ?_⟩
    obtain ⟨F1', s1', y1, st1⟩ := o1.settled s1
    obtain ⟨F2, s2, x2, rp, _⟩ := st1.leak s1' e3
    exact ⟨F2, _, _, _, s2, e2, fun vs F3 H3 s3 x3 o3 => q _ F3 H3 s3 (x1.trans (y1.trans (x2.trans x3))) (.cons (rp.mono x3.ff) o3)⟩
theorem pe_tup' {as : Exs} {es : List Expr} {k : Nat} {pos : Pos} (h : ∀ B : Bs Cg, PA X es (tL X.K B (evL R as))) : PE X (.Tuple es k pos) (tE X.K B (evE R (.tup as))) :=
  (pe_tup (h B)).imp fun σ H Q ⟨F, env, r, env', s, e, q⟩ => by
    simp only [evE, Option.bind_eq_some_iff] at e
    obtain ⟨⟨ds, env1⟩, e1, e⟩ := e
    split at e
    · rename_i hl
      cases e
      refine ⟨F, env, _, _, s, e1, fun vs F1 H1 s1 x1 r1 => ⟨by rw [r1.length]; exact big_le hl, fun p hp => ?_⟩⟩
      have res : Res X.K F1 H1 (.sh (.tup ds)) (.ref p) (upd H1 p (.tup vs)) := .inr ⟨p, _, hp, rfl, rfl, .tup upd_same (r1.mono (same_upd (s1.free hp)))⟩
      obtain ⟨F3, s3, x3, o3⟩ := res.ok s1
      exact q _ F3 _ s3 (x1.trans x3) o3
    · cases e
theorem pe_lst' {as : Exs} {es : List Expr} {pos : Pos} (h : ∀ B : Bs Cg, PA X es (tL X.K B (evL R as))) : PE X (.List es pos) (tE X.K B (evE R (.lst as))) :=
  (pe_lst (h B)).imp fun σ H Q ⟨F, env, r, env', s, e, q⟩ => by
    simp only [evE, Option.bind_eq_some_iff] at e
    obtain ⟨⟨ds, env1⟩, e1, e⟩ := e
    split at e
    · rename_i hl
      cases e
      refine ⟨F, env, _, _, s, e1, fun vs F1 H1 s1 x1 r1 => ⟨by rw [r1.length]; exact big_le hl, fun p hp => ?_⟩⟩
      have res : Res X.K F1 H1 (.ow (.lst ds)) (.ref p) (upd H1 p (.lst vs)) := ⟨p, _, rfl, hp, rfl, _, upd_same, r1⟩
      obtain ⟨F3, s3, x3, o3⟩ := res.ok s1
      exact q _ F3 _ s3 (x1.trans x3) o3
    · cases e
theorem pe_dnew' {t : Bool} {pos : Pos} : PE X (.Dict [] [] pos) (tE X.K B (evE R (.dnew t))) := by
  cases t with
  | false =>
    refine pe_dnewK.imp fun σ H Q ⟨F, env, r, env', s, e, q⟩ => fun p hp => ?_
    simp only [evE, Bool.false_eq_true, if_false, Option.some.injEq, Prod.mk.injEq] at e
    obtain ⟨rfl, rfl⟩ := e
    have res : Res X.K F H (.ow (.dk [])) (.ref p) (upd H p (.dK [])) := ⟨p, _, rfl, hp, rfl, _, upd_same, .nil⟩
    obtain ⟨F3, s3, x3, o3⟩ := res.ok s
    exact q _ F3 _ s3 x3 o3
  | true =>
    refine pe_dnewT.imp fun σ H Q ⟨F, env, r, env', s, e, q⟩ => fun p hp => ?_
    simp only [evE, if_true, Option.some.injEq, Prod.mk.injEq] at e
    obtain ⟨rfl, rfl⟩ := e
    have res : Res X.K F H (.ow (.dt [])) (.ref p) (upd H p (.dT [])) := ⟨p, _, rfl, hp, rfl, _, upd_same, .nil⟩
    obtain ⟨F3, s3, x3, o3⟩ := res.ok s
    exact q _ F3 _ s3 x3 o3
/-- something stands by while other things are made -/
theorem SR.bring {K : PySem.W.Frag} {F H : Hp} {σ : L2.St} {env : En} (s : SR K B F H σ env) {p : Addr} {o : HO} (h : H p = none) (nt : isTbl o = false) : SR K (Bs.of (C := Cg) (upd B.h p o) B.b0 (B.le.trans (same_upd (s.freeB h)))) F (upd H p o) σ env := by
  have s1 := s.new (o := o) h
  refine ⟨s1.len, same_upd2 s.bas, s1.frz, fun b u e => ?_, fun i sl e => ?_, s1.inj, s.nb.put1 nt, s1.nf, s1.tab⟩
  · by_cases hb : b = p
    · subst hb; exact s.free h
    · have e' : upd B.h p o b = some u := e
      rw [upd_ne hb] at e'; exact s.dis b u e'
  · cases sl with
    | u => trivial
    | sh d => exact s1.sh e
    | ow d =>
      obtain ⟨q, e1, o1, f, b, pk⟩ := s1.ownAt e
      refine ⟨q, e1, o1, f, ?_, pk⟩
      show upd B.h p o q = none
      rw [upd_ne (fun (z : q = p) => s.notOwn h (by rw [← z]; exact ⟨i, d, e, e1⟩))]
      exact b
    | nw ls =>
      obtain ⟨q, e1, qs, g1, g2, g3, g4, g5⟩ := s1.slot i _ e
      have up : ∀ (a : Addr) (u : HO), B a = some u → upd B.h p o a = some u := fun a u ha => by
        rw [upd_ne (fun (z : a = p) => by rw [z, s.freeB h] at ha; cases ha)]; exact ha
      refine ⟨q, e1, qs, up _ _ g1, g2, g3, g4, fun k x ek => ?_⟩
      obtain ⟨k1, ds, xs, k2, k3, k4⟩ := g5 k x ek
      exact ⟨k1, ds, xs, k2, up _ _ k3, k4⟩
theorem pe_ex {e : Expr} {f : En → Option (Rv × En)} (h : ∀ B : Bs Cg, PE X e (tE X.K B f)) : PE X e (fun σ H Q => ∃ B : Bs Cg, tE X.K B f σ H Q) := ⟨fun pins s σ H Q I ⟨B, q⟩ => (h B).run pins s σ H Q I q⟩
theorem pe_dlit' {k v : Ex} {ek ev : Expr} {pos : Pos} (hk : ∀ B : Bs Cg, PE X ek (tE X.K B (evE R k))) (hv : ∀ B : Bs Cg, PE X ev (tE X.K B (evE R v))) : PE X (.Dict [some ek] [ev] pos) (tE X.K B (evE R (.dlit k v))) :=
  (pe_disp (pps_cons (pe_ex hk) (pe_ex hv) pps_nil) rfl rfl (fun z => by cases z) (by show 1 ≤ 15; decide)).imp fun σ H Q ⟨F, env, r, env', s, e, q⟩ => by
    simp only [evE, Option.bind_eq_some_iff, Option.some.injEq, Prod.mk.injEq] at e
    obtain ⟨p, e1, p2, e2, t, e3, x, gx, y, ky, rfl, rfl⟩ := e
    intro d hd
    have sB := s.bring (o := .dK []) hd rfl
    have fd := s.free hd
    refine ⟨_, F, env, _, _, sB, e1, fun v F1 H1 s1 x1 o1 => ?_⟩
    obtain ⟨F1', s1', y1, st1⟩ := o1.settled s1
    refine ⟨_, F1', _, _, _, s1', e2, fun w F2 H2 s2 x2 o2 => ?_⟩
    obtain ⟨F2', s2', y2, st2⟩ := o2.settled s2
    obtain ⟨F3, s3, x3, rp, _⟩ := st2.leak s2' e3
    have cv := (st1.mono (x2.trans (y2.trans x3)).ff).cr s3 gx
    have ev := key_kV cv ky
    subst ev
    have h0 : H2 d = some (.dK []) := s3.bas d _ upd_same
    have n0 : ¬ Owns σ t.2 d := fun z => by
      have : upd B.h d (.dK []) d = none := (s3.ownsNone z).2.1
      rw [upd_same] at this
      cases this
    have f0 : F3 d = none := s3.dis d _ upd_same
    have bb : Same B.h (upd B.h d (.dK [])) := same_upd (s.freeB hd)
    have s4 := s3.weakB bb (.inr ⟨rfl, fun a xs ha => by
      have ha' : upd B.h d (.dK []) a = some (.lst xs) := ha
      by_cases hda : a = d
      · rw [hda, upd_same] at ha'; cases ha'
      · rw [upd_ne hda] at ha'; exact ha'⟩)
    refine ⟨h0, [(y, w)], rfl, by show 1 ≤ 15; decide, ?_⟩
    have s5 : SR X.K B F3 (upd H2 d (.dK [(y, w)])) σ t.2 := s4.heap (fun c u z => by rw [upd_ne (fun (q : c = d) => by rw [q, s.freeB hd] at z; cases z)]; exact s4.bas c u z) (fun c u z => by rw [upd_ne (fun (q : c = d) => by rw [q, f0] at z; cases z)]; exact s4.frz c u z) (fun c z => upd_ne fun q => n0 (by rw [← q]; exact z)) (s4.tab.put1 (fun ps z => by rw [h0] at z; cases z))
    exact q _ F3 _ s5 (x1.trans (y1.trans (x2.trans (y2.trans x3)))) ⟨d, rfl, ⟨_, upd_same, .cons rp .nil⟩, f0, s.freeB hd, n0⟩

/-! ### subscripts, slices -/
theorem pe_ix' (g : Gd T N R X sc fb Cg) {a b : Ex} {ea eb : Expr} {pos : Pos} (ha : ∀ B : Bs Cg, PE X ea (tE X.K B (evE R a))) (hb : ∀ B : Bs Cg, PE X eb (tE X.K B (evE R b))) (hs : noSlice eb = true) : PE X (.Subscript ea eb pos) (tE X.K B (evE R (.ix a b))) :=
  (pe_ix (ix_V (by have := g.un; omega)) (ha B) (hb B) (ix_of hs)).imp fun σ H Q ⟨F, env, r, env', s, e, q⟩ => by
    simp only [evE, Option.bind_eq_some_iff, Option.some.injEq, Prod.mk.injEq] at e
    obtain ⟨p, e1, p2, e2, x, gx, y, gy, nv, eb, rfl, rfl⟩ := e
    refine ⟨F, env, _, _, s, e1, fun v F1 H1 s1 x1 o1 => ?_⟩
    obtain ⟨F1', s1', y1, st1⟩ := o1.settled s1
    refine ⟨F1', _, _, _, s1', e2, fun w F2 H2 s2 x2 o2 => ?_⟩
    obtain ⟨F2', s2', y2, st2⟩ := o2.settled s2
    exact ⟨F2', x, y, nv, s2'.frz, (st1.mono (x2.trans y2).ff).cr s2' gx, st2.cr s2' gy, eb, fun v' rp => q v' F2' H2 s2' (x1.trans (y1.trans (x2.trans y2))) rp⟩
theorem po_no' : PO X none (tO X.K B (evO R .no)) := ⟨fun pins s σ H Q I ⟨F, env, o, env', sr, e, q⟩ => by
  simp only [evO, Option.some.injEq, Prod.mk.injEq] at e
  obtain ⟨rfl, rfl⟩ := e
  exact po_none.run pins s σ H Q I (q F H sr .refl)⟩
theorem po_yes' {a : Ex} {ea : Expr} (ha : ∀ B : Bs Cg, PE X ea (tE X.K B (evE R a))) : PO X (some ea) (tO X.K B (evO R (.yes a))) := ⟨fun pins s σ H Q I ⟨F, env, o, env', sr, e, q⟩ => by
  simp only [evO, Option.bind_eq_some_iff] at e
  obtain ⟨⟨r1, env1⟩, e1, e⟩ := e
  split at e
  · rename_i i h
    have h' : r1 = .sh (.int i) := h
    subst h'
    cases e
    refine (po_some (ha B)).run pins s σ H Q I ⟨F, env, _, _, sr, e1, fun v F1 H1 s1 x1 o1 => ?_⟩
    cases o1
    exact ⟨i, rfl, q F1 H1 s1 x1⟩
  · cases e⟩
theorem pe_sl' {a : Ex} {lo hi : Ox} {ea : Expr} {elo ehi : Option Expr} {pos p2 : Pos} (ha : ∀ B : Bs Cg, PE X ea (tE X.K B (evE R a))) (hl : ∀ B : Bs Cg, PO X elo (tO X.K B (evO R lo))) (hh : ∀ B : Bs Cg, PO X ehi (tO X.K B (evO R hi))) : PE X (.Subscript ea (.Slice elo ehi none p2) pos) (tE X.K B (evE R (.sl a lo hi))) :=
  (pe_slice sl_V (ha B) (hl B) (hh B)).imp fun σ H Q ⟨F, env, r, env', s, e, q⟩ => by
    simp only [evE, Option.bind_eq_some_iff, Option.some.injEq, Prod.mk.injEq] at e
    obtain ⟨p, e1, p2, e2, p3, e3, x, gx, nv, eb, rfl, rfl⟩ := e
    refine ⟨F, env, _, _, s, e1, fun v F1 H1 s1 x1 o1 => ?_⟩
    obtain ⟨F1', s1', y1, st1⟩ := o1.settled s1
    refine ⟨F1', _, _, _, s1', e2, fun F2 H2 s2 x2 => ?_⟩
    refine ⟨F2, _, _, _, s2, e3, fun F3 H3 s3 x3 => ?_⟩
    refine ⟨F3, x, nv, s3.frz, (st1.mono (x2.trans x3).ff).cr s3 gx, eb, fun v' H' res => ?_⟩
    obtain ⟨F4, s4, x4, o4⟩ := res.ok s3
    exact q v' F4 H' s4 (x1.trans (y1.trans (x2.trans (x3.trans x4)))) o4

theorem pe_rev' {a : Ex} {ea : Expr} {k : Nat} {p1 p2 p3 pos : Pos} (ha : ∀ B : Bs Cg, PE X ea (tE X.K B (evE R a))) : PE X (.Subscript ea (.Slice none none (some (.UnaryOp .USub (.Constant (.int 1) k p1) p2)) p3) pos) (tE X.K B (evE R (.rev a))) :=
  (pe_revL (ha B)).imp fun σ H Q ⟨F, env, r, env', s, e, q⟩ => by
    simp only [evE, Option.bind_eq_some_iff] at e
    obtain ⟨p, e1, x, gx, e⟩ := e
    split at e
    · rename_i l
      cases e
      refine ⟨F, env, _, _, s, e1, fun v F1 H1 s1 x1 o1 => ?_⟩
      obtain ⟨F1', s1', y1, st1⟩ := o1.settled s1
      obtain ⟨b, xs, rfl, h1, r1⟩ := (st1.cr s1' gx).lst s1'.frz
      refine ⟨b, xs, rfl, .inl (.inl h1), fun z hz => ?_⟩
      have res : Res X.K F1' H1 (.ow (.lst l.reverse)) (.ref z) (upd H1 z (.lst xs.reverse)) := ⟨z, _, rfl, hz, rfl, _, upd_same, r1.reverse⟩
      obtain ⟨F3, s3, x3, o3⟩ := res.ok s1'
      exact q _ F3 _ s3 (x1.trans (y1.trans x3)) o3
    · cases e

/-! ### calls -/
theorem pe_call' (g : Gd T N R X sc fb Cg) {f : Nat} {x : Str} {as : Exs} {ea : Expr} {es : List Expr} {p pos : Pos} (h : ∀ B : Bs Cg, PA X (ea :: es) (tA X.K B (evA R as))) (hf : T.nm f = some x) (hg : glB sc x = true) (hn : nameOk x = true) (hs : ∀ e ∈ ea :: es, noStar e = true) :
    PE X (.Call (.Name x p) (ea :: es) [] pos) (tE X.K B (evE R (.call f as))) := by
  obtain ⟨fa, fd, k, ps, n, FO, hr, hm, hk, hb, har⟩ := g.calls f x hf
  refine (pe_call FO hr (gl_of g hg) hm hk hb .nil pass0 (h B) (dbg_of hn).1 (star_of (hs _ (List.mem_cons_self ..)) _) (back_of _ _ fun e he => hs e (List.mem_cons_of_mem _ he))).imp fun σ H Q ⟨F, env, r, env', s, e, q⟩ => ?_
  simp only [evE, Option.bind_eq_some_iff] at e
  obtain ⟨p, e1, ds, e2, nv, e3, e⟩ := e
  refine ⟨F, env, _, _, s, e1, fun vs F1 H1 s1 x1 st => ?_⟩
  obtain ⟨env2, F2, l2, s2, sm2, np2, r2⟩ := leakAll_ok s1 st e2
  rw [List.append_nil]
  refine ⟨F2, ds, nv, s2.nf, s2.tab, s2.frz, r2, har _ _ e3, e3, fun v H' F' hh sm3 s3 nw nt tb rv => ?_⟩
  -- what was shared stays so
  have keep : r = nv.rv → env' = env2 → Q v H' := fun er ee => by
    subst er; subst ee
    have s4 := s2.after hh sm3 s3 nw nt tb
    refine q v F' H' s4 (x1.trans (.trans ⟨sm2⟩ ⟨sm3⟩)) ?_
    cases nv with
    | sh d => exact rv
    | ow d =>
      obtain ⟨p, rfl, o, f, hp⟩ := rv
      exact ⟨p, rfl, o, f, s2.freeB hp, s2.notOwn hp⟩
    | mu r fs => exact rv.elim
    | ex c fs => exact rv.elim
  split at e
  · rename_i hc
    simp only [Option.some.injEq, Prod.mk.injEq] at e
    obtain ⟨e4, e5⟩ := e
    rcases hc with hc | hc
    · exact keep e4.symm (e5.symm.trans (noBo_leak hc l2).symm)
    · subst e4; subst e5
      obtain ⟨F4, s4, x4, sT, fr⟩ := s1.restore sm2 s2.frz np2 hh sm3 s3 nw nt tb
      refine q v F4 H' s4 (x1.trans x4) ?_
      cases nv with
      | sh d => exact Rp.flat sT hc rv
      | ow d =>
        obtain ⟨p, rfl, o, f, hp⟩ := rv
        cases d with
        | lst l =>
          obtain ⟨xs, e6, r6⟩ := o
          exact ⟨p, rfl, ⟨xs, e6, r6.flat sT (by rw [D.flats_all]; exact hc)⟩, by rw [fr p hp]; exact f, s1.freeB hp, s1.notOwn hp⟩
        | _ => cases hc
      | mu r fs => exact rv.elim
      | ex c fs => exact rv.elim
  · simp only [l2, Option.bind_some, Option.some.injEq, Prod.mk.injEq] at e
    exact keep e.1.symm e.2.symm
theorem bi_val (b : Bi) : bootBuiltins (biName b) = some (biVal b) := by cases b <;> decide +kernel
theorem pe_bi' (g : Gd T N R X sc fb Cg) {b : Bi} {as : Exs} {ea : Expr} {es : List Expr} {p pos : Pos} (h : ∀ B : Bs Cg, PA X (ea :: es) (tA X.K B (evA R as))) (hg : glB sc (biName b) = true) (hn : nameOk (biName b) = true) (hs : ∀ e ∈ ea :: es, noStar e = true) :
    PE X (.Call (.Name (biName b) p) (ea :: es) [] pos) (tE X.K B (evE R (.bi b as))) := by
  have cr : CallR X (biVal b) (rBi X.K (biV b)) := cr_bi g.calm (by have := g.un; omega) b
  have base : PE X (.Call (.Name (biName b) p) (ea :: es) [] pos) (tCB (rBi X.K (biV b)) (tA X.K B (evA R as))) := by
    have hb := bi_val b
    have hnm : biName b ≠ "__name__" := by cases b <;> decide +kernel
    cases hv : biVal b with
    | builtin id =>
      rw [hv] at cr hb
      exact pe_callB cr (gl_of g hg) (g.blt b) hb (h B) hnm (dbg_of hn).1 (star_of (hs _ (List.mem_cons_self ..)) _) (back_of _ _ fun e he => hs e (List.mem_cons_of_mem _ he))
    | type t =>
      rw [hv] at cr hb
      exact pe_callTy cr (gl_of g hg) (g.blt b) hb (h B) hnm (dbg_of hn).1 (star_of (hs _ (List.mem_cons_self ..)) _) (back_of _ _ fun e he => hs e (List.mem_cons_of_mem _ he))
    | _ => cases b <;> cases hv
  refine base.imp fun σ H Q ⟨F, env, r, env', s, e, q⟩ => ?_
  simp only [evE, Option.bind_eq_some_iff, Option.some.injEq, Prod.mk.injEq] at e
  obtain ⟨p, e1, ds, e2, nv, e3, rfl, rfl⟩ := e
  refine ⟨F, env, _, _, s, e1, fun vs F1 H1 s1 x1 st => ?_⟩
  refine ⟨F1, ds, nv, s1.frz, st.crL s1 e2, e3, fun v H' res => ?_⟩
  obtain ⟨F3, s3, x3, o3⟩ := res.ok s1
  exact q v F3 H' s3 (x1.trans x3) o3

/-! ### pop -/
theorem seq0 {n : Nat} (h : 0 < n) : seqIndex? 0 n = some 0 := by
  rw [seqIndex_of (by omega) (by omega)]
  rfl
theorem pe_pop0' (g : Gd T N R X sc fb Cg) {i : Nat} {x : Str} {px apos cpos p0 : Pos} {k : Nat} (h1 : N[i]? = some x) (h2 : visB sc x = true) (h3 : nameOk x = true) (hl : (apos.endLine == cpos.line) = true) :
    PE X (.Call (.Attribute (.Name x px) "pop" apos) [.Constant (.int 0) k p0] [] cpos) (tE X.K B (evE R (.pop i true))) :=
  (pe_bm PySem.F.plainAttrs_list PySem.F.slot_list_pop PySem.F.type_list_pop mt_popAt (pe_var (i := i) (by rw [g.hN]; exact h1) (vis_of g h2) (dbg_of h3).1 (dbg_of h3).2) (pa_cons pe_int pa_nil) (hline := hl)).imp fun σ H Q ⟨F, env, r, env', s, e, q⟩ => by
    simp only [evE] at e
    split at e
    · rename_i l h
      simp only [if_true] at e
      split at e
      · rename_i d t
        cases e
        obtain ⟨p, ev, o, f, b⟩ := s.ownAt h
        obtain ⟨xs, e6, r6⟩ := id o
        cases r6 with
        | cons rv rt =>
          rename_i v vs
          obtain ⟨s2, x2⟩ := s.change (o := .lst vs) (d' := .lst t) h ev ⟨_, upd_same, rt⟩
          refine ⟨_, ev, .inl ⟨rfl, _, .inl (.inl e6)⟩, p, v :: vs, 0, 0, v, rfl, rfl, e6, by decide, by decide, seq0 (by simp), rfl, ?_⟩
          exact q v F _ s2 x2 rv
      · cases e
    · cases e
theorem pe_popL' (g : Gd T N R X sc fb Cg) {i : Nat} {x : Str} {px apos cpos : Pos} (h1 : N[i]? = some x) (h2 : visB sc x = true) (h3 : nameOk x = true) (hl : (apos.endLine == cpos.line) = true) :
    PE X (.Call (.Attribute (.Name x px) "pop" apos) [] [] cpos) (tE X.K B (evE R (.pop i false))) :=
  (pe_bm0 PySem.F.plainAttrs_list PySem.F.slot_list_pop PySem.F.type_list_pop mt_pop (pe_var (i := i) (by rw [g.hN]; exact h1) (vis_of g h2) (dbg_of h3).1 (dbg_of h3).2) (hline := hl)).imp fun σ H Q ⟨F, env, r, env', s, e, q⟩ => by
    simp only [evE] at e
    split at e
    · rename_i l h
      simp only [Bool.false_eq_true, if_false] at e
      split at e
      · rename_i d t
        cases e
        obtain ⟨p, ev, o, f, b⟩ := s.ownAt h
        obtain ⟨xs, e6, r6⟩ := id o
        rw [List.getLast?_eq_getElem?] at t
        obtain ⟨v, e7, rv⟩ := r6.get t
        rw [← r6.length] at e7
        obtain ⟨s2, x2⟩ := s.change (o := .lst xs.dropLast) (d' := .lst l.dropLast) h ev ⟨_, upd_same, r6.dropLast⟩
        exact ⟨_, ev, .inl ⟨rfl, _, .inl (.inl e6)⟩, p, xs, v, rfl, rfl, e6, e7, q v F _ s2 x2 rv⟩
      · cases e
    · cases e

/-! ### index, count -/
theorem RpL.strs {K : PySem.W.Frag} {F : Hp} : ∀ {xs : List V} {l : List D} {ns : List Str}, RpL K F xs l → D.strs? l = some ns → xs = ns.map V.str
  | _, _, ns, .nil, e => by simp only [D.strs?, Option.some.injEq] at e; subst e; rfl
  | _, _, ns, .cons (d := d) h t, e => by
    cases d <;> simp only [D.strs?, reduceCtorEq, Option.bind_eq_some_iff, Option.some.injEq] at e
    obtain ⟨m, e1, rfl⟩ := e
    cases h
    rw [RpL.strs t e1]
    rfl
theorem findIdx_spec {ss : List Str} {s : Str} {i : Nat} (h : ss.findIdx? (fun z => decide (z = s)) = some i) : ss[i]? = some s ∧ ∀ m, m < i → ss[m]? ≠ some s := by
  rw [List.findIdx?_eq_some_iff_getElem] at h
  obtain ⟨hi, h1, h2⟩ := h
  refine ⟨by rw [List.getElem?_eq_getElem hi, of_decide_eq_true h1], fun m hm e => ?_⟩
  have h3 := h2 m hm
  rw [List.getElem?_eq_getElem (by omega)] at e
  simp only [decide_eq_true_eq] at h3
  exact h3 (Option.some.inj e)
theorem pe_idxL' {a b : Ex} {ea eb : Expr} {apos cpos : Pos} (ha : ∀ B : Bs Cg, PE X ea (tE X.K B (evE R a))) (hb : ∀ B : Bs Cg, PE X eb (tE X.K B (evE R b))) (hbase : attributeBase ea "index" X.env (eval ea X.env) = eval ea X.env) (hl : (apos.endLine == cpos.line) = true) (hs : noStar eb = true) :
    PE X (.Call (.Attribute ea "index" apos) [eb] [] cpos) (tE X.K B (evE R (.idx a b))) :=
  (pe_bm PySem.F.plainAttrs_list PySem.F.slot_list_index PySem.F.type_list_index mt_index (ha B) (pa_cons (hb B) pa_nil (star_of hs _)) (hbase := hbase) (hfew := by rw [star_of hs]; rfl) (hline := hl) (hs := star_of hs _)).imp fun σ H Q ⟨F, env, r, env', s, e, q⟩ => by
    simp only [evE, Option.bind_eq_some_iff] at e
    obtain ⟨p, e1, p2, e2, x, gx, y, gy, d, eb, e⟩ := e
    split at e
    · rename_i hty
      cases e
      refine ⟨F, env, _, _, s, e1, fun v F1 H1 s1 x1 o1 => ?_⟩
      obtain ⟨F1', s1', y1, st1⟩ := o1.settled s1
      have hp : ∃ l, p.1.get p.2 = some (.lst l) := by
        cases hg : p.1.get p.2 with
        | none => rw [hg] at hty; cases hty
        | some z => cases z <;> rw [hg] at hty <;> first | (cases hty; done) | exact ⟨_, rfl⟩
      obtain ⟨l0, hp⟩ := hp
      obtain ⟨a0, xs0, hv0, h0, _⟩ := (st1.cr s1' hp).lst s1'.frz
      subst hv0
      refine ⟨.inl ⟨rfl, _, .inl (.inl h0)⟩, F1', _, _, _, s1', e2, fun w F2 H2 s2 x2 o2 => ?_⟩
      obtain ⟨F2', s2', y2, st2⟩ := o2.settled s2
      cases x <;> cases y <;> simp only [idxV, reduceCtorEq] at eb
      rename_i l z
      simp only [Option.bind_eq_some_iff, Option.map_eq_some_iff] at eb
      obtain ⟨ss, es, i, hi, rfl⟩ := eb
      obtain ⟨f1, f2⟩ := findIdx_spec hi
      obtain ⟨a1, xs1, hv1, h1, r1⟩ := ((st1.mono (x2.trans y2).ff).cr s2' gx).lst s2'.frz
      cases hv1
      have := (st2.cr s2' gy).str
      subst this
      have := r1.strs es
      subst this
      refine ⟨a0, ss.map V.str, .str z, i, .str z, rfl, rfl, .inl (.inl h1), rfl, by simp [flatV], by rw [List.getElem?_map, f1]; rfl, by simp [L2.eqV], fun m z' hm hz => ?_, q _ F2' H2 s2' (x1.trans (y1.trans (x2.trans y2))) (.int _)⟩
      rw [List.getElem?_map] at hz
      obtain ⟨z2, hz2, rfl⟩ := Option.map_eq_some_iff.mp hz
      have hne : z2 ≠ z := fun e => f2 m hm (e ▸ hz2)
      simp [L2.eqV, hne]
    · cases e
theorem pe_cnt' {a b : Ex} {ea eb : Expr} {apos cpos : Pos} (ha : ∀ B : Bs Cg, PE X ea (tE X.K B (evE R a))) (hb : ∀ B : Bs Cg, PE X eb (tE X.K B (evE R b))) (hbase : attributeBase ea "count" X.env (eval ea X.env) = eval ea X.env) (hl : (apos.endLine == cpos.line) = true) (hs : noStar eb = true) :
    PE X (.Call (.Attribute ea "count" apos) [eb] [] cpos) (tE X.K B (evE R (.cnt a b))) :=
  (pe_bm PySem.F.plainAttrs_list PySem.F.slot_list_count PySem.F.type_list_count mt_lcount (ha B) (pa_cons (hb B) pa_nil (star_of hs _)) (hbase := hbase) (hfew := by rw [star_of hs]; rfl) (hline := hl) (hs := star_of hs _)).imp fun σ H Q ⟨F, env, r, env', s, e, q⟩ => by
    simp only [evE, Option.bind_eq_some_iff] at e
    obtain ⟨p, e1, p2, e2, x, gx, y, gy, d, eb, e⟩ := e
    split at e
    · rename_i hty
      cases e
      refine ⟨F, env, _, _, s, e1, fun v F1 H1 s1 x1 o1 => ?_⟩
      obtain ⟨F1', s1', y1, st1⟩ := o1.settled s1
      have hp : ∃ l, p.1.get p.2 = some (.lst l) := by
        cases hg : p.1.get p.2 with
        | none => rw [hg] at hty; cases hty
        | some z => cases z <;> rw [hg] at hty <;> first | (cases hty; done) | exact ⟨_, rfl⟩
      obtain ⟨l0, hp⟩ := hp
      obtain ⟨a0, xs0, hv0, h0, _⟩ := (st1.cr s1' hp).lst s1'.frz
      subst hv0
      refine ⟨.inl ⟨rfl, _, .inl (.inl h0)⟩, F1', _, _, _, s1', e2, fun w F2 H2 s2 x2 o2 => ?_⟩
      obtain ⟨F2', s2', y2, st2⟩ := o2.settled s2
      cases x <;> cases y <;> simp only [cntV, reduceCtorEq] at eb
      rename_i l z
      simp only [Option.map_eq_some_iff] at eb
      obtain ⟨ns, es, rfl⟩ := eb
      obtain ⟨a1, xs1, hv1, h1, r1⟩ := ((st1.mono (x2.trans y2).ff).cr s2' gx).lst s2'.frz
      cases hv1
      have := (st2.cr s2' gy).int
      subst this
      have := r1.ints es
      subst this
      exact ⟨a0, ns, z, rfl, rfl, .inl (.inl h1), q _ F2' H2 s2' (x1.trans (y1.trans (x2.trans y2))) (.int _)⟩
    · cases e

/-! ### isinstance, len(set(..)), x or y -/
def tiS : Ti → String | .bool => "bool" | .int => "int" | .str => "str" | .tuple => "tuple"
theorem ti_boot (t : Ti) : bootBuiltins (tiName t) = some (.type (tiS t)) := by cases t <;> decide +kernel
theorem ti_mem (t : Ti) : tiName t ∈ otNames := by cases t <;> decide
theorem isi_ty {K : PySem.W.Frag} {F H : Hp} (sm : Same F H) {v : V} {d : D} {t : Ti} {b : Bool} (c : Cr K F H v d) (e : isiV t d = some b) : ∃ y, TyX K H v (.type y) ∧ kitB y (tiS t) = some b := by
  cases d with
  | non =>
    have := c.non
    subst this
    cases t <;> cases e <;> exact ⟨"NoneType", .base .non, by decide +kernel⟩
  | bl x =>
    have := c.bl
    subst this
    cases t <;> cases e <;> exact ⟨"bool", .base (.bl x), by decide +kernel⟩
  | int x =>
    have := c.int
    subst this
    cases t <;> cases e <;> exact ⟨"int", .base (.int x), by decide +kernel⟩
  | str x =>
    have := c.str
    subst this
    cases t <;> cases e <;> exact ⟨"str", .base (.str x), by decide +kernel⟩
  | tup l =>
    obtain ⟨a, xs, rfl, h, _⟩ := c.tup sm
    cases t <;> cases e <;> exact ⟨"tuple", .base (.tup h), by decide +kernel⟩
  | lst l =>
    obtain ⟨a, xs, rfl, h, _⟩ := c.lst sm
    cases t <;> cases e <;> exact ⟨"list", .base (.lst h), by decide +kernel⟩
  | _ => cases t <;> cases e
theorem pe_isi' (g : Gd T N R X sc fb Cg) {t : Ti} {a : Ex} {ea : Expr} {p p2 pos : Pos} (ha : ∀ B : Bs Cg, PE X ea (tE X.K B (evE R a))) (h1 : glB sc "isinstance" = true) (h2 : glB sc (tiName t) = true) (hs : noStar ea = true) :
    PE X (.Call (.Name "isinstance" p) [ea, .Name (tiName t) p2] [] pos) (tE X.K B (evE R (.isi t a))) := by
  have hb : PE X (.Name (tiName t) p2) (tC (.ty (tiS t))) := pe_bltn (gl_of g h2) (g.ot _ (ti_mem t)) (ti_boot t) rfl (by cases t <;> decide) (by cases t <;> decide)
  have base := pe_callB (pos := pos) (p := p) (call_isi (X := X)) (gl_of g h1) (g.ot _ (by decide)) (by decide +kernel) (pa_cons (ha B) (pa_cons hb pa_nil) (star_of hs _)) (he := star_of hs _) (hpl := rfl)
  refine base.imp fun σ H Q ⟨F, env, r, env', s, e, q⟩ => ?_
  simp only [evE, Option.bind_eq_some_iff, Option.some.injEq, Prod.mk.injEq] at e
  obtain ⟨q1, e1, x, gx, b, eb, rfl, rfl⟩ := e
  refine ⟨F, env, _, _, s, e1, fun v F1 H1 s1 x1 o1 => ?_⟩
  obtain ⟨F1', s1', y1, st1⟩ := o1.settled s1
  obtain ⟨y, ty, kb⟩ := isi_ty s1'.frz (st1.cr s1' gx) eb
  exact ⟨v, _, _, _, b, rfl, .ty _, ty, kit_ty kb, q _ F1' H1 s1' (x1.trans y1) (.bl b)⟩
theorem dedI_met (ns : List Int) : PyProof.Rows.firstMet (fun i => ns.getD i 0) ns.length = dedI ns := by
  unfold PyProof.Rows.firstMet dedI
  congr 1
  refine List.ext_getElem (by simp) fun i h1 h2 => ?_
  rw [List.getElem_map, List.getElem_range, List.getD_eq_getElem?_getD, List.getElem?_eq_getElem h2]
  rfl
def tLenSetD (K : PySem.W.Frag) (ta : TE) : TE := fun σ H Q => ta σ H fun x H1 => ∃ (l : Addr) (ns : List Int), x = V.ref l ∧ SqL K H1 l (ns.map V.int) ∧ ns.length < 64 ∧ Q (.int (dedI ns).length) H1
theorem pe_lenSetD {X : Cx} {a : Expr} {ta : TE} {p p2 q pos : Pos} (hc : X.calm = true) (hg : Gl X "len") (hm : X.mg "len" = none) (hg2 : Gl X "set") (hm2 : X.mg "set" = none) (ha : PE X a ta)
    (na : starEach [a] X.env = (false, eval a X.env) :: starEach [] X.env) : PE X (.Call (.Name "len" p) [.Call (.Name "set" p2) [a] [] q] [] pos) (tLenSetD X.K ta) := by
  refine ⟨fun pins s σ H Q I h => ?_⟩
  refine Call_ (ld_blt I hg hm PySem.boot_len ?_)
  refine PyProof.Rows.callWith_builtin1 (PyProof.Rows.args_cons ?_ rfl) rfl rfl
  refine Call_ (ld_blt I hg2 hm2 PyProof.Rows.boot_set ?_)
  refine PyProof.Rows.callWith_type1 (PyProof.Rows.args_cons (thn (ha.run pins s σ H _ I h) fun v s1 ⟨x, H1, I1, r1, q1⟩ => PyProof.Rows.args_nil ?_) na) na rfl
  obtain ⟨l, ns, rfl, hq, h1, q1⟩ := q1
  cases r1
  obtain ⟨its, r, pl, hz⟩ := I1.list hq
  have hl : its.toArray.size = ns.length := by rw [List.size_toArray, ← r.length, List.length_map]
  refine call_set_list (I1.ok.hd hc) pl.isList (ns := ns) (by simpa using r.ints) (by unfold scanBound; omega) fun h' tk hS hk => ?_
  rw [hl, dedI_met] at hS
  have hle : (dedI ns).length ≤ ns.length := by rw [← dedI_met]; exact PyProof.Rows.firstMet_length_le _ _
  refine PyProof.Rows.args_nil ?_
  obtain ⟨o, es, ep, t, ho, hex, hd, _, _, _, hf, hn⟩ := hS
  have I2 : Inv X pins σ H1 { s1 with heap := h', toks := tk } := I1.kept fun b o e => hk b o (Heap.lt_size e) e
  refine call_len_set ho hex hd hf (by rw [hn] <;> omega) ⟨.int (dedI ns).length, H1, I2.tok _, ⟨_, by rw [hn]⟩, q1⟩
theorem pe_lset' (g : Gd T N R X sc fb Cg) {a : Ex} {ea : Expr} {p p2 q pos : Pos} (ha : ∀ B : Bs Cg, PE X ea (tE X.K B (evE R a))) (h1 : glB sc "len" = true) (h2 : glB sc "set" = true) (hs : noStar ea = true) :
    PE X (.Call (.Name "len" p) [.Call (.Name "set" p2) [ea] [] q] [] pos) (tE X.K B (evE R (.lset a))) :=
  (pe_lenSetD g.calm (gl_of g h1) (g.ot _ (by decide)) (gl_of g h2) (g.ot _ (by decide)) (ha B) (star_of hs _)).imp fun σ H Q ⟨F, env, r, env', s, e, q⟩ => by
    simp only [evE, Option.bind_eq_some_iff, Option.some.injEq, Prod.mk.injEq] at e
    obtain ⟨q1, e1, x, gx, d, eb, rfl, rfl⟩ := e
    refine ⟨F, env, _, _, s, e1, fun v F1 H1 s1 x1 o1 => ?_⟩
    obtain ⟨F1', s1', y1, st1⟩ := o1.settled s1
    cases x <;> simp only [lsetV, reduceCtorEq] at eb
    rename_i l
    simp only [Option.bind_eq_some_iff] at eb
    obtain ⟨ns, en, eb⟩ := eb
    split at eb
    · rename_i hl
      cases eb
      obtain ⟨b, xs, rfl, h1, r1⟩ := (st1.cr s1' gx).lst s1'.frz
      have := r1.ints en
      subst this
      exact ⟨b, ns, rfl, .inl (.inl h1), hl, q _ F1' H1 s1' (x1.trans y1) (.int _)⟩
    · cases eb
theorem pe_orV' {a b : Ex} {ea eb : Expr} {pos : Pos} (ha : ∀ B : Bs Cg, PE X ea (tE X.K B (evE R a))) (hb : ∀ B : Bs Cg, PE X eb (tE X.K B (evE R b))) : PE X (.BoolOp .Or [ea, eb] pos) (tE X.K B (evE R (.orV a b))) :=
  (pe_orT (ha B) (pe_one (hb B))).imp fun σ H Q ⟨F, env, r, env', s, e, q⟩ => by
    simp only [evE, Option.bind_eq_some_iff] at e
    obtain ⟨⟨r1, env1⟩, e1, e⟩ := e
    split at e
    · rename_i h
      have h' : r1 = .sh .non := h
      subst h'
      simp only [Option.bind_eq_some_iff] at e
      obtain ⟨⟨r2, env2⟩, e2, e⟩ := e
      split at e
      · rename_i l h2
        have h2' : r2 = .sh (.tup l) := h2
        subst h2'
        cases e
        refine ⟨F, env, _, _, s, e1, fun v F1 H1 s1 x1 o1 => ?_⟩
        cases o1
        exact ⟨false, rfl, iteF ⟨F1, env1, _, _, s1, e2, fun v' F2 H2 s2 x2 o2 => q v' F2 H2 s2 (x1.trans x2) o2⟩⟩
      · cases e
    · rename_i d l h
      have h' : r1 = .sh (.tup (d :: l)) := h
      subst h'
      cases e
      refine ⟨F, env, _, _, s, e1, fun v F1 H1 s1 x1 o1 => ?_⟩
      have o2 : Rp X.K F1 v (.tup (d :: l)) := o1
      cases o2 with
      | tup ha rl =>
        rename_i xs
        refine ⟨true, .inr (.inl ⟨xs, .inl (.inl (s1.frz _ _ ha)), ?_⟩), iteT (q _ F1 H1 s1 x1 o1)⟩
        cases rl
        rfl
    · cases e
theorem pt_orV' {a b : Ex} {e : Expr} : PT X e (tT X.K B (evE R (.orV a b))) := ⟨fun pins s σ H Q I ⟨F, env, c, env', sr, ev, q⟩ => by
  exfalso
  simp only [evE, Option.bind_eq_some_iff] at ev
  obtain ⟨⟨r1, env1⟩, e1, ev⟩ := ev
  split at ev
  · simp only [Option.bind_eq_some_iff] at ev
    obtain ⟨⟨r2, env2⟩, e2, ev⟩ := ev
    split at ev <;> cases ev
  · cases ev
  · cases ev⟩

/-! ### tests -/
theorem pt_not' {a : Ex} {ea : Expr} {pos : Pos} (ha : ∀ B : Bs Cg, PT X ea (tT X.K B (evE R a))) : PT X (.UnaryOp .Not ea pos) (tT X.K B (evE R (.not a))) :=
  (pt_not (ha B)).imp fun σ H Q ⟨F, env, b, env', s, e, q⟩ => by
    simp only [evE, Option.bind_eq_some_iff] at e
    obtain ⟨⟨r1, env1⟩, e1, e⟩ := e
    split at e
    · rename_i c h
      have h' : r1 = .sh (.bl c) := h
      subst h'
      cases e
      exact ⟨F, env, c, env1, s, e1, fun F1 H1 s1 x1 => q F1 H1 s1 x1⟩
    · cases e
theorem pe_not' {a : Ex} {ea : Expr} {pos : Pos} (ha : ∀ B : Bs Cg, PE X ea (tE X.K B (evE R a))) : PE X (.UnaryOp .Not ea pos) (tE X.K B (evE R (.not a))) :=
  (pe_not (ha B)).imp fun σ H Q ⟨F, env, b, env', s, e, q⟩ => by
    simp only [evE, Option.bind_eq_some_iff] at e
    obtain ⟨⟨r1, env1⟩, e1, e⟩ := e
    split at e
    · rename_i c h
      have h' : r1 = .sh (.bl c) := h
      subst h'
      cases e
      refine ⟨F, env, _, env1, s, e1, fun v F1 H1 s1 x1 o => ?_⟩
      cases o
      exact ⟨c, rfl, q _ F1 H1 s1 x1 (.bl _)⟩
    · cases e
/-- and, or of several -/
theorem pw_and1' {a : Ex} {ea : Expr} {pos : Pos} (ha : ∀ B : Bs Cg, PT X ea (tT X.K B (evE R a))) : PW X (.BoolOp .And [ea] pos) (tT X.K B (evAnd R (.cons a .nil))) :=
  ⟨fun wh pins s σ H Q I ⟨F, env, b, env', sr, e, q⟩ => (pw_and1 (ha B)).run wh pins s σ H Q I (by
    simp only [evAnd, Option.bind_eq_some_iff] at e
    obtain ⟨⟨r1, env1⟩, e1, e⟩ := e
    split at e
    · rename_i c h
      have h' : r1 = .sh (.bl c) := h
      subst h'
      cases e
      exact ⟨F, env, _, _, sr, e1, q⟩
    · cases e)⟩
theorem pw_or1' {a : Ex} {ea : Expr} {pos : Pos} (ha : ∀ B : Bs Cg, PT X ea (tT X.K B (evE R a))) : PW X (.BoolOp .Or [ea] pos) (tT X.K B (evOr R (.cons a .nil))) :=
  ⟨fun wh pins s σ H Q I ⟨F, env, b, env', sr, e, q⟩ => (pw_or1 (ha B)).run wh pins s σ H Q I (by
    simp only [evOr, Option.bind_eq_some_iff] at e
    obtain ⟨⟨r1, env1⟩, e1, e⟩ := e
    split at e
    · rename_i c h
      have h' : r1 = .sh (.bl c) := h
      subst h'
      cases e
      exact ⟨F, env, _, _, sr, e1, q⟩
    · cases e)⟩
theorem pw_and' {a b : Ex} {bs : Exs} {ea eb : Expr} {es : List Expr} {pos : Pos} (ha : ∀ B : Bs Cg, PT X ea (tT X.K B (evE R a))) (hb : ∀ B : Bs Cg, PW X (.BoolOp .And (eb :: es) pos) (tT X.K B (evAnd R (.cons b bs)))) : PW X (.BoolOp .And (ea :: eb :: es) pos) (tT X.K B (evAnd R (.cons a (.cons b bs)))) :=
  ⟨fun wh pins s σ H Q I ⟨F, env, k, env', sr, e, q⟩ => (pw_and (ha B) (hb B)).run wh pins s σ H Q I (by
    simp only [evAnd, Option.bind_eq_some_iff] at e
    obtain ⟨⟨r1, env1⟩, e1, e⟩ := e
    split at e
    · rename_i h
      have h' : r1 = .sh (.bl true) := h
      subst h'
      exact ⟨F, env, true, env1, sr, e1, fun F1 H1 s1 x1 => iteT ⟨F1, env1, k, env', s1, e, fun F' H' s' x => q F' H' s' (x1.trans x)⟩⟩
    · rename_i h
      have h' : r1 = .sh (.bl false) := h
      subst h'
      cases e
      exact ⟨F, env, false, env1, sr, e1, fun F1 H1 s1 x1 => iteF (q F1 H1 s1 x1)⟩
    · cases e)⟩
theorem pw_or' {a b : Ex} {bs : Exs} {ea eb : Expr} {es : List Expr} {pos : Pos} (ha : ∀ B : Bs Cg, PT X ea (tT X.K B (evE R a))) (hb : ∀ B : Bs Cg, PW X (.BoolOp .Or (eb :: es) pos) (tT X.K B (evOr R (.cons b bs)))) : PW X (.BoolOp .Or (ea :: eb :: es) pos) (tT X.K B (evOr R (.cons a (.cons b bs)))) :=
  ⟨fun wh pins s σ H Q I ⟨F, env, k, env', sr, e, q⟩ => (pw_or (ha B) (hb B)).run wh pins s σ H Q I (by
    simp only [evOr, Option.bind_eq_some_iff] at e
    obtain ⟨⟨r1, env1⟩, e1, e⟩ := e
    split at e
    · rename_i h
      have h' : r1 = .sh (.bl false) := h
      subst h'
      exact ⟨F, env, false, env1, sr, e1, fun F1 H1 s1 x1 => iteF ⟨F1, env1, k, env', s1, e, fun F' H' s' x => q F' H' s' (x1.trans x)⟩⟩
    · rename_i h
      have h' : r1 = .sh (.bl true) := h
      subst h'
      cases e
      exact ⟨F, env, true, env1, sr, e1, fun F1 H1 s1 x1 => iteT (q F1 H1 s1 x1)⟩
    · cases e)⟩
theorem pe_and1' {op : BoolOp} {a : Ex} {ea : Expr} {pos : Pos} {f : En → Option (Rv × En)} (ha : ∀ B : Bs Cg, PE X ea (tE X.K B (evE R a))) (hf : ∀ env, f env = (evE R a env).bind fun p => match p.1 with | .sh (.bl b) => some (.sh (.bl b), p.2) | _ => none) : PE X (.BoolOp op [ea] pos) (tE X.K B f) :=
  (pe_one (ha B)).imp fun σ H Q ⟨F, env, r, env', sr, e, q⟩ => by
    rw [hf, Option.bind_eq_some_iff] at e
    obtain ⟨⟨r1, env1⟩, e1, e⟩ := e
    split at e
    · rename_i c h
      have h' : r1 = .sh (.bl c) := h
      subst h'
      cases e
      exact ⟨F, env, _, _, sr, e1, q⟩
    · cases e
theorem pe_and' {a b : Ex} {bs : Exs} {ea eb : Expr} {es : List Expr} {pos : Pos} (ha : ∀ B : Bs Cg, PE X ea (tE X.K B (evE R a))) (hb : ∀ B : Bs Cg, PE X (.BoolOp .And (eb :: es) pos) (tE X.K B (evAnd R (.cons b bs)))) : PE X (.BoolOp .And (ea :: eb :: es) pos) (tE X.K B (evAnd R (.cons a (.cons b bs)))) :=
  (pe_and (ha B) (hb B)).imp fun σ H Q ⟨F, env, r, env', sr, e, q⟩ => by
    simp only [evAnd, Option.bind_eq_some_iff] at e
    obtain ⟨⟨r1, env1⟩, e1, e⟩ := e
    split at e
    · rename_i h
      have h' : r1 = .sh (.bl true) := h
      subst h'
      refine ⟨F, env, _, env1, sr, e1, fun v F1 H1 s1 x1 o => ?_⟩
      cases o
      exact ⟨true, rfl, iteT ⟨F1, env1, r, env', s1, e, fun v F' H' s' x o => q v F' H' s' (x1.trans x) o⟩⟩
    · rename_i h
      have h' : r1 = .sh (.bl false) := h
      subst h'
      cases e
      refine ⟨F, env, _, env1, sr, e1, fun v F1 H1 s1 x1 o => ?_⟩
      cases o
      exact ⟨false, rfl, iteF (q _ F1 H1 s1 x1 (.bl false))⟩
    · cases e
theorem pe_or' {a b : Ex} {bs : Exs} {ea eb : Expr} {es : List Expr} {pos : Pos} (ha : ∀ B : Bs Cg, PE X ea (tE X.K B (evE R a))) (hb : ∀ B : Bs Cg, PE X (.BoolOp .Or (eb :: es) pos) (tE X.K B (evOr R (.cons b bs)))) : PE X (.BoolOp .Or (ea :: eb :: es) pos) (tE X.K B (evOr R (.cons a (.cons b bs)))) :=
  (pe_or (ha B) (hb B)).imp fun σ H Q ⟨F, env, r, env', sr, e, q⟩ => by
    simp only [evOr, Option.bind_eq_some_iff] at e
    obtain ⟨⟨r1, env1⟩, e1, e⟩ := e
    split at e
    · rename_i h
      have h' : r1 = .sh (.bl false) := h
      subst h'
      refine ⟨F, env, _, env1, sr, e1, fun v F1 H1 s1 x1 o => ?_⟩
      cases o
      exact ⟨false, rfl, iteF ⟨F1, env1, r, env', s1, e, fun v F' H' s' x o => q v F' H' s' (x1.trans x) o⟩⟩
    · rename_i h
      have h' : r1 = .sh (.bl true) := h
      subst h'
      cases e
      refine ⟨F, env, _, env1, sr, e1, fun v F1 H1 s1 x1 o => ?_⟩
      cases o
      exact ⟨true, rfl, iteT (q _ F1 H1 s1 x1 (.bl true))⟩
    · cases e
end
end Ts

set_option linter.all false
set_option autoImplicit false
set_option maxRecDepth 100000
/-! Targets, what is walked, comprehensions. -/
namespace Ts
open PySem PySem.Spec PyProof.Rows L2

/-! ### wiping -/
theorem wipe_get (σ : L2.St) (i : Nat) : ∀ vs : List Nat, (wipe σ vs)[i]? = if i < σ.length then (if i ∈ vs then some none else σ[i]?) else none
  | [] => by
    unfold wipe
    split
    · simp
    · rename_i h; exact List.getElem?_eq_none (by omega)
  | v :: vs => by
    unfold wipe
    rw [List.getElem?_set, wipe_get σ i vs, wipe_length]
    by_cases h1 : v = i
    · subst h1
      by_cases h2 : v < σ.length <;> simp [h2]
    · have h1' : ¬ i = v := fun e => h1 e.symm
      simp [h1, h1']
theorem wipe_set {σ : L2.St} {i : Nat} {x : Option V} {vs : List Nat} (h : i ∈ vs) : wipe (σ.set i x) vs = wipe σ vs := by
  apply List.ext_getElem?
  intro j
  rw [wipe_get, wipe_get, List.length_set]
  split
  · split
    · rfl
    · rename_i h1 h2
      rw [List.getElem?_set_ne (fun (e : i = j) => h2 (by rw [← e]; exact h))]
  · rfl
theorem wipe_wipe (σ : L2.St) (vs : List Nat) : wipe (wipe σ vs) vs = wipe σ vs := by
  apply List.ext_getElem?
  intro j
  rw [wipe_get (wipe σ vs) j, wipe_length, wipe_get σ j]
  split
  · split
    · rfl
    · rfl
  · rfl
theorem wipeE_get (env : En) (i : Nat) : ∀ vs : List Nat, (wipeE env vs)[i]? = if i < env.length then (if i ∈ vs then some .u else env[i]?) else none
  | [] => by
    unfold wipeE
    split
    · simp
    · rename_i h; exact List.getElem?_eq_none (by omega)
  | v :: vs => by
    unfold wipeE
    rw [List.getElem?_set, wipeE_get env i vs]
    have hl : ∀ ws : List Nat, (wipeE env ws).length = env.length := fun ws => by
      induction ws with
      | nil => rfl
      | cons w ws ih => unfold wipeE; rw [List.length_set, ih]
    rw [hl]
    by_cases h1 : v = i
    · subst h1
      by_cases h2 : v < env.length <;> simp [h2]
    · have h1' : ¬ i = v := fun e => h1 e.symm
      simp [h1, h1']
theorem wipeE_length (env : En) (ws : List Nat) : (wipeE env ws).length = env.length := by
  induction ws with
  | nil => rfl
  | cons w ws ih => unfold wipeE; rw [List.length_set, ih]
theorem SR.wipeBoth {K : PySem.W.Frag} {Cg : Cfg} {B : Bs Cg} {F H : Hp} {σ : L2.St} {env : En} (s : SR K B F H σ env) (vs : List Nat) : SR K B F H (L2.wipe σ vs) (wipeE env vs) := by
  have key : ∀ (i : Nat) (sl : Sl), (wipeE env vs)[i]? = some sl → sl = .u ∨ (env[i]? = some sl ∧ (L2.wipe σ vs)[i]? = σ[i]?) := fun i sl h => by
    rw [wipeE_get] at h
    split at h
    · rename_i h1
      split at h
      · cases h; exact .inl rfl
      · rename_i h2
        refine .inr ⟨h, ?_⟩
        rw [wipe_get, if_pos (by rw [← s.len]; exact h1), if_neg h2]
    · cases h
  refine ⟨by rw [wipeE_length, wipe_length]; exact s.len, s.bas, s.frz, s.dis, fun i sl h => ?_, fun i j d e p h1 h2 e1 e2 => ?_, s.nb, s.nf, s.tab⟩
  · rcases key i sl h with rfl | ⟨h1, h2⟩
    · trivial
    · have q := s.slot i sl h1
      cases sl with
      | u => trivial
      | sh d => obtain ⟨v, e, r⟩ := q; exact ⟨v, by rw [h2]; exact e, r⟩
      | ow d => obtain ⟨v, e, r⟩ := q; exact ⟨v, by rw [h2]; exact e, r⟩
      | nw ls => obtain ⟨v, e, r⟩ := q; exact ⟨v, by rw [h2]; exact e, r⟩
  · rcases key i _ h1 with z | ⟨a1, a2⟩
    · cases z
    · rcases key j _ h2 with z | ⟨b1, b2⟩
      · cases z
      · exact s.inj i j d e p a1 b1 (a2 ▸ e1) (b2 ▸ e2)

/-! ### no slot has something of its own -/
structure NoOw (env : En) : Prop where
  ow : ∀ (i : Nat) (d : D), env[i]? ≠ some (Sl.ow d)
  nw : ∀ (i : Nat) (ls : List D), env[i]? ≠ some (Sl.nw ls)
instance {env : En} : CoeFun (NoOw env) fun _ => ∀ (i : Nat) (d : D), env[i]? ≠ some (Sl.ow d) := ⟨NoOw.ow⟩
def hideS : Sl → Sl | .ow _ => .u | .nw _ => .u | s => s
theorem hide_get (env : En) (i : Nat) : (hide env)[i]? = (env[i]?).map hideS := by
  unfold hide
  rw [List.getElem?_map]
  congr 1
  try (funext s; cases s <;> rfl)
theorem hide_no (env : En) : NoOw (hide env) := by
  constructor <;> intro i d h <;> rw [hide_get] at h <;> obtain ⟨s, _, e⟩ := Option.map_eq_some_iff.mp h <;> cases s <;> cases e
theorem wipe_no {env : En} (h : NoOw env) (vs : List Nat) : NoOw (wipeE env vs) := by
  constructor
  · intro i d e
    rw [wipeE_get] at e
    split at e
    · split at e
      · cases e
      · exact h.ow i d e
    · cases e
  · intro i d e
    rw [wipeE_get] at e
    split at e
    · split at e
      · cases e
      · exact h.nw i d e
    · cases e
theorem set_no {env : En} (h : NoOw env) (i : Nat) (d : D) : NoOw (env.set i (.sh d)) := by
  constructor
  · intro j e z
    rw [get_set] at z
    split at z
    · split at z <;> cases z
    · exact h.ow j e z
  · intro j e z
    rw [get_set] at z
    split at z
    · split at z <;> cases z
    · exact h.nw j e z
theorem asgs_no : ∀ {is : List Nat} {ds : List D} {env env' : En}, NoOw env → asgs env is ds = some env' → NoOw env'
  | [], [], env, env', h, e => by simp only [asgs, Option.some.injEq] at e; rw [← e]; exact h
  | i :: is, d :: ds, env, env', h, e => by
    simp only [asgs] at e
    split at e
    · exact asgs_no (set_no h i d) e
    · cases e
  | [], _ :: _, _, _, _, e => by simp [asgs] at e
  | _ :: _, [], _, _, _, e => by simp [asgs] at e
theorem asgP_no {p : Pt} {d : D} {env env' : En} (h : NoOw env) (e : asgP env p d = some env') : NoOw env' := by
  unfold asgP at e
  split at e
  · split at e
    · cases e; exact set_no h _ _
    · cases e
  · exact asgs_no h e
  · exact asgs_no h e
  · cases e
section
variable {K : PySem.W.Frag} {Cg : Cfg} {B : Bs Cg} {F H : Hp} {σ : L2.St} {env : En}
theorem SR.hid (s : SR K B F H σ env) : SR K B F H σ (hide env) := by
  refine ⟨by unfold hide; rw [List.length_map]; exact s.len, s.bas, s.frz, s.dis, fun i sl h => ?_, fun i j d e p h1 => absurd h1 ((hide_no env).ow i d), s.nb, s.nf, s.tab⟩
  rw [hide_get] at h
  obtain ⟨s', h1, e⟩ := Option.map_eq_some_iff.mp h
  cases s' with
  | u => cases e; trivial
  | sh d => cases e; exact s.slot i _ h1
  | ow d => cases e; trivial
  | nw ls => cases e; trivial
/-- all that is not shared stays -/
def apart (ts : List Addr) (F H : Hp) : Hp := fun b => match F b with | none => (match H b with | some (.tbl ps) => if b ∈ ts then none else some (.tbl ps) | x => x) | some _ => none
theorem apart_some {ts : List Addr} {b : Addr} {o : HO} (h : apart ts F H b = some o) : F b = none ∧ H b = some o ∧ Kp ts b o := by
  unfold apart at h
  split at h
  · rename_i f
    split at h
    · rename_i ps e
      split at h
      · cases h
      · rename_i hb
        cases h
        exact ⟨f, e, hb⟩
    · rename_i x n
      rw [h] at n
      refine ⟨f, h, ?_⟩
      cases o <;> first | trivial | exact absurd rfl (n _)
  · cases h
theorem apart_of {ts : List Addr} {b : Addr} {o : HO} (h : H b = some o) (n : Kp ts b o) (f : F b = none) : apart ts F H b = some o := by
  unfold apart
  rw [f, h]
  cases o <;> first | rfl | exact if_neg n
theorem apart_nt {ts : List Addr} : KpA ts (apart ts F H) := fun b o h => (apart_some h).2.2
theorem SR.apart (s : SR K B F H σ env) (n : NoOw env) : SR K (Bs.mk (C := Cg) (apart Cg.ts F H)) F H σ env := by
  refine ⟨s.len, fun b o h => (apart_some h).2.1, s.frz, fun b o h => (apart_some h).1, fun i sl h => ?_, s.inj, apart_nt, s.nf, s.tab⟩
  cases sl with
  | u => trivial
  | sh d => exact s.sh h
  | ow d => exact absurd h (n.ow i d)
  | nw ls => exact absurd h (n.nw i ls)
/-- .. through what has been done since -/
theorem SR.since {F' H' : Hp} {σ' : L2.St} {env' : En} (s : SR K (Bs.mk (C := Cg) (Ts.apart Cg.ts F H)) F' H' σ' env') (f0 : Same F H) (x : Same F F') : SameN Cg.ts H H' ∧ NewF Cg.ts H F F' := by
  refine ⟨fun b o h n => ?_, fun b o h n f => s.dis b o (apart_of h n f)⟩
  cases f : F b with
  | none => exact s.bas b o (apart_of h n f)
  | some u =>
    have := f0 b u f
    rw [h] at this; cases this
    exact s.frz _ _ (x _ _ f)
theorem frz_ok (s : SR K B F H σ env) : ∀ is : List Nat, ∃ F', SR K B F' H σ (Ts.frz env is) ∧ Same F F' ∧ FrzP F F'
  | [] => ⟨F, s, .refl _, .refl⟩
  | i :: is => by
    obtain ⟨F1, s1, x1, n1⟩ := frz_ok s is
    unfold Ts.frz
    cases h : (Ts.frz env is)[i]? with
    | none =>
      rw [List.modify_eq_self (by simpa using h)]
      exact ⟨F1, s1, x1, n1⟩
    | some sl =>
      have hm : (Ts.frz env is).modify i frzS = (Ts.frz env is).set i (frzS sl) := by
        apply List.ext_getElem?
        intro j
        rw [List.getElem?_modify, get_set]
        split
        · rename_i e; subst e; rw [h, if_pos (lt_of_get h)]; rfl
        · simp
      have self : (Ts.frz env is).set i sl = Ts.frz env is := by
        apply List.ext_getElem?
        intro j
        rw [get_set]
        split
        · rename_i e; subst e; rw [h, if_pos (lt_of_get h)]
        · rfl
      rw [hm]
      cases sl with
      | u => rw [show frzS .u = .u from rfl, self]; exact ⟨F1, s1, x1, n1⟩
      | sh d => rw [show frzS (.sh d) = .sh d from rfl, self]; exact ⟨F1, s1, x1, n1⟩
      | nw d => rw [show frzS (.nw d) = .nw d from rfl, self]; exact ⟨F1, s1, x1, n1⟩
      | ow d =>
        obtain ⟨F2, p, _, _, s2, x2, n2⟩ := s1.freeze h
        exact ⟨F2, s2, x1.trans x2.ff, n1.trans x1 n2⟩
theorem frz_none {env : En} : ∀ {is : List Nat}, anyOw env is = false → Ts.frz env is = env
  | [], _ => rfl
  | i :: is, h => by
    unfold anyOw at h
    rw [List.any_cons, Bool.or_eq_false_iff] at h
    have ih := frz_none (env := env) (is := is) h.2
    unfold Ts.frz
    rw [ih]
    apply List.ext_getElem?
    intro j
    rw [List.getElem?_modify]
    split
    · rename_i e
      subst e
      cases q : env[i]? with
      | none => rfl
      | some sl =>
        cases sl with
        | u => rfl
        | sh d => rfl
        | nw d => rfl
        | ow d =>
          have := h.1
          rw [q] at this
          cases this
    · simp

/-! ### targets -/
def tP (K : PySem.W.Frag) (Cg : Cfg) (f : D → En → Option En) (vs : List Nat) : TG := fun v σ H Q => ∃ (B : Bs Cg) (F : Hp) (env : En) (d : D) (env' : En), SR K B F H σ env ∧ Rp K F v d ∧ f d env = some env' ∧ ∀ σ', SR K B F H σ' env' → L2.wipe σ' vs = L2.wipe σ vs → σ'.length = σ.length → Q σ' H
end
section
variable {T : Tb} {N : List Str} {R : Run} {X : Cx} {sc : Scope} {fb : Str → Bool} {Cg : Cfg}
theorem st_of (g : Gd T N R X sc fb Cg) {x : Str} (h : stOkB sc fb x = true) : L2.Loc X.env.scope x ∧ (X.fn x = true ∨ X.env.scope.names.lookup x = some .local) := by
  unfold stOkB at h
  rw [Bool.and_eq_true, Bool.or_eq_true] at h
  refine ⟨loc_of g h.1, ?_⟩
  rcases h.2 with h | h
  · exact .inl (g.fn x h)
  · exact .inr (just_of g h)
theorem pg_v (g : Gd T N R X sc fb Cg) {i : Nat} {x : Str} {pos : Pos} (h1 : N[i]? = some x) (h2 : stOkB sc fb x = true) {vs : List Nat} (hv : i ∈ vs) : PG X (.Name x pos) (tP X.K Cg (fun d env => asgP env (.v i) d) vs) := by
  obtain ⟨l1, l2⟩ := st_of g h2
  have base : PG X (.Name x pos) (gName i) := pg_name (by rw [g.hN]; exact g.nd) (by rw [g.hN]; exact h1) l1 l2
  refine ⟨fun pins s σ H v u Q I r ⟨B, F, env, d, env', sr, rp, e, q⟩ => base.run pins s σ H v u Q I r ?_⟩
  simp only [asgP] at e
  split at e
  · rename_i hi
    cases e
    have hl : i < σ.length := by rw [← sr.len]; exact hi
    refine q _ (sr.storeS hi ⟨v, by rw [getσ, if_pos rfl, if_pos hl], rp⟩ fun d z => nomatch z) (wipe_set hv) (by simp)
  · cases e
theorem assign_len (env : Env) : ∀ {is : List Nat} {es : List Expr}, ptOk.tsOk N sc fb is es = true → (assignEach es env).length = is.length ∧ (assignEach es env).findIdx? (·.1) = none
  | [], [], _ => ⟨rfl, rfl⟩
  | i :: is, e :: es, h => by
    cases e <;> simp only [ptOk.tsOk, Bool.and_eq_true, Bool.false_eq_true] at h
    obtain ⟨h1, h2⟩ := assign_len env h.2
    refine ⟨by show (assignEach es env).length + 1 = is.length + 1; rw [h1], ?_⟩
    show ((false, _) :: assignEach es env).findIdx? (·.1) = none
    rw [List.findIdx?_cons, h2]
    rfl
  | [], _ :: _, h => by simp [ptOk.tsOk] at h
  | _ :: _, [], h => by simp [ptOk.tsOk] at h
def tPs (K : PySem.W.Frag) (Cg : Cfg) (is : List Nat) (vs : List Nat) : TGs := fun ws σ H Q => ∃ (B : Bs Cg) (F : Hp) (env : En) (ds : List D) (env' : En), SR K B F H σ env ∧ RpL K F ws ds ∧ asgs env is ds = some env' ∧ ∀ σ', SR K B F H σ' env' → L2.wipe σ' vs = L2.wipe σ vs → σ'.length = σ.length → Q σ' H
theorem pg_vs (g : Gd T N R X sc fb Cg) {vs : List Nat} : ∀ {is : List Nat} {es : List Expr}, ptOk.tsOk N sc fb is es = true → (∀ i ∈ is, i ∈ vs) → PGs X es (tPs X.K Cg is vs)
  | [], [], _, _ => ⟨fun pins s σ H ws us Q I r ⟨B, F, env, ds, env', sr, rp, e, q⟩ => by
      cases rp with
      | nil =>
        simp only [asgs, Option.some.injEq] at e
        subst e
        exact pgs_nil.run pins s σ H _ us Q I r ⟨rfl, q σ sr rfl rfl⟩
      | cons _ _ => simp [asgs] at e⟩
  | i :: is, e :: es, h, hv => by
    cases e <;> simp only [ptOk.tsOk, Bool.and_eq_true, Bool.false_eq_true, decide_eq_true_eq] at h
    rename_i x px
    have h1 := pg_v g (pos := px) h.1.1 h.1.2 (vs := vs) (hv i (List.mem_cons_self ..))
    have h2 := pg_vs g (vs := vs) h.2 fun j hj => hv j (List.mem_cons_of_mem _ hj)
    refine ⟨fun pins s σ H ws us Q I r ⟨B, F, env, ds, env', sr, rp, e, q⟩ => ?_⟩
    cases rp with
    | nil => simp [asgs] at e
    | cons rv rt =>
      simp only [asgs] at e
      split at e
      · rename_i hi
        refine (pgs_cons h1 h2).run pins s σ H _ us Q I r ⟨_, _, rfl, B, F, env, _, _, sr, rv, by simp only [asgP]; rw [if_pos hi], fun σ1 s1 w1 l1 => ⟨B, F, _, _, _, s1, rt, e, fun σ2 s2 w2 l2 => q σ2 s2 (w2.trans w1) (l2.trans l1)⟩⟩
      · cases e
  | [], _ :: _, h, _ => by simp [ptOk.tsOk] at h
  | _ :: _, [], h, _ => by simp [ptOk.tsOk] at h
theorem pg_p (g : Gd T N R X sc fb Cg) {p : Pt} {e : Expr} {vs : List Nat} (h : ptOk N sc fb p e = true) (hv : ptIn vs p = true) : PG X e (tP X.K Cg (fun d env => asgP env p d) vs) := by
  cases p with
  | v i =>
    cases e <;> simp only [ptOk, Bool.and_eq_true, Bool.false_eq_true, decide_eq_true_eq] at h
    exact pg_v g h.1 h.2 (by simpa [ptIn] using hv)
  | t is =>
    cases e <;> simp only [ptOk, Bool.false_eq_true] at h
    rename_i es k pos
    obtain ⟨h1, h2⟩ := assign_len X.env h
    have base := pg_tup (k := k) (pos := pos) g.calm (pg_vs g (vs := vs) h (fun i hi => by simpa using List.all_eq_true.mp hv i hi)) h1 h2
    have baseL := pg_unl (k := k) (pos := pos) g.calm (pg_vs g (vs := vs) h (fun i hi => by simpa using List.all_eq_true.mp hv i hi)) h1 h2
    refine ⟨fun pins s σ H v u Q I r ⟨B, F, env, d, env', sr, rp, e, q⟩ => ?_⟩
    have len : ∀ {is : List Nat} {l : List D} {env env' : En}, asgs env is l = some env' → l.length = is.length := by
      intro is
      induction is with
      | nil => intro l env env' e; cases l <;> simp [asgs] at e ⊢
      | cons i is ih =>
        intro l env env' e
        cases l with
        | nil => simp [asgs] at e
        | cons d l =>
          simp only [asgs] at e
          split at e
          · simp [ih e]
          · cases e
    cases d with
    | tup l =>
      simp only [asgP] at e
      cases rp with
      | tup ha rl =>
        refine base.run pins s σ H _ u Q I r ⟨_, _, rfl, .inl (.inl (sr.frz _ _ ha)), ?_, B, F, env, l, env', sr, rl, e, q⟩
        rw [rl.length]
        exact len e
    | lst l =>
      simp only [asgP] at e
      cases rp with
      | lst ha rl =>
        refine baseL.run pins s σ H _ u Q I r ⟨_, _, rfl, .inl (.inl (sr.frz _ _ ha)), ?_, B, F, env, l, env', sr, rl, e, q⟩
        rw [rl.length]
        exact len e
    | _ => simp [asgP] at e
end
end Ts

set_option linter.all false
set_option autoImplicit false
set_option maxRecDepth 100000
/-! What is walked, comprehensions. -/
namespace Ts
open PySem PySem.Spec PyProof.Rows L2

/-- J yields the items ds -/
def Wk (K : PySem.W.Frag) (J : It) (F : Hp) (ds : List D) : Prop := ∀ (i : Nat) (F2 H : Hp), Same F F2 → Same F2 H →
  (∀ d, ds[i]? = some d → J.go i H ∧ ∀ x H', J.yld i H x H' → Res K F2 H (.sh d) x H') ∧ (ds.length ≤ i → J.stop i H)
theorem Wk.mono {K : PySem.W.Frag} {J : It} {F F' : Hp} {ds : List D} (w : Wk K J F ds) (s : Same F F') : Wk K J F' ds := fun i F2 H a b => w i F2 H (s.trans a) b
def tI (K : PySem.W.Frag) {Cg : Cfg} (B : Bs Cg) (f : En → Option (List D × En)) : TI := fun σ H R => ∃ F env ds env', SR K B F H σ env ∧ f env = some (ds, env') ∧ ∀ J F' H', SR K B F' H' σ env' → Ext F F' → Wk K J F' ds → R J H'
theorem _root_.L2.PI.imp {X : Cx} {tg e : Expr} {t t' : TI} (h : PI X tg e t) (i : ∀ σ H Q, t' σ H Q → t σ H Q) : PI X tg e t' := ⟨fun pins s σ H Q I q => h.run pins s σ H Q I (i σ H Q q)⟩

section
variable {T : Tb} {N : List Str} {R : Run} {X : Cx} {sc : Scope} {fb : Str → Bool} {Cg : Cfg} {B : Bs Cg} {tg : Expr}
/-- a list or a tuple -/
def iSeq (K : PySem.W.Frag) (tl : TE) : TI := fun σ H R => tl σ H fun x H1 => ∃ a, x = .ref a ∧ ((∃ xs, H1 a = some (.lst xs)) ∧ R (Itl K a) H1 ∨ (∃ xs, Rd H1 a (.tup xs)) ∧ R (Itt K a) H1)
theorem pi_seq {l : Expr} {tl : TE} (hl : PE X l tl) : PI X tg l (iSeq X.K tl) := by
  refine ⟨fun pins s σ H R I h => ?_⟩
  refine thn (hl.run pins s σ H _ I h) fun v s1 ⟨x, H1, I1, r1, q1⟩ => ?_
  obtain ⟨a, e, q⟩ := q1
  subst e
  cases r1
  rcases q with ⟨⟨xs, hq⟩, q⟩ | ⟨⟨xs, hq⟩, q⟩
  · obtain ⟨its, rv, p, hz⟩ := I1.list (.inl (.inl hq) : SqL X.K H1 a xs)
    refine wpAny_pyIter_list p.isList ?_
    refine ⟨s1.heap.objs.size, [s1.heap.objs.size], _, _, H1, rfl, I1.kept (t' := s1.toks) fun b o e => Heap.get?_push_of_some _ e, turn_list a _, ⟨_, Heap.get?_push_size _ rfl, rfl, rfl⟩, fun b hb => ?_, q⟩
    have e : b = s1.heap.objs.size := by simpa using hb
    subst e
    exact I1.fpOk (Nat.le_refl _) (I1.hok.fresh (Nat.le_refl _))
  · obtain ⟨its, rv, p, hz⟩ := I1.tuple (.inl hq : SqT X.K H1 a xs)
    refine wpAny_pyIter_tuple (show s1.heap.IsTuple a its.toArray from p) ?_
    refine ⟨s1.heap.objs.size, [s1.heap.objs.size], _, _, H1, rfl, I1.kept (t' := s1.toks) fun b o e => Heap.get?_push_of_some _ e, turn_tuple a _, ⟨_, Heap.get?_push_size _ rfl, rfl, rfl⟩, fun b hb => ?_, q⟩
    have e : b = s1.heap.objs.size := by simpa using hb
    subst e
    exact I1.fpOk (Nat.le_refl _) (I1.hok.fresh (Nat.le_refl _))
theorem wk_list {K : PySem.W.Frag} {F : Hp} {a : Addr} {xs : List V} {ds : List D} (h : F a = some (.lst xs)) (r : RpL K F xs ds) : Wk K (Itl K a) F ds := fun i F2 H s1 s2 => by
  have hq : SqL K H a xs := .inl (.inl (s2 _ _ (s1 _ _ h)))
  refine ⟨fun d hd => ?_, fun hl => ⟨xs, hq, by rw [r.length]; exact hl⟩⟩
  obtain ⟨x, e, rx⟩ := r.get hd
  refine ⟨⟨xs, x, hq, e⟩, fun y H' hy => ?_⟩
  obtain ⟨rfl, hy⟩ := hy
  have := hy xs hq
  rw [e] at this; cases this
  exact .inl ⟨rfl, rx.mono s1⟩
theorem wk_tup {K : PySem.W.Frag} {F : Hp} {a : Addr} {xs : List V} {ds : List D} (h : Rd F a (.tup xs)) (r : RpL K F xs ds) : Wk K (Itt K a) F ds := fun i F2 H s1 s2 => by
  have hq : SqT K H a xs := .inl (rd_mono (s1.trans s2) h)
  refine ⟨fun d hd => ?_, fun hl => ⟨xs, hq, by rw [r.length]; exact hl⟩⟩
  obtain ⟨x, e, rx⟩ := r.get hd
  refine ⟨⟨xs, x, hq, e⟩, fun y H' hy => ?_⟩
  obtain ⟨rfl, hy⟩ := hy
  have := hy xs hq
  rw [e] at this; cases this
  exact .inl ⟨rfl, rx.mono s1⟩
theorem wk_rng {K : PySem.W.Frag} {F : Hp} {lo : Int} {n : Nat} : Wk K (Itr lo n) F ((List.range n).map fun (k : Nat) => D.int (lo + k)) := fun i F2 H s1 s2 => by
  refine ⟨fun d hd => ?_, fun hl => by
    show n ≤ i
    simpa using hl⟩
  rw [List.getElem?_map] at hd
  obtain ⟨k, hk, rfl⟩ := Option.map_eq_some_iff.mp hd
  obtain ⟨h1, h2⟩ := List.getElem?_eq_some_iff.mp hk
  rw [List.getElem_range] at h2
  subst h2
  refine ⟨by
    show i < n
    simpa using h1, fun y H' hy => ?_⟩
  obtain ⟨rfl, rfl⟩ := hy
  exact .inl ⟨rfl, .int _⟩
theorem seq_read {a : Ex} {σ : L2.St} {H : Hp} {Q : It → Hp → Prop} (h : tI X.K B (evI R (.seq a)) σ H Q) : iSeq X.K (tE X.K B (evE R a)) σ H Q := by
    obtain ⟨F, env, ds, env', s, e, q⟩ := h
    simp only [evI, Option.bind_eq_some_iff, Option.some.injEq, Prod.mk.injEq] at e
    obtain ⟨p, e1, t, e2, l, e3, rfl, rfl⟩ := e
    refine ⟨F, env, _, _, s, e1, fun v F1 H1 s1 x1 o1 => ?_⟩
    obtain ⟨F1', s1', y1, st1⟩ := o1.settled s1
    obtain ⟨F2, s2, x2, rp, _⟩ := st1.leak s1' e2
    generalize t.1 = d at e3 rp
    cases d with
    | lst l' =>
      cases e3
      cases rp with
      | lst h r => exact ⟨_, rfl, .inl ⟨⟨_, s2.frz _ _ h⟩, q _ F2 H1 s2 (x1.trans (y1.trans x2)) (wk_list h r)⟩⟩
    | tup l' =>
      cases e3
      cases rp with
      | tup h r => exact ⟨_, rfl, .inr ⟨⟨_, .inl (s2.frz _ _ h)⟩, q _ F2 H1 s2 (x1.trans (y1.trans x2)) (wk_tup (.inl h) r)⟩⟩
    | tpn l' =>
      cases e3
      cases rp with
      | tpn h _ r => exact ⟨_, rfl, .inr ⟨⟨_, .inr ⟨_, s2.frz _ _ h⟩⟩, q _ F2 H1 s2 (x1.trans (y1.trans x2)) (wk_tup (.inr ⟨_, h⟩) r)⟩⟩
    | _ => cases e3
theorem pi_seq' {a : Ex} {ea : Expr} (ha : ∀ B : Bs Cg, PE X ea (tE X.K B (evE R a))) : PI X tg ea (tI X.K B (evI R (.seq a))) :=
  (pi_seq (ha B)).imp fun σ H Q h => seq_read h
theorem pi_rng1' (g : Gd T N R X sc fb Cg) {a : Ex} {ea : Expr} {p pos : Pos} (ha : ∀ B : Bs Cg, PE X ea (tE X.K B (evE R a))) (hg : glB sc "range" = true) (hs : noStar ea = true) : PI X tg (.Call (.Name "range" p) [ea] [] pos) (tI X.K B (evI R (.rng1 a))) :=
  (pi_range1 (gl_of g hg) g.rng (pa_cons (ha B) pa_nil (star_of hs _)) (star_of hs _)).imp fun σ H Q ⟨F, env, ds, env', s, e, q⟩ => by
    simp only [evI, Option.bind_eq_some_iff] at e
    obtain ⟨⟨r1, env1⟩, e1, e⟩ := e
    split at e
    · rename_i n h
      have h' : r1 = .sh (.int n) := h
      subst h'
      split at e
      · rename_i hb
        cases e
        refine ⟨F, env, _, _, s, e1, fun v F1 H1 s1 x1 o1 => ?_⟩
        cases o1
        refine ⟨n, rfl, (crng_of hb).1, (crng_of hb).2, q _ F1 H1 s1 x1 ?_⟩
        have := wk_rng (K := X.K) (F := F1) (lo := 0) (n := n.toNat)
        simpa using this
      · cases e
    · cases e
theorem pi_rng2' (g : Gd T N R X sc fb Cg) {a b : Ex} {ea eb : Expr} {p pos : Pos} (ha : ∀ B : Bs Cg, PE X ea (tE X.K B (evE R a))) (hb : ∀ B : Bs Cg, PE X eb (tE X.K B (evE R b))) (hg : glB sc "range" = true) (hs : noStar ea = true) (ht : noStar eb = true) : PI X tg (.Call (.Name "range" p) [ea, eb] [] pos) (tI X.K B (evI R (.rng2 a b))) :=
  (pi_range2 (gl_of g hg) g.rng (pa_cons (ha B) (pa_cons (hb B) pa_nil (star_of ht _)) (star_of hs _)) (by rw [star_of hs, star_of ht]; rfl) (star_of ht _)).imp fun σ H Q ⟨F, env, ds, env', s, e, q⟩ => by
    simp only [evI, Option.bind_eq_some_iff] at e
    obtain ⟨⟨r1, env1⟩, e1, ⟨r2, env2⟩, e2, e⟩ := e
    split at e
    · rename_i m n h h2
      have h' : r1 = .sh (.int m) := h
      have h2' : r2 = .sh (.int n) := h2
      subst h' h2'
      split at e
      · rename_i hb
        cases e
        refine ⟨F, env, _, _, s, e1, fun v F1 H1 s1 x1 o1 => ?_⟩
        cases o1
        refine ⟨F1, _, _, _, s1, e2, fun v F2 H2 s2 x2 o2 => ?_⟩
        cases o2
        exact ⟨m, n, rfl, ⟨(crng_of hb.1).1, (crng_of hb.1).2, (crng_of hb.2).1, (crng_of hb.2).2⟩, q _ F2 H2 s2 (x1.trans x2) wk_rng⟩
      · cases e
    · cases e

theorem wk_rngD {K : PySem.W.Frag} {F : Hp} {lo : Int} {n : Nat} : Wk K (Itc lo (-1) n) F ((List.range n).map fun (k : Nat) => D.int (lo - k)) := fun i F2 H s1 s2 => by
  refine ⟨fun d hd => ?_, fun hl => by
    show n ≤ i
    simpa using hl⟩
  rw [List.getElem?_map] at hd
  obtain ⟨k, hk, rfl⟩ := Option.map_eq_some_iff.mp hd
  obtain ⟨h1, h2⟩ := List.getElem?_eq_some_iff.mp hk
  rw [List.getElem_range] at h2
  subst h2
  refine ⟨by
    show i < n
    simpa using h1, fun y H' hy => ?_⟩
  obtain ⟨rfl, rfl⟩ := hy
  have e : lo + (i : Int) * (-1) = lo - (i : Int) := by omega
  exact .inl ⟨rfl, by rw [e]; exact .int _⟩
theorem pi_rngD' (g : Gd T N R X sc fb Cg) {a b : Ex} {ea eb : Expr} {k : Nat} {p p1 p2 pos : Pos} (ha : ∀ B : Bs Cg, PE X ea (tE X.K B (evE R a))) (hb : ∀ B : Bs Cg, PE X eb (tE X.K B (evE R b))) (hg : glB sc "range" = true) (hs : noStar ea = true) (ht : noStar eb = true) : PI X tg (.Call (.Name "range" p) [ea, eb, .UnaryOp .USub (.Constant (.int 1) k p1) p2] [] pos) (tI X.K B (evI R (.rngD a b))) :=
  (pi_range3 (gl_of g hg) g.rng (pa_cons (ha B) (pa_cons (hb B) (pa_cons (pe_un un_neg pe_int) pa_nil rfl) (star_of ht _)) (star_of hs _)) (star_of hs _) (by rw [star_of ht]; rfl)).imp fun σ H Q ⟨F, env, ds, env', s, e, q⟩ => by
    simp only [evI, Option.bind_eq_some_iff] at e
    obtain ⟨⟨r1, env1⟩, e1, ⟨r2, env2⟩, e2, e⟩ := e
    split at e
    · rename_i m n h h2
      have h' : r1 = .sh (.int m) := h
      have h2' : r2 = .sh (.int n) := h2
      subst h' h2'
      split at e
      · rename_i hb
        cases e
        refine ⟨F, env, _, _, s, e1, fun v F1 H1 s1 x1 o1 => ?_⟩
        cases o1
        refine ⟨F1, _, _, _, s1, e2, fun v F2 H2 s2 x2 o2 => ?_⟩
        cases o2
        refine ⟨1, rfl, m, n, -1, (m - n).toNat, rfl, RgC.neg (crng_of hb.1).1 (crng_of hb.1).2 (crng_of hb.2).1 (crng_of hb.2).2, q _ F2 H2 s2 (x1.trans x2) wk_rngD⟩
      · cases e
    · cases e

/-! ### comprehensions -/
theorem wk_enum {K : PySem.W.Frag} {F : Hp} {a : Addr} {xs : List V} {ds : List D} (h : F a = some (.lst xs)) (r : RpL K F xs ds) : Wk K (Ite K a) F (enumD ds) := fun i F2 H s1 s2 => by
  have hq : SqL K H a xs := .inl (.inl (s2 _ _ (s1 _ _ h)))
  have hl : (enumD ds).length = xs.length := by rw [enumD, List.length_map, List.length_range, r.length]
  refine ⟨fun d hd => ?_, fun hl' => ⟨xs, hq, by rw [← hl]; exact hl'⟩⟩
  have hi : i < ds.length := by
    have := (List.getElem?_eq_some_iff.mp hd).1
    rw [hl, r.length] at this
    exact this
  have hdi : ds[i]? = some ds[i] := List.getElem?_eq_getElem hi
  have ed : d = .tup [.int (i : Nat), ds[i]] := by
    rw [enumD, List.getElem?_map, List.getElem?_range hi] at hd
    simp only [Option.map_some, Option.some.injEq] at hd
    rw [← hd]
    simp [List.getD, hi]
  subst ed
  obtain ⟨x, e, rx⟩ := r.get hdi
  refine ⟨⟨xs, x, hq, e⟩, fun y H' hy => ?_⟩
  obtain ⟨T, x', rfl, hn, rfl, hy⟩ := hy
  have := hy xs hq
  rw [e] at this; cases this
  have hf : F2 T = none := by
    cases hz : F2 T with
    | none => rfl
    | some o => have := s2 _ _ hz; rw [hn] at this; cases this
  exact .inr ⟨T, _, hn, rfl, rfl, .tup upd_same (.cons (.int _) (.cons (rx.mono (s1.trans (same_upd hf))) .nil))⟩
theorem pi_enum' (g : Gd T N R X sc fb Cg) {a : Ex} {ea : Expr} {p pos tpos : Pos} {elts : List Expr} {kk : Nat} (ha : ∀ B : Bs Cg, PE X ea (tE X.K B (evE R a))) (hg : glB sc "enumerate" = true) (hs : noStar ea = true) : PI X (.Tuple elts kk tpos) (.Call (.Name "enumerate" p) [ea] [] pos) (tI X.K B (evI R (.enum a))) :=
  (pi_enum (gl_of g hg) (g.ot _ (by decide)) (pa_cons (ha B) pa_nil (star_of hs _)) (star_of hs _)).imp fun σ H Q ⟨F, env, ds, env', s, e, q⟩ => by
    simp only [evI, Option.bind_eq_some_iff] at e
    obtain ⟨⟨r1, env1⟩, e1, ⟨d, env2⟩, e2, e⟩ := e
    cases d <;> simp only [reduceCtorEq, Option.some.injEq, Prod.mk.injEq] at e
    obtain ⟨rfl, rfl⟩ := e
    refine ⟨F, env, _, _, s, e1, fun v F1 H1 s1 x1 o1 => ?_⟩
    obtain ⟨F1', s1', y1, st1⟩ := o1.settled s1
    obtain ⟨F2, s2, x2, rp, _⟩ := st1.leak s1' e2
    cases rp with
    | lst h r => exact ⟨_, _, rfl, .inl (.inl (s2.frz _ _ h)), q _ F2 H1 s2 (x1.trans (y1.trans x2)) (wk_enum h r)⟩
theorem wk_str {K : PySem.W.Frag} {F : Hp} {x : Str} : Wk K (Its x) F (x.cps.toList.map fun c => D.str ⟨#[c]⟩) := fun i F2 H s1 s2 => by
  refine ⟨fun d hd => ?_, fun hl => by
    show x.cps.size ≤ i
    simpa using hl⟩
  rw [List.getElem?_map] at hd
  obtain ⟨c, hc, rfl⟩ := Option.map_eq_some_iff.mp hd
  rw [Array.getElem?_toList] at hc
  refine ⟨(Array.getElem?_eq_some_iff.mp hc).1, fun y H' hy => ?_⟩
  obtain ⟨rfl, c', hc', rfl⟩ := hy
  rw [hc] at hc'
  cases hc'
  exact .inl ⟨rfl, .str _⟩
theorem pi_chars' {a : Ex} {ea : Expr} (ha : ∀ B : Bs Cg, PE X ea (tE X.K B (evE R a))) : PI X tg ea (tI X.K B (evI R (.chars a))) :=
  (pi_str (ha B)).imp fun σ H Q ⟨F, env, ds, env', s, e, q⟩ => by
    simp only [evI, Option.bind_eq_some_iff] at e
    obtain ⟨⟨r1, env1⟩, e1, e⟩ := e
    split at e
    · rename_i x h
      have h' : r1 = .sh (.str x) := h
      subst h'
      cases e
      refine ⟨F, env, _, _, s, e1, fun v F1 H1 s1 x1 o1 => ?_⟩
      cases o1
      exact ⟨x, rfl, q _ F1 H1 s1 x1 wk_str⟩
    · cases e
def optL {α : Type} : Option α → List α | none => [] | some x => [x]
theorem lcD_at {step : D → Option (Option D)} : ∀ {ds rs : List D}, lcD step ds = some rs → ∀ i, ∃ rs', lcD step (ds.take i) = some rs' ∧ (i = ds.length → rs' = rs) ∧ ∀ d, ds[i]? = some d → ∃ r, step d = some r ∧ lcD step (ds.take (i + 1)) = some (rs' ++ optL r)
  | [], rs, e, i => by
    simp only [lcD, Option.some.injEq] at e
    subst e
    exact ⟨[], by simp [lcD], fun _ => rfl, fun d h => by simp at h⟩
  | d :: ds, rs, e, i => by
    simp only [lcD, Option.bind_eq_some_iff, Option.some.injEq] at e
    obtain ⟨r, e1, rs1, e2, rfl⟩ := e
    cases i with
    | zero =>
      refine ⟨[], by simp [lcD], fun h => by simp at h, fun d' h => ?_⟩
      simp only [List.getElem?_cons_zero, Option.some.injEq] at h
      subst h
      exact ⟨r, e1, by cases r <;> simp [lcD, e1, optL]⟩
    | succ i =>
      obtain ⟨rs', a, b, c⟩ := lcD_at e2 i
      refine ⟨_, by simp [lcD, e1, a]; rfl, fun h => ?_, fun d' h => ?_⟩
      · rw [b (by simpa using h)]
      · obtain ⟨r', h1, h2⟩ := c d' (by simpa using h)
        refine ⟨r', h1, ?_⟩
        rw [List.take_succ_cons]
        simp only [lcD, e1, h2, Option.bind_some]
        cases r <;> rfl
def tEx (K : PySem.W.Frag) (Cg : Cfg) (f : En → Option (Rv × En)) : TE := fun σ H Q => ∃ B : Bs Cg, tE K B f σ H Q
def tCx (K : PySem.W.Frag) (Cg : Cfg) (f : En → Option Bool) : TT := fun σ H Q => ∃ (B : Bs Cg) (F : Hp) (env : En) (b : Bool), SR K B F H σ env ∧ f env = some b ∧ ∀ F' H' env', SR K B F' H' σ env' → Ext F F' → Q b H'
theorem pts_nil' : PTs X [] (tCx X.K Cg (evC R .nil)) := ⟨fun pins s σ H Q I ⟨B, F, env, b, sr, e, q⟩ => by
  simp only [evC, Option.some.injEq] at e
  subst e
  exact pts_nil.run pins s σ H Q I (q F H env sr .refl)⟩
theorem pts_one' {a : Ex} {ea : Expr} (ha : ∀ B : Bs Cg, PT X ea (tT X.K B (evE R a))) : PTs X [ea] (tCx X.K Cg (evC R (.cons a .nil))) := ⟨fun pins s σ H Q I ⟨B, F, env, b, sr, e, q⟩ => by
  simp only [evC, Option.bind_eq_some_iff] at e
  obtain ⟨⟨r1, env1⟩, e1, e⟩ := e
  split at e
  · rename_i c h
    have h' : r1 = .sh (.bl c) := h
    subst h'
    cases e
    exact (pts_one (ha B)).run pins s σ H Q I ⟨F, env, _, env1, sr, e1, fun F' H' s' x => q F' H' env1 s' x⟩
  · cases e⟩
theorem lcD_len {step : D → Option (Option D)} : ∀ {ds rs : List D}, lcD step ds = some rs → rs.length ≤ ds.length
  | [], rs, e => by simp only [lcD, Option.some.injEq] at e; subst e; exact Nat.le_refl _
  | d :: ds, rs, e => by
    simp only [lcD, Option.bind_eq_some_iff, Option.some.injEq] at e
    obtain ⟨r, e1, rs1, e2, rfl⟩ := e
    have := lcD_len e2
    cases r <;> simp <;> omega
theorem lcD_pre {step : D → Option (Option D)} : ∀ {ds rs : List D}, lcD step ds = some rs → ∀ (i : Nat) {rs' : List D}, lcD step (ds.take i) = some rs' → rs'.length ≤ rs.length
  | [], rs, e, i, rs', h => by
    rw [List.take_nil] at h
    rw [e] at h
    cases h
    exact Nat.le_refl _
  | d :: ds, rs, e, 0, rs', h => by
    simp only [List.take_zero, lcD, Option.some.injEq] at h
    subst h
    exact Nat.zero_le _
  | d :: ds, rs, e, i + 1, rs', h => by
    rw [List.take_succ_cons] at h
    simp only [lcD, Option.bind_eq_some_iff, Option.some.injEq] at e h
    obtain ⟨r, e1, rs1, e2, rfl⟩ := e
    obtain ⟨r', f1, rs2, f2, rfl⟩ := h
    rw [e1] at f1
    cases f1
    have := lcD_pre e2 i f2
    cases r <;> simp <;> omega
/-- one turn's step -/
def lcStep (R : Run) (p : Pt) (cs : Exs) (e : Ex) (envb : En) (d : D) : Option (Option D) :=
  (asgP envb p d).bind fun e1 => (evC R cs e1).bind fun c => if c = true then (evE R e e1).bind fun r => (leak r.2 r.1).bind fun x => some (some x.1) else some none
/-- the state between two turns -/
structure LcW (K : PySem.W.Frag) (Cg : Cfg) (R : Run) (p : Pt) (cs : Exs) (e : Ex) (envb : En) (ds : List D) (F1 H1 : Hp) (σw : L2.St) (Dd : Addr) (i : Nat) (H : Hp) : Prop where
  le : i ≤ ds.length
  st : ∃ F acc rs, SR K (Bs.mk (C := Cg) fun _ => none) F H σw envb ∧ Same F1 F ∧ SameN Cg.ts H1 H ∧ NewF Cg.ts H1 F1 F ∧ H Dd = some (.lst acc) ∧ F Dd = none ∧ RpL K F acc rs ∧ lcD (lcStep R p cs e envb) (ds.take i) = some rs
theorem lc_read (g : Gd T N R X sc fb Cg) {own uses : List Nat} {p : Pt} {it : Itx} {cs : Exs} {e : Ex} {σ : L2.St} {H : Hp} {Q : VK} (hw : tE X.K B (evE R (.lc own uses p it cs e)) σ H Q) :
    tLc (tI X.K B (evI R it)) (tP X.K Cg (fun d env => asgP env p d) own) (tCx X.K Cg (evC R cs)) (tEx X.K Cg (evE R e)) own σ H Q := by
  obtain ⟨F, env, r, env', s, ev, q⟩ := hw
  simp only [evE, Option.bind_eq_some_iff] at ev
  obtain ⟨⟨ds, env1⟩, e1, rs, e2, ev⟩ := ev
  have e2 : lcD (lcStep R p cs e (wipeE (hide (frz env1 uses)) own)) ds = some rs := e2
  split at ev
  · rename_i hbig
    refine ⟨F, env, ds, env1, s, e1, fun J F1 H1 s1 x1 wk => fun Dd hD => ?_⟩
    obtain ⟨F2, s2, x2, n2⟩ := frz_ok s1 uses
    generalize henvb : wipeE (hide (Ts.frz env1 uses)) own = envb at e2
    have nb : NoOw envb := by rw [← henvb]; exact wipe_no (hide_no _) own
    have sb : SR X.K (Bs.mk (C := Cg) fun _ => none) F2 H1 (L2.wipe σ own) envb := by
      rw [← henvb]
      exact (s2.hid.wipeBoth own).weakB (fun b o h => by cases h) (.inl (wipe_no (hide_no _) own).nw)
    have f2D : F2 Dd = none := s2.free hD
    refine ⟨fun i m H => m = ds.length - i ∧ LcW X.K Cg R p cs e envb ds F2 H1 (L2.wipe σ own) Dd i H, ⟨ds.length, by simp, Nat.zero_le _, F2, [], [], sb.new hD, .refl _, .of (same_upd hD), fun b o _ _ h => h, upd_same, f2D, .nil, by simp [lcD]⟩, ?_⟩
    rintro i m H' ⟨rfl, hi, Fi, acc, rsi, si, sm, hh, nw, hDi, fD, rl, el⟩
    have wki := wk.mono x2
    obtain ⟨rs', a1, a2, a3⟩ := lcD_at e2 i
    rw [el] at a1
    cases a1
    by_cases hlt : i < ds.length
    · have hd : ds[i]? = some ds[i] := by simp [hlt]
      obtain ⟨go, yl⟩ := (wki i Fi H' sm si.frz).1 _ hd
      obtain ⟨ri, hs, hnext⟩ := a3 _ hd
      refine .inr ⟨go, fun H'' => LcW X.K Cg R p cs e envb ds F2 H1 (L2.wipe σ own) Dd (i + 1) H'', fun H'' w => ⟨_, by omega, rfl, w⟩, fun x Hx hy => ?_⟩
      have res := yl x Hx hy
      -- the item
      obtain ⟨Fx, sx, xx, ox⟩ := res.ok (si.apart nb)
      obtain ⟨k1, k2⟩ := sx.since si.frz xx.ff
      simp only [lcStep, Option.bind_eq_some_iff] at hs
      obtain ⟨e1', ha, c, hc, hs⟩ := hs
      refine ⟨_, Fx, envb, _, e1', sx, ox, ha, fun σ2 sy w2 l2 => ⟨by rw [w2, wipe_wipe], ?_⟩⟩
      have n1 : NoOw e1' := asgP_no nb ha
      -- the test
      refine ⟨_, Fx, e1', c, sy.apart n1, hc, fun Fc Hc envc sc' xc => ?_⟩
      obtain ⟨k3, k4⟩ := sc'.since sy.frz xc.ff
      have sz : SR X.K (Bs.mk (C := Cg) fun _ => none) Fc Hc σ2 e1' := by
        have := sy.after (F2 := Fc) (H' := Hc) k3 xc.ff sc'.frz k4 sc'.nf sc'.tab
        exact this.weakB (fun b o h => by cases h) (.inl n1.nw)
      have sbc : SR X.K (Bs.mk (C := Cg) fun _ => none) Fc Hc (L2.wipe σ own) envb := by
        have t1 := (si.apart nb).after (F2 := Fc) (H' := Hc) (k1.trans k3) (xx.ff.trans xc.ff) sc'.frz (fun b o h n f => k4 b o (k1 _ _ h n) n (k2 b o h n f)) sc'.nf sc'.tab
        exact t1.weakB (fun b o h => by cases h) (.inl nb.nw)
      have nwc : NewF Cg.ts H1 F2 Fc := fun b o h n f => k4 b o (k1 _ _ (hh _ _ h n) n) n (k2 b o (hh _ _ h n) n (nw b o h n f))
      have hDc : Hc Dd = some (.lst acc) := k3 _ _ (k1 _ _ hDi trivial) trivial
      have fDc : Fc Dd = none := k4 _ _ (k1 _ _ hDi trivial) trivial (k2 _ _ hDi trivial fD)
      cases c with
      | false =>
        simp only [Bool.false_eq_true, if_false, Option.some.injEq] at hs ⊢
        subst hs
        exact ⟨hlt, Fc, acc, rsi, sbc, sm.trans (xx.ff.trans xc.ff), hh.trans (k1.trans k3), nwc, hDc, fDc, rl.mono (xx.ff.trans xc.ff), by simpa [optL] using hnext⟩
      | true =>
        simp only [if_true, Option.bind_eq_some_iff, Option.some.injEq] at hs ⊢
        obtain ⟨⟨r1, env2⟩, he, ⟨xd, env3⟩, hl, rfl⟩ := hs
        refine ⟨_, Fc, e1', _, _, sz.apart n1, he, fun v Fe He se xe oe => ?_⟩
        obtain ⟨Fe', se', ye, ste⟩ := oe.settled se
        obtain ⟨Fl, sl, xl, rpx, _⟩ := ste.leak se' hl
        have xcl : Same Fc Fl := xe.ff.trans (ye.ff.trans xl.ff)
        obtain ⟨k5, k6⟩ := sl.since sz.frz xcl
        have hDe : He Dd = some (.lst acc) := k5 _ _ hDc trivial
        have fDe : Fl Dd = none := k6 _ _ hDc trivial fDc
        have lacc : acc.length = rsi.length := rl.length
        have lrs : rsi.length ≤ (ds.take i).length := lcD_len el
        have lds : rs.length ≤ bigLine := hbig
        have lt1 : acc.length < sizeLine := by
          have := lcD_pre e2 (i + 1) hnext
          simp only [optL, List.length_append, List.length_singleton] at this
          rw [lacc]
          exact big_lt (by omega)
        refine ⟨acc, hDe, lt1, hlt, Fl, acc ++ [v], rsi ++ [xd], ?_, sm.trans (xx.ff.trans (xc.ff.trans xcl)), ?_, fun b o h n f => k6 b o (k3 _ _ (k1 _ _ (hh _ _ h n) n) n) n (nwc b o h n f), upd_same, fDe, (rl.mono (xx.ff.trans (xc.ff.trans xcl))).append (.one rpx), by simpa [optL] using hnext⟩
        · have t1 : SR X.K (Bs.mk (C := Cg) fun _ => none) Fl He (L2.wipe σ own) envb := (sbc.after (F2 := Fl) (H' := He) k5 xcl sl.frz k6 sl.nf sl.tab)
          exact t1.heap (fun b o h => by cases h) (fun b o h => by rw [upd_ne (fun (z : b = Dd) => by rw [z, fDe] at h; cases h)]; exact sl.frz _ _ h) (fun q ⟨j, d, hj, _⟩ => absurd hj (nb j d)) (sl.tab.put1 (fun ps z => by rw [hDe] at z; cases z))
        · intro b o h n
          have nbD : b ≠ Dd := ne_of_none h hD
          rw [upd_ne nbD]
          exact k5 _ _ (k3 _ _ (k1 _ _ (hh _ _ h n) n) n) n
    · have ei : i = ds.length := by omega
      have := a2 ei
      subst this
      refine .inl ⟨(wki i Fi H' sm si.frz).2 (by omega), ?_⟩
      have after : env' = Ts.frz env1 uses → r = .ow (.lst rsi) → Q (.ref Dd) H' := fun h1 h2 => by
        subst h1 h2
        have s3 := s2.after (F2 := Fi) (H' := H') hh sm si.frz nw si.nf si.tab
        exact q _ Fi H' s3 (x1.trans (.trans ⟨x2⟩ ⟨sm⟩)) ⟨Dd, rfl, ⟨acc, hDi, rl⟩, fD, s1.freeB hD, s2.notOwn hD⟩
      split at ev
      · rename_i hc
        simp only [Option.some.injEq, Prod.mk.injEq] at ev
        obtain ⟨rfl, rfl⟩ := ev
        rcases hc with hc | hc
        · exact after (frz_none hc).symm rfl
        · obtain ⟨F4, s4, x4, sT, fr⟩ := s1.restore x2 s2.frz n2 hh sm si.frz nw si.nf si.tab
          exact q _ F4 H' s4 (x1.trans x4) ⟨Dd, rfl, ⟨acc, hDi, rl.flat sT (by rw [D.flats_all]; exact hc)⟩, by rw [fr Dd hD]; exact fD, s1.freeB hD, s1.notOwn hD⟩
      · simp only [Option.some.injEq, Prod.mk.injEq] at ev
        exact after ev.2.symm ev.1.symm
  · cases ev
theorem own_map (own : List Nat) : (own.map fun i => ((N.getD i ⟨#[]⟩ : Str), i)).map (·.2) = own := by
  rw [List.map_map]
  exact List.map_id' own
theorem pe_lc' (g : Gd T N R X sc fb Cg) {own uses : List Nat} {p : Pt} {it : Itx} {cs : Exs} {e : Ex} {elt iter : Expr} {ifs : List Expr} {scope : Scope} {pos : Pos}
    (hI : ∀ B : Bs Cg, PI X tg iter (tI X.K B (evI R it))) (ok : blkC N sc scope (own.map fun i => (N.getD i ⟨#[]⟩, i)) = true) (hpt : ptOk N (relS scope sc) (fbOf scope) p tg = true) (hpi : ptIn own p = true)
    (hT : ∀ {X' : Cx}, X'.K = X.K → Gd T N R X' (relS scope sc) (fbOf scope) Cg → PTs X' ifs (tCx X.K Cg (evC R cs)))
    (hE : ∀ {X' : Cx}, X'.K = X.K → Gd T N R X' (relS scope sc) (fbOf scope) Cg → ∀ B : Bs Cg, PE X' elt (tE X.K B (evE R e)))
    (hset : ∀ x, foldedSetIterable iter X.env x = pure x) :
    PE X (.ListComp elt [⟨tg, iter, ifs, 0⟩] scope pos) (tE X.K B (evE R (.lc own uses p it cs e))) := by
  have base := pe_lc (own := own.map fun i => (N.getD i ⟨#[]⟩, i)) (pos := pos) g.calm (by rw [g.hN]; exact g.nd) (hI B) (by rw [g.hN, g.hsc]; exact blkOk_by ok) (g := tP X.K Cg (fun d env => asgP env p d) own) (fun s H C cl fp => pg_p (g.blk s H scope C cl fp) hpt hpi)
    (fun s H C cl fp => hT (X' := X.blk s H scope (compEnvC scope cl C X.env) fp) rfl (g.blk s H scope C cl fp)) (fun s H C cl fp => (⟨fun pins s' σ H' Q I ⟨B', q⟩ => (hE (X' := X.blk s H scope (compEnvC scope cl C X.env) fp) rfl (g.blk s H scope C cl fp) B').run pins s' σ H' Q I q⟩ : PE (X.blk s H scope (compEnvC scope cl C X.env) fp) elt (tEx X.K Cg (evE R e)))) hset
  rw [own_map] at base
  exact base.imp fun σ H Q h => lc_read g h
theorem ps_setLc' (g : Gd T N R X sc fb Cg) {i : Nat} {y : Str} {py : Pos} {own uses : List Nat} {p : Pt} {it : Itx} {cs : Exs} {e : Ex} {elt iter : Expr} {ifs : List Expr} {scope : Scope} {pos spos : Pos}
    (h1 : N[i]? = some y) (h2 : justLoc sc y = true) (hsw : swapsWith (.ListComp elt [⟨tg, iter, ifs, 0⟩] scope pos) (some (.Name y py)) spos.line X.env = pure true)
    (hI : ∀ B : Bs Cg, PI X tg iter (tI X.K B (evI R it))) (ok : blkC N sc scope (own.map fun i => (N.getD i ⟨#[]⟩, i)) = true) (hpt : ptOk N (relS scope sc) (fbOf scope) p tg = true) (hpi : ptIn own p = true)
    (hT : ∀ {X' : Cx}, X'.K = X.K → Gd T N R X' (relS scope sc) (fbOf scope) Cg → PTs X' ifs (tCx X.K Cg (evC R cs)))
    (hE : ∀ {X' : Cx}, X'.K = X.K → Gd T N R X' (relS scope sc) (fbOf scope) Cg → ∀ B : Bs Cg, PE X' elt (tE X.K B (evE R e)))
    (hset : ∀ x, foldedSetIterable iter X.env x = pure x) :
    PS X (.Assign [.Name y py] (.ListComp elt [⟨tg, iter, ifs, 0⟩] scope pos) spos) (tAsg (tE X.K B (evE R (.lc own uses p it cs e))) (gName i)) := by
  have base := ps_setLc (i := i) (y := y) (py := py) (own := own.map fun i => (N.getD i ⟨#[]⟩, i)) (pos := pos) (spos := spos) g.calm (by rw [g.hN]; exact g.nd) (by rw [g.hN]; exact h1) (just_of g h2) hsw (hI B) (by rw [g.hN, g.hsc]; exact blkOk_by ok) (g := tP X.K Cg (fun d env => asgP env p d) own) (fun s H C cl fp => pg_p (g.blk s H scope C cl fp) hpt hpi)
    (fun s H C cl fp => hT (X' := X.blk s H scope (compEnvC scope cl C X.env) fp) rfl (g.blk s H scope C cl fp)) (fun s H C cl fp => (⟨fun pins s' σ H' Q I ⟨B', q⟩ => (hE (X' := X.blk s H scope (compEnvC scope cl C X.env) fp) rfl (g.blk s H scope C cl fp) B').run pins s' σ H' Q I q⟩ : PE (X.blk s H scope (compEnvC scope cl C X.env) fp) elt (tEx X.K Cg (evE R e)))) hset
  rw [own_map] at base
  exact ⟨fun pins s σ H D I h => base.run pins s σ H D I (lc_read g h)⟩
end

/-! ### two walks, one in the other -/
section
variable {T : Tb} {N : List Str} {R : Run} {X : Cx} {sc : Scope} {fb : Str → Bool} {Cg : Cfg} {B : Bs Cg} {tg tg1 : Expr}
theorem lc2D_at {step : D → Option (List D)} : ∀ {ds rs : List D}, lc2D step ds = some rs → ∀ i, ∃ rs', lc2D step (ds.take i) = some rs' ∧ (i = ds.length → rs' = rs) ∧ ∀ d, ds[i]? = some d → ∃ r, step d = some r ∧ lc2D step (ds.take (i + 1)) = some (rs' ++ r) ∧ (rs' ++ r).length ≤ rs.length
  | [], rs, e, i => by
    simp only [lc2D, Option.some.injEq] at e
    subst e
    exact ⟨[], by simp [lc2D], fun _ => rfl, fun d h => by simp at h⟩
  | d :: ds, rs, e, i => by
    simp only [lc2D, Option.bind_eq_some_iff, Option.some.injEq] at e
    obtain ⟨r, e1, rs1, e2, rfl⟩ := e
    cases i with
    | zero =>
      refine ⟨[], by simp [lc2D], fun h => by simp at h, fun d' h => ?_⟩
      simp only [List.getElem?_cons_zero, Option.some.injEq] at h
      subst h
      exact ⟨r, e1, by simp [lc2D, e1], by simp⟩
    | succ i =>
      obtain ⟨rs', a, b, c⟩ := lc2D_at e2 i
      refine ⟨_, by simp [lc2D, e1, a]; rfl, fun h => ?_, fun d' h => ?_⟩
      · rw [b (by simpa using h)]
      · obtain ⟨r', h1, h2, h3⟩ := c d' (by simpa using h)
        refine ⟨r', h1, ?_, ?_⟩
        · rw [List.take_succ_cons]
          simp only [lc2D, e1, h2, Option.bind_some]
          rw [List.append_assoc]
        · simp only [List.length_append] at h3 ⊢
          omega
def tIx (K : PySem.W.Frag) (Cg : Cfg) (f : En → Option (List D × En)) : TI := fun σ H R => ∃ B : Bs Cg, tI K B f σ H R


def lc2In (R : Run) (p1 : Pt) (e : Ex) (envb : En) (d1 : D) : Option (Option D) := (asgP envb p1 d1).bind fun e2 => (evE R e e2).bind fun r => (leak r.2 r.1).bind fun x => some (some x.1)
def lc2Step (R : Run) (own1 : List Nat) (p p1 : Pt) (it1 : Itx) (e : Ex) (envb : En) (d : D) : Option (List D) := (asgP envb p d).bind fun e1 => (evI R it1 e1).bind fun q1 => lcD (lc2In R p1 e (wipeE (hide q1.2) own1)) q1.1
theorem lc2_read (g : Gd T N R X sc fb Cg) {own uses own1 : List Nat} {p p1 : Pt} {it it1 : Itx} {e : Ex} {σ : L2.St} {H : Hp} {Q : VK} (hw : tE X.K B (evE R (.lc2 own uses own1 p it p1 it1 e)) σ H Q) :
    tLc2 (tI X.K B (evI R it)) (tP X.K Cg (fun d env => asgP env p d) own) tYes (tIx X.K Cg (evI R it1)) (tP X.K Cg (fun d env => asgP env p1 d) own1) tYes (tEx X.K Cg (evE R e)) own own1 σ H Q := by
  obtain ⟨F, env, r, env', s, ev, q⟩ := hw
  simp only [evE, Option.bind_eq_some_iff] at ev
  obtain ⟨⟨ds, env1⟩, e1, rs, e2, ev⟩ := ev
  have e2 : lc2D (lc2Step R own1 p p1 it1 e (wipeE (hide (frz env1 uses)) own)) ds = some rs := e2
  split at ev
  · rename_i hbig
    refine ⟨F, env, ds, env1, s, e1, fun J F1 H1 s1 x1 wk => fun Dd hD => ?_⟩
    obtain ⟨F2, s2, x2, n2⟩ := frz_ok s1 uses
    generalize henvb : wipeE (hide (Ts.frz env1 uses)) own = envb at e2
    have nb : NoOw envb := by rw [← henvb]; exact wipe_no (hide_no _) own
    have sb : SR X.K (Bs.mk (C := Cg) fun _ => none) F2 H1 (L2.wipe σ own) envb := by
      rw [← henvb]
      exact (s2.hid.wipeBoth own).weakB (fun b o h => by cases h) (.inl (wipe_no (hide_no _) own).nw)
    have f2D : F2 Dd = none := s2.free hD
    refine ⟨fun i m H => m = ds.length - i ∧ i ≤ ds.length ∧ ∃ F acc rsi, SR X.K (Bs.mk (C := Cg) fun _ => none) F H (L2.wipe σ own) envb ∧ Same F2 F ∧ SameN Cg.ts H1 H ∧ NewF Cg.ts H1 F2 F ∧ H Dd = some (.lst acc) ∧ F Dd = none ∧ RpL X.K F acc rsi ∧ lc2D (lc2Step R own1 p p1 it1 e envb) (ds.take i) = some rsi,
      ⟨ds.length, by simp, Nat.zero_le _, F2, [], [], sb.new hD, .refl _, .of (same_upd hD), fun b o _ _ h => h, upd_same, f2D, .nil, by simp [lc2D]⟩, ?_⟩
    rintro i m H' ⟨rfl, hi, Fi, acc, rsi, si, sm, hh, nw, hDi, fD, rl, el⟩
    have wki := wk.mono x2
    obtain ⟨rs', a1, a2, a3⟩ := lc2D_at e2 i
    rw [el] at a1
    cases a1
    by_cases hlt : i < ds.length
    · have hd : ds[i]? = some ds[i] := by simp [hlt]
      obtain ⟨go, yl⟩ := (wki i Fi H' sm si.frz).1 _ hd
      obtain ⟨ri, hs, hnext, hlen⟩ := a3 _ hd
      refine .inr ⟨go, _, fun H'' w => ⟨ds.length - (i + 1), by omega, rfl, w⟩, fun x Hx hy => ?_⟩
      have res := yl x Hx hy
      obtain ⟨Fx, sx, xx, ox⟩ := res.ok (si.apart nb)
      obtain ⟨k1, k2⟩ := sx.since si.frz xx.ff
      simp only [lc2Step, Option.bind_eq_some_iff] at hs
      obtain ⟨e1', ha, ⟨ds1, e1''⟩, hi1, hl1⟩ := hs
      refine ⟨_, Fx, envb, _, e1', sx, ox, ha, fun σ2 sy w2 l2 => ⟨by rw [w2, wipe_wipe], ?_⟩⟩
      have n1 : NoOw e1' := asgP_no nb ha
      unfold L2.tYes
      dsimp only
      rw [if_pos rfl]
      refine ⟨_, Fx, e1', ds1, e1'', sy.apart n1, hi1, fun J1 Fj Hj sj xj wk1 => ?_⟩
      obtain ⟨k3, k4⟩ := sj.since sy.frz xj.ff
      generalize henvc : wipeE (hide e1'') own1 = envc at hl1
      have nc : NoOw envc := by rw [← henvc]; exact wipe_no (hide_no _) own1
      have sc1 : SR X.K (Bs.mk (C := Cg) fun _ => none) Fj Hj (L2.wipe σ2 own1) envc := by
        rw [← henvc]
        exact (sj.hid.wipeBoth own1).weakB (fun b o h => by cases h) (.inl (wipe_no (hide_no _) own1).nw)
      have so1 : SR X.K (Bs.mk (C := Cg) fun _ => none) Fj Hj (L2.wipe σ own) envb := by
        have t1 := (si.apart nb).after (F2 := Fj) (H' := Hj) (k1.trans k3) (xx.ff.trans xj.ff) sj.frz (fun b o h n f => k4 b o (k1 _ _ h n) n (k2 b o h n f)) sj.nf sj.tab
        exact t1.weakB (fun b o h => by cases h) (.inl nb.nw)
      have nwj : NewF Cg.ts H1 F2 Fj := fun b o h n f => k4 b o (k1 _ _ (hh _ _ h n) n) n (k2 b o (hh _ _ h n) n (nw b o h n f))
      have hDj : Hj Dd = some (.lst acc) := k3 _ _ (k1 _ _ hDi trivial) trivial
      have fDj : Fj Dd = none := k4 _ _ (k1 _ _ hDi trivial) trivial (k2 _ _ hDi trivial fD)
      have rlj : RpL X.K Fj acc rsi := rl.mono (xx.ff.trans xj.ff)
      have smj : Same F2 Fj := sm.trans (xx.ff.trans xj.ff)
      have hhj : SameN Cg.ts H1 Hj := hh.trans (k1.trans k3)
      refine ⟨fun j m H => m = ds1.length - j ∧ j ≤ ds1.length ∧ ∃ F acc rs1, SR X.K (Bs.mk (C := Cg) fun _ => none) F H (L2.wipe σ2 own1) envc ∧ SR X.K (Bs.mk (C := Cg) fun _ => none) F H (L2.wipe σ own) envb ∧ Same F2 F ∧ Same Fj F ∧ SameN Cg.ts H1 H ∧ NewF Cg.ts H1 F2 F ∧ H Dd = some (.lst acc) ∧ F Dd = none ∧ RpL X.K F acc (rsi ++ rs1) ∧ lcD (lc2In R p1 e envc) (ds1.take j) = some rs1,
        ⟨ds1.length, by simp, Nat.zero_le _, Fj, acc, [], sc1, so1, smj, .refl _, hhj, nwj, hDj, fDj, by rw [List.append_nil]; exact rlj, by simp [lcD]⟩, ?_⟩
      rintro j m2 H3 ⟨rfl, hj, Fk, acck, rsk, sk, sko, smk, sjk, hhk, nwk, hDk, fDk, rlk, elk⟩
      have wkj := wk1.mono sjk
      obtain ⟨rs'', b1, b2, b3⟩ := lcD_at hl1 j
      rw [elk] at b1
      cases b1
      by_cases hlt1 : j < ds1.length
      · have hd1 : ds1[j]? = some ds1[j] := by simp [hlt1]
        obtain ⟨go1, yl1⟩ := (wkj j Fk H3 (.refl _) sk.frz).1 _ hd1
        obtain ⟨r1, hs1, hnext1⟩ := b3 _ hd1
        refine .inr ⟨go1, _, fun H'' w => ⟨ds1.length - (j + 1), by omega, rfl, w⟩, fun x' Hx' hy' => ?_⟩
        have res1 := yl1 x' Hx' hy'
        obtain ⟨Fy, sy1, xy, oy⟩ := res1.ok (sk.apart nc)
        obtain ⟨k5, k6⟩ := sy1.since sk.frz xy.ff
        simp only [lc2In, Option.bind_eq_some_iff, Option.some.injEq] at hs1
        obtain ⟨e2', ha1, ⟨r2, env3⟩, he, ⟨xd, env4⟩, hlk, rfl⟩ := hs1
        refine ⟨_, Fy, envc, _, e2', sy1, oy, ha1, fun σ3 sz w3 l3 => ⟨by rw [w3, wipe_wipe], ?_⟩⟩
        have n2 : NoOw e2' := asgP_no nc ha1
        try dsimp only
        rw [if_pos rfl]
        refine ⟨_, Fy, e2', _, _, sz.apart n2, he, fun v Fe He se xe oe => ?_⟩
        obtain ⟨Fe', se', ye, ste⟩ := oe.settled se
        obtain ⟨Fl, sl, xl, rpx, _⟩ := ste.leak se' hlk
        have xcl : Same Fy Fl := xe.ff.trans (ye.ff.trans xl.ff)
        obtain ⟨k7, k8⟩ := sl.since sz.frz xcl
        have hDe : He Dd = some (.lst acck) := k7 _ _ (k5 _ _ hDk trivial) trivial
        have fDe : Fl Dd = none := k8 _ _ (k5 _ _ hDk trivial) trivial (k6 _ _ hDk trivial fDk)
        have xkl : Same Fk Fl := xy.ff.trans xcl
        have lacc : acck.length = (rsi ++ rsk).length := rlk.length
        have lt1 : acck.length < sizeLine := by
          have h1 := lcD_pre hl1 (j + 1) hnext1
          have lds : rs.length ≤ bigLine := hbig
          simp only [optL, List.length_append, List.length_singleton] at h1 hlen
          rw [lacc, List.length_append]
          exact big_lt (by omega)
        have upK : ∀ {σ' : L2.St} {en : En}, NoOw en → SR X.K (Bs.mk (C := Cg) fun _ => none) Fk H3 σ' en → SR X.K (Bs.mk (C := Cg) fun _ => none) Fl (upd He Dd (.lst (acck ++ [v]))) σ' en := fun {σ' en} no t0 => by
          have t1 := (t0.apart no).after (F2 := Fl) (H' := He) (k5.trans k7) xkl sl.frz (fun b o h n f => k8 b o (k5 _ _ h n) n (k6 b o h n f)) sl.nf sl.tab
          have t2 : SR X.K (Bs.mk (C := Cg) fun _ => none) Fl He σ' en := t1.weakB (fun b o h => by cases h) (.inl no.nw)
          exact t2.heap (fun b o h => by cases h) (fun b o h => by rw [upd_ne (fun (z : b = Dd) => by rw [z, fDe] at h; cases h)]; exact sl.frz _ _ h) (fun q ⟨j, d, hj, _⟩ => absurd hj (no j d)) (sl.tab.put1 (fun ps z => by rw [hDe] at z; cases z))
        refine ⟨acck, hDe, lt1, hlt1, Fl, acck ++ [v], rsk ++ [xd], upK nc sk, upK nb sko, smk.trans xkl, sjk.trans xkl, ?_, fun b o h n f => k8 b o (k5 _ _ (hhk _ _ h n) n) n (k6 b o (hhk _ _ h n) n (nwk b o h n f)), upd_same, fDe, ?_, by simpa [optL] using hnext1⟩
        · intro b o h n
          have nbD : b ≠ Dd := ne_of_none h hD
          rw [upd_ne nbD]
          exact k7 _ _ (k5 _ _ (hhk _ _ h n) n) n
        · rw [← List.append_assoc]
          exact (rlk.mono xkl).append (.one rpx)
      · have ej : j = ds1.length := by omega
        have := b2 ej
        subst this
        exact .inl ⟨(wkj j Fk H3 (.refl _) sk.frz).2 (by omega), hlt, Fk, acck, rsi ++ rsk, sko, smk, hhk, nwk, hDk, fDk, rlk, hnext⟩
    · have ei : i = ds.length := by omega
      have := a2 ei
      subst this
      refine .inl ⟨(wki i Fi H' sm si.frz).2 (by omega), ?_⟩
      have after : env' = Ts.frz env1 uses → r = .ow (.lst rsi) → Q (.ref Dd) H' := fun h1 h2 => by
        subst h1 h2
        have s3 := s2.after (F2 := Fi) (H' := H') hh sm si.frz nw si.nf si.tab
        exact q _ Fi H' s3 (x1.trans (.trans ⟨x2⟩ ⟨sm⟩)) ⟨Dd, rfl, ⟨acc, hDi, rl⟩, fD, s1.freeB hD, s2.notOwn hD⟩
      split at ev
      · rename_i hc
        simp only [Option.some.injEq, Prod.mk.injEq] at ev
        obtain ⟨rfl, rfl⟩ := ev
        rcases hc with hc | hc
        · exact after (frz_none hc).symm rfl
        · obtain ⟨F4, s4, x4, sT, fr⟩ := s1.restore x2 s2.frz n2 hh sm si.frz nw si.nf si.tab
          exact q _ F4 H' s4 (x1.trans x4) ⟨Dd, rfl, ⟨acc, hDi, rl.flat sT (by rw [D.flats_all]; exact hc)⟩, by rw [fr Dd hD]; exact fD, s1.freeB hD, s1.notOwn hD⟩
      · simp only [Option.some.injEq, Prod.mk.injEq] at ev
        exact after ev.2.symm ev.1.symm
  · cases ev
theorem pi_ex {tgx iter : Expr} {f : En → Option (List D × En)} {X' : Cx} {K : PySem.W.Frag} (h : ∀ B : Bs Cg, PI X' tgx iter (tI K B f)) : PI X' tgx iter (tIx K Cg f) := ⟨fun pins s σ H R I ⟨B, q⟩ => (h B).run pins s σ H R I q⟩
theorem pe_lc2' (g : Gd T N R X sc fb Cg) {own uses own1 : List Nat} {p p1 : Pt} {it it1 : Itx} {e : Ex} {elt iter iter1 : Expr} {scope : Scope} {pos : Pos}
    (hI : ∀ B : Bs Cg, PI X tg iter (tI X.K B (evI R it))) (ok : blkC N sc scope (own.map fun i => (N.getD i ⟨#[]⟩, i)) = true) (hpt : ptOk N (relS scope sc) (fbOf scope) p tg = true) (hpi : ptIn own p = true) (hpt1 : ptOk N (relS scope sc) (fbOf scope) p1 tg1 = true) (hpi1 : ptIn own1 p1 = true) (ho : (own1.all fun i => own.contains i) = true)
    (hI1 : ∀ {X' : Cx}, X'.K = X.K → Gd T N R X' (relS scope sc) (fbOf scope) Cg → ∀ B : Bs Cg, PI X' tg1 iter1 (tI X.K B (evI R it1)))
    (hE : ∀ {X' : Cx}, X'.K = X.K → Gd T N R X' (relS scope sc) (fbOf scope) Cg → ∀ B : Bs Cg, PE X' elt (tE X.K B (evE R e)))
    (hset : ∀ x, foldedSetIterable iter X.env x = pure x) (hset1 : ∀ env x, foldedSetIterable iter1 env x = pure x) :
    PE X (.ListComp elt [⟨tg, iter, [], 0⟩, ⟨tg1, iter1, [], 0⟩] scope pos) (tE X.K B (evE R (.lc2 own uses own1 p it p1 it1 e))) := by
  have base := pe_lc2 (own := own.map fun i => (N.getD i ⟨#[]⟩, i)) (vs1 := own1) (pos := pos) g.calm (by rw [g.hN]; exact g.nd) (hI B) (by rw [g.hN, g.hsc]; exact blkOk_by ok) (by rw [own_map]; exact fun i hi => by simpa using List.all_eq_true.mp ho i hi)
    (g := tP X.K Cg (fun d env => asgP env p d) own) (fun s H C cl fp => pg_p (g.blk s H scope C cl fp) hpt hpi) (fun s H C cl fp => pts_nil)
    (fun s H C cl fp => pi_ex (hI1 (X' := X.blk s H scope (compEnvC scope cl C X.env) fp) rfl (g.blk s H scope C cl fp)))
    (g1 := tP X.K Cg (fun d env => asgP env p1 d) own1) (fun s H C cl fp => pg_p (g.blk s H scope C cl fp) hpt1 hpi1) (fun s H C cl fp => pts_nil)
    (fun s H C cl fp => (⟨fun pins s' σ H' Q I ⟨B', q⟩ => (hE (X' := X.blk s H scope (compEnvC scope cl C X.env) fp) rfl (g.blk s H scope C cl fp) B').run pins s' σ H' Q I q⟩ : PE (X.blk s H scope (compEnvC scope cl C X.env) fp) elt (tEx X.K Cg (evE R e)))) hset hset1
  rw [own_map] at base
  exact base.imp fun σ H Q h => lc2_read g h
theorem ps_setLc2' (g : Gd T N R X sc fb Cg) {i : Nat} {y : Str} {py : Pos} {own uses own1 : List Nat} {p p1 : Pt} {it it1 : Itx} {e : Ex} {elt iter iter1 : Expr} {scope : Scope} {pos spos : Pos}
    (h1 : N[i]? = some y) (h2 : justLoc sc y = true) (hsw : swapsWith (.ListComp elt [⟨tg, iter, [], 0⟩, ⟨tg1, iter1, [], 0⟩] scope pos) (some (.Name y py)) spos.line X.env = pure true)
    (hI : ∀ B : Bs Cg, PI X tg iter (tI X.K B (evI R it))) (ok : blkC N sc scope (own.map fun i => (N.getD i ⟨#[]⟩, i)) = true) (hpt : ptOk N (relS scope sc) (fbOf scope) p tg = true) (hpi : ptIn own p = true) (hpt1 : ptOk N (relS scope sc) (fbOf scope) p1 tg1 = true) (hpi1 : ptIn own1 p1 = true) (ho : (own1.all fun i => own.contains i) = true)
    (hI1 : ∀ {X' : Cx}, X'.K = X.K → Gd T N R X' (relS scope sc) (fbOf scope) Cg → ∀ B : Bs Cg, PI X' tg1 iter1 (tI X.K B (evI R it1)))
    (hE : ∀ {X' : Cx}, X'.K = X.K → Gd T N R X' (relS scope sc) (fbOf scope) Cg → ∀ B : Bs Cg, PE X' elt (tE X.K B (evE R e)))
    (hset : ∀ x, foldedSetIterable iter X.env x = pure x) (hset1 : ∀ env x, foldedSetIterable iter1 env x = pure x) :
    PS X (.Assign [.Name y py] (.ListComp elt [⟨tg, iter, [], 0⟩, ⟨tg1, iter1, [], 0⟩] scope pos) spos) (tAsg (tE X.K B (evE R (.lc2 own uses own1 p it p1 it1 e))) (gName i)) := by
  have base := ps_setLc2 (i := i) (y := y) (py := py) (own := own.map fun i => (N.getD i ⟨#[]⟩, i)) (vs1 := own1) (pos := pos) (spos := spos) g.calm (by rw [g.hN]; exact g.nd) (by rw [g.hN]; exact h1) (just_of g h2) hsw (hI B) (by rw [g.hN, g.hsc]; exact blkOk_by ok) (by rw [own_map]; exact fun i hi => by simpa using List.all_eq_true.mp ho i hi)
    (g := tP X.K Cg (fun d env => asgP env p d) own) (fun s H C cl fp => pg_p (g.blk s H scope C cl fp) hpt hpi) (fun s H C cl fp => pts_nil)
    (fun s H C cl fp => pi_ex (hI1 (X' := X.blk s H scope (compEnvC scope cl C X.env) fp) rfl (g.blk s H scope C cl fp)))
    (g1 := tP X.K Cg (fun d env => asgP env p1 d) own1) (fun s H C cl fp => pg_p (g.blk s H scope C cl fp) hpt1 hpi1) (fun s H C cl fp => pts_nil)
    (fun s H C cl fp => (⟨fun pins s' σ H' Q I ⟨B', q⟩ => (hE (X' := X.blk s H scope (compEnvC scope cl C X.env) fp) rfl (g.blk s H scope C cl fp) B').run pins s' σ H' Q I q⟩ : PE (X.blk s H scope (compEnvC scope cl C X.env) fp) elt (tEx X.K Cg (evE R e)))) hset hset1
  rw [own_map] at base
  exact ⟨fun pins s σ H D I h => base.run pins s σ H D I (lc2_read g h)⟩
end
end Ts

set_option linter.all false
set_option autoImplicit false
set_option maxRecDepth 100000
/-! dict(..), get, dict comprehensions, the keys of one's own dict. -/
namespace Ts
open PySem PySem.Spec PyProof.Rows L2
theorem RpL.pairs {K : PySem.W.Frag} {F : Hp} : ∀ {l : List D} {xs : List V} {ps : List (Key × D)}, RpL K F xs l → pairsD? l = some ps →
    ∃ (as : List Addr) (kvs : List (Key × V)), xs = as.map V.ref ∧ Paired (fun p kv => SqT K F p [kV kv.1, kv.2]) as kvs ∧ RpK K F kvs ps
  | [], _, ps, .nil, e => by
    simp only [pairsD?, Option.some.injEq] at e
    subst e
    exact ⟨[], [], rfl, .nil, .nil⟩
  | d :: l, _, ps, .cons (v := v) (vs := vs) h r, e => by
    match d, e with
    | .tup [k, x], e =>
      simp only [pairsD?, Option.bind_eq_some_iff, Option.some.injEq] at e
      obtain ⟨kk, ek, ps', e2, rfl⟩ := e
      obtain ⟨as, kvs, rfl, h1, h2⟩ := RpL.pairs r e2
      cases h with
      | @tup a xs ds ha hr =>
        cases hr with
        | cons hk hr =>
          cases hr with
          | cons hv hr =>
            cases hr
            have := key_kV (H := F) (.inl hk) ek
            subst this
            exact ⟨a :: as, (kk, _) :: kvs, rfl, .cons (.inl (.inl ha)) h1, .cons hv h2⟩
theorem RpK.merge {K : PySem.W.Frag} {F : Hp} : ∀ {ps : List (Key × D)} {kvs : List (Key × V)} {acc : List (Key × V)} {accD : List (Key × D)}, RpK K F kvs ps → RpK K F acc accD → RpK K F (mergeK acc kvs) (mergeD accD ps)
  | _, _, acc, accD, .nil, ha => ha
  | _, _, acc, accD, .cons h r, ha => RpK.merge (acc := putK acc _ _) (accD := putD accD _ _) r (ha.put h)
section
variable {T : Tb} {N : List Str} {R : Run} {X : Cx} {sc : Scope} {fb : Str → Bool} {Cg : Cfg} {B : Bs Cg}
theorem pairs_ofV {X : Cx} {pins : List (Addr × Obj)} {σ : L2.St} {H : Hp} {s : Shared} (I : Inv X pins σ H s) : ∀ {ps : List Addr} {kvs : List (Key × V)}, Paired (fun p kv => SqT X.K H p [kV kv.1, kv.2]) ps kvs →
    ∃ (prs : List (Key × Value)) (pv : List (Value × Value)), KV kvs prs ∧ prs.length = ps.length ∧ pv.length = ps.length ∧ ∀ (j : Nat) (k v : Value), pv[j]? = some (k, v) → ∃ (b : Addr) (q : Key), ps[j]? = some b ∧ IsTup s.heap b #[k, v] ∧ prs[j]? = some (q, v) ∧ keyIs q k = true
  | _, _, .nil => ⟨[], [], .nil, rfl, rfl, fun j k v e => by simp at e⟩
  | _, _, .cons (a := p) (b := kv) h t => by
    obtain ⟨prs, pv, r, hl, hl2, hp⟩ := pairs_ofV I t
    obtain ⟨its, rv, ht, _⟩ := I.tuple h
    obtain ⟨u, y, ei, ru, ry⟩ := vals2 rv
    subst ei
    refine ⟨(kv.1, y) :: prs, (u, y) :: pv, .cons ⟨rfl, ry⟩ r, by rw [List.length_cons, List.length_cons, hl], by rw [List.length_cons, List.length_cons, hl2], fun j k v e => ?_⟩
    cases j with
    | zero =>
      have e' : (u, y) = (k, v) := Option.some.inj e
      cases e'
      exact ⟨p, kv.1, rfl, ht, rfl, kV_is (P := X.prog) (w := X.w) ru⟩
    | succ j =>
      obtain ⟨b, q, e1, e2, e3, e4⟩ := hp j k v (by simpa using e)
      exact ⟨b, q, by simpa using e1, e2, by simpa using e3, e4⟩
theorem call_dictT {X : Cx} (hcalm : X.calm = true) : CallR X (.type "dict") (fun xs H Q => ∃ (a : Addr) (o : Obj) (ps : List Addr) (kvs : List (Key × V)), xs = [.ref a] ∧ BareT o ∧ H a = some (.frz o (.tup (ps.map V.ref))) ∧ Paired (fun p kv => SqT X.K H p [kV kv.1, kv.2]) ps kvs ∧
    ∀ p, H p = none → Q (.ref p) (upd H p (.dK (mergeK [] kvs)))) := by
  intro pins s σ H xs us Q I r q
  obtain ⟨a, o, ps, kvs, ex, ⟨hc, hd⟩, hq, hp, q⟩ := q
  subst ex
  obtain ⟨u, eu, rx⟩ := vals1 r
  subst eu
  cases rx
  obtain ⟨ho, hz, its, rv, o', ho', hc', n, hdat⟩ := I.hok _ _ hq
  rw [ho] at ho'; cases ho'
  have ei := refs_at rv
  subst ei
  rw [List.length_map] at hz
  obtain ⟨prs, pv, rel, hl, hl2, hpr⟩ := pairs_ofV I hp
  have P := PairArg.tuple (prog := X.prog) (w := X.w) a (ps.map Value.ref).toArray (fun j => (ps[j]?).getD 0) pv
  refine PySem.call_dict_pairs (knd := mixKind X.prog X.w) (kvs := prs) P (I.ok.hd hcalm) ⟨⟨o, n, ho, hc, hd, hdat⟩, by simp [hl2], fun j k v e => ?_⟩ ⟨hl.trans hl2.symm, fun i k v e => ?_⟩ (by rw [hl2]; exact hz) fun h' tk hd' k => ?_
  · obtain ⟨b, q', e1, e2, e3, e4⟩ := hpr j k v e
    exact ⟨by simp [e1], by simp only [e1, Option.getD_some]; exact .inl e2⟩
  · obtain ⟨b, q', e1, e2, e3, e4⟩ := hpr i k v e
    exact ⟨q', e3, e4⟩
  · have hm : (s.heap.objs.size == sysModules) = false := beq_eq_false_iff_ne.mpr (Nat.ne_of_gt I.big)
    have hlen : (mergeK [] kvs).length ≤ sizeLine := by
      refine Nat.le_trans (length_mergeK kvs []) ?_
      rw [List.length_nil, Nat.zero_add, rel.length, hl]
      exact hz
    exact ⟨.ref s.heap.objs.size, upd H s.heap.objs.size (.dK (mergeK [] kvs)), I.laid (t' := tk) (fun b o e => k b o (by simp) e) (Nat.le_refl _) (show ObjOk X.prog X.w _ _ _ (.dK (mergeK [] kvs)) from ⟨hlen, hm, merged [] prs, KV.merge rel .nil, hd'⟩), rfl, q _ (I.hok.fresh (Nat.le_refl _))⟩
theorem pe_dictc' (g : Gd T N R X sc fb Cg) {f : En → Option (Rv × En)} {ea : Expr} {p pos : Pos} (ha : ∀ B : Bs Cg, PE X ea (tE X.K B f)) (h1 : glB sc "dict" = true) (hs : noStar ea = true) :
    PE X (.Call (.Name "dict" p) [ea] [] pos) (tE X.K B (fun env => (f env).bind fun q => (q.1.get q.2).bind fun x => (dictV x).bind fun r => some (.ow r, q.2))) := by
  have base := pe_callTy (pos := pos) (p := p) (CallR.or (call_dictP (X := X) g.calm) (call_dictT (X := X) g.calm)) (gl_of g h1) (g.ot _ (by decide)) (by decide +kernel) (pa_cons (ha B) pa_nil (star_of hs _)) (he := star_of hs _) (hpl := rfl)
  refine base.imp fun σ H Q ⟨F, env, r, env', s, e, q⟩ => ?_
  simp only [Option.bind_eq_some_iff, Option.some.injEq, Prod.mk.injEq] at e
  obtain ⟨q1, e1, x, gx, d, eb, rfl, rfl⟩ := e
  refine ⟨F, env, _, _, s, e1, fun v F1 H1 s1 x1 o1 => ?_⟩
  obtain ⟨F1', s1', y1, st1⟩ := o1.settled s1
  cases x <;> simp only [dictV, reduceCtorEq] at eb
  · rename_i l
    simp only [Option.bind_eq_some_iff, Option.some.injEq] at eb
    obtain ⟨ps, ep, rfl⟩ := eb
    obtain ⟨a, xs, rfl, hH, r⟩ := (st1.cr s1' gx).lst s1'.frz
    obtain ⟨as, kvs, rfl, hpr, hk⟩ := r.pairs ep
    refine .inl ⟨a, as, kvs, rfl, .inl (.inl hH), L2.Paired.mapP hpr fun p kv h => ?_, fun p hp => ?_⟩
    · rcases h with h | h
      · exact .inl (rd_mono s1'.frz h)
      · exact .inr h
    · refine q _ F1' _ (s1'.new hp) (x1.trans y1) ⟨p, rfl, ⟨_, upd_same, hk.merge .nil⟩, s1'.free hp, s1'.freeB hp, s1'.notOwn hp⟩
  · rename_i l
    simp only [Option.bind_eq_some_iff, Option.some.injEq] at eb
    obtain ⟨ps, ep, rfl⟩ := eb
    obtain ⟨a, o, xs, rfl, bt, hH, r⟩ := (st1.cr s1' gx).tpn s1'.frz
    obtain ⟨as, kvs, rfl, hpr, hk⟩ := r.pairs ep
    refine .inr ⟨a, o, as, kvs, rfl, bt, hH, L2.Paired.mapP hpr fun p kv h => ?_, fun p hp => ?_⟩
    · rcases h with h | h
      · exact .inl (rd_mono s1'.frz h)
      · exact .inr h
    · refine q _ F1' _ (s1'.new hp) (x1.trans y1) ⟨p, rfl, ⟨_, upd_same, hk.merge .nil⟩, s1'.free hp, s1'.freeB hp, s1'.notOwn hp⟩
/-! ### t.index(text) of a tuple that is known -/
def tBK (r : V → List V → Hp → VK → Prop) (to : TE) (t : TA) : TE := fun σ H Q => to σ H fun x H1 => (∃ p o u, x = .ref p ∧ BareT o ∧ H1 p = some (.frz o u)) ∧ t σ H1 fun xs H2 => r x xs H2 Q
theorem pe_bK {X : Cx} {o e : Expr} {es : List Expr} {to : TE} {t : TA} {name : Str} {apos cpos : Pos} {id : String} {r : V → List V → Hp → VK → Prop}
    (slot : Slot "tuple" name id) (hty : typeOf (.builtin id) = pure (.type "method_descriptor")) (hm : MtR X id r) (ho : PE X o to) (ha : PA X (e :: es) t)
    (hbase : attributeBase o name X.env (eval o X.env) = eval o X.env := by rfl)
    (hfew : ((backTo cpos (starEach (e :: es) X.env)).all (fun x => !x.1) && (backToKw cpos (keywordEach [] X.env)).all (fun x => x.1.isSome)
      && decide ((e :: es).length + ([] : List Keyword).length + (if ([] : List Keyword).isEmpty then 0 else 1) < 30)) = true := by rfl)
    (hline : (apos.endLine == cpos.line) = true := by rfl) (hs : starEach (e :: es) X.env = (false, eval e X.env) :: starEach es X.env := by rfl) (hplain : (backTo cpos (starEach es X.env)).any (·.1) = false := by rfl) :
    PE X (.Call (.Attribute o name apos) (e :: es) [] cpos) (tBK r to t) := by
  refine ⟨fun pins s σ H Q I h => ?_⟩
  refine wpAny_Call_method_late hbase hfew hline rfl (thn (ho.run pins s σ H _ I h) fun v s1 ⟨x, H1, I1, r1, ⟨p, ob, u, ex, bt, hH⟩, q1⟩ => ?_)
  subst ex
  cases r1
  have hob := (I1.hok _ _ hH).1
  refine ⟨"tuple", id, PySem.F.plainAttrs_tuple, slot, hty, ⟨ob, hob, bt.1⟩, fun a e => ⟨ob, by cases e; exact hob, bt.2⟩, ?_⟩
  have hA := ha.run cpos pins s1 σ H1 _ I1 q1
  rw [hs] at hA ⊢
  refine Calls.callWith_builtin (by show (false || (backTo cpos (starEach es X.env)).any (·.1)) = false; rw [hplain] <;> rfl) (Calls.evalArgs_plain ?_)
  exact thn hA fun us s2 ⟨vs, H2, I2, r2, q2⟩ => hm pins s2 σ H2 (.ref p) vs (.ref p) us Q I2 rfl r2 q2
theorem pe_idxT' {a b : Ex} {ea eb : Expr} {apos cpos : Pos} (ha : ∀ B : Bs Cg, PE X ea (tE X.K B (evE R a))) (hb : ∀ B : Bs Cg, PE X eb (tE X.K B (evE R b))) (hbase : attributeBase ea "index" X.env (eval ea X.env) = eval ea X.env) (hl : (apos.endLine == cpos.line) = true) (hs : noStar eb = true) :
    PE X (.Call (.Attribute ea "index" apos) [eb] [] cpos) (tE X.K B (evE R (.idxT a b))) :=
  (pe_bK PySem.F.slot_tuple_index PySem.F.type_tuple_index mt_tup_index (ha B) (pa_cons (hb B) pa_nil (star_of hs _)) (hbase := hbase) (hfew := by rw [star_of hs]; rfl) (hline := hl) (hs := star_of hs _)).imp fun σ H Q ⟨F, env, r, env', s, e, q⟩ => by
    simp only [evE, Option.bind_eq_some_iff] at e
    obtain ⟨p, e1, p2, e2, x, gx, y, gy, d, eb, e⟩ := e
    split at e
    · rename_i hty
      cases e
      refine ⟨F, env, _, _, s, e1, fun v F1 H1 s1 x1 o1 => ?_⟩
      obtain ⟨F1', s1', y1, st1⟩ := o1.settled s1
      have hp : ∃ l, p.1.get p.2 = some (.tpn l) := by
        cases hg : p.1.get p.2 with
        | none => rw [hg] at hty; cases hty
        | some z => cases z <;> rw [hg] at hty <;> first | (cases hty; done) | exact ⟨_, rfl⟩
      obtain ⟨l0, hp⟩ := hp
      obtain ⟨a0, o0, xs0, hv0, bt, h0, _⟩ := (st1.cr s1' hp).tpn s1'.frz
      subst hv0
      refine ⟨⟨_, _, _, rfl, bt, h0⟩, F1', _, _, _, s1', e2, fun w F2 H2 s2 x2 o2 => ?_⟩
      obtain ⟨F2', s2', y2, st2⟩ := o2.settled s2
      cases x <;> cases y <;> simp only [idxTV, reduceCtorEq] at eb
      rename_i z l
      simp only [Option.bind_eq_some_iff, Option.map_eq_some_iff] at eb
      obtain ⟨ss, es, i, hi, rfl⟩ := eb
      obtain ⟨f1, f2⟩ := findIdx_spec hi
      obtain ⟨a1, o1', xs1, hv1, _, h1, r1⟩ := ((st1.mono (x2.trans y2).ff).cr s2' gx).tpn s2'.frz
      cases hv1
      have := (st2.cr s2' gy).str
      subst this
      have := r1.strs es
      subst this
      exact ⟨a0, ss, _, i, rfl, rfl, .inl (.inr ⟨_, h1⟩), f1, f2, q _ F2' H2 s2' (x1.trans (y1.trans (x2.trans y2))) (.int _)⟩
    · cases e
theorem few2 {e f : Expr} (h1 : noStar e = true) (h2 : noStar f = true) (env : Env) (cpos : Pos) : ((backTo cpos (starEach [e, f] env)).all (fun x => !x.1) && (backToKw cpos (keywordEach [] env)).all (fun x => x.1.isSome)
    && decide (([e, f] : List Expr).length + ([] : List Keyword).length + (if ([] : List Keyword).isEmpty then 0 else 1) < 30)) = true ∧ backTo cpos (starEach [e, f] env) = [(false, eval e env), (false, eval f env)] := by
  rw [star_of h1, star_of h2]
  exact ⟨rfl, rfl⟩
theorem pe_dget' (g : Gd T N R X sc fb Cg) {f fk fd : En → Option (Rv × En)} {ea ek ed : Expr} {apos cpos : Pos} (ha : ∀ B : Bs Cg, PE X ea (tE X.K B f)) (hk : ∀ B : Bs Cg, PE X ek (tE X.K B fk)) (hd : ∀ B : Bs Cg, PE X ed (tE X.K B fd))
    (hbase : attributeBase ea "get" X.env (eval ea X.env) = eval ea X.env) (hl : (apos.endLine == cpos.line) = true) (h1 : noStar ek = true) (h2 : noStar ed = true) :
    PE X (.Call (.Attribute ea "get" apos) [ek, ed] [] cpos) (tE X.K B (fun env => (f env).bind fun p => (fk p.2).bind fun q => (fd q.2).bind fun t => (p.1.get t.2).bind fun x => (q.1.get t.2).bind fun y => (t.1.get t.2).bind fun z => (dgetV x y z).bind fun r => if isDk (p.1.get p.2) = true then some (.sh r, t.2) else none)) := by
  obtain ⟨f1, f2⟩ := few2 h1 h2 X.env cpos
  refine (pe_dget2 (by have := g.un; omega) (ha B) (hk B) (hd B) ⟨hbase, f1, hl, f2⟩).imp fun σ H Q ⟨F, env, r, env', s, e, q⟩ => ?_
  simp only [Option.bind_eq_some_iff] at e
  obtain ⟨p, e1, p2, e2, p3, e3, x, gx, y, gy, z, gz, d, eb, e⟩ := e
  split at e
  · rename_i hty
    simp only [Option.some.injEq, Prod.mk.injEq] at e
    obtain ⟨rfl, rfl⟩ := e
    refine ⟨F, env, _, _, s, e1, fun v F1 H1 s1 x1 o1 => ?_⟩
    obtain ⟨F1', s1', y1, st1⟩ := o1.settled s1
    have hres : ∀ {F3' : Hp} {H3 : Hp} {u : V} {o : Option V} {od : Option D}, RpO X.K F3' o od → Cr X.K F3' H3 u z → scalar z = true → Rp X.K F3' (o.getD u) (od.getD z) := fun {F3' H3 u o od} ho c3 hsc => by
      have hz : Rp X.K F3' u z := by
        rcases c3 with c3 | ⟨p0, rfl, c3⟩
        · exact c3
        · cases z <;> first | exact c3.elim | (simp [scalar] at hsc)
      cases o with
      | none =>
        cases od with
        | none => exact hz
        | some d => exact ho.elim
      | some v' =>
        cases od with
        | none => exact ho.elim
        | some d => exact ho
    have hp : (∃ l, p.1.get p.2 = some (.dk l)) ∨ ∃ l, p.1.get p.2 = some (.dt l) := by
      cases hg : p.1.get p.2 with
      | none => rw [hg] at hty; cases hty
      | some z => cases z <;> rw [hg] at hty <;> first | (cases hty; done) | exact .inl ⟨_, rfl⟩ | exact .inr ⟨_, rfl⟩
    obtain ⟨a0, hv0, h0⟩ : ∃ a0, v = V.ref a0 ∧ ((∃ kvs, Rd H1 a0 (.dK kvs)) ∨ ∃ kvs, Rd H1 a0 (.dT kvs)) := by
      rcases hp with ⟨l, hp⟩ | ⟨l, hp⟩
      · obtain ⟨a0, xs0, e, h0, _⟩ := (st1.cr s1' hp).dk s1'.frz
        exact ⟨a0, e, .inl ⟨_, h0⟩⟩
      · obtain ⟨a0, xs0, e, h0, _⟩ := (st1.cr s1' hp).dt s1'.frz
        exact ⟨a0, e, .inr ⟨_, h0⟩⟩
    subst hv0
    refine ⟨a0, rfl, h0, F1', _, _, _, s1', e2, fun w F2 H2 s2 x2 o2 => ?_⟩
    obtain ⟨F2', s2', y2, st2⟩ := o2.settled s2
    refine ⟨F2', _, _, _, s2', e3, fun u F3 H3 s3 x3 o3 => ?_⟩
    obtain ⟨F3', s3', y3, st3⟩ := o3.settled s3
    have c1 := (st1.mono (x2.trans (y2.trans (x3.trans y3))).ff).cr s3' gx
    have c2 := (st2.mono (x3.trans y3).ff).cr s3' gy
    have c3 := st3.cr s3' gz
    cases x <;> simp only [dgetV, reduceCtorEq] at eb
    · rename_i kvs
      simp only [Option.bind_eq_some_iff] at eb
      obtain ⟨k, ky, eb⟩ := eb
      split at eb
      · rename_i hsc
        simp only [Option.some.injEq] at eb
        subst eb
        obtain ⟨a1, o, ea, hg, ho⟩ := dget_k s3'.frz c1 c2 ky
        cases ea
        exact ⟨o, hg, q _ F3' H3 s3' (x1.trans (y1.trans (x2.trans (y2.trans (x3.trans y3))))) (hres ho c3 hsc)⟩
      · cases eb
    · rename_i kvs
      split at eb
      · rename_i l
        simp only [Option.bind_eq_some_iff] at eb
        obtain ⟨k, ky, eb⟩ := eb
        split at eb
        · rename_i hsc
          simp only [Option.some.injEq] at eb
          subst eb
          obtain ⟨a1, o, ea, hg, ho⟩ := dget_t s3'.frz c1 c2 ky
          cases ea
          exact ⟨o, hg, q _ F3' H3 s3' (x1.trans (y1.trans (x2.trans (y2.trans (x3.trans y3))))) (hres ho c3 hsc)⟩
        · cases eb
      · cases eb
  · cases e
theorem pairs_snoc {rs : List D} {ps : List (Key × D)} {x y : D} {k : Key} (h : pairsD? rs = some ps) (hk : x.key? = some k) : pairsD? (rs ++ [.tup [x, y]]) = some (ps ++ [(k, y)]) := by
  induction rs generalizing ps with
  | nil =>
    simp only [pairsD?, Option.some.injEq] at h
    subst h
    simp [pairsD?, hk]
  | cons d rs ih =>
    match d, h with
    | .tup [a, b], h =>
      simp only [pairsD?, Option.bind_eq_some_iff, Option.some.injEq] at h
      obtain ⟨kk, e1, ps', e2, rfl⟩ := h
      simp [pairsD?, e1, ih e2]
theorem pairs_len {rs : List D} {ps : List (Key × D)} (h : pairsD? rs = some ps) : ps.length = rs.length := by
  induction rs generalizing ps with
  | nil =>
    simp only [pairsD?, Option.some.injEq] at h
    subst h
    rfl
  | cons d rs ih =>
    match d, h with
    | .tup [a, b], h =>
      simp only [pairsD?, Option.bind_eq_some_iff, Option.some.injEq] at h
      obtain ⟨kk, e1, ps', e2, rfl⟩ := h
      simp [ih e2]
theorem merge_snoc (acc ps : List (Key × D)) (k : Key) (y : D) : mergeD acc (ps ++ [(k, y)]) = putD (mergeD acc ps) k y := by
  simp [mergeD]
theorem putD_len {κ : Type} [DecidableEq κ] (l : List (κ × D)) (k : κ) (y : D) : (putD l k y).length ≤ l.length + 1 := by
  unfold putD
  split <;> simp
theorem merge_len (ps : List (Key × D)) : ∀ acc, (mergeD acc ps).length ≤ acc.length + ps.length := by
  induction ps with
  | nil => exact fun acc => Nat.le_refl _
  | cons p ps ih =>
    intro acc
    have h1 := ih (putD acc p.1 p.2)
    have h2 := putD_len acc p.1 p.2
    simp only [mergeD, List.foldl_cons, List.length_cons] at h1 ⊢
    omega
end

/-! ### dict comprehensions without a test -/
def dcStep (R : Run) (p : Pt) (k v : Ex) (envb : En) (d : D) : Option (Option D) :=
  (asgP envb p d).bind fun e1 => (evE R k e1).bind fun a => (a.1.get a.2).bind fun x => x.key?.bind fun _ => (evE R v a.2).bind fun b => (leak b.2 b.1).bind fun y => some (some (.tup [x, y.1]))
def dcV (R : Run) (own uses : List Nat) (p : Pt) (it : Itx) (k v : Ex) (env : En) : Option (Rv × En) :=
  (evI R it env).bind fun q => (lcD (dcStep R p k v (wipeE (hide (frz q.2 uses)) own)) q.1).bind fun ds =>
    if ds.length ≤ bigLine then (pairsD? ds).bind fun ps => if anyOw q.2 uses = false then some (.ow (.dk (mergeD [] ps)), q.2) else none else none
structure DcW (K : PySem.W.Frag) (Cg : Cfg) (R : Run) (p : Pt) (k v : Ex) (envb : En) (ds : List D) (F1 H1 : Hp) (σw : L2.St) (Dd : Addr) (i : Nat) (H : Hp) : Prop where
  le : i ≤ ds.length
  st : ∃ F kvs rs ps, SR K (Bs.mk (C := Cg) fun _ => none) F H σw envb ∧ Same F1 F ∧ SameN Cg.ts H1 H ∧ NewF Cg.ts H1 F1 F ∧ H Dd = some (.dK kvs) ∧ F Dd = none ∧ RpK K F kvs (mergeD [] ps) ∧ lcD (dcStep R p k v envb) (ds.take i) = some rs ∧ pairsD? rs = some ps
section
variable {T : Tb} {N : List Str} {R : Run} {X : Cx} {sc : Scope} {fb : Str → Bool} {Cg : Cfg} {B : Bs Cg} {tg : Expr}
theorem dc_read (g : Gd T N R X sc fb Cg) {own uses : List Nat} {p : Pt} {it : Itx} {k v : Ex} {σ : L2.St} {H : Hp} {Q : VK} (hw : tE X.K B (dcV R own uses p it k v) σ H Q) :
    tDc (tI X.K B (evI R it)) (tP X.K Cg (fun d env => asgP env p d) own) (tCx X.K Cg (evC R .nil)) (tEx X.K Cg (evE R k)) (tEx X.K Cg (evE R v)) own σ H Q := by
  obtain ⟨F, env, r, env', s, ev, q⟩ := hw
  simp only [dcV, Option.bind_eq_some_iff] at ev
  obtain ⟨⟨ds, env1⟩, e1, rs, e2, ev⟩ := ev
  split at ev
  · rename_i hbig
    simp only [Option.bind_eq_some_iff] at ev
    obtain ⟨ps, eps, ev⟩ := ev
    split at ev
    · rename_i hnow
      simp only [Option.some.injEq, Prod.mk.injEq] at ev
      obtain ⟨rfl, rfl⟩ := ev
      refine ⟨F, env, ds, env1, s, e1, fun J F1 H1 s1 x1 wk => fun Dd hD => ?_⟩
      obtain ⟨F2, s2, x2, n2⟩ := frz_ok s1 uses
      generalize henvb : wipeE (hide (Ts.frz env1 uses)) own = envb at e2
      have nb : NoOw envb := by rw [← henvb]; exact wipe_no (hide_no _) own
      have sb : SR X.K (Bs.mk (C := Cg) fun _ => none) F2 H1 (L2.wipe σ own) envb := by
        rw [← henvb]
        exact (s2.hid.wipeBoth own).weakB (fun b o h => by cases h) (.inl (wipe_no (hide_no _) own).nw)
      have f2D : F2 Dd = none := s2.free hD
      refine ⟨fun i m H => m = ds.length - i ∧ DcW X.K Cg R p k v envb ds F2 H1 (L2.wipe σ own) Dd i H, ⟨ds.length, by simp, Nat.zero_le _, F2, [], [], [], sb.new hD, .refl _, .of (same_upd hD), fun b o _ _ h => h, upd_same, f2D, .nil, by simp [lcD], rfl⟩, ?_⟩
      rintro i m H' ⟨rfl, hi, Fi, acc, rsi, psi, si, sm, hh, nw, hDi, fD, rl, el, epi⟩
      have wki := wk.mono x2
      obtain ⟨rs', a1, a2, a3⟩ := lcD_at e2 i
      rw [el] at a1
      cases a1
      by_cases hlt : i < ds.length
      · have hd : ds[i]? = some ds[i] := by simp [hlt]
        obtain ⟨go, yl⟩ := (wki i Fi H' sm si.frz).1 _ hd
        obtain ⟨ri, hs, hnext⟩ := a3 _ hd
        refine .inr ⟨go, fun H'' => DcW X.K Cg R p k v envb ds F2 H1 (L2.wipe σ own) Dd (i + 1) H'', fun H'' w => ⟨_, by omega, rfl, w⟩, fun x Hx hy => ?_⟩
        have res := yl x Hx hy
        -- the item
        obtain ⟨Fx, sx, xx, ox⟩ := res.ok (si.apart nb)
        obtain ⟨k1, k2⟩ := sx.since si.frz xx.ff
        simp only [dcStep, Option.bind_eq_some_iff, Option.some.injEq] at hs
        obtain ⟨e1', ha, ⟨ra, enva⟩, hka, xk, gxk, kk, hkk, ⟨rb, envb2⟩, hvb, ⟨yd, envy⟩, hl, rfl⟩ := hs
        refine ⟨_, Fx, envb, _, e1', sx, ox, ha, fun σ2 sy w2 l2 => ⟨by rw [w2, wipe_wipe], ?_⟩⟩
        have n1 : NoOw e1' := asgP_no nb ha
        refine ⟨_, Fx, e1', true, sy.apart n1, rfl, fun Fc Hc envc sc' xc => ?_⟩
        simp only [if_true]
        obtain ⟨k3, k4⟩ := sc'.since sy.frz xc.ff
        have sz : SR X.K (Bs.mk (C := Cg) fun _ => none) Fc Hc σ2 e1' := by
          have := sy.after (F2 := Fc) (H' := Hc) k3 xc.ff sc'.frz k4 sc'.nf sc'.tab
          exact this.weakB (fun b o h => by cases h) (.inl n1.nw)
        have sbc : SR X.K (Bs.mk (C := Cg) fun _ => none) Fc Hc (L2.wipe σ own) envb := by
          have t1 := (si.apart nb).after (F2 := Fc) (H' := Hc) (k1.trans k3) (xx.ff.trans xc.ff) sc'.frz (fun b o h n f => k4 b o (k1 _ _ h n) n (k2 b o h n f)) sc'.nf sc'.tab
          exact t1.weakB (fun b o h => by cases h) (.inl nb.nw)
        have nwc : NewF Cg.ts H1 F2 Fc := fun b o h n f => k4 b o (k1 _ _ (hh _ _ h n) n) n (k2 b o (hh _ _ h n) n (nw b o h n f))
        have hDc : Hc Dd = some (.dK acc) := k3 _ _ (k1 _ _ hDi trivial) trivial
        have fDc : Fc Dd = none := k4 _ _ (k1 _ _ hDi trivial) trivial (k2 _ _ hDi trivial fD)
        refine ⟨_, Fc, e1', _, _, sz.apart n1, hka, fun kv Fk Hk sk xk' ok => ?_⟩
        obtain ⟨Fk', sk', yk, stk⟩ := ok.settled sk
        have hkv : kv = kV kk := key_kV (stk.cr sk' gxk) hkk
        subst hkv
        refine ⟨_, Fk', _, _, _, sk', hvb, fun zv Fe He se xe oe => ?_⟩
        obtain ⟨Fe', se', ye, ste⟩ := oe.settled se
        obtain ⟨Fl, sl, xl, rpx, _⟩ := ste.leak se' hl
        have xcl : Same Fc Fl := xk'.ff.trans (yk.ff.trans (xe.ff.trans (ye.ff.trans xl.ff)))
        obtain ⟨k5, k6⟩ := sl.since sz.frz xcl
        have hDe : He Dd = some (.dK acc) := k5 _ _ hDc trivial
        have fDe : Fl Dd = none := k6 _ _ hDc trivial fDc
        have lt1 : acc.length < sizeLine := by
          have h1 := lcD_pre e2 (i + 1) hnext
          simp only [optL, List.length_append, List.length_singleton] at h1
          have h2 := pairs_len epi
          have h3 := merge_len psi []
          rw [List.length_nil] at h3
          have h4 : acc.length = (mergeD [] psi).length := rl.length
          have lds : rs.length ≤ bigLine := hbig
          exact big_lt (by omega)
        have hnew := (rl.mono (xx.ff.trans (xc.ff.trans xcl))).put (k := kk) rpx
        rw [← merge_snoc] at hnew
        refine ⟨acc, kk, rfl, hDe, lt1, hlt, Fl, putK acc kk zv, rsi ++ [.tup [xk, yd]], psi ++ [(kk, yd)], ?_, sm.trans (xx.ff.trans (xc.ff.trans xcl)), ?_, fun b o h n f => k6 b o (k3 _ _ (k1 _ _ (hh _ _ h n) n) n) n (nwc b o h n f), upd_same, fDe, hnew, by simpa [optL] using hnext, pairs_snoc epi hkk⟩
        · have t1 : SR X.K (Bs.mk (C := Cg) fun _ => none) Fl He (L2.wipe σ own) envb := (sbc.after (F2 := Fl) (H' := He) k5 xcl sl.frz k6 sl.nf sl.tab)
          exact t1.heap (fun b o h => by cases h) (fun b o h => by rw [upd_ne (fun (z : b = Dd) => by rw [z, fDe] at h; cases h)]; exact sl.frz _ _ h) (fun q ⟨j, d, hj, _⟩ => absurd hj (nb j d)) (sl.tab.put1 (fun ps z => by rw [hDe] at z; cases z))
        · intro b o h n
          have nbD : b ≠ Dd := ne_of_none h hD
          rw [upd_ne nbD]
          exact k5 _ _ (k3 _ _ (k1 _ _ (hh _ _ h n) n) n) n
      · have ei : i = ds.length := by omega
        have := a2 ei
        subst this
        rw [eps] at epi
        cases epi
        refine .inl ⟨(wki i Fi H' sm si.frz).2 (by omega), ?_⟩
        have s3 := s2.after (F2 := Fi) (H' := H') hh sm si.frz nw si.nf si.tab
        rw [frz_none hnow] at s3 s2
        exact q _ Fi H' s3 (x1.trans (.trans ⟨x2⟩ ⟨sm⟩)) ⟨Dd, rfl, ⟨acc, hDi, rl⟩, fD, s1.freeB hD, s2.notOwn hD⟩
    · cases ev
  · cases ev
theorem pe_dc' (g : Gd T N R X sc fb Cg) {own uses : List Nat} {p : Pt} {it : Itx} {k v : Ex} {kx vx iter : Expr} {scope : Scope} {pos : Pos}
    (hI : ∀ B : Bs Cg, PI X tg iter (tI X.K B (evI R it))) (ok : blkC N sc scope (own.map fun i => (N.getD i ⟨#[]⟩, i)) = true) (hpt : ptOk N (relS scope sc) (fbOf scope) p tg = true) (hpi : ptIn own p = true)
    (hK : ∀ {X' : Cx}, X'.K = X.K → Gd T N R X' (relS scope sc) (fbOf scope) Cg → ∀ B : Bs Cg, PE X' kx (tE X.K B (evE R k)))
    (hV : ∀ {X' : Cx}, X'.K = X.K → Gd T N R X' (relS scope sc) (fbOf scope) Cg → ∀ B : Bs Cg, PE X' vx (tE X.K B (evE R v)))
    (hset : ∀ x, foldedSetIterable iter X.env x = pure x) :
    PE X (.DictComp kx vx [⟨tg, iter, [], 0⟩] scope pos) (tE X.K B (dcV R own uses p it k v)) := by
  have base := pe_dc (ifs := []) (tt := tCx X.K Cg (evC R .nil)) (own := own.map fun i => (N.getD i ⟨#[]⟩, i)) (pos := pos) g.calm (by rw [g.hN]; exact g.nd) (hI B) (by rw [g.hN, g.hsc]; exact blkOk_by ok) (g := tP X.K Cg (fun d env => asgP env p d) own) (fun s H C cl fp => pg_p (g.blk s H scope C cl fp) hpt hpi)
    (fun s H C cl fp => pts_nil' (X := X.blk s H scope (compEnvC scope cl C X.env) fp))
    (fun s H C cl fp => (⟨fun pins s' σ H' Q I ⟨B', q⟩ => (hK (X' := X.blk s H scope (compEnvC scope cl C X.env) fp) rfl (g.blk s H scope C cl fp) B').run pins s' σ H' Q I q⟩ : PE (X.blk s H scope (compEnvC scope cl C X.env) fp) kx (tEx X.K Cg (evE R k))))
    (fun s H C cl fp => (⟨fun pins s' σ H' Q I ⟨B', q⟩ => (hV (X' := X.blk s H scope (compEnvC scope cl C X.env) fp) rfl (g.blk s H scope C cl fp) B').run pins s' σ H' Q I q⟩ : PE (X.blk s H scope (compEnvC scope cl C X.env) fp) vx (tEx X.K Cg (evE R v)))) hset
  rw [own_map] at base
  exact base.imp fun σ H Q h => dc_read g h
end
def lkV (R : Run) (own : List Nat) (p : Pt) (i : Nat) (e : Ex) (env : En) : Option (Rv × En) := match env[i]? with
  | some (.ow (.dk es)) => (lcD (lcStep R p .nil e (wipeE (hide (env.set i (.sh (.dk es)))) own)) (es.map fun kv => keyD kv.1)).bind fun ds =>
      if ds.length ≤ bigLine ∧ ds.all D.flat = true then some (.ow (.lst ds), env) else none
  | _ => none
theorem rp_key {K : PySem.W.Frag} {F : Hp} (k : Key) : Rp K F (kV k) (keyD k) := by
  cases k
  · exact .int _
  · exact .str _
theorem RpK.keyAt {K : PySem.W.Frag} {F : Hp} : ∀ {kvs : List (Key × V)} {es : List (Key × D)} {i : Nat} {d : D}, RpK K F kvs es → (es.map fun kv => keyD kv.1)[i]? = some d → ∃ k v, kvs[i]? = some (k, v) ∧ d = keyD k
  | _, _, i, d, .nil, h => by simp at h
  | _, _, 0, d, .cons (k := k) (v := v) h r, e => by
    simp only [List.map_cons, List.getElem?_cons_zero, Option.some.injEq] at e
    exact ⟨k, v, rfl, e.symm⟩
  | _, _, i + 1, d, .cons h r, e => by
    simp only [List.map_cons, List.getElem?_cons_succ] at e
    obtain ⟨k, v, h1, h2⟩ := RpK.keyAt r e
    exact ⟨k, v, by simpa using h1, h2⟩
/-- a new dict stands still from now on -/
theorem pe_lockV {X : Cx} {e : Expr} {t : TE} (h : PE X e t) : PE X e (fun σ H Q => t σ H fun x H1 => ∃ d kvs, x = .ref d ∧ H1 d = some (.dK kvs) ∧ ∀ od, Q x (upd H1 d (.frz od (.dK kvs)))) := by
  refine ⟨fun pins s σ H Q I q => ?_⟩
  refine thn (h.run pins s σ H _ I q) fun v s1 ⟨x, H1, I1, r1, d, kvs, ex, hd, q1⟩ => ?_
  obtain ⟨od, I2⟩ := I1.lock hd True.intro
  exact ⟨x, _, I2, r1, q1 od⟩
theorem wk_keys {K : PySem.W.Frag} {F : Hp} {d : Addr} {od : Obj} {kvs : List (Key × V)} {es : List (Key × D)} (h : F d = some (.frz od (.dK kvs))) (r : RpK K F kvs es) : Wk K (Itk d od kvs) F (es.map fun kv => keyD kv.1) := fun i F2 H s1 s2 => by
  have hq : H d = some (.frz od (.dK kvs)) := s2 _ _ (s1 _ _ h)
  refine ⟨fun x hx => ?_, fun hl => ⟨hq, by rw [r.length]; simpa using hl⟩⟩
  obtain ⟨k, v, e, rfl⟩ := r.keyAt hx
  refine ⟨⟨hq, (List.getElem?_eq_some_iff.mp e).1⟩, fun y H' hy => ?_⟩
  obtain ⟨rfl, k', v', e', rfl⟩ := hy
  rw [e] at e'
  cases e'
  exact .inl ⟨rfl, rp_key k⟩
section
variable {X : Cx} {R : Run} {Cg : Cfg} {B : Bs Cg} {tg : Expr}
theorem pi_dkeys' {a : Ex} {ea : Expr} (ha : ∀ B : Bs Cg, PE X ea (tE X.K B (evE R a))) : PI X tg ea (tI X.K B (evI R (.dkeys a))) :=
  (pi_keys (pe_lockV (ha B))).imp fun σ H Q ⟨F, env, ds, env', s, e, q⟩ => by
    simp only [evI, Option.bind_eq_some_iff] at e
    obtain ⟨⟨r1, env1⟩, e1, e⟩ := e
    split at e
    · rename_i es hr
      have hr' : r1 = .ow (.dk es) := hr
      subst hr'
      cases e
      refine ⟨F, env, _, _, s, e1, fun v F1 H1 s1 x1 o1 => ?_⟩
      obtain ⟨p, rfl, ⟨kvs, hp, rk⟩, fp, bp, np⟩ := o1
      refine ⟨p, kvs, rfl, hp, fun od => ⟨p, od, rfl, .inl ⟨kvs, upd_same, ?_⟩⟩⟩
      have s2 : SR X.K B F1 (upd H1 p (.frz od (.dK kvs))) σ env1 := s1.heap (fun c x z => by rw [upd_ne (fun y => by rw [y, bp] at z; cases z)]; exact s1.bas c x z) (fun c x z => by rw [upd_ne (fun y => by rw [y, fp] at z; cases z)]; exact s1.frz c x z) (fun q z => upd_ne fun y => np (y ▸ z)) (s1.tab.put1 fun ps z => by rw [hp] at z; cases z)
      have s3 := s2.share (o := .frz od (.dK kvs)) upd_same fp bp np rfl
      exact q _ _ _ s3 (x1.trans (ext_share fp)) (wk_keys upd_same (rk.mono (same_upd fp)))
    · cases e
end
section
variable {T : Tb} {N : List Str} {R : Run} {X : Cx} {sc : Scope} {fb : Str → Bool} {Cg : Cfg} {B : Bs Cg} {tg : Expr}
theorem lk_read (g : Gd T N R X sc fb Cg) {own : List Nat} {p : Pt} {j : Nat} {e : Ex} {td : TE} (htd : ∀ σ H (Q : VK) v, σ[j]? = some (some v) → Q v H → td σ H Q) {σ : L2.St} {H : Hp} {Q : VK} (hw : tE X.K B (lkV R own p j e) σ H Q) :
    tLockE (tLc (iKeys td) (tP X.K Cg (fun d env => asgP env p d) own) (tCx X.K Cg (evC R .nil)) (tEx X.K Cg (evE R e)) own) σ H Q := by
  obtain ⟨F, env, r, env', s, ev, q⟩ := hw
  unfold lkV at ev
  split at ev
  · rename_i es henv
    simp only [Option.bind_eq_some_iff] at ev
    obtain ⟨rs, e2, ev⟩ := ev
    split at ev
    · rename_i hb
      obtain ⟨hbig, hflat⟩ := hb
      simp only [Option.some.injEq, Prod.mk.injEq] at ev
      obtain ⟨rfl, rfl⟩ := ev
      obtain ⟨d, hσ, ⟨kvs, hH, rK⟩, fd, bd, pk⟩ := s.ownAt henv
      refine ⟨d, .dK kvs, hH, trivial, fun od => ?_⟩
      -- the locked heap
      have Fl1 : Same F (upd F d (.frz od (.dK kvs))) := same_upd fd
      have nown : ¬ Owns σ (env.set j .u) d := owns_set_ne s (fun d e => nomatch e) hσ henv
      have sl : SR X.K B (upd F d (.frz od (.dK kvs))) (upd H d (.frz od (.dK kvs))) σ (env.set j (.sh (.dk es))) := by
        have s1 : SR X.K B F (upd H d (.frz od (.dK kvs))) σ (env.set j .u) := (s.wipe1 j).heap (fun c x z => by rw [upd_ne (fun y => by rw [y, bd] at z; cases z)]; exact s.bas c x z) (fun c x z => by rw [upd_ne (fun y => by rw [y, fd] at z; cases z)]; exact s.frz c x z) (fun q z => upd_ne fun y => nown (by rw [← y]; exact z)) (s.tab.put1 (fun ps z => by rw [hH] at z; cases z))
        have s2 := s1.share (o := .frz od (.dK kvs)) upd_same fd bd nown rfl
        have s3 := s2.put (i := j) (sl := .sh (.dk es)) ⟨_, hσ, .dk (.inr ⟨od, upd_same⟩) (rK.mono Fl1)⟩ fun d p e => nomatch e
        simpa [List.set_set] using s3
      generalize hF1 : upd F d (.frz od (.dK kvs)) = F1 at sl Fl1
      generalize hH1 : upd H d (.frz od (.dK kvs)) = H1 at sl
      have hH1d : H1 d = some (.frz od (.dK kvs)) := by rw [← hH1]; exact upd_same
      have hF1d : F1 d = some (.frz od (.dK kvs)) := by rw [← hF1]; exact upd_same
      refine htd _ _ _ _ hσ ⟨d, od, rfl, .inl ⟨kvs, hH1d, ?_⟩⟩
      intro Dd hD
      generalize henvb : wipeE (hide (env.set j (.sh (.dk es)))) own = envb at e2
      generalize hds : (es.map fun kv => keyD kv.1) = ds at e2
      have hdl : ds.length = kvs.length := by rw [← hds, List.length_map, rK.length]
      have nb : NoOw envb := by rw [← henvb]; exact wipe_no (hide_no _) own
      have sb : SR X.K (Bs.mk (C := Cg) fun _ => none) F1 H1 (L2.wipe σ own) envb := by
        rw [← henvb]
        exact (sl.hid.wipeBoth own).weakB (fun b o h => by cases h) (.inl (wipe_no (hide_no _) own).nw)
      have f1D : F1 Dd = none := sl.free hD
      refine ⟨fun i m H => m = ds.length - i ∧ LcW X.K Cg R p .nil e envb ds F1 H1 (L2.wipe σ own) Dd i H, ⟨ds.length, by simp, Nat.zero_le _, F1, [], [], sb.new hD, .refl _, .of (same_upd hD), fun b o _ _ h => h, upd_same, f1D, .nil, by simp [lcD]⟩, ?_⟩
      rintro i m H' ⟨rfl, hi, Fi, acc, rsi, si, sm, hh, nw, hDi, fD, rl, el⟩
      have hHd : H' d = some (.frz od (.dK kvs)) := hh _ _ hH1d trivial
      obtain ⟨rs', a1, a2, a3⟩ := lcD_at e2 i
      rw [el] at a1
      cases a1
      by_cases hlt : i < ds.length
      · have hd : ds[i]? = some ds[i] := by simp [hlt]
        obtain ⟨ri, hs, hnext⟩ := a3 _ hd
        obtain ⟨kk, vv, hkv, hdk⟩ := RpK.keyAt (K := X.K) (F := F) rK (i := i) (d := ds[i]) (by rw [hds]; exact hd)
        refine .inr ⟨⟨hHd, by omega⟩, fun H'' => LcW X.K Cg R p .nil e envb ds F1 H1 (L2.wipe σ own) Dd (i + 1) H'', fun H'' w => ⟨_, by omega, rfl, w⟩, fun x Hx hy => ?_⟩
        obtain ⟨rfl, k', v', hk', rfl⟩ := hy
        rw [hkv] at hk'
        cases hk'
        simp only [lcStep, Option.bind_eq_some_iff] at hs
        obtain ⟨e1', ha, c, hc, hs⟩ := hs
        rw [hdk] at ha
        refine ⟨_, Fi, envb, _, e1', si.apart nb, rp_key kk, ha, fun σ2 sy w2 l2 => ⟨by rw [w2, wipe_wipe], ?_⟩⟩
        have n1 : NoOw e1' := asgP_no nb ha
        have hct : c = true := by simp only [evC, Option.some.injEq] at hc; exact hc.symm
        subst hct
        refine ⟨_, Fi, e1', true, sy.apart n1, rfl, fun Fc Hc envc sc' xc => ?_⟩
        obtain ⟨k3, k4⟩ := sc'.since sy.frz xc.ff
        have sz : SR X.K (Bs.mk (C := Cg) fun _ => none) Fc Hc σ2 e1' := by
          have := sy.after (F2 := Fc) (H' := Hc) k3 xc.ff sc'.frz k4 sc'.nf sc'.tab
          exact this.weakB (fun b o h => by cases h) (.inl n1.nw)
        have sbc : SR X.K (Bs.mk (C := Cg) fun _ => none) Fc Hc (L2.wipe σ own) envb := by
          have t1 := (si.apart nb).after (F2 := Fc) (H' := Hc) k3 xc.ff sc'.frz (fun b o h n f => k4 b o h n f) sc'.nf sc'.tab
          exact t1.weakB (fun b o h => by cases h) (.inl nb.nw)
        have nwc : NewF Cg.ts H1 F1 Fc := fun b o h n f => k4 b o (hh _ _ h n) n (nw b o h n f)
        have hDc : Hc Dd = some (.lst acc) := k3 _ _ hDi trivial
        have fDc : Fc Dd = none := k4 _ _ hDi trivial fD
        simp only [if_true, Option.bind_eq_some_iff, Option.some.injEq] at hs ⊢
        obtain ⟨⟨r1, env2⟩, he, ⟨xd, env3⟩, hl, rfl⟩ := hs
        refine ⟨_, Fc, e1', _, _, sz.apart n1, he, fun v Fe He se xe oe => ?_⟩
        obtain ⟨Fe', se', ye, ste⟩ := oe.settled se
        obtain ⟨Fl, sl', xl, rpx, _⟩ := ste.leak se' hl
        have xcl : Same Fc Fl := xe.ff.trans (ye.ff.trans xl.ff)
        obtain ⟨k5, k6⟩ := sl'.since sz.frz xcl
        have hDe : He Dd = some (.lst acc) := k5 _ _ hDc trivial
        have fDe : Fl Dd = none := k6 _ _ hDc trivial fDc
        have lacc : acc.length = rsi.length := rl.length
        have lt1 : acc.length < sizeLine := by
          have := lcD_pre e2 (i + 1) hnext
          simp only [optL, List.length_append, List.length_singleton] at this
          rw [lacc]
          exact big_lt (by omega)
        refine ⟨acc, hDe, lt1, hlt, Fl, acc ++ [v], rsi ++ [xd], ?_, sm.trans (xc.ff.trans xcl), ?_, fun b o h n f => k6 b o (k3 _ _ (hh _ _ h n) n) n (nwc b o h n f), upd_same, fDe, (rl.mono (xc.ff.trans xcl)).append (.one rpx), by simpa [optL] using hnext⟩
        · have t1 : SR X.K (Bs.mk (C := Cg) fun _ => none) Fl He (L2.wipe σ own) envb := (sbc.after (F2 := Fl) (H' := He) k5 xcl sl'.frz k6 sl'.nf sl'.tab)
          exact t1.heap (fun b o h => by cases h) (fun b o h => by rw [upd_ne (fun (z : b = Dd) => by rw [z, fDe] at h; cases h)]; exact sl'.frz _ _ h) (fun q ⟨j, d, hj, _⟩ => absurd hj (nb j d)) (sl'.tab.put1 (fun ps z => by rw [hDe] at z; cases z))
        · intro b o h n
          have nbD : b ≠ Dd := ne_of_none h hD
          rw [upd_ne nbD]
          exact k5 _ _ (k3 _ _ (hh _ _ h n) n) n
      · have ei : i = ds.length := by omega
        have := a2 ei
        subst this
        refine .inl ⟨⟨hHd, by omega⟩, hHd, ?_⟩
        have hDd : Dd ≠ d := fun z => by rw [z, hH1d] at hD; cases hD
        have hHD : H Dd = none := by rw [← hH1, upd_ne hDd] at hD; exact hD
        have hFid : Fi d = some (.frz od (.dK kvs)) := sm _ _ hF1d
        have hkeep : ∀ b o, b ≠ d → H b = some o → Kp Cg.ts b o → H' b = some o := fun b o hb h n => hh _ _ (by rw [← hH1, upd_ne hb]; exact h) n
        let F4 : Hp := fun b => if b = d then none else Fi b
        have F4d : F4 d = none := if_pos rfl
        have F4n : ∀ b, b ≠ d → F4 b = Fi b := fun b hb => if_neg hb
        have FF4 : Same F F4 := fun b o h => by
          have hb : b ≠ d := fun z => by rw [z, fd] at h; cases h
          rw [F4n b hb]
          exact sm _ _ (Fl1 _ _ h)
        have FiN : ∀ b o, b ≠ d → H b = some o → Kp Cg.ts b o → F b = none → Fi b = none := fun b o hb h n f => nw b o (by rw [← hH1, upd_ne hb]; exact h) n (by rw [← hF1, upd_ne hb]; exact f)
        have s4 : SR X.K B F4 (upd H' d (.dK kvs)) σ env := by
          refine ⟨s.len, fun b o h => ?_, fun b o h => ?_, fun b o h => ?_, fun i sl h => ?_, s.inj, s.nb, fun b o h => si.nf b o (by by_cases hb : b = d; (· rw [hb, F4d] at h; cases h); (· rw [F4n b hb] at h; exact h)), si.tab.put1 (fun ps z => by rw [hHd] at z; cases z)⟩
          · have hb : b ≠ d := fun z => by rw [z, bd] at h; cases h
            rw [upd_ne hb]
            exact hkeep b o hb (s.bas b o h) (s.nb _ _ h)
          · have hb : b ≠ d := fun z => by rw [z, F4d] at h; cases h
            rw [upd_ne hb]
            rw [F4n b hb] at h
            exact si.frz b o h
          · have hb : b ≠ d := fun z => by rw [z, bd] at h; cases h
            rw [F4n b hb]
            exact FiN b o hb (s.bas b o h) (s.nb _ _ h) (s.dis b o h)
          · cases sl with
            | u => trivial
            | sh x => obtain ⟨v, e, r⟩ := s.sh h; exact ⟨v, e, r.mono FF4⟩
            | nw x => obtain ⟨p', e', o'⟩ := s.slot i _ h; exact ⟨p', e', o'.mono FF4⟩
            | ow x =>
              obtain ⟨p', e', o', f', b'⟩ := s.ownAt h
              by_cases hpd : p' = d
              · subst hpd
                have hij := s.inj i j x (.dk es) p' h henv e' hσ
                subst hij
                rw [henv] at h
                cases h
                exact ⟨p', e', ⟨kvs, upd_same, rK.mono FF4⟩, F4d, b'⟩
              · obtain ⟨u, hu, _, nt⟩ := o'.some
                refine ⟨p', e', o'.mono FF4 ?_, ?_, b'⟩
                · rw [upd_ne hpd, hu]
                  exact hkeep p' u hpd hu (kp_of nt)
                · rw [F4n p' hpd]
                  exact FiN p' u hpd hu (kp_of nt) f'
        have sT : SameT Fi F4 := fun b xs htp h => by
          have hb : b ≠ d := fun z => by rw [z, hFid] at h; cases h; cases htp
          rw [F4n b hb]
          exact h
        refine q _ F4 _ s4 ⟨FF4⟩ ⟨Dd, rfl, ⟨acc, by rw [upd_ne hDd]; exact hDi, rl.flat sT (by rw [D.flats_all]; exact hflat)⟩, by rw [F4n Dd hDd]; exact fD, s.freeB hHD, s.notOwn hHD⟩
    · cases ev
  · cases ev
theorem pe_lk' (g : Gd T N R X sc fb Cg) {own : List Nat} {p : Pt} {j : Nat} {y : Str} {py : Pos} {e : Ex} {elt : Expr} {scope : Scope} {pos : Pos}
    (h1 : N[j]? = some y) (h2 : visB sc y = true) (h3 : nameOk y = true) (ok : blkC N sc scope (own.map fun i => (N.getD i ⟨#[]⟩, i)) = true) (hpt : ptOk N (relS scope sc) (fbOf scope) p tg = true) (hpi : ptIn own p = true)
    (hE : ∀ {X' : Cx}, X'.K = X.K → Gd T N R X' (relS scope sc) (fbOf scope) Cg → ∀ B : Bs Cg, PE X' elt (tE X.K B (evE R e))) :
    PE X (.ListComp elt [⟨tg, .Name y py, [], 0⟩] scope pos) (tE X.K B (lkV R own p j e)) := by
  have hv := pe_var (X := X) (i := j) (x := y) (pos := py) (by rw [g.hN]; exact h1) (vis_of g h2) (dbg_of h3).1 (dbg_of h3).2
  have base := pe_lock (pe_lc (own := own.map fun i => (N.getD i ⟨#[]⟩, i)) (pos := pos) (ifs := []) (tt := tCx X.K Cg (evC R .nil)) g.calm (by rw [g.hN]; exact g.nd) (pi_keys (tg := tg) hv) (by rw [g.hN, g.hsc]; exact blkOk_by ok) (g := tP X.K Cg (fun d env => asgP env p d) own) (fun s H C cl fp => pg_p (g.blk s H scope C cl fp) hpt hpi)
    (fun s H C cl fp => pts_nil' (X := X.blk s H scope (compEnvC scope cl C X.env) fp)) (fun s H C cl fp => (⟨fun pins s' σ H' Q I ⟨B', q⟩ => (hE (X' := X.blk s H scope (compEnvC scope cl C X.env) fp) rfl (g.blk s H scope C cl fp) B').run pins s' σ H' Q I q⟩ : PE (X.blk s H scope (compEnvC scope cl C X.env) fp) elt (tEx X.K Cg (evE R e)))) (fun _ => rfl))
  rw [own_map] at base
  exact base.imp fun σ H Q h => lk_read g (fun σ H Q v hv hq => ⟨v, hv, hq⟩) h
end
section
variable {X : Cx}
theorem ps_setDc {i : Nat} {y : Str} {py : Pos} {kx vx tg iter : Expr} {ifs : List Expr} {scope : Scope} {own : List (Str × Nat)} {pos spos : Pos} {wi : TI} {g : TG} {tt : TT} {tk tv : TE} (hc : X.calm = true) (hN : X.N.Nodup) (hy : X.N[i]? = some y) (hyl : X.env.scope.names.lookup y = some .local)
    (hsw : swapsWith (.DictComp kx vx [⟨tg, iter, ifs, 0⟩] scope pos) (some (.Name y py)) spos.line X.env = pure true) (hi : PI X tg iter wi) (ok : BlkOk X.N X.env.scope scope own)
    (hg : ∀ (s : Shared) (H : Hp) (C : Addr) (cl : List (Str × Addr)) (fp : List Addr), PG (X.blk s H scope (compEnvC scope cl C X.env) fp) tg g) (ht : ∀ (s : Shared) (H : Hp) (C : Addr) (cl : List (Str × Addr)) (fp : List Addr), PTs (X.blk s H scope (compEnvC scope cl C X.env) fp) ifs tt)
    (hk : ∀ (s : Shared) (H : Hp) (C : Addr) (cl : List (Str × Addr)) (fp : List Addr), PE (X.blk s H scope (compEnvC scope cl C X.env) fp) kx tk)
    (he : ∀ (s : Shared) (H : Hp) (C : Addr) (cl : List (Str × Addr)) (fp : List Addr), PE (X.blk s H scope (compEnvC scope cl C X.env) fp) vx tv) (hs : ∀ x, foldedSetIterable iter X.env x = pure x) :
    PS X (.Assign [.Name y py] (.DictComp kx vx [⟨tg, iter, ifs, 0⟩] scope pos) spos) (tAsg (tDc wi g tt tk tv (own.map (·.2))) (gName i)) := by
  refine ⟨fun pins s σ H D I h => ?_⟩
  rw [exec_Assign_Name_used _ _ _ _ hsw]
  refine wpAny_bind (wpAny_standAt (wpAny_bind ?_))
  show wpAny _ X.A (do let _ ← comprehension (.DictComp kx vx [⟨tg, iter, ifs, 0⟩] scope pos) scope X.env (firstIterPos [⟨tg, iter, ifs, 0⟩] pos) newDict false (eval iter X.env) (some (assign (.Name y py) X.env))) _ _ s
  have h : tDc wi g tt tk tv (own.map (·.2)) σ H (fun x H1 => gName i x σ H1 D.nx) := h
  refine wpAny_bind (thn (dc_core (Qf := fun _ s' => SP X pins D .next s') hc hN I hi ok hg ht hk he hs h fun L C s' m H' I' q hn f => ?_) fun _ s' hq => wpAny_pure (wpAny_pure hq))
  show wpAny _ _ (assign (.Name y py) X.env (.ref L)) _ _ _
  refine wpAny_assign_Name (store_ok2 (v := V.ref L) I' hN hy (.inl hyl) rfl (fun s2 I2 ⟨a, sb, ha⟩ => ?_) (.inr hyl))
  obtain ⟨f0, f1, f2, f3, f4, f5⟩ := f
  have haC : C ≠ a := by
    rcases ha with z | z
    · rw [z]; exact f1
    · exact fun e => f4 y a z e.symm
  refine ⟨m, hn.sameBut sb haC, fun h3 sb3 => ?_⟩
  exact ⟨_, H', I2.turned (t' := s2.toks) (fun b o hb e => (sb3.2 b hb).trans e) f0 f1 f3 f4 f5, q⟩
end
section
variable {T : Tb} {N : List Str} {R : Run} {X : Cx} {sc : Scope} {fb : Str → Bool} {Cg : Cfg} {B : Bs Cg} {tg : Expr}
theorem ps_setDc' (g : Gd T N R X sc fb Cg) {i : Nat} {y : Str} {py : Pos} {own uses : List Nat} {p : Pt} {it : Itx} {k v : Ex} {kx vx iter : Expr} {scope : Scope} {pos spos : Pos}
    (h1 : N[i]? = some y) (h2 : justLoc sc y = true) (hsw : swapsWith (.DictComp kx vx [⟨tg, iter, [], 0⟩] scope pos) (some (.Name y py)) spos.line X.env = pure true)
    (hI : ∀ B : Bs Cg, PI X tg iter (tI X.K B (evI R it))) (ok : blkC N sc scope (own.map fun i => (N.getD i ⟨#[]⟩, i)) = true) (hpt : ptOk N (relS scope sc) (fbOf scope) p tg = true) (hpi : ptIn own p = true)
    (hK : ∀ {X' : Cx}, X'.K = X.K → Gd T N R X' (relS scope sc) (fbOf scope) Cg → ∀ B : Bs Cg, PE X' kx (tE X.K B (evE R k)))
    (hV : ∀ {X' : Cx}, X'.K = X.K → Gd T N R X' (relS scope sc) (fbOf scope) Cg → ∀ B : Bs Cg, PE X' vx (tE X.K B (evE R v)))
    (hset : ∀ x, foldedSetIterable iter X.env x = pure x) :
    PS X (.Assign [.Name y py] (.DictComp kx vx [⟨tg, iter, [], 0⟩] scope pos) spos) (tAsg (tE X.K B (dcV R own uses p it k v)) (gName i)) := by
  have base := ps_setDc (ifs := []) (tt := tCx X.K Cg (evC R .nil)) (i := i) (y := y) (py := py) (own := own.map fun i => (N.getD i ⟨#[]⟩, i)) (pos := pos) (spos := spos) g.calm (by rw [g.hN]; exact g.nd) (by rw [g.hN]; exact h1) (just_of g h2) hsw (hI B) (by rw [g.hN, g.hsc]; exact blkOk_by ok) (g := tP X.K Cg (fun d env => asgP env p d) own) (fun s H C cl fp => pg_p (g.blk s H scope C cl fp) hpt hpi)
    (fun s H C cl fp => pts_nil' (X := X.blk s H scope (compEnvC scope cl C X.env) fp))
    (fun s H C cl fp => (⟨fun pins s' σ H' Q I ⟨B', q⟩ => (hK (X' := X.blk s H scope (compEnvC scope cl C X.env) fp) rfl (g.blk s H scope C cl fp) B').run pins s' σ H' Q I q⟩ : PE (X.blk s H scope (compEnvC scope cl C X.env) fp) kx (tEx X.K Cg (evE R k))))
    (fun s H C cl fp => (⟨fun pins s' σ H' Q I ⟨B', q⟩ => (hV (X' := X.blk s H scope (compEnvC scope cl C X.env) fp) rfl (g.blk s H scope C cl fp) B').run pins s' σ H' Q I q⟩ : PE (X.blk s H scope (compEnvC scope cl C X.env) fp) vx (tEx X.K Cg (evE R v)))) hset
  rw [own_map] at base
  exact ⟨fun pins s σ H D I h => base.run pins s σ H D I (dc_read g h)⟩
end
end Ts

set_option linter.all false
set_option autoImplicit false
set_option maxRecDepth 100000
/-! Calls of defs that change their last arguments: one's own lists and dicts. -/
namespace Ts
open PySem PySem.Spec PyProof.Rows L2

theorem bos_spec : ∀ {rs : List Rv} {is : List Nat}, bos rs = some is → rs = is.map Rv.bo
  | [], is, h => by simp only [bos, Option.some.injEq] at h; subst h; rfl
  | .bo i :: rs, is, h => by
    simp only [bos, Option.bind_eq_some_iff, Option.some.injEq] at h
    obtain ⟨is', h1, rfl⟩ := h
    rw [bos_spec h1]; rfl
  | .sh _ :: _, _, h => by simp [bos] at h
  | .ow _ :: _, _, h => by simp [bos] at h
theorem putAll_get : ∀ {is : List Nat} {ds : List D} {env e : En}, is.Nodup → putAll env is ds = some e → is.length = ds.length ∧ e.length = env.length ∧ (∀ i, i ∉ is → e[i]? = env[i]?) ∧ (∀ (j i : Nat), is[j]? = some i → ∃ d d0, ds[j]? = some d ∧ e[i]? = some (Sl.ow d) ∧ env[i]? = some (Sl.ow d0))
  | [], [], env, e, _, h => by
    simp only [putAll, Option.some.injEq] at h
    subst h
    exact ⟨rfl, rfl, fun _ _ => rfl, fun j i hj => by simp at hj⟩
  | i :: is, d :: ds, env, e, hn, h => by
    rw [List.nodup_cons] at hn
    simp only [putAll, Option.bind_eq_some_iff] at h
    obtain ⟨e1, h1, h⟩ := h
    obtain ⟨a1, a2, a3, a4⟩ := putAll_get hn.2 h1
    split at h
    · rename_i d0 hd0
      simp only [Option.some.injEq] at h
      subst h
      have hlt := lt_of_get hd0
      refine ⟨by simp [a1], by simp [a2], fun k hk => ?_, fun j k hj => ?_⟩
      · rw [List.mem_cons, not_or] at hk
        rw [get_set, if_neg (fun z => hk.1 z.symm)]
        exact a3 k hk.2
      · cases j with
        | zero =>
          simp only [List.getElem?_cons_zero, Option.some.injEq] at hj
          subst hj
          exact ⟨d, d0, by simp, by rw [get_set, if_pos rfl, if_pos hlt], by rw [← a3 i hn.1]; exact hd0⟩
        | succ j =>
          simp only [List.getElem?_cons_succ] at hj ⊢
          obtain ⟨d1, d2, b1, b2, b3⟩ := a4 j k hj
          have hik : i ≠ k := fun z => hn.1 (z ▸ List.mem_of_getElem? hj)
          exact ⟨d1, d2, b1, by rw [get_set, if_neg hik]; exact b2, b3⟩
    · cases h
  | [], _ :: _, _, _, _, h => by simp [putAll] at h
  | _ :: _, [], _, _, _, h => by simp [putAll] at h
def AtL (σ : L2.St) : List Nat → List Addr → Prop
  | [], [] => True
  | i :: is, a :: as => σ[i]? = some (some (V.ref a)) ∧ AtL σ is as
  | _, _ => False
theorem AtL.mem {σ : L2.St} : ∀ {is : List Nat} {as : List Addr} {a : Addr}, AtL σ is as → a ∈ as → ∃ i ∈ is, σ[i]? = some (some (V.ref a))
  | [], [], _, _, h => by cases h
  | i :: is, b :: as, a, h, hm => by
    rcases List.mem_cons.mp hm with e | hm
    · exact ⟨i, List.mem_cons_self .., e ▸ h.1⟩
    · obtain ⟨k, hk, e⟩ := AtL.mem h.2 hm
      exact ⟨k, List.mem_cons_of_mem _ hk, e⟩
  | [], _ :: _, _, h, _ => h.elim
  | _ :: _, [], _, h, _ => h.elim
theorem AtL.get {σ : L2.St} : ∀ {is : List Nat} {as : List Addr} {j i : Nat}, AtL σ is as → is[j]? = some i → ∃ a, as[j]? = some a ∧ σ[i]? = some (some (V.ref a))
  | [], _, _, _, _, h => by simp at h
  | i :: is, a :: as, 0, k, h, e => by simp at e; subst e; exact ⟨a, by simp, h.1⟩
  | i :: is, a :: as, j + 1, k, h, e => by
    obtain ⟨b, h1, h2⟩ := AtL.get (j := j) h.2 (by simpa using e)
    exact ⟨b, by simpa using h1, h2⟩
  | _ :: _, [], _, _, h, _ => h.elim
theorem OwnL.get {K : PySem.W.Frag} {F H : Hp} : ∀ {as : List Addr} {ds : List D} {j : Nat} {a : Addr} {d : D}, OwnL K F H as ds → as[j]? = some a → ds[j]? = some d → OwnAt K F H a d ∧ F a = none
  | [], [], _, _, _, _, h, _ => by simp at h
  | b :: as, c :: ds, 0, a, d, h, e1, e2 => by simp at e1 e2; subst e1 e2; exact ⟨h.1, h.2.1⟩
  | b :: as, c :: ds, j + 1, a, d, h, e1, e2 => OwnL.get (j := j) h.2.2 (by simpa using e1) (by simpa using e2)
  | [], _ :: _, _, _, _, h, _, _ => h.elim
  | _ :: _, [], _, _, _, h, _, _ => h.elim
theorem OwnL.length {K : PySem.W.Frag} {F H : Hp} : ∀ {as : List Addr} {ds : List D}, OwnL K F H as ds → as.length = ds.length
  | [], [], _ => rfl
  | _ :: as, _ :: ds, h => by simp [OwnL.length h.2.2]
  | [], _ :: _, h => h.elim
  | _ :: _, [], h => h.elim
theorem OwnL.mono {K : PySem.W.Frag} {F F' H H' : Hp} (s : Same F F') : ∀ {as : List Addr} {ds : List D}, OwnL K F H as ds → (∀ a ∈ as, H' a = H a) → (∀ a ∈ as, F' a = none) → OwnL K F' H' as ds
  | [], [], _, _, _ => trivial
  | a :: as, d :: ds, h, k, f => ⟨h.1.mono s (k a (List.mem_cons_self ..)), f a (List.mem_cons_self ..), OwnL.mono s h.2.2 (fun b hb => k b (List.mem_cons_of_mem _ hb)) fun b hb => f b (List.mem_cons_of_mem _ hb)⟩
  | [], _ :: _, h, _, _ => h.elim
  | _ :: _, [], h, _, _ => h.elim
section
variable {K : PySem.W.Frag} {Cg : Cfg} {B : Bs Cg} {F H : Hp} {σ : L2.St} {env : En}
theorem SetL.noBo : ∀ {vs : List V} {rs : List Rv} {ds : List D}, SetL K F σ vs rs → noBo rs = true → getAll env rs = some ds → RpL K F vs ds
  | _, _, ds, .nil, _, e => by simp only [getAll, Option.some.injEq] at e; subst e; exact .nil
  | _, .sh d :: rs, ds, .cons h t, n, e => by
    simp only [getAll, Option.bind_eq_some_iff, Option.some.injEq] at e
    obtain ⟨d', e1, ds', e2, rfl⟩ := e
    cases e1
    exact .cons h (SetL.noBo t n e2)
  | _, .ow d :: rs, ds, .cons h t, n, e => by
    simp only [getAll, Option.bind_eq_some_iff, Option.some.injEq] at e
    obtain ⟨d', e1, ds', e2, rfl⟩ := e
    cases e1
    exact .cons h (SetL.noBo t n e2)
  | _, .bo i :: rs, ds, .cons h t, n, e => by cases n
theorem SetL.split : ∀ {rs rs' : List Rv} {vs : List V}, SetL K F σ vs (rs ++ rs') → ∃ vs0 vs1, vs = vs0 ++ vs1 ∧ SetL K F σ vs0 rs ∧ SetL K F σ vs1 rs'
  | [], rs', vs, h => ⟨[], vs, rfl, .nil, h⟩
  | r :: rs, rs', _, .cons h t => by
    obtain ⟨v0, v1, e, h1, h2⟩ := SetL.split t
    exact ⟨_ :: v0, v1, by rw [e]; rfl, .cons h h1, h2⟩
theorem getAll_split : ∀ {rs rs' : List Rv} {ds : List D}, getAll env (rs ++ rs') = some ds → ∃ d0 d1, ds = d0 ++ d1 ∧ getAll env rs = some d0 ∧ getAll env rs' = some d1
  | [], rs', ds, h => ⟨[], ds, rfl, rfl, h⟩
  | r :: rs, rs', ds, h => by
    simp only [List.cons_append, getAll, Option.bind_eq_some_iff, Option.some.injEq] at h
    obtain ⟨d, h1, ds', h2, rfl⟩ := h
    obtain ⟨d0, d1, rfl, h3, h4⟩ := getAll_split h2
    exact ⟨d :: d0, d1, rfl, by simp only [getAll, h1, h3, Option.bind_some], h4⟩
theorem getAll_len : ∀ {rs : List Rv} {ds : List D}, getAll env rs = some ds → ds.length = rs.length
  | [], ds, h => by simp only [getAll, Option.some.injEq] at h; subst h; rfl
  | r :: rs, ds, h => by
    simp only [getAll, Option.bind_eq_some_iff, Option.some.injEq] at h
    obtain ⟨d, h1, ds', h2, rfl⟩ := h
    simp [getAll_len h2]
theorem bos_own (s : SR K B F H σ env) : ∀ {is : List Nat} {vs : List V} {ms : List D}, SetL K F σ vs (is.map Rv.bo) → getAll env (is.map Rv.bo) = some ms → (∀ i ∈ is, ∃ d, env[i]? = some (Sl.ow d)) → ∃ as, vs = as.map V.ref ∧ AtL σ is as ∧ OwnL K F H as ms ∧ as.length = is.length
  | [], _, ms, .nil, e, _ => by
    simp only [List.map_nil, getAll, Option.some.injEq] at e
    subst e
    exact ⟨[], rfl, trivial, trivial, rfl⟩
  | i :: is, _, ms, .cons h t, e, k => by
    simp only [List.map_cons, getAll, Option.bind_eq_some_iff, Option.some.injEq] at e
    obtain ⟨d, e1, ms', e2, rfl⟩ := e
    obtain ⟨as, rfl, h1, h2, h3⟩ := bos_own s t e2 fun j hj => k j (List.mem_cons_of_mem _ hj)
    obtain ⟨d0, hd0⟩ := k i (List.mem_cons_self ..)
    have : d = d0 := by
      simp only [Rv.get, getAt, hd0, Option.bind_some, slD, Option.some.injEq] at e1
      exact e1.symm
    subst this
    obtain ⟨p, hp, o, f, _⟩ := s.ownAt hd0
    have hv : σ[i]? = some (some _) := h
    rw [hp] at hv
    cases hv
    exact ⟨p :: as, rfl, ⟨hp, h1⟩, ⟨o, f, h2⟩, by simp [h3]⟩
theorem atL_nodup (s : SR K B F H σ env) : ∀ {is : List Nat} {as : List Addr}, is.Nodup → AtL σ is as → (∀ i ∈ is, ∃ d, env[i]? = some (Sl.ow d)) → as.Nodup
  | [], [], _, _, _ => List.nodup_nil
  | i :: is, a :: as, hn, h, k => by
    rw [List.nodup_cons] at hn ⊢
    refine ⟨fun hm => ?_, atL_nodup s hn.2 h.2 fun j hj => k j (List.mem_cons_of_mem _ hj)⟩
    obtain ⟨j, hj, e⟩ := h.2.mem hm
    obtain ⟨d, hd⟩ := k i (List.mem_cons_self ..)
    obtain ⟨d', hd'⟩ := k j (List.mem_cons_of_mem _ hj)
    exact hn.1 (s.inj i j d d' a hd hd' h.1 e ▸ hj)
  | [], _ :: _, _, h, _ => h.elim
  | _ :: _, [], _, h, _ => h.elim
/-- behind a call that has changed things of one's own -/
theorem SR.afterM (s : SR K B F H σ env) {F2 H' : Hp} {is : List Nat} {as : List Addr} {fs : List D} {e : En} (hn : is.Nodup) (he : putAll env is fs = some e) (ha : AtL σ is as) (hh : SameM Cg.ts as H H') (s12 : Same F F2) (s2 : Same F2 H') (nw : NewF Cg.ts H F F2) (nt2 : NoT F2) (tb : Tabs Cg.ts H') (ow : OwnL K F2 H' as fs) : SR K B F2 H' σ e := by
  obtain ⟨p1, p2, p3, p4⟩ := putAll_get hn he
  have isOw : ∀ i ∈ is, ∃ d, env[i]? = some (Sl.ow d) := fun i hi => by
    obtain ⟨j, hj⟩ := List.getElem?_of_mem hi
    obtain ⟨_, d0, _, _, h⟩ := p4 j i hj
    exact ⟨d0, h⟩
  have own : ∀ a ∈ as, ∃ i ∈ is, ∃ d, env[i]? = some (Sl.ow d) ∧ σ[i]? = some (some (V.ref a)) := fun a h => by
    obtain ⟨i, hi, e1⟩ := ha.mem h
    obtain ⟨d, hd⟩ := isOw i hi
    exact ⟨i, hi, d, hd, e1⟩
  have back : ∀ (i : Nat) (d : D), e[i]? = some (Sl.ow d) → ∃ d0, env[i]? = some (Sl.ow d0) := fun i d h => by
    by_cases hi : i ∈ is
    · exact isOw i hi
    · rw [p3 i hi] at h; exact ⟨d, h⟩
  refine ⟨by rw [p2]; exact s.len, fun b o h => hh b o (s.bas _ _ h) (s.nb _ _ h) fun hb => ?_, s2, fun b o h => nw b o (s.bas _ _ h) (s.nb _ _ h) (s.dis b o h), fun i sl h => ?_, fun i j d d' p h1 h2 e1 e2 => ?_, s.nb, nt2, tb⟩
  · obtain ⟨i, _, d, h1, h2⟩ := own b hb
    have := (s.ownsNone ⟨i, d, h1, h2⟩).2.1
    rw [h] at this; cases this
  · by_cases hi : i ∈ is
    · obtain ⟨j, hj⟩ := List.getElem?_of_mem hi
      obtain ⟨d, d0, h1, h2, h3⟩ := p4 j i hj
      obtain ⟨a, ha1, ha2⟩ := ha.get hj
      rw [h2] at h
      cases h
      obtain ⟨o, f⟩ := ow.get ha1 h1
      obtain ⟨p, e1, _, _, b, pk⟩ := s.ownAt h3
      rw [ha2] at e1
      cases e1
      exact ⟨a, ha2, o, f, b, pk⟩
    · rw [p3 i hi] at h
      cases sl with
      | u => trivial
      | sh d => obtain ⟨v, e, r⟩ := s.sh h; exact ⟨v, e, r.mono s12⟩
      | nw x => obtain ⟨p', e', o'⟩ := s.slot i _ h; exact ⟨p', e', o'.mono s12⟩
      | ow d =>
        obtain ⟨p, e, o, f, b⟩ := s.ownAt h
        obtain ⟨u, hu, _, nt⟩ := o.some
        have hp : p ∉ as := fun hp => by
          obtain ⟨k, hk, d', h1, h2⟩ := own p hp
          exact hi (s.inj k i d' d p h1 h h2 e ▸ hk)
        exact ⟨p, e, o.mono s12 (by rw [hh _ _ hu (kp_of nt) hp, hu]), nw p u hu (kp_of nt) f, b⟩
  · obtain ⟨c1, g1⟩ := back i d h1
    obtain ⟨c2, g2⟩ := back j d' h2
    exact s.inj i j c1 c2 p g1 g2 e1 e2
end
section
variable {T : Tb} {N : List Str} {R : Run} {X : Cx} {sc : Scope} {fb : Str → Bool} {Cg : Cfg} {B : Bs Cg}
theorem pe_callM' (g : Gd T N R X sc fb Cg) {f m : Nat} {x : Str} {as : Exs} {ea : Expr} {es : List Expr} {p pos : Pos} (h : ∀ B : Bs Cg, PA X (ea :: es) (tA X.K B (evA R as))) (hf : T.nmM f = some (x, m)) (hg : glB sc x = true) (hn : nameOk x = true) (hs : ∀ e ∈ ea :: es, noStar e = true) :
    PE X (.Call (.Name x p) (ea :: es) [] pos) (tE X.K B (evE R (.callM f as m))) := by
  obtain ⟨fa, fd, k, ps, n, FO, hr, hm, hk, hb, har⟩ := g.callsM f x m hf
  refine (pe_call FO hr (gl_of g hg) hm hk hb .nil pass0 (h B) (dbg_of hn).1 (star_of (hs _ (List.mem_cons_self ..)) _) (back_of _ _ fun e he => hs e (List.mem_cons_of_mem _ he))).imp fun σ H Q ⟨F, env, r, env', s, e, q⟩ => ?_
  simp only [evE, Option.bind_eq_some_iff] at e
  obtain ⟨⟨rs, env1⟩, e1, ds, e2, e⟩ := e
  split at e
  · rename_i hno
    simp only [Option.bind_eq_some_iff] at e
    obtain ⟨is, e3, e⟩ := e
    split at e
    · rename_i hnd
      obtain ⟨hnd, hil⟩ := hnd
      simp only [Option.bind_eq_some_iff] at e
      obtain ⟨nv, e4, e⟩ := e
      cases nv with
      | sh d => cases e
      | ow d => cases e
      | ex c fs => cases e
      | mu x' fs =>
        simp only [Option.bind_eq_some_iff, Option.some.injEq, Prod.mk.injEq] at e
        obtain ⟨e', e5, rfl, rfl⟩ := e
        simp only at hno e3 e5
        have hrs : rs = rs.take (rs.length - m) ++ is.map Rv.bo := by rw [← bos_spec e3, List.take_append_drop]
        refine ⟨F, env, _, _, s, e1, fun vs F1 H1 s1 x1 st => ?_⟩
        rw [hrs] at st e2
        obtain ⟨vs0, vs1, rfl, st0, st1⟩ := st.split
        obtain ⟨ds0, ms, rfl, g0, g1⟩ := getAll_split e2
        have hown : ∀ i ∈ is, ∃ d, env1[i]? = some (Sl.ow d) := fun i hi => by
          obtain ⟨j, hj⟩ := List.getElem?_of_mem hi
          obtain ⟨_, d0, _, _, h⟩ := (putAll_get hnd e5).2.2.2 j i hj
          exact ⟨d0, h⟩
        obtain ⟨as, rfl, ha, ho, hal⟩ := bos_own s1 st1 g1 hown
        rw [List.append_nil]
        have hlen := har _ _ e4
        rw [List.length_append, ← ho.length, hal, hil] at hlen
        refine ⟨F1, ds0, ms, as, x', fs, vs0, rfl, s1.nf, s1.tab, s1.frz, st0.noBo hno g0, hlen, ho, hal.trans hil, atL_nodup s1 hnd ha hown, e4, fun v H' F' hh sm3 s3 nw nt tb rv ow => ?_⟩
        exact q v F' H' (s1.afterM hnd e5 ha hh sm3 s3 nw nt tb ow) (x1.trans ⟨sm3⟩) rv
    · cases e
  · cases e
end
end Ts

set_option linter.all false
set_option autoImplicit false
set_option maxRecDepth 100000
set_option maxHeartbeats 2000000
/-! any(test for x in texts): a generator expression over a list. -/
namespace Ts
open PySem PySem.Spec PyProof.Rows L2

/-- the element: of a text a the answer pb a; all but P stands still -/
def EltB (prog : Program) (w : World) (scope : Scope) (x : Str) (elt : Expr) (cells : List (Str × Addr)) (h : Heap) (P : Addr) (pb : Str → Bool) : Prop :=
  ∀ (cenv : Env) (A' : Around) (E' : Value → Shared → Prop) (a : Str) (t : Tok) (s₂ : Shared) (m₂ : Str → Option Value), cenv.scope = scope → cenv.cells = cells → (∀ b o, b ≠ P → h.get? b = some o → s₂.heap.get? b = some o) → s₂.heap.Ns cenv.locals m₂ → m₂ x = some (.str a t) →
    wpAny (model prog w) A' (eval elt cenv) (fun y s₃ => y = .bool (pb a) ∧ Keeps s₂ s₃) E' s₂
def trS (pb : Str → Bool) (ws : List Str) (j : Nat) : Bool := match ws[j]? with
  | some b => pb b
  | none => false
theorem trS_some {pb : Str → Bool} {l : List Str} {j : Nat} {b : Str} (h : l[j]? = some b) : trS pb l j = pb b := by
  unfold trS
  rw [h]
theorem any_trS (l : List Str) (pb : Str → Bool) : (List.range l.length).any (trS pb l) = l.any pb := by
  rw [Bool.eq_iff_iff, List.any_eq_true, List.any_eq_true]
  constructor
  · intro ⟨j, hj, h⟩
    have hj' := List.mem_range.mp hj
    rw [trS_some (List.getElem?_eq_getElem hj')] at h
    exact ⟨l[j], List.getElem_mem hj', h⟩
  · intro ⟨b, hb, h⟩
    obtain ⟨j, hj, e⟩ := List.getElem_of_mem hb
    refine ⟨j, List.mem_range.mpr hj, ?_⟩
    rw [trS_some (List.getElem?_eq_getElem hj), e]
    exact h
section
variable {X : Cx} {pins : List (Addr × Obj)} {σ : L2.St} {H : Hp} {s : Shared}
/-- the generator g over the texts ws, ready to be walked, in the state s5; H1: what was held before -/
def ReadyB (X : Cx) (pins : List (Addr × Obj)) (σ : L2.St) (H1 : Hp) (P : Addr) (ws : List Str) (pb : Str → Bool) (g : Addr) (s5 : Shared) : Prop :=
  ∃ (fp wr : List Addr) (G : Array GenState → Array GenState → Prop) (F : Nat → Value → Prop) (St : Nat → Shared → Prop),
    WalksS X.prog X.w X.A.in1 g fp wr G ws.length F St ∧ St 0 s5 ∧
    TruthOf X.prog X.w X.A.in1 F (trS pb ws) ∧
    ∀ s', Moved wr G s5 s' → ∃ H2, GxR.Tabbed P H1 H2 ∧ Inv X pins σ H2 s'

theorem gen_anyL {c P : Addr} {elt iter : Expr} {x : Str} {px gpos : Pos} {scope : Scope} {te : TE} {k : Nat} {Q' : Value → Shared → Prop} {R : List Str → (Str → Bool) → Hp → Prop}
    (hr : Room k X.A) (TB : GxR.TabB X.base X.mg c P) (hcode : X.env.code = .ref c) (S : GxR.GenS X.env scope x) (hi : PE X iter te)
    (hel : ∀ ws pb H1 s1, R ws pb H1 → GxR.TabG H1 P → Inv X pins σ H1 s1 → EltB X.prog X.w scope x elt (cloFrom X.env.cells scope.names []) s1.heap P pb)
    (hs : ∀ v, genFold iter X.env v = pure v) (I : Inv X pins σ H s) (h : te σ H fun v H1 => ∃ (yl : Addr) (ws : List Str) (pb : Str → Bool), v = .ref yl ∧ SqL X.K H1 yl (ws.map V.str) ∧ GxR.TabG H1 P ∧ R ws pb H1)
    (hQ : ∀ ws pb H1 g s5, R ws pb H1 → ReadyB X pins σ H1 P ws pb g s5 → Q' (.ref g) s5) :
    wpAny (model X.prog X.w) X.A (eval (.GeneratorExp elt [⟨.Name x px, iter, [], 0⟩] scope gpos) X.env) Q' X.xe s := by
  refine wpAny_GeneratorExp_walksQ hr.hd S.co (closure_ok S.free) S.cell S.dot S.loc S.kind (by have := hr.dp; omega) ?_ hs
  refine thn (hi.run pins s σ H _ I h) fun xv s1 ⟨v, H1, I1, r1, q1⟩ => ?_
  obtain ⟨yl, ws, pb, rfl, hyl, ⟨ps, hP, ht⟩, q1⟩ := q1
  have helt := hel ws pb H1 s1 q1 ⟨ps, hP, ht⟩ I1
  obtain rfl : xv = Value.ref yl := r1
  obtain ⟨its, rv, hl, hz⟩ := I1.list hyl
  have hIL := hl.isList
  have hlen : its.length = ws.length := by rw [← rv.length, List.length_map]
  have hat : ∀ (i : Nat) (v : Value), its.toArray[i]? = some v → ∃ (a : Str) (u : Tok), ws[i]? = some a ∧ v = .str a u := fun i v hv => by
    have hv2 : its[i]? = some v := by simpa using hv
    have hi2 : i < its.length := (List.getElem?_eq_some_iff.mp hv2).1
    obtain ⟨a, ha⟩ : ∃ a, ws[i]? = some a := ⟨ws[i]'(by omega), List.getElem?_eq_getElem _⟩
    have hb : (ws.map V.str)[i]? = some (V.str a) := by rw [List.getElem?_map, ha] <;> rfl
    obtain ⟨u, hu, ru⟩ := rv.get hb
    rw [hv2] at hu
    cases hu
    obtain ⟨t, e⟩ := (show ∃ t, v = Value.str a t from ru)
    exact ⟨a, t, ha, e⟩
  refine wpAny_pyIter_list hIL ?_
  generalize ho : ({ cls := .type "list_iterator", data := .fields #[.ref yl, .int 0 0] } : Obj) = o
  have hitr : (s1.heap.push o).IsListIter s1.heap.objs.size yl 0 := by
    subst ho
    exact ⟨_, Heap.get?_push_size _ rfl, rfl, rfl⟩
  have hylt : yl < s1.heap.objs.size := by
    obtain ⟨_, e, _⟩ := _root_.id hIL
    exact Heap.lt_size e
  have hPs : s1.heap.get? P = some { cls := .none, data := .fields ps } := I1.hok P _ hP
  have hPlt : P < s1.heap.objs.size := Heap.lt_size hPs
  have hP2 : (s1.heap.push o).get? P = some { cls := .none, data := .fields ps } := Heap.get?_push_of_some _ hPs
  have cd : PySem.W.CodeHd (s1.heap.push o) c P := TB.code.keeps fun b u e => Heap.get?_push_of_some _ (I1.bk b u e)
  have lim2 : (s1.heap.push o).NoLimit := I1.nolimit.push o
  have cont : ∀ (code : Value) (h3 : Heap) (tk : Nat) (ps' : Array Value), Heap.ExtBut P (s1.heap.push o) h3 → (s1.heap.push o).objs.size ≤ h3.objs.size → h3.get? P = some { cls := .none, data := .fields ps' } → (∃ more, ps' = ps ++ more) → TriplesOk ps'.toList →
      wpAny (model X.prog X.w) X.A (builtinsFor X.env.globals X.env.builtins) (fun bi s₄ =>
        ∃ Ia fp wr n₀ Pf St₀ pz F, Value.ref s1.heap.objs.size = .ref Ia ∧ (∀ A' : Around, A'.handled = none → Walks X.prog X.w A' Ia fp wr n₀ Pf St₀) ∧ St₀ 0 s₄.heap ∧ (∀ b ∈ fp, b < s₄.heap.objs.size) ∧ s₄.heap.NoLimit ∧ cStatics ∉ wr ∧
          (∀ href : Heap, (∀ b o, s₄.heap.get? b = some o → href.get? b = some o) →
            QuietGen X.prog X.w (genEnv scope (cloFrom X.env.cells scope.names []) s₄.heap.objs.size code bi X.env) x [] elt (List.range s₄.heap.objs.size) wr Pf pz F href) ∧
          (∀ a h₅ tk gs, gs.bare = true → s₄.heap.objs.size < a → h₅.objs.size = a + 1 → (∀ b o, s₄.heap.get? b = some o → h₅.get? b = some o) →
            WalksS X.prog X.w X.A.in4 a (a :: s₄.heap.objs.size :: List.range s₄.heap.objs.size) (s₄.heap.objs.size :: wr) (GenOnlyQ s₄.gens.size) (passing pz n₀ 0).length
              (fun j y => ∃ i, (passing pz n₀ 0)[j]? = some i ∧ F i y) (GenAt X.prog X.w X.A.in4 a s₄.gens.size s₄.heap.objs.size (List.range s₄.heap.objs.size) wr pz n₀ F) →
            GenAt X.prog X.w X.A.in4 a s₄.gens.size s₄.heap.objs.size (List.range s₄.heap.objs.size) wr pz n₀ F 0 { s₄ with gens := s₄.gens.push gs, toks := tk, heap := h₅ } →
            Q' (.ref a) { s₄ with gens := s₄.gens.push gs, toks := tk, heap := h₅ })) X.xe { s1 with heap := h3, toks := tk } := by
    intro code h3 tk ps' hx hsz hP3 hmore ht3
    obtain ⟨bm, ob, e1, e2, e3, e4, e5, e6, e7, e8⟩ := TB.bm
    have hcP : cStatics ≠ P := fun e => by
      obtain ⟨_, hns, _⟩ := I1.nolimit
      obtain ⟨o', es, ep, ho, hd, _⟩ := hns
      rw [e, hPs] at ho
      cases ho
      cases hd
    have hcl : cStatics < s1.heap.objs.size := let ⟨_, hns, _⟩ := I1.nolimit; hns.lt
    have sz2 : (s1.heap.push o).objs.size = s1.heap.objs.size + 1 := Heap.size_push ..
    have keep3 : ∀ b u, b ≠ P → s1.heap.get? b = some u → h3.get? b = some u := fun b u hb e => hx b u hb (Heap.get?_push_of_some _ e)
    refine wpAny_builtinsFor (m := X.mg) (by rw [I1.ok.glob]; exact ((I1.mod.glob.keeps I1.bk).push o).extBut hx TB.gP) e1 e2 (keep3 _ _ e4 (I1.bk _ _ e5)) e6 e7 e8 ?_
    have hylP : yl ≠ P := fun z => by
      obtain ⟨_, e, hc1, _, hd1⟩ := _root_.id hIL
      rw [z, hPs] at e
      cases e
      cases hd1
    have hIL3 : h3.IsList yl its.toArray := by
      obtain ⟨ob, e, r⟩ := _root_.id hIL
      exact ⟨ob, keep3 _ _ hylP e, r⟩
    have hItr3 : h3.IsListIter s1.heap.objs.size yl 0 := hitr.at fun u e => hx _ u (Nat.ne_of_gt hPlt) e
    refine ⟨s1.heap.objs.size, [s1.heap.objs.size, yl], [s1.heap.objs.size], its.toArray.size, (fun i v => its.toArray[i]? = some v), (fun i h => h.IsListIter s1.heap.objs.size yl i ∧ h.IsList yl its.toArray), (fun _ => true),
      (fun i y => ∃ a : Str, ws[i]? = some a ∧ y = .bool (pb a)), rfl, (fun A' hA => Walks.list hA _ _ (Nat.ne_of_lt hylt) _), ⟨hItr3, hIL3⟩, ?_, lim2.extBut hx hcP, ?_, ?_, ?_⟩
    · intro b hb
      rcases List.mem_cons.mp hb with z | z
      · rw [z]
        show s1.heap.objs.size < h3.objs.size
        omega
      · rcases List.mem_cons.mp z with z | z
        · rw [z]
          have e9 : s1.heap.objs.size ≤ h3.objs.size := by omega
          exact Nat.lt_of_lt_of_le hylt e9
        · cases z
    · intro z
      rcases List.mem_cons.mp z with z | z
      · exact Nat.ne_of_lt hcl z
      · cases z
    · intro href hhref
      refine ⟨fun A' E' i v s₂ m₂ hA hPv hn hm hk => ?_, fun A' E' i v s₂ m₂ hA hPv hp hn hm hk => ?_⟩
      · simp only [List.forIn_nil]
        exact wpAny_pure ⟨rfl, GxR.keeps_refl _⟩
      · obtain ⟨a, u, ha, rfl⟩ := hat i v hPv
        refine wpAny_mono (helt _ A' E' a u s₂ m₂ rfl rfl (fun b ob hb e => ?_) hn hm) (fun y s3 r => ?_) fun _ _ e => e
        · have h3e := keep3 b ob hb e
          have hlt := Heap.lt_size e
          refine hk b (List.mem_range.mpr (Heap.lt_size h3e)) (fun hw => ?_) ob (hhref b ob h3e)
          rcases List.mem_cons.mp hw with z | z
          · rw [z] at hlt
            exact Nat.lt_irrefl _ hlt
          · cases z
        · exact ⟨⟨a, ha, r.1⟩, r.2⟩
    · intro g h5 tk5 gs hgb hag hsz5 hk5 W5 hgat
      simp only [GxR.passing_true, List.length_range] at W5
      have hn5 : its.toArray.size = ws.length := by rw [List.size_toArray, hlen]
      rw [hn5] at W5 hgat
      refine hQ ws pb H1 g _ q1 ⟨_, _, _, _, _, W5.in4_1, hgat, ?_, fun s' hm => ?_⟩
      · intro j y sj Qj Ej hy hQj
        obtain ⟨i, hij, a, ha, rfl⟩ := hy
        obtain ⟨hj, ej⟩ := List.getElem?_eq_some_iff.mp hij
        rw [List.getElem_range] at ej
        subst ej
        have hQ2 : Qj (trS pb ws j) sj := hQj
        rw [trS_some ha] at hQ2
        exact wpAny_truthy_bool hQ2
      · obtain ⟨more, em⟩ := hmore
        have nwr : ∀ b u, s1.heap.get? b = some u → b ∉ h3.objs.size :: [s1.heap.objs.size] := fun b u e hb => by
          have hl := Heap.lt_size e
          rcases List.mem_cons.mp hb with z | z
          · rw [z] at hl
            have h9 : (h3.objs.size : Nat) < s1.heap.objs.size := hl
            omega
          · rcases List.mem_cons.mp z with z | z
            · rw [z] at hl
              exact Nat.lt_irrefl _ hl
            · cases z
        have J := GxR.inv_tab (more := more) (h' := s'.heap) (g' := s'.gens) (d' := s'.drawn) (t' := s'.toks) I1 hP (fun b u hb e => hm.heap b u (nwr b u e) (hk5 b u (keep3 b u hb e)))
          (by rw [← em]; exact hm.heap P _ (nwr P _ hPs) (hk5 P _ hP3)) (AllBare.movedS (I1.bare.push hgb) hm)
        rw [GxR.sh_eta s1 s' hm.os] at J
        refine ⟨upd H1 P (.tbl (ps ++ more)), ⟨⟨ps ++ more, upd_same, by rw [← em]; exact ht3⟩, fun b hb => upd_ne hb⟩, J⟩
  refine ⟨lim2, ?_⟩
  cases hf : codeAmong gpos ps.toList with
  | none =>
    refine wpAny_genexprCodeX hcode (cd.code hP2 ht) (cd.tab hP2) hf fun c' h' tk hx hge hlt hco' _ htab' _ => ?_
    obtain ⟨o1, vs, f1, tf, fl, tg, inF, tx, tt, op, _, _, _, _, _, _, _, _, _, htr, _⟩ := hco'
    exact cont _ h' tk _ hx (Nat.le_trans hge (Nat.le_of_lt hlt)) htab'.2 ⟨_, rfl⟩ htr
  | some cv =>
    refine wpAny_genexprCode_hit hcode (cd.code hP2 ht) hf ?_
    exact cont cv (s1.heap.push o) s1.toks ps (Heap.ExtBut.refl _ _) (Nat.le_refl _) hP2 ⟨#[], by simp⟩ ht
/-- any(test for x in e), e a list of texts; behind it the def's table may have grown -/
theorem pe_anyL {c P : Addr} {elt iter : Expr} {x : Str} {px p pos gpos : Pos} {scope : Scope} {te : TE} {k : Nat} (R : List (Option V) → List Str → (Str → Bool) → Hp → Prop)
    (hr : Room k X.A) (hg : Gl X "any") (hm : X.mg "any" = none) (TB : GxR.TabB X.base X.mg c P) (hcode : X.env.code = .ref c) (S : X.Ok → GxR.GenS X.env scope x) (hi : PE X iter te)
    (hel : ∀ pins σ ws pb H1 s1, R σ ws pb H1 → GxR.TabG H1 P → Inv X pins σ H1 s1 → EltB X.prog X.w scope x elt (cloFrom X.env.cells scope.names []) s1.heap P pb)
    (hs : ∀ v, genFold iter X.env v = pure v)
    (he : starEach [.GeneratorExp elt [⟨.Name x px, iter, [], 0⟩] scope gpos] X.env = (false, eval (.GeneratorExp elt [⟨.Name x px, iter, [], 0⟩] scope gpos) X.env) :: starEach [] X.env := by rfl) :
    PE X (.Call (.Name "any" p) [.GeneratorExp elt [⟨.Name x px, iter, [], 0⟩] scope gpos] [] pos) (fun σ H Q => te σ H fun v H1 => ∃ (yl : Addr) (ws : List Str) (pb : Str → Bool), v = .ref yl ∧ SqL X.K H1 yl (ws.map V.str) ∧ GxR.TabG H1 P ∧ R σ ws pb H1 ∧ ∀ H2, GxR.Tabbed P H1 H2 → Q (.bl (ws.any pb)) H2) := by
  refine ⟨fun pins s σ H Q I h => ?_⟩
  refine wpAny_Call_Name_kw (ld_blt I hg hm boot_any ?_)
  refine PyProof.Rows.callWith_builtin1 ?_ he (by rfl)
  rw [he]
  show wpAny _ _ (spliced ((false, eval (.GeneratorExp elt [⟨.Name x px, iter, [], 0⟩] scope gpos) X.env) :: backTo pos (starEach [] X.env))) _ _ s
  refine Calls.spliced_cons (gen_anyL (R := fun ws pb H1 => R σ ws pb H1 ∧ ∀ H2, GxR.Tabbed P H1 H2 → Q (.bl (ws.any pb)) H2) hr TB hcode (S I.ok) hi (fun ws pb H1 s1 hR hT I1 => hel pins σ ws pb H1 s1 hR.1 hT I1) hs I h fun ws pb H1 g s5 hR hG => ?_)
  obtain ⟨fp, wr, G, F, St, W, hst, htr, hI⟩ := hG
  refine Calls.spliced_nil ?_
  refine call_any_walkS (W.self 0 _ _ _ hst ⟨g, fp, wr, G, _, F, St, _, rfl, W, hst, htr, fun s' hmv => ?_⟩)
  obtain ⟨H2, hT, J⟩ := hI s' hmv
  refine ⟨.bl _, H2, J, rfl, ?_⟩
  rw [any_trS ws pb]
  exact hR.2 H2 hT
theorem lookup_mem {α : Type} : ∀ {l : List (Str × α)} {n : Str} {c : α}, l.lookup n = some c → (n, c) ∈ l
  | (k, v) :: r, n, c, h => by
    rw [List.lookup_cons] at h
    split at h
    · rename_i e
      cases h
      have := eq_of_beq e
      subst this
      exact List.mem_cons_self ..
    · exact List.mem_cons_of_mem _ (lookup_mem h)
/-- x in b, b a captured name -/
theorem elt_in {P : Addr} {scope : Scope} {x b : Str} {p1 p2 p3 : Pos} {pins : List (Addr × Obj)} {σ : L2.St} {H1 : Hp} {s1 : Shared} (I : Inv X pins σ H1 s1) (hT : GxR.TabG H1 P) {i : Nat} {yl : Addr} {ms : List Str}
    (hk : scope.kind = .function) (hx : scope.names.lookup x = some .local) (hb : scope.names.lookup b = some .free) (hN : X.N[i]? = some b) (hv : X.env.kindOf b = some .cell ∨ X.env.kindOf b = some .free)
    (hσ : σ[i]? = some (some (V.ref yl))) (hl : SqL X.K H1 yl (ms.map V.str)) (hd : (x == ("__debug__" : Str)) = false) (hdb : (b == ("__debug__" : Str)) = false) (hcb : (b == ("__classdict__" : Str)) = false) :
    EltB X.prog X.w scope x (.Compare (.Name x p1) [.In] [.Name b p2] p3) (cloFrom X.env.cells scope.names []) s1.heap P (fun a => ms.any (· == a)) := by
  intro cenv A' E' a t s₂ m₂ hsc hce hkeep hn hm
  obtain ⟨ps, hP, _⟩ := hT
  have hPs : s1.heap.get? P = some { cls := .none, data := .fields ps } := I.hok P _ hP
  obtain ⟨m, hns, hlook⟩ := I.loc
  obtain ⟨u, ru, lk⟩ := hlook i b _ hN hσ (hv.elim (fun e => .inr (.inl e)) fun e => .inr (.inr e))
  obtain rfl : u = Value.ref yl := ru
  obtain ⟨c, hc, hcell⟩ : ∃ c, X.env.cells.lookup b = some c ∧ s1.heap.IsCell c (some (.ref yl)) := by
    rcases lk with ⟨e, _⟩ | ⟨_, h⟩
    · rcases hv with e' | e' <;> rw [e] at e' <;> cases e'
    · exact h
  obtain ⟨its, rv, hpl, _⟩ := I.list hl
  have hstrs := Vals.strs rv
  have hIL := hpl.isList
  have hcP : c ≠ P := fun z => by
    obtain ⟨o, e, d⟩ := hcell
    rw [z, hPs] at e
    cases e
    cases d
  have hyP : yl ≠ P := fun z => by
    obtain ⟨o, e, hc1, _, hd1⟩ := hIL
    rw [z, hPs] at e
    cases e
    cases hd1
  have hcell2 : s₂.heap.IsCell c (some (.ref yl)) := by
    obtain ⟨o, e, d⟩ := hcell
    exact ⟨o, hkeep c o hcP e, d⟩
  have hIL2 : s₂.heap.IsList yl its.toArray := by
    obtain ⟨o, e, r⟩ := hIL
    exact ⟨o, hkeep yl o hyP e, r⟩
  have hclo : cenv.cells.lookup b = some c := by
    rw [hce]
    have h1 := cloFrom_has (cells := X.env.cells) (acc := []) (lookup_mem hb)
    obtain ⟨c', h2⟩ := mem_lookup h1
    rcases cloFrom_mem (lookup_mem h2) with h3 | ⟨_, h3⟩
    · cases h3
    · rw [h2, h3, hc]
      rfl
  refine wpAny_Compare1 ?_
  refine wpAny_Name (wpAny_loadName_local (by rw [hsc]; exact hk) (show cenv.scope.names.lookup x = some .local by rw [hsc]; exact hx) hn hm ?_) hd
  refine wpAny_Name (wpAny_loadName_free (by rw [hsc]; exact hk) (show cenv.scope.names.lookup b = some .free by rw [hsc]; exact hb) hclo hcell2 ?_ hcb) hdb
  exact in_list_strs hIL2 hstrs ⟨rfl, GxR.keeps_refl _⟩
end
section
variable {K : PySem.W.Frag} {C : Cfg} {B : Bs C} {F H H' : Hp} {σ : L2.St} {env : En}
/-- a table has grown -/
theorem SR.tabbed (s : SR K B F H σ env) {P : Addr} (hP : P ∈ C.ts) (h : GxR.Tabbed P H H') : SR K B F H' σ env := by
  obtain ⟨ps, e, _⟩ := s.tab P hP
  refine s.heap (fun b o hb => ?_) (fun b o hb => ?_) (fun q hq => h.2 q fun z => s.ownsT hq ps (by rw [z]; exact e)) (fun Q hQ => ?_)
  · have hb2 := s.bas b o hb
    have hne : b ≠ P := fun z => by
      subst z
      rw [e] at hb2
      cases hb2
      exact s.nb _ _ hb hP
    rw [h.2 b hne]; exact hb2
  · have hb2 := s.frz b o hb
    have hne : b ≠ P := fun z => by
      subst z
      rw [e] at hb2
      cases hb2
      have := s.nf _ _ hb
      cases this
    rw [h.2 b hne]; exact hb2
  · by_cases hne : Q = P
    · rw [hne]; exact h.1
    · obtain ⟨qs, e2, r⟩ := s.tab Q hQ
      exact ⟨qs, by rw [h.2 Q hne]; exact e2, r⟩
end
section
variable {T : Tb} {N : List Str} {R : Run} {X : Cx} {sc : Scope} {fb : Str → Bool} {Cg : Cfg} {B : Bs Cg}
theorem cell_of (g : Gd T N R X sc fb Cg) {x : Str} (h : cellB sc x = true) : X.env.kindOf x = some .cell ∨ X.env.kindOf x = some .free := by
  show X.env.scope.names.lookup x = some .cell ∨ X.env.scope.names.lookup x = some .free
  rw [g.hsc]
  unfold cellB at h
  split at h
  · exact .inl (by assumption)
  · exact .inr (by assumption)
  · cases h
theorem jloc_of {sc : Scope} {x : Str} (h : justLoc sc x = true) : sc.names.lookup x = some .local := by
  unfold justLoc at h
  split at h
  · assumption
  · cases h
theorem jfree_of {sc : Scope} {x : Str} (h : freeB sc x = true) : sc.names.lookup x = some .free := by
  unfold freeB at h
  split at h
  · assumption
  · cases h
theorem gen_of (g : Gd T N R X sc fb Cg) {scope : Scope} {x : Str} (h : genB sc scope x = true) (ok : X.Ok) : GxR.GenS X.env scope x := by
  unfold genB at h
  simp only [Bool.and_eq_true, Bool.not_eq_true'] at h
  obtain ⟨⟨⟨⟨h1, h2⟩, h3⟩, h4⟩, h5⟩ := h
  rw [List.all_eq_true] at h5
  refine ⟨?_, h2, fun y hy e => ?_, jloc_of h3, jloc_of h4, fun y hy e => ?_⟩
  · split at h1
    · assumption
    · cases h1
  · have := h5 y hy
    rw [e] at this
    cases this
  · have := h5 y hy
    rw [e] at this
    exact ok.has y.1 (cell_of g this)
theorem getAt_lst {K : PySem.W.Frag} {F H : Hp} {σ : L2.St} {env : En} (s : SR K B F H σ env) {i : Nat} {l : List D} (h : getAt env i = some (.lst l)) : ∃ p xs, σ[i]? = some (some (V.ref p)) ∧ H p = some (.lst xs) ∧ RpL K F xs l := by
  unfold getAt at h
  obtain ⟨sl, h1, h2⟩ := Option.bind_eq_some_iff.mp h
  cases sl with
  | u => cases h2
  | nw _ => cases h2
  | sh d =>
    cases h2
    obtain ⟨v, e, r⟩ := s.sh h1
    cases r with
    | lst h r => exact ⟨_, _, e, s.frz _ _ h, r⟩
  | ow d =>
    cases h2
    obtain ⟨p, e, ⟨xs, e2, r⟩, _⟩ := s.ownAt h1
    exact ⟨p, xs, e, e2, r⟩
/-- any(x in b for x in z) -/
theorem pe_anyIn' (g : Gd T N R X sc fb Cg) {it : Ex} {i : Nat} {n : Int} {x b z : Str} {p p1 p2 p3 px zp pos gpos : Pos} {scope : Scope} (ha : ∀ B : Bs Cg, PE X (.Name z zp) (tE X.K B (evE R it)))
    (h1 : glB sc "any" = true) (hn : n = 0) (h2 : N[i]? = some b) (h3 : cellB sc b = true) (h4 : freeB scope b = true) (h5 : genB sc scope x = true) (h6 : nameOk x = true) (h7 : nameOk b = true) (h8 : T.gn = true) (h9 : (T.nm 1).isSome = true) :
    PE X (.Call (.Name "any" p) [.GeneratorExp (.Compare (.Name x p1) [.In] [.Name b p2] p3) [⟨.Name x px, .Name z zp, [], n⟩] scope gpos] [] pos) (tE X.K B (evE R (.anyIn it i))) := by
  subst hn
  obtain ⟨c, P, hcode, TB, hP⟩ := g.gen h8
  obtain ⟨y, hy⟩ := Option.isSome_iff_exists.mp h9
  obtain ⟨_, _, k, _, _, _, room, _⟩ := g.calls 1 y hy
  have hk : scope.kind = .function := by
    have h5' := h5
    unfold genB at h5'
    simp only [Bool.and_eq_true] at h5'
    have := h5'.1.1.1.1
    split at this
    · assumption
    · cases this
  have hx : scope.names.lookup x = some .local := by
    have h5' := h5
    unfold genB at h5'
    simp only [Bool.and_eq_true] at h5'
    exact jloc_of h5'.1.2
  have base := pe_anyL (X := X) (pos := pos) (p := p) (px := px) (gpos := gpos) (fun (σ : List (Option V)) (ws : List Str) (pb : Str → Bool) (H1 : Hp) => ∃ (yl : Addr) (ms : List Str), σ[i]? = some (some (V.ref yl)) ∧ SqL X.K H1 yl (ms.map V.str) ∧ pb = fun a => ms.any (· == a)) room (gl_of g h1) (g.blt .any) TB hcode (gen_of g h5) (ha B)
    (elt := .Compare (.Name x p1) [.In] [.Name b p2] p3)
    (fun pins σ ws pb H1 s1 ⟨yl, ms, e1, e2, e3⟩ hT I => by
      rw [e3]
      exact elt_in I hT hk hx (jfree_of h4) (by rw [g.hN]; exact h2) (cell_of g h3) e1 e2 (dbg_of h6).1 (dbg_of h7).1 (dbg_of h7).2) (fun v => rfl)
  refine base.imp fun σ H Q ⟨F, env, r, env', s, e, q⟩ => ?_
  simp only [evE, Option.bind_eq_some_iff] at e
  obtain ⟨p', e1, l, gx, m, gm, bb, eb, e⟩ := e
  simp only [Option.some.injEq, Prod.mk.injEq] at e
  obtain ⟨rfl, rfl⟩ := e
  refine ⟨F, env, _, _, s, e1, fun v F1 H1 s1 x1 o1 => ?_⟩
  obtain ⟨F1', s1', y1, st1⟩ := o1.settled s1
  cases l <;> cases m <;> simp only [anyInV, reduceCtorEq] at eb
  rename_i la lb
  simp only [Option.bind_eq_some_iff] at eb
  obtain ⟨ss, es, ms, em, eb⟩ := eb
  split at eb
  · cases eb
    obtain ⟨a, xs, rfl, hH, rr⟩ := (st1.cr s1' gx).lst s1'.frz
    have := rr.strs es
    subst this
    obtain ⟨p2, ys, e2, hH2, rr2⟩ := getAt_lst s1' gm
    have := rr2.strs em
    subst this
    refine ⟨a, ss, _, rfl, .inl (.inl hH), s1'.tab P hP, ⟨p2, ms, e2, .inl (.inl hH2), rfl⟩, fun H2 hT2 => ?_⟩
    have hb : (ss.any fun a => ms.any (· == a)) = ss.any fun s => ms.any fun z => decide (z = s) := by
      have hz : ∀ (s z : Str), (z == s) = decide (z = s) := fun s z => by
        rw [Bool.eq_iff_iff]
        simp
      simp only [hz]
    rw [hb]
    exact q _ F1' H2 (s1'.tabbed hP hT2) (x1.trans y1) (.bl _)
  · cases eb
theorem pe_anyD (g : Gd T N R X sc fb Cg) {it : Ex} {i : Nat} {d : AnyDat} (ha : ∀ B : Bs Cg, PE X (.Name d.z d.zp) (tE X.K B (evE R it))) (h : anyChk T N i sc d = true) : PE X d.e (tE X.K B (evE R (.anyIn it i))) := by
  obtain ⟨y, x, x', b, z, p, p1, p2, p3, px, zp, pos, gpos, n, scope⟩ := d
  simp only [anyChk, Bool.and_eq_true, decide_eq_true_eq] at h
  obtain ⟨⟨⟨⟨⟨⟨⟨⟨⟨⟨⟨rfl, h1⟩, h2⟩, rfl⟩, h3⟩, h4⟩, h5⟩, h6⟩, h7⟩, h8⟩, h9⟩, h10⟩ := h
  exact pe_anyIn' g ha h1 h2 h3 h4 h5 h6 h7 h8 h9 h10
end
end Ts

set_option linter.all false
set_option autoImplicit false
set_option maxRecDepth 100000
set_option maxHeartbeats 2000000
/-! The keys of a dict, those that pass; any(number > 0 for number in a dict's values). -/
namespace Ts
open PySem PySem.Spec PyProof.Rows L2

/-! ### locked or not -/
def plainD : HO → Bool | .dK _ => true | .dT _ => true | _ => false
def isDct : HO → Bool | .frz _ u => plainD u | u => plainD u
/-- the same, but that dicts may be locked or not -/
structure DctEq (F F' : Hp) : Prop where
  ne : ∀ b o, isDct o = false → F b = some o → F' b = some o
  eq : ∀ b u, plainD u = true → Rd F b u → Rd F' b u
section
variable {K : PySem.W.Frag} {F F' : Hp}
theorem DctEq.seqL (s : DctEq F F') {a : Addr} {xs : List V} : SqL K F a xs → SqL K F' a xs
  | .inl (.inl h) => .inl (.inl (s.ne _ _ rfl h))
  | .inl (.inr ⟨o, h⟩) => .inl (.inr ⟨o, s.ne _ _ rfl h⟩)
  | .inr h => .inr h
mutual
theorem Rp.dct (s : DctEq F F') : ∀ {v : V} {d : D}, Rp K F v d → Rp K F' v d
  | _, _, .non => .non
  | _, _, .bl b => .bl b
  | _, _, .int i => .int i
  | _, _, .str i => .str i
  | _, _, .tup h r => .tup (s.ne _ _ rfl h) (RpL.dct s r)
  | _, _, .lst h r => .lst (s.ne _ _ rfl h) (RpL.dct s r)
  | _, _, .scr h => .scr (s.seqL h)
  | _, _, .dk h r => .dk (s.eq _ _ rfl h) (RpK.dct s r)
  | _, _, .dt h r => .dt (s.eq _ _ rfl h) (RpT.dct s r)
  | _, _, .tpn h b r => .tpn (s.ne _ _ rfl h) b (RpL.dct s r)
theorem RpL.dct (s : DctEq F F') : ∀ {v : List V} {d : List D}, RpL K F v d → RpL K F' v d
  | _, _, .nil => .nil
  | _, _, .cons h r => .cons (Rp.dct s h) (RpL.dct s r)
theorem RpK.dct (s : DctEq F F') : ∀ {v : List (Key × V)} {d : List (Key × D)}, RpK K F v d → RpK K F' v d
  | _, _, .nil => .nil
  | _, _, .cons h r => .cons (Rp.dct s h) (RpK.dct s r)
theorem RpT.dct (s : DctEq F F') : ∀ {v : List (List Key × V)} {d : List (List Key × D)}, RpT K F v d → RpT K F' v d
  | _, _, .nil => .nil
  | _, _, .cons h r => .cons (Rp.dct s h) (RpT.dct s r)
end
theorem OwnAt.dct {H H' : Hp} {p : Addr} {d : D} (s : DctEq F F') (h : H' p = H p) (o : OwnAt K F H p d) : OwnAt K F' H' p d := by
  cases d <;> simp only [OwnAt] at o ⊢
  case lst ds => obtain ⟨xs, e, r⟩ := o; exact ⟨xs, h.trans e, r.dct s⟩
  case dk ds => obtain ⟨xs, e, r⟩ := o; exact ⟨xs, h.trans e, r.dct s⟩
  case dt ds => obtain ⟨xs, e, r⟩ := o; exact ⟨xs, h.trans e, r.dct s⟩
end
theorem flip_dct {F : Hp} {d : Addr} {o o' u : HO} (hF : F d = some o) (hu : plainD u = true) (ho : o = u ∨ ∃ od, o = .frz od u) (ho' : o' = u ∨ ∃ od, o' = .frz od u) : DctEq F (upd F d o') := by
  have hd : isDct o = true := by
    rcases ho with rfl | ⟨od, rfl⟩
    · cases o <;> first | exact hu | (simp [plainD] at hu)
    · exact hu
  refine ⟨fun b x hx e => ?_, fun b u' hp h => ?_⟩
  · have hb : b ≠ d := fun z => by
      rw [z, hF] at e
      cases e
      rw [hd] at hx
      cases hx
    rw [upd_ne hb]; exact e
  · by_cases hb : b = d
    · subst hb
      have hu' : u' = u := by
        rcases h with h | ⟨o2, h⟩
        · rw [hF] at h
          cases h
          rcases ho with rfl | ⟨od, rfl⟩
          · rfl
          · simp [plainD] at hp
        · rw [hF] at h
          cases h
          rcases ho with rfl | ⟨od, e⟩
          · simp [plainD] at hu
          · cases e; rfl
      subst hu'
      rcases ho' with rfl | ⟨od, rfl⟩
      · exact .inl upd_same
      · exact .inr ⟨od, upd_same⟩
    · rcases h with h | ⟨o2, h⟩
      · exact .inl (by rw [upd_ne hb]; exact h)
      · exact .inr ⟨o2, by rw [upd_ne hb]; exact h⟩
section
variable {K : PySem.W.Frag} {Cg : Cfg} {B : Bs Cg} {F H : Hp} {σ : L2.St} {env : En}
/-- a shared dict is locked, or unlocked -/
theorem SR.flip (s : SR K B F H σ env) {d : Addr} {o o' u : HO} (hF : F d = some o) (hu : plainD u = true) (ho : o = u ∨ ∃ od, o = .frz od u) (ho' : o' = u ∨ ∃ od, o' = .frz od u) : SR K B (upd F d o') (upd H d o') σ env := by
  have hH := s.frz _ _ hF
  have hB : ∀ x, B d ≠ some x := fun x e => by
    have := s.dis d x e
    rw [hF] at this
    cases this
  have nt : isTbl o' = false := by
    rcases ho' with rfl | ⟨od, rfl⟩
    · cases o' <;> first | rfl | (simp [plainD] at hu)
    · rfl
  have dct := flip_dct hF hu ho ho'
  refine ⟨s.len, fun b x e => ?_, same_upd2 s.frz, fun b x e => ?_, fun i sl h => ?_, s.inj, s.nb, s.nf.put1 nt, s.tab.put1 (fun ps z => ?_)⟩
  · have hb : b ≠ d := fun z => hB x (z ▸ e)
    rw [upd_ne hb]; exact s.bas b x e
  · have hb : b ≠ d := fun z => hB x (z ▸ e)
    rw [upd_ne hb]; exact s.dis b x e
  · cases sl with
    | u => trivial
    | sh x => obtain ⟨v, e, r⟩ := s.sh h; exact ⟨v, e, r.dct dct⟩
    | nw x =>
      obtain ⟨p, e, qs, g1, g2, g3, g4, g5⟩ := s.slot i _ h
      refine ⟨p, e, qs, g1, g2, g3, g4, fun k q ek => ?_⟩
      obtain ⟨k1, ds, xs, k2, k3, k4⟩ := g5 k q ek
      exact ⟨k1, ds, xs, k2, k3, k4.dct dct⟩
    | ow x =>
      obtain ⟨p, e, o2, f, b, pk⟩ := s.ownAt h
      have hp : p ≠ d := fun z => by rw [z, hF] at f; cases f
      exact ⟨p, e, o2.dct dct (upd_ne hp), by rw [upd_ne hp]; exact f, b, pk⟩
  · rw [hH] at z
    cases z
    have := s.nf _ _ hF
    cases this
/-- behind a walk: what was shared for it alone is one's own again -/
theorem SR.restoreN (s : SR K B F H σ env) {F1 F2 H' : Hp} (sm1 : Same F F1) (s1 : Same F1 H) (np : FrzP F F1) (hh : SameN Cg.ts H H') (s12 : Same F1 F2) (s2 : Same F2 H') (nw : NewF Cg.ts H F1 F2) (nt2 : NoT F2) (tb : Tabs Cg.ts H') :
    ∃ F', SR K B F' H' σ env ∧ Ext F F' ∧ SameT F2 F' ∧ (∀ b, H b = none → F' b = F2 b) ∧ NewF Cg.ts H F F' := by
  let F' : Hp := fun b => match F b, F1 b with | none, some _ => none | _, _ => F2 b
  have up : ∀ b x, F' b = some x → F2 b = some x := fun b x h => by
    simp only [F'] at h
    split at h
    · cases h
    · exact h
  have keep : Same F F' := fun b x h => by
    show (match F b, F1 b with | none, some _ => none | _, _ => F2 b) = some x
    rw [h]
    exact s12 _ _ (sm1 _ _ h)
  have gone : ∀ b o, H b = some o → Kp Cg.ts b o → F b = none → F' b = none := fun b o h n f => by
    show (match F b, F1 b with | none, some _ => none | _, _ => F2 b) = none
    rw [f]
    cases h1 : F1 b with
    | some u => rfl
    | none => exact nw b o h n h1
  refine ⟨F', ⟨s.len, fun b o h => hh _ _ (s.bas _ _ h) (s.nb _ _ h), fun b x h => s2 _ _ (up b x h), fun b o h => gone b o (s.bas _ _ h) (s.nb _ _ h) (s.dis b o h), fun i sl h => ?_, s.inj, s.nb, fun b o h => nt2 b o (up b o h), tb⟩, ⟨keep⟩, fun b xs htp h => ?_, fun b h => ?_, gone⟩
  · cases sl with
    | u => trivial
    | sh d => obtain ⟨v, e, r⟩ := s.sh h; exact ⟨v, e, r.mono keep⟩
    | nw x => obtain ⟨p', e', o'⟩ := s.slot i _ h; exact ⟨p', e', o'.mono keep⟩
    | ow d =>
      obtain ⟨p, e, o, f, b⟩ := s.ownAt h
      obtain ⟨u, hu, _, nt⟩ := o.some
      exact ⟨p, e, o.mono keep (by rw [hh _ _ hu (kp_of nt), hu]), gone p u hu (kp_of nt) f, b⟩
  · show (match F b, F1 b with | none, some _ => none | _, _ => F2 b) = some xs
    split
    · rename_i o f f1
      rcases np b o f1 with z | ⟨_, z⟩
      · rw [f] at z; cases z
      · have := s12 _ _ f1
        rw [h] at this; cases this
        rw [htp] at z; cases z
    · exact h
  · show (match F b, F1 b with | none, some _ => none | _, _ => F2 b) = F2 b
    have f : F b = none := s.free h
    rw [f]
    cases h1 : F1 b with
    | none => rfl
    | some u =>
      have := s1 _ _ h1
      rw [h] at this; cases this
end
/-! ### the keys -/
def KVal (H : Hp) (v : V) (x : D) : Prop := (∃ k, v = kV k ∧ x = keyD k) ∨ ∃ (q : Addr) (k : List Key), v = .ref q ∧ H q = some (.tup (k.map kV)) ∧ x = .tup (k.map keyD)
theorem rp_keys {K : PySem.W.Frag} {F : Hp} : ∀ k : List Key, RpL K F (k.map kV) (k.map keyD)
  | [] => .nil
  | a :: k => .cons (rp_key a) (rp_keys k)
theorem RpT.keyAt {K : PySem.W.Frag} {F : Hp} : ∀ {kvs : List (List Key × V)} {es : List (List Key × D)} {i : Nat} {d : D}, RpT K F kvs es → (es.map fun kv => D.tup (kv.1.map keyD))[i]? = some d → ∃ k v, kvs[i]? = some (k, v) ∧ d = .tup (k.map keyD)
  | _, _, i, d, .nil, h => by simp at h
  | _, _, 0, d, .cons (k := k) (v := v) h r, e => by
    simp only [List.map_cons, List.getElem?_cons_zero, Option.some.injEq] at e
    exact ⟨k, v, rfl, e.symm⟩
  | _, _, i + 1, d, .cons h r, e => by
    simp only [List.map_cons, List.getElem?_cons_succ] at e
    obtain ⟨k, v, h1, h2⟩ := RpT.keyAt r e
    exact ⟨k, v, by simpa using h1, h2⟩
/-- J yields the keys of the locked dict at d -/
def WkK (J : It) (d : Addr) (o : HO) (p : Pt) (items : List D) : Prop := ∀ (i : Nat) (H : Hp), H d = some o →
  (∀ x, items[i]? = some x → J.go i H ∧ ∀ v H', J.yld i H v H' → H' = H ∧ KVal H v x ∧ ((∃ k, v = kV k ∧ x = keyD k) ∨ isPt p = true)) ∧ (items.length ≤ i → J.stop i H)
theorem wkk_k {K : PySem.W.Frag} {F : Hp} {d : Addr} {od : Obj} {p : Pt} {kvs : List (Key × V)} {es : List (Key × D)} (r : RpK K F kvs es) : WkK (Itk d od kvs) d (.frz od (.dK kvs)) p (es.map fun kv => keyD kv.1) := fun i H hq => by
  refine ⟨fun x hx => ?_, fun hl => ⟨hq, by rw [r.length]; simpa using hl⟩⟩
  obtain ⟨k, v, e, rfl⟩ := r.keyAt hx
  refine ⟨⟨hq, (List.getElem?_eq_some_iff.mp e).1⟩, fun y H' hy => ?_⟩
  obtain ⟨rfl, k', v', e', rfl⟩ := hy
  rw [e] at e'
  cases e'
  exact ⟨rfl, .inl ⟨k, rfl, rfl⟩, .inl ⟨k, rfl, rfl⟩⟩
theorem wkk_t {K : PySem.W.Frag} {F : Hp} {d : Addr} {od : Obj} {p : Pt} (hp : isPt p = true) {kvs : List (List Key × V)} {es : List (List Key × D)} (r : RpT K F kvs es) : WkK (Itkt d od kvs) d (.frz od (.dT kvs)) p (es.map fun kv => D.tup (kv.1.map keyD)) := fun i H hq => by
  refine ⟨fun x hx => ?_, fun hl => ⟨hq, by rw [r.length]; simpa using hl⟩⟩
  obtain ⟨k, v, e, rfl⟩ := r.keyAt hx
  refine ⟨⟨hq, (List.getElem?_eq_some_iff.mp e).1⟩, fun y H' hy => ?_⟩
  obtain ⟨rfl, k', v', q, e', rfl, hq'⟩ := hy
  rw [e] at e'
  cases e'
  exact ⟨rfl, .inr ⟨q, k, rfl, hq', rfl⟩, .inr hp⟩
def tPK (K : PySem.W.Frag) (Cg : Cfg) (p : Pt) (vs : List Nat) : TG := fun v σ H Q => ∃ (B : Bs Cg) (F : Hp) (env : En) (d : D) (env' : En), SR K B F H σ env ∧ KVal H v d ∧ ((∃ k, v = kV k ∧ d = keyD k) ∨ isPt p = true) ∧ asgP env p d = some env' ∧ ∀ σ', SR K B F H σ' env' → L2.wipe σ' vs = L2.wipe σ vs → σ'.length = σ.length → Q σ' H
section
variable {T : Tb} {N : List Str} {R : Run} {X : Cx} {sc : Scope} {fb : Str → Bool} {Cg : Cfg} {B : Bs Cg} {tg : Expr}
theorem pg_k (g : Gd T N R X sc fb Cg) {p : Pt} {e : Expr} {vs : List Nat} (h : ptOk N sc fb p e = true) (hv : ptIn vs p = true) : PG X e (tPK X.K Cg p vs) := by
  refine ⟨fun pins s σ H v u Q I r ⟨B, F, env, d, env', sr, kv, hp, ha, q⟩ => ?_⟩
  rcases kv with ⟨k, rfl, rfl⟩ | ⟨q0, k, rfl, hq, rfl⟩
  · exact (pg_p g h hv).run pins s σ H _ u Q I r ⟨B, F, env, _, env', sr, rp_key k, ha, q⟩
  · rcases hp with ⟨k', e1, _⟩ | hp
    · cases k' <;> cases e1
    · cases p with
      | v i => cases hp
      | t is =>
        cases e <;> simp only [ptOk, Bool.false_eq_true] at h
        rename_i es kk pos
        obtain ⟨h1, h2⟩ := assign_len X.env h
        have base := pg_tup (k := kk) (pos := pos) g.calm (pg_vs g (vs := vs) h (fun i hi => by simpa using List.all_eq_true.mp hv i hi)) h1 h2
        have len : ∀ {is : List Nat} {l : List D} {env env' : En}, asgs env is l = some env' → l.length = is.length := by
          intro is
          induction is with
          | nil => intro l env env' e; cases l <;> simp [asgs] at e ⊢
          | cons i is ih =>
            intro l env env' e
            cases l with
            | nil => simp [asgs] at e
            | cons d l =>
              simp only [asgs] at e
              split at e
              · simp [ih e]
              · cases e
        simp only [asgP] at ha
        refine base.run pins s σ H _ u Q I r ⟨_, _, rfl, .inl (.inl hq), ?_, B, F, env, _, env', sr, rp_keys k, ha, q⟩
        have := len ha
        simpa using this
theorem lkx_core (g : Gd T N R X sc fb Cg) {own uses : List Nat} {p : Pt} {cs : Exs} {e : Ex} {items : List D} {F1 H1 : Hp} {σ : L2.St} {env1 : En} {d : Addr} {o : HO} {J : It} {Q : VK}
    (sl : SR X.K B F1 H1 σ env1) (hd : H1 d = some o) (ho : Kp Cg.ts d o) (wk : WkK J d o p items)
    {rs : List D} (e2 : lcD (lcStep R p cs e (wipeE (hide (Ts.frz env1 uses)) own)) items = some rs) (hbig : rs.length ≤ bigLine) (hflat : rs.all D.flat = true)
    (fin : ∀ (Dd : Addr) (acc : List V) (F4 H' : Hp), H1 Dd = none → SR X.K B F4 H' σ env1 → Same F1 F4 → SameN Cg.ts H1 H' → NewF Cg.ts H1 F1 F4 → H' Dd = some (.lst acc) → RpL X.K F4 acc rs → F4 Dd = none → Q (.ref Dd) H') :
    tLc (fun _ _ Rr => Rr J H1) (tPK X.K Cg p own) (tCx X.K Cg (evC R cs)) (tEx X.K Cg (evE R e)) own σ H1 Q := by
  intro Dd hD
  obtain ⟨F2, s2, x2, n2⟩ := frz_ok sl uses
  generalize henvb : wipeE (hide (Ts.frz env1 uses)) own = envb at e2
  have nb : NoOw envb := by rw [← henvb]; exact wipe_no (hide_no _) own
  have sb : SR X.K (Bs.mk (C := Cg) fun _ => none) F2 H1 (L2.wipe σ own) envb := by
    rw [← henvb]
    exact (s2.hid.wipeBoth own).weakB (fun b o h => by cases h) (.inl (wipe_no (hide_no _) own).nw)
  have f2D : F2 Dd = none := s2.free hD
  refine ⟨fun i m H => m = items.length - i ∧ LcW X.K Cg R p cs e envb items F2 H1 (L2.wipe σ own) Dd i H, ⟨items.length, by simp, Nat.zero_le _, F2, [], [], sb.new hD, .refl _, .of (same_upd hD), fun b o _ _ h => h, upd_same, f2D, .nil, by simp [lcD]⟩, ?_⟩
  rintro i m H' ⟨rfl, hi, Fi, acc, rsi, si, sm, hh, nw, hDi, fD, rl, el⟩
  have hHd : H' d = some o := hh _ _ hd ho
  obtain ⟨rs', a1, a2, a3⟩ := lcD_at e2 i
  rw [el] at a1
  cases a1
  by_cases hlt : i < items.length
  · have hdi : items[i]? = some items[i] := by simp [hlt]
    obtain ⟨go, yl⟩ := (wk i H' hHd).1 _ hdi
    obtain ⟨ri, hs, hnext⟩ := a3 _ hdi
    refine .inr ⟨go, fun H'' => LcW X.K Cg R p cs e envb items F2 H1 (L2.wipe σ own) Dd (i + 1) H'', fun H'' w => ⟨_, by omega, rfl, w⟩, fun x Hx hy => ?_⟩
    obtain ⟨rfl, kv, hpt⟩ := yl x Hx hy
    simp only [lcStep, Option.bind_eq_some_iff] at hs
    obtain ⟨e1', ha, c, hc, hs⟩ := hs
    refine ⟨_, Fi, envb, _, e1', si.apart nb, kv, hpt, ha, fun σ2 sy w2 l2 => ⟨by rw [w2, wipe_wipe], ?_⟩⟩
    have n1 : NoOw e1' := asgP_no nb ha
    refine ⟨_, Fi, e1', c, sy.apart n1, hc, fun Fc Hc envc sc' xc => ?_⟩
    obtain ⟨k3, k4⟩ := sc'.since sy.frz xc.ff
    have sz : SR X.K (Bs.mk (C := Cg) fun _ => none) Fc Hc σ2 e1' := by
      have := sy.after (F2 := Fc) (H' := Hc) k3 xc.ff sc'.frz k4 sc'.nf sc'.tab
      exact this.weakB (fun b o h => by cases h) (.inl n1.nw)
    have sbc : SR X.K (Bs.mk (C := Cg) fun _ => none) Fc Hc (L2.wipe σ own) envb := by
      have t1 := (si.apart nb).after (F2 := Fc) (H' := Hc) k3 xc.ff sc'.frz (fun b o h n f => k4 b o h n f) sc'.nf sc'.tab
      exact t1.weakB (fun b o h => by cases h) (.inl nb.nw)
    have nwc : NewF Cg.ts H1 F2 Fc := fun b o h n f => k4 b o (hh _ _ h n) n (nw b o h n f)
    have hDc : Hc Dd = some (.lst acc) := k3 _ _ hDi trivial
    have fDc : Fc Dd = none := k4 _ _ hDi trivial fD
    cases c with
    | false =>
      simp only [Bool.false_eq_true, if_false, Option.some.injEq] at hs ⊢
      subst hs
      exact ⟨hlt, Fc, acc, rsi, sbc, sm.trans xc.ff, hh.trans k3, nwc, hDc, fDc, rl.mono xc.ff, by simpa [optL] using hnext⟩
    | true =>
      simp only [if_true, Option.bind_eq_some_iff, Option.some.injEq] at hs ⊢
      obtain ⟨⟨r1, env2⟩, he, ⟨xd, env3⟩, hl, rfl⟩ := hs
      refine ⟨_, Fc, e1', _, _, sz.apart n1, he, fun v Fe He se xe oe => ?_⟩
      obtain ⟨Fe', se', ye, ste⟩ := oe.settled se
      obtain ⟨Fl, sl', xl, rpx, _⟩ := ste.leak se' hl
      have xcl : Same Fc Fl := xe.ff.trans (ye.ff.trans xl.ff)
      obtain ⟨k5, k6⟩ := sl'.since sz.frz xcl
      have hDe : He Dd = some (.lst acc) := k5 _ _ hDc trivial
      have fDe : Fl Dd = none := k6 _ _ hDc trivial fDc
      have lacc : acc.length = rsi.length := rl.length
      have lt1 : acc.length < sizeLine := by
        have := lcD_pre e2 (i + 1) hnext
        simp only [optL, List.length_append, List.length_singleton] at this
        rw [lacc]
        exact big_lt (by omega)
      refine ⟨acc, hDe, lt1, hlt, Fl, acc ++ [v], rsi ++ [xd], ?_, sm.trans (xc.ff.trans xcl), ?_, fun b o h n f => k6 b o (k3 _ _ (hh _ _ h n) n) n (nwc b o h n f), upd_same, fDe, (rl.mono (xc.ff.trans xcl)).append (.one rpx), by simpa [optL] using hnext⟩
      · have t1 : SR X.K (Bs.mk (C := Cg) fun _ => none) Fl He (L2.wipe σ own) envb := (sbc.after (F2 := Fl) (H' := He) k5 xcl sl'.frz k6 sl'.nf sl'.tab)
        exact t1.heap (fun b o h => by cases h) (fun b o h => by rw [upd_ne (fun (z : b = Dd) => by rw [z, fDe] at h; cases h)]; exact sl'.frz _ _ h) (fun q ⟨j, d, hj, _⟩ => absurd hj (nb j d)) (sl'.tab.put1 (fun ps z => by rw [hDe] at z; cases z))
      · intro b o h n
        have nbD : b ≠ Dd := ne_of_none h hD
        rw [upd_ne nbD]
        exact k5 _ _ (k3 _ _ (hh _ _ h n) n) n
  · have ei : i = items.length := by omega
    have := a2 ei
    subst this
    obtain ⟨F4, s4, x4, sT, fr, nf4⟩ := sl.restoreN x2 s2.frz n2 hh sm si.frz nw si.nf si.tab
    exact .inl ⟨(wk i H' hHd).2 (by omega), fin Dd acc F4 H' hD s4 x4.ff hh nf4 hDi (rl.flat sT (by rw [D.flats_all]; exact hflat)) (by rw [fr Dd hD]; exact fD)⟩
end
def lkxV (R : Run) (own uses : List Nat) (p : Pt) (i : Nat) (cs : Exs) (e : Ex) (env : En) : Option (Rv × En) := (lkItems p env[i]?).bind fun q =>
  (lcD (lcStep R p cs e (wipeE (hide (Ts.frz (env.set i (.sh q.1)) uses)) own)) q.2).bind fun ds => if ds.length ≤ bigLine ∧ ds.all D.flat = true then some (.ow (.lst ds), env) else none
theorem set_self {env : En} {i : Nat} {x : Sl} (h : env[i]? = some x) : env.set i x = env := by
  apply List.ext_getElem?
  intro j
  rw [get_set]
  split
  · rename_i z; subst z; rw [if_pos (lt_of_get h), h]
  · rfl
section
variable {T : Tb} {N : List Str} {R : Run} {X : Cx} {sc : Scope} {fb : Str → Bool} {Cg : Cfg} {B : Bs Cg} {tg : Expr}
theorem lkx_read (g : Gd T N R X sc fb Cg) {own uses : List Nat} {p : Pt} {j : Nat} {cs : Exs} {e : Ex} {td : TE} (htd : ∀ σ H (Q : VK) v, σ[j]? = some (some v) → Q v H → td σ H Q) {σ : L2.St} {H : Hp} {Q : VK} (hw : tE X.K B (lkxV R own uses p j cs e) σ H Q) :
    tLc (iKeys td) (tPK X.K Cg p own) (tCx X.K Cg (evC R cs)) (tEx X.K Cg (evE R e)) own σ H Q ∨
    tLockE (tLc (iKeys td) (tPK X.K Cg p own) (tCx X.K Cg (evC R cs)) (tEx X.K Cg (evE R e)) own) σ H Q := by
  obtain ⟨F, env, r, env', s, ev, q⟩ := hw
  simp only [lkxV, Option.bind_eq_some_iff] at ev
  obtain ⟨⟨dd, items⟩, hit, rs, e2, ev⟩ := ev
  split at ev
  · rename_i hb
    obtain ⟨hbig, hflat⟩ := hb
    simp only [Option.some.injEq, Prod.mk.injEq] at ev
    obtain ⟨rfl, rfl⟩ := ev
    -- a shared one
    have shared : ∀ (d : Addr) (u : HO), plainD u = true → env[j]? = some (.sh dd) → σ[j]? = some (some (V.ref d)) → Rd F d u →
        (∀ (od : Obj) (H1 : Hp) (Q' : VK), H1 d = some (.frz od u) → (∀ J, WkK J d (.frz od u) p items → tLc (fun _ _ Rr => Rr J H1) (tPK X.K Cg p own) (tCx X.K Cg (evC R cs)) (tEx X.K Cg (evE R e)) own σ H1 Q') →
          tLc (iKeys td) (tPK X.K Cg p own) (tCx X.K Cg (evC R cs)) (tEx X.K Cg (evE R e)) own σ H1 Q') →
        tLc (iKeys td) (tPK X.K Cg p own) (tCx X.K Cg (evC R cs)) (tEx X.K Cg (evE R e)) own σ H Q ∨
        tLockE (tLc (iKeys td) (tPK X.K Cg p own) (tCx X.K Cg (evC R cs)) (tEx X.K Cg (evE R e)) own) σ H Q := by
      intro d u hu henv hσ hr mk
      have es : env.set j (.sh dd) = env := set_self henv
      rw [es] at e2
      have nown : ∀ od, Kp Cg.ts d (.frz od u) := fun od => trivial
      rcases hr with hr | ⟨od, hr⟩
      · right
        have mu : Mut (some u) := by cases u <;> first | trivial | (simp [plainD] at hu)
        refine ⟨d, u, s.frz _ _ hr, mu, fun od => ?_⟩
        have s1 := s.flip hr hu (.inl rfl) (.inr ⟨od, rfl⟩)
        refine mk od _ _ upd_same fun J wk => lkx_core g s1 upd_same trivial wk e2 hbig hflat fun Dd acc F4 H' hD s4 sm4 hh nw4 hDi rl fD => ?_
        have hF4 : F4 d = some (.frz od u) := sm4 _ _ upd_same
        refine ⟨s4.frz _ _ hF4, ?_⟩
        have s5 := s4.flip hF4 hu (.inr ⟨od, rfl⟩) (.inl rfl)
        have hDd : Dd ≠ d := fun z => by rw [z, upd_same] at hD; cases hD
        have hHD : H Dd = none := by rw [upd_ne hDd] at hD; exact hD
        refine q _ _ _ s5 ⟨fun b x h => ?_⟩ ⟨Dd, rfl, ⟨acc, by rw [upd_ne hDd]; exact hDi, rl.dct (flip_dct hF4 hu (.inr ⟨od, rfl⟩) (.inl rfl))⟩, by rw [upd_ne hDd]; exact fD, s.freeB hHD, s.notOwn hHD⟩
        by_cases hbd : b = d
        · subst hbd
          rw [hr] at h
          cases h
          exact upd_same
        · rw [upd_ne hbd]
          exact sm4 _ _ (by rw [upd_ne hbd]; exact h)
      · left
        refine mk od _ _ (s.frz _ _ hr) fun J wk => lkx_core g s (s.frz _ _ hr) trivial wk e2 hbig hflat fun Dd acc F4 H' hD s4 sm4 hh nw4 hDi rl fD => ?_
        exact q _ _ _ s4 ⟨sm4⟩ ⟨Dd, rfl, ⟨acc, hDi, rl⟩, fD, s.freeB hD, s.notOwn hD⟩
    cases hsl : env[j]? with
    | none => rw [hsl] at hit; cases hit
    | some sl =>
      rw [hsl] at hit
      cases sl with
      | u => cases hit
      | nw _ => cases hit
      | sh x =>
        cases x with
        | dk es =>
          cases hit
          obtain ⟨v, hσ, rp⟩ := s.sh hsl
          cases rp with
          | @dk a kvs _ hr rK =>
            exact shared a (.dK kvs) rfl hsl hσ hr fun od H1 Q' hd hJ => htd _ _ _ _ hσ ⟨a, od, rfl, .inl ⟨kvs, hd, hJ _ (wkk_k rK)⟩⟩
        | dt es =>
          simp only [lkItems] at hit
          split at hit
          · rename_i hp
            cases hit
            obtain ⟨v, hσ, rp⟩ := s.sh hsl
            cases rp with
            | @dt a kvs _ hr rT =>
              exact shared a (.dT kvs) rfl hsl hσ hr fun od H1 Q' hd hJ => htd _ _ _ _ hσ ⟨a, od, rfl, .inr ⟨kvs, hd, hJ _ (wkk_t hp rT)⟩⟩
          · cases hit
        | _ => cases hit
      | ow x =>
        cases x with
        | dk es =>
          cases hit
          right
          have henv := hsl
          obtain ⟨d, hσ, ⟨kvs, hH, rK⟩, fd, bd, pk⟩ := s.ownAt henv
          refine ⟨d, .dK kvs, hH, trivial, fun od => ?_⟩
          have Fl1 : Same F (upd F d (.frz od (.dK kvs))) := same_upd fd
          have nown : ¬ Owns σ (env.set j .u) d := owns_set_ne s (fun d e => nomatch e) hσ henv
          have sl : SR X.K B (upd F d (.frz od (.dK kvs))) (upd H d (.frz od (.dK kvs))) σ (env.set j (.sh (.dk es))) := by
            have s1 : SR X.K B F (upd H d (.frz od (.dK kvs))) σ (env.set j .u) := (s.wipe1 j).heap (fun c x z => by rw [upd_ne (fun y => by rw [y, bd] at z; cases z)]; exact s.bas c x z) (fun c x z => by rw [upd_ne (fun y => by rw [y, fd] at z; cases z)]; exact s.frz c x z) (fun q z => upd_ne fun y => nown (by rw [← y]; exact z)) (s.tab.put1 (fun ps z => by rw [hH] at z; cases z))
            have s2 := s1.share (o := .frz od (.dK kvs)) upd_same fd bd nown rfl
            have s3 := s2.put (i := j) (sl := .sh (.dk es)) ⟨_, hσ, .dk (.inr ⟨od, upd_same⟩) (rK.mono Fl1)⟩ fun d p e => nomatch e
            simpa [List.set_set] using s3
          generalize hF1 : upd F d (.frz od (.dK kvs)) = F1 at sl Fl1
          generalize hH1 : upd H d (.frz od (.dK kvs)) = H1 at sl
          have hH1d : H1 d = some (.frz od (.dK kvs)) := by rw [← hH1]; exact upd_same
          have hF1d : F1 d = some (.frz od (.dK kvs)) := by rw [← hF1]; exact upd_same
          refine htd _ _ _ _ hσ ⟨d, od, rfl, .inl ⟨kvs, hH1d, ?_⟩⟩
          refine (lkx_core (Q := fun v H' => H' d = some (.frz od (.dK kvs)) ∧ Q v (upd H' d (.dK kvs))) g sl hH1d trivial (wkk_k rK) e2 hbig hflat fun Dd acc Fi H' hD si sm hh nw hDi rl fD => ?_ : tLc (fun _ _ Rr => Rr (Itk d od kvs) H1) (tPK X.K Cg p own) (tCx X.K Cg (evC R cs)) (tEx X.K Cg (evE R e)) own σ H1 fun v H' => H' d = some (.frz od (.dK kvs)) ∧ Q v (upd H' d (.dK kvs)))
          have hHd : H' d = some (.frz od (.dK kvs)) := hh _ _ hH1d trivial
          refine ⟨hHd, ?_⟩
          have hDd : Dd ≠ d := fun z => by rw [z, hH1d] at hD; cases hD
          have hHD : H Dd = none := by rw [← hH1, upd_ne hDd] at hD; exact hD
          have hFid : Fi d = some (.frz od (.dK kvs)) := sm _ _ hF1d
          have hkeep : ∀ b o, b ≠ d → H b = some o → Kp Cg.ts b o → H' b = some o := fun b o hb h n => hh _ _ (by rw [← hH1, upd_ne hb]; exact h) n
          let F4 : Hp := fun b => if b = d then none else Fi b
          have F4d : F4 d = none := if_pos rfl
          have F4n : ∀ b, b ≠ d → F4 b = Fi b := fun b hb => if_neg hb
          have FF4 : Same F F4 := fun b o h => by
            have hb : b ≠ d := fun z => by rw [z, fd] at h; cases h
            rw [F4n b hb]
            exact sm _ _ (Fl1 _ _ h)
          have FiN : ∀ b o, b ≠ d → H b = some o → Kp Cg.ts b o → F b = none → Fi b = none := fun b o hb h n f => nw b o (by rw [← hH1, upd_ne hb]; exact h) n (by rw [← hF1, upd_ne hb]; exact f)
          have s4 : SR X.K B F4 (upd H' d (.dK kvs)) σ env := by
            refine ⟨s.len, fun b o h => ?_, fun b o h => ?_, fun b o h => ?_, fun i sl h => ?_, s.inj, s.nb, fun b o h => si.nf b o (by by_cases hb : b = d; (· rw [hb, F4d] at h; cases h); (· rw [F4n b hb] at h; exact h)), si.tab.put1 (fun ps z => by rw [hHd] at z; cases z)⟩
            · have hb : b ≠ d := fun z => by rw [z, bd] at h; cases h
              rw [upd_ne hb]
              exact hkeep b o hb (s.bas b o h) (s.nb _ _ h)
            · have hb : b ≠ d := fun z => by rw [z, F4d] at h; cases h
              rw [upd_ne hb]
              rw [F4n b hb] at h
              exact si.frz b o h
            · have hb : b ≠ d := fun z => by rw [z, bd] at h; cases h
              rw [F4n b hb]
              exact FiN b o hb (s.bas b o h) (s.nb _ _ h) (s.dis b o h)
            · cases sl with
              | u => trivial
              | sh x => obtain ⟨v, e, r⟩ := s.sh h; exact ⟨v, e, r.mono FF4⟩
              | nw x => obtain ⟨p', e', o'⟩ := s.slot i _ h; exact ⟨p', e', o'.mono FF4⟩
              | ow x =>
                obtain ⟨p', e', o', f', b'⟩ := s.ownAt h
                by_cases hpd : p' = d
                · subst hpd
                  have hij := s.inj i j x (.dk es) p' h henv e' hσ
                  subst hij
                  rw [henv] at h
                  cases h
                  exact ⟨p', e', ⟨kvs, upd_same, rK.mono FF4⟩, F4d, b'⟩
                · obtain ⟨u, hu, _, nt⟩ := o'.some
                  refine ⟨p', e', o'.mono FF4 ?_, ?_, b'⟩
                  · rw [upd_ne hpd, hu]
                    exact hkeep p' u hpd hu (kp_of nt)
                  · rw [F4n p' hpd]
                    exact FiN p' u hpd hu (kp_of nt) f'
          have sT : SameT Fi F4 := fun b xs htp h => by
            have hb : b ≠ d := fun z => by rw [z, hFid] at h; cases h; cases htp
            rw [F4n b hb]
            exact h
          exact q _ F4 _ s4 ⟨FF4⟩ ⟨Dd, rfl, ⟨acc, by rw [upd_ne hDd]; exact hDi, rl.flat sT (by rw [D.flats_all]; exact hflat)⟩, by rw [F4n Dd hDd]; exact fD, s.freeB hHD, s.notOwn hHD⟩
        | _ => cases hit
  · cases ev
theorem pe_lkx' (g : Gd T N R X sc fb Cg) {own uses : List Nat} {p : Pt} {j : Nat} {y : Str} {py : Pos} {cs : Exs} {e : Ex} {elt : Expr} {ifs : List Expr} {scope : Scope} {pos : Pos}
    (h1 : N[j]? = some y) (h2 : visB sc y = true) (h3 : nameOk y = true) (ok : blkC N sc scope (own.map fun i => (N.getD i ⟨#[]⟩, i)) = true) (hpt : ptOk N (relS scope sc) (fbOf scope) p tg = true) (hpi : ptIn own p = true)
    (hT : ∀ {X' : Cx}, X'.K = X.K → Gd T N R X' (relS scope sc) (fbOf scope) Cg → PTs X' ifs (tCx X.K Cg (evC R cs)))
    (hE : ∀ {X' : Cx}, X'.K = X.K → Gd T N R X' (relS scope sc) (fbOf scope) Cg → ∀ B : Bs Cg, PE X' elt (tE X.K B (evE R e))) :
    PE X (.ListComp elt [⟨tg, .Name y py, ifs, 0⟩] scope pos) (tE X.K B (lkxV R own uses p j cs e)) := by
  have hv := pe_var (X := X) (i := j) (x := y) (pos := py) (by rw [g.hN]; exact h1) (vis_of g h2) (dbg_of h3).1 (dbg_of h3).2
  have base := pe_lc (own := own.map fun i => (N.getD i ⟨#[]⟩, i)) (pos := pos) (ifs := ifs) (tt := tCx X.K Cg (evC R cs)) g.calm (by rw [g.hN]; exact g.nd) (pi_keys (tg := tg) hv) (by rw [g.hN, g.hsc]; exact blkOk_by ok) (g := tPK X.K Cg p own) (fun s H C cl fp => pg_k (g.blk s H scope C cl fp) hpt hpi)
    (fun s H C cl fp => hT (X' := X.blk s H scope (compEnvC scope cl C X.env) fp) rfl (g.blk s H scope C cl fp)) (fun s H C cl fp => (⟨fun pins s' σ H' Q I ⟨B', q⟩ => (hE (X' := X.blk s H scope (compEnvC scope cl C X.env) fp) rfl (g.blk s H scope C cl fp) B').run pins s' σ H' Q I q⟩ : PE (X.blk s H scope (compEnvC scope cl C X.env) fp) elt (tEx X.K Cg (evE R e)))) (fun _ => rfl)
  rw [own_map] at base
  have base2 := pe_lock base
  refine ⟨fun pins s σ H Q I h => ?_⟩
  rcases lkx_read (td := fun σ H Q => ∃ v, σ[j]? = some (some v) ∧ Q v H) g (fun σ H Q v hv hq => ⟨v, hv, hq⟩) h with h | h
  · exact base.run pins s σ H Q I h
  · exact base2.run pins s σ H Q I h
end
end Ts

set_option linter.all false
set_option autoImplicit false
set_option maxRecDepth 100000
set_option maxHeartbeats 2000000
/-! any(number > 0 for number in d.values()), d one's own dict with tuples as keys. -/
namespace Ts
open PySem PySem.Spec PyProof.Rows L2

/-- the element: of a whole number a the answer pb a; all but P stands still -/
def EltI (prog : Program) (w : World) (scope : Scope) (x : Str) (elt : Expr) (cells : List (Str × Addr)) (h : Heap) (P : Addr) (pb : Int → Bool) : Prop :=
  ∀ (cenv : Env) (A' : Around) (E' : Value → Shared → Prop) (a : Int) (t : Tok) (s₂ : Shared) (m₂ : Str → Option Value), cenv.scope = scope → cenv.cells = cells → (∀ b o, b ≠ P → h.get? b = some o → s₂.heap.get? b = some o) → s₂.heap.Ns cenv.locals m₂ → m₂ x = some (.int a t) →
    wpAny (model prog w) A' (eval elt cenv) (fun y s₃ => y = .bool (pb a) ∧ Keeps s₂ s₃) E' s₂
def trI (pb : Int → Bool) (ws : List Int) (j : Nat) : Bool := match ws[j]? with
  | some b => pb b
  | none => false
theorem trI_some {pb : Int → Bool} {l : List Int} {j : Nat} {b : Int} (h : l[j]? = some b) : trI pb l j = pb b := by
  unfold trI
  rw [h]
theorem any_trI (l : List Int) (pb : Int → Bool) : (List.range l.length).any (trI pb l) = l.any pb := by
  rw [Bool.eq_iff_iff, List.any_eq_true, List.any_eq_true]
  constructor
  · intro ⟨j, hj, h⟩
    have hj' := List.mem_range.mp hj
    rw [trI_some (List.getElem?_eq_getElem hj')] at h
    exact ⟨l[j], List.getElem_mem hj', h⟩
  · intro ⟨b, hb, h⟩
    obtain ⟨j, hj, e⟩ := List.getElem_of_mem hb
    refine ⟨j, List.mem_range.mpr hj, ?_⟩
    rw [trI_some (List.getElem?_eq_getElem hj), e]
    exact h
/-- the values of a dict with tuples as keys are the whole numbers ws -/
def IntsT (kvs : List (List Key × V)) (ws : List Int) : Prop := kvs.map (·.2) = ws.map V.int
section
variable {X : Cx} {pins : List (Addr × Obj)} {σ : L2.St} {H : Hp} {s : Shared}
theorem inv_rawT {kvs : List (List Key × V)} {ws : List Int} {d : Addr} (I : Inv X pins σ H s) (h : H d = some (.dT kvs)) (hw : IntsT kvs ws) :
    (d == sysModules) = false ∧ ∃ (es : Array DictEntry) (ep : Nat), s.heap.DictRaw d es ep ∧ es.size = ws.length ∧ ∀ (i : Nat) (hi : i < es.size), ∃ (a : Int) (t : Tok), ws[i]? = some a ∧ es[i].val = .int a t := by
  obtain ⟨z, hs, xs, pr, o, es, ep, ho, hx, hdt, he, _⟩ := I.hok d _ h
  have l1 : es.size = xs.length := size_of_entries he
  have l2 : kvs.length = xs.length := Paired.length pr
  have l3 : kvs.length = ws.length := by
    have := congrArg List.length hw
    simpa using this
  refine ⟨hs, es, ep, ⟨o, ho, hx, hdt⟩, by omega, fun i hi => ?_⟩
  have hk : i < kvs.length := by omega
  obtain ⟨b, hb, e1, e2, e3⟩ := paired_get pr (List.getElem?_eq_getElem hk)
  have q := entry_at he i
  rw [hb, Array.getElem?_eq_getElem hi] at q
  have q' := Option.some.inj q
  have hv : (kvs[i]'hk).2 = V.int (ws[i]'(by omega)) := by
    have h1 : (kvs.map (·.2))[i]? = (ws.map V.int)[i]? := by rw [hw]
    rw [List.getElem?_map, List.getElem?_map, List.getElem?_eq_getElem hk, List.getElem?_eq_getElem (by omega : i < ws.length)] at h1
    exact Option.some.inj h1
  rw [hv] at e3
  obtain ⟨t, et⟩ := (show ∃ t, b.2.2 = Value.int _ t from e3)
  exact ⟨_, t, List.getElem?_eq_getElem (by omega), by rw [q']; exact et⟩
/-- the generator g over the numbers ws, ready to be walked, in the state s5; H1: what was held before -/
def ReadyI (X : Cx) (pins : List (Addr × Obj)) (σ : L2.St) (H1 : Hp) (P : Addr) (ws : List Int) (pb : Int → Bool) (g : Addr) (s5 : Shared) : Prop :=
  ∃ (fp wr : List Addr) (G : Array GenState → Array GenState → Prop) (F : Nat → Value → Prop) (St : Nat → Shared → Prop),
    WalksS X.prog X.w X.A.in1 g fp wr G ws.length F St ∧ St 0 s5 ∧
    TruthOf X.prog X.w X.A.in1 F (trI pb ws) ∧
    ∀ s', Moved wr G s5 s' → ∃ H2, GxR.Tabbed P H1 H2 ∧ Inv X pins σ H2 s'

theorem gen_anyV {c P : Addr} {elt e : Expr} {apos cpos : Pos} {x : Str} {px gpos : Pos} {scope : Scope} {te : TE} {k : Nat} {Q' : Value → Shared → Prop} {R : List Int → (Int → Bool) → Hp → Prop}
    (hr : Room k X.A) (TB : GxR.TabB X.base X.mg c P) (hcode : X.env.code = .ref c) (S : GxR.GenS X.env scope x) (hi : PE X e te) (hbase : attributeBase e "values" X.env (eval e X.env) = eval e X.env) (hline : (apos.endLine == cpos.line) = true)
    (hel : ∀ ws pb H1 s1, R ws pb H1 → GxR.TabG H1 P → Inv X pins σ H1 s1 → EltI X.prog X.w scope x elt (cloFrom X.env.cells scope.names []) s1.heap P pb)
    (hs : ∀ v, genFold (.Call (.Attribute e "values" apos) [] [] cpos) X.env v = pure v) (I : Inv X pins σ H s) (h : te σ H fun v H1 => ∃ (yl : Addr) (kvs : List (List Key × V)) (ws : List Int) (pb : Int → Bool), v = .ref yl ∧ H1 yl = some (.dT kvs) ∧ IntsT kvs ws ∧ GxR.TabG H1 P ∧ R ws pb H1)
    (hQ : ∀ ws pb H1 g s5, R ws pb H1 → ReadyI X pins σ H1 P ws pb g s5 → Q' (.ref g) s5) :
    wpAny (model X.prog X.w) X.A (eval (.GeneratorExp elt [⟨.Name x px, .Call (.Attribute e "values" apos) [] [] cpos, [], 0⟩] scope gpos) X.env) Q' X.xe s := by
  refine wpAny_GeneratorExp_walksQ hr.hd S.co (closure_ok S.free) S.cell S.dot S.loc S.kind (by have := hr.dp; omega) ?_ hs
  refine wpAny_Call_method (T := "dict") (id := "dict.values") hbase rfl hline F.plainAttrs_dict F.slot_dict_values F.type_dict_values (thn (hi.run pins s σ H _ I h) fun xv s0 ⟨v, H1, I0, r1, q1⟩ => ?_)
  obtain ⟨yl, kvs, ws, pb, rfl, hyl, hws, ⟨ps, hP, ht⟩, q1⟩ := q1
  obtain rfl : xv = Value.ref yl := r1
  obtain ⟨hsm, es, ep, hdr0, hszE, hvals⟩ := inv_rawT I0 hyl hws
  refine ⟨hdr0.typeIs, fun a ea => by cases ea; obtain ⟨o, ho, hc, _⟩ := hdr0; exact ⟨o, ho, hc.2.1⟩, ?_⟩
  refine method_meetsIn F.slot_dict_values F.entry_dict_values rfl (PySem.evalArgs_none ⟨rfl, hdr0.typeIs, F.args_dict_values_1 _, _, meets_dict_values_raw yl hsm, ⟨⟨es, ep, hdr0⟩, ?_⟩⟩)
  have I1 : Inv X pins σ H1 { s0 with heap := s0.heap.push { cls := .type "dict_values", data := .fields #[.ref yl] } } := I0.kept (t' := s0.toks) fun b ob q => Heap.get?_push_of_some _ q
  have hvw : ({ s0 with heap := s0.heap.push { cls := .type "dict_values", data := .fields #[.ref yl] } } : Shared).heap.IsValuesView s0.heap.objs.size yl := ⟨_, Heap.get?_push_size _ rfl, rfl, rfl⟩
  have hIL : ({ s0 with heap := s0.heap.push { cls := .type "dict_values", data := .fields #[.ref yl] } } : Shared).heap.DictRaw yl es ep := hdr0.at fun o q => Heap.get?_push_of_some _ q
  show wpAny _ _ (pyIter (.ref s0.heap.objs.size)) _ _ { s0 with heap := s0.heap.push { cls := .type "dict_values", data := .fields #[.ref yl] } }
  generalize ({ s0 with heap := s0.heap.push { cls := .type "dict_values", data := .fields #[.ref yl] } } : Shared) = s1 at I1 hvw hIL ⊢
  have helt := hel ws pb H1 s1 q1 ⟨ps, hP, ht⟩ I1
  refine wpAny_pyIter_values_raw hvw hIL ?_
  generalize ho : ({ cls := .type "dict_valueiterator", data := .fields #[.ref yl, .int 0 0, .int es.size 0, .int ep 0] } : Obj) = o
  have hitr : (s1.heap.push o).IsValIter s1.heap.objs.size yl 0 es.size ep := by
    subst ho
    exact ⟨_, Heap.get?_push_size _ rfl, rfl, rfl⟩
  have hylt : yl < s1.heap.objs.size := by
    obtain ⟨_, e, _⟩ := _root_.id hIL
    exact Heap.lt_size e
  have hPs : s1.heap.get? P = some { cls := .none, data := .fields ps } := I1.hok P _ hP
  have hPlt : P < s1.heap.objs.size := Heap.lt_size hPs
  have hP2 : (s1.heap.push o).get? P = some { cls := .none, data := .fields ps } := Heap.get?_push_of_some _ hPs
  have cd : PySem.W.CodeHd (s1.heap.push o) c P := TB.code.keeps fun b u e => Heap.get?_push_of_some _ (I1.bk b u e)
  have lim2 : (s1.heap.push o).NoLimit := I1.nolimit.push o
  have cont : ∀ (code : Value) (h3 : Heap) (tk : Nat) (ps' : Array Value), Heap.ExtBut P (s1.heap.push o) h3 → (s1.heap.push o).objs.size ≤ h3.objs.size → h3.get? P = some { cls := .none, data := .fields ps' } → (∃ more, ps' = ps ++ more) → TriplesOk ps'.toList →
      wpAny (model X.prog X.w) X.A (builtinsFor X.env.globals X.env.builtins) (fun bi s₄ =>
        ∃ Ia fp wr n₀ Pf St₀ pz F, Value.ref s1.heap.objs.size = .ref Ia ∧ (∀ A' : Around, A'.handled = none → Walks X.prog X.w A' Ia fp wr n₀ Pf St₀) ∧ St₀ 0 s₄.heap ∧ (∀ b ∈ fp, b < s₄.heap.objs.size) ∧ s₄.heap.NoLimit ∧ cStatics ∉ wr ∧
          (∀ href : Heap, (∀ b o, s₄.heap.get? b = some o → href.get? b = some o) →
            QuietGen X.prog X.w (genEnv scope (cloFrom X.env.cells scope.names []) s₄.heap.objs.size code bi X.env) x [] elt (List.range s₄.heap.objs.size) wr Pf pz F href) ∧
          (∀ a h₅ tk gs, gs.bare = true → s₄.heap.objs.size < a → h₅.objs.size = a + 1 → (∀ b o, s₄.heap.get? b = some o → h₅.get? b = some o) →
            WalksS X.prog X.w X.A.in4 a (a :: s₄.heap.objs.size :: List.range s₄.heap.objs.size) (s₄.heap.objs.size :: wr) (GenOnlyQ s₄.gens.size) (passing pz n₀ 0).length
              (fun j y => ∃ i, (passing pz n₀ 0)[j]? = some i ∧ F i y) (GenAt X.prog X.w X.A.in4 a s₄.gens.size s₄.heap.objs.size (List.range s₄.heap.objs.size) wr pz n₀ F) →
            GenAt X.prog X.w X.A.in4 a s₄.gens.size s₄.heap.objs.size (List.range s₄.heap.objs.size) wr pz n₀ F 0 { s₄ with gens := s₄.gens.push gs, toks := tk, heap := h₅ } →
            Q' (.ref a) { s₄ with gens := s₄.gens.push gs, toks := tk, heap := h₅ })) X.xe { s1 with heap := h3, toks := tk } := by
    intro code h3 tk ps' hx hsz hP3 hmore ht3
    obtain ⟨bm, ob, e1, e2, e3, e4, e5, e6, e7, e8⟩ := TB.bm
    have hcP : cStatics ≠ P := fun e => by
      obtain ⟨_, hns, _⟩ := I1.nolimit
      obtain ⟨o', es, ep, ho, hd, _⟩ := hns
      rw [e, hPs] at ho
      cases ho
      cases hd
    have hcl : cStatics < s1.heap.objs.size := let ⟨_, hns, _⟩ := I1.nolimit; hns.lt
    have sz2 : (s1.heap.push o).objs.size = s1.heap.objs.size + 1 := Heap.size_push ..
    have keep3 : ∀ b u, b ≠ P → s1.heap.get? b = some u → h3.get? b = some u := fun b u hb e => hx b u hb (Heap.get?_push_of_some _ e)
    refine wpAny_builtinsFor (m := X.mg) (by rw [I1.ok.glob]; exact ((I1.mod.glob.keeps I1.bk).push o).extBut hx TB.gP) e1 e2 (keep3 _ _ e4 (I1.bk _ _ e5)) e6 e7 e8 ?_
    have hylP : yl ≠ P := fun z => by
      obtain ⟨_, e, hc1, hd1⟩ := _root_.id hIL
      rw [z, hPs] at e
      cases e
      cases hd1
    have hIL3 : h3.DictRaw yl es ep := hIL.at fun ob q => keep3 _ _ hylP q
    have hItr3 : h3.IsValIter s1.heap.objs.size yl 0 es.size ep := hitr.at fun u e => hx _ u (Nat.ne_of_gt hPlt) e
    refine ⟨s1.heap.objs.size, [s1.heap.objs.size, yl], [s1.heap.objs.size], es.size, (fun i v => ∃ hi : i < es.size, v = es[i].val), (fun i h => h.IsValIter s1.heap.objs.size yl i es.size ep ∧ h.DictRaw yl es ep), (fun _ => true),
      (fun i y => ∃ a : Int, ws[i]? = some a ∧ y = .bool (pb a)), rfl, (fun A' hA => Walks.rawValues hA _ yl (Nat.ne_of_lt hylt) es ep), ⟨hItr3, hIL3⟩, ?_, lim2.extBut hx hcP, ?_, ?_, ?_⟩
    · intro b hb
      rcases List.mem_cons.mp hb with z | z
      · rw [z]
        show s1.heap.objs.size < h3.objs.size
        omega
      · rcases List.mem_cons.mp z with z | z
        · rw [z]
          have e9 : s1.heap.objs.size ≤ h3.objs.size := by omega
          exact Nat.lt_of_lt_of_le hylt e9
        · cases z
    · intro z
      rcases List.mem_cons.mp z with z | z
      · exact Nat.ne_of_lt hcl z
      · cases z
    · intro href hhref
      refine ⟨fun A' E' i v s₂ m₂ hA hPv hn hm hk => ?_, fun A' E' i v s₂ m₂ hA hPv hp hn hm hk => ?_⟩
      · simp only [List.forIn_nil]
        exact wpAny_pure ⟨rfl, GxR.keeps_refl _⟩
      · obtain ⟨hiv, rfl⟩ := hPv
        obtain ⟨a, u, ha, hva⟩ := hvals i hiv
        rw [hva] at hm
        refine wpAny_mono (helt _ A' E' a u s₂ m₂ rfl rfl (fun b ob hb e => ?_) hn hm) (fun y s3 r => ?_) fun _ _ e => e
        · have h3e := keep3 b ob hb e
          have hlt := Heap.lt_size e
          refine hk b (List.mem_range.mpr (Heap.lt_size h3e)) (fun hw => ?_) ob (hhref b ob h3e)
          rcases List.mem_cons.mp hw with z | z
          · rw [z] at hlt
            exact Nat.lt_irrefl _ hlt
          · cases z
        · exact ⟨⟨a, ha, r.1⟩, r.2⟩
    · intro g h5 tk5 gs hgb hag hsz5 hk5 W5 hgat
      simp only [GxR.passing_true, List.length_range] at W5
      rw [hszE] at W5 hgat
      refine hQ ws pb H1 g _ q1 ⟨_, _, _, _, _, W5.in4_1, hgat, ?_, fun s' hm => ?_⟩
      · intro j y sj Qj Ej hy hQj
        obtain ⟨i, hij, a, ha, rfl⟩ := hy
        obtain ⟨hj, ej⟩ := List.getElem?_eq_some_iff.mp hij
        rw [List.getElem_range] at ej
        subst ej
        have hQ2 : Qj (trI pb ws j) sj := hQj
        rw [trI_some ha] at hQ2
        exact wpAny_truthy_bool hQ2
      · obtain ⟨more, em⟩ := hmore
        have nwr : ∀ b u, s1.heap.get? b = some u → b ∉ h3.objs.size :: [s1.heap.objs.size] := fun b u e hb => by
          have hl := Heap.lt_size e
          rcases List.mem_cons.mp hb with z | z
          · rw [z] at hl
            have h9 : (h3.objs.size : Nat) < s1.heap.objs.size := hl
            omega
          · rcases List.mem_cons.mp z with z | z
            · rw [z] at hl
              exact Nat.lt_irrefl _ hl
            · cases z
        have J := GxR.inv_tab (more := more) (h' := s'.heap) (g' := s'.gens) (d' := s'.drawn) (t' := s'.toks) I1 hP (fun b u hb e => hm.heap b u (nwr b u e) (hk5 b u (keep3 b u hb e)))
          (by rw [← em]; exact hm.heap P _ (nwr P _ hPs) (hk5 P _ hP3)) (AllBare.movedS (I1.bare.push hgb) hm)
        rw [GxR.sh_eta s1 s' hm.os] at J
        refine ⟨upd H1 P (.tbl (ps ++ more)), ⟨⟨ps ++ more, upd_same, by rw [← em]; exact ht3⟩, fun b hb => upd_ne hb⟩, J⟩
  refine ⟨lim2, ?_⟩
  cases hf : codeAmong gpos ps.toList with
  | none =>
    refine wpAny_genexprCodeX hcode (cd.code hP2 ht) (cd.tab hP2) hf fun c' h' tk hx hge hlt hco' _ htab' _ => ?_
    obtain ⟨o1, vs, f1, tf, fl, tg, inF, tx, tt, op, _, _, _, _, _, _, _, _, _, htr, _⟩ := hco'
    exact cont _ h' tk _ hx (Nat.le_trans hge (Nat.le_of_lt hlt)) htab'.2 ⟨_, rfl⟩ htr
  | some cv =>
    refine wpAny_genexprCode_hit hcode (cd.code hP2 ht) hf ?_
    exact cont cv (s1.heap.push o) s1.toks ps (Heap.ExtBut.refl _ _) (Nat.le_refl _) hP2 ⟨#[], by simp⟩ ht
/-- any(test for x in e), e one's own dict with tuples as keys; behind it the def's table may have grown -/
theorem pe_anyV {c P : Addr} {elt e : Expr} {apos cpos : Pos} {x : Str} {px p pos gpos : Pos} {scope : Scope} {te : TE} {k : Nat} (R : List (Option V) → List Int → (Int → Bool) → Hp → Prop)
    (hr : Room k X.A) (hg : Gl X "any") (hm : X.mg "any" = none) (TB : GxR.TabB X.base X.mg c P) (hcode : X.env.code = .ref c) (S : X.Ok → GxR.GenS X.env scope x) (hi : PE X e te) (hbase : attributeBase e "values" X.env (eval e X.env) = eval e X.env) (hline : (apos.endLine == cpos.line) = true)
    (hel : ∀ pins σ ws pb H1 s1, R σ ws pb H1 → GxR.TabG H1 P → Inv X pins σ H1 s1 → EltI X.prog X.w scope x elt (cloFrom X.env.cells scope.names []) s1.heap P pb)
    (hs : ∀ v, genFold (.Call (.Attribute e "values" apos) [] [] cpos) X.env v = pure v)
    (he : starEach [.GeneratorExp elt [⟨.Name x px, .Call (.Attribute e "values" apos) [] [] cpos, [], 0⟩] scope gpos] X.env = (false, eval (.GeneratorExp elt [⟨.Name x px, .Call (.Attribute e "values" apos) [] [] cpos, [], 0⟩] scope gpos) X.env) :: starEach [] X.env := by rfl) :
    PE X (.Call (.Name "any" p) [.GeneratorExp elt [⟨.Name x px, .Call (.Attribute e "values" apos) [] [] cpos, [], 0⟩] scope gpos] [] pos) (fun σ H Q => te σ H fun v H1 => ∃ (yl : Addr) (kvs : List (List Key × V)) (ws : List Int) (pb : Int → Bool), v = .ref yl ∧ H1 yl = some (.dT kvs) ∧ IntsT kvs ws ∧ GxR.TabG H1 P ∧ R σ ws pb H1 ∧ ∀ H2, GxR.Tabbed P H1 H2 → Q (.bl (ws.any pb)) H2) := by
  refine ⟨fun pins s σ H Q I h => ?_⟩
  refine wpAny_Call_Name_kw (ld_blt I hg hm boot_any ?_)
  refine PyProof.Rows.callWith_builtin1 ?_ he (by rfl)
  rw [he]
  show wpAny _ _ (spliced ((false, eval (.GeneratorExp elt [⟨.Name x px, .Call (.Attribute e "values" apos) [] [] cpos, [], 0⟩] scope gpos) X.env) :: backTo pos (starEach [] X.env))) _ _ s
  refine Calls.spliced_cons (gen_anyV (R := fun ws pb H1 => R σ ws pb H1 ∧ ∀ H2, GxR.Tabbed P H1 H2 → Q (.bl (ws.any pb)) H2) hr TB hcode (S I.ok) hi hbase hline (fun ws pb H1 s1 hR hT I1 => hel pins σ ws pb H1 s1 hR.1 hT I1) hs I h fun ws pb H1 g s5 hR hG => ?_)
  obtain ⟨fp, wr, G, F, St, W, hst, htr, hI⟩ := hG
  refine Calls.spliced_nil ?_
  refine call_any_walkS (W.self 0 _ _ _ hst ⟨g, fp, wr, G, _, F, St, _, rfl, W, hst, htr, fun s' hmv => ?_⟩)
  obtain ⟨H2, hT, J⟩ := hI s' hmv
  refine ⟨.bl _, H2, J, rfl, ?_⟩
  rw [any_trI ws pb]
  exact hR.2 H2 hT
/-- x > 0 -/
theorem elt_pos {P : Addr} {scope : Scope} {x : Str} {p1 p2 p3 : Pos} {k : Nat} {cells : List (Str × Addr)} {h : Heap}
    (hk : scope.kind = .function) (hx : scope.names.lookup x = some .local) (hd : (x == ("__debug__" : Str)) = false) :
    EltI X.prog X.w scope x (.Compare (.Name x p1) [.Gt] [.Constant (.int 0) k p2] p3) cells h P (fun a => decide (0 < a)) := by
  intro cenv A' E' a t s₂ m₂ hsc hce hkeep hn hm
  refine wpAny_Compare1 ?_
  refine wpAny_Name (wpAny_loadName_local (by rw [hsc]; exact hk) (show cenv.scope.names.lookup x = some .local by rw [hsc]; exact hx) hn hm ?_) hd
  refine wpAny_Constant_int (gt_int ⟨?_, ?_⟩)
  · rfl
  · exact GxR.keeps_tok _ _
end
section
variable {T : Tb} {N : List Str} {R : Run} {X : Cx} {sc : Scope} {fb : Str → Bool} {Cg : Cfg} {B : Bs Cg}
theorem rpT_ints {K : PySem.W.Frag} {F : Hp} : ∀ {kvs : List (List Key × V)} {es : List (List Key × D)} {ns : List Int}, RpT K F kvs es → valsI? es = some ns → IntsT kvs ns
  | _, _, ns, .nil, h => by
    cases h
    rfl
  | _, _, ns, .cons (d := d) h r, e => by
    cases d <;> simp only [valsI?, reduceCtorEq] at e
    rename_i i
    obtain ⟨m, e1, e2⟩ := Option.bind_eq_some_iff.mp e
    cases e2
    cases h
    have := rpT_ints r e1
    unfold IntsT at this ⊢
    simp only [List.map_cons, this]
/-- any(x > 0 for x in z.values()) -/
theorem pe_anyPos' (g : Gd T N R X sc fb Cg) {i : Nat} {n : Int} {x z : Str} {kk : Nat} {p p1 p2 p3 px zp apos cpos pos gpos : Pos} {scope : Scope}
    (h1 : glB sc "any" = true) (hn : n = 0) (h2 : N[i]? = some z) (h3 : visB sc z = true) (h5 : genB sc scope x = true) (h6 : nameOk x = true) (h7 : nameOk z = true) (h8 : T.gn = true) (h9 : (T.nm 1).isSome = true) (h10 : (apos.endLine == cpos.line) = true) :
    PE X (.Call (.Name "any" p) [.GeneratorExp (.Compare (.Name x p1) [.Gt] [.Constant (.int 0) kk p2] p3) [⟨.Name x px, .Call (.Attribute (.Name z zp) "values" apos) [] [] cpos, [], n⟩] scope gpos] [] pos) (tE X.K B (evE R (.anyPos i))) := by
  subst hn
  obtain ⟨c, P, hcode, TB, hP⟩ := g.gen h8
  obtain ⟨y, hy⟩ := Option.isSome_iff_exists.mp h9
  obtain ⟨_, _, k, _, _, _, room, _⟩ := g.calls 1 y hy
  have hk : scope.kind = .function := by
    have h5' := h5
    unfold genB at h5'
    simp only [Bool.and_eq_true] at h5'
    have := h5'.1.1.1.1
    split at this
    · assumption
    · cases this
  have hx : scope.names.lookup x = some .local := by
    have h5' := h5
    unfold genB at h5'
    simp only [Bool.and_eq_true] at h5'
    exact jloc_of h5'.1.2
  have hv := pe_var (X := X) (i := i) (x := z) (pos := zp) (by rw [g.hN]; exact h2) (vis_of g h3) (dbg_of h7).1 (dbg_of h7).2
  have base := pe_anyV (X := X) (pos := pos) (p := p) (px := px) (gpos := gpos) (apos := apos) (cpos := cpos) (fun (σ : List (Option V)) (ws : List Int) (pb : Int → Bool) (H1 : Hp) => pb = fun a => decide (0 < a)) room (gl_of g h1) (g.blt .any) TB hcode (gen_of g h5) hv (by rfl) h10
    (elt := .Compare (.Name x p1) [.Gt] [.Constant (.int 0) kk p2] p3)
    (fun pins σ ws pb H1 s1 e3 hT I => by
      rw [e3]
      exact elt_pos hk hx (dbg_of h6).1) (fun v => rfl)
  refine base.imp fun σ H Q ⟨F, env, r, env', s, e, q⟩ => ?_
  simp only [evE] at e
  split at e
  · rename_i es hsl
    simp only [Option.bind_eq_some_iff] at e
    obtain ⟨ns, e1, e⟩ := e
    split at e
    · simp only [Option.some.injEq, Prod.mk.injEq] at e
      obtain ⟨rfl, rfl⟩ := e
      obtain ⟨d, hσ, ⟨kvs, hH, rT⟩, fd, bd, pk⟩ := s.ownAt hsl
      refine ⟨_, hσ, d, kvs, ns, _, rfl, hH, rpT_ints rT e1, s.tab P hP, rfl, fun H2 hT2 => ?_⟩
      exact q _ F H2 (s.tabbed hP hT2) Ext.refl (.bl _)
    · cases e
  · cases e
theorem pe_posD (g : Gd T N R X sc fb Cg) {i : Nat} {d : PosDat} (h : posChk T N i sc d = true) : PE X d.e (tE X.K B (evE R (.anyPos i))) := by
  obtain ⟨y, x, x', z, kk, p, p1, p2, p3, px, zp, apos, cpos, pos, gpos, n, scope⟩ := d
  simp only [posChk, Bool.and_eq_true, decide_eq_true_eq] at h
  obtain ⟨⟨⟨⟨⟨⟨⟨⟨⟨⟨⟨rfl, h1⟩, h2⟩, rfl⟩, h3⟩, h4⟩, h5⟩, h6⟩, h7⟩, h8⟩, h9⟩, h10⟩ := h
  exact pe_anyPos' g h1 h2 h3 h4 h5 h6 h7 h8 h9 h10
end
end Ts

set_option Elab.async false
set_option linter.all false
set_option autoImplicit false
set_option maxRecDepth 100000
set_option maxHeartbeats 4000000
/-! sorted(set(texts)): a set of texts, told so far that its members can be gathered (the kit has this for whole numbers alone). -/
namespace Ts
open PySem PySem.Spec PyProof.Rows L2

def txt (e : Int × Value) : Str := match e.2 with | .str k _ => k | _ => Str.empty
def TxtE (P : Program) (w : World) (e : Int × Value) : Prop := ∃ k tk, e.2 = Value.str k tk ∧ e.1 = (PySem.strKind P w).hash k
/-- the set of texts at a: S its members -/
structure SetTx (P : Program) (w : World) (h : Heap) (a : Addr) (S : Str → Bool) (o : Obj) (es : Array (Int × Value)) (ep : Nat) (t : SetTable) : Prop where
  get : h.get? a = some o
  ex : o.ExactSet
  data : o.data = .set es ep t
  good : ∀ e ∈ es.toList, TxtE P w e
  nd : (es.toList.map txt).Nodup
  mem : ∀ k, S k = true ↔ k ∈ es.toList.map txt
  lt : es.size < scanBound
  fits : t.fits es.size = true
  ris : Ris t.place.toList
  led : w.params.followText "set-order" = true ∨ t.led = true
def IsTx (P : Program) (w : World) (h : Heap) (a : Addr) (S : Str → Bool) (n : Nat) : Prop := ∃ o es ep t, SetTx P w h a S o es ep t ∧ es.size ≤ n
section
variable {P : Program} {w : World} {h h' : Heap} {a : Addr} {S : Str → Bool} {n : Nat}
theorem SetTx.at {o : Obj} {es : Array (Int × Value)} {ep : Nat} {t : SetTable} (R : SetTx P w h a S o es ep t) (k : ∀ o, h.get? a = some o → h'.get? a = some o) : SetTx P w h' a S o es ep t := { R with get := k _ R.get }
theorem IsTx.at (R : IsTx P w h a S n) (k : ∀ o, h.get? a = some o → h'.get? a = some o) : IsTx P w h' a S n := let ⟨o, es, ep, t, r, hn⟩ := R; ⟨o, es, ep, t, r.at k, hn⟩
theorem txt_is {e : Int × Value} (g : TxtE P w e) (k : Str) : (PySem.strKind P w).is k e.2 = true ↔ txt e = k := by
  obtain ⟨k0, tk, h1, _⟩ := g
  unfold txt
  rw [h1]
  exact ⟨fun z => ((PySem.strKind P w).inj _ _ _ z (strKind_is P w k0 tk)).symm, fun z => by rw [← z]; exact strKind_is P w k0 tk⟩
theorem txt_elems {l : List (Int × Value)} (g : ∀ e ∈ l, TxtE P w e) : ElemsOf (PySem.strKind P w) l := fun e he => by
  obtain ⟨k, tk, h1, h2⟩ := g e he
  exact ⟨⟨k, by rw [h1]; exact strKind_is P w k tk, h2⟩, by rw [h1] <;> rfl⟩
end
section
variable {P : Program} {w : World} {A : Around} {E : Value → Shared → Prop} {s : Shared} {a : Addr} {S : Str → Bool} {n : Nat}
theorem gave_way (b : Bool) {s₁ : Shared} {Q' : Unit → Shared → Prop} (q : Q' () s₁) : wpAny (model P w) A (match b with | true => rule "set.scan.the-table-gave-way" | false => pure ()) Q' E s₁ := by
  cases b <;> first | exact wpAny_pure q | exact wpAny_rule q
theorem tx_add {k : Str} {tk : Tok} {Q : Bool → Shared → Prop} (R : IsTx P w s.heap a S n) (room : n + 1 < scanBound)
    (hQ : ∀ b h', Heap.SameBut a s.heap h' → IsTx P w h' a (fun j => S j || decide (j = k)) (n + 1) → Q b { s with heap := h' }) :
    wpAny (model P w) A (setAddHashed a (.str k tk) ((PySem.strKind P w).hash k)) Q E s := by
  obtain ⟨o, es, ep, t, R, hn⟩ := R
  have hkey : (PySem.strKind P w).is k (.str k tk) = true := strKind_is P w k tk
  have hsc : (Value.str k tk).scannable = true := rfl
  have hel := txt_elems R.good
  unfold setAddHashed setAddHashedIn
  refine wpAny_holding (wpAny_bind (wpAny_setState_of R.get R.data R.fits ?_))
  dsimp only
  rw [byScan_of hsc R.lt hel]
  simp only [↓reduceIte]
  unfold setAddByScan
  refine wpAny_bind (wpAny_bind (wpAny_rule (wpAny_bind (wpAny_setScan_of hkey R.get R.data R.fits hel ?_))))
  cases hfi : List.findIdx? (fun e => (PySem.strKind P w).is k e.2) es.toList with
  | some j =>
    dsimp only
    obtain ⟨hj, pj, _⟩ := List.findIdx?_eq_some_iff_getElem.mp hfi
    have hm : k ∈ es.toList.map txt := List.mem_map.mpr ⟨_, List.getElem_mem hj, (txt_is (R.good _ (List.getElem_mem hj)) k).mp pj⟩
    refine wpAny_pure (wpAny_pure (hQ _ s.heap (Heap.SameBut.refl a s.heap) ⟨o, es, ep, t, { R with mem := fun i => ?_ }, by omega⟩))
    rw [Bool.or_eq_true, decide_eq_true_eq, ← R.mem i]
    exact ⟨fun z => z.elim id fun e => e ▸ (R.mem k).mpr hm, .inl⟩
  | none =>
    dsimp only
    have hnk : k ∉ es.toList.map txt := fun z => by
      obtain ⟨e, he, q⟩ := List.mem_map.mp z
      have c := List.findIdx?_eq_none_iff.mp hfi e he
      rw [(txt_is (R.good e he) k).mpr q] at c
      cases c
    have pm := layNew_perm t es ((PySem.strKind P w).hash k) (.str k tk)
    have hf1 := layNew_fits t es ((PySem.strKind P w).hash k) (.str k tk)
    have hr1 := layNew_ris t es ((PySem.strKind P w).hash k) (.str k tk) R.ris
    have hl1 := layNew_led t es ((PySem.strKind P w).hash k) (.str k tk)
    generalize layNew t es ((PySem.strKind P w).hash k) (.str k tk) = Z at pm hf1 hr1 hl1 ⊢
    obtain ⟨es1, t1, wasDummy, gave⟩ := Z
    dsimp only at pm hf1 hr1 hl1 ⊢
    rw [Array.toList_push] at pm
    have pc : es1.toList.Perm (((PySem.strKind P w).hash k, Value.str k tk) :: es.toList) := pm.trans (List.perm_append_singleton _ _)
    have pk : (es1.toList.map txt).Perm (k :: es.toList.map txt) := pc.map txt
    have hsz : es1.size = es.size + 1 := by rw [← Array.length_toList, pc.length_eq, List.length_cons, Array.length_toList]
    have g1 : ∀ e ∈ es1.toList, TxtE P w e := fun e he => by
      rcases List.mem_cons.mp (pc.mem_iff.mp he) with z | z
      · rw [z]; exact ⟨k, tk, rfl, rfl⟩
      · exact R.good e z
    -- whatever table is stored, the members are these
    have made : ∀ (h' : Heap) (es' : Array (Int × Value)) (ep' : Nat) (t' : SetTable), es'.toList.Perm es1.toList → h'.get? a = some { o with data := .set es' ep' t' } → t'.fits es'.size = true → Ris t'.place.toList → t'.led = t1.led →
        IsTx P w h' a (fun j => S j || decide (j = k)) (n + 1) := fun h' es' ep' t' p hg hf hr hl => by
      have hs : es'.size = es1.size := by rw [← Array.length_toList, p.length_eq, Array.length_toList]
      have pt : (es'.toList.map txt).Perm (k :: es.toList.map txt) := (p.map txt).trans pk
      refine ⟨_, es', ep', t', ⟨hg, R.ex, rfl, fun e he => g1 e (p.mem_iff.mp he), pt.nodup_iff.mpr (List.nodup_cons.mpr ⟨hnk, R.nd⟩), fun i => ?_, by omega, hf, hr, R.led.imp id fun z => by rw [hl, hl1]; exact z⟩, by omega⟩
      rw [Bool.or_eq_true, decide_eq_true_eq, R.mem i, pt.mem_iff, List.mem_cons]
      exact Or.comm
    have tail : ∀ {g : Bool → Sem Unit} (hg : ∀ (b : Bool) (s₁ : Shared) (Q' : Unit → Shared → Prop), Q' () s₁ → wpAny (model P w) A (g b) Q' E s₁) (t2 : SetTable) (wd : Bool) (T : Option Bool → Shared → Prop), t2.fits es1.size = true → Ris t2.place.toList → t2.led = t1.led →
        (∀ h', Heap.SameBut a s.heap h' → IsTx P w h' a (fun j => S j || decide (j = k)) (n + 1) → T (some true) { s with heap := h' }) →
        wpAny (model P w) A (do
          storeSet a es1 t2
          if (!wd && t2.tooFull) = true then do
              g (relayAll t2 es1 (SetTable.grown es1.size)).2.2
              storeSet a (relayAll t2 es1 (SetTable.grown es1.size)).1 (relayAll t2 es1 (SetTable.grown es1.size)).2.1
              pure (some true)
            else pure (some true)) T E s := fun hg t2 wd T hf2 hr2 hl2 hT => by
      have hb1 : es1.size < scanBound := by omega
      refine wpAny_bind (wpAny_storeSet_of R.get R.data ?_ (fits_of_scanBound hb1))
      have ho1 := store_at (es' := es1) (t' := t2) R.get R.data
      have sb1 := Heap.SameBut.update s.heap a (Obj.putSet es1 t2)
      split
      · have pm2 := relayAll_perm t2 es1 (SetTable.grown es1.size)
        have hf3 := relayAll_fits t2 es1 (SetTable.grown es1.size)
        have hr3 := relayAll_ris t2 es1 (SetTable.grown es1.size)
        have hl3 := relayAll_led t2 es1 (SetTable.grown es1.size)
        generalize relayAll t2 es1 (SetTable.grown es1.size) = Z2 at pm2 hf3 hr3 hl3 ⊢
        obtain ⟨es2, t3, gave2⟩ := Z2
        dsimp only at pm2 hf3 hr3 hl3 ⊢
        have hs2 : es2.size = es1.size := by rw [← Array.length_toList, pm2.length_eq, Array.length_toList]
        refine wpAny_bind (hg _ _ _ (wpAny_bind (wpAny_storeSet_of ho1 rfl ?_ (fits_of_scanBound (by omega)))))
        have ho2 := store_at (es' := es2) (t' := t3) ho1 rfl
        exact wpAny_pure (hT _ (sb1.trans (Heap.SameBut.update _ a _)) (made _ es2 _ t3 pm2 ho2 hf3 hr3 (hl3.trans hl2)))
      · exact wpAny_pure (hT _ sb1 (made _ es1 _ t2 (List.Perm.refl _) ho1 hf2 hr2 hl2))
    refine wpAny_bind (gave_way _ ?_)
    split
    · refine wpAny_bind ?_
      rw [hashByValue_scannable 8 hsc]
      refine wpAny_pure (tail (fun b s₁ Q' q => gave_way b q) _ _ _ ?_ ?_ ?_ ?_)
      · first | (split <;> first | exact hf1 | exact SetTable.fits_plain_off hf1) | exact hf1
      · first | (split <;> exact hr1) | exact hr1
      · first | (split <;> rfl) | rfl
      · intro h' sb r; dsimp only; exact wpAny_pure (hQ _ h' sb r)
    · refine wpAny_bind (wpAny_pure ?_)
      simp only [↓reduceIte]
      refine tail (fun b s₁ Q' q => gave_way b q) t1 wasDummy _ hf1 hr1 rfl ?_
      intro h' sb r; dsimp only; exact wpAny_pure (hQ _ h' sb r)
theorem tx_congr {h : Heap} {S' : Str → Bool} {m : Nat} (R : IsTx P w h a S n) (e : ∀ k, S' k = S k) (hm : n ≤ m) : IsTx P w h a S' m := by
  have q : S' = S := funext e
  obtain ⟨o, es, ep, t, r, hn⟩ := R
  rw [q]
  exact ⟨o, es, ep, t, r, by omega⟩
/-- the loop of set.update over the texts xs -/
theorem tx_update {I : Addr} {fp wr : List Addr} {G : Array GenState → Array GenState → Prop} {Pv : Nat → Value → Prop} {St : Nat → Shared → Prop} {R : Result → Shared → Prop} {d : Addr} {xs : List Str}
    (W : WalksS P w A.in1 I fp wr G xs.length Pv St) (hSf : d ∉ fp) (hb : xs.length + 1 < scanBound) (hval : ∀ i v, Pv i v → ∃ k t, xs[i]? = some k ∧ v = .str k t) :
    ∀ (k i : Nat) (s : Shared), xs.length - i = k → i ≤ xs.length → St i s → IsTx P w s.heap d (fun j => decide (j ∈ xs.take i)) i →
      (∀ s', Moved (d :: wr) G s s' → IsTx P w s'.heap d (fun j => decide (j ∈ xs)) xs.length → R (.ok (.ret .none)) s') →
      codeAny (model P w) A (.builtin "set.update.loop" ⟨[.ref d, .ref I], []⟩) R s := by
  have hSw : d ∉ wr := fun h => hSf (W.sub _ h)
  have wider : ∀ {s s' : Shared}, Moved wr G s s' → Moved (d :: wr) G s s' := fun m => m.mono fun b hb => List.mem_cons_of_mem _ hb
  intro k
  induction k with
  | zero =>
    intro i s hk hi hst hS hR
    have e : xs.take i = xs := List.take_of_length_le (by omega)
    rw [e] at hS
    refine codeAny_builtin PyProof.Rows.F.entry_set_update_loop ?_
    rw [Around.under_plainId PyProof.Rows.F.plain_set_update_loop _]
    refine wpAny_bind (W.done s _ _ (by rw [show xs.length = i by omega]; exact hst) fun s' hm => ?_)
    show wpAny _ A.in1 (ret Value.none) _ _ s'
    exact wpAny_pure (hR s' (wider hm) (tx_congr (hS.at fun o q => hm.heap d o hSw q) (fun _ => rfl) hi))
  | succ k ih =>
    intro i s hk hi hst hS hR
    have hlt : i < xs.length := by omega
    refine codeAny_builtin PyProof.Rows.F.entry_set_update_loop ?_
    rw [Around.under_plainId PyProof.Rows.F.plain_set_update_loop _]
    refine wpAny_bind (W.item i s _ _ hlt hst fun v s' hP hst' hm => ?_)
    obtain ⟨z, t, hz, rfl⟩ := hval i v hP
    show wpAny _ A.in1 (holding [Value.str z t] (setAdd d (.str z t)) >>= _) _ _ s'
    refine wpAny_bind (wpAny_holding ?_)
    unfold setAdd
    refine wpAny_holding (wpAny_bind ((PySem.strKind P w).pyHash (k := z) (strKind_is _ _ _ _) ?_))
    refine tx_add (s := { s' with toks := s'.toks + 1 }) (hS.at fun o q => hm.heap d o hSw q) (by omega) fun b h' sb hS2 => ?_
    have hS3 : IsTx P w h' d (fun j => decide (j ∈ xs.take (i + 1))) (i + 1) := tx_congr hS2 (fun j => by
      rw [List.take_add_one, hz]
      simp [List.mem_append]) (Nat.le_refl _)
    refine wpAny_pure ⟨plainId_quiet PyProof.Rows.F.plain_set_update_loop _, ih (i + 1) _ (by omega) hlt (W.frame _ s' _ _ hst' (Nat.le_succ _) fun b hb o e => ?_) hS3 fun s'' hm'' hS'' => ?_⟩
    · rw [sb.2 b fun h : b = d => hSf (by rw [← h]; exact hb)]; exact e
    · refine hR s'' (Moved.trans W.gtrans ((wider hm).then_heap (Nat.le_succ _) fun b o hb e => ?_) hm'') hS''
      rw [sb.2 b fun h : b = d => hb (by rw [h]; exact List.mem_cons_self)]; exact e
def newSet (w : World) : Obj := { cls := .type "set", dict := none, data := .set #[] 0 (.fresh 0 0 (!w.params.followText "set-order")) }
theorem tx_new {h : Heap} {xs : List Str} (ho : h.get? a = some (newSet w)) : IsTx P w h a (fun j => decide (j ∈ xs.take 0)) 0 :=
  ⟨_, #[], 0, _, ⟨ho, ⟨rfl, rfl, rfl⟩, rfl, fun e he => by simp at he, by simp, fun k => by simp, by decide, by rfl, List.Pairwise.nil, by
    show _ ∨ (!w.params.followText "set-order") = true
    cases w.params.followText "set-order"
    · exact .inr rfl
    · exact .inl rfl⟩, Nat.le_refl _⟩
set_option maxHeartbeats 6400000 in
/-- set(t), t a tuple of texts -/
theorem call_set_tx {l : Addr} {items : Array Value} {xs : List Str} {Q : Value → Shared → Prop} (hh : A.handled = none) (hl : s.heap.IsTuple l items) (hit : StrsAre items.toList xs) (hb : xs.length + 1 < scanBound)
    (h : ∀ (h' : Heap) (tk : Nat), IsTx P w h' s.heap.objs.size (fun j => decide (j ∈ xs)) xs.length → (∀ b o, s.heap.get? b = some o → h'.get? b = some o) → Q (.ref s.heap.objs.size) { s with heap := h', toks := tk }) :
    wpAny (model P w) A (call (.type "set") [.ref l]) Q E s := by
  have hisz : items.size = xs.length := by rw [← Array.length_toList, StrsAre.len_eq hit]
  obtain ⟨c, tl, hmro⟩ := PySem.F.called_set.mro
  have hmade := PySem.F.called_set.made
  have hsub := PySem.F.called_set.sub
  refine wpAny_call (codeAny_of_tree ?_)
  show wpAny _ _ (callAny (.type "set") _) _ _ _
  refine wpAny_pure ⟨Code.quiet_builtin _ (by decide +kernel), codeAny_builtin PySem.F.entry_type_call ?_⟩
  rw [Around.under_plain (weight_type_call_type "set" [.ref l] []) rfl]
  have h1 := PySem.F.called_set.notType
  have h2 := PySem.F.called_set.canCreate
  have hct := PySem.F.typeCall_set_1 (.ref l)
  repeat (any_goals (first | assumption | wp_step))
  refine codeAny_mono (code_set_led1 (.ref l) (E := E) (Q₁ := fun obj s₁ => obj = .ref s.heap.objs.size ∧ s₁ = { s with heap := s.heap.push (newSet w) }) ⟨rfl, rfl⟩) fun r s₁ hr => ?_
  cases r with
  | error e => exact hr
  | ok fl =>
    cases fl with
    | ret obj =>
      obtain ⟨rfl, rfl⟩ := hr
      have hS : (s.heap.push (newSet w)).get? s.heap.objs.size = some (newSet w) := Heap.get?_push_size _ rfl
      have hT : Shared.TypeIs { s with heap := s.heap.push (newSet w) } (.ref s.heap.objs.size) "set" := ⟨_, hS, rfl⟩
      have hli := PySem.F.called_set.init.lookup
      have hbi := PySem.F.called_set.init.bind (.ref s.heap.objs.size)
      repeat (any_goals (first | assumption | wp_step))
      refine codeAny_mono (codeAny_call_builtin (R := wants (fun r s₂ => r = .none ∧ ∃ h' tk, s₂ = { s with heap := h', toks := tk } ∧ IsTx P w h' s.heap.objs.size (fun j => decide (j ∈ xs)) xs.length ∧ (∀ b o, s.heap.get? b = some o → h'.get? b = some o)) E) PySem.F.called_set.init.plain PySem.F.entry_set_init (check_set_init_1 hT ?_)) fun r₂ s₂ hr₂ => ?_
      · obtain ⟨⟨ocls, odict, odata, oslots⟩, hol, hcl, nl, hdl⟩ := hl
        simp only at hcl hdl
        subst hcl; subst hdl
        have hol' : (s.heap.push (newSet w)).get? l = some { cls := .type "tuple", dict := odict, data := .seq items nl, slots := oslots } := Heap.get?_push_of_some _ hol
        have hsls := PySem.F.sub_tuple_set
        have hslf := PySem.F.sub_tuple_frozenset
        have hne : (Value.type "tuple" == Value.type "dict") = false := by decide
        have hl1 : (s.heap.push (newSet w)).IsTuple l items := ⟨_, hol', rfl, nl, rfl⟩
        unfold Builtin.«set.__init__» noKeywords Builtin.Frozenset.updateFrom
        generalize hPI : pyIter = PI
        wp_walk
        subst hPI
        refine wpAny_pyIter_tuple hl1 (wpAny_bind (wpAny_runValue ?_))
        have hlS : l < s.heap.objs.size := Heap.lt_size hol
        have hz1 : (s.heap.push (newSet w)).objs.size = s.heap.objs.size + 1 := Heap.size_push ..
        have hneI : l ≠ (s.heap.push (newSet w)).objs.size := by rw [hz1]; exact Nat.ne_of_lt (Nat.lt_succ_of_lt hlS)
        have hSf : s.heap.objs.size ∉ [(s.heap.push (newSet w)).objs.size, l] := by
          rw [hz1]; simp only [List.mem_cons, List.mem_singleton, List.not_mem_nil, or_false, not_or]
          exact ⟨Nat.ne_of_lt (Nat.lt_succ_self _), Nat.ne_of_gt hlS⟩
        have hval : ∀ (i : Nat) (v : Value), items[i]? = some v → ∃ k t, xs[i]? = some k ∧ v = .str k t := fun i v hv => by
          have hi : i < xs.length := by rw [← hisz]; exact (Array.getElem?_eq_some_iff.mp hv).1
          obtain ⟨t, e⟩ := SS.strs_at hit i v (by rw [Array.getElem?_toList]; exact hv)
          refine ⟨xs[i], t, List.getElem?_eq_getElem hi, ?_⟩
          rw [e, List.getD_eq_getElem?_getD, List.getElem?_eq_getElem hi] <;> rfl
        have WW := (Walks.tuple (prog := P) (w := w) (A := A.in1.in1.in1) (by simp [hh]) _ l hneI items).toS
        rw [hisz] at WW
        refine tx_update WW hSf hb hval (xs.length - 0) 0 _ (by omega) (Nat.zero_le _)
          ⟨⟨_, Heap.get?_push_size _ rfl, rfl, rfl⟩, (hl1.push _)⟩ (tx_new (Heap.get?_push_of_some _ hS)) fun s' hm hS' => ?_
        obtain ⟨h', g2, d', tk', os'⟩ := s'
        have eg : g2 = s.gens := hm.gens
        have ed : d' = s.drawn := hm.drawn
        have eo : os' = s.os := hm.os
        subst eg; subst ed; subst eo
        refine wpAny_pure ?_
        show wpAny _ _ (ret Value.none) _ _ _
        refine wpAny_pure ⟨rfl, h', tk', rfl, hS', fun b o e => ?_⟩
        have hb0 : b < s.heap.objs.size := Heap.lt_size e
        refine hm.heap b o ?_ (Heap.get?_push_of_some _ (Heap.get?_push_of_some _ e))
        rw [hz1]
        simp only [List.mem_cons, List.mem_singleton, List.not_mem_nil, or_false, not_or]
        exact ⟨Nat.ne_of_lt hb0, Nat.ne_of_lt (Nat.lt_succ_of_lt hb0)⟩
      · cases r₂ with
        | error e => exact hr₂
        | ok fl₂ =>
          cases fl₂ with
          | ret r =>
            obtain ⟨rfl, h', tk, rfl, hS', hk'⟩ := hr₂
            repeat (any_goals (first | assumption | wp_step))
            exact h _ _ hS' hk'
          | _ => exact hr₂.elim
    | _ => exact hr.elim
end
/-! sorted -/
theorem dedS_mem {l : List Str} {k : Str} : k ∈ dedS l ↔ k ∈ l := by
  induction l with
  | nil => exact Iff.rfl
  | cons x l ih =>
    unfold dedS
    split
    · rename_i h
      rw [ih, List.mem_cons]
      exact ⟨.inr, fun z => z.elim (fun e => e ▸ h) id⟩
    · rw [List.mem_cons, List.mem_cons, ih]
theorem dedS_nodup : ∀ l : List Str, (dedS l).Nodup
  | [] => List.nodup_nil
  | x :: l => by
    unfold dedS
    split
    · exact dedS_nodup l
    · rename_i h
      exact List.nodup_cons.mpr ⟨fun z => h (dedS_mem.mp z), dedS_nodup l⟩
/-- texts in order are one arrangement -/
theorem strs_perm {ks js : List Str} (p : ks.Perm js) : (ks.map D.str).mergeSort leD = (js.map D.str).mergeSort leD := by
  have e : ∀ l : List Str, (l.map D.str).mergeSort leD = (l.mergeSort fun a b => !strLt b a).map D.str := fun l => by
    rw [← PySem.W.sort_maps]
    intro a _ b _
    exact (leD_str a b).symm
  have t : ∀ l : List Str, (l.mergeSort fun a b => !strLt b a).Pairwise (fun a b => (!strLt b a) = true) := fun l => by
    refine List.pairwise_mergeSort (le := fun a b => !strLt b a) (fun a b c h1 h2 => ?_) (fun a b => ?_) l
    · rw [← leD_str] at h1 h2 ⊢; exact leD_total.trans _ _ _ h1 h2
    · rw [← leD_str, ← leD_str, Bool.or_eq_true]; exact leD_total.total _ _
  rw [e, e]
  congr 1
  refine List.Perm.eq_of_pairwise (le := fun a b => (!strLt b a) = true) ?_ (t ks) (t js) ((List.mergeSort_perm _ _).trans (p.trans (List.mergeSort_perm _ _).symm))
  intro a b _ _ h1 h2
  simp only [Bool.not_eq_true'] at h1 h2
  exact strLt_antisymm h2 h1
theorem each_txt {K : PySem.W.Frag} {F : Hp} : ∀ {vs : List Value}, (∀ v ∈ vs, ∃ k t, v = Value.str k t) → PySem.W.EachIs (fun u d => ∃ v, RelV v u ∧ Rp K F v d) vs (vs.map fun v => D.str (txt (0, v)))
  | [], _ => .nil
  | v :: vs, h => by
    obtain ⟨k, t, rfl⟩ := h v (List.mem_cons_self ..)
    exact .cons ⟨V.str k, ⟨t, rfl⟩, .str k⟩ (each_txt fun u hu => h u (List.mem_cons_of_mem _ hu))
theorem each_txtR {h : Heap} {a : Addr} : ∀ {vs : List Value}, (∀ v ∈ vs, ∃ k t, v = Value.str k t) → PySem.W.EachIs (fun v b => ∃ as, Reads h v (D.pd b) as ∧ a ∉ as) vs (vs.map fun v => D.str (txt (0, v)))
  | [], _ => .nil
  | v :: vs, g => by
    obtain ⟨k, t, rfl⟩ := g v (List.mem_cons_self ..)
    exact .cons ⟨[], Reads.str k t, by simp⟩ (each_txtR fun u hu => g u (List.mem_cons_of_mem _ hu))
section
variable {P : Program} {w : World} {A : Around} {E : Value → Shared → Prop} {s : Shared} {a : Addr} {S : Str → Bool} {n : Nat}
theorem sorted_tx {K : PySem.W.Frag} {F : Hp} {Q : Value → Shared → Prop} (R : IsTx P w s.heap a S n) (hh : A.handled = none) (hu : A.units + 64 < cLine) {ks : List Str} (hk : ks.Nodup) (hm : ∀ k, S k = true ↔ k ∈ ks)
    (hQ : ∀ s' p (out : List Value) (c : Nat), (∀ b o, s.heap.get? b = some o → s'.heap.get? b = some o) → s'.gens = s.gens → s'.os = s.os → s.heap.objs.size ≤ p →
      s'.heap.get? p = some (seqObj "list" out.toArray c) → PySem.W.EachIs (fun u d => ∃ v, RelV v u ∧ Rp K F v d) out ((ks.map D.str).mergeSort leD) → Q (.ref p) s') :
    wpAny (model P w) A (call (.builtin "sorted") [.ref a]) Q E s := by
  obtain ⟨o, es, ep, t, R, hn⟩ := R
  refine Calls.call_function_entry kind_sorted plain_sorted entry_sorted (args_sorted1 _) ?_
  unfold Builtin.«sorted»
  refine wpAny_bind (m := checkCount "sorted" 1 1 _) (wpAny_pure ?_)
  refine wpAny_bind (collect_set (A := A.in1) hh ⟨o, R.get, R.ex.1, R.data⟩ R.fits R.lt R.ris R.led fun s1 vs k1 hz g1 o1 pm => ?_)
  have hvl : vs.length = es.size := by rw [pm.length_eq, List.length_map, Array.length_toList]
  have hvs : ∀ v ∈ vs, ∃ k t, v = Value.str k t := fun v hv => by
    obtain ⟨e, he, q⟩ := List.mem_map.mp (pm.mem_iff.mp hv)
    obtain ⟨k, tk, h1, _⟩ := R.good e he
    exact ⟨k, tk, by rw [← q]; exact h1⟩
  have hlt := R.lt
  have hlt2 : es.size ≤ sizeLine := by unfold scanBound at hlt; rw [sizeLine_eq]; omega
  have pk : (vs.map fun v => txt (0, v)).Perm ks := by
    have q := pm.map fun v => txt (0, v)
    rw [List.map_map] at q
    refine q.trans ((List.perm_ext_iff_of_nodup R.nd hk).mpr fun k => ?_)
    rw [← hm k, R.mem k]
  have pe : ((vs.map fun v => D.str (txt (0, v))).mergeSort leD) = (ks.map D.str).mergeSort leD := by
    rw [← strs_perm pk, List.map_map]
    try rfl
  refine wpAny_bind (wpAny_newList ?_ (by rw [hvl]; exact hlt2))
  have hoL : (s1.heap.push (seqObj "list" vs.toArray 0)).get? s1.heap.objs.size = some (seqObj "list" vs.toArray 0) := Heap.get?_push_size _ rfl
  refine wpAny_bind (wpAny_holding (PySem.W.list_sort_data (bs := vs.map fun v => D.str (txt (0, v))) (enc := D.pd) (R := fun u d => ∃ v, RelV v u ∧ Rp K F v d) hoL (each_txt hvs) (each_txtR hvs) ?_ ?_ (by rw [List.length_map, hvl]; exact hlt2) ?_ fun out hol eo => ?_))
  · intro d hd d' hd'
    simp only [List.map_map, List.mem_map] at hd hd'
    obtain ⟨v, _, rfl⟩ := hd
    obtain ⟨v', _, rfl⟩ := hd'
    rfl
  · refine .inr fun d hd => ?_
    simp only [List.map_map, List.mem_map] at hd
    obtain ⟨v, _, rfl⟩ := hd
    exact ⟨fun z => (by cases z), fun xs z => (by cases z)⟩
  · intro d hd
    obtain ⟨v, _, rfl⟩ := List.mem_map.mp hd
    have : (D.str (txt (0, v))).pd.depth = 0 := by simp [D.pd, PyData.depth]
    rw [this]
    have hu1 : A.in1.units ≤ A.units + 1 := by first | exact Nat.le_refl _ | simp [Around.in1]
    omega
  · obtain ⟨c, hc⟩ := sortedHeap_at (vs := vs) (out := out.toArray) hoL
    refine wpAny_pure ⟨_, rfl, hQ _ s1.heap.objs.size out c (fun b u e => ?_) g1 o1 hz hc (by rw [← pe]; exact eo)⟩
    have q := k1 b u e
    have hb := Heap.lt_size q
    show (sortedHeap (s1.heap.push (seqObj "list" vs.toArray 0)) s1.heap.objs.size vs out.toArray).get? b = some u
    rw [sortedHeap_old (Nat.ne_of_lt hb) (by rw [size_push']; exact Nat.lt_succ_of_lt hb)]
    exact Heap.get?_push_of_some _ q
end
def tSSet (K : PySem.W.Frag) (ta : TE) : TE := fun σ H Q => ta σ H fun x H1 => ∃ (F : Hp) (l : Addr) (ks : List Str), x = V.ref l ∧ H1 l = some (.tup (ks.map V.str)) ∧ ks.length < 1000 ∧ ∀ v H', Res K F H1 (.ow (.lst (((dedS ks).map D.str).mergeSort leD))) v H' → Q v H'
theorem tx_end {X : Cx} {pins : List (Addr × Obj)} {σ : L2.St} {H1 F : Hp} {s : Shared} {a : Addr} {ks : List Str} {n : Nat} {Q : VK} (I : Inv X pins σ H1 s) (hS : IsTx X.prog X.w s.heap a (fun j => decide (j ∈ ks)) n) (hc : X.calm = true) (hu : X.A.units + 64 < cLine) (h1 : ks.length < 1000)
    (q1 : ∀ v H', Res X.K F H1 (.ow (.lst (((dedS ks).map D.str).mergeSort leD))) v H' → Q v H') : wpAny (model X.prog X.w) X.A (call (.builtin "sorted") [.ref a]) (EP X pins σ Q) X.xe s := by
  refine sorted_tx (K := X.K) (F := F) hS (I.ok.hd hc) hu (dedS_nodup ks) (fun k => by rw [decide_eq_true_eq, dedS_mem]) fun s' p' out c kp g o hp hget eo => ?_
  obtain ⟨ys, ev, er⟩ := rp_each eo
  have hlen : ys.length ≤ sizeLine := by
    have h2 := er.length
    rw [List.length_mergeSort, List.length_map] at h2
    have h3 : ∀ l : List Str, (dedS l).length ≤ l.length := by
      intro l
      induction l with
      | nil => exact Nat.le_refl _
      | cons x l ih => unfold dedS; split <;> simp <;> omega
    have := h3 ks
    rw [sizeLine_eq]; omega
  have hn : H1 p' = none := I.hok.fresh hp
  have J : Inv X pins σ (upd H1 p' (.lst ys)) { s with heap := s'.heap, gens := s'.gens, drawn := s'.drawn, toks := s'.toks } :=
    I.call (ch := []) (Un.laid kp hp hn) (I.hok.laid kp hp ⟨hlen, out, c, ev, hget⟩) (by rw [g]; exact I.bare) (fun _ z => nomatch z)
  have e : s' = { s with heap := s'.heap, gens := s'.gens, drawn := s'.drawn, toks := s'.toks } := by
    cases s'
    cases s
    cases o
    rfl
  rw [e]
  exact ⟨.ref p', _, J, rfl, q1 _ _ ⟨p', _, rfl, hn, rfl, _, upd_same, er⟩⟩
theorem pe_sset {X : Cx} {a : Expr} {ta : TE} {p p2 q pos : Pos} (hc : X.calm = true) (hu : X.A.units + 64 < cLine) (hg : Gl X "sorted") (hm : X.mg "sorted" = none) (hg2 : Gl X "set") (hm2 : X.mg "set" = none) (ha : PE X a ta)
    (na : starEach [a] X.env = (false, eval a X.env) :: starEach [] X.env) : PE X (.Call (.Name "sorted" p) [.Call (.Name "set" p2) [a] [] q] [] pos) (tSSet X.K ta) := by
  refine ⟨fun pins s σ H Q I h => ?_⟩
  refine Call_ (ld_blt I hg hm PyProof.Rows.boot_sorted ?_)
  refine PyProof.Rows.callWith_builtin1 (PyProof.Rows.args_cons ?_ rfl) rfl rfl
  refine Call_ (ld_blt I hg2 hm2 PyProof.Rows.boot_set ?_)
  refine PyProof.Rows.callWith_type1 (PyProof.Rows.args_cons (thn (ha.run pins s σ H _ I h) fun v s1 ⟨x, H1, I1, r1, q1⟩ => PyProof.Rows.args_nil ?_) na) na rfl
  obtain ⟨F, l, ks, rfl, hq, h1, q1⟩ := q1
  cases r1
  obtain ⟨its, r, pl, hz⟩ := I1.tuple (.inl (.inl hq))
  refine call_set_tx (xs := ks) (I1.ok.hd hc) pl (by simpa using strsAre_of r) (by unfold scanBound; omega) fun h' tk hS hk => ?_
  have I2 : Inv X pins σ H1 { s1 with heap := h', toks := tk } := I1.kept hk
  refine PyProof.Rows.args_nil ?_
  exact tx_end (s := { s1 with heap := h', toks := tk }) (F := F) I2 hS hc hu h1 q1
section
variable {T : Tb} {N : List Str} {R : Run} {X : Cx} {sc : Scope} {fb : Str → Bool} {Cg : Cfg} {B : Bs Cg}
theorem pe_sset' (g : Gd T N R X sc fb Cg) {a : Ex} {ea : Expr} {p p2 q pos : Pos} (ha : ∀ B : Bs Cg, PE X ea (tE X.K B (evE R a))) (h1 : glB sc "sorted" = true) (h2 : glB sc "set" = true) (hs : noStar ea = true) :
    PE X (.Call (.Name "sorted" p) [.Call (.Name "set" p2) [ea] [] q] [] pos) (tE X.K B (evE R (.sset a))) :=
  (pe_sset g.calm (by have := g.un; omega) (gl_of g h1) (g.blt .sorted) (gl_of g h2) (g.ot _ (by decide)) (ha B) (star_of hs _)).imp fun σ H Q ⟨F, env, r, env', s, e, q⟩ => by
    simp only [evE, Option.bind_eq_some_iff, Option.some.injEq, Prod.mk.injEq] at e
    obtain ⟨q1, e1, x, gx, d, eb, rfl, rfl⟩ := e
    refine ⟨F, env, _, _, s, e1, fun v F1 H1 s1 x1 o1 => ?_⟩
    obtain ⟨F1', s1', y1, st1⟩ := o1.settled s1
    cases x <;> simp only [ssetV, reduceCtorEq] at eb
    rename_i l
    simp only [Option.bind_eq_some_iff] at eb
    obtain ⟨ks, en, eb⟩ := eb
    split at eb
    · rename_i hl
      cases eb
      obtain ⟨b, xs, rfl, h1, r1⟩ := (st1.cr s1' gx).tup s1'.frz
      have := r1.strs en
      subst this
      refine ⟨F1', b, ks, rfl, h1, hl, fun v H' res => ?_⟩
      obtain ⟨F3, s3, x3, o3⟩ := res.ok s1'
      exact q v F3 H' s3 ((x1.trans y1).trans x3) o3
    · cases eb
end
end Ts

set_option Elab.async false
set_option linter.all false
set_option autoImplicit false
set_option maxRecDepth 100000
set_option maxHeartbeats 4000000
/-! sorted({k[0] for k in a dict of tuple keys}): a set comprehension of texts. -/
namespace Ts
open PySem PySem.Spec PyProof.Rows L2 PpSet

/-- the set of texts at a, as a thing that is watched -/
def SetTO (P : Program) (w : World) (a : Addr) (S : Str → Bool) (n : Nat) : HO := .ext fun h => IsTx P w h a S n
theorem setTO_ok {P : Program} {w : World} {H : Hp} {h : Heap} {a : Addr} {S : Str → Bool} {n : Nat} (R : IsTx P w h a S n) : ObjOk P w H h a (SetTO P w a S n) :=
  let ⟨o, _, _, _, r, _⟩ := id R
  ⟨R, ⟨o, r.get⟩, fun _ _ p k => IsTx.at p k⟩
section
variable {X : Cx}
theorem setTO_is {pins : List (Addr × Obj)} {σ : L2.St} {H : Hp} {s : Shared} {a : Addr} {S : Str → Bool} {n : Nat} (I : Inv X pins σ H s) (ha : H a = some (SetTO X.prog X.w a S n)) : IsTx X.prog X.w s.heap a S n := (I.hok a _ ha).1
/-- one text more -/
theorem addT_ok {pins : List (Addr × Obj)} {σ : L2.St} {H : Hp} {s : Shared} {E : Value → Shared → Prop} {D : Addr} {S : Str → Bool} {n : Nat} {y : Str} {ty : Tok} {Q : Value → Shared → Prop} (I : Inv X pins σ H s) (hD : H D = some (SetTO X.prog X.w D S n)) (room : n + 1 < scanBound)
    (h : ∀ s', Inv X pins σ (upd H D (SetTO X.prog X.w D (fun j => S j || decide (j = y)) (n + 1))) s' → Q .none s') : wpAny (model X.prog X.w) X.A (call (.builtin "set.add") [.ref D, .str y ty]) Q E s := by
  have R := setTO_is I hD
  have hT : Shared.TypeIs s (.ref D) "set" := by
    obtain ⟨o, _, _, _, r, _⟩ := R
    exact ⟨o, r.get, r.ex.1⟩
  refine wpAny_call_entry F.slot_set_add hT F.entry_set_add ?_ (F.args_set_add_2 _ _)
  unfold Builtin.«set.add» Builtin.Frozenset.oneOther
  simp only [List.isEmpty_nil, bind_assoc]
  unfold Builtin.Frozenset.addrOf setAdd
  refine wpAny_bind (wpAny_pure ?_)
  try dsimp only
  refine wpAny_bind (wpAny_pure ?_)
  try dsimp only
  refine wpAny_bind ?_
  refine wpAny_holding ?_
  refine wpAny_bind ((PySem.strKind X.prog X.w).pyHash (k := y) (strKind_is _ _ _ _) ?_)
  refine tx_add (s := { s with toks := s.toks + 1 }) R room fun b h' sb r => ?_
  show wpAny _ _ (ret Value.none) _ _ _
  have he : ∃ u, h'.get? D = some u := by
    obtain ⟨o, _, _, _, r, _⟩ := r
    exact ⟨o, r.get⟩
  exact wpAny_pure ⟨_, rfl, h _ (I.write (e := D) (t' := s.toks + 1) (by rw [hD]; trivial) (.inl rfl) (fun b u hb hu => (sb.2 b hb).trans hu) he (setTO_ok r))⟩
end
section
variable {X : Cx}
/-- one for, no test: what each turn owes. D: the new set -/
def tScT (P : Program) (w : World) (wi : TI) (g : TG) (te : TE) (vs : List Nat) : TE := fun σ H Q => wi σ H fun J H1 => ∀ D, H1 D = none → ∃ W : Nat → Nat → Hp → Prop, (∃ m, W 0 m (upd H1 D (SetTO P w D (fun _ => false) 0))) ∧ ∀ i m H, W i m H →
  (J.stop i H ∧ Q (.ref D) H) ∨ (J.go i H ∧ ∃ Nx : Hp → Prop, (∀ H', Nx H' → ∃ m', m' < m ∧ W (i + 1) m' H') ∧ ∀ x H', J.yld i H x H' → g x (L2.wipe σ vs) H' fun σ2 H2 => L2.wipe σ2 vs = L2.wipe σ vs ∧
    te σ2 H2 fun y H4 => ∃ (c : Str) (S : Str → Bool) (n : Nat), y = .str c ∧ H4 D = some (SetTO P w D S n) ∧ n + 1 < scanBound ∧ Nx (upd H4 D (SetTO P w D (fun j => S j || decide (j = c)) (n + 1))))
theorem pe_scT {elt tg iter : Expr} {scope : Scope} {own : List (PySem.Str × Nat)} {pos : Pos} {wi : TI} {g : TG} {te : TE} (hc : X.calm = true) (hN : X.N.Nodup) (hi : PI X tg iter wi) (ok : BlkOk X.N X.env.scope scope own)
    (hg : ∀ (s : Shared) (H : Hp) (C : Addr) (cl : List (PySem.Str × Addr)) (fp : List Addr), PG (X.blk s H scope (compEnvC scope cl C X.env) fp) tg g)
    (he : ∀ (s : Shared) (H : Hp) (C : Addr) (cl : List (PySem.Str × Addr)) (fp : List Addr), PE (X.blk s H scope (compEnvC scope cl C X.env) fp) elt te) (hs : ∀ x, foldedSetIterable iter X.env x = pure x) :
    PE X (.SetComp elt [⟨tg, iter, [], 0⟩] scope pos) (tScT X.prog X.w wi g te (own.map (·.2))) := by
  refine ⟨fun pins s σ H Q I h => ?_⟩
  rw [eval_SetComp]
  have hfree : ∀ y ∈ scope.names, y.2 = .free → ∃ c, X.env.cells.lookup y.1 = some c := fun y hy e => I.ok.has _ (ok.free y hy e)
  refine wpAny_comprehension_free (use := none) rfl hs (closure_ok hfree) ok.kind (fun y hy e => by rw [ok.uniq y hy, e]) (thn (hi.run pins s σ H _ I h) fun xv s1 hx => thn hx fun itv s2 h2 => ?_)
  obtain ⟨it, fp, tn, J, H2, rfl, I2, T, st2, f2, q⟩ := h2
  refine newSet_ok (newEnv_comp ?_)
  obtain ⟨D, hD⟩ : ∃ D, D = s2.heap.objs.size := ⟨_, rfl⟩
  rw [← hD]
  have hDn : H2 D = none := I2.hok.fresh (Nat.le_of_eq hD.symm)
  obtain ⟨W, ⟨m0, w0⟩, turn⟩ := q D hDn
  obtain ⟨s3, hs3⟩ : ∃ s3 : Shared, s3 = { s2 with heap := s2.heap.push (newSet X.w) } := ⟨_, rfl⟩
  have h3 : s3.heap = s2.heap.push (newSet X.w) := by rw [hs3]
  obtain ⟨H3, hH3⟩ : ∃ H3, H3 = upd H2 D (SetTO X.prog X.w D (fun _ => false) 0) := ⟨_, rfl⟩
  rw [← hH3] at w0
  have hset : IsTx X.prog X.w s3.heap D (fun _ => false) 0 := by
    have := tx_new (P := X.prog) (w := X.w) (h := s3.heap) (a := D) (xs := []) (by rw [h3, hD]; exact Heap.get?_push_size _ rfl)
    exact tx_congr this (fun k => by simp) (Nat.le_refl _)
  have I3 : Inv X pins σ H3 s3 := by
    rw [hH3]
    have e3 : s3 = { s2 with heap := s3.heap, toks := s2.toks } := by rw [hs3]
    rw [e3]
    exact I2.laid (t' := s2.toks) (fun b o e => by rw [h3]; exact Heap.get?_push_of_some _ e) (Nat.le_of_eq hD.symm) (setTO_ok hset)
  have sz : ∀ b ∈ fp, b < s2.heap.objs.size := fun b hb => by
    obtain ⟨o, e, _⟩ := T.obj _ _ st2 b hb
    exact Heap.lt_size e
  have f3 : ∀ b ∈ fp, FpOk X pins H3 b ∧ b < s3.heap.objs.size := fun b hb => by
    have hlt := sz b hb
    refine ⟨⟨?_, (f2 b hb).2⟩, by rw [h3, Heap.size_push]; exact Nat.lt_succ_of_lt hlt⟩
    rw [hH3, upd_ne (by rw [hD]; exact Nat.ne_of_lt hlt)]
    exact (f2 b hb).1
  have st3 : tn 0 s3.heap := T.keep _ _ _ st2 fun b _ o e => by rw [h3]; exact Heap.get?_push_of_some _ e
  have I4 := block_start I3 ok hN f3
  obtain ⟨C, hC⟩ : ∃ C, C = s3.heap.objs.size := ⟨_, rfl⟩
  have goal : ∀ s4 : Shared, ∀ ce, ce.locals = C → Inv (X.blk s3 H3 scope ce fp) [] (L2.wipe σ (own.map (·.2))) H3 s4 → tn 0 s4.heap → PG (X.blk s3 H3 scope ce fp) tg g → PE (X.blk s3 H3 scope ce fp) elt te →
      codeAny (model X.prog X.w) X.A (.compLoop (.SetComp elt [⟨tg, iter, [], 0⟩] scope pos) 0 (.ref it) (.ref D) ce) (compPost (model X.prog X.w) X.A X.xe none (EP X pins σ Q) (.ref D) C) s4 := by
    intro s4 ce cL I4 st4 pg pe
    have stat : ∀ {σ' : L2.St} {H' : Hp} {s' : Shared}, Inv (X.blk s3 H3 scope ce fp) [] σ' H' s' → (∀ b ∈ fp, H' b = none) → ∀ b ∈ fp, FpOk (X.blk s3 H3 scope ce fp) [] H' b := fun {σ' H' s'} I' hn b hb =>
      ⟨hn b hb, (I'.ok.exf b hb).1, I'.ok.exfs b hb, .inl hb, fun x c e => (I'.ok.exf b hb).2 x c e, fun p hp => absurd (show p ∈ ([] : List (Addr × Obj)) ++ [] from hp) (by simp)⟩
    refine compLoopS_any (fun n s' => ∃ i H', Inv (X.blk s3 H3 scope ce fp) [] (L2.wipe σ (own.map (·.2))) H' s' ∧ tn i s'.heap ∧ (∀ b ∈ fp, H' b = none) ∧ W i n H') ?_ m0 ⟨0, H3, I4, st4, fun b hb => (f3 b hb).1.1, w0⟩
    rintro n s5 ⟨i, H5, I5, st5, n5, w5⟩
    rcases turn i n H5 w5 with ⟨stop, qq⟩ | ⟨go, Nx, hNx, step⟩
    · refine thnF (T.done (X.blk s3 H3 scope ce fp) rfl rfl rfl hc i [] s5 _ H5 (fun _ _ => False) I5 (stat I5 n5) st5 stop) fun r s6 ⟨hr, I6⟩ => ?_
      subst hr
      have I7 : Inv X pins σ H5 s6 := I3.call' (ch := fp) I6.os I6.base I6.hok I6.bare fun b hb => ⟨(f3 b hb).1.2.2.2.1, (f3 b hb).1.2.1, (f3 b hb).1.2.2.2.2.1, (f3 b hb).1.2.2.2.2.2⟩
      have nC : H5 C = none := by
        have z : H5 ce.locals = none := I6.free
        rw [cL] at z
        exact z
      obtain ⟨m, hn, _⟩ := I6.loc
      have hn : s6.heap.Ns ce.locals m := hn
      rw [cL] at hn
      refine ⟨m, hn, fun h'' sb => ?_⟩
      obtain ⟨g0, g1, g2, g3, g4, g5⟩ := I3.fpOk (Nat.le_of_eq hC.symm) nC
      exact ⟨.ref D, H5, I7.turned (t' := s6.toks) (fun b o hb e => (sb.2 b hb).trans e) g0 g1 g3 g4 g5, rfl, qq⟩
    · refine thnF (T.item (X.blk s3 H3 scope ce fp) rfl rfl rfl hc i [] s5 _ H5 (fun _ _ => False) I5 (stat I5 n5) st5 go) fun r s6 ⟨u, hr, h6⟩ => ?_
      subst hr
      refine thnF h6 fun _ s7 ⟨x, H7, I7, r7, y7, st7, n7⟩ => ?_
      have I7' := I7.pinned (stat I7 n7) (T.obj _ _ st7)
      refine thnF (pg.run _ s7 _ H7 x u _ I7' r7 (step x H7 y7)) fun _ s8 ⟨σ8, H8, I8, hw8, q8⟩ => ?_
      refine thnF ((pts_nil (X := X.blk s3 H3 scope ce fp)).run _ s8 σ8 H8 (fun b H => b = true ∧ H = H8) I8 ⟨rfl, rfl⟩) fun b s9 ⟨H9, I9, hb, hh⟩ => ?_
      subst hb hh
      simp only [if_true]
      refine thnF (pe.run _ s9 σ8 H9 _ I9 q8) fun z s10 ⟨yv, H10, I10, r10, cb, S0, n0, ey, hD10, hz10, nx⟩ => ?_
      subst ey
      obtain ⟨tz, rfl⟩ := r10
      refine addT_ok (X := X.blk s3 H3 scope ce fp) I10 hD10 hz10 fun s11 I11 => ?_
      obtain ⟨m', hm, w'⟩ := hNx _ nx
      have pin' : ∀ b ∈ fp, ∀ o, s7.heap.get? b = some o → s11.heap.get? b = some o ∧ _ = none := fun b hb o e =>
        let z := I11.pin (b, o) (List.mem_append_right _ (List.mem_append_right _ (mem_pinsAt hb e)))
        ⟨z.1, z.2.1⟩
      have hl : (L2.wipe σ (own.map (·.2))).length = σ8.length := by rw [← hw8, wipe_length]
      refine ⟨m', hm, i + 1, _, (I11.unpinned (pins := [])).weak hl (fun j v e => ?_), T.keep _ _ _ st7 fun b hb o e => (pin' b hb o e).1, fun b hb => ?_, w'⟩
      · rw [← hw8] at e
        exact (wipe_some e).1
      · obtain ⟨o, e, _⟩ := T.obj _ _ st7 b hb
        exact (pin' b hb o e).2
  generalize hce : compEnvC scope (cellsFrom (s3.heap.objs.size + 1) scope.names (cloFrom X.env.cells scope.names [])) s3.heap.objs.size X.env = ce at I4
  generalize hs4 : ({ s3 with heap := pushCells (s3.heap.push { cls := .type "dict", data := .dict #[] }) scope.names } : Shared) = s4 at I4
  have cL : ce.locals = C := by rw [← hce, hC]; rfl
  have st4 : tn 0 s4.heap := T.keep _ _ _ st3 fun b _ o e => by rw [← hs4]; exact pushCells_keeps _ _ _ _ (Heap.get?_push_of_some _ e)
  have loop := goal s4 ce cL I4 st4 (by rw [← hce]; exact hg _ _ _ _ _) (by rw [← hce]; exact he _ _ _ _ _)
  have fin : codeAny (model X.prog X.w) X.A (.compStart (.SetComp elt [⟨tg, iter, [], 0⟩] scope pos) 0 (.ref it) (.ref D) ce) (compPost (model X.prog X.w) X.A X.xe none (EP X pins σ Q) (.ref D) C) s4 := codeAny_compStart_set loop (T.self X.A 0 _ _ _ st4 loop)
  rw [← hce, ← hs4, hC] at fin
  subst hs3
  exact fin
/-- sorted(a set of texts) -/
theorem pe_sortT {e : Expr} {ta : TE} {p pos : Pos} (hc : X.calm = true) (hu : X.A.units + 64 < cLine) (hg : Gl X "sorted") (hm : X.mg "sorted" = none) (ha : PE X e ta) (na : starEach [e] X.env = (false, eval e X.env) :: starEach [] X.env) :
    PE X (.Call (.Name "sorted" p) [e] [] pos) (fun σ H Q => ta σ H fun x H1 => ∃ (A : Addr) (n : Nat) (ks : List Str) (F : Hp), x = .ref A ∧ H1 A = some (SetTO X.prog X.w A (fun j => decide (j ∈ ks)) n) ∧ ks.length < 1000 ∧
      ∀ v H', Res X.K F H1 (.ow (.lst (((dedS ks).map D.str).mergeSort leD))) v H' → Q v H') := by
  refine ⟨fun pins s σ H Q I h => ?_⟩
  refine Call_ (ld_blt I hg hm PyProof.Rows.boot_sorted ?_)
  refine PyProof.Rows.callWith_builtin1 (PyProof.Rows.args_cons (thn (ha.run pins s σ H _ I h) fun v s1 ⟨x, H1, I1, r1, q1⟩ => PyProof.Rows.args_nil ?_) na) na rfl
  obtain ⟨D, n, ks, F, rfl, hD, hl, q1⟩ := q1
  cases r1
  exact tx_end (F := F) I1 (setTO_is I1 hD) hc hu hl q1
end
theorem firsts_at : ∀ {es : List (List Key × D)} {ks : List Str}, firsts? es = some ks → ks.length = es.length ∧ ∀ (i : Nat) k v, es[i]? = some (k, v) → ∃ s t, ks[i]? = some s ∧ k = .inr s :: t
  | [], ks, h => by
    cases h
    exact ⟨rfl, fun i k v e => by simp at e⟩
  | (k, v) :: es, ks, h => by
    unfold firsts? at h
    split at h
    · cases ‹_ = ([] : List (List Key × D))›
    · rename_i s t d l heq
      cases heq
      simp only [Option.bind_eq_some_iff, Option.some.injEq] at h
      obtain ⟨m, hm, rfl⟩ := h
      obtain ⟨h1, h2⟩ := firsts_at hm
      refine ⟨by simp [h1], fun i k v e => ?_⟩
      cases i with
      | zero => cases e; exact ⟨s, t, rfl, rfl⟩
      | succ i => exact h2 i k v (by simpa using e)
    · cases h
theorem RpT.keyV {K : PySem.W.Frag} {F : Hp} : ∀ {kvs : List (List Key × V)} {es : List (List Key × D)} {i : Nat} {k : List Key} {v : V}, RpT K F kvs es → kvs[i]? = some (k, v) → ∃ d, es[i]? = some (k, d)
  | _, _, i, k, v, .nil, h => by simp at h
  | _, _, 0, k, v, .cons h r, e => by
    cases e
    exact ⟨_, rfl⟩
  | _, _, i + 1, k, v, .cons h r, e => by
    obtain ⟨d, h1⟩ := RpT.keyV r (by simpa using e)
    exact ⟨d, by simpa using h1⟩
theorem upd_twice {H : Hp} {a : Addr} {x y : HO} : upd (upd H a x) a y = upd H a y := by
  funext b
  by_cases h : b = a
  · rw [h, upd_same, upd_same]
  · rw [upd_ne h, upd_ne h, upd_ne h]
section
variable {T : Tb} {N : List Str} {R : Run} {X : Cx} {sc : Scope} {fb : Str → Bool} {Cg : Cfg} {B : Bs Cg}
theorem pe_sscK' (g : Gd T N R X sc fb Cg) {i j : Nat} {y z : Str} {k0 : Nat} {p p0 p1 p2 p3 p4 qos pos : Pos} {scope : Scope} (hj : N[j]? = some y) (vj : visB sc y = true) (nj : nameOk y = true) (hi : N[i]? = some z) (hg : glB sc "sorted" = true)
    (si : stOkB (relS scope sc) (fbOf scope) z = true) (vi : visB (relS scope sc) z = true) (ni : nameOk z = true) (ok : blkC N sc scope [(N.getD i ⟨#[]⟩, i)] = true) :
    PE X (.Call (.Name "sorted" p) [.SetComp (.Subscript (.Name z p0) (.Constant (.int 0) k0 p1) p2) [⟨.Name z p3, .Name y p4, [], 0⟩] scope qos] [] pos) (tE X.K B (evE R (.sscK i j))) := by
  have hv := pe_var (X := X) (i := j) (x := y) (pos := p4) (by rw [g.hN]; exact hj) (vis_of g vj) (dbg_of nj).1 (dbg_of nj).2
  have hgi : N.getD i ⟨#[]⟩ = z := by simp [List.getD, hi]
  rw [hgi] at ok
  have base := pe_scT (X := X) (own := [(z, i)]) (pos := qos) (g := gName i) (te := tOp (rIx X.K) (fun σ H Q => ∃ v, σ[i]? = some (some v) ∧ Q v H) (fun σ H Q => Q (.int 0) H)) g.calm (by rw [g.hN]; exact g.nd) (pi_keys (tg := .Name z p3) hv) (by rw [g.hN, g.hsc]; exact blkOk_by ok)
    (elt := .Subscript (.Name z p0) (.Constant (.int 0) k0 p1) p2)
    (fun s H C cl fp => by
      have g' := g.blk s H scope C cl fp
      obtain ⟨l1, l2⟩ := st_of g' si
      exact pg_name (by rw [g'.hN]; exact g'.nd) (by rw [g'.hN]; exact hi) l1 l2)
    (fun s H C cl fp => by
      have g' := g.blk s H scope C cl fp
      exact pe_ix ix_seq (pe_var (by rw [g'.hN]; exact hi) (vis_of g' vi) (dbg_of ni).1 (dbg_of ni).2) pe_int fun _ _ => rfl) (fun _ => rfl)
  refine (pe_sortT g.calm (by have := g.un; omega) (gl_of g hg) (g.blt .sorted) (pe_lock base) rfl).imp fun σ H Q ⟨F, env, r, env', s, e, q⟩ => ?_
  simp only [evE] at e
  split at e
  · rename_i es hes
    simp only [Option.bind_eq_some_iff] at e
    obtain ⟨ks, hks, e⟩ := e
    split at e
    · rename_i hb
      cases e
      obtain ⟨d, hσ, ⟨kvs, hH, rT⟩, fd, bd, pk⟩ := s.ownAt hes
      refine ⟨d, .dT kvs, hH, trivial, fun od => ⟨_, hσ, d, od, rfl, .inr ⟨kvs, upd_same, fun A hA => ?_⟩⟩⟩
      have hAd : A ≠ d := fun z => by rw [z, upd_same] at hA; cases hA
      have hHA : H A = none := by rw [upd_ne hAd] at hA; exact hA
      obtain ⟨hl, hat⟩ := firsts_at hks
      have hlen : kvs.length = ks.length := by rw [hl, rT.length]
      have hil : i < σ.length := by rw [← s.len]; exact hb.2
      generalize hHl : upd H d (.frz od (.dT kvs)) = Hl at hA
      have hHld : Hl d = some (.frz od (.dT kvs)) := by rw [← hHl]; exact upd_same
      refine ⟨fun n m H' => m = kvs.length - n ∧ n ≤ kvs.length ∧ H' = upd Hl A (SetTO X.prog X.w A (fun k => decide (k ∈ ks.take n)) n), ⟨kvs.length, by simp, Nat.zero_le _, by
        congr 2⟩, ?_⟩
      rintro n m H' ⟨rfl, hn, rfl⟩
      have hd' : upd Hl A (SetTO X.prog X.w A (fun k => decide (k ∈ ks.take n)) n) d = some (.frz od (.dT kvs)) := by rw [upd_ne (Ne.symm hAd)]; exact hHld
      by_cases hlt : n < kvs.length
      · refine .inr ⟨⟨hd', hlt⟩, fun H'' => H'' = upd Hl A (SetTO X.prog X.w A (fun k => decide (k ∈ ks.take (n + 1))) (n + 1)), fun H'' h => ⟨_, by omega, rfl, hlt, h⟩, fun x H'' hy => ?_⟩
        obtain ⟨rfl, k, v, q0, hkv, rfl, hq0⟩ := hy
        refine ⟨by rw [wipe_set (by simp), wipe_wipe], ?_⟩
        obtain ⟨dd, hed⟩ := rT.keyV hkv
        obtain ⟨s0, t0, hs0, rfl⟩ := hat n k dd hed
        have hi2 : (L2.wipe σ [i]).length = σ.length := wipe_length ..
        refine ⟨.ref q0, by simp [hi2, hil], .inr (.inl ⟨q0, _, 0, .str s0, rfl, rfl, .inl (.inl hq0), ?_, ?_⟩)⟩
        · simp only [atI, ixN, List.map_cons, List.length_cons]
          rw [if_pos (by decide), if_pos (by omega)]
          rfl
        refine ⟨s0, _, n, rfl, upd_same, by unfold scanBound; omega, ?_⟩
        rw [upd_twice]
        congr 2
        funext k
        rw [List.take_add_one, hs0]
        simp
      · have en : n = kvs.length := by omega
        subst en
        refine .inl ⟨⟨hd', Nat.le_refl _⟩, hd', A, kvs.length, ks, F, rfl, ?_, hb.1, fun v H' res => ?_⟩
        · rw [upd_ne hAd, upd_same, hlen, List.take_length]
        · have e1 : upd (upd Hl A (SetTO X.prog X.w A (fun k => decide (k ∈ ks.take kvs.length)) kvs.length)) d (.dT kvs) = upd H A (SetTO X.prog X.w A (fun k => decide (k ∈ ks.take kvs.length)) kvs.length) := by
            funext b
            by_cases h1 : b = d
            · rw [h1, upd_same, upd_ne (Ne.symm hAd), hH]
            · rw [upd_ne h1]
              by_cases h2 : b = A
              · rw [h2, upd_same, upd_same]
              · rw [upd_ne h2, upd_ne h2, ← hHl, upd_ne h1]
          rw [e1] at res
          obtain ⟨F3, s3, x3, o3⟩ := res.ok (s.new hHA)
          exact q v F3 H' s3 x3 o3
    · cases e
  · cases e
/-- str(a whole number) -/
theorem pe_strI' (g : Gd T N R X sc fb Cg) {a : Ex} {ea : Expr} {p pos : Pos} (ha : ∀ B : Bs Cg, PE X ea (tE X.K B (evE R a))) (h1 : glB sc "str" = true) (hs : noStar ea = true) : PE X (.Call (.Name "str" p) [ea] [] pos) (tE X.K B (evE R (.strI a))) :=
  (pe_callTy (pos := pos) (p := p) call_str_int (gl_of g h1) (g.ot _ (by decide)) boot_str (pa_cons (ha B) pa_nil (star_of hs _)) (by decide +kernel) (by decide +kernel) (star_of hs _) rfl).imp fun σ H Q ⟨F, env, r, env', s, e, q⟩ => by
    simp only [evE, Option.bind_eq_some_iff] at e
    obtain ⟨⟨r1, env1⟩, e1, e⟩ := e
    split at e
    · rename_i n h
      have h' : r1 = .sh (.int n) := h
      subst h'
      split at e
      · rename_i hb
        cases e
        refine ⟨F, env, _, _, s, e1, fun v F1 H1 s1 x1 o1 => ?_⟩
        cases o1
        refine ⟨n, rfl, ?_, q _ F1 H1 s1 x1 (.str _)⟩
        by_cases h0 : n.natAbs = 0
        · rw [h0]; decide
        · have : n.natAbs.log2 < 62 := (Nat.log2_lt h0).mpr (by simpa [rngLine] using hb)
          omega
      · cases e
    · cases e
end
end Ts

set_option linter.all false
set_option autoImplicit false
set_option maxRecDepth 100000
set_option maxHeartbeats 2000000
/-! Own exceptions: calls that may raise, raise, try. -/
namespace Ts
open PySem PySem.Spec PyProof.Rows L2

/-- where exceptions go: the program's exceptions, its names, the wish -/
structure Xw where
  xcs : List (Str × List Str)
  mg : Str → Option Value
  W : WX
/-- raised with these slots, this class, these fields -/
def xOk (K : PySem.W.Frag) {Cg : Cfg} (B : Bs Cg) (F : Hp) (xw : Xw) (e : En) (c : Nat) (fs : List D) : Prop :=
  ∀ B' : Bs Cg, B'.b0 = B.b0 → ∀ (C : Addr) (flds : List Str) (d : Addr) (vs : List V) (σ' : L2.St) (F' H' : Hp), SR K B' F' H' σ' e → Same F F' → xcA xw.xcs xw.mg c C flds → flds.length = fs.length → F' d = some (xdV flds vs) → RpL K F' vs fs → xw.W (.ref C) (some d) σ' H'
theorem xOk.mono {K : PySem.W.Frag} {Cg : Cfg} {B : Bs Cg} {F F' : Hp} {xw : Xw} {e : En} {c : Nat} {fs : List D} (s : Same F F') (h : xOk K B F xw e c fs) : xOk K B F' xw e c fs :=
  fun B' hB C flds d vs σ' F2 H' r x a l y z => h B' hB C flds d vs σ' F2 H' r (s.trans x) a l y z
theorem xOk.b0 {K : PySem.W.Frag} {Cg : Cfg} {B B1 : Bs Cg} {F : Hp} {xw : Xw} {e : En} {c : Nat} {fs : List D} (q : B1.b0 = B.b0) (h : xOk K B F xw e c fs) : xOk K B1 F xw e c fs :=
  fun B' hB => h B' (hB.trans q)
/-- a call that may raise -/
def tEX (K : PySem.W.Frag) {Cg : Cfg} (B : Bs Cg) (R : Run) (xw : Xw) (f : Nat) (as : Exs) : TE := fun σ H Q => tE K B (evE R (.callX f as)) σ H Q ∨
  ∃ F env q, SR K B F H σ env ∧ exC R f as env = some q ∧ xOk K B F xw q.1 q.2.1 q.2.2

section
variable {T : Tb} {N : List Str} {R : Run} {X : Cx} {sc : Scope} {fb : Str → Bool} {Cg : Cfg} {B : Bs Cg} {xw : Xw}
theorem pe_callX' (g : Gd T N R X sc fb Cg) (tk : Takes X xw.W) (hxc : xw.xcs = T.xcs) (hxm : xw.mg = X.mg) {f : Nat} {x : Str} {as : Exs} {ea : Expr} {es : List Expr} {p pos : Pos} (h : ∀ B : Bs Cg, PA X (ea :: es) (tA X.K B (evA R as))) (hf : T.nmX f = some x) (hg : glB sc x = true) (hn : nameOk x = true) (hs : ∀ e ∈ ea :: es, noStar e = true) :
    PE X (.Call (.Name x p) (ea :: es) [] pos) (tEX X.K B R xw f as) := by
  obtain ⟨fa, fd, k, ps, n, FO, hr, hm, hk, hb, har⟩ := g.callsX f x hf
  refine (pe_callS FO hr (gl_of g hg) hm hk hb (fun σ => passAt tk σ) (h B) (dbg_of hn).1 (star_of (hs _ (List.mem_cons_self ..)) _) (back_of _ _ fun e he => hs e (List.mem_cons_of_mem _ he))).imp fun σ H Q hh => ?_
  rcases hh with ⟨F, env, r, env', s, e, q⟩ | ⟨F, env, ⟨e5, c, fs⟩, s, e, q⟩
  · simp only [evE, Option.bind_eq_some_iff] at e
    obtain ⟨p, e1, ds, e2, nv, e3, e⟩ := e
    split at e
    · cases e
    rename_i hex
    refine ⟨F, env, _, _, s, e1, fun vs F1 H1 s1 x1 st => ?_⟩
    obtain ⟨env2, F2, l2, s2, sm2, np2, r2⟩ := leakAll_ok s1 st e2
    refine ⟨F2, ds, nv, s2.nf, s2.tab, s2.frz, r2, har _ _ e3, e3, fun v H' F' hh sm3 s3 nw nt tb rv => ?_, fun c fs hc => by subst hc; exact absurd rfl hex⟩
    have keep : r = nv.rv → env' = env2 → Q v H' := fun er ee => by
      subst er; subst ee
      have s4 := s2.after hh sm3 s3 nw nt tb
      refine q v F' H' s4 (x1.trans (.trans ⟨sm2⟩ ⟨sm3⟩)) ?_
      cases nv with
      | sh d => exact rv
      | ow d =>
        obtain ⟨p, rfl, o, f, hp⟩ := rv
        exact ⟨p, rfl, o, f, s2.freeB hp, s2.notOwn hp⟩
      | mu r fs => exact rv.elim
      | ex c fs => exact rv.elim
    split at e
    · rename_i hc
      simp only [Option.some.injEq, Prod.mk.injEq] at e
      obtain ⟨e4, e5⟩ := e
      rcases hc with hc | hc
      · exact keep e4.symm (e5.symm.trans (noBo_leak hc l2).symm)
      · subst e4; subst e5
        obtain ⟨F4, s4, x4, sT, fr⟩ := s1.restore sm2 s2.frz np2 hh sm3 s3 nw nt tb
        refine q v F4 H' s4 (x1.trans x4) ?_
        cases nv with
        | sh d => exact Rp.flat sT hc rv
        | ow d =>
          obtain ⟨p, rfl, o, f, hp⟩ := rv
          cases d with
          | lst l =>
            obtain ⟨xs, e6, r6⟩ := o
            exact ⟨p, rfl, ⟨xs, e6, r6.flat sT (by rw [D.flats_all]; exact hc)⟩, by rw [fr p hp]; exact f, s1.freeB hp, s1.notOwn hp⟩
          | _ => cases hc
        | mu r fs => exact rv.elim
        | ex c fs => exact rv.elim
    · simp only [l2, Option.bind_some, Option.some.injEq, Prod.mk.injEq] at e
      exact keep e.1.symm e.2.symm
  · simp only [exC, Option.bind_eq_some_iff] at e
    obtain ⟨p, e1, ds, e2, e4, e3, e⟩ := e
    split at e
    · rename_i c' fs' hR
      simp only [Option.some.injEq, Prod.mk.injEq] at e
      obtain ⟨rfl, rfl, rfl⟩ := e
      refine ⟨F, env, _, _, s, e1, fun vs F1 H1 s1 x1 st => ?_⟩
      obtain ⟨env2, F2, l2, s2, sm2, np2, r2⟩ := leakAll_ok s1 st e2
      rw [l2] at e3; cases e3
      refine ⟨F2, ds, _, s2.nf, s2.tab, s2.frz, r2, har _ _ hR, hR, fun v H' F' hh sm3 s3 nw nt tb rv => rv.elim, fun c fs hc C flds d vs' H' F' hh sm3 s3 nw nt tb hA hl hd rp => ?_⟩
      cases hc
      have s4 := s2.after hh sm3 s3 nw nt tb
      exact q B rfl C flds d vs' σ F' H' s4 (x1.ff.trans (sm2.trans sm3)) (by rw [hxc, hxm]; exact hA) hl hd rp
    · cases e
theorem pe_callXn (g : Gd T N R X sc fb Cg) {f : Nat} {x : Str} {as : Exs} {ea : Expr} {es : List Expr} {p pos : Pos} (h : ∀ B : Bs Cg, PA X (ea :: es) (tA X.K B (evA R as))) (hf : T.nmX f = some x) (hg : glB sc x = true) (hn : nameOk x = true) (hs : ∀ e ∈ ea :: es, noStar e = true) :
    PE X (.Call (.Name x p) (ea :: es) [] pos) (tE X.K B (evE R (.callX f as))) :=
  (pe_callX' (xw := ⟨T.xcs, X.mg, fun _ _ _ _ => False⟩) g takes0 rfl rfl h hf hg hn hs).imp fun σ H Q q => .inl q

/-! ### raise -/
theorem raise_heap {C a : Addr} {flds : List Str} {vs : List V} {H1 : Hp} {d : Addr} (hd : H1 d = none) (hda : d ≠ a) (ha : H1 a = none) :
    upd (del (upd (upd (upd H1 a (exo a C none)) d (exd d (flds.zip vs).reverse)) a (exo a C (some d))) a) d (xdV flds vs) = upd H1 d (xdV flds vs) := by
  funext b
  by_cases hb : b = d
  · subst hb; rw [upd_same, upd_same]
  · rw [upd_ne hb, upd_ne hb]
    by_cases hba : b = a
    · subst hba; rw [del_same, ha]
    · rw [del_ne hba, upd_ne hba, upd_ne hb, upd_ne hba]
theorem pmk_x (g : Gd T N R X sc fb Cg) {nm : Str} {C : Addr} {flds : List Str} (o : XcOk X.prog X.w X.K X.mg X.base nm C flds) {as : Exs} {e : Expr} {es : List Expr} {p pos : Pos} (hg : Gl X nm) (ha : PA X (e :: es) (tL X.K B (evL R as)))
    (hdb : (nm == ("__debug__" : Str)) = false) (he : starEach (e :: es) X.env = (false, eval e X.env) :: starEach es X.env) (hpl : (backTo pos (starEach es X.env)).any (·.1) = false) : PMk X (.Call (.Name nm p) (e :: es) [] pos) (fun σ H Q => ∃ F env ds env', SR X.K B F H σ env ∧ evL R as env = some (ds, env') ∧ ds.length = flds.length ∧
      ∀ vs F' H' d, SR X.K B F' H' σ env' → Ext F F' → RpL X.K F' vs ds → H' d = none → Q (.ref C) (some d) (upd H' d (xdV flds vs))) := by
  obtain ⟨fI, fd, ps, iC, tI, FO, hb⟩ := o.init
  have base := pmk_oex (p := p) (pos := pos) o.oex iC tI FO g.room hb .nil pass0 hg o.mgC ha hdb he hpl
  intro pins s σ H Q I ⟨F, env, ds, env', sr, ev, hl, q⟩
  refine base pins s σ H Q I ⟨F, env, ds, env', sr, ev, fun vs F1 H1 s1 x1 rp => ?_⟩
  have hvl : vs.length = flds.length := by rw [rp.length, hl]
  refine ⟨by have := o.pos.2; omega, fun a ha => ⟨a, vs, by rw [List.append_nil], hvl, upd_same, fun d hd hda => ?_⟩⟩
  have hd1 : H1 d = none := by rw [upd_ne hda] at hd; exact hd
  refine ⟨rfl, d, (flds.zip vs).reverse, upd_same, by rw [upd_ne hda, upd_same], hd1, ?_⟩
  have hh := raise_heap (C := C) (flds := flds) (vs := vs) hd1 hda ha
  rw [show HO.xd (flds.zip vs).reverse = xdV flds vs from rfl, hh]
  exact q vs F1 H1 d s1 x1 rp hd1

/-! ### except suites that return -/
theorem zip_lookup : ∀ {flds : List Str} {vs : List V} {k : Nat} {f : Str} {v : V}, flds.Nodup → flds[k]? = some f → vs[k]? = some v → (flds.zip vs).reverse.lookup f = some v
  | [], _, _, _, _, _, h, _ => by simp at h
  | _ :: _, [], _, _, _, _, _, h => by simp at h
  | g :: flds, w :: vs, k, f, v, hn, h1, h2 => by
    rw [List.nodup_cons] at hn
    rw [List.zip_cons_cons, List.reverse_cons, List.lookup_append]
    cases k with
    | zero =>
      simp only [List.getElem?_cons_zero, Option.some.injEq] at h1 h2
      subst h1 h2
      have : (flds.zip vs).reverse.lookup g = none := by
        rw [List.lookup_eq_none_iff]
        intro p hp
        rw [List.mem_reverse] at hp
        have := (List.of_mem_zip hp).1
        simp only [bne_iff_ne, ne_eq]
        intro z
        exact hn.1 (z ▸ this)
      rw [this]
      simp [List.lookup]
    | succ k =>
      simp only [List.getElem?_cons_succ] at h1 h2
      rw [zip_lookup hn.2 h1 h2]
      rfl
def fldAt (xcs : List (Str × List Str)) (hs : List Nat) (k : Nat) (f : Str) : Bool := hs.all fun c => match xcs[c]? with | some p => decide (p.2[k]? = some f) | none => false
theorem fldAt_of {xcs : List (Str × List Str)} {hs : List Nat} {k c : Nat} {f nm : Str} {flds : List Str} (h : fldAt xcs hs k f = true) (hc : hs.contains c = true) (e : xcs[c]? = some (nm, flds)) : flds[k]? = some f := by
  unfold fldAt at h
  have := List.all_eq_true.mp h c (by simpa using hc)
  rw [e] at this
  simpa using this
def rxChk (xcs : List (Str × List Str)) (n : Str) (hs : List Nat) : Rx → List Stmt → Bool
  | .no, [.Return (some (.Constant .none _ _)) _] => true
  | .f1 k, [.Return (some (.Attribute (.Name x _) f _)) _] => decide (x = n) && fldAt xcs hs k f
  | .f2 j k, [.Return (some (.Tuple [.Attribute (.Name x _) f _, .Attribute (.Name y _) g _] _ _)) _] => decide (x = n) && decide (y = n) && fldAt xcs hs j f && fldAt xcs hs k g
  | _, _ => false
/-- what an except suite is told -/
structure RxIn (T : Tb) (X : Cx) (hs : List Nat) (i : Nat) (a : Addr) (cls : Value) (d : Option Addr) (σ : L2.St) (H : Hp) (vs : List V) : Prop where
  ex : ∃ (nm : Str) (C : Addr) (flds : List Str) (dd : Addr) (c : Nat), cls = .ref C ∧ d = some dd ∧ XcOk X.prog X.w X.K X.mg X.base nm C flds ∧ T.xcs[c]? = some (nm, flds) ∧ hs.contains c = true ∧ vs.length = flds.length ∧ H dd = some (xdV flds vs)
  at_ : σ[i]? = some (some (.ref a))
def rxT (T : Tb) (X : Cx) (hs : List Nat) (i : Nat) (a : Addr) (cls : Value) (d : Option Addr) (r : Rx) : TS := fun D σ H => ∃ vs, RxIn T X hs i a cls d σ H vs ∧ match r with
  | .no => D.rt .non H
  | .f1 k => ∃ v, vs[k]? = some v ∧ D.rt v H
  | .f2 j k => ∃ v w, vs[j]? = some v ∧ vs[k]? = some w ∧ ∀ p, H p = none → D.rt (.ref p) (upd H p (.tup [v, w]))
theorem pe_fld {hs : List Nat} {i : Nat} {a : Addr} {oe : Obj} {cls : Value} {d : Option Addr} {pn : List (Addr × Obj)} {n f : Str} {np p : Pos} {k : Nat} (hz : Zc cls d oe) (hf : ∃ vs, oe.data = .fields vs) (hi : X.N[i]? = some n) (hv : Vis X.env.scope n) (hn : nameOk n = true) (ha : fldAt T.xcs hs k f = true) :
    PE (X.suite a ((a, oe) :: pn)) (.Attribute (.Name n np) f p) (fun σ H Q => ∃ vs v, RxIn T X hs i a cls d σ H vs ∧ vs[k]? = some v ∧ Q v H) := by
  refine ⟨fun pins s σ H Q I ⟨vs, v, hin, hvk, q⟩ => ?_⟩
  obtain ⟨nm, C, flds, dd, c, rfl, rfl, o, e, hc, hl, hd⟩ := hin.ex
  have hk := fldAt_of ha hc e
  have := (pe_xf (X := X) (te := tVar i) (n := f) (pos := p) o.xf (o.noF f (List.mem_of_getElem? hk)) hz hf (pe_var (X := X.suite a ((a, oe) :: pn)) (i := i) (pos := np) hi hv (dbg_of hn).1 (dbg_of hn).2)).run pins s σ H Q I
  exact this ⟨_, hin.at_, rfl, rfl, dd, (flds.zip vs).reverse, v, rfl, hd, zip_lookup o.nd hk hvk, q⟩
theorem pss_rx {hs : List Nat} {i : Nat} {a : Addr} {oe : Obj} {cls : Value} {d : Option Addr} {pn : List (Addr × Obj)} {n : Str} {r : Rx} {suite : List Stmt} (hz : Zc cls d oe) (hf : ∃ vs, oe.data = .fields vs) (hi : X.N[i]? = some n) (hv : Vis X.env.scope n) (hn : nameOk n = true) (h : rxChk T.xcs n hs r suite = true) :
    PSs (X.suite a ((a, oe) :: pn)) suite (rxT T X hs i a cls d r) := by
  unfold rxChk at h
  split at h
  · exact ⟨fun pins s σ H D I ⟨vs, hin, q⟩ => (pss_one (ps_ret pe_non)).run pins s σ H D I q⟩
  · rename_i k x px f p1 p2
    simp only [Bool.and_eq_true, decide_eq_true_eq] at h
    obtain ⟨rfl, h⟩ := h
    exact ⟨fun pins s σ H D I ⟨vs, hin, v, hvk, q⟩ => (pss_one (ps_ret (pe_fld hz hf hi hv hn h))).run pins s σ H D I ⟨vs, v, hin, hvk, q⟩⟩
  · rename_i j k x px f p1 y py g p2 k0 p3 p4
    simp only [Bool.and_eq_true, decide_eq_true_eq] at h
    obtain ⟨⟨⟨rfl, rfl⟩, h1⟩, h2⟩ := h
    exact ⟨fun pins s σ H D I ⟨vs, hin, v, w, hvj, hvk, q⟩ => (pss_one (ps_ret (pe_tup (pa_cons (pe_fld hz hf hi hv hn h1) (pa_cons (pe_fld hz hf hi hv hn h2) pa_nil))))).run pins s σ H D I
      ⟨vs, v, hin, hvj, vs, w, hin, hvk, by show 2 ≤ sizeLine; decide, fun p hp => q p hp⟩⟩
  · cases h
/-- isinstance(e, its class), asked in the suite -/
theorem call_isX {X : Cx} {a D dd : Addr} {oe : Obj} {pn : List (Addr × Obj)} (C : ExcC X.K D) (hz : Zc (.ref D) (some dd) oe) (hf : ∃ vs, oe.data = .fields vs) :
    CallR (X.suite a ((a, oe) :: pn)) (.builtin "isinstance") (fun xs H Q => xs = [.ref a, .ref D] ∧ (∃ fs, H dd = some (.xd fs)) ∧ Q (.bl true) H) := by
  intro pins s σ H xs us Q I r h
  obtain ⟨rfl, ⟨fs, ea⟩, q⟩ := h
  cases r with
  | cons rx rr =>
    cases rr with
    | cons rt rr =>
      cases rr
      cases rx
      cases rt
      obtain ⟨hget, _⟩ := I.pin (a, oe) (List.mem_append.mpr (.inl List.mem_cons_self))
      obtain ⟨vs, hv⟩ := hf
      have hx : ObjOk X.prog X.w H s.heap dd (.xd fs) := I.hok dd _ ea
      obtain ⟨mA, hns, hr⟩ := hx
      obtain ⟨od, ho, hl⟩ := lookIn_ns hns
      have J : PySem.W.InstAt s.heap a oe D (some od) := ⟨hget, hz.1, by unfold PySem.W.notCls; rw [hv] <;> rfl, by rw [hz.2]; exact ho⟩
      have hone : PySem.W.kitOne X.K (.ref D) (.ref D) = some true := by
        unfold PySem.W.kitOne
        rw [if_pos (beq_self_eq_true _)]
      have hcl : (PySem.W.clsIn X.K D).isSome = true := by
        obtain ⟨cd, hc, _⟩ := PySem.W.any_some C.hd
        rw [hc]; rfl
      exact PySem.W.kia_one (PySem.W.kitx_exc hcl C.hg C.hk C.hs C.ha C.hn C.ht C.hm) I.kIn J hone (fun z => nomatch z) fun tk => ⟨.bl true, H, I.kept (t' := tk) fun _ _ z => z, rfl, q⟩
def grdOk (T : Tb) (sc : Scope) (n : Str) (hs : List Nat) (d : GrdDat) : Bool := T.iss && decide (d.n = n) && glB sc d.gx && nameOk d.gx && glB sc "isinstance" && hs.all fun c => decide ((T.xcs[c]?.map (·.1)) = some d.gx)
/-- a suite without its guard -/
def stripG (T : Tb) (sc : Scope) (n : Str) (hs : List Nat) : List Stmt → List Stmt
  | [] => []
  | b :: l => match grdDec b with
    | some d => if grdOk T sc n hs d = true then l else b :: l
    | none => b :: l
theorem pss_rxG {N : List Str} {R : Run} {sc : Scope} {fb : Str → Bool} {Cg : Cfg} (g : Gd T N R X sc fb Cg) {hs : List Nat} {i : Nat} {a : Addr} {oe : Obj} {cls : Value} {d : Option Addr} {pn : List (Addr × Obj)} {n : Str} {r : Rx} {suite : List Stmt} (hz : Zc cls d oe) (hf : ∃ vs, oe.data = .fields vs) (hi : X.N[i]? = some n) (hv : Vis X.env.scope n) (hn : nameOk n = true) (h : rxChk T.xcs n hs r (stripG T sc n hs suite) = true) :
    PSs (X.suite a ((a, oe) :: pn)) suite (rxT T X hs i a cls d r) := by
  cases suite with
  | nil => exact pss_rx hz hf hi hv hn h
  | cons b l =>
    have es : stripG T sc n hs (b :: l) = (match grdDec b with
      | some d => if grdOk T sc n hs d = true then l else b :: l
      | none => b :: l) := rfl
    rw [es] at h
    cases hd : grdDec b with
    | none => rw [hd] at h; exact pss_rx hz hf hi hv hn h
    | some dd =>
      rw [hd] at h
      dsimp only at h
      split at h
      · rename_i hg
        have rest := pss_rx (T := T) (X := X) (a := a) (oe := oe) (cls := cls) (d := d) (pn := pn) (i := i) (r := r) hz hf hi hv hn h
        have eb := grdDec_eq hd
        subst eb
        unfold grdOk at hg
        simp only [Bool.and_eq_true, decide_eq_true_eq] at hg
        obtain ⟨⟨⟨⟨⟨g1, g2⟩, g3⟩, g4⟩, g5⟩, g6⟩ := hg
        refine ⟨fun pins s σ H D I ht => ?_⟩
        have ht0 := ht
        obtain ⟨vs, hin, ht1⟩ := ht
        obtain ⟨nm, C, flds, d0, c, rfl, rfl, o, e, hc, hl, hd0⟩ := hin.ex
        have hnm : nm = dd.gx := by
          have := List.all_eq_true.mp g6 c (by simpa using hc)
          rw [e] at this
          simpa using this
        have EC := g.iss g1 c nm flds C e o.mgC
        have px : PE (X.suite a ((a, oe) :: pn)) (.Name dd.n dd.p2) (tVar i) := pe_var (i := i) (by rw [g2]; exact hi) (by rw [g2]; exact hv) (dbg_of (by rw [g2]; exact hn)).1 (dbg_of (by rw [g2]; exact hn)).2
        have pc : PE (X.suite a ((a, oe) :: pn)) (.Name dd.gx dd.p3) (tC (.ref C)) := pe_glob (gl_of g g3) (by rw [← hnm]; exact o.mgC) rfl (dbg_of g4).1
        have pt := pt_not (pos := dd.p5) (pt_val (pe_callB (X := X.suite a ((a, oe) :: pn)) (p := dd.p1) (pos := dd.p4) (call_isX EC hz hf) (gl_of g g5) (g.ot "isinstance" (by decide)) (by decide +kernel) (pa_cons px (pa_cons pc pa_nil))))
        refine (pss_cons (ps_if (pos := dd.p8) pt (pss_one (ps_ret pe_non)) pss_nil) rest).run pins s σ H D I ?_
        exact ⟨_, hin.at_, rfl, ⟨_, hd0⟩, true, rfl, ht0⟩
      · exact pss_rx hz hf hi hv hn h
end
end Ts

set_option linter.all false
set_option autoImplicit false
set_option maxRecDepth 100000
set_option maxHeartbeats 2000000
/-! One's own list of one's own lists: made by a comprehension, read, written, shared. -/
namespace Ts
open PySem PySem.Spec PyProof.Rows L2

/-- more stays still -/
def Bs.plus {C : Cfg} (B : Bs C) (H : Hp) (ps : List Addr) : Bs C := .of (fun b => match B.h b with | some o => some o | none => if b ∈ ps then H b else none) B.b0 (fun b o e => by simp [B.le b o e])
section
variable {K : PySem.W.Frag} {C : Cfg} {B : Bs C} {F H : Hp} {σ : L2.St} {env : En} {ps : List Addr}
theorem plus_old {b : Addr} {o : HO} (h : B.h b = some o) : (B.plus H ps).h b = some o := by
  show (match B.h b with | some o => some o | none => if b ∈ ps then H b else none) = some o
  rw [h]
theorem plus_in {b : Addr} (h : B.h b = none) (m : b ∈ ps) : (B.plus H ps).h b = H b := by
  show (match B.h b with | some o => some o | none => if b ∈ ps then H b else none) = H b
  rw [h]; exact if_pos m
theorem plus_out {b : Addr} (h : B.h b = none) (m : b ∉ ps) : (B.plus H ps).h b = none := by
  show (match B.h b with | some o => some o | none => if b ∈ ps then H b else none) = none
  rw [h]; exact if_neg m
theorem plus_cases {b : Addr} {o : HO} (h : (B.plus H ps).h b = some o) : B.h b = some o ∨ (B.h b = none ∧ b ∈ ps ∧ H b = some o) := by
  cases e : B.h b with
  | some u => rw [plus_old e] at h; cases h; exact .inl rfl
  | none =>
    by_cases m : b ∈ ps
    · rw [plus_in e m] at h; exact .inr ⟨rfl, m, h⟩
    · rw [plus_out e m] at h; cases h
theorem NwOk.plus {p : Addr} {ls : List D} (o : NwOk K B F p ls) : NwOk K (B.plus H ps) F p ls := by
  obtain ⟨qs, h1, h2, h3, h4, h5⟩ := o
  refine ⟨qs, plus_old h1, h2, h3, h4, fun k q e => ?_⟩
  obtain ⟨g1, ds, xs, g2, g3, g4⟩ := h5 k q e
  exact ⟨g1, ds, xs, g2, plus_old g3, g4⟩
theorem SR.plus (s : SR K B F H σ env) (h : ∀ q ∈ ps, F q = none ∧ ¬ Owns σ env q ∧ ∃ xs, H q = some (.lst xs)) : SR K (B.plus H ps) F H σ env := by
  refine ⟨s.len, fun b o e => ?_, s.frz, fun b o e => ?_, fun i sl hi => ?_, s.inj, fun b o e => ?_, s.nf, s.tab⟩
  · rcases plus_cases e with e | ⟨_, _, e⟩
    · exact s.bas b o e
    · exact e
  · rcases plus_cases e with e | ⟨_, m, e⟩
    · exact s.dis b o e
    · exact (h b m).1
  · cases sl with
    | u => trivial
    | sh d => exact s.sh hi
    | nw ls => obtain ⟨p, e, o⟩ := s.slot i _ hi; exact ⟨p, e, o.plus⟩
    | ow d =>
      obtain ⟨p, e, o, f, b, pk⟩ := s.ownAt hi
      exact ⟨p, e, o, f, plus_out b fun m => (h p m).2.1 ⟨i, d, hi, e⟩, pk⟩
  · rcases plus_cases e with e | ⟨_, m, e⟩
    · exact s.nb b o e
    · obtain ⟨_, _, xs, hx⟩ := h b m
      rw [hx] at e; cases e
      exact kp_of rfl
end
theorem SameN.none {ts : List Addr} {H H' : Hp} (s : SameN ts H H') (t : Tabs ts H') {q : Addr} (h : H' q = none) : H q = none := by
  cases e : H q with
  | none => rfl
  | some u =>
    by_cases k : Kp ts q u
    · rw [s q u e k] at h; cases h
    · have hm : q ∈ ts := by
        cases u <;> first | exact absurd trivial k | skip
        exact Classical.byContradiction fun z => k z
      obtain ⟨ps, e2, _⟩ := t q hm
      rw [e2] at h; cases h
/-- the lists made so far -/
structure InL (K : PySem.W.Frag) (F H H1 : Hp) (Dd : Addr) (qs : List Addr) (rs : List D) : Prop where
  nd : (Dd :: qs).Nodup
  len : qs.length = rs.length
  at_ : ∀ (k : Nat) (q : Addr), qs[k]? = some q → H1 q = none ∧ F q = none ∧ ∃ ds xs, rs[k]? = some (.lst ds) ∧ H q = some (.lst xs) ∧ RpL K F xs ds ∧ ds.all D.flat = true
theorem InL.next {K : PySem.W.Frag} {ts : List Addr} {F F' H H' H1 : Hp} {Dd : Addr} {qs : List Addr} {rs : List D} (w : InL K F H H1 Dd qs rs) (k : SameN ts H H') (x : Same F F') (n : NewF ts H F F') : InL K F' H' H1 Dd qs rs :=
  ⟨w.nd, w.len, fun i q e => by
    obtain ⟨a, b, ds, xs, c, d, r, fl⟩ := w.at_ i q e
    exact ⟨a, n q _ d (kp_of rfl) b, ds, xs, c, k q _ d (kp_of rfl), r.mono x, fl⟩⟩
theorem InL.snoc {K : PySem.W.Frag} {F H H1 : Hp} {Dd : Addr} {qs : List Addr} {rs : List D} (w : InL K F H H1 Dd qs rs) {q : Addr} {ds : List D} {xs : List V} (n : q ∉ Dd :: qs) (h1 : H1 q = none) (f : F q = none) (h : H q = some (.lst xs)) (r : RpL K F xs ds) (fl : ds.all D.flat = true) : InL K F H H1 Dd (qs ++ [q]) (rs ++ [.lst ds]) := by
  refine ⟨?_, by simp [w.len], fun i q' e => ?_⟩
  · rw [← List.cons_append, List.nodup_append]
    refine ⟨w.nd, by simp, fun a ha b hb => ?_⟩
    simp only [List.mem_singleton] at hb
    subst hb
    exact fun z => n (z ▸ ha)
  · rw [List.getElem?_append] at e
    split at e
    · rename_i hl
      obtain ⟨a, b, ds', xs', c, d⟩ := w.at_ i q' e
      exact ⟨a, b, ds', xs', by rw [List.getElem?_append, if_pos (by rw [← w.len]; exact hl)]; exact c, d⟩
    · rename_i hl
      have hi : i = qs.length := by
        have := (List.getElem?_eq_some_iff.mp e).1
        simp at this; omega
      subst hi
      simp at e
      subst e
      exact ⟨h1, f, ds, xs, by rw [w.len]; simp, h, r, fl⟩
theorem InL.upd {K : PySem.W.Frag} {F H H1 : Hp} {Dd : Addr} {qs : List Addr} {rs : List D} (w : InL K F H H1 Dd qs rs) {o : HO} : InL K F (upd H Dd o) H1 Dd qs rs :=
  ⟨w.nd, w.len, fun i q e => by
    obtain ⟨a, b, ds, xs, c, d, r⟩ := w.at_ i q e
    have : q ≠ Dd := fun z => by
      have := List.mem_of_getElem? e
      rw [z] at this
      exact (List.nodup_cons.mp w.nd).1 this
    exact ⟨a, b, ds, xs, c, by rw [upd_ne this]; exact d, r⟩⟩

structure NwW (K : PySem.W.Frag) (Cg : Cfg) (R : Run) (p : Pt) (e : Ex) (envb : En) (ds : List D) (F1 H1 : Hp) (σw : L2.St) (Dd : Addr) (i : Nat) (H : Hp) : Prop where
  le : i ≤ ds.length
  st : ∃ F qs rs, SR K (Bs.mk (C := Cg) fun _ => none) F H σw envb ∧ Same F1 F ∧ SameN Cg.ts H1 H ∧ NewF Cg.ts H1 F1 F ∧ H Dd = some (.lst (qs.map V.ref)) ∧ F Dd = none ∧ InL K F H H1 Dd qs rs ∧ lcD (nwStep R p e envb) (ds.take i) = some rs
/-- the value is one's own list of one's own lists -/
def tN (K : PySem.W.Frag) {Cg : Cfg} (B : Bs Cg) (f : En → Option (List D × En)) : TE := fun σ H Q => ∃ F env ls env', SR K B F H σ env ∧ f env = some (ls, env') ∧
  ∀ (B' : Bs Cg) v F' H', B'.b0 = B.b0 → SR K B' F' H' σ env' → Ext F F' → (∃ p, v = .ref p ∧ NwOk K B' F' p ls) → Q v H'
theorem flatL {K : PySem.W.Frag} {F F' : Hp} (s : SameT F F') {xs : List V} {ds : List D} (r : RpL K F xs ds) (h : ds.all D.flat = true) : RpL K F' xs ds := r.flat s (by rw [D.flats_all]; exact h)
section
variable {T : Tb} {N : List Str} {R : Run} {X : Cx} {sc : Scope} {fb : Str → Bool} {Cg : Cfg} {B : Bs Cg} {tg : Expr}
theorem nw_read (g : Gd T N R X sc fb Cg) {own uses : List Nat} {p : Pt} {it : Itx} {e : Ex} {σ : L2.St} {H : Hp} {Q : VK} (hw : tN X.K B (nwV R own uses p it e) σ H Q) :
    tLc (tI X.K B (evI R it)) (tP X.K Cg (fun d env => asgP env p d) own) (tCx X.K Cg (evC R .nil)) (tEx X.K Cg (evE R e)) own σ H Q := by
  obtain ⟨F, env, ls, env', s, ev, q⟩ := hw
  simp only [nwV, Option.bind_eq_some_iff] at ev
  obtain ⟨⟨ds, env1⟩, e1, rs, e2, ev⟩ := ev
  split at ev
  · rename_i hbig
    simp only [Option.some.injEq, Prod.mk.injEq] at ev
    obtain ⟨rfl, rfl⟩ := ev
    refine ⟨F, env, ds, env1, s, e1, fun J F1 H1 s1 x1 wk => fun Dd hD => ?_⟩
    obtain ⟨F2, s2, x2, n2⟩ := frz_ok s1 uses
    dsimp only at e2
    generalize henvb : wipeE (hide (Ts.frz env1 uses)) own = envb at e2
    have nb : NoOw envb := by rw [← henvb]; exact wipe_no (hide_no _) own
    have sb : SR X.K (Bs.mk (C := Cg) fun _ => none) F2 H1 (L2.wipe σ own) envb := by
      rw [← henvb]
      exact (s2.hid.wipeBoth own).weakB (fun b o h => by cases h) (.inl (wipe_no (hide_no _) own).nw)
    have f2D : F2 Dd = none := s2.free hD
    refine ⟨fun i m H => m = ds.length - i ∧ NwW X.K Cg R p e envb ds F2 H1 (L2.wipe σ own) Dd i H, ⟨ds.length, by simp, Nat.zero_le _, F2, [], [], sb.new hD, .refl _, .of (same_upd hD), fun b o _ _ h => h, upd_same, f2D, ⟨by simp, rfl, fun k q e => by simp at e⟩, by simp [lcD]⟩, ?_⟩
    rintro i m H' ⟨rfl, hi, Fi, qs, rsi, si, sm, hh, nw, hDi, fD, rl, el⟩
    have wki := wk.mono x2
    obtain ⟨rs', a1, a2, a3⟩ := lcD_at e2 i
    rw [el] at a1
    cases a1
    by_cases hlt : i < ds.length
    · have hd : ds[i]? = some ds[i] := by simp [hlt]
      obtain ⟨go, yl⟩ := (wki i Fi H' sm si.frz).1 _ hd
      obtain ⟨ri, hs, hnext⟩ := a3 _ hd
      refine .inr ⟨go, fun H'' => NwW X.K Cg R p e envb ds F2 H1 (L2.wipe σ own) Dd (i + 1) H'', fun H'' w => ⟨_, by omega, rfl, w⟩, fun x Hx hy => ?_⟩
      have res := yl x Hx hy
      obtain ⟨Fx, sx, xx, ox⟩ := res.ok (si.apart nb)
      obtain ⟨k1, k2⟩ := sx.since si.frz xx.ff
      simp only [nwStep, Option.bind_eq_some_iff] at hs
      obtain ⟨e1', ha, ⟨r1, env2⟩, he, hs⟩ := hs
      refine ⟨_, Fx, envb, _, e1', sx, ox, ha, fun σ2 sy w2 l2 => ⟨by rw [w2, wipe_wipe], ?_⟩⟩
      have n1 : NoOw e1' := asgP_no nb ha
      refine ⟨_, Fx, e1', true, sy.apart n1, rfl, fun Fc Hc envc sc' xc => ?_⟩
      obtain ⟨k3, k4⟩ := sc'.since sy.frz xc.ff
      have sz : SR X.K (Bs.mk (C := Cg) fun _ => none) Fc Hc σ2 e1' := by
        have := sy.after (F2 := Fc) (H' := Hc) k3 xc.ff sc'.frz k4 sc'.nf sc'.tab
        exact this.weakB (fun b o h => by cases h) (.inl n1.nw)
      have sbc : SR X.K (Bs.mk (C := Cg) fun _ => none) Fc Hc (L2.wipe σ own) envb := by
        have t1 := (si.apart nb).after (F2 := Fc) (H' := Hc) (k1.trans k3) (xx.ff.trans xc.ff) sc'.frz (fun b o h n f => k4 b o (k1 _ _ h n) n (k2 b o h n f)) sc'.nf sc'.tab
        exact t1.weakB (fun b o h => by cases h) (.inl nb.nw)
      have nwc : NewF Cg.ts H1 F2 Fc := fun b o h n f => k4 b o (k1 _ _ (hh _ _ h n) n) n (k2 b o (hh _ _ h n) n (nw b o h n f))
      have hDc : Hc Dd = some (.lst (qs.map V.ref)) := k3 _ _ (k1 _ _ hDi trivial) trivial
      have fDc : Fc Dd = none := k4 _ _ (k1 _ _ hDi trivial) trivial (k2 _ _ hDi trivial fD)
      have rlc := rl.next (k1.trans k3) (xx.ff.trans xc.ff) (fun b o h n f => k4 b o (k1 _ _ h n) n (k2 b o h n f))
      simp only [if_true]
      refine ⟨_, Fc, e1', _, _, sz.apart n1, he, fun v Fe He se xe oe => ?_⟩
      dsimp only at hs
      split at hs
      · rename_i l
        split at hs
        · rename_i hfl
          simp only [Option.some.injEq] at hs
          subst hs
          obtain ⟨k5, k6⟩ := se.since sz.frz xe.ff
          obtain ⟨pn, rfl, ⟨xs, hpn, rpn⟩, fpn, apn, -⟩ := oe
          have hcn : Hc pn = none := by
            cases z : Hc pn with
            | none => rfl
            | some u =>
              have fcn : Fc pn = none := by
                cases z2 : Fc pn with
                | none => rfl
                | some w => rw [xe.ff _ _ z2] at fpn; cases fpn
              have nt : Kp Cg.ts pn u := by
                cases u <;> first | trivial | skip
                rename_i pst
                intro hp
                obtain ⟨ps', e5, _⟩ := se.tab pn hp
                rw [hpn] at e5
                cases e5
              have := apart_of z nt fcn
              have hb' : apart Cg.ts Fc Hc pn = none := apn
              rw [hb'] at this
              cases this
          have hDe : He Dd = some (.lst (qs.map V.ref)) := k5 _ _ hDc trivial
          have fDe : Fe Dd = none := k6 _ _ hDc trivial fDc
          have rle := rlc.next k5 xe.ff k6
          have h1n : H1 pn = none := (hh.trans (k1.trans k3)).none sbc.tab hcn
          have npn : pn ∉ Dd :: qs := fun m => by
            rcases List.mem_cons.mp m with z | m
            · rw [z, hDc] at hcn; cases hcn
            · obtain ⟨k, hk⟩ := List.getElem?_of_mem m
              obtain ⟨_, _, _, _, _, z, _⟩ := rlc.at_ k _ hk
              rw [z] at hcn; cases hcn
          have lt1 : (qs.map V.ref).length < sizeLine := by
            have := lcD_pre e2 (i + 1) hnext
            simp only [optL, List.length_append, List.length_singleton] at this
            rw [List.length_map, rl.len]
            exact big_lt (by omega)
          refine ⟨_, hDe, lt1, hlt, Fe, qs ++ [pn], rsi ++ [.lst l], ?_, sm.trans (xx.ff.trans (xc.ff.trans xe.ff)), ?_, fun b o h n f => k6 b o (k3 _ _ (k1 _ _ (hh _ _ h n) n) n) n (nwc b o h n f), by rw [List.map_append]; exact upd_same, fDe, (rle.snoc npn h1n fpn hpn rpn hfl).upd, by simpa [optL] using hnext⟩
          · have t1 : SR X.K (Bs.mk (C := Cg) fun _ => none) Fe He (L2.wipe σ own) envb := (sbc.after (F2 := Fe) (H' := He) k5 xe.ff se.frz k6 se.nf se.tab)
            exact t1.heap (fun b o h => by cases h) (fun b o h => by rw [upd_ne (fun (z : b = Dd) => by rw [z, fDe] at h; cases h)]; exact se.frz _ _ h) (fun q ⟨j, d, hj, _⟩ => absurd hj (nb j d)) (se.tab.put1 (fun ps z => by rw [hDe] at z; cases z))
          · intro b o h n
            have nbD : b ≠ Dd := ne_of_none h hD
            rw [upd_ne nbD]
            exact k5 _ _ (k3 _ _ (k1 _ _ (hh _ _ h n) n) n) n
        · cases hs
      · cases hs
    · have ei : i = ds.length := by omega
      have := a2 ei
      subst this
      refine .inl ⟨(wki i Fi H' sm si.frz).2 (by omega), ?_⟩
      obtain ⟨F4, s4, x4, sT, fr⟩ := s1.restore x2 s2.frz n2 hh sm si.frz nw si.nf si.tab
      have gone : ∀ b, H1 b = none → ∀ xs, Fi b = none → H' b = some (.lst xs) → F4 b = none ∧ ¬ Owns σ env1 b ∧ ∃ xs, H' b = some (.lst xs) := fun b h xs f hb => ⟨by rw [fr b h]; exact f, s1.notOwn h, xs, hb⟩
      have all : ∀ q' ∈ Dd :: qs, H1 q' = none ∧ F4 q' = none ∧ ¬ Owns σ env1 q' ∧ ∃ xs, H' q' = some (.lst xs) := fun q' m => by
        rcases List.mem_cons.mp m with z | m
        · subst z; exact ⟨hD, gone _ hD _ fD hDi⟩
        · obtain ⟨k, hk⟩ := List.getElem?_of_mem m
          obtain ⟨h1, f, ds', xs, _, hq, _⟩ := rl.at_ k q' hk
          exact ⟨h1, gone _ h1 _ f hq⟩
      have s5 := s4.plus (H := H') (ps := Dd :: qs) fun q' m => (all q' m).2
      refine q (B.plus H' (Dd :: qs)) (.ref Dd) F4 H' rfl s5 (x1.trans x4) ⟨Dd, rfl, qs, ?_, ?_, rl.nd, rl.len, fun k q' hk => ?_⟩
      · rw [plus_in (s1.freeB hD) (List.mem_cons_self ..)]; exact hDi
      · cases z : B.b0 Dd with
        | none => exact z
        | some u => have := s1.freeB hD; rw [show B.h Dd = _ from B.le _ _ z] at this; cases this
      · have m : q' ∈ Dd :: qs := List.mem_cons_of_mem _ (List.mem_of_getElem? hk)
        obtain ⟨h1, _⟩ := all q' m
        obtain ⟨_, _, ds', xs, e4, hq, r4, fl⟩ := rl.at_ k q' hk
        refine ⟨?_, ds', xs, e4, ?_, flatL sT r4 fl⟩
        · cases z : B.b0 q' with
          | none => exact z
          | some u => have := s1.freeB h1; rw [show B.h q' = _ from B.le _ _ z] at this; cases this
        · rw [plus_in (s1.freeB h1) m]; exact hq
  · cases ev
end

/-! ### reading -/
theorem NwOk.at {K : PySem.W.Frag} {C : Cfg} {B : Bs C} {F : Hp} {p : Addr} {ls : List D} (o : NwOk K B F p ls) {x : Int} {d : D} (h : atI ls x = some d) :
    ∃ (qs : List Addr) (q : Addr) (ds : List D) (xs : List V) (k : Nat), B p = some (.lst (qs.map V.ref)) ∧ atI (qs.map V.ref) x = some (.ref q) ∧ B q = some (.lst xs) ∧ d = .lst ds ∧ RpL K F xs ds ∧ ixN ls.length x = some k ∧ qs[k]? = some q ∧ qs.length = ls.length := by
  obtain ⟨qs, h1, h2, h3, h4, h5⟩ := o
  unfold atI at h
  obtain ⟨k, e1, e2⟩ := Option.bind_eq_some_iff.mp h
  have hk : k < qs.length := by rw [h4]; exact (List.getElem?_eq_some_iff.mp e2).1
  have hq := List.getElem?_eq_getElem hk
  obtain ⟨_, ds, xs, g2, g3, g4⟩ := h5 k _ hq
  rw [e2] at g2; cases g2
  refine ⟨qs, _, ds, xs, k, h1, ?_, g3, rfl, g4, e1, hq, h4⟩
  unfold atI
  rw [List.length_map, h4, e1]
  simp [hk]
section
variable {T : Tb} {N : List Str} {R : Run} {X : Cx} {sc : Scope} {fb : Str → Bool} {Cg : Cfg} {B : Bs Cg}
theorem pe_ix2' (g : Gd T N R X sc fb Cg) {i : Nat} {a b : Ex} {x : Str} {ea eb : Expr} {px p1 p2 : Pos} (h1 : N[i]? = some x) (h2 : visB sc x = true) (h3 : nameOk x = true) (ha : ∀ B : Bs Cg, PE X ea (tE X.K B (evE R a))) (hb : ∀ B : Bs Cg, PE X eb (tE X.K B (evE R b))) (hsa : noSlice ea = true) (hsb : noSlice eb = true) :
    PE X (.Subscript (.Subscript (.Name x px) ea p1) eb p2) (tE X.K B (evE R (.ix2 i a b))) :=
  (pe_ix ix_list (pe_ix ix_list (pe_var (i := i) (by rw [g.hN]; exact h1) (vis_of g h2) (dbg_of h3).1 (dbg_of h3).2) (ha B) (ix_of hsa)) (hb B) (ix_of hsb)).imp fun σ H Q ⟨F, env, r, env', s, e, q⟩ => by
    simp only [evE] at e
    split at e
    · rename_i ls hls
      simp only [Option.bind_eq_some_iff] at e
      obtain ⟨⟨r1, env1⟩, e1, ⟨r2, env2⟩, e2, e⟩ := e
      obtain ⟨p, hp, no⟩ := s.slot i _ hls
      dsimp only at e e2
      split at e
      · rename_i x y
        simp only [Option.bind_eq_some_iff] at e
        obtain ⟨l, hl, e⟩ := e
        split at e
        · rename_i ds
          simp only [Option.bind_eq_some_iff, Option.some.injEq, Prod.mk.injEq] at e
          obtain ⟨d, hd, rfl, rfl⟩ := e
          refine ⟨_, hp, F, env, _, _, s, e1, fun v F1 H1 s1 x1 o1 => ?_⟩
          cases o1
          obtain ⟨qs, q0, ds', xs, k, b1, b2, b3, e5, r5, _⟩ := (no.mono x1.ff).at hl
          cases e5
          refine ⟨p, qs.map V.ref, x, .ref q0, rfl, rfl, .inl (.inl (s1.bas _ _ b1)), b2, F1, env1, _, _, s1, e2, fun w F2 H2 s2 x2 o2 => ?_⟩
          cases o2
          obtain ⟨v, e6, rp⟩ := (r5.mono x2.ff).at hd
          exact ⟨q0, xs, y, v, rfl, rfl, .inl (.inl (s2.bas _ _ b3)), e6, q v F2 H2 s2 (x1.trans x2) rp⟩
        · cases e
      · cases e
    · cases e
theorem pe_lenN' (g : Gd T N R X sc fb Cg) {i : Nat} {x y : Str} {px p pos : Pos} (hy : y = ("len" : Str)) (hg : glB sc y = true) (h1 : N[i]? = some x) (h2 : visB sc x = true) (h3 : nameOk x = true) :
    PE X (.Call (.Name y p) [.Name x px] [] pos) (tE X.K B (evE R (.lenN i))) := by
  subst hy
  have base : PE X (.Call (.Name "len" p) [.Name x px] [] pos) _ := pe_callB call_len_seq (gl_of g hg) (g.blt .len) (bi_val .len) (pa_cons (pe_var (i := i) (by rw [g.hN]; exact h1) (vis_of g h2) (dbg_of h3).1 (dbg_of h3).2) pa_nil (by rfl)) (by decide +kernel) (by decide +kernel) (by rfl) (by rfl)
  refine base.imp fun σ H Q ⟨F, env, r, env', s, e, q⟩ => ?_
  simp only [evE] at e
  split at e
  · rename_i ls hls
    simp only [Option.some.injEq, Prod.mk.injEq] at e
    obtain ⟨rfl, rfl⟩ := e
    obtain ⟨p, hp, qs, b1, b2, b3, b4, b5⟩ := s.slot i _ hls
    refine ⟨_, hp, p, qs.map V.ref, rfl, .inl (.inl (.inl (s.bas _ _ b1))), ?_⟩
    rw [List.length_map, b4]
    exact q _ F H s .refl (.int _)
  · cases e
end

/-! ### writing -/
theorem lone_ne {i j : Nat} {env : En} {ls : List D} (h : lone i env = true) (e : env[j]? = some (.nw ls)) : j = i := by
  apply Classical.byContradiction
  intro n
  have h2 : (env.set i .u)[j]? = some (.nw ls) := by rw [get_set, if_neg (fun z => n z.symm)]; exact e
  have := List.all_eq_true.mp h _ (List.mem_of_getElem? h2)
  cases this
/-- what stays still, changed at one place that the def's caller doesn't know -/
def Bs.alt {C : Cfg} (B : Bs C) (q : Addr) (o : HO) (h : B.b0 q = none) : Bs C := .of (upd B.h q o) B.b0 (fun b u e => by rw [upd_ne (ne_of_none e h)]; exact B.le b u e)
section
variable {K : PySem.W.Frag} {C : Cfg} {B : Bs C} {F H : Hp} {σ : L2.St} {env env' : En}
theorem SR.set2 (s : SR K B F H σ env) {i : Nat} {x y : Int} {d : D} {w : V} (e : set2 i x y d env = some env') (rd : Rp K F w d) :
    ∃ (p q : Addr) (qs : List Addr) (xs : List V) (m : Nat), σ[i]? = some (some (.ref p)) ∧ B p = some (.lst (qs.map V.ref)) ∧ H p = some (.lst (qs.map V.ref)) ∧ atI (qs.map V.ref) x = some (.ref q) ∧ H q = some (.lst xs) ∧ ixN xs.length y = some m ∧
      ∃ B' : Bs C, B'.b0 = B.b0 ∧ SR K B' F (upd H q (.lst (xs.set m w))) σ env' := by
  unfold Ts.set2 at e
  split at e
  · rename_i ls hls
    simp only [Option.bind_eq_some_iff] at e
    obtain ⟨k, hk, e⟩ := e
    split at e
    · rename_i ds hds
      simp only [Option.bind_eq_some_iff] at e
      obtain ⟨m, hm, e⟩ := e
      split at e
      · rename_i hl
        simp only [Option.some.injEq] at e
        subst e
        obtain ⟨p, hp, no⟩ := s.slot i _ hls
        have hat : atI ls x = some (.lst ds) := by unfold atI; rw [hk]; exact hds
        obtain ⟨qs', q, ds', xs, k', b1, b2, b3, e5, r5, b4, b5, b6⟩ := no.at hat
        cases e5
        rw [hk] at b4; cases b4
        obtain ⟨qs, h1, h2, h3, h4, h5⟩ := no
        have : qs' = qs := by
          rw [show B.h p = _ from h1] at b1
          have hi : qs.map V.ref = qs'.map V.ref := by injection b1 with z; injection z
          have inj : Function.Injective V.ref := fun a b z => by injection z
          exact (List.map_inj_right (fun a b z => by injection z)).mp hi.symm
        subst this
        obtain ⟨q0, _⟩ := h5 k q b5
        have hpq : p ≠ q := fun z => (List.nodup_cons.mp h3).1 (z ▸ List.mem_of_getElem? b5)
        have Fq : F q = none := s.dis q _ b3
        refine ⟨p, q, qs', xs, m, hp, h1, s.bas _ _ h1, b2, s.bas _ _ b3, by rw [r5.length]; exact hm, B.alt q (.lst (xs.set m w)) q0, rfl, ?_⟩
        refine ⟨by simpa using s.len, same_upd2 s.bas, fun b o h => ?_, fun b o h => ?_, fun j sl h => ?_, fun j j' a c r e1 e2 e3 e4 => ?_, s.nb.put1 rfl, s.nf, s.tab.put1 (fun ps z => ?_)⟩
        · rw [upd_ne (ne_of_none h Fq)]; exact s.frz b o h
        · by_cases hb : b = q
          · rw [hb]; exact Fq
          · have h' : upd B.h q (.lst (xs.set m w)) b = some o := h
            rw [upd_ne hb] at h'; exact s.dis b o h'
        · rw [get_set] at h
          split at h
          · rename_i z; subst z
            split at h
            · simp only [Option.some.injEq] at h
              subst h
              refine ⟨p, hp, qs', ?_, h2, h3, by rw [List.length_set]; exact h4, fun k2 q2 e2 => ?_⟩
              · show upd B.h q (.lst (xs.set m w)) p = _
                rw [upd_ne hpq]; exact h1
              · obtain ⟨g1, ds2, xs2, g2, g3, g4⟩ := h5 k2 q2 e2
                refine ⟨g1, ?_⟩
                by_cases hk2 : k = k2
                · subst hk2
                  rw [b5] at e2; cases e2
                  refine ⟨ds.set m d, xs.set m w, ?_, upd_same, r5.set rd m⟩
                  rw [List.getElem?_set]
                  simp [(List.getElem?_eq_some_iff.mp hds).1]
                · have hq2 : q2 ≠ q := fun z => hk2 ((List.getElem?_inj (List.getElem?_eq_some_iff.mp b5).1 (List.nodup_cons.mp h3).2).mp (by rw [b5, e2, z]))
                  refine ⟨ds2, xs2, ?_, ?_, g4⟩
                  · rw [List.getElem?_set, if_neg hk2]; exact g2
                  · show upd B.h q (.lst (xs.set m w)) q2 = _
                    rw [upd_ne hq2]; exact g3
            · cases h
          · rename_i z
            cases sl with
            | u => trivial
            | sh d => exact s.sh h
            | nw l => exact absurd (lone_ne hl h).symm z
            | ow a =>
              obtain ⟨p', e', o, f, b, pk⟩ := s.ownAt h
              have hb : p' ≠ q := fun z => by rw [z, b3] at b; cases b
              refine ⟨p', e', o.mono (.refl _) (upd_ne hb), f, ?_, pk⟩
              show upd B.h q (.lst (xs.set m w)) p' = none
              rw [upd_ne hb]; exact b
        · have ow : ∀ {j : Nat} {a : D}, (env.set i (.nw (ls.set k (.lst (ds.set m d)))))[j]? = some (Sl.ow a) → env[j]? = some (Sl.ow a) := fun {j a} h => by
            rw [get_set] at h
            split at h
            · split at h
              · cases h
              · cases h
            · exact h
          exact s.inj j j' a c r (ow e1) (ow e2) e3 e4
        · rw [s.bas _ _ b3] at z; cases z
      · cases e
    · cases e
  · cases e
end

/-! ### made -/
section
variable {T : Tb} {N : List Str} {R : Run} {X : Cx} {sc : Scope} {fb : Str → Bool} {Cg : Cfg} {B : Bs Cg} {tg : Expr}
theorem pe_nw' (g : Gd T N R X sc fb Cg) {own uses : List Nat} {p : Pt} {it : Itx} {e : Ex} {elt iter : Expr} {scope : Scope} {pos : Pos}
    (hI : ∀ B : Bs Cg, PI X tg iter (tI X.K B (evI R it))) (ok : blkC N sc scope (own.map fun i => (N.getD i ⟨#[]⟩, i)) = true) (hpt : ptOk N (relS scope sc) (fbOf scope) p tg = true) (hpi : ptIn own p = true)
    (hT : ∀ {X' : Cx}, X'.K = X.K → Gd T N R X' (relS scope sc) (fbOf scope) Cg → PTs X' [] (tCx X.K Cg (evC R .nil)))
    (hE : ∀ {X' : Cx}, X'.K = X.K → Gd T N R X' (relS scope sc) (fbOf scope) Cg → ∀ B : Bs Cg, PE X' elt (tE X.K B (evE R e)))
    (hset : ∀ x, foldedSetIterable iter X.env x = pure x) :
    PE X (.ListComp elt [⟨tg, iter, [], 0⟩] scope pos) (tN X.K B (nwV R own uses p it e)) := by
  have base := pe_lc (own := own.map fun i => (N.getD i ⟨#[]⟩, i)) (pos := pos) g.calm (by rw [g.hN]; exact g.nd) (hI B) (by rw [g.hN, g.hsc]; exact blkOk_by ok) (g := tP X.K Cg (fun d env => asgP env p d) own) (fun s H C cl fp => pg_p (g.blk s H scope C cl fp) hpt hpi)
    (fun s H C cl fp => hT (X' := X.blk s H scope (compEnvC scope cl C X.env) fp) rfl (g.blk s H scope C cl fp)) (fun s H C cl fp => (⟨fun pins s' σ H' Q I ⟨B', q⟩ => (hE (X' := X.blk s H scope (compEnvC scope cl C X.env) fp) rfl (g.blk s H scope C cl fp) B').run pins s' σ H' Q I q⟩ : PE (X.blk s H scope (compEnvC scope cl C X.env) fp) elt (tEx X.K Cg (evE R e)))) hset
  rw [own_map] at base
  exact base.imp fun σ H Q h => nw_read g h
theorem ps_setNw' (g : Gd T N R X sc fb Cg) {i : Nat} {y : Str} {py : Pos} {own uses : List Nat} {p : Pt} {it : Itx} {e : Ex} {elt iter : Expr} {scope : Scope} {pos spos : Pos}
    (h1 : N[i]? = some y) (h2 : justLoc sc y = true) (hsw : swapsWith (.ListComp elt [⟨tg, iter, [], 0⟩] scope pos) (some (.Name y py)) spos.line X.env = pure true)
    (hI : ∀ B : Bs Cg, PI X tg iter (tI X.K B (evI R it))) (ok : blkC N sc scope (own.map fun i => (N.getD i ⟨#[]⟩, i)) = true) (hpt : ptOk N (relS scope sc) (fbOf scope) p tg = true) (hpi : ptIn own p = true)
    (hT : ∀ {X' : Cx}, X'.K = X.K → Gd T N R X' (relS scope sc) (fbOf scope) Cg → PTs X' [] (tCx X.K Cg (evC R .nil)))
    (hE : ∀ {X' : Cx}, X'.K = X.K → Gd T N R X' (relS scope sc) (fbOf scope) Cg → ∀ B : Bs Cg, PE X' elt (tE X.K B (evE R e)))
    (hset : ∀ x, foldedSetIterable iter X.env x = pure x) :
    PS X (.Assign [.Name y py] (.ListComp elt [⟨tg, iter, [], 0⟩] scope pos) spos) (tAsg (tN X.K B (nwV R own uses p it e)) (gName i)) := by
  have base := ps_setLc (i := i) (y := y) (py := py) (own := own.map fun i => (N.getD i ⟨#[]⟩, i)) (pos := pos) (spos := spos) g.calm (by rw [g.hN]; exact g.nd) (by rw [g.hN]; exact h1) (just_of g h2) hsw (hI B) (by rw [g.hN, g.hsc]; exact blkOk_by ok) (g := tP X.K Cg (fun d env => asgP env p d) own) (fun s H C cl fp => pg_p (g.blk s H scope C cl fp) hpt hpi)
    (fun s H C cl fp => hT (X' := X.blk s H scope (compEnvC scope cl C X.env) fp) rfl (g.blk s H scope C cl fp)) (fun s H C cl fp => (⟨fun pins s' σ H' Q I ⟨B', q⟩ => (hE (X' := X.blk s H scope (compEnvC scope cl C X.env) fp) rfl (g.blk s H scope C cl fp) B').run pins s' σ H' Q I q⟩ : PE (X.blk s H scope (compEnvC scope cl C X.env) fp) elt (tEx X.K Cg (evE R e)))) hset
  rw [own_map] at base
  exact ⟨fun pins s σ H D I h => base.run pins s σ H D I (nw_read g h)⟩
theorem nw_store {σ : L2.St} {H : Hp} {Q : L2.St → Hp → Prop} {B1 : Bs Cg} {F : Hp} {env : En} {ls : List D} {v : V} {i : Nat} (s : SR X.K B1 F H σ env) (hi : i < env.length) (o : ∃ p, v = .ref p ∧ NwOk X.K B1 F p ls)
    (q : SR X.K B1 F H (σ.set i (some v)) (env.set i (.nw ls)) → Q (σ.set i (some v)) H) : gName i v σ H Q := by
  obtain ⟨p, rfl, o⟩ := o
  have hl : i < σ.length := by rw [← s.len]; exact hi
  exact q (s.storeS hi ⟨p, by rw [getσ, if_pos rfl, if_pos hl], o⟩ fun d z => nomatch z)
end

/-! ### shared from now on -/
theorem RpL.of_get {K : PySem.W.Frag} {F : Hp} : ∀ {vs : List V} {ds : List D}, vs.length = ds.length → (∀ (k : Nat) (v : V), vs[k]? = some v → ∃ d, ds[k]? = some d ∧ Rp K F v d) → RpL K F vs ds
  | [], [], _, _ => .nil
  | v :: vs, d :: ds, hl, h => by
    obtain ⟨d', e, r⟩ := h 0 v rfl
    cases e
    exact .cons r (RpL.of_get (by simpa using hl) fun k v hk => h (k + 1) v (by simpa using hk))
  | [], _ :: _, hl, _ => by simp at hl
  | _ :: _, [], hl, _ => by simp at hl
def Bs.minus {C : Cfg} (B : Bs C) (ps : List Addr) (h : ∀ q ∈ ps, B.b0 q = none) : Bs C := .of (fun b => if b ∈ ps then none else B.h b) B.b0 (fun b o e => by
  have : b ∉ ps := fun m => by rw [h b m] at e; cases e
  simp only [this, if_false]
  exact B.le b o e)
theorem SR.unN {K : PySem.W.Frag} {C : Cfg} {B : Bs C} {F H : Hp} {σ : L2.St} {env : En} (s : SR K B F H σ env) {i : Nat} {ls : List D} (hi : env[i]? = some (.nw ls)) (hl : lone i env = true) :
    ∃ (B' : Bs C) (F' : Hp), B'.b0 = B.b0 ∧ Same F F' ∧ SR K B' F' H σ (env.set i (.sh (.lst ls))) := by
  obtain ⟨p, hp, qs, h1, h2, h3, h4, h5⟩ := s.slot i _ hi
  have h0 : ∀ q ∈ p :: qs, B.b0 q = none ∧ ∃ xs, B q = some (.lst xs) := fun q m => by
    rcases List.mem_cons.mp m with rfl | m
    · exact ⟨h2, _, h1⟩
    · obtain ⟨k, hk⟩ := List.getElem?_of_mem m
      obtain ⟨a, ds, xs, _, b, _⟩ := h5 k q hk
      exact ⟨a, xs, b⟩
  have hF : ∀ q ∈ p :: qs, F q = none := fun q m => by
    obtain ⟨_, xs, b⟩ := h0 q m
    exact s.dis q _ b
  let F' : Hp := fun b => if b ∈ p :: qs then H b else F b
  have hin : ∀ q ∈ p :: qs, F' q = H q := fun q m => if_pos m
  have hout : ∀ q, q ∉ p :: qs → F' q = F q := fun q m => if_neg m
  have sF : Same F F' := fun b o e => by
    have : b ∉ p :: qs := fun m => by rw [hF b m] at e; cases e
    rw [hout b this]; exact e
  have sH : Same F' H := fun b o e => by
    by_cases m : b ∈ p :: qs
    · rw [hin b m] at e; exact e
    · rw [hout b m] at e; exact s.frz b o e
  have Bin : ∀ q ∈ p :: qs, (B.minus (p :: qs) fun q m => (h0 q m).1).h q = none := fun q m => if_pos m
  have Bout : ∀ q, q ∉ p :: qs → (B.minus (p :: qs) fun q m => (h0 q m).1).h q = B.h q := fun q m => if_neg m
  have rp : Rp K F' (.ref p) (.lst ls) := by
    refine .lst (xs := qs.map V.ref) (by rw [hin p (List.mem_cons_self ..)]; exact s.bas _ _ h1) (RpL.of_get (by simpa using h4) fun k v hk => ?_)
    rw [List.getElem?_map] at hk
    obtain ⟨q, hq, rfl⟩ := Option.map_eq_some_iff.mp hk
    obtain ⟨_, ds, xs, e1, e2, e3⟩ := h5 k q hq
    exact ⟨_, e1, .lst (by rw [hin q (List.mem_cons_of_mem _ (List.mem_of_getElem? hq))]; exact s.bas _ _ e2) (e3.mono sF)⟩
  have ow : ∀ {j : Nat} {a : D}, (env.set i (.sh (.lst ls)))[j]? = some (Sl.ow a) → env[j]? = some (Sl.ow a) := fun {j a} h => by
    rw [get_set] at h
    split at h
    · split at h
      · cases h
      · cases h
    · exact h
  refine ⟨B.minus (p :: qs) fun q m => (h0 q m).1, F', rfl, sF, ⟨by simpa using s.len, fun b o e => ?_, sH, fun b o e => ?_, fun j sl h => ?_, fun j j' a c r e1 e2 e3 e4 => s.inj j j' a c r (ow e1) (ow e2) e3 e4, fun b o e => ?_, fun b o e => ?_, s.tab⟩⟩
  · by_cases m : b ∈ p :: qs
    · rw [Bin b m] at e; cases e
    · rw [Bout b m] at e; exact s.bas b o e
  · by_cases m : b ∈ p :: qs
    · rw [show (B.minus (p :: qs) fun q m => (h0 q m).1).h b = none from Bin b m] at e; cases e
    · rw [show (B.minus (p :: qs) fun q m => (h0 q m).1).h b = B.h b from Bout b m] at e
      rw [hout b m]; exact s.dis b o e
  · rw [get_set] at h
    split at h
    · rename_i z; subst z
      split at h
      · simp only [Option.some.injEq] at h
        subst h
        exact ⟨_, hp, rp⟩
      · cases h
    · rename_i z
      cases sl with
      | u => trivial
      | sh d => obtain ⟨v, e, r⟩ := s.sh h; exact ⟨v, e, r.mono sF⟩
      | nw l => exact absurd (lone_ne hl h).symm z
      | ow a =>
        obtain ⟨p', e', o, f, b, pk⟩ := s.ownAt h
        have m : p' ∉ p :: qs := fun m => by
          obtain ⟨_, xs, z⟩ := h0 p' m
          rw [b] at z; cases z
        exact ⟨p', e', o.mono sF rfl, by rw [hout p' m]; exact f, by rw [show (B.minus (p :: qs) fun q m => (h0 q m).1).h p' = B.h p' from Bout p' m]; exact b, pk⟩
  · by_cases m : b ∈ p :: qs
    · rw [Bin b m] at e; cases e
    · rw [Bout b m] at e; exact s.nb b o e
  · by_cases m : b ∈ p :: qs
    · obtain ⟨_, xs, z⟩ := h0 b m
      rw [hin b m, s.bas _ _ z] at e
      cases e; rfl
    · rw [hout b m] at e; exact s.nf b o e

/-! ### rows[a][b] = e -/
section
variable {T : Tb} {N : List Str} {R : Run} {X : Cx} {sc : Scope} {fb : Str → Bool} {Cg : Cfg} {B : Bs Cg}
theorem put2_run (g : Gd T N R X sc fb Cg) {i : Nat} {a b e : Ex} {x : Str} {px p1 p2 spos : Pos} {ea eb value : Expr} (h1 : N[i]? = some x) (h2 : visB sc x = true) (h3 : nameOk x = true) (hsa : noSlice ea = true)
    (ha : ∀ B : Bs Cg, PE X ea (tE X.K B (evE R a))) (hb : ∀ B : Bs Cg, PE X eb (tE X.K B (evE R b))) (he : ∀ B : Bs Cg, PE X value (tE X.K B (evE R e))) {pins : List (Addr × Obj)} {s : Shared} {σ : L2.St} {H : Hp} {D : Ends} (I : Inv X pins σ H s)
    {F : Hp} {env env' : En} (sr : SR X.K B F H σ env) (ev : put2V R i a b e env = some env') (q : ∀ (B' : Bs Cg) F' H', B'.b0 = B.b0 → SR X.K B' F' H' σ env' → Same F F' → D.nx σ H')
    (hsw : swapsWith value (some (.Subscript (.Subscript (.Name x px) ea p1) eb p2)) spos.line X.env = pure false) :
    wpAny (model X.prog X.w) X.A (exec (.Assign [.Subscript (.Subscript (.Name x px) ea p1) eb p2] value spos) X.env) (SP X pins D) X.xe s := by
  simp only [put2V, Option.bind_eq_some_iff] at ev
  obtain ⟨⟨r0, env0⟩, e0, ev⟩ := ev
  dsimp only at ev
  split at ev
  · rename_i d l0' hl0'
    simp only [Option.bind_eq_some_iff] at ev
    obtain ⟨⟨r1, env1⟩, e1, ev⟩ := ev
    dsimp only at ev
    split at ev
    · rename_i xi l1 hl1
      simp only [Option.bind_eq_some_iff] at ev
      obtain ⟨l0, hl0, ⟨r2, env2⟩, e2, ev⟩ := ev
      dsimp only at ev
      split at ev
      · rename_i yi
        have pvx : PE X (.Name x px) (tVar i) := pe_var (i := i) (by rw [g.hN]; exact h1) (vis_of g h2) (dbg_of h3).1 (dbg_of h3).2
        refine wpAny_Assign_Subscript (thn ((he B).run pins s σ H (fun w H1 => ∃ F1, SR X.K B F1 H1 σ env0 ∧ Ext F F1 ∧ Rp X.K F1 w d) I ⟨F, env, _, _, sr, e0, fun v F1 H1 s1 x1 o1 => ⟨F1, s1, x1, o1⟩⟩) fun r s1 ⟨w, H1, I1, rw1, F1, s1', x1, rp⟩ =>
          thn ((pe_ix ix_list pvx (ha B) (ix_of hsa)).run pins s1 σ H1 (fun v H2 => ∃ (F2 : Hp) (p : Addr) (qs : List Addr) (q : Addr), SR X.K B F2 H2 σ env1 ∧ Ext F1 F2 ∧ σ[i]? = some (some (V.ref p)) ∧ B p = some (.lst (qs.map V.ref)) ∧ atI (qs.map V.ref) xi = some (V.ref q) ∧ v = V.ref q) I1 ?_) fun u s2 ⟨xv, H2, I2, rx, F2, p, qs, q0, s2', x2, hp, hB, hq, ex⟩ =>
          thn ((hb B).run pins s2 σ H2 (fun v H3 => ∃ F3, SR X.K B F3 H3 σ env2 ∧ Ext F2 F3 ∧ v = V.int yi) I2 ⟨F2, env1, _, _, s2', e2, fun v F3 H3 s3 x3 o3 => ⟨F3, s3, x3, by cases o3; rfl⟩⟩) fun iv s3 ⟨y, H3, I3, ry, F3, s3', x3, ey⟩ => ?_) hsw
        · -- rows[a]
          obtain ⟨p, hp, no0⟩ := s1'.slot i _ hl0'
          refine ⟨_, hp, F1, env0, _, _, s1', e1, fun v F2 H2 s2 x2 o2 => ?_⟩
          cases o2
          obtain ⟨p', hp', no⟩ := s2.slot i _ hl1
          rw [hp] at hp'; cases hp'
          obtain ⟨qs, q0, ds', xs, k, b1, b2, b3, e5, r5, _⟩ := no.at hl0
          exact ⟨p, qs.map V.ref, xi, .ref q0, rfl, rfl, .inl (.inl (s2.bas _ _ b1)), b2, F2, p, qs, q0, s2, x2, hp, b1, b2, rfl⟩
        · subst ex ey
          cases rx
          obtain ⟨p', q', qs', xs, m, hp', hB', hH', hq', hHq, hm, B', hb0, s4⟩ := s3'.set2 ev (rp.mono (x2.trans x3).ff)
          rw [hp] at hp'; cases hp'
          rw [hB] at hB'
          have : qs.map V.ref = qs'.map V.ref := by injection hB' with z; injection z
          rw [← this, hq] at hq'
          cases hq'
          refine thn (set_list pins s3 σ H3 (.ref q0) (.int yi) w _ iv r (fun H' => SR X.K B' F3 H' σ env') I3 rfl ry rw1 ⟨q0, xs, yi, m, rfl, rfl, hHq, hm, s4⟩) fun _ s5 ⟨H4, I4, s5'⟩ => ⟨σ, H4, I4, q B' F3 H4 hb0 s5' (x1.trans (x2.trans x3)).ff⟩
      · cases ev
    · cases ev
  · cases ev
end
end Ts

set_option linter.all false
set_option autoImplicit false
set_option maxRecDepth 100000
set_option maxHeartbeats 4000000
/-! __init__ of an own exception: super().__init__(what), then its fields. -/
namespace Ts
open PySem PySem.Spec PyProof.Rows L2

/-- an exception's object -/
abbrev xO (C t : Addr) (d : Option Addr) : Obj := { cls := .ref C, dict := d, data := .fields #[.ref t, .none, .none, .none, .bool false, .none] }
/-- self.f = e at the end of a row -/
abbrev stF (self f y : Str) (p1 p2 p3 p4 : Pos) : Stmt := .Assign [.Attribute (.Name self p1) f p2] (.Name y p3) p4
abbrev suF (y : Str) (p0 p1 p2 p3 p4 p5 : Pos) : Stmt := .Expr (.Call (.Attribute (.Call (.Name "super" p0) [] [] p1) "__init__" p2) [.Name y p3] [] p4) p5
/-- what the written part says of the class' __init__ -/
structure XiK (prog : Program) (K : PySem.W.Frag) (mg : Str → Option Value) (C fI : Addr) (ps : List Str) (fd : FuncData) (scope : Scope) (body : List Stmt) (cdv : Value) (cc : Addr) : Prop where
  oex : OexC K C
  ex : ∃ (qual : Str) (params : Arguments) (dV kV doc pm ct oc ccl cl : Value) (an od cdd cld : Option Addr) (osl ccs csl : Array (Option Value)) (cda : Addr) (vs : Array Value) (file : Str) (tf : Tok) (cdD : ClassData) (ar : Arg),
    fd = PySem.W.ksFn "__init__" qual params body scope dV kV doc pm an cdv ct cc ∧ K.lookup fI = some ⟨oc, od, .func fd, osl⟩ ∧ cdv = .ref cda ∧ PySem.W.codeIn K cdv qual = true ∧
    (params.posonlyargs ++ params.args).head? = some ar ∧ ps[0]? = some ar.arg ∧ K.lookup cda = some ⟨ccl, cdd, .fields vs, ccs⟩ ∧ vs[2]? = some (.str file tf) ∧ ((prog.main.file : Str) == file) = true ∧
    K.lookup cc = some ⟨cl, cld, .cell (some (.ref C)), csl⟩ ∧ PySem.W.clsIn K C = some cdD ∧ PySem.W.mroIn K C (.ref C) = some true
  sup : mg "super" = none
  hks : scope.names.lookup ("super" : Str) = some .globalImplicit
  hkc : scope.names.lookup ("__class__" : Str) = some .free
  hk : scope.kind = .function
  co : scope.isCoroutine = false
  gen : scope.isGenerator = false
  ncell : ∀ x ∈ scope.names, x.2 ≠ .cell
  ploc : ∀ p ∈ ps, scope.names.lookup p = some .local
  pnd : ps.Nodup
  htop : (prog.main.scope.names.lookup ("super" : Str)).isSome = false
  ho : PySem.W.nsIn K cStatics "thirdparty.any" = some none
  hm : PySem.W.ks_superIn K C C "__init__" = some (some (.builtin "ValueError.__init__"))
  hB : PySem.W.subIn K (.ref C) (.type "ValueError") = some true

section
variable {prog : Program} {w : World} {K : PySem.W.Frag} {mg : Str → Option Value} {base : Heap} {C fI cc : Addr} {ps : List Str} {fd : FuncData} {scope : Scope} {body : List Stmt} {cdv : Value} {A : Around} {E : Value → Shared → Prop}

/-- self.f = v at an exception, in a frame -/
theorem xi_store (T : OexC K C) {h : Heap} {g : Array GenState} {d : Drawn} {t : Nat} {os : OsState} {a t1 : Addr} {dx : Option Addr} {m0 : Str → Option Value} {nl : List Str} {f : Str} {u : Value} {Q : Unit → Shared → Prop} (X : K.In h) (hx : h.get? a = some (xO C t1 dx)) (hd : match dx with | none => m0 = fun _ => none | some dd => h.Ns1 dd m0 ∧ Within m0 nl ∧ nl.length ≤ 1000)
    (hno : PySem.W.findIn K (.ref C) f = some none)
    (q : ∀ h' t' dd, (∀ b o, b ≠ a → dx ≠ some b → h.get? b = some o → h'.get? b = some o) → (dx = none → h.objs.size ≤ dd ∧ dd ≠ a) → (∀ e, dx = some e → dd = e) → h'.get? a = some (xO C t1 (some dd)) → h'.Ns1 dd (fun y => if y = f then some u else m0 y) → Q () ⟨h', g, d, t', os⟩) :
    wpAny (model prog w) A (setAttr (.ref a) f u) Q E ⟨h, g, d, t, os⟩ := by
  obtain ⟨nm, qn, N, bs, bm, sn, sub, ab, col, dd0, k0, k1, k2, k3, k5, hC, hbm⟩ := T.cls
  have hcl : PySem.W.clsIn K C = some { name := nm, bases := bs, mro := .ref C :: bm, ns := N, qualname := qn, hasDict := true, slotNames := sn, subclasses := sub, abstract := ab, collection := col, hasDel := false } := by unfold PySem.W.clsIn; rw [hC] <;> rfl
  cases dx with
  | none =>
    subst hd
    refine PySem.W.set_plain X (ox := xO C t1 none) (od := none) ⟨hx, rfl, rfl, trivial⟩ T.sa ?_
    refine PySem.HandSPX.exc_osa X hx hcl (show PySem.HandSPX.refsVE (.ref C :: bm) = true from hbm) rfl hno (fun h' tk' dx k dn dne hx' hn => ?_)
    exact q h' tk' dx (fun b o hb _ e => k b o hb e) (fun _ => ⟨dn, dne⟩) (fun e z => nomatch z) hx' hn
  | some dd =>
    obtain ⟨hns, hw, hl⟩ := hd
    obtain ⟨oD, _, _, hoD, _, _⟩ := hns.count hw
    refine PySem.W.set_plain X (ox := xO C t1 (some dd)) (od := some oD) ⟨hx, rfl, rfl, hoD⟩ T.sa ?_
    refine PySem.OEX.osa_old X hx hns hw hl hcl (show PySem.HandSPX.refsVE (.ref C :: bm) = true from hbm) rfl hno (fun h' tk' k hn => ?_)
    have hne : a ≠ dd := fun z => by
      obtain ⟨o, _, _, e, e2, _⟩ := hns
      rw [← z, hx] at e
      cases e
      cases e2
    exact q h' tk' dd (fun b o _ hb e => k b o (fun z => hb (by rw [z])) e) (fun z => nomatch z) (fun e z => by cases z; rfl) (k a _ hne hx) hn

/-- super().__init__(y) in its frame -/
theorem xi_super (Z : XiK prog K mg C fI ps fd scope body cdv cc) (md : Mod K mg base) {h : Heap} {g : Array GenState} {d : Drawn} {t : Nat} {os : OsState} {L a t1 : Addr} {m : Str → Option Value} {y self : Str} {u : Value} {p0 p1 p2 p3 p4 p5 : Pos} {qual : Str} {rest : List Stmt} {Q : Flow → Shared → Prop}
    (hb : ∀ b o, base.get? b = some o → h.get? b = some o) (X : K.In h) (hL : h.Ns L m) (hx : h.get? a = some (xO C t1 none)) (h0 : ps[0]? = some self) (hself : m self = some (.ref a)) (hy : m y = some u) (hyl : y ∈ ps) (haL : a ≠ L) (hybg : (y == ("__debug__" : Str)) = false)
    (hev : ∃ pl : Sem Bool, eval (.Call (.Attribute (.Call (.Name "super" p0) [] [] p1) "__init__" p2) [.Name y p3] [] p4) (PySem.W.ksEnv qual scope L fI cdv cc) = (do
      let ov ← attributeBase (.Call (.Name "super" p0) [] [] p1) "__init__" (PySem.W.ksEnv qual scope L fI cdv cc) (eval (.Call (.Name "super" p0) [] [] p1) (PySem.W.ksEnv qual scope L fI cdv cc))
      standAt p2.atName
      let (f, first) ← holding [ov] (getMethod ov "__init__" pl)
      callWith p4 f first (backTo p4 (starEach [.Name y p3] (PySem.W.ksEnv qual scope L fI cdv cc))) []))
    (q : ∀ h' t' t2, (∀ b o, b ≠ a → h.get? b = some o → h'.get? b = some o) → h'.get? a = some (xO C t2 none) → PySem.wpAt (model prog w) A (.func body (PySem.W.ksEnv qual scope L fI cdv cc)) (execs rest (PySem.W.ksEnv qual scope L fI cdv cc)) Q E ⟨h', g, d, t', os⟩) :
    PySem.wpAt (model prog w) A (.func body (PySem.W.ksEnv qual scope L fI cdv cc)) (execs (suF y p0 p1 p2 p3 p4 p5 :: rest) (PySem.W.ksEnv qual scope L fI cdv cc)) Q E ⟨h, g, d, t, os⟩ := by
  obtain ⟨qual', params, dV, kV, doc, pm, ct, oc, ccl, cl, an, od, cdd, cld, osl, ccs, csl, cda, vs, file, tf, cdD, ar, rfl, lkf, rfl, hcd, hp, hps, lkc, hvs, hfile, hcell, hD, hsub⟩ := Z.ex
  rw [h0] at hps
  simp only [Option.some.injEq] at hps
  subst hps
  obtain ⟨nm, qn, N, bs, bm, sn, sub, ab, col, dd0, k0, k1, k2, k3, k5, hC, hbm⟩ := Z.oex.cls
  obtain ⟨oD, hD1, hD2⟩ : ∃ oD, h.get? C = some oD ∧ oD.data = .cls cdD := by
    unfold PySem.W.clsIn at hD
    split at hD
    · rename_i c d cd' sl ho
      cases hD
      exact ⟨_, X _ _ ho, rfl⟩
    · cases hD
  have hka : scope.names.lookup ar.arg = some .local := Z.ploc _ (List.mem_of_getElem? h0)
  have hkb : scope.names.lookup y = some .local := Z.ploc _ hyl
  obtain ⟨mb, hmb, hbb⟩ := md.blt
  obtain ⟨pl, hev⟩ := hev
  refine PySem.ks_wpAt_execs_cons (PySem.ks_wpAt_Expr_any (PySem.ks_wpAt_MethodCall ?_ hev) (by unfold interactive; rw [show (PySem.W.ksEnv qual scope L fI (.ref cda) cc).scope.kind = .function from Z.hk]; rfl) (by rfl))
  refine PySem.ks_wpAt_super_base (env := PySem.W.ksEnv qual scope L fI (.ref cda) cc) Z.hks Z.hkc (by decide) rfl (X _ _ lkf) rfl hp rfl (X _ _ lkc) rfl hvs hfile Z.htop ?_
  refine PySem.W.ks_loadName_global Z.hk Z.hks (PySem.Calls.loadGlobal_builtin (env := PySem.W.ksEnv qual scope L fI (.ref cda) cc) (md.glob.keeps hb) Z.sup (hmb.keeps hb) ((hbb _ (by decide)).trans (by decide +kernel)) ⟨rfl, ?_⟩)
  refine wpAny_loadName_free Z.hk Z.hkc rfl ⟨_, X _ _ hcell, rfl⟩ ?_
  refine wpAny_loadName_local Z.hk hka hL hself ?_
  refine PySem.ks_wpAny_isType_cls hD1 hD2 ⟨rfl, ?_⟩
  refine PySem.ks_wpAny_call_super hD1 hD2 hx rfl (fun c e => nomatch e) (PySem.W.looks_mroIn X hsub) (fun h' e k => ?_)
  have X' : K.In h' := X.keeps k
  have hx' := k _ _ hx
  have I : PySem.W.InstAt h' a (xO C t1 none) C none := ⟨hx', rfl, rfl, trivial⟩
  have hmm := Z.hm
  unfold PySem.W.ks_superIn at hmm
  rw [hD] at hmm
  refine PySem.W.kxs_getMethod PySem.W.kxs_ValueError e (PySem.W.looks_opaque X' Z.ho) (l₀ := cdD.mro) ?_ rfl X' hmm (I.type.andThen (PySem.W.looks_subIn X' Z.hB)) (PySem.W.ks_ne X' I hD) (by decide) ?_
  · exact fun A Q E s k q => wpAny_bind ((PySem.W.looks_clsIn X' hD) A _ E s k (wpAny_pure q))
  have hu : (h'.push (PySem.W.kxs_mw "ValueError.__init__" a)).get? h'.objs.size = some (PySem.W.kxs_mw "ValueError.__init__" a) := Heap.get?_push_at rfl rfl
  have k2 : ∀ b o, h'.get? b = some o → (h'.push (PySem.W.kxs_mw "ValueError.__init__" a)).get? b = some o := fun b o e => Heap.get?_push_of_some _ e
  have hx2 := k2 _ _ hx'
  have hL2 : (h'.push (PySem.W.kxs_mw "ValueError.__init__" a)).Ns L m := hL.keeps fun b o e => k2 b o (k b o e)
  show wpAny _ _ (callWith p4 (.ref h'.objs.size) [] (backTo p4 (starEach [.Name y p3] _)) []) _ _ _
  refine PySem.W.kxs_callWith (i := "ValueError.__init__") (x := a) (by rfl) (PySem.Calls.evalArgs_plain (PySem.Calls.spliced_cons (wpAny_Name (wpAny_loadName_local Z.hk hkb hL2 hy ?_) hybg)))
  refine PySem.Calls.spliced_nil ⟨hu, ?_⟩
  refine wpAny_call (codeAny_of_tree ?_)
  show wpAny _ A.in1 (callAny (.ref h'.objs.size) ⟨[u], []⟩) _ _ _
  simp only [callAny]
  refine wpAny_bind (wpAny_load hu ?_)
  simp only [PySem.W.kxs_mw, show (Value.type "method-wrapper" == Value.type "method" || Value.type "method-wrapper" == Value.type "builtin_function_or_method" || Value.type "method-wrapper" == Value.type "method-wrapper") = true by decide, if_true]
  refine PySem.W.KFB.if_so (by decide) ?_
  refine wpAny_bind (PySem.W.check_bound_init F.excBase_ValueError.toExcCallFacts ((X'.keeps k2) _ _ hC) hx2 rfl ?_)
  refine wpAny_bind (wpAny_pure (wpAny_pure ?_))
  refine ⟨plainId_quiet F.excBase_ValueError.init.plain _, codeAny_builtin F.excBase_ValueError.initEntry ?_⟩
  refine PySem.W.exc_init_tree (cls := .ref C) (t0 := t1) (dv := none) (c2 := .none) (c3 := .none) (b4 := .bool false) hx2 (by show 1 ≤ sizeLine; rw [sizeLine_eq]; omega) (fun h3 k3 e3 _ => ?_)
  exact q h3 _ _ (fun b o hb e => k3 b o hb (k2 b o (k b o e))) e3

/-- the heap behind __init__: all but the exception stands, the dict is new -/
theorem xi_end {outer : List Env} {s : Shared} {H : Hp} {h' : Heap} {a dd t1 : Addr} {fs : List (Str × V)} {mA : Str → Option Value} {Q : VK} {g : Array GenState} {dr : Drawn} {t : Nat} {os : OsState} (hok : HOk prog w H s.heap) (hH : H a = some (exo a C none)) (k : ∀ b o, b ≠ a → s.heap.get? b = some o → h'.get? b = some o) (hdn : s.heap.objs.size ≤ dd) (hda : dd ≠ a) (hx : h'.get? a = some (xO C t1 (some dd))) (hns : h'.Ns1 dd mA) (r : ∀ f, RelO (fs.lookup f) (mA f))
    (ho : os = s.os) (hg : AllBare g) (q : H dd = none → Q .non (upd (upd H dd (exd dd fs)) a (exo a C (some dd)))) : CE outer prog w H s Q .none ⟨h', g, dr, t, os⟩ := by
  have hd0 : H dd = none := hok.fresh hdn
  have na : ∀ {b : Addr}, H b = none → b ≠ a := fun {b} n z => by rw [z, hH] at n; cases n
  have nd : ∀ {b : Addr} {o : Obj}, s.heap.get? b = some o → b ≠ dd := fun {b o} q => Nat.ne_of_lt (Nat.lt_of_lt_of_le (Heap.lt_size q) hdn)
  refine ⟨.non, _, ho, hg, ⟨fun b o e n _ _ => k b o (na n) e, fun b o e n _ _ => ⟨o.slots, k b o (na n) e⟩, fun b o e n _ => by rw [upd_ne (na n), upd_ne (nd e)]; exact n, fun b o e _ => ?_, fun b xs e => by rw [upd_ne (at_ne hH e exo_tup), upd_ne (ne_of_none e hd0)]; exact e,
    fun b o v e => by rw [upd_ne (at_ne hH e exo_frz), upd_ne (ne_of_none e hd0)]; exact e, fun b ps e => ⟨#[], by rw [upd_ne (at_ne hH e exo_tbl), upd_ne (ne_of_none e hd0), e]; simp⟩⟩, fun b o e => ?_, rfl, q hd0⟩
  · by_cases hb : b = a
    · exact ⟨_, by rw [hb]; exact hx⟩
    · exact ⟨o, k b o hb e⟩
  · by_cases hb : b = a
    · subst hb
      rw [upd_same] at e
      cases e
      exact exo_ok hx
    · rw [upd_ne hb] at e
      by_cases hd : b = dd
      · subst hd
        rw [upd_same] at e
        cases e
        exact exd_ok hns r
      · rw [upd_ne hd] at e
        exact (hok b o e).stay (fun c v hc z => k c v (by
            rcases hc with hc | hc
            · rw [hc]; exact hb
            · exact at_ne hH hc exo_own) z)
          (fun c hc => by rw [upd_ne (at_ne hH hc exo_own), upd_ne (ne_of_none hc hd0)]; exact hc) (fun c xs hc => by rw [upd_ne (at_ne hH hc exo_tup), upd_ne (ne_of_none hc hd0)]; exact hc)

/-- how the row super().__init__(y) is read -/
def EvSuper (fI cc : Addr) (scope : Scope) (cdv : Value) (y : Str) (p0 p1 p2 p3 p4 : Pos) : Prop := ∀ (qual : Str) (L : Addr), ∃ pl : Sem Bool, eval (.Call (.Attribute (.Call (.Name "super" p0) [] [] p1) "__init__" p2) [.Name y p3] [] p4) (PySem.W.ksEnv qual scope L fI cdv cc) = (do
      let ov ← attributeBase (.Call (.Name "super" p0) [] [] p1) "__init__" (PySem.W.ksEnv qual scope L fI cdv cc) (eval (.Call (.Name "super" p0) [] [] p1) (PySem.W.ksEnv qual scope L fI cdv cc))
      standAt p2.atName
      let (f, first) ← holding [ov] (getMethod ov "__init__" pl)
      callWith p4 f first (backTo p4 (starEach [.Name y p3] (PySem.W.ksEnv qual scope L fI cdv cc))) [])

/-- one field -/
theorem xi_ok1 {self y f : Str} {p0 p1 p2 p3 p4 p5 q1 q2 q3 q4 : Pos} (Z : XiK prog K mg C fI [self, y] fd scope [suF y p0 p1 p2 p3 p4 p5, stF self f y q1 q2 q3 q4] cdv cc)
    (hev : EvSuper fI cc scope cdv y p0 p1 p2 p3 p4) (hyb : (y == ("__debug__" : Str)) = false) (hsb : (self == ("__debug__" : Str)) = false) (hno : PySem.W.findIn K (.ref C) f = some none) : FnOk prog w K mg base CX0 1 fI fd [self, y] (spInit K C [f]) := by
  refine ⟨fun vs H Q E ⟨a, ys, e, hl, _⟩ => by subst e; simp only [List.length_cons, hl, List.length_nil], fun A outer s H args us vs Q E hr e0 hb r ⟨a, ys, e, hl, hH, q⟩ => ?_⟩
  subst e
  obtain ⟨v1, rfl⟩ : ∃ v1, ys = [v1] := by
    match ys, hl with
    | [v1], _ => exact ⟨v1, rfl⟩
  cases r with
  | @cons _ ua _ us' ra r1 =>
  obtain rfl : ua = Value.ref a := ra
  cases r1 with
  | @cons _ u1 _ us2 rv1 r2 =>
  cases r2
  have KX : K.In s.heap := e0.mod.kin.keeps fun b o e => (e0.bs b o e).1
  have lim : s.heap.NoLimit := e0.mod.nolimit.keeps fun b o e => (e0.bs b o e).1
  obtain ⟨t1, hoe⟩ := exo_at e0.hok hH
  obtain ⟨qual, params, dV, kV, doc, pm, ct, oc, ccl, cl, an, od, cdd, cld, osl, ccs, csl, cda, vs, file, tf, cdD, ar, hfd, lkf, hcdv, hcd, _⟩ := id Z.ex
  have hys : self ≠ y := by
    have := Z.pnd
    simp only [List.nodup_cons, List.mem_singleton] at this
    exact this.1
  rw [hfd] at hb lkf
  refine PySem.ks_codeAny_call_defAt (fd := PySem.W.ksFn "__init__" qual params _ scope dV kV doc pm an cdv ct cc) (body := [suF y p0 p1 p2 p3 p4 p5, stF self f y q1 q2 q3 q4]) (binds := [(self, .ref a), (y, u1)]) hr.depth (KX _ _ lkf) rfl lim (PySem.W.codeRec_of KX hcd) rfl hb Z.ncell
    (fun x hx => by
      simp only [List.mem_cons, List.not_mem_nil, or_false] at hx
      rcases hx with rfl | rfl
      · exact Z.ploc _ (by simp)
      · exact Z.ploc _ (by simp)) (fun h₀ hns hk => ?_) Z.co Z.gen Z.hk
  have m1 : ([(self, Value.ref a), (y, u1)].reverse.lookup self) = some (.ref a) := by
    simp only [List.reverse_cons, List.reverse_nil, List.nil_append, List.cons_append, List.lookup]
    rw [show (self == y) = false from by simpa using hys, show (self == self) = true from by simp]
  have m2 : ([(self, Value.ref a), (y, u1)].reverse.lookup y) = some u1 := by
    simp only [List.reverse_cons, List.reverse_nil, List.nil_append, List.cons_append, List.lookup]
    rw [show (y == y) = true from by simp]
  have haL : a ≠ s.heap.objs.size := Nat.ne_of_lt (Heap.lt_size hoe)
  refine xi_super (base := base) (mg := mg) (qual := qual) Z e0.mod (fun b o e => hk b o (e0.bs b o e).1) (KX.keeps hk) hns (hk _ _ hoe) rfl m1 m2 (by simp) haL hyb (hev qual _) (fun h1 t' t2 k1 hx1 => ?_)
  have hns1 : h1.Ns s.heap.objs.size (fun x => [(self, Value.ref a), (y, u1)].reverse.lookup x) := by
    obtain ⟨oL, es, ep, hL, r⟩ := hns
    exact ⟨oL, es, ep, k1 _ _ (Ne.symm haL) hL, r⟩
  have l1 : scope.names.lookup self = some .local := Z.ploc _ (by simp)
  have l2 : scope.names.lookup y = some .local := Z.ploc _ (by simp)
  refine PySem.ks_wpAt_execs_cons (PySem.ks_wpAt_Assign_Attr (wpAt_of_wpAny ?_) (by rfl))
  refine wpAny_Name ?_ hyb
  refine wpAny_loadName_local (m := fun x => [(self, Value.ref a), (y, u1)].reverse.lookup x) (env := PySem.W.ksEnv qual scope s.heap.objs.size fI cdv cc) Z.hk l2 hns1 m2 ?_
  refine wpAny_Name ?_ hsb
  refine wpAny_loadName_local (m := fun x => [(self, Value.ref a), (y, u1)].reverse.lookup x) (env := PySem.W.ksEnv qual scope s.heap.objs.size fI cdv cc) Z.hk l1 hns1 m1 ?_
  have X1 : K.In h1 := fun b o e => by
    by_cases hb : b = a
    · exfalso
      rw [hb] at e
      have := (e0.bs _ _ (e0.mod.kin _ _ e)).2
      rw [hH] at this
      cases this
    · exact k1 b o hb (hk _ _ (KX _ _ e))
  refine xi_store (nl := []) Z.oex X1 hx1 rfl hno fun h2 t3 dd k2 hn2 _ hx2 hns2 => ?_
  obtain ⟨hdn, hda⟩ := hn2 rfl
  have hlt : s.heap.objs.size ≤ dd := by
    obtain ⟨oL, _, _, hL, _⟩ := hns1
    exact Nat.le_of_lt (Nat.lt_of_lt_of_le (Heap.lt_size hL) hdn)
  refine wpAt_of_wpAny (wpAny_execs_nil ?_)
  exact xi_end (fs := [(f, v1)]) e0.hok hH (fun b o hb e => k2 b o hb (fun z => nomatch z) (k1 b o hb (hk _ _ e))) hlt hda hx2 hns2 (relO_put (fs := []) rv1 fun g => True.intro) rfl e0.bare (fun hd => q dd hd hda)
/-- two fields -/
theorem xi_ok2 {self y z f e : Str} {p0 p1 p2 p3 p4 p5 q1 q2 q3 q4 r1 r2 r3 r4 : Pos} (Z : XiK prog K mg C fI [self, y, z] fd scope [suF y p0 p1 p2 p3 p4 p5, stF self f y q1 q2 q3 q4, stF self e z r1 r2 r3 r4] cdv cc)
    (hev : EvSuper fI cc scope cdv y p0 p1 p2 p3 p4) (hyb : (y == ("__debug__" : Str)) = false) (hsb : (self == ("__debug__" : Str)) = false) (hzb : (z == ("__debug__" : Str)) = false) (hfe : (e == f) = false) (hno : PySem.W.findIn K (.ref C) f = some none) (hno2 : PySem.W.findIn K (.ref C) e = some none) : FnOk prog w K mg base CX0 1 fI fd [self, y, z] (spInit K C [f, e]) := by
  refine ⟨fun vs H Q E ⟨a, ys, e, hl, _⟩ => by subst e; simp only [List.length_cons, hl, List.length_nil], fun A outer s H args us vs Q E hr e0 hb r ⟨a, ys, e, hl, hH, q⟩ => ?_⟩
  subst e
  obtain ⟨v1, v2, rfl⟩ : ∃ v1 v2, ys = [v1, v2] := by
    match ys, hl with
    | [v1, v2], _ => exact ⟨v1, v2, rfl⟩
  cases r with
  | @cons _ ua _ us' ra r1 =>
  obtain rfl : ua = Value.ref a := ra
  cases r1 with
  | @cons _ u1 _ us2 rv1 r2' =>
  cases r2' with
  | @cons _ u2 _ us3 rv2 r3' =>
  cases r3'
  have KX : K.In s.heap := e0.mod.kin.keeps fun b o e => (e0.bs b o e).1
  have lim : s.heap.NoLimit := e0.mod.nolimit.keeps fun b o e => (e0.bs b o e).1
  obtain ⟨t1, hoe⟩ := exo_at e0.hok hH
  obtain ⟨qual, params, dV, kV, doc, pm, ct, oc, ccl, cl, an, od, cdd, cld, osl, ccs, csl, cda, vs, file, tf, cdD, ar, hfd, lkf, hcdv, hcd, _⟩ := id Z.ex
  obtain ⟨hys, hzs, hyz⟩ : self ≠ y ∧ self ≠ z ∧ y ≠ z := by
    have := Z.pnd
    simp only [List.nodup_cons, List.mem_cons, List.mem_singleton, List.not_mem_nil, or_false, not_or] at this
    exact ⟨this.1.1, this.1.2, this.2.1⟩
  rw [hfd] at hb lkf
  refine PySem.ks_codeAny_call_defAt (fd := PySem.W.ksFn "__init__" qual params _ scope dV kV doc pm an cdv ct cc) (body := [suF y p0 p1 p2 p3 p4 p5, stF self f y q1 q2 q3 q4, stF self e z r1 r2 r3 r4]) (binds := [(self, .ref a), (y, u1), (z, u2)]) hr.depth (KX _ _ lkf) rfl lim (PySem.W.codeRec_of KX hcd) rfl hb Z.ncell
    (fun x hx => by
      simp only [List.mem_cons, List.not_mem_nil, or_false] at hx
      rcases hx with rfl | rfl | rfl
      · exact Z.ploc _ (by simp)
      · exact Z.ploc _ (by simp)
      · exact Z.ploc _ (by simp)) (fun h₀ hns hk => ?_) Z.co Z.gen Z.hk
  have m1 : ([(self, Value.ref a), (y, u1), (z, u2)].reverse.lookup self) = some (.ref a) := by
    simp only [List.reverse_cons, List.reverse_nil, List.nil_append, List.cons_append, List.lookup]
    rw [show (self == z) = false from by simpa using hzs, show (self == y) = false from by simpa using hys, show (self == self) = true from by simp]
  have m2 : ([(self, Value.ref a), (y, u1), (z, u2)].reverse.lookup y) = some u1 := by
    simp only [List.reverse_cons, List.reverse_nil, List.nil_append, List.cons_append, List.lookup]
    rw [show (y == z) = false from by simpa using hyz, show (y == y) = true from by simp]
  have m3 : ([(self, Value.ref a), (y, u1), (z, u2)].reverse.lookup z) = some u2 := by
    simp only [List.reverse_cons, List.reverse_nil, List.nil_append, List.cons_append, List.lookup]
    rw [show (z == z) = true from by simp]
  have l3 : scope.names.lookup z = some .local := Z.ploc _ (by simp)
  have haL : a ≠ s.heap.objs.size := Nat.ne_of_lt (Heap.lt_size hoe)
  refine xi_super (base := base) (mg := mg) (qual := qual) Z e0.mod (fun b o e => hk b o (e0.bs b o e).1) (KX.keeps hk) hns (hk _ _ hoe) rfl m1 m2 (by simp) haL hyb (hev qual _) (fun h1 t' t2 k1 hx1 => ?_)
  have hns1 : h1.Ns s.heap.objs.size (fun x => [(self, Value.ref a), (y, u1), (z, u2)].reverse.lookup x) := by
    obtain ⟨oL, es, ep, hL, r⟩ := hns
    exact ⟨oL, es, ep, k1 _ _ (Ne.symm haL) hL, r⟩
  have l1 : scope.names.lookup self = some .local := Z.ploc _ (by simp)
  have l2 : scope.names.lookup y = some .local := Z.ploc _ (by simp)
  refine PySem.ks_wpAt_execs_cons (PySem.ks_wpAt_Assign_Attr (wpAt_of_wpAny ?_) (by rfl))
  refine wpAny_Name ?_ hyb
  refine wpAny_loadName_local (m := fun x => [(self, Value.ref a), (y, u1), (z, u2)].reverse.lookup x) (env := PySem.W.ksEnv qual scope s.heap.objs.size fI cdv cc) Z.hk l2 hns1 m2 ?_
  refine wpAny_Name ?_ hsb
  refine wpAny_loadName_local (m := fun x => [(self, Value.ref a), (y, u1), (z, u2)].reverse.lookup x) (env := PySem.W.ksEnv qual scope s.heap.objs.size fI cdv cc) Z.hk l1 hns1 m1 ?_
  have X1 : K.In h1 := fun b o e => by
    by_cases hb : b = a
    · exfalso
      rw [hb] at e
      have := (e0.bs _ _ (e0.mod.kin _ _ e)).2
      rw [hH] at this
      cases this
    · exact k1 b o hb (hk _ _ (KX _ _ e))
  refine xi_store (nl := []) Z.oex X1 hx1 rfl hno fun h2 t3 dd k2 hn2 _ hx2 hns2 => ?_
  obtain ⟨hdn, hda⟩ := hn2 rfl
  have hlt : s.heap.objs.size ≤ dd := by
    obtain ⟨oL, _, _, hL, _⟩ := hns1
    exact Nat.le_of_lt (Nat.lt_of_lt_of_le (Heap.lt_size hL) hdn)
  have hLd : s.heap.objs.size ≠ dd := fun z => by
    obtain ⟨oL, _, _, hL, _⟩ := hns1
    exact absurd (Nat.lt_of_lt_of_le (Heap.lt_size hL) hdn) (by rw [z]; exact Nat.lt_irrefl _)
  have hns2' : h2.Ns s.heap.objs.size (fun x => [(self, Value.ref a), (y, u1), (z, u2)].reverse.lookup x) := by
    obtain ⟨oL, es, ep, hL, r⟩ := hns1
    exact ⟨oL, es, ep, k2 _ _ (Ne.symm haL) (fun z => nomatch z) hL, r⟩
  have X2 : K.In h2 := fun b o e => by
    by_cases hb : b = a
    · exfalso
      rw [hb] at e
      have := (e0.bs _ _ (e0.mod.kin _ _ e)).2
      rw [hH] at this
      cases this
    · exact k2 b o hb (fun z => nomatch z) (X1 _ _ e)
  refine PySem.ks_wpAt_execs_cons (PySem.ks_wpAt_Assign_Attr (wpAt_of_wpAny ?_) (by rfl))
  refine wpAny_Name ?_ hzb
  refine wpAny_loadName_local (m := fun x => [(self, Value.ref a), (y, u1), (z, u2)].reverse.lookup x) (env := PySem.W.ksEnv qual scope s.heap.objs.size fI cdv cc) Z.hk l3 hns2' m3 ?_
  refine wpAny_Name ?_ hsb
  refine wpAny_loadName_local (m := fun x => [(self, Value.ref a), (y, u1), (z, u2)].reverse.lookup x) (env := PySem.W.ksEnv qual scope s.heap.objs.size fI cdv cc) Z.hk l1 hns2' m1 ?_
  refine xi_store (nl := [f]) Z.oex X2 hx2 ⟨hns2, fun x hx => by
    by_cases hxf : x = f
    · rw [hxf]; exact List.mem_singleton.mpr rfl
    · exact absurd (if_neg hxf) hx, by show 1 ≤ 1000; decide⟩ hno2 fun h3 t4 dd' k3 _ hd3 hx3 hns3 => ?_
  obtain rfl := hd3 _ rfl
  refine wpAt_of_wpAny (wpAny_execs_nil ?_)
  exact xi_end (fs := [(e, v2), (f, v1)]) e0.hok hH (fun b o hb e => k3 b o hb (fun z => by cases z; exact absurd (Heap.lt_size e) (Nat.not_lt.mpr hlt)) (k2 b o hb (fun z => nomatch z) (k1 b o hb (hk _ _ e)))) hlt hda hx3 hns3 (relO_put (fs := [(f, v1)]) rv2 (relO_put (fs := []) rv1 fun g => True.intro)) rfl e0.bare (fun hd => q _ hd hda)
end
end Ts

set_option linter.all false
set_option autoImplicit false
set_option maxRecDepth 100000
/-! The checker is sound: expressions, what is walked, tests. -/
namespace Ts
open PySem PySem.Spec PyProof.Rows L2
theorem base_of {o : Expr} (h : plainO o = true) (m : Str) (env : Env) (w : Sem Value) : attributeBase o m env w = w := by
  match o, h with
  | .Name _ _, _ => rfl
  | .Subscript _ _ _, _ => rfl
  | .Call (.Name _ _) (_ :: _) [] _, _ => rfl
theorem sI_set {T : Tb} {N : List Str} {sc : Scope} {fb : Str → Bool} (it : Itx) {tg e : Expr} (h : chkI T N it sc fb tg e = true) (env : Env) : ∀ x, foldedSetIterable e env x = pure x := by
  intro x
  cases e <;> first | rfl | skip
  cases it <;> simp [chkI] at h
/-! ### every expression -/
theorem plain_true {e : Expr} (h : match e with | .BoolOp _ _ _ => false | .UnaryOp .Not _ _ => false | .IfExp _ _ _ _ => false | .Compare _ _ _ _ => false | _ => true) (env : Env) : ∀ whole, isTrue e env whole = (do let v ← whole; standAt e.pos; holding [v] (truthy v)) := by
  intro whole
  cases e <;> first | rfl | (simp at h) | skip
  rename_i op _ _
  cases op <;> first | rfl | (simp at h)
theorem set_true {e : Expr} (h : (match e with | .Set _ _ _ => false | _ => true) = true) (env : Env) : ∀ x, foldedSetIterable e env x = pure x := by
  intro x
  cases e <;> first | rfl | (simp at h)
section
variable {T : Tb} {N : List Str} {R : Run} {Cg : Cfg}
theorem D.beq_eq : ∀ {c d : D}, scalar c = true → c.beq d = true → c = d := by
  intro c d h e
  cases c <;> simp [scalar] at h <;> cases d <;> simp [D.beq] at e
  · rfl
  · rw [e]
  · rw [e]
set_option maxHeartbeats 4000000 in
mutual
theorem sE : ∀ (x : Ex) {X : Cx} {sc : Scope} {fb : Str → Bool} {e : Expr} {B : Bs Cg}, Gd T N R X sc fb Cg → chkE T N x sc fb e = true → PE X e (tE X.K B (evE R x))
  | .var i, X, sc, fb, e, B, g, h => by
    cases e <;> simp only [chkE, Bool.and_eq_true, Bool.false_eq_true, decide_eq_true_eq] at h
    exact pe_var' g h.1.1 h.1.2 h.2
  | .int i, X, sc, fb, e, B, g, h => by
    cases e <;> first | (simp only [chkE, Bool.false_eq_true] at h; done) | skip
    rename_i v k p
    cases v <;> simp only [chkE, Bool.false_eq_true, decide_eq_true_eq] at h
    subst h
    exact pe_const _ _ pe_int (fun env => rfl) fun F => .int _
  | .str i, X, sc, fb, e, B, g, h => by
    cases e <;> first | (simp only [chkE, Bool.false_eq_true] at h; done) | skip
    rename_i v k p
    cases v <;> simp only [chkE, Bool.false_eq_true, decide_eq_true_eq] at h
    subst h
    exact pe_const _ _ pe_str (fun env => rfl) fun F => .str _
  | .bl i, X, sc, fb, e, B, g, h => by
    cases e <;> first | (simp only [chkE, Bool.false_eq_true] at h; done) | skip
    rename_i v k p
    cases v <;> simp only [chkE, Bool.false_eq_true, decide_eq_true_eq] at h
    subst h
    exact pe_const _ _ pe_bl (fun env => rfl) fun F => .bl _
  | .non, X, sc, fb, e, B, g, h => by
    cases e <;> first | (simp only [chkE, Bool.false_eq_true] at h; done) | skip
    rename_i v k p
    cases v <;> first | (simp only [chkE, Bool.false_eq_true] at h; done) | skip
    exact pe_const _ _ pe_non (fun env => rfl) fun F => .non
  | .gl x d, X, sc, fb, e, B, g, h => by
    cases e <;> simp only [chkE, Bool.and_eq_true, Bool.false_eq_true, decide_eq_true_eq] at h
    obtain ⟨⟨⟨rfl, h1⟩, h2⟩, h3⟩ := h
    split at h3
    · rename_i c hc
      obtain ⟨u, v, hu, rv, rp, hs⟩ := g.cons _ _ hc
      have := D.beq_eq hs h3
      subst this
      exact pe_const _ _ (pe_glob (gl_of g h1) hu rv (dbg_of h2).1) (fun env => rfl) rp
    · cases h3
  | .bin op a b, X, sc, fb, e, B, g, h => by
    cases e <;> simp only [chkE, Bool.and_eq_true, Bool.false_eq_true, decide_eq_true_eq] at h
    obtain ⟨⟨rfl, h1⟩, h2⟩ := h
    exact pe_bin' (fun B => sE a g h1) fun B => sE b g h2
  | .neg a, X, sc, fb, e, B, g, h => by
    cases e <;> first | (simp only [chkE, Bool.false_eq_true] at h; done) | skip
    rename_i op _ _
    cases op <;> first | (simp only [chkE, Bool.false_eq_true] at h; done) | skip
    exact pe_neg' fun B => sE a g h
  | .cmp op a b, X, sc, fb, e, B, g, h => by
    cases e <;> first | (simp only [chkE, Bool.false_eq_true] at h; done) | skip
    rename_i ea ops ebs pos
    match ops, ebs, h with
    | [op'], [eb], h =>
      simp only [chkE, Bool.and_eq_true, decide_eq_true_eq, Bool.not_eq_true'] at h
      obtain ⟨⟨⟨rfl, h0⟩, h1⟩, h2⟩ := h
      exact (pe_cmpR (op_cmpV (by have := g.un; omega) op) (sE a g h1) (sE b g h2) h0).imp fun σ H Q ⟨F, env, r, env', s, ev, q⟩ => cmp_read g s ev q
  | .cmp2 op op' a b c, X, sc, fb, e, B, g, h => by
    cases e <;> first | (simp only [chkE, Bool.false_eq_true] at h; done) | skip
    rename_i ea ops ebs pos
    match ops, ebs, h with
    | [o1, o2], [eb, ec], h =>
      simp only [chkE, Bool.and_eq_true, decide_eq_true_eq, Bool.not_eq_true'] at h
      obtain ⟨⟨⟨⟨⟨rfl, rfl⟩, h0⟩, h1⟩, h2⟩, h3⟩ := h
      exact (pe_chain (op_cmpV (by have := g.un; omega) op) (op_cmpV (by have := g.un; omega) op') (sE a g h1) (sE b g h2) (sE c g h3) h0).imp fun σ H Q ⟨F, env, r, env', s, ev, q⟩ => cmp2_read s ev q
  | .and as, X, sc, fb, e, B, g, h => by
    cases e <;> first | (simp only [chkE, Bool.false_eq_true] at h; done) | skip
    rename_i op es pos
    cases op <;> first | (simp only [chkE, Bool.false_eq_true] at h; done) | skip
    exact sAnd as g h
  | .or as, X, sc, fb, e, B, g, h => by
    cases e <;> first | (simp only [chkE, Bool.false_eq_true] at h; done) | skip
    rename_i op es pos
    cases op <;> first | (simp only [chkE, Bool.false_eq_true] at h; done) | skip
    exact sOr as g h
  | .not a, X, sc, fb, e, B, g, h => by
    cases e <;> first | (simp only [chkE, Bool.false_eq_true] at h; done) | skip
    rename_i op _ _
    cases op <;> simp only [chkE, Bool.false_eq_true, Bool.and_eq_true] at h
    exact pe_not' fun B => sE a g h.2
  | .ite c a b, X, sc, fb, e, B, g, h => by
    cases e <;> simp only [chkE, Bool.and_eq_true, Bool.false_eq_true] at h
    obtain ⟨⟨⟨h0, h1⟩, h2⟩, h3⟩ := h
    exact pe_ite' (fun B => sT c g h0 h1) (fun B => sE a g h2) fun B => sE b g h3
  | .tup as, X, sc, fb, e, B, g, h => by
    cases e <;> first | (simp only [chkE, Bool.false_eq_true] at h; done) | skip
    exact pe_tup' fun B => sL as g h
  | .lst as, X, sc, fb, e, B, g, h => by
    cases e <;> first | (simp only [chkE, Bool.false_eq_true] at h; done) | skip
    exact pe_lst' fun B => sL as g h
  | .dnew t, X, sc, fb, e, B, g, h => by
    cases e <;> first | (simp only [chkE, Bool.false_eq_true] at h; done) | skip
    rename_i ks vs pos
    match ks, vs, h with
    | [], [], h => exact pe_dnew'
  | .dlit k v, X, sc, fb, e, B, g, h => by
    cases e <;> first | (simp only [chkE, Bool.false_eq_true] at h; done) | skip
    rename_i ks vs pos
    match ks, vs, h with
    | [some ek], [ev], h =>
      simp only [chkE, Bool.and_eq_true] at h
      exact pe_dlit' (fun B => sE k g h.1) fun B => sE v g h.2
  | .ix a b, X, sc, fb, e, B, g, h => by
    cases e <;> simp only [chkE, Bool.and_eq_true, Bool.false_eq_true] at h
    exact pe_ix' g (fun B => sE a g h.1.2) (fun B => sE b g h.2) h.1.1
  | .sl a lo hi, X, sc, fb, e, B, g, h => by
    cases e <;> first | (simp only [chkE, Bool.false_eq_true] at h; done) | skip
    rename_i ea es pos
    cases es <;> first | (simp only [chkE, Bool.false_eq_true] at h; done) | skip
    rename_i elo ehi est p2
    cases est <;> simp only [chkE, Bool.and_eq_true, Bool.false_eq_true] at h
    exact pe_sl' (fun B => sE a g h.1.1) (fun B => sO lo g h.1.2) fun B => sO hi g h.2
  | .rev a, X, sc, fb, e, B, g, h => by
    cases e <;> first | (simp only [chkE, Bool.false_eq_true] at h; done) | skip
    rename_i ea es pos
    match es, h with
    | .Slice none none (some (.UnaryOp .USub (.Constant (.int 1) k p1) p2)) p3, h => exact pe_rev' fun B => sE a g (by simpa only [chkE] using h)
  | .call f as, X, sc, fb, e, B, g, h => by
    cases e <;> first | (simp only [chkE, Bool.false_eq_true] at h; done) | skip
    rename_i fn args kws pos
    cases fn <;> first | (simp only [chkE, Bool.false_eq_true] at h; done) | skip
    match args, kws, h with
    | ea :: es, [], h =>
      simp only [chkE, Bool.and_eq_true, decide_eq_true_eq] at h
      obtain ⟨⟨⟨h1, h2⟩, h3⟩, h4⟩ := h
      exact pe_call' g (fun B => sA as g h4) h1 h2 h3 (chkL_star h4)
  | .callM f as m, X, sc, fb, e, B, g, h => by
    cases e <;> first | (simp only [chkE, Bool.false_eq_true] at h; done) | skip
    rename_i fn args kws pos
    cases fn <;> first | (simp only [chkE, Bool.false_eq_true] at h; done) | skip
    match args, kws, h with
    | ea :: es, [], h =>
      simp only [chkE, Bool.and_eq_true, decide_eq_true_eq] at h
      obtain ⟨⟨⟨h1, h2⟩, h3⟩, h4⟩ := h
      exact pe_callM' g (fun B => sA as g h4) h1 h2 h3 (chkL_star h4)
  | .neverE, X, sc, fb, e, B, g, h => ⟨fun pins s σ H Q I ⟨F, env, r, env', sr, ev, q⟩ => by simp [evE] at ev⟩
  | .ix2 i a b, X, sc, fb, e, B, g, h => by
    cases e <;> first | (simp only [chkE, Bool.false_eq_true] at h; done) | skip
    rename_i e1 eb pos
    cases e1 <;> first | (simp only [chkE, Bool.false_eq_true] at h; done) | skip
    rename_i e2 ea pos1
    cases e2 <;> first | (simp only [chkE, Bool.false_eq_true] at h; done) | skip
    simp only [chkE, Bool.and_eq_true, decide_eq_true_eq] at h
    obtain ⟨⟨⟨⟨⟨⟨h1, h2⟩, h3⟩, h4⟩, h5⟩, h6⟩, h7⟩ := h
    exact pe_ix2' g h1 h2 h3 (fun B => sE a g h6) (fun B => sE b g h7) h4 h5
  | .lenN i, X, sc, fb, e, B, g, h => by
    cases e <;> first | (simp only [chkE, Bool.false_eq_true] at h; done) | skip
    rename_i f args kws pos
    cases f <;> first | (simp only [chkE, Bool.false_eq_true] at h; done) | skip
    match args, kws, h with
    | [.Name x px], [], h =>
      simp only [chkE, Bool.and_eq_true, decide_eq_true_eq] at h
      obtain ⟨⟨⟨⟨h1, h2⟩, h3⟩, h4⟩, h5⟩ := h
      exact pe_lenN' g h1 h2 h3 h4 h5
  | .callX f as, X, sc, fb, e, B, g, h => by
    cases e <;> first | (simp only [chkE, Bool.false_eq_true] at h; done) | skip
    rename_i ef args kws pos
    cases ef <;> first | (simp only [chkE, Bool.false_eq_true] at h; done) | skip
    match args, kws, h with
    | ea :: es, [], h =>
      simp only [chkE, Bool.and_eq_true, decide_eq_true_eq] at h
      obtain ⟨⟨⟨h1, h2⟩, h3⟩, h4⟩ := h
      exact pe_callXn g (fun B => sA as g h4) h1 h2 h3 (chkL_star h4)
  | .anyIn it i, X, sc, fb, e, B, g, h => by
    have h' : (match anyDec e with
      | some d => anyChk T N i sc d && chkE T N it sc fb (.Name d.z d.zp)
      | none => false) = true := by
      cases e <;> exact h
    cases hd : anyDec e with
    | none => rw [hd] at h'; cases h'
    | some d =>
      rw [hd] at h'
      have he := anyDec_eq hd
      simp only [Bool.and_eq_true] at h'
      exact he ▸ pe_anyD g (fun B => sE it g h'.2) h'.1
  | .anyPos i, X, sc, fb, e, B, g, h => by
    have h' : (match posDec e with
      | some d => posChk T N i sc d
      | none => false) = true := by
      cases e <;> exact h
    cases hd : posDec e with
    | none => rw [hd] at h'; cases h'
    | some d =>
      rw [hd] at h'
      have he := posDec_eq hd
      exact he ▸ pe_posD g h'
  | .bi b as, X, sc, fb, e, B, g, h => by
    cases e <;> first | (simp only [chkE, Bool.false_eq_true] at h; done) | skip
    rename_i fn args kws pos
    cases fn <;> first | (simp only [chkE, Bool.false_eq_true] at h; done) | skip
    match args, kws, h with
    | ea :: es, [], h =>
      simp only [chkE, Bool.and_eq_true, decide_eq_true_eq] at h
      obtain ⟨⟨⟨rfl, h2⟩, h3⟩, h4⟩ := h
      exact pe_bi' g (fun B => sA as g h4) h2 h3 (chkL_star h4)
  | .pop i front, X, sc, fb, e, B, g, h => by
    cases e <;> first | (simp only [chkE, Bool.false_eq_true] at h; done) | skip
    rename_i fn args kws pos
    cases fn <;> first | (simp only [chkE, Bool.false_eq_true] at h; done) | skip
    rename_i o m apos
    cases o <;> first | (simp only [chkE, Bool.false_eq_true] at h; done) | skip
    match kws, h with
    | [], h =>
      simp only [chkE, Bool.and_eq_true, decide_eq_true_eq] at h
      obtain ⟨⟨⟨⟨⟨h1, h2⟩, h3⟩, rfl⟩, h4⟩, h5⟩ := h
      split at h5
      · exact pe_popL' g h1 h2 h3 h4
      · exact pe_pop0' g h1 h2 h3 h4
      · cases h5
  | .idx a b, X, sc, fb, e, B, g, h => by
    cases e <;> first | (simp only [chkE, Bool.false_eq_true] at h; done) | skip
    rename_i fn args kws pos
    cases fn <;> first | (simp only [chkE, Bool.false_eq_true] at h; done) | skip
    rename_i o m apos
    match args, kws, h with
    | [eb], [], h =>
      simp only [chkE, Bool.and_eq_true, decide_eq_true_eq] at h
      obtain ⟨⟨⟨⟨⟨rfl, h1⟩, h2⟩, h3⟩, h4⟩, h5⟩ := h
      exact pe_idxL' (fun B => sE a g h4) (fun B => sE b g h5) (base_of h2 _ _ _) h1 h3
  | .cnt a b, X, sc, fb, e, B, g, h => by
    cases e <;> first | (simp only [chkE, Bool.false_eq_true] at h; done) | skip
    rename_i fn args kws pos
    cases fn <;> first | (simp only [chkE, Bool.false_eq_true] at h; done) | skip
    rename_i o m apos
    match args, kws, h with
    | [eb], [], h =>
      simp only [chkE, Bool.and_eq_true, decide_eq_true_eq] at h
      obtain ⟨⟨⟨⟨⟨rfl, h1⟩, h2⟩, h3⟩, h4⟩, h5⟩ := h
      exact pe_cnt' (fun B => sE a g h4) (fun B => sE b g h5) (base_of h2 _ _ _) h1 h3
  | .lc2 own uses own1 p it p1 it1 e', X, sc, fb, e, B, g, h => by
    cases e <;> first | (simp only [chkE, Bool.false_eq_true] at h; done) | skip
    rename_i elt gens scope pos
    match gens, h with
    | [⟨tg, iter, [], n⟩, ⟨tg1, iter1, [], n1⟩], h =>
      simp only [chkE, Bool.and_eq_true, decide_eq_true_eq] at h
      obtain ⟨⟨⟨⟨⟨⟨⟨⟨⟨⟨⟨⟨rfl, rfl⟩, -⟩, -⟩, h1⟩, h2⟩, h3⟩, h4⟩, h5⟩, h6⟩, h7⟩, h8⟩, h9⟩ := h
      exact pe_lc2' g (fun B => sI it g h7) h4 h5 h1 h6 h2 h3 (fun {X'} ek g' B => ek ▸ sI it1 g' h8) (fun {X'} ek g' B => ek ▸ sE e' g' h9) (sI_set it h7 X.env) (sI_set it1 h8)
    | [⟨_, _, _ :: _, _⟩, ⟨_, _, _, _⟩], h => simp [chkE] at h
    | [⟨_, _, [], _⟩, ⟨_, _, _ :: _, _⟩], h => simp [chkE] at h
  | .idxT a b, X, sc, fb, e, B, g, h => by
    cases e <;> first | (simp only [chkE, Bool.false_eq_true] at h; done) | skip
    rename_i fn args kws pos
    cases fn <;> first | (simp only [chkE, Bool.false_eq_true] at h; done) | skip
    rename_i o m apos
    match args, kws, h with
    | [eb], [], h =>
      simp only [chkE, Bool.and_eq_true, decide_eq_true_eq] at h
      obtain ⟨⟨⟨⟨⟨rfl, h1⟩, h2⟩, h3⟩, h4⟩, h5⟩ := h
      exact pe_idxT' (fun B => sE a g h4) (fun B => sE b g h5) (base_of h2 _ _ _) h1 h3
  | .dictc a, X, sc, fb, e, B, g, h => by
    cases e <;> first | (simp only [chkE, Bool.false_eq_true] at h; done) | skip
    rename_i fn args kws pos
    cases fn <;> first | (simp only [chkE, Bool.false_eq_true] at h; done) | skip
    match args, kws, h with
    | [ea], [], h =>
      simp only [chkE, Bool.and_eq_true, decide_eq_true_eq] at h
      obtain ⟨⟨⟨rfl, h1⟩, h2⟩, h3⟩ := h
      exact pe_dictc' g (fun B => sE a g h3) h1 h2
  | .dget a k d, X, sc, fb, e, B, g, h => by
    cases e <;> first | (simp only [chkE, Bool.false_eq_true] at h; done) | skip
    rename_i fn args kws pos
    cases fn <;> first | (simp only [chkE, Bool.false_eq_true] at h; done) | skip
    rename_i o m apos
    match args, kws, h with
    | [ek, ed], [], h =>
      simp only [chkE, Bool.and_eq_true, decide_eq_true_eq] at h
      obtain ⟨⟨⟨⟨⟨⟨⟨rfl, h1⟩, h2⟩, h3⟩, h4⟩, h5⟩, h6⟩, h7⟩ := h
      exact pe_dget' g (fun B => sE a g h5) (fun B => sE k g h6) (fun B => sE d g h7) (base_of h2 _ _ _) h1 h3 h4
  | .dc own uses p it k v, X, sc, fb, e, B, g, h => by
    cases e <;> first | (simp only [chkE, Bool.false_eq_true] at h; done) | skip
    rename_i kx vx gens scope pos
    match gens, h with
    | [⟨tg, iter, [], n⟩], h =>
      simp only [chkE, Bool.and_eq_true, decide_eq_true_eq] at h
      obtain ⟨⟨⟨⟨⟨⟨⟨rfl, -⟩, h1⟩, h2⟩, h3⟩, h4⟩, h5⟩, h6⟩ := h
      exact (pe_dc' g (fun B => sI it g h4) h2 h3 h1 (fun {X'} ek g' B => ek ▸ sE k g' h5) (fun {X'} ek g' B => ek ▸ sE v g' h6) (sI_set it h4 X.env)).imp fun σ H Q hw => by
        have e0 : evE R (.dc own uses p it k v) = dcV R own uses p it k v := by
          funext env
          simp only [evE]
          rfl
        rw [e0] at hw
        exact hw
    | [⟨_, _, _ :: _, _⟩], h => simp [chkE] at h
  | .lk own p i e', X, sc, fb, e, B, g, h => by
    cases e <;> first | (simp only [chkE, Bool.false_eq_true] at h; done) | skip
    rename_i elt gens scope pos
    match gens, h with
    | [⟨tg, .Name y py, [], n⟩], h =>
      simp only [chkE, Bool.and_eq_true, decide_eq_true_eq] at h
      obtain ⟨⟨⟨⟨⟨⟨⟨⟨rfl, -⟩, h0⟩, h1⟩, h2⟩, h3⟩, h4⟩, h5⟩, h6⟩ := h
      exact (pe_lk' g h0 h1 h2 h4 h5 h3 (fun {X'} ek g' B => ek ▸ sE e' g' h6)).imp fun σ H Q hw => by
        have e0 : evE R (.lk own p i e') = lkV R own p i e' := by
          have hf : ∀ envb : En, (fun d : D => (asgP envb p d).bind fun e1 => (evE R e' e1).bind fun r => (leak r.2 r.1).bind fun x => some (some x.1)) = lcStep R p .nil e' envb := fun envb => by
            funext d
            simp only [lcStep, evC, Option.bind_some, if_true]
          funext env
          simp only [evE, lkV, ← hf]
          try rfl
        rw [e0] at hw
        exact hw
    | [⟨_, .Name _ _, _ :: _, _⟩], h => simp [chkE] at h
  | .lkx own uses p i cs e', X, sc, fb, e, B, g, h => by
    cases e <;> first | (simp only [chkE, Bool.false_eq_true] at h; done) | skip
    rename_i elt gens scope pos
    match gens, h with
    | [⟨tg, .Name y py, ifs, n⟩], h =>
      simp only [chkE, Bool.and_eq_true, decide_eq_true_eq] at h
      obtain ⟨⟨⟨⟨⟨⟨⟨⟨rfl, h0⟩, h1⟩, h2⟩, h3⟩, h4⟩, h5⟩, h6⟩, h7⟩ := h
      exact (pe_lkx' g h0 h1 h2 h4 h5 h3 (fun {X'} ek g' => ek ▸ sC cs g' h6) (fun {X'} ek g' B => ek ▸ sE e' g' h7)).imp fun σ H Q hw => by
        have e0 : evE R (.lkx own uses p i cs e') = lkxV R own uses p i cs e' := by
          funext env
          simp only [evE]
          rfl
        rw [e0] at hw
        exact hw
  | .isi t a, X, sc, fb, e, B, g, h => by
    cases e <;> first | (simp only [chkE, Bool.false_eq_true] at h; done) | skip
    rename_i fn args kws pos
    cases fn <;> first | (simp only [chkE, Bool.false_eq_true] at h; done) | skip
    match args, kws, h with
    | [ea, .Name y p2], [], h =>
      simp only [chkE, Bool.and_eq_true, decide_eq_true_eq] at h
      obtain ⟨⟨⟨⟨⟨rfl, h1⟩, rfl⟩, h2⟩, h3⟩, h4⟩ := h
      exact pe_isi' g (fun B => sE a g h4) h1 h2 h3
  | .lset a, X, sc, fb, e, B, g, h => by
    cases e <;> first | (simp only [chkE, Bool.false_eq_true] at h; done) | skip
    rename_i fn args kws pos
    cases fn <;> first | (simp only [chkE, Bool.false_eq_true] at h; done) | skip
    match args, kws, h with
    | [.Call (.Name y p2) [ea] [] q], [], h =>
      simp only [chkE, Bool.and_eq_true, decide_eq_true_eq] at h
      obtain ⟨⟨⟨⟨⟨rfl, h1⟩, rfl⟩, h2⟩, h3⟩, h4⟩ := h
      exact pe_lset' g (fun B => sE a g h4) h1 h2 h3
  | .sset a, X, sc, fb, e, B, g, h => by
    cases e <;> first | (simp only [chkE, Bool.false_eq_true] at h; done) | skip
    rename_i fn args kws pos
    cases fn <;> first | (simp only [chkE, Bool.false_eq_true] at h; done) | skip
    match args, kws, h with
    | [.Call (.Name y p2) [ea] [] q], [], h =>
      simp only [chkE, Bool.and_eq_true, decide_eq_true_eq] at h
      obtain ⟨⟨⟨⟨⟨rfl, h1⟩, rfl⟩, h2⟩, h3⟩, h4⟩ := h
      exact pe_sset' g (fun B => sE a g h4) h1 h2 h3
  | .strI a, X, sc, fb, e, B, g, h => by
    cases e <;> first | (simp only [chkE, Bool.false_eq_true] at h; done) | skip
    rename_i fn args kws pos
    cases fn <;> first | (simp only [chkE, Bool.false_eq_true] at h; done) | skip
    match args, kws, h with
    | [ea], [], h =>
      simp only [chkE, Bool.and_eq_true, decide_eq_true_eq] at h
      obtain ⟨⟨⟨rfl, h1⟩, h2⟩, h3⟩ := h
      exact pe_strI' g (fun B => sE a g h3) h1 h2
  | .sscK i j, X, sc, fb, e, B, g, h => by
    have h' : (match sscDec e with
      | some d => sscChk N i j sc d
      | none => false) = true := by
      cases e <;> exact h
    clear h
    cases hd : sscDec e with
    | none => rw [hd] at h'; cases h'
    | some d =>
      rw [hd] at h'
      have h := h'
      have ee := sscDec_eq hd
      obtain ⟨x, z, z', y, kk, p, p0, p1, p2, p3, p4, pos, q, n, scope⟩ := d
      simp only [sscChk, Bool.and_eq_true, decide_eq_true_eq] at h
      obtain ⟨⟨⟨⟨⟨⟨⟨⟨⟨⟨⟨rfl, rfl⟩, h1⟩, h2⟩, h3⟩, h4⟩, h5⟩, rfl⟩, h6⟩, h7⟩, h8⟩, h9⟩ := h
      rw [ee]
      exact pe_sscK' (p := p) (p0 := p0) (p1 := p1) (p2 := p2) (p3 := p3) (p4 := p4) (qos := q) (pos := pos) (k0 := kk) (scope := scope) g h2 h3 h4 h5 h1 h6 h7 h8 h9
  | .orV a b, X, sc, fb, e, B, g, h => by
    cases e <;> first | (simp only [chkE, Bool.false_eq_true] at h; done) | skip
    rename_i op es pos
    cases op <;> first | (simp only [chkE, Bool.false_eq_true] at h; done) | skip
    match es, h with
    | [ea, eb], h =>
      simp only [chkE, Bool.and_eq_true] at h
      exact pe_orV' (fun B => sE a g h.1) (fun B => sE b g h.2)
  | .lc own uses p it cs e', X, sc, fb, e, B, g, h => by
    cases e <;> first | (simp only [chkE, Bool.false_eq_true] at h; done) | skip
    rename_i elt gens scope pos
    match gens, h with
    | [⟨tg, iter, ifs, n⟩], h =>
      simp only [chkE, Bool.and_eq_true, decide_eq_true_eq] at h
      obtain ⟨⟨⟨⟨⟨⟨rfl, h1⟩, h2⟩, h3⟩, h4⟩, h5⟩, h6⟩ := h
      exact pe_lc' g (fun B => sI it g h4) h2 h3 h1 (fun {X'} ek g' => ek ▸ sC cs g' h5) (fun {X'} ek g' B => ek ▸ sE e' g' h6) (sI_set it h4 X.env)
theorem sT : ∀ (x : Ex) {X : Cx} {sc : Scope} {fb : Str → Bool} {e : Expr} {B : Bs Cg}, Gd T N R X sc fb Cg → noIf e = true → chkE T N x sc fb e = true → PT X e (tT X.K B (evE R x))
  | .cmp op a b, X, sc, fb, e, B, g, hn, h => by
    cases e <;> first | (simp only [chkE, Bool.false_eq_true] at h; done) | skip
    rename_i ea ops ebs pos
    match ops, ebs, h with
    | [op'], [eb], h =>
      simp only [chkE, Bool.and_eq_true, decide_eq_true_eq, Bool.not_eq_true'] at h
      obtain ⟨⟨⟨rfl, h0⟩, h1⟩, h2⟩ := h
      exact (pt_cmpR (op_cmpV (by have := g.un; omega) op) (sE a g h1) (sE b g h2) h0).imp fun σ H Q ⟨F, env, c, env', s, ev, q⟩ => cmp_read g s ev fun v F' H' s' x o => by
        cases o
        exact ⟨c, rfl, q F' H' s' x⟩
  | .cmp2 op op' a b c, X, sc, fb, e, B, g, hn, h => by
    cases e <;> first | (simp only [chkE, Bool.false_eq_true] at h; done) | skip
    rename_i ea ops ebs pos
    match ops, ebs, h with
    | [o1, o2], [eb, ec], h =>
      simp only [chkE, Bool.and_eq_true, decide_eq_true_eq, Bool.not_eq_true'] at h
      obtain ⟨⟨⟨⟨⟨rfl, rfl⟩, h0⟩, h1⟩, h2⟩, h3⟩ := h
      exact (pt_chain (op_cmpV (by have := g.un; omega) op) (op_cmpV (by have := g.un; omega) op') (sE a g h1) (sE b g h2) (sE c g h3) h0).imp fun σ H Q ⟨F, env, k, env', s, ev, q⟩ => cmp2_read s ev fun v F' H' s' x o => by
        cases o
        exact ⟨k, rfl, q F' H' s' x⟩
  | .and as, X, sc, fb, e, B, g, hn, h => by
    cases e <;> first | (simp only [chkE, Bool.false_eq_true] at h; done) | skip
    rename_i op es pos
    cases op <;> first | (simp only [chkE, Bool.false_eq_true] at h; done) | skip
    exact (sAndT as g h).pt
  | .or as, X, sc, fb, e, B, g, hn, h => by
    cases e <;> first | (simp only [chkE, Bool.false_eq_true] at h; done) | skip
    rename_i op es pos
    cases op <;> first | (simp only [chkE, Bool.false_eq_true] at h; done) | skip
    exact (sOrT as g h).pt
  | .not a, X, sc, fb, e, B, g, hn, h => by
    cases e <;> first | (simp only [chkE, Bool.false_eq_true] at h; done) | skip
    rename_i op _ _
    cases op <;> simp only [chkE, Bool.false_eq_true, Bool.and_eq_true] at h
    exact pt_not' fun B => sT a g h.1 h.2
  | .ite _ _ _, X, sc, fb, e, B, g, hn, h => by
    cases e <;> first | (simp only [chkE, Bool.false_eq_true] at h; done) | (simp [noIf] at hn)
  | .var i, X, sc, fb, e, B, g, hn, h => pt_of_pe (sE (.var i) g h) (plain_true (by cases e <;> first | rfl | (simp only [chkE, Bool.false_eq_true] at h)) _)
  | .int i, X, sc, fb, e, B, g, hn, h => pt_of_pe (sE (.int i) g h) (plain_true (by cases e <;> first | rfl | (simp only [chkE, Bool.false_eq_true] at h)) _)
  | .str i, X, sc, fb, e, B, g, hn, h => pt_of_pe (sE (.str i) g h) (plain_true (by cases e <;> first | rfl | (simp only [chkE, Bool.false_eq_true] at h)) _)
  | .bl i, X, sc, fb, e, B, g, hn, h => pt_of_pe (sE (.bl i) g h) (plain_true (by cases e <;> first | rfl | (simp only [chkE, Bool.false_eq_true] at h)) _)
  | .non, X, sc, fb, e, B, g, hn, h => pt_of_pe (sE .non g h) (plain_true (by cases e <;> first | rfl | (simp only [chkE, Bool.false_eq_true] at h)) _)
  | .gl x d, X, sc, fb, e, B, g, hn, h => pt_of_pe (sE (.gl x d) g h) (plain_true (by cases e <;> first | rfl | (simp only [chkE, Bool.false_eq_true] at h)) _)
  | .bin op a b, X, sc, fb, e, B, g, hn, h => pt_of_pe (sE (.bin op a b) g h) (plain_true (by cases e <;> first | rfl | (simp only [chkE, Bool.false_eq_true] at h)) _)
  | .neg a, X, sc, fb, e, B, g, hn, h => pt_of_pe (sE (.neg a) g h) (plain_true (by
      cases e <;> first | rfl | (simp only [chkE, Bool.false_eq_true] at h; done) | skip
      rename_i op _ _
      cases op <;> first | rfl | (simp only [chkE, Bool.false_eq_true] at h)) _)
  | .tup as, X, sc, fb, e, B, g, hn, h => pt_of_pe (sE (.tup as) g h) (plain_true (by cases e <;> first | rfl | (simp only [chkE, Bool.false_eq_true] at h)) _)
  | .lst as, X, sc, fb, e, B, g, hn, h => pt_of_pe (sE (.lst as) g h) (plain_true (by cases e <;> first | rfl | (simp only [chkE, Bool.false_eq_true] at h)) _)
  | .dnew t, X, sc, fb, e, B, g, hn, h => pt_of_pe (sE (.dnew t) g h) (plain_true (by cases e <;> first | rfl | (simp only [chkE, Bool.false_eq_true] at h)) _)
  | .dlit a b, X, sc, fb, e, B, g, hn, h => pt_of_pe (sE (.dlit a b) g h) (plain_true (by cases e <;> first | rfl | (simp only [chkE, Bool.false_eq_true] at h)) _)
  | .ix a b, X, sc, fb, e, B, g, hn, h => pt_of_pe (sE (.ix a b) g h) (plain_true (by cases e <;> first | rfl | (simp only [chkE, Bool.false_eq_true] at h)) _)
  | .sl a lo hi, X, sc, fb, e, B, g, hn, h => pt_of_pe (sE (.sl a lo hi) g h) (plain_true (by cases e <;> first | rfl | (simp only [chkE, Bool.false_eq_true] at h)) _)
  | .rev a, X, sc, fb, e, B, g, hn, h => pt_of_pe (sE (.rev a) g h) (plain_true (by cases e <;> first | rfl | (simp only [chkE, Bool.false_eq_true] at h)) _)
  | .call f as, X, sc, fb, e, B, g, hn, h => pt_of_pe (sE (.call f as) g h) (plain_true (by cases e <;> first | rfl | (simp only [chkE, Bool.false_eq_true] at h)) _)
  | .callM f as m, X, sc, fb, e, B, g, hn, h => pt_of_pe (sE (.callM f as m) g h) (plain_true (by cases e <;> first | rfl | (simp only [chkE, Bool.false_eq_true] at h)) _)
  | .neverE, X, sc, fb, e, B, g, hn, h => ⟨fun pins s σ H Q I ⟨F, env, r, env', sr, ev, q⟩ => by simp [evE] at ev⟩
  | .ix2 i a b, X, sc, fb, e, B, g, hn, h => pt_of_pe (sE (.ix2 i a b) g h) (plain_true (by cases e <;> first | rfl | (simp only [chkE, Bool.false_eq_true] at h)) _)
  | .lenN i, X, sc, fb, e, B, g, hn, h => pt_of_pe (sE (.lenN i) g h) (plain_true (by cases e <;> first | rfl | (simp only [chkE, Bool.false_eq_true] at h)) _)
  | .callX f as, X, sc, fb, e, B, g, hn, h => pt_of_pe (sE (.callX f as) g h) (plain_true (by cases e <;> first | rfl | (simp only [chkE, Bool.false_eq_true] at h)) _)
  | .anyIn it i, X, sc, fb, e, B, g, hn, h => by
    have h' : (match anyDec e with
      | some d => anyChk T N i sc d && chkE T N it sc fb (.Name d.z d.zp)
      | none => false) = true := by
      cases e <;> exact h
    cases hd : anyDec e with
    | none => rw [hd] at h'; cases h'
    | some d =>
      have he := anyDec_eq hd
      exact pt_of_pe (sE (.anyIn it i) g h) (plain_true (by subst he; rfl) _)
  | .anyPos i, X, sc, fb, e, B, g, hn, h => by
    have h' : (match posDec e with
      | some d => posChk T N i sc d
      | none => false) = true := by
      cases e <;> exact h
    cases hd : posDec e with
    | none => rw [hd] at h'; cases h'
    | some d =>
      have he := posDec_eq hd
      exact pt_of_pe (sE (.anyPos i) g h) (plain_true (by subst he; rfl) _)
  | .bi b as, X, sc, fb, e, B, g, hn, h => pt_of_pe (sE (.bi b as) g h) (plain_true (by cases e <;> first | rfl | (simp only [chkE, Bool.false_eq_true] at h)) _)
  | .pop i f, X, sc, fb, e, B, g, hn, h => pt_of_pe (sE (.pop i f) g h) (plain_true (by cases e <;> first | rfl | (simp only [chkE, Bool.false_eq_true] at h)) _)
  | .dictc a, X, sc, fb, e, B, g, hn, h => pt_of_pe (sE (.dictc a) g h) (plain_true (by cases e <;> first | rfl | (simp only [chkE, Bool.false_eq_true] at h)) _)
  | .dget a k d, X, sc, fb, e, B, g, hn, h => pt_of_pe (sE (.dget a k d) g h) (plain_true (by cases e <;> first | rfl | (simp only [chkE, Bool.false_eq_true] at h)) _)
  | .dc a b c d k v, X, sc, fb, e, B, g, hn, h => pt_of_pe (sE (.dc a b c d k v) g h) (plain_true (by cases e <;> first | rfl | (simp only [chkE, Bool.false_eq_true] at h)) _)
  | .lkx a b c d k v, X, sc, fb, e, B, g, hn, h => pt_of_pe (sE (.lkx a b c d k v) g h) (plain_true (by cases e <;> first | rfl | (simp only [chkE, Bool.false_eq_true] at h)) _)
  | .lk a b c d, X, sc, fb, e, B, g, hn, h => pt_of_pe (sE (.lk a b c d) g h) (plain_true (by cases e <;> first | rfl | (simp only [chkE, Bool.false_eq_true] at h)) _)
  | .idxT a b, X, sc, fb, e, B, g, hn, h => pt_of_pe (sE (.idxT a b) g h) (plain_true (by cases e <;> first | rfl | (simp only [chkE, Bool.false_eq_true] at h)) _)
  | .idx a b, X, sc, fb, e, B, g, hn, h => pt_of_pe (sE (.idx a b) g h) (plain_true (by cases e <;> first | rfl | (simp only [chkE, Bool.false_eq_true] at h)) _)
  | .cnt a b, X, sc, fb, e, B, g, hn, h => pt_of_pe (sE (.cnt a b) g h) (plain_true (by cases e <;> first | rfl | (simp only [chkE, Bool.false_eq_true] at h)) _)
  | .lc2 own uses own1 p it p1 it1 e', X, sc, fb, e, B, g, hn, h => pt_of_pe (sE (.lc2 own uses own1 p it p1 it1 e') g h) (plain_true (by cases e <;> first | rfl | (simp only [chkE, Bool.false_eq_true] at h)) _)
  | .isi t a, X, sc, fb, e, B, g, hn, h => pt_of_pe (sE (.isi t a) g h) (plain_true (by cases e <;> first | rfl | (simp only [chkE, Bool.false_eq_true] at h)) _)
  | .lset a, X, sc, fb, e, B, g, hn, h => pt_of_pe (sE (.lset a) g h) (plain_true (by cases e <;> first | rfl | (simp only [chkE, Bool.false_eq_true] at h)) _)
  | .sset a, X, sc, fb, e, B, g, hn, h => pt_of_pe (sE (.sset a) g h) (plain_true (by cases e <;> first | rfl | (simp only [chkE, Bool.false_eq_true] at h)) _)
  | .strI a, X, sc, fb, e, B, g, hn, h => pt_of_pe (sE (.strI a) g h) (plain_true (by cases e <;> first | rfl | (simp only [chkE, Bool.false_eq_true] at h)) _)
  | .sscK i j, X, sc, fb, e, B, g, hn, h => by
    have h0 := h
    have h' : (match sscDec e with
      | some d => sscChk N i j sc d
      | none => false) = true := by
      cases e <;> exact h
    cases hd : sscDec e with
    | none => rw [hd] at h'; cases h'
    | some d => exact pt_of_pe (sE (.sscK i j) g h0) (plain_true (by rw [sscDec_eq hd]; rfl) _)
  | .orV a b, X, sc, fb, e, B, g, hn, h => pt_orV'
  | .lc a b c d f k, X, sc, fb, e, B, g, hn, h => pt_of_pe (sE (.lc a b c d f k) g h) (plain_true (by cases e <;> first | rfl | (simp only [chkE, Bool.false_eq_true] at h)) _)
theorem sA : ∀ (xs : Exs) {X : Cx} {sc : Scope} {fb : Str → Bool} {es : List Expr} {B : Bs Cg}, Gd T N R X sc fb Cg → chkL T N xs sc fb es = true → PA X es (tA X.K B (evA R xs))
  | .nil, X, sc, fb, es, B, g, h => by
    cases es with
    | nil => exact pa_nil'
    | cons _ _ => simp [chkL] at h
  | .cons a as, X, sc, fb, es, B, g, h => by
    cases es with
    | nil => simp [chkL] at h
    | cons e es =>
      simp only [chkL, Bool.and_eq_true] at h
      exact pa_cons' (fun B => sE a g h.1.2) (fun B => sA as g h.2) h.1.1
theorem sL : ∀ (xs : Exs) {X : Cx} {sc : Scope} {fb : Str → Bool} {es : List Expr} {B : Bs Cg}, Gd T N R X sc fb Cg → chkL T N xs sc fb es = true → PA X es (tL X.K B (evL R xs))
  | .nil, X, sc, fb, es, B, g, h => by
    cases es with
    | nil => exact pl_nil'
    | cons _ _ => simp [chkL] at h
  | .cons a as, X, sc, fb, es, B, g, h => by
    cases es with
    | nil => simp [chkL] at h
    | cons e es =>
      simp only [chkL, Bool.and_eq_true] at h
      exact pl_cons' (fun B => sE a g h.1.2) (fun B => sL as g h.2) h.1.1
theorem sAnd : ∀ (xs : Exs) {X : Cx} {sc : Scope} {fb : Str → Bool} {es : List Expr} {pos : Pos} {B : Bs Cg}, Gd T N R X sc fb Cg → chkTs T N xs sc fb es = true → PE X (.BoolOp .And es pos) (tE X.K B (evAnd R xs))
  | .nil, X, sc, fb, es, pos, B, g, h => ⟨fun pins s σ H Q I ⟨F, env, r, env', sr, e, q⟩ => by simp [evAnd] at e⟩
  | .cons a .nil, X, sc, fb, es, pos, B, g, h => by
    match es, h with
    | [e], h =>
      simp only [chkTs, Bool.and_eq_true] at h
      exact pe_and1' (fun B => sE a g h.1.2) fun env => rfl
    | _ :: _ :: _, h => simp [chkTs] at h
  | .cons a (.cons b bs), X, sc, fb, es, pos, B, g, h => by
    match es, h with
    | [e], h => simp [chkTs] at h
    | e :: e2 :: es, h =>
      have h2 : chkTs T N (.cons b bs) sc fb (e2 :: es) = true := by
        simp only [chkTs, Bool.and_eq_true] at h ⊢
        exact h.2
      simp only [chkTs, Bool.and_eq_true] at h
      exact pe_and' (fun B => sE a g h.1.2) fun B => sAnd (.cons b bs) g h2
theorem sOr : ∀ (xs : Exs) {X : Cx} {sc : Scope} {fb : Str → Bool} {es : List Expr} {pos : Pos} {B : Bs Cg}, Gd T N R X sc fb Cg → chkTs T N xs sc fb es = true → PE X (.BoolOp .Or es pos) (tE X.K B (evOr R xs))
  | .nil, X, sc, fb, es, pos, B, g, h => ⟨fun pins s σ H Q I ⟨F, env, r, env', sr, e, q⟩ => by simp [evOr] at e⟩
  | .cons a .nil, X, sc, fb, es, pos, B, g, h => by
    match es, h with
    | [e], h =>
      simp only [chkTs, Bool.and_eq_true] at h
      exact pe_and1' (fun B => sE a g h.1.2) fun env => rfl
    | _ :: _ :: _, h => simp [chkTs] at h
  | .cons a (.cons b bs), X, sc, fb, es, pos, B, g, h => by
    match es, h with
    | [e], h => simp [chkTs] at h
    | e :: e2 :: es, h =>
      have h2 : chkTs T N (.cons b bs) sc fb (e2 :: es) = true := by
        simp only [chkTs, Bool.and_eq_true] at h ⊢
        exact h.2
      simp only [chkTs, Bool.and_eq_true] at h
      exact pe_or' (fun B => sE a g h.1.2) fun B => sOr (.cons b bs) g h2
theorem sAndT : ∀ (xs : Exs) {X : Cx} {sc : Scope} {fb : Str → Bool} {es : List Expr} {pos : Pos} {B : Bs Cg}, Gd T N R X sc fb Cg → chkTs T N xs sc fb es = true → PW X (.BoolOp .And es pos) (tT X.K B (evAnd R xs))
  | .nil, X, sc, fb, es, pos, B, g, h => ⟨fun wh pins s σ H Q I ⟨F, env, r, env', sr, e, q⟩ => by simp [evAnd] at e⟩
  | .cons a .nil, X, sc, fb, es, pos, B, g, h => by
    match es, h with
    | [e], h =>
      simp only [chkTs, Bool.and_eq_true] at h
      exact pw_and1' (fun B => sT a g h.1.1 h.1.2)
    | _ :: _ :: _, h => simp [chkTs] at h
  | .cons a (.cons b bs), X, sc, fb, es, pos, B, g, h => by
    match es, h with
    | [e], h => simp [chkTs] at h
    | e :: e2 :: es, h =>
      have h2 : chkTs T N (.cons b bs) sc fb (e2 :: es) = true := by
        simp only [chkTs, Bool.and_eq_true] at h ⊢
        exact h.2
      simp only [chkTs, Bool.and_eq_true] at h
      exact pw_and' (fun B => sT a g h.1.1 h.1.2) fun B => sAndT (.cons b bs) g h2
theorem sOrT : ∀ (xs : Exs) {X : Cx} {sc : Scope} {fb : Str → Bool} {es : List Expr} {pos : Pos} {B : Bs Cg}, Gd T N R X sc fb Cg → chkTs T N xs sc fb es = true → PW X (.BoolOp .Or es pos) (tT X.K B (evOr R xs))
  | .nil, X, sc, fb, es, pos, B, g, h => ⟨fun wh pins s σ H Q I ⟨F, env, r, env', sr, e, q⟩ => by simp [evOr] at e⟩
  | .cons a .nil, X, sc, fb, es, pos, B, g, h => by
    match es, h with
    | [e], h =>
      simp only [chkTs, Bool.and_eq_true] at h
      exact pw_or1' (fun B => sT a g h.1.1 h.1.2)
    | _ :: _ :: _, h => simp [chkTs] at h
  | .cons a (.cons b bs), X, sc, fb, es, pos, B, g, h => by
    match es, h with
    | [e], h => simp [chkTs] at h
    | e :: e2 :: es, h =>
      have h2 : chkTs T N (.cons b bs) sc fb (e2 :: es) = true := by
        simp only [chkTs, Bool.and_eq_true] at h ⊢
        exact h.2
      simp only [chkTs, Bool.and_eq_true] at h
      exact pw_or' (fun B => sT a g h.1.1 h.1.2) fun B => sOrT (.cons b bs) g h2
theorem sO : ∀ (x : Ox) {X : Cx} {sc : Scope} {fb : Str → Bool} {e : Option Expr} {B : Bs Cg}, Gd T N R X sc fb Cg → chkO T N x sc fb e = true → PO X e (tO X.K B (evO R x))
  | .no, X, sc, fb, e, B, g, h => by
    cases e with
    | none => exact po_no'
    | some _ => simp [chkO] at h
  | .yes a, X, sc, fb, e, B, g, h => by
    cases e with
    | none => simp [chkO] at h
    | some e => exact po_yes' fun B => sE a g (by simpa [chkO] using h)
theorem sI : ∀ (x : Itx) {X : Cx} {sc : Scope} {fb : Str → Bool} {tg e : Expr} {B : Bs Cg}, Gd T N R X sc fb Cg → chkI T N x sc fb tg e = true → PI X tg e (tI X.K B (evI R x))
  | .seq a, X, sc, fb, tg, e, B, g, h => by
    simp only [chkI, Bool.and_eq_true] at h
    exact pi_seq' fun B => sE a g h.2
  | .rng1 a, X, sc, fb, tg, e, B, g, h => by
    cases e <;> first | (simp only [chkI, Bool.false_eq_true] at h; done) | skip
    rename_i fn args kws pos
    cases fn <;> first | (simp only [chkI, Bool.false_eq_true] at h; done) | skip
    match args, kws, h with
    | [ea], [], h =>
      simp only [chkI, Bool.and_eq_true, decide_eq_true_eq] at h
      obtain ⟨⟨⟨rfl, h1⟩, h2⟩, h3⟩ := h
      exact pi_rng1' g (fun B => sE a g h3) h1 h2
  | .dkeys a, X, sc, fb, tg, e, B, g, h => by
    simp only [chkI, Bool.and_eq_true] at h
    exact pi_dkeys' fun B => sE a g h.2
  | .chars a, X, sc, fb, tg, e, B, g, h => by
    simp only [chkI, Bool.and_eq_true] at h
    exact pi_chars' fun B => sE a g h.2
  | .enum a, X, sc, fb, tg, e, B, g, h => by
    cases e <;> first | (simp only [chkI, Bool.false_eq_true] at h; done) | skip
    rename_i fn args kws pos
    cases fn <;> first | (simp only [chkI, Bool.false_eq_true] at h; done) | skip
    match args, kws, h with
    | [ea], [], h =>
      simp only [chkI, Bool.and_eq_true, decide_eq_true_eq] at h
      obtain ⟨⟨⟨⟨h0, rfl⟩, h1⟩, h2⟩, h3⟩ := h
      cases tg <;> first | (cases h0; done) | exact pi_enum' g (fun B => sE a g h3) h1 h2
  | .rngD a b, X, sc, fb, tg, e, B, g, h => by
    cases e <;> first | (simp only [chkI, Bool.false_eq_true] at h; done) | skip
    rename_i fn args kws pos
    cases fn <;> first | (simp only [chkI, Bool.false_eq_true] at h; done) | skip
    match args, kws, h with
    | [ea, eb, .UnaryOp .USub (.Constant (.int 1) k p1) p2], [], h =>
      simp only [chkI, Bool.and_eq_true, decide_eq_true_eq] at h
      obtain ⟨⟨⟨⟨⟨rfl, h1⟩, h2⟩, h3⟩, h4⟩, h5⟩ := h
      exact pi_rngD' g (fun B => sE a g h4) (fun B => sE b g h5) h1 h2 h3
  | .rng2 a b, X, sc, fb, tg, e, B, g, h => by
    cases e <;> first | (simp only [chkI, Bool.false_eq_true] at h; done) | skip
    rename_i fn args kws pos
    cases fn <;> first | (simp only [chkI, Bool.false_eq_true] at h; done) | skip
    match args, kws, h with
    | [ea, eb], [], h =>
      simp only [chkI, Bool.and_eq_true, decide_eq_true_eq] at h
      obtain ⟨⟨⟨⟨⟨rfl, h1⟩, h2⟩, h3⟩, h4⟩, h5⟩ := h
      exact pi_rng2' g (fun B => sE a g h4) (fun B => sE b g h5) h1 h2 h3
theorem sC : ∀ (xs : Exs) {X : Cx} {sc : Scope} {fb : Str → Bool} {es : List Expr}, Gd T N R X sc fb Cg → chkTs T N xs sc fb es = true → PTs X es (tCx X.K Cg (evC R xs))
  | .nil, X, sc, fb, es, g, h => by
    cases es with
    | nil => exact pts_nil'
    | cons _ _ => simp [chkTs] at h
  | .cons a .nil, X, sc, fb, es, g, h => by
    match es, h with
    | [e], h =>
      simp only [chkTs, Bool.and_eq_true] at h
      exact pts_one' fun B => sT a g h.1.1 h.1.2
    | _ :: _ :: _, h => simp [chkTs] at h
  | .cons a (.cons b bs), X, sc, fb, es, g, h => ⟨fun pins s σ H Q I ⟨B, F, env, k, sr, e, q⟩ => by simp [evC] at e⟩
end
end
end Ts

set_option linter.all false
set_option autoImplicit false
set_option maxRecDepth 100000
/-! Statements, defs. -/
namespace Ts
open PySem PySem.Spec PyProof.Rows L2

/-- the value goes straight into the name: a comprehension on the name's line -/
def swB (sc : Scope) (y : Str) (py : Pos) (value : Expr) : Bool := match value with
  | .ListComp _ _ s p => justLoc sc y && (py.line == p.line) && !(s.names.any fun (n, k) => n == y && (k == .local || k == .cell))
  | .SetComp _ _ s p => justLoc sc y && (py.line == p.line) && !(s.names.any fun (n, k) => n == y && (k == .local || k == .cell))
  | .DictComp _ _ _ s p => justLoc sc y && (py.line == p.line) && !(s.names.any fun (n, k) => n == y && (k == .local || k == .cell))
  | _ => false
def noComp : Expr → Bool | .ListComp _ _ _ _ => false | .SetComp _ _ _ _ => false | .DictComp _ _ _ _ _ => false | _ => true
def isLc : Ex → Bool | .lc _ _ _ _ _ _ => true | .lc2 _ _ _ _ _ _ _ _ => true | .dc _ _ _ _ _ _ => true | _ => false
def noTup : Expr → Bool | .Tuple _ _ _ => false | _ => true
/-- the right sides of a, b = c, d -/
def parArgs (N : List Str) (sc : Scope) (i j : Nat) : Stmt → Option (Expr × Expr)
  | .Assign [.Tuple [.Name x px, .Name y py] _ _] (.Tuple [ea, eb] _ _) _ =>
    if (decide (N[i]? = some x) && decide (N[j]? = some y) && !(x == y) && decide (i ≠ j) && justLoc sc x && justLoc sc y && (py.line == px.line) &&
      noStar ea && noStar eb && !(foldedForSure 8 ea && foldedForSure 8 eb) && !(constantsAlone 8 ea && constantsAlone 8 eb)) = true then some (ea, eb) else none
  | _ => none
structure SwpDat where
  x : Str
  x' : Str
  y : Str
  z : Str
  kk : Nat
  k2 : Nat
  p1 : Pos
  p2 : Pos
  p3 : Pos
  p4 : Pos
  p5 : Pos
  p6 : Pos
  p7 : Pos
  p8 : Pos
  p9 : Pos
  es : List Expr
def SwpDat.s (d : SwpDat) : Stmt := .Assign [.Tuple [.Subscript (.Name d.x d.p1) (.Name d.y d.p2) d.p3, .Subscript (.Name d.x' d.p4) (.Name d.z d.p5) d.p6] d.kk d.p7] (.Tuple d.es d.k2 d.p8) d.p9
def swpT : Expr → Option (Str × Str × Pos × Pos × Pos)
  | .Subscript (.Name x p1) (.Name y p2) p3 => some (x, y, p1, p2, p3)
  | _ => none
theorem swpT_eq {e : Expr} {x y : Str} {p1 p2 p3 : Pos} (h : swpT e = some (x, y, p1, p2, p3)) : e = .Subscript (.Name x p1) (.Name y p2) p3 := by
  unfold swpT at h
  split at h
  · cases h; rfl
  · cases h
def swpDec : Stmt → Option SwpDat
  | .Assign [.Tuple [a, b] kk p7] (.Tuple es k2 p8) p9 => (swpT a).bind fun q => (swpT b).bind fun r => some ⟨q.1, r.1, q.2.1, r.2.1, kk, k2, q.2.2.1, q.2.2.2.1, q.2.2.2.2, r.2.2.1, r.2.2.2.1, r.2.2.2.2, p7, p8, p9, es⟩
  | _ => none
theorem swpDec_eq {s : Stmt} {d : SwpDat} (h : swpDec s = some d) : s = d.s := by
  unfold swpDec at h
  split at h
  · simp only [Option.bind_eq_some_iff, Option.some.injEq] at h
    obtain ⟨⟨x, y, p1, p2, p3⟩, ea, ⟨x', z, p4, p5, p6⟩, eb, rfl⟩ := h
    rw [swpT_eq ea, swpT_eq eb]
    rfl
  · cases h
section
variable (T : Tb) (N : List Str) (sc : Scope)
abbrev fbD : Str → Bool := fun _ => true
mutual
def chkS : St → Stmt → Bool
  | .asg i e, .Assign [.Name y py] value _ => decide (N[i]? = some y) && stOkB sc fbD y && chkE T N e sc fbD value && (if swB sc y py value then isLc e && justLoc sc y else true) && !(T.pins.contains i)
  | .unp is e, .Assign [.Tuple es _ _] value _ => ptOk.tsOk N sc fbD is es && noTup value && chkE T N e sc fbD value
  | .app i e, .Expr (.Call (.Attribute (.Name x _) m apos) [ea] [] cpos) _ => decide (N[i]? = some x) && visB sc x && nameOk x && decide (m = ("append" : Str)) && (apos.endLine == cpos.line) && noStar ea && chkE T N e sc fbD ea
  | .par i j a b, st => match parArgs N sc i j st with
    | some es => chkE T N a sc fbD es.1 && chkE T N b sc fbD es.2
    | none => false
  | .aug i e, .AugAssign (.Name x _) op ea _ => decide (N[i]? = some x) && stOkB sc fbD x && decide (op = .Add) && chkE T N e sc fbD ea
  | .put i k e, .Assign [.Subscript (.Name x _) ek _] value _ => decide (N[i]? = some x) && visB sc x && nameOk x && chkE T N k sc fbD ek && chkE T N e sc fbD value
  | .exp e, .Expr value _ => noComp value && chkE T N e sc fbD value
  | .ifs c a b, .If test body orelse _ => noIf test && chkE T N c sc fbD test && chkSs a body && chkSs b orelse
  | .for_ p it body _, .For tg iter sts [] _ => ptOk N sc fbD p tg && chkI T N it sc fbD tg iter && chkSs body sts
  | .swp i a b, st => match swpDec st with
    | some d => decide (N[i]? = some d.x) && decide (d.x' = d.x) && visB sc d.x && nameOk d.x && decide (N[a]? = some d.y) && visB sc d.y && nameOk d.y && decide (N[b]? = some d.z) && visB sc d.z && nameOk d.z && chkE T N (.tup (.cons (.ix (.var i) (.var b)) (.cons (.ix (.var i) (.var a)) .nil))) sc fbD (.Tuple d.es d.k2 d.p8)
    | none => false
  | .forK j p body _, .For tg (.Name y _) sts [] _ => decide (N[j]? = some y) && visB sc y && nameOk y && ptOk N sc fbD p tg && chkSs body sts
  | .while_ c body _, .While test sts [] _ => noIf test && chkE T N c sc fbD test && chkSs body sts
  | .ret e, .Return (some v) _ => chkE T N e sc fbD v
  | .retM ms e, .Return (some v) _ => decide (ms = T.pins) && chkE T N e sc fbD v
  | .retN, .Return none _ => true
  | .brk, .Break _ => true
  | .cnt, .Continue _ => true
  | .pass, .Pass _ => true
  | .never, _ => true
  | .asgN i own uses p it e, .Assign [.Name y _] value _ => decide (N[i]? = some y) && justLoc sc y && !(T.pins.contains i) && chkE T N (.lc own uses p it .nil e) sc fbD value
  | .put2 i a b e, .Assign [.Subscript (.Subscript (.Name x _) ea _) eb _] value _ => decide (N[i]? = some x) && visB sc x && nameOk x && noSlice ea && chkE T N a sc fbD ea && chkE T N b sc fbD eb && chkE T N e sc fbD value
  | .asgX i f as, .Assign [.Name y _] value _ => decide (N[i]? = some y) && stOkB sc fbD y && !(T.pins.contains i) && chkE T N (.callX f as) sc fbD value
  | .expX f as, .Expr value _ => chkE T N (.callX f as) sc fbD value
  | .retX f as, .Return (some v) _ => chkE T N (.callX f as) sc fbD v
  | .unpX is f as, .Assign [.Tuple es _ _] value _ => ptOk.tsOk N sc fbD is es && chkE T N (.callX f as) sc fbD value
  | .forX p f as body _, .For tg iter sts [] _ => ptOk N sc fbD p tg && chkE T N (.callX f as) sc fbD iter && chkSs body sts
  | .raise c as, .Raise (some (.Call (.Name nm _) (e :: es) [] _)) none _ => decide ((T.xcs[c]?.map fun q => (q.1, q.2.length)) = some (nm, es.length + 1)) && glB sc nm && nameOk nm && chkL T N as sc fbD (e :: es)
  | .try_ body hs g i r, .Try sts [.ExceptHandler (some (.Name x _)) (some n) (b0 :: suite) _] [] [] _ => decide (T.hcs.lookup x = some hs) && glB sc x && nameOk x && decide (N[i]? = some n) && justLoc sc n && nameOk n && decide (g = hs) && rxChk T.xcs n hs r (stripG T sc n hs (b0 :: suite)) && chkSs body sts
  | _, _ => false
def chkSs : Sts → List Stmt → Bool
  | .nil, [] => true
  | .cons s ss, st :: sts => chkS s st && chkSs ss sts
  | .un _ ss, sts => chkSs ss sts
  | _, _ => false
end
end

/-- a def's end -/
structure RetOk (K : PySem.W.Frag) {Cg : Cfg} (B : Bs Cg) (F H : Hp) (nv : Nv) (v : V) : Prop where
  bas : Same B.h H
  frz : Same F H
  dis : ∀ (b : Addr) (o : HO), B b = some o → F b = none
  nf : NoT F
  tab : Tabs Cg.ts H
  val : match nv with | .sh d => Rp K F v d | .ow d => ∃ p, v = .ref p ∧ OwnAt K F H p d ∧ F p = none ∧ B p = none | .mu r fs => Rp K F v r ∧ OwnL K F H (Cg.pin.map (·.2)) fs | .ex _ _ => False
theorem RetOk.base {K : PySem.W.Frag} {Cg : Cfg} {B : Bs Cg} {F H : Hp} {nv : Nv} {v : V} {h : Hp} (e : B.b0 = h) (r : RetOk K B F H nv v) : RetOk K (Bs.mk h : Bs Cg) F H nv v := by
  subst e
  refine ⟨fun b o x => r.bas b o (B.le b o x), r.frz, fun b o x => r.dis b o (B.le b o x), r.nf, r.tab, ?_⟩
  have q := r.val
  cases nv with
  | sh d => exact q
  | mu _ _ => exact q
  | ex _ _ => exact q
  | ow d =>
    obtain ⟨p, e, o, f, z⟩ := q
    refine ⟨p, e, o, f, ?_⟩
    cases y : B.b0 p with
    | none => exact y
    | some u =>
      have := B.le _ _ y
      rw [show B.h p = none from z] at this
      cases this
theorem SR.base {K : PySem.W.Frag} {Cg : Cfg} {B : Bs Cg} {F H : Hp} {σ : L2.St} {env : En} {h : Hp} (e : B.b0 = h) (s : SR K B F H σ env) : Same h H ∧ ∀ (b : Addr) (o : HO), h b = some o → F b = none := by
  subst e
  exact ⟨fun b o x => s.bas b o (B.le b o x), fun b o x => s.dis b o (B.le b o x)⟩
def OutOk (K : PySem.W.Frag) {Cg : Cfg} (B : Bs Cg) (F : Hp) (xw : Xw) (D : Ends) : Out → Prop
  | .nx e => ∀ B' : Bs Cg, B'.b0 = B.b0 → ∀ σ' F' H', SR K B' F' H' σ' e → Same F F' → D.nx σ' H'
  | .bk e => ∀ B' : Bs Cg, B'.b0 = B.b0 → ∀ σ' F' H', SR K B' F' H' σ' e → Same F F' → D.bk σ' H'
  | .ct e => ∀ B' : Bs Cg, B'.b0 = B.b0 → ∀ σ' F' H', SR K B' F' H' σ' e → Same F F' → D.ct σ' H'
  | .rt nv => ∀ B' : Bs Cg, B'.b0 = B.b0 → ∀ v F' H', RetOk K B' F' H' nv v → Same F F' → D.rt v H'
  | .rx e c fs => xOk K B F xw e c fs
theorem OutOk.mono {K : PySem.W.Frag} {Cg : Cfg} {B : Bs Cg} {F F' : Hp} {xw : Xw} {D : Ends} {o : Out} (s : Same F F') (h : OutOk K B F xw D o) : OutOk K B F' xw D o := by
  cases o with
  | nx e => exact fun B' hB σ F2 H r x => h B' hB σ F2 H r (s.trans x)
  | bk e => exact fun B' hB σ F2 H r x => h B' hB σ F2 H r (s.trans x)
  | ct e => exact fun B' hB σ F2 H r x => h B' hB σ F2 H r (s.trans x)
  | rt e => exact fun B' hB σ F2 H r x => h B' hB σ F2 H r (s.trans x)
  | rx e c fs => exact xOk.mono s h
theorem OutOk.b0 {K : PySem.W.Frag} {Cg : Cfg} {B B1 : Bs Cg} {F : Hp} {xw : Xw} {D : Ends} {o : Out} (e : B1.b0 = B.b0) (h : OutOk K B F xw D o) : OutOk K B1 F xw D o := by
  cases o <;> exact fun B' hB => h B' (hB.trans e)
def tS (K : PySem.W.Frag) {Cg : Cfg} (B : Bs Cg) (xw : Xw) (f : En → Option Out) : TS := fun D σ H => ∃ F env o, SR K B F H σ env ∧ f env = some o ∧ OutOk K B F xw D o
theorem _root_.L2.PS.imp {X : Cx} {e : Stmt} {t t' : TS} (h : PS X e t) (i : ∀ D σ H, t' D σ H → t D σ H) : PS X e t' := ⟨fun pins s σ H D I q => h.run pins s σ H D I (i D σ H q)⟩

section
variable {T : Tb} {N : List Str} {R : Run} {X : Cx} {sc : Scope} {Cg : Cfg} {B : Bs Cg} {xw : Xw}
theorem sw_of (g : Gd T N R X sc fbD Cg) (hk : X.env.scope.kind = .function) {y : Str} {py : Pos} {value : Expr} {l : Nat} : swapsWith value (some (.Name y py)) l X.env = pure (swB sc y py value) := by
  have hb : X.env.blockKind = .function := by unfold Env.blockKind; rw [hk]; rfl
  have hj : (X.env.kindOf y == some NameKind.local) = justLoc sc y := by
    unfold Env.kindOf justLoc
    rw [g.hsc]
    cases sc.names.lookup y with
    | none => rfl
    | some k => cases k <;> rfl
  unfold swapsWith swB
  cases value <;> first | rfl | (simp only [hb, hj, Expr.pos]; rfl)

theorem store_read {i : Nat} (hpk : ∀ p, PinOk Cg i p) {σ : L2.St} {H : Hp} {Q : L2.St → Hp → Prop} {F : Hp} {env env' : En} {v : V} {r : Rv} (s : SR X.K B F H σ env) (o : RvOk X.K B F H σ env v r) (e : store env i r = some env')
    (q : ∀ F', Same F F' → SR X.K B F' H (σ.set i (some v)) env' → Q (σ.set i (some v)) H) : gName i v σ H Q := by
  cases r with
  | sh d =>
    simp only [store] at e
    split at e
    · rename_i hi
      cases e
      have hl : i < σ.length := by rw [← s.len]; exact hi
      exact q F (.refl _) (s.storeS hi ⟨v, by rw [getσ, if_pos rfl, if_pos hl], o⟩ fun d z => nomatch z)
    · cases e
  | ow d =>
    simp only [store] at e
    split at e
    · rename_i hi
      cases e
      have hl : i < σ.length := by rw [← s.len]; exact hi
      obtain ⟨p, rfl, o1, f, b, n⟩ := o
      refine q F (.refl _) (s.storeS hi ⟨p, by rw [getσ, if_pos rfl, if_pos hl], o1, f, b, hpk p⟩ fun d' z p' z' => ?_)
      cases z'
      exact n
    · cases e
  | bo j =>
    simp only [store, Option.bind_eq_some_iff] at e
    obtain ⟨t, e1, e⟩ := e
    split at e
    · rename_i hi
      cases e
      obtain ⟨F', s', x, st⟩ := o.settled s
      obtain ⟨F2, s2, x2, rp, _⟩ := st.leak s' e1
      have hi2 : i < t.2.length := by rw [s2.len, ← s.len]; exact hi
      have hl : i < σ.length := by rw [← s.len]; exact hi
      exact q F2 (x.trans x2).ff (s2.storeS hi2 ⟨v, by rw [getσ, if_pos rfl, if_pos hl], rp⟩ fun d z => nomatch z)
    · cases e
theorem ps_asg' (g : Gd T N R X sc fbD Cg) {i : Nat} {e : Ex} {y : Str} {py spos : Pos} {value : Expr} (h1 : N[i]? = some y) (h2 : stOkB sc fbD y = true) (h3 : chkE T N e sc fbD value = true) (h4 : (if swB sc y py value then isLc e && justLoc sc y else true) = true) (h5 : (!(T.pins.contains i)) = true) :
    PS X (.Assign [.Name y py] value spos) (tS X.K B xw (evS R (.asg i e))) := by
  have key : PS X (.Assign [.Name y py] value spos) (tAsg (tE X.K B (evE R e)) (gName i)) := ⟨fun pins s σ H D I h => by
    have hs := sw_of g I.ok.kind (y := y) (py := py) (value := value) (l := spos.line)
    obtain ⟨l1, l2⟩ := st_of g h2
    cases hb : swB sc y py value with
    | false =>
      rw [hb] at hs
      exact (ps_set (by rw [g.hN]; exact g.nd) (by rw [g.hN]; exact h1) l1 (sE e g h3) hs l2).run pins s σ H D I h
    | true =>
      rw [hb] at hs h4
      simp only [if_true, Bool.and_eq_true] at h4
      obtain ⟨k1, k2⟩ := h4
      cases e <;> first | (cases k1; done) | skip
      · rename_i own uses p it kk vv
        cases value <;> first | (simp only [chkE, Bool.false_eq_true] at h3; done) | skip
        rename_i kx vx gens scope pos
        match gens, h3, h, hs with
        | [⟨tg, iter, [], n⟩], h3, h, hs =>
          simp only [chkE, Bool.and_eq_true, decide_eq_true_eq] at h3
          obtain ⟨⟨⟨⟨⟨⟨⟨rfl, -⟩, h1'⟩, h2'⟩, h3'⟩, h4'⟩, h5'⟩, h6'⟩ := h3
          have e0 : evE R (.dc own uses p it kk vv) = dcV R own uses p it kk vv := by
            funext env
            simp only [evE]
            rfl
          rw [e0] at h
          exact (ps_setDc' g h1 k2 hs (fun B => sI it g h4') h2' h3' h1' (fun {X'} ek g' B => ek ▸ sE kk g' h5') (fun {X'} ek g' B => ek ▸ sE vv g' h6') (sI_set it h4' X.env)).run pins s σ H D I h
        | [⟨_, _, _ :: _, _⟩], h3, _, _ => simp [chkE] at h3
      · rename_i own uses p it cs e'
        cases value <;> first | (simp only [chkE, Bool.false_eq_true] at h3; done) | skip
        rename_i elt gens scope pos
        match gens, h3, h, hs with
        | [⟨tg, iter, ifs, n⟩], h3, h, hs =>
          simp only [chkE, Bool.and_eq_true, decide_eq_true_eq] at h3
          obtain ⟨⟨⟨⟨⟨⟨rfl, h1'⟩, h2'⟩, h3'⟩, h4'⟩, h5'⟩, h6'⟩ := h3
          exact (ps_setLc' g h1 k2 hs (fun B => sI it g h4') h2' h3' h1' (fun {X'} ek g' => ek ▸ sC cs g' h5') (fun {X'} ek g' B => ek ▸ sE e' g' h6') (sI_set it h4' X.env)).run pins s σ H D I h
      · rename_i own uses own1 p it p1 it1 e'
        cases value <;> first | (simp only [chkE, Bool.false_eq_true] at h3; done) | skip
        rename_i elt gens scope pos
        match gens, h3, h, hs with
        | [⟨tg, iter, [], n⟩, ⟨tg1, iter1, [], n1⟩], h3, h, hs =>
          simp only [chkE, Bool.and_eq_true, decide_eq_true_eq] at h3
          obtain ⟨⟨⟨⟨⟨⟨⟨⟨⟨⟨⟨⟨rfl, rfl⟩, -⟩, -⟩, h1'⟩, h2'⟩, h3'⟩, h4'⟩, h5'⟩, h6'⟩, h7'⟩, h8'⟩, h9'⟩ := h3
          exact (ps_setLc2' g h1 k2 hs (fun B => sI it g h7') h4' h5' h1' h6' h2' h3' (fun {X'} ek g' B => ek ▸ sI it1 g' h8') (fun {X'} ek g' B => ek ▸ sE e' g' h9') (sI_set it h7' X.env) (sI_set it1 h8')).run pins s σ H D I h
        | [⟨_, _, _ :: _, _⟩, ⟨_, _, _, _⟩], h3, _, _ => simp [chkE] at h3
        | [⟨_, _, [], _⟩, ⟨_, _, _ :: _, _⟩], h3, _, _ => simp [chkE] at h3⟩
  have hpk : ∀ p, PinOk Cg i p := fun p q hq e => by
    rw [← g.pins] at h5
    have : i ∈ Cg.pin.map (·.1) := List.mem_map.mpr ⟨q, hq, e⟩
    simp only [Bool.not_eq_true'] at h5
    have h6 : (Cg.pin.map (·.1)).contains i = true := List.contains_iff_mem.mpr this
    rw [h6] at h5
    cases h5
  refine key.imp fun D σ H ⟨F, env, o, s, ev, q⟩ => ?_
  simp only [evS, Option.bind_eq_some_iff, Option.some.injEq] at ev
  obtain ⟨p, e1, env', e2, rfl⟩ := ev
  exact ⟨F, env, _, _, s, e1, fun v F1 H1 s1 x1 o1 => store_read hpk s1 o1 e2 fun F2 x2 s2 => q B rfl _ F2 H1 s2 (x1.ff.trans x2)⟩
theorem unp_read {is : List Nat} {e : Ex} {D : Ends} {σ : L2.St} {H : Hp} (h : tS X.K B xw (evS R (.unp is e)) D σ H) : tAsg (tE X.K B (evE R e)) (tP X.K Cg (fun d env => asgP env (.t is) d) is) D σ H := by
  obtain ⟨F, env, o, s, ev, q⟩ := h
  simp only [evS, Option.bind_eq_some_iff] at ev
  obtain ⟨p, e1, t, e2, ev⟩ := ev
  refine ⟨F, env, _, _, s, e1, fun v F1 H1 s1 x1 o1 => ?_⟩
  obtain ⟨F1', s1', y1, st1⟩ := o1.settled s1
  obtain ⟨F2, s2, x2, rp, _⟩ := st1.leak s1' e2
  split at ev
  · rename_i l hl
    simp only [Option.bind_eq_some_iff, Option.some.injEq] at ev
    obtain ⟨env', e3, rfl⟩ := ev
    rw [hl] at rp
    exact ⟨B, F2, _, _, env', s2, rp, e3, fun σ' s3 _ _ => q B rfl σ' F2 H1 s3 (x1.trans (y1.trans x2)).ff⟩
  · rename_i l hl
    simp only [Option.bind_eq_some_iff, Option.some.injEq] at ev
    obtain ⟨env', e3, rfl⟩ := ev
    rw [hl] at rp
    exact ⟨B, F2, _, _, env', s2, rp, e3, fun σ' s3 _ _ => q B rfl σ' F2 H1 s3 (x1.trans (y1.trans x2)).ff⟩
  · cases ev
theorem ps_unp' (g : Gd T N R X sc fbD Cg) {is : List Nat} {e : Ex} {es : List Expr} {k : Nat} {pt spos : Pos} {value : Expr} (h1 : ptOk.tsOk N sc fbD is es = true) (h2 : noTup value = true) (h3 : chkE T N e sc fbD value = true) :
    PS X (.Assign [.Tuple es k pt] value spos) (tS X.K B xw (evS R (.unp is e))) := by
  have pg : PG X (.Tuple es k pt) (tP X.K Cg (fun d env => asgP env (.t is) d) is) := pg_p g (p := .t is) (e := .Tuple es k pt) (by simpa [ptOk] using h1) (by simp [ptIn])
  exact (ps_asg (sE e g h3) pg (by cases value <;> rfl) (by cases value <;> first | rfl | (simp [noTup] at h2))).imp fun D σ H h => unp_read h
theorem ps_app' (g : Gd T N R X sc fbD Cg) {i : Nat} {e : Ex} {x : Str} {px apos cpos spos : Pos} {ea : Expr} (h1 : N[i]? = some x) (h2 : visB sc x = true) (h3 : nameOk x = true) (hl : (apos.endLine == cpos.line) = true) (hs : noStar ea = true) (h4 : chkE T N e sc fbD ea = true) :
    PS X (.Expr (.Call (.Attribute (.Name x px) "append" apos) [ea] [] cpos) spos) (tS X.K B xw (evS R (.app i e))) :=
  (ps_expr (pe_bm PySem.F.plainAttrs_list PySem.F.slot_list_append PySem.F.type_list_append mt_append (pe_var (i := i) (by rw [g.hN]; exact h1) (vis_of g h2) (dbg_of h3).1 (dbg_of h3).2) (pa_cons (sE (B := B) e g h4) pa_nil (star_of hs _)) (hfew := by rw [star_of hs]; rfl) (hline := hl) (hs := star_of hs _))).imp fun D σ H ⟨F, env, o, s, ev, q⟩ => by
    simp only [evS] at ev
    split at ev
    · rename_i l0 h0
      simp only [Option.bind_eq_some_iff] at ev
      obtain ⟨p, e1, t, e2, ev⟩ := ev
      split at ev
      · rename_i l hl
        split at ev
        · rename_i hb
          simp only [Option.some.injEq] at ev
          subst ev
          obtain ⟨a, ea, o0, _⟩ := s.ownAt h0
          obtain ⟨xs0, e0, _⟩ := o0
          refine ⟨_, ea, .inl ⟨rfl, _, .inl (.inl e0)⟩, F, env, _, _, s, e1, fun v F1 H1 s1 x1 o1 => ?_⟩
          obtain ⟨F1', s1', y1, st1⟩ := o1.settled s1
          obtain ⟨F2, s2, x2, rp, _⟩ := st1.leak s1' e2
          obtain ⟨a', ea', o2, _⟩ := s2.ownAt hl
          rw [ea] at ea'; cases ea'
          obtain ⟨xs, e3, r3⟩ := id o2
          obtain ⟨s3, x3⟩ := s2.change (o := .lst (xs ++ [v])) (d' := .lst (l ++ [t.1])) hl ea ⟨_, upd_same, r3.append (.one rp)⟩
          exact ⟨a, xs, v, rfl, rfl, e3, by rw [r3.length]; exact big_lt (Nat.le_of_lt hb), q B rfl σ F2 _ s3 (x1.trans (y1.trans x2)).ff⟩
        · cases ev
      · cases ev
    · cases ev
theorem put_set (g : Gd T N R X sc fbD Cg) {i : Nat} {F H : Hp} {σ : L2.St} {env env' : En} {k d : D} {v w : V} {p : Addr} (s : SR X.K B F H σ env) (hp : σ[i]? = some (some (.ref p))) (rk : Rp X.K F v k) (rd : Rp X.K F w d) (e : putV i k d env = some env')
    {pins : List (Addr × Obj)} {sh : Shared} {iv u : Value} (I : Inv X pins σ H sh) (ri : RelV v iv) (ru : RelV w u) :
    wpAny (model X.prog X.w) X.A (setItem (.ref p) iv u) (fun _ s' => ∃ H', Inv X pins σ H' s' ∧ SR X.K B F H' σ env') X.xe sh := by
  have hu : X.A.units + 1 < cLine := by have := g.un; omega
  unfold putV at e
  split at e
  · rename_i kvs h
    simp only [Option.bind_eq_some_iff] at e
    obtain ⟨y, hy, e⟩ := e
    split at e
    · rename_i hl
      cases e
      obtain ⟨q, eq, o, _⟩ := s.ownAt h
      rw [hp] at eq; cases eq
      obtain ⟨xs, e6, r6⟩ := id o
      have := key_kV (H := H) (.inl rk) hy
      subst this
      obtain ⟨s2, _⟩ := s.change (o := .dK (putK xs y w)) (d' := .dk (putD kvs y d)) h hp ⟨_, upd_same, r6.put rd⟩
      exact d_setItem hu I (.inl ⟨xs, y, e6, rfl, by rw [r6.length]; exact big_lt (Nat.le_of_lt hl), rfl⟩) ri ru fun s' I' => ⟨_, I', s2⟩
    · cases e
  · rename_i kvs h
    split at e
    · rename_i l
      simp only [Option.bind_eq_some_iff] at e
      obtain ⟨y, hy, e⟩ := e
      split at e
      · rename_i hl
        cases e
        obtain ⟨q, eq, o, _⟩ := s.ownAt h
        rw [hp] at eq; cases eq
        obtain ⟨xs, e6, r6⟩ := id o
        cases rk with
        | tup hb rb =>
          have := keyL_kV (H := H) rb hy
          subst this
          obtain ⟨s2, _⟩ := s.change (o := .dT (putK xs y w)) (d' := .dt (putD kvs y d)) h hp ⟨_, upd_same, r6.put rd⟩
          exact d_setItem hu I (.inr ⟨xs, y, _, e6, rfl, s.frz _ _ hb, by rw [r6.length]; exact big_lt (Nat.le_of_lt hl), rfl⟩) ri ru fun s' I' => ⟨_, I', s2⟩
      · cases e
    · cases e
  · rename_i l h
    split at e
    · rename_i j
      simp only [Option.bind_eq_some_iff, Option.some.injEq] at e
      obtain ⟨j', hj, rfl⟩ := e
      obtain ⟨q, eq, o, _⟩ := s.ownAt h
      rw [hp] at eq; cases eq
      obtain ⟨xs, e6, r6⟩ := id o
      cases rk
      obtain ⟨s2, _⟩ := s.change (o := .lst (xs.set j' w)) (d' := .lst (l.set j' d)) h hp ⟨_, upd_same, r6.set rd j'⟩
      exact set_list pins sh σ H (.ref p) (.int j) w _ iv u (fun H' => SR X.K B F H' σ _) I rfl ri ru ⟨p, xs, j, j', rfl, rfl, e6, by rw [r6.length]; exact hj, s2⟩
    · cases e
  · cases e
theorem ps_put' (g : Gd T N R X sc fbD Cg) {i : Nat} {k e : Ex} {x : Str} {px p2 spos : Pos} {ek value : Expr} (h1 : N[i]? = some x) (h2 : visB sc x = true) (h3 : nameOk x = true) (h4 : chkE T N k sc fbD ek = true) (h5 : chkE T N e sc fbD value = true) :
    PS X (.Assign [.Subscript (.Name x px) ek p2] value spos) (tS X.K B xw (evS R (.put i k e))) := by
  refine ⟨fun pins s σ H D I ⟨F, env, o, sr, ev, q⟩ => ?_⟩
  simp only [evS] at ev
  split at ev
  · rename_i d0 h0
    simp only [Option.bind_eq_some_iff, Option.some.injEq] at ev
    obtain ⟨p, e1, t, e2, p3, e3, z, e4, env', e5, rfl⟩ := ev
    obtain ⟨a, ea, _⟩ := sr.ownAt h0
    have pv' : PE X (.Name x px) (tVar i) := pe_var (i := i) (by rw [g.hN]; exact h1) (vis_of g h2) (dbg_of h3).1 (dbg_of h3).2
    refine wpAny_Assign_Subscript (thn ((sE (B := B) e g h5).run pins s σ H (fun w H1 => ∃ F1, SR X.K B F1 H1 σ t.2 ∧ Ext F F1 ∧ Rp X.K F1 w t.1) I ⟨F, env, _, _, sr, e1, fun v F1 H1 s1 x1 o1 => ?_⟩) fun r s1 ⟨w, H1, I1, rw1, F1, s1', x1, rp⟩ =>
      thn (pv'.run pins s1 σ H1 (fun v H2 => v = .ref a ∧ H2 = H1) I1 ⟨_, ea, rfl, rfl⟩) fun u s2 ⟨xv, H2, I2, rx, ex, eH⟩ =>
      thn ((sE (B := B) k g h4).run pins s2 σ H2 (fun v H3 => ∃ F3, SR X.K B F3 H3 σ z.2 ∧ Ext F1 F3 ∧ Rp X.K F3 v z.1) I2 (by subst eH; exact ⟨F1, t.2, _, _, s1', e3, fun v F2 H3 s3 x3 o3 => by
        obtain ⟨F2', s3', y3, st3⟩ := o3.settled s3
        obtain ⟨F4, s4, x4, rp4, _⟩ := st3.leak s3' e4
        exact ⟨F4, s4, x3.trans (y3.trans x4), rp4⟩⟩)) fun iv s3 ⟨y, H3, I3, ry, F3, s3', x3, rp3⟩ => ?_) (by unfold swapsWith; cases value <;> rfl)
    · obtain ⟨F1', s1', y1, st1⟩ := o1.settled s1
      obtain ⟨F2, s2, x2, rp, _⟩ := st1.leak s1' e2
      exact ⟨F2, s2, x1.trans (y1.trans x2), rp⟩
    · subst ex
      cases rx
      refine thn (put_set g s3' ea rp3 (rp.mono x3.ff) e5 I3 ry rw1) fun _ s4 ⟨H4, I4, s5⟩ => ?_
      exact ⟨σ, H4, I4, q B rfl σ F3 H4 s5 (x1.trans x3).ff⟩
  · cases ev

/-! ### blocks -/
theorem swp_of (g : Gd T N R X sc fbD Cg) (hk : X.env.scope.kind = .function) {x y : Str} {px py pt p2 : Pos} {kt k2 : Nat} {ea eb : Expr} (h1 : justLoc sc x = true) (h2 : justLoc sc y = true) (hl : (py.line == px.line) = true) (hxy : (x == y) = false)
    (s1 : noStar ea = true) (s2 : noStar eb = true) (hf : (foldedForSure 8 ea && foldedForSure 8 eb) = false) (hc : (constantsAlone 8 ea && constantsAlone 8 eb) = false) :
    swappedStores [.Tuple [.Name x px, .Name y py] kt pt] (.Tuple [ea, eb] k2 p2) X.env = pure (some [x, y]) := by
  have hb : X.env.blockKind = .function := by unfold Env.blockKind; rw [hk]; rfl
  have hj : ∀ z, justLoc sc z = true → X.env.kindOf z = some NameKind.local := fun z hz => by
    unfold Env.kindOf
    rw [g.hsc]
    unfold justLoc at hz
    split at hz
    · assumption
    · cases hz
  have st : ∀ e : Expr, noStar e = true → (match e with | .Starred .. => true | _ => false) = false := fun e h => by cases e <;> first | rfl | cases h
  have e1 := hj x h1
  have e2 := hj y h2
  have a1 := st ea s1
  have a2 := st eb s2
  have hyx : (y == x) = false := by
    rw [Bool.eq_false_iff] at hxy ⊢
    intro h
    exact hxy (by rw [beq_iff_eq] at h ⊢; exact h.symm)
  have hl' : (px.line == px.line) = true := by simp
  unfold swappedStores
  simp only [List.length_cons, List.length_nil, hb, List.any_cons, List.any_nil, a1, a2, List.head?_cons, Option.map_some, Option.getD_some, Expr.pos, List.filterMap_cons, List.filterMap_nil, e1, e2, hl, hl', List.all_cons, List.all_nil, Bool.and_true, hf, hc]
  simp [List.eraseDups, List.eraseDupsBy, List.eraseDupsBy.loop, hxy, hyx]
  intro h
  exfalso
  rcases h with h | h
  · cases ea <;> first | (cases s1; done) | (cases h; done)
  · cases eb <;> first | (cases s2; done) | (cases h; done)
theorem parArgs_spec {N : List Str} {sc : Scope} {i j : Nat} {st : Stmt} {es : Expr × Expr} (h : parArgs N sc i j st = some es) : ∃ x px y py kt pt k2 p2 spos, st = .Assign [.Tuple [.Name x px, .Name y py] kt pt] (.Tuple [es.1, es.2] k2 p2) spos ∧
    N[i]? = some x ∧ N[j]? = some y ∧ (x == y) = false ∧ i ≠ j ∧ justLoc sc x = true ∧ justLoc sc y = true ∧ (py.line == px.line) = true ∧ noStar es.1 = true ∧ noStar es.2 = true ∧ (foldedForSure 8 es.1 && foldedForSure 8 es.2) = false ∧ (constantsAlone 8 es.1 && constantsAlone 8 es.2) = false := by
  unfold parArgs at h
  split at h
  · split at h
    · rename_i hh
      cases h
      simp only [Bool.and_eq_true, decide_eq_true_eq, Bool.not_eq_true'] at hh
      obtain ⟨⟨⟨⟨⟨⟨⟨⟨⟨⟨n1, n2⟩, hxy⟩, hij⟩, h1⟩, h2⟩, hl⟩, s1⟩, s2⟩, hf⟩, hc⟩ := hh
      exact ⟨_, _, _, _, _, _, _, _, _, rfl, n1, n2, hxy, hij, h1, h2, hl, s1, s2, hf, hc⟩
    · cases h
  · cases h
theorem ps_par' (g : Gd T N R X sc fbD Cg) {i j : Nat} {a b : Ex} {st : Stmt} {es : Expr × Expr} (he : parArgs N sc i j st = some es) (c1 : chkE T N a sc fbD es.1 = true) (c2 : chkE T N b sc fbD es.2 = true) :
    PS X st (tS X.K B xw (evS R (.par i j a b))) := ⟨fun pins s σ H D I ⟨F, env, o, sr, ev, q⟩ => by
  obtain ⟨x, px, y, py, kt, pt, k2, p2, spos, rfl, n1, n2, hxy, hij, h1, h2, hl, s1, s2, hf, hc⟩ := parArgs_spec he
  have hw := swp_of g I.ok.kind (pt := pt) (p2 := p2) (kt := kt) (k2 := k2) h1 h2 hl hxy s1 s2 hf hc
  refine (ps_par (i := i) (j := j) g.calm (by rw [g.hN]; exact g.nd) (by rw [g.hN]; exact n1) (by rw [g.hN]; exact n2) hij (just_of g h1) (just_of g h2) (pa_cons (sE (B := B) a g c1) (pa_cons (sE (B := B) b g c2) pa_nil (star_of s2 _)) (star_of s1 _)) hw rfl).run pins s σ H D I ?_
  simp only [evS, Option.bind_eq_some_iff] at ev
  obtain ⟨⟨r1, env1⟩, e1, ⟨r2, env2⟩, e2, ev⟩ := ev
  split at ev
  · rename_i d1 d2 z1 z2
    have z1' : r1 = .sh d1 := z1
    have z2' : r2 = .sh d2 := z2
    subst z1' z2'
    split at ev
    · rename_i hh
      cases ev
      refine ⟨F, env, _, _, sr, e1, fun v F1 H1 t1 x1 o1 => ⟨F1, env1, _, _, t1, e2, fun w F2 H2 t2 x2 o2 => ⟨v, w, rfl, ?_⟩⟩⟩
      have p1 : Rp X.K F1 v d1 := o1
      have p2 : Rp X.K F2 w d2 := o2
      have hi : i < env2.length := hh.1
      have hj : j < env2.length := hh.2
      have li : i < σ.length := by rw [← t2.len]; exact hi
      have t3 := t2.storeS (i := i) (v := v) (sl := .sh d1) hi ⟨v, by rw [getσ, if_pos rfl, if_pos li], p1.mono x2.ff⟩ fun d z => nomatch z
      have t4 := t3.storeS (i := j) (v := w) (sl := .sh d2) (by rw [List.length_set]; exact hj) ⟨w, by rw [getσ, if_pos rfl, if_pos (by rw [List.length_set, ← t2.len]; exact hj)], p2⟩ fun d z => nomatch z
      exact q B rfl _ F2 H2 t4 (x1.ff.trans x2.ff)
    · cases ev
  · cases ev⟩
theorem ps_aug' (g : Gd T N R X sc fbD Cg) {i : Nat} {e : Ex} {x : Str} {px spos : Pos} {ea : Expr} (n1 : N[i]? = some x) (h2 : stOkB sc fbD x = true) (c1 : chkE T N e sc fbD ea = true) :
    PS X (.AugAssign (.Name x px) .Add ea spos) (tS X.K B xw (evS R (.aug i e))) := by
  obtain ⟨l1, l2⟩ := st_of g h2
  refine (ps_aug (i := i) (by rw [g.hN]; exact g.nd) (by rw [g.hN]; exact n1) l1 (sE (B := B) e g c1) ip_add l2).imp fun D σ H ⟨F, env, o, sr, ev, q⟩ => ?_
  simp only [evS] at ev
  split at ev
  · rename_i m hm
    simp only [Option.bind_eq_some_iff] at ev
    obtain ⟨⟨r1, env1⟩, e1, ev⟩ := ev
    split at ev
    · rename_i n z1
      have z1' : r1 = .sh (.int n) := z1
      subst z1'
      split at ev
      · rename_i hi
        cases ev
        obtain ⟨v, hv, rv⟩ := sr.sh hm
        cases rv
        refine ⟨_, hv, F, env, _, _, sr, e1, fun w F1 H1 t1 x1 o1 => ?_⟩
        cases o1
        refine ⟨m, n, rfl, rfl, ?_⟩
        have li : i < σ.length := by rw [← t1.len]; exact hi
        have t3 := t1.storeS (i := i) (v := .int (m + n)) (sl := .sh (.int (m + n))) hi ⟨.int (m + n), by rw [getσ, if_pos rfl, if_pos li], .int _⟩ fun d z => nomatch z
        exact q B rfl _ F1 H1 t3 x1.ff
      · cases ev
    · cases ev
  · cases ev
theorem pss_nil' : PSs X [] (tS X.K B xw (evSs R .nil)) := ⟨fun pins s σ H D I ⟨F, env, o, sr, ev, q⟩ => by
  simp only [evSs, Option.some.injEq] at ev
  subst ev
  exact pss_nil.run pins s σ H D I (q B rfl σ F H sr (.refl _))⟩
theorem pss_ex {sts : List Stmt} {b0 : Hp} {f : En → Option Out} (h : ∀ B : Bs Cg, PSs X sts (tS X.K B xw f)) : PSs X sts (fun D σ H => ∃ B : Bs Cg, B.b0 = b0 ∧ tS X.K B xw f D σ H) := ⟨fun pins s σ H D I ⟨B, _, q⟩ => (h B).run pins s σ H D I q⟩
theorem pss_cons' {st : Stmt} {sts : List Stmt} {a : Ts.St} {as : Sts} (h1 : PS X st (tS X.K B xw (evS R a))) (h2 : ∀ B : Bs Cg, PSs X sts (tS X.K B xw (evSs R as))) : PSs X (st :: sts) (tS X.K B xw (evSs R (.cons a as))) := ⟨fun pins s σ H D I ⟨F, env, o, sr, ev, q⟩ => by
  simp only [evSs, Option.bind_eq_some_iff] at ev
  obtain ⟨o1, e1, ev⟩ := ev
  refine (pss_cons h1 (pss_ex (b0 := B.b0) h2)).run pins s σ H D I ⟨F, env, o1, sr, e1, ?_⟩
  cases o1 with
  | nx e => exact fun B' hB σ' F' H' s' x => ⟨B', hB, F', e, o, s', ev, (q.mono x).b0 hB⟩
  | bk e => cases ev; exact q
  | ct e => cases ev; exact q
  | rt e => cases ev; exact q
  | rx e c fs => cases ev; exact q⟩
theorem pss_un' {sts : List Stmt} {i : Nat} {as : Sts} (h2 : ∀ B : Bs Cg, PSs X sts (tS X.K B xw (evSs R as))) : PSs X sts (tS X.K B xw (evSs R (.un i as))) := ⟨fun pins s σ H D I ⟨F, env, o, sr, ev, q⟩ => by
  simp only [evSs] at ev
  split at ev
  · rename_i ls hls
    split at ev
    · rename_i hl
      obtain ⟨B', F', hb, x, s'⟩ := sr.unN hls hl
      exact (h2 B').run pins s σ H D I ⟨F', _, o, s', ev, (q.mono x).b0 hb⟩
    · cases ev
  · cases ev⟩
theorem ps_if' {c : Ex} {a b : Sts} {ec : Expr} {sa sb : List Stmt} {pos : Pos} (hc : PT X ec (tT X.K B (evE R c))) (ha : PSs X sa (tS X.K B xw (evSs R a))) (hb : PSs X sb (tS X.K B xw (evSs R b))) : PS X (.If ec sa sb pos) (tS X.K B xw (evS R (.ifs c a b))) :=
  (ps_if hc ha hb).imp fun D σ H ⟨F, env, o, s, ev, q⟩ => by
    simp only [evS, Option.bind_eq_some_iff] at ev
    obtain ⟨⟨r1, env1⟩, e1, ev⟩ := ev
    split at ev
    · rename_i h
      have h' : r1 = .sh (.bl true) := h
      subst h'
      exact ⟨F, env, true, env1, s, e1, fun F1 H1 s1 x1 => iteT ⟨F1, env1, o, s1, ev, q.mono x1.ff⟩⟩
    · rename_i h
      have h' : r1 = .sh (.bl false) := h
      subst h'
      exact ⟨F, env, false, env1, s, e1, fun F1 H1 s1 x1 => iteF ⟨F1, env1, o, s1, ev, q.mono x1.ff⟩⟩
    · cases ev
/-- behind a turn -/
theorem out_wipe {D' : Ends} {F : Hp} {w : List Nat} {o : Out} (h1 : ∀ e, wipeOut w o = .nx e → ∀ B' : Bs Cg, B'.b0 = B.b0 → ∀ σ' F' H', SR X.K B' F' H' σ' e → Same F F' → D'.nx σ' H') (h2 : ∀ e, wipeOut w o = .ct e → ∀ B' : Bs Cg, B'.b0 = B.b0 → ∀ σ' F' H', SR X.K B' F' H' σ' e → Same F F' → D'.ct σ' H')
    (h3 : ∀ e, wipeOut w o = .bk e → ∀ B' : Bs Cg, B'.b0 = B.b0 → ∀ σ' F' H', SR X.K B' F' H' σ' e → Same F F' → D'.bk σ' H') (h4 : ∀ nv, wipeOut w o = .rt nv → ∀ B' : Bs Cg, B'.b0 = B.b0 → ∀ v F' H', RetOk X.K B' F' H' nv v → Same F F' → D'.rt v H')
    (h5 : ∀ e c fs, wipeOut w o = .rx e c fs → xOk X.K B F xw e c fs) : OutOk X.K B F xw D' o := by
  cases o with
  | nx e => exact fun B' hB σ' F' H' s x => h1 _ rfl B' hB σ' F' H' (s.wipe w) x
  | bk e => exact fun B' hB σ' F' H' s x => h3 _ rfl B' hB σ' F' H' (s.wipe w) x
  | ct e => exact fun B' hB σ' F' H' s x => h2 _ rfl B' hB σ' F' H' (s.wipe w) x
  | rt nv => exact h4 nv rfl
  | rx e c fs => exact h5 e c fs rfl
theorem for_read {p : Pt} {it : Itx} {body : Sts} {w : List Nat} {vs : List Nat} {F : Hp} {env : En} {o : Out} {D : Ends} {σ : L2.St} {H : Hp} (s : SR X.K B F H σ env)
    (ev : ((evI R it env).bind fun q => forD (fun d e => (asgP e p d).bind fun e1 => (evSs R body e1).bind fun o => some (wipeOut w o)) q.1 q.2) = some o) (q : OutOk X.K B F xw D o) :
    tFor (tI X.K B (evI R it)) (tP X.K Cg (fun d env => asgP env p d) vs) (fun D σ H => ∃ B : Bs Cg, tS X.K B xw (evSs R body) D σ H) D σ H := by
  simp only [Option.bind_eq_some_iff] at ev
  obtain ⟨⟨ds, env1⟩, e1, ev⟩ := ev
  refine ⟨F, env, ds, env1, s, e1, fun J F1 H1 s1 x1 wk => ?_⟩
  generalize hst : (fun (d : Ts.D) (e : En) => (asgP e p d).bind fun e1 => (evSs R body e1).bind fun o => some (wipeOut w o)) = step at ev
  refine ⟨fun i m σ H => m = ds.length - i ∧ i ≤ ds.length ∧ ∃ (B2 : Bs Cg) (F2 : Hp) (env2 : En), B2.b0 = B.b0 ∧ SR X.K B2 F2 H σ env2 ∧ Same F1 F2 ∧ forD step (ds.drop i) env2 = some o, ⟨ds.length, by simp, Nat.zero_le _, B, F1, env1, rfl, s1, .refl _, by simpa using ev⟩, ?_⟩
  rintro i m σ H ⟨rfl, hi, B2, F2, env2, hb2', s2, x2, e2⟩
  by_cases hlt : i < ds.length
  · have hd : ds[i]? = some ds[i] := by simp [hlt]
    obtain ⟨go, yl⟩ := (wk i F2 H x2 s2.frz).1 _ hd
    rw [List.drop_eq_getElem_cons hlt] at e2
    simp only [forD, Option.bind_eq_some_iff] at e2
    obtain ⟨o1, hs1, e2⟩ := e2
    rw [← hst] at hs1
    simp only [Option.bind_eq_some_iff, Option.some.injEq] at hs1
    obtain ⟨e3, ha, o2, hb2, rfl⟩ := hs1
    refine .inr ⟨go, fun σ' H' => ∃ (B3 : Bs Cg) (F3 : Hp) (env3 : En), B3.b0 = B.b0 ∧ SR X.K B3 F3 H' σ' env3 ∧ Same F1 F3 ∧ forD step (ds.drop (i + 1)) env3 = some o, fun σ' H' ⟨B3, F3, env3, hb3, s3, x3, e3⟩ => ⟨ds.length - (i + 1), by omega, rfl, hlt, B3, F3, env3, hb3, s3, x3, e3⟩, fun x Hx hy => ?_⟩
    obtain ⟨Fx, sx, xx, ox⟩ := (yl x Hx hy).ok s2
    refine ⟨B2, Fx, env2, _, e3, sx, ox, ha, fun σ' sy _ _ => ⟨B2, Fx, e3, o2, sy, hb2, out_wipe (w := w) (fun e h B' hB σ' F' H' s' y => ?_) (fun e h B' hB σ' F' H' s' y => ?_) (fun e h B' hB σ' F' H' s' y => ?_) (fun nv h B' hB v F' H' s' y => ?_) fun e c fs h => ?_⟩⟩
    · rw [h] at e2
      exact ⟨B', F', e, hB.trans hb2', s', x2.trans (xx.ff.trans y), e2⟩
    · rw [h] at e2
      exact ⟨B', F', e, hB.trans hb2', s', x2.trans (xx.ff.trans y), e2⟩
    · rw [h] at e2
      cases e2
      exact q B' (hB.trans hb2') σ' F' H' s' (x1.ff.trans (x2.trans (xx.ff.trans y)))
    · rw [h] at e2
      cases e2
      exact q B' (hB.trans hb2') v F' H' s' (x1.ff.trans (x2.trans (xx.ff.trans y)))
    · rw [h] at e2
      cases e2
      exact (xOk.mono (x1.ff.trans (x2.trans xx.ff)) q).b0 hb2'
  · have ei : i = ds.length := by omega
    subst ei
    rw [List.drop_length] at e2
    simp only [forD, Option.some.injEq] at e2
    subst e2
    exact .inl ⟨(wk _ F2 H x2 s2.frz).2 (Nat.le_refl _), q B2 hb2' σ F2 H s2 (x1.ff.trans x2)⟩
theorem ps_for' {p : Pt} {it : Itx} {body : Sts} {w : List Nat} {tg iter : Expr} {sts : List Stmt} {pos : Pos} {vs : List Nat} (hp : PassesOwn (model X.prog X.w) X.A X.env X.xe) (hc : X.calm = true) (hi : PI X tg iter (tI X.K B (evI R it))) (hg : PG X tg (tP X.K Cg (fun d env => asgP env p d) vs))
    (hb : PSs X sts (fun D σ H => ∃ B : Bs Cg, tS X.K B xw (evSs R body) D σ H)) (hs : ∀ x, foldedSetIterable iter X.env x = pure x) : PS X (.For tg iter sts [] pos) (tS X.K B xw (evS R (.for_ p it body w))) := by
  exact (ps_for hp hc hi hg hb hs).imp fun D σ H ⟨F, env, o, s, ev, q⟩ => for_read s (by simpa only [evS] using ev) q
/-! ### for over a dict -/
theorem RetOk.flip {K : PySem.W.Frag} {Cg : Cfg} {B : Bs Cg} {F H : Hp} {nv : Nv} {v : V} (r : RetOk K B F H nv v) {d : Addr} {od : Obj} {u : HO} (hF : F d = some (.frz od u)) (hu : plainD u = true) (hn : noRx (.rt nv) = true) : RetOk K B (upd F d u) (upd H d u) nv v := by
  have hH := r.frz _ _ hF
  have hB : ∀ x, B d ≠ some x := fun x e => by
    have := r.dis d x e
    rw [hF] at this
    cases this
  have nt : isTbl u = false := by cases u <;> first | rfl | (simp [plainD] at hu)
  have dct : DctEq F (upd F d u) := flip_dct hF hu (.inr ⟨od, rfl⟩) (.inl rfl)
  refine ⟨fun b x e => ?_, same_upd2 r.frz, fun b x e => ?_, r.nf.put1 nt, r.tab.put1 (fun ps z => by rw [hH] at z; cases z), ?_⟩
  · have hb : b ≠ d := fun z => hB x (z ▸ e)
    rw [upd_ne hb]; exact r.bas b x e
  · have hb : b ≠ d := fun z => hB x (z ▸ e)
    rw [upd_ne hb]; exact r.dis b x e
  · have q := r.val
    cases nv with
    | sh x => exact q.dct dct
    | mu _ _ => cases hn
    | ex _ _ => cases hn
    | ow x =>
      obtain ⟨p, e, o, f, z⟩ := q
      have hp : p ≠ d := fun w => by rw [w, hF] at f; cases f
      exact ⟨p, e, o.dct dct (upd_ne hp), by rw [upd_ne hp]; exact f, z⟩
/-- behind a locked loop -/
theorem out_flip {F F1 : Hp} {D : Ends} {o : Out} {d : Addr} {od : Obj} {u : HO} (q : OutOk X.K B F xw D o) (hn : noRx o = true) (hF1 : F1 d = some (.frz od u)) (hu : plainD u = true) (hs : ∀ F2, Same F1 F2 → Same F (upd F2 d u)) :
    OutOk X.K B F1 xw ⟨fun σ' H' => H' d = some (.frz od u) ∧ D.nx σ' (upd H' d u), fun v H' => H' d = some (.frz od u) ∧ D.rt v (upd H' d u), fun σ' H' => H' d = some (.frz od u) ∧ D.bk σ' (upd H' d u), fun σ' H' => H' d = some (.frz od u) ∧ D.ct σ' (upd H' d u)⟩ o := by
  cases o with
  | nx e => exact fun B' hB σ' F' H' s' x => ⟨s'.frz _ _ (x _ _ hF1), q B' hB σ' _ _ (s'.flip (x _ _ hF1) hu (.inr ⟨od, rfl⟩) (.inl rfl)) (hs F' x)⟩
  | bk e => exact fun B' hB σ' F' H' s' x => ⟨s'.frz _ _ (x _ _ hF1), q B' hB σ' _ _ (s'.flip (x _ _ hF1) hu (.inr ⟨od, rfl⟩) (.inl rfl)) (hs F' x)⟩
  | ct e => exact fun B' hB σ' F' H' s' x => ⟨s'.frz _ _ (x _ _ hF1), q B' hB σ' _ _ (s'.flip (x _ _ hF1) hu (.inr ⟨od, rfl⟩) (.inl rfl)) (hs F' x)⟩
  | rt nv => exact fun B' hB v F' H' r x => ⟨r.frz _ _ (x _ _ hF1), q B' hB v _ _ (r.flip (x _ _ hF1) hu hn) (hs F' x)⟩
  | rx e c fs => cases hn
theorem forK_read {p : Pt} {body : Sts} {w : List Nat} {vs : List Nat} {items : List Ts.D} {F : Hp} {env : En} {o : Out} {D : Ends} {σ : L2.St} {H : Hp} {d : Addr} {u : HO} {J : It} (s : SR X.K B F H σ env) (hF : F d = some u) (wk : WkK J d u p items)
    (ev : forD (fun d e => (asgP e p d).bind fun e1 => (evSs R body e1).bind fun o => some (wipeOut w o)) items env = some o) (q : OutOk X.K B F xw D o) :
    tFor (fun _ _ Rr => Rr J H) (tPK X.K Cg p vs) (fun D σ H => ∃ B : Bs Cg, tS X.K B xw (evSs R body) D σ H) D σ H := by
  generalize hst : (fun (d : Ts.D) (e : En) => (asgP e p d).bind fun e1 => (evSs R body e1).bind fun o => some (wipeOut w o)) = step at ev
  refine ⟨fun i m σ H => m = items.length - i ∧ i ≤ items.length ∧ ∃ (B2 : Bs Cg) (F2 : Hp) (env2 : En), B2.b0 = B.b0 ∧ SR X.K B2 F2 H σ env2 ∧ Same F F2 ∧ forD step (items.drop i) env2 = some o, ⟨items.length, by simp, Nat.zero_le _, B, F, env, rfl, s, .refl _, by simpa using ev⟩, ?_⟩
  rintro i m σ H ⟨rfl, hi, B2, F2, env2, hb2', s2, x2, e2⟩
  have hHd : H d = some u := s2.frz _ _ (x2 _ _ hF)
  by_cases hlt : i < items.length
  · have hd : items[i]? = some items[i] := by simp [hlt]
    obtain ⟨go, yl⟩ := (wk i H hHd).1 _ hd
    rw [List.drop_eq_getElem_cons hlt] at e2
    simp only [forD, Option.bind_eq_some_iff] at e2
    obtain ⟨o1, hs1, e2⟩ := e2
    rw [← hst] at hs1
    simp only [Option.bind_eq_some_iff, Option.some.injEq] at hs1
    obtain ⟨e3, ha, o2, hb2, rfl⟩ := hs1
    refine .inr ⟨go, fun σ' H' => ∃ (B3 : Bs Cg) (F3 : Hp) (env3 : En), B3.b0 = B.b0 ∧ SR X.K B3 F3 H' σ' env3 ∧ Same F F3 ∧ forD step (items.drop (i + 1)) env3 = some o, fun σ' H' ⟨B3, F3, env3, hb3, s3, x3, e3⟩ => ⟨items.length - (i + 1), by omega, rfl, hlt, B3, F3, env3, hb3, s3, x3, e3⟩, fun x Hx hy => ?_⟩
    obtain ⟨rfl, kv, hpt⟩ := yl x Hx hy
    refine ⟨B2, F2, env2, _, e3, s2, kv, hpt, ha, fun σ' sy _ _ => ⟨B2, F2, e3, o2, sy, hb2, out_wipe (w := w) (fun e h B' hB σ' F' H' s' y => ?_) (fun e h B' hB σ' F' H' s' y => ?_) (fun e h B' hB σ' F' H' s' y => ?_) (fun nv h B' hB v F' H' s' y => ?_) fun e c fs h => ?_⟩⟩
    · rw [h] at e2
      exact ⟨B', F', e, hB.trans hb2', s', x2.trans y, e2⟩
    · rw [h] at e2
      exact ⟨B', F', e, hB.trans hb2', s', x2.trans y, e2⟩
    · rw [h] at e2
      cases e2
      exact q B' (hB.trans hb2') σ' F' H' s' (x2.trans y)
    · rw [h] at e2
      cases e2
      exact q B' (hB.trans hb2') v F' H' s' (x2.trans y)
    · rw [h] at e2
      cases e2
      exact (xOk.mono x2 q).b0 hb2'
  · have ei : i = items.length := by omega
    subst ei
    rw [List.drop_length] at e2
    simp only [forD, Option.some.injEq] at e2
    subst e2
    exact .inl ⟨(wk _ H hHd).2 (Nat.le_refl _), q B2 hb2' σ F2 H s2 x2⟩
/-- one's own dict is shared and locked -/
theorem SR.lockOwn {K : PySem.W.Frag} {F H : Hp} {σ : L2.St} {env : En} (s : SR K B F H σ env) {j : Nat} {d : Addr} {u : HO} {dd : Ts.D} (henv : env[j]? = some (.ow dd)) (hσ : σ[j]? = some (some (.ref d))) (hH : H d = some u) (hu : plainD u = true) (fd : F d = none) (bd : B d = none)
    (od : Obj) (rp : Rp K (upd F d (.frz od u)) (.ref d) dd) : SR K B (upd F d (.frz od u)) (upd H d (.frz od u)) σ (env.set j (.sh dd)) := by
  have nown : ¬ Owns σ (env.set j .u) d := owns_set_ne s (fun d e => nomatch e) hσ henv
  have s1 : SR K B F (upd H d (.frz od u)) σ (env.set j .u) := (s.wipe1 j).heap (fun c x z => by rw [upd_ne (fun y => by rw [y, bd] at z; cases z)]; exact s.bas c x z) (fun c x z => by rw [upd_ne (fun y => by rw [y, fd] at z; cases z)]; exact s.frz c x z) (fun q z => upd_ne fun y => nown (by rw [← y]; exact z)) (s.tab.put1 (fun ps z => by rw [hH] at z; cases z; simp [plainD] at hu))
  have s2 := s1.share (o := .frz od u) upd_same fd bd nown rfl
  have s3 := s2.put (i := j) (sl := .sh dd) ⟨_, hσ, rp⟩ fun d p e => nomatch e
  simpa [List.set_set] using s3
theorem ps_forK' (g : Gd T N R X sc fbD Cg) (hp : PassesOwn (model X.prog X.w) X.A X.env X.xe) {j : Nat} {y : Str} {py : Pos} {p : Pt} {body : Sts} {w : List Nat} {tg : Expr} {sts : List Stmt} {pos : Pos} (h1 : N[j]? = some y) (h2 : visB sc y = true) (h3 : nameOk y = true) (hpt : ptOk N sc fbD p tg = true)
    (hb : PSs X sts (fun D σ H => ∃ B : Bs Cg, tS X.K B xw (evSs R body) D σ H)) : PS X (.For tg (.Name y py) sts [] pos) (tS X.K B xw (evS R (.forK j p body w))) := by
  have hv := pe_var (X := X) (i := j) (x := y) (pos := py) (by rw [g.hN]; exact h1) (vis_of g h2) (dbg_of h3).1 (dbg_of h3).2
  obtain ⟨vs, hvs⟩ : ∃ vs, ptIn vs p = true := by
    cases p with
    | v i => exact ⟨[i], by simp [ptIn]⟩
    | t is => exact ⟨is, by simp [ptIn]⟩
  have base := ps_for (pos := pos) hp g.calm (pi_keys (tg := tg) hv) (pg_k g (vs := vs) hpt hvs) hb (fun _ => rfl)
  have base2 := ps_lock base
  refine ⟨fun pins s σ H D I ⟨F, env, o, sr, ev, q⟩ => ?_⟩
  simp only [evS, Option.bind_eq_some_iff] at ev
  obtain ⟨⟨dd, items⟩, hit, o', ev, hn⟩ := ev
  split at hn
  · rename_i hnr
    cases hn
    -- own
    have own : ∀ (u : HO) (d : Addr), plainD u = true → env[j]? = some (.ow dd) → σ[j]? = some (some (V.ref d)) → H d = some u → F d = none → B d = none → (∀ F1 : Hp, Same F F1 → Rd F1 d u → Rp X.K F1 (.ref d) dd) →
        (∀ od : Obj, ∃ J, WkK J d (.frz od u) p items ∧ ∀ (H1 : Hp) (Rr : It → Hp → Prop), H1 d = some (.frz od u) → Rr J H1 → iKeys (fun σ H Q => ∃ v, σ[j]? = some (some v) ∧ Q v H) σ H1 Rr) →
        tLock (tFor (iKeys fun σ H Q => ∃ v, σ[j]? = some (some v) ∧ Q v H) (tPK X.K Cg p vs) (fun D σ H => ∃ B : Bs Cg, tS X.K B xw (evSs R body) D σ H)) D σ H := by
      intro u d hu henv hσ hH fd bd rp mk
      refine ⟨d, u, hH, by cases u <;> first | trivial | (simp [plainD] at hu), fun od => ?_⟩
      obtain ⟨J, wk, hk⟩ := mk od
      have s1 := sr.lockOwn henv hσ hH hu fd bd od (rp _ (same_upd fd) (.inr ⟨od, upd_same⟩))
      refine hk _ _ upd_same (forK_read (vs := vs) s1 upd_same wk ev (out_flip q hnr upd_same hu fun F2 x b z e => ?_))
      by_cases hbd : b = d
      · rw [hbd, fd] at e; cases e
      · rw [upd_ne hbd]; exact x _ _ (by rw [upd_ne hbd]; exact e)
    have shr : ∀ (u : HO) (d : Addr), plainD u = true → env[j]? = some (.sh dd) → σ[j]? = some (some (V.ref d)) → Rd F d u →
        (∀ od : Obj, ∃ J, WkK J d (.frz od u) p items ∧ ∀ (H1 : Hp) (Rr : It → Hp → Prop), H1 d = some (.frz od u) → Rr J H1 → iKeys (fun σ H Q => ∃ v, σ[j]? = some (some v) ∧ Q v H) σ H1 Rr) →
        tFor (iKeys fun σ H Q => ∃ v, σ[j]? = some (some v) ∧ Q v H) (tPK X.K Cg p vs) (fun D σ H => ∃ B : Bs Cg, tS X.K B xw (evSs R body) D σ H) D σ H ∨
        tLock (tFor (iKeys fun σ H Q => ∃ v, σ[j]? = some (some v) ∧ Q v H) (tPK X.K Cg p vs) (fun D σ H => ∃ B : Bs Cg, tS X.K B xw (evSs R body) D σ H)) D σ H := by
      intro u d hu henv hσ hr mk
      have es : env.set j (.sh dd) = env := set_self henv
      rw [es] at ev
      rcases hr with hr | ⟨od, hr⟩
      · right
        refine ⟨d, u, sr.frz _ _ hr, by cases u <;> first | trivial | (simp [plainD] at hu), fun od => ?_⟩
        obtain ⟨J, wk, hk⟩ := mk od
        have s1 := sr.flip hr hu (.inl rfl) (.inr ⟨od, rfl⟩)
        refine hk _ _ upd_same (forK_read (vs := vs) s1 upd_same wk ev (out_flip q hnr upd_same hu fun F2 x b z e => ?_))
        by_cases hbd : b = d
        · rw [hbd, hr] at e; cases e; rw [hbd]; exact upd_same
        · rw [upd_ne hbd]; exact x _ _ (by rw [upd_ne hbd]; exact e)
      · left
        obtain ⟨J, wk, hk⟩ := mk od
        exact hk _ _ (sr.frz _ _ hr) (forK_read (vs := vs) sr hr wk ev q)
    have fin : tFor (iKeys fun σ H Q => ∃ v, σ[j]? = some (some v) ∧ Q v H) (tPK X.K Cg p vs) (fun D σ H => ∃ B : Bs Cg, tS X.K B xw (evSs R body) D σ H) D σ H ∨
        tLock (tFor (iKeys fun σ H Q => ∃ v, σ[j]? = some (some v) ∧ Q v H) (tPK X.K Cg p vs) (fun D σ H => ∃ B : Bs Cg, tS X.K B xw (evSs R body) D σ H)) D σ H := by
      cases hsl : env[j]? with
      | none => rw [hsl] at hit; cases hit
      | some sl =>
        rw [hsl] at hit
        cases sl with
        | u => cases hit
        | nw _ => cases hit
        | sh x =>
          cases x with
          | dk es =>
            cases hit
            obtain ⟨v, hσ, rp⟩ := sr.sh hsl
            cases rp with
            | @dk a kvs _ hr rK =>
              exact shr (.dK kvs) a rfl hsl hσ hr fun od => ⟨_, wkk_k rK, fun H1 Rr hd hR => ⟨_, hσ, a, od, rfl, .inl ⟨kvs, hd, hR⟩⟩⟩
          | dt es =>
            simp only [lkItemsO, lkItems] at hit
            split at hit
            · rename_i hp
              cases hit
              obtain ⟨v, hσ, rp⟩ := sr.sh hsl
              cases rp with
              | @dt a kvs _ hr rT =>
                exact shr (.dT kvs) a rfl hsl hσ hr fun od => ⟨_, wkk_t hp rT, fun H1 Rr hd hR => ⟨_, hσ, a, od, rfl, .inr ⟨kvs, hd, hR⟩⟩⟩
            · cases hit
          | _ => cases hit
        | ow x =>
          cases x with
          | dk es =>
            cases hit
            obtain ⟨d, hσ, ⟨kvs, hH, rK⟩, fd, bd, pk⟩ := sr.ownAt hsl
            exact .inr (own (.dK kvs) d rfl hsl hσ hH fd bd (fun F1 sm h => .dk h (rK.mono sm)) fun od => ⟨_, wkk_k rK, fun H1 Rr hd hR => ⟨_, hσ, d, od, rfl, .inl ⟨kvs, hd, hR⟩⟩⟩)
          | dt es =>
            simp only [lkItemsO] at hit
            split at hit
            · rename_i hp
              cases hit
              obtain ⟨d, hσ, ⟨kvs, hH, rT⟩, fd, bd, pk⟩ := sr.ownAt hsl
              exact .inr (own (.dT kvs) d rfl hsl hσ hH fd bd (fun F1 sm h => .dt h (rT.mono sm)) fun od => ⟨_, wkk_t hp rT, fun H1 Rr hd hR => ⟨_, hσ, d, od, rfl, .inr ⟨kvs, hd, hR⟩⟩⟩)
            · cases hit
          | _ => cases hit
    rcases fin with h | h
    · exact base.run pins s σ H D I h
    · exact base2.run pins s σ H D I h
  · cases hn
theorem swp_none {x y z x2 : Str} {p1 p2 p3 p4 p5 p6 p7 p8 : Pos} {kk k2 : Nat} {es : List Expr} {env : Env} : swappedStores [.Tuple [.Subscript (.Name x p1) (.Name y p2) p3, .Subscript (.Name x2 p4) (.Name z p5) p6] kk p7] (.Tuple es k2 p8) env = pure none := by
  unfold swappedStores
  dsimp only
  split
  · rfl
  · split
    · rfl
    · rfl
/-- x[a], x[b] = x[b], x[a] -/
theorem ps_swp' (g : Gd T N R X sc fbD Cg) {i a b : Nat} {x y z : Str} {p1 p2 p3 p4 p5 p6 p7 p8 spos : Pos} {kk k2 : Nat} {es : List Expr} (h1 : N[i]? = some x) (v1 : visB sc x = true) (n1 : nameOk x = true) (h2 : N[a]? = some y) (v2 : visB sc y = true) (n2 : nameOk y = true) (h3 : N[b]? = some z) (v3 : visB sc z = true) (n3 : nameOk z = true)
    (hv : chkE T N (.tup (.cons (.ix (.var i) (.var b)) (.cons (.ix (.var i) (.var a)) .nil))) sc fbD (.Tuple es k2 p8) = true) :
    PS X (.Assign [.Tuple [.Subscript (.Name x p1) (.Name y p2) p3, .Subscript (.Name x p4) (.Name z p5) p6] kk p7] (.Tuple es k2 p8) spos) (tS X.K B xw (evS R (.swp i a b))) := by
  have px1 : PE X (.Name x p1) (tVar i) := pe_var (i := i) (by rw [g.hN]; exact h1) (vis_of g v1) (dbg_of n1).1 (dbg_of n1).2
  have px4 : PE X (.Name x p4) (tVar i) := pe_var (i := i) (by rw [g.hN]; exact h1) (vis_of g v1) (dbg_of n1).1 (dbg_of n1).2
  have py : PE X (.Name y p2) (tVar a) := pe_var (i := a) (by rw [g.hN]; exact h2) (vis_of g v2) (dbg_of n2).1 (dbg_of n2).2
  have pz : PE X (.Name z p5) (tVar b) := pe_var (i := b) (by rw [g.hN]; exact h3) (vis_of g v3) (dbg_of n3).1 (dbg_of n3).2
  have hg := pg_tup (pos := p7) (k := kk) g.calm (pgs_cons (pg_sub (pos := p3) px1 py set_list) (pgs_cons (pg_sub (pos := p6) px4 pz set_list) pgs_nil))
  refine (ps_asg (pos := spos) (sE (B := B) _ g hv) hg rfl swp_none rfl).imp fun D σ H ⟨F, env, o, sr, ev, q⟩ => ?_
  simp only [evS] at ev
  split at ev
  · rename_i m s t hi ha hb
    simp only [Option.bind_eq_some_iff, Option.some.injEq] at ev
    obtain ⟨k, hk, j, hj, u, hu, v, hv2, rfl⟩ := ev
    have a1 : atI m t = some v := by unfold atI; rw [hj]; exact hv2
    have a2 : atI m s = some u := by unfold atI; rw [hk]; exact hu
    have c2 : 2 ≤ bigLine := by simp [bigLine]
    have e1 : evE R (.tup (.cons (.ix (.var i) (.var b)) (.cons (.ix (.var i) (.var a)) .nil))) env = some (.sh (.tup [v, u]), env) := by
      simp [evE, evL, hi, ha, hb, Rv.get, getAt, slD, ixV, a1, a2, leak, c2]
    refine ⟨F, env, _, env, sr, e1, fun w F1 H1 s1 x1 o1 => ?_⟩
    cases o1 with
    | tup hT rT =>
      rename_i T0 vs
      obtain ⟨p, ep, ⟨xs, hH, rl⟩, fp, bp, pk⟩ := s1.ownAt hi
      obtain ⟨va, eva, rva⟩ := s1.sh ha
      obtain ⟨vb, evb, rvb⟩ := s1.sh hb
      cases rva
      cases rvb
      cases rT with
      | cons rv rT =>
        cases rT with
        | cons ru rT =>
          cases rT
          obtain ⟨s2, _⟩ := s1.change (o := .lst (xs.set k _)) (d' := .lst (m.set k v)) hi ep ⟨_, upd_same, rl.set rv k⟩
          have hi2 : (env.set i (.ow (.lst (m.set k v))))[i]? = some (.ow (.lst (m.set k v))) := by
            rw [get_set, if_pos rfl, if_pos (lt_of_get hi)]
          obtain ⟨s3, _⟩ := s2.change (o := .lst ((xs.set k _).set j _)) (d' := .lst ((m.set k v).set j u)) hi2 ep ⟨_, upd_same, (rl.set rv k).set ru j⟩
          rw [List.set_set] at s3
          exact ⟨T0, _, rfl, .inl (.inl (s1.frz _ _ hT)), rfl, _, _, rfl, _, ep, _, eva, p, xs, s, k, rfl, rfl, hH, by rw [rl.length]; exact hk, _, _, rfl, _, ep, _, evb, p, _, t, j, rfl, rfl, upd_same, by rw [List.length_set, rl.length]; exact hj, rfl, q B rfl σ F1 _ s3 x1.ff⟩
  · cases ev
theorem pt_ex {e : Expr} {f : En → Option (Rv × En)} (h : ∀ B : Bs Cg, PT X e (tT X.K B f)) : PT X e (fun σ H Q => ∃ B : Bs Cg, tT X.K B f σ H Q) := ⟨fun pins s σ H Q I ⟨B, q⟩ => (h B).run pins s σ H Q I q⟩
theorem ps_while' {c : Ex} {body : Sts} {w : List Nat} {ec : Expr} {sts : List Stmt} {pos : Pos} (hp : PassesOwn (model X.prog X.w) X.A X.env X.xe) (hc : ∀ B : Bs Cg, PT X ec (tT X.K B (evE R c))) (hb : ∀ B : Bs Cg, PSs X sts (tS X.K B xw (evSs R body))) : PS X (.While ec sts [] pos) (tS X.K B xw (evS R (.while_ c body w))) := by
  refine (ps_while hp (pt_ex hc) (pss_ex (b0 := B.b0) hb)).imp fun D σ H ⟨F, env, o, s, ev, q⟩ => ?_
  simp only [evS] at ev
  generalize hst : (fun (e : En) => (evSs R body e).bind fun o => some (wipeOut w o)) = step at ev
  generalize hcd : (fun (e : En) => (evE R c e).bind fun p => match p.1 with | .sh (.bl b) => some (b, p.2) | _ => none) = cond at ev
  refine ⟨fun m σ H => ∃ (B2 : Bs Cg) (F2 : Hp) (env2 : En), B2.b0 = B.b0 ∧ SR X.K B2 F2 H σ env2 ∧ Same F F2 ∧ whileD cond step m env2 = some o, ⟨whileMost, B, F, env, rfl, s, .refl _, ev⟩, ?_⟩
  rintro m σ H ⟨B2, F2, env2, hb2', s2, x2, e2⟩
  cases m with
  | zero => cases e2
  | succ m =>
    simp only [whileD, Option.bind_eq_some_iff] at e2
    obtain ⟨⟨b, env3⟩, hc1, e2⟩ := e2
    rw [← hcd] at hc1
    simp only [Option.bind_eq_some_iff] at hc1
    obtain ⟨⟨r1, env4⟩, hc2, hc1⟩ := hc1
    split at hc1
    · rename_i k h
      have h' : r1 = .sh (.bl k) := h
      subst h'
      cases hc1
      refine ⟨B2, F2, env2, b, env4, s2, hc2, fun F3 H3 s3 x3 => ?_⟩
      cases b with
      | false =>
        simp only [Bool.false_eq_true, if_false, Option.some.injEq] at e2 ⊢
        subst e2
        exact q B2 hb2' σ F3 H3 s3 (x2.trans x3.ff)
      | true =>
        simp only [if_true, Option.bind_eq_some_iff] at e2 ⊢
        obtain ⟨o1, hs1, e2⟩ := e2
        rw [← hst] at hs1
        simp only [Option.bind_eq_some_iff, Option.some.injEq] at hs1
        obtain ⟨o2, hb2, rfl⟩ := hs1
        refine ⟨fun σ' H' => ∃ (B4 : Bs Cg) (F4 : Hp) (env5 : En), B4.b0 = B.b0 ∧ SR X.K B4 F4 H' σ' env5 ∧ Same F F4 ∧ whileD cond step m env5 = some o, fun σ' H' ⟨B4, F4, env5, hb4, s4, x4, e4⟩ => ⟨m, Nat.lt_succ_self m, B4, F4, env5, hb4, s4, x4, e4⟩, B2, hb2', F3, env4, o2, s3, hb2, out_wipe (w := w) (fun e h B' hB σ' F' H' s' y => ?_) (fun e h B' hB σ' F' H' s' y => ?_) (fun e h B' hB σ' F' H' s' y => ?_) (fun nv h B' hB v F' H' s' y => ?_) fun e c fs h => ?_⟩
        · rw [h] at e2
          exact ⟨B', F', e, hB.trans hb2', s', x2.trans (x3.ff.trans y), e2⟩
        · rw [h] at e2
          exact ⟨B', F', e, hB.trans hb2', s', x2.trans (x3.ff.trans y), e2⟩
        · rw [h] at e2
          cases e2
          exact q B' (hB.trans hb2') σ' F' H' s' (x2.trans (x3.ff.trans y))
        · rw [h] at e2
          cases e2
          exact q B' (hB.trans hb2') v F' H' s' (x2.trans (x3.ff.trans y))
        · rw [h] at e2
          cases e2
          exact (xOk.mono (x2.trans x3.ff) q).b0 hb2'
    · cases hc1
theorem ret_read {e : Ex} {F : Hp} {env : En} {p : Rv × En} {nv : Nv} {D : Ends} {σ : L2.St} {H : Hp} (s : SR X.K B F H σ env) (e1 : evE R e env = some p) (e2 : retV p.2 p.1 = some nv) (q : OutOk X.K B F xw D (.rt nv)) : tRet (tE X.K B (evE R e)) D σ H := by
    refine ⟨F, env, _, _, s, e1, fun v F1 H1 s1 x1 o1 => ?_⟩
    refine q B rfl v F1 H1 ⟨s1.bas, s1.frz, s1.dis, s1.nf, s1.tab, ?_⟩ x1.ff
    obtain ⟨r, env1⟩ := p
    cases r with
    | sh d => cases e2; exact o1
    | ow d =>
      cases e2
      obtain ⟨a, ea, o2, f, b, _⟩ := o1
      exact ⟨a, ea, o2, f, b⟩
    | bo j =>
      simp only [retV, Option.bind_eq_some_iff, Option.some.injEq] at e2
      obtain ⟨d, e3, rfl⟩ := e2
      obtain ⟨d', h1, h2⟩ := o1
      have h1 : env1[j]? = some (Sl.ow d') := h1
      simp only [getAt, h1, Option.bind_some, slD, Option.some.injEq] at e3
      subst e3
      obtain ⟨a, ea, o2, f, b, _⟩ := s1.ownAt h1
      rw [h2] at ea; cases ea
      exact ⟨a, rfl, o2, f, b⟩
theorem ps_ret' {e : Ex} {ea : Expr} {pos : Pos} (h : PE X ea (tE X.K B (evE R e))) : PS X (.Return (some ea) pos) (tS X.K B xw (evS R (.ret e))) :=
  (ps_ret h).imp fun D σ H ⟨F, env, o, s, ev, q⟩ => by
    simp only [evS, Option.bind_eq_some_iff, Option.some.injEq] at ev
    obtain ⟨p, e1, nv, e2, rfl⟩ := ev
    exact ret_read s e1 e2 q
theorem owAll_own {K : PySem.W.Frag} {Cg : Cfg} {B : Bs Cg} {F H : Hp} {σ : L2.St} {env : En} (s : SR K B F H σ env) : ∀ {l : List (Nat × Addr)} {fs : List D}, (∀ q ∈ l, q ∈ Cg.pin) → owAll env (l.map (·.1)) = some fs → OwnL K F H (l.map (·.2)) fs
  | [], fs, _, h => by simp only [List.map_nil, owAll, Option.some.injEq] at h; subst h; trivial
  | q :: l, fs, hl, h => by
    simp only [List.map_cons, owAll] at h
    split at h
    · rename_i d hd
      simp only [Option.bind_eq_some_iff, Option.some.injEq] at h
      obtain ⟨ds, h1, rfl⟩ := h
      obtain ⟨p, e, o, f, b, pk⟩ := s.ownAt hd
      have e5 : q.2 = p := pk q (hl q (List.mem_cons_self ..)) rfl
      exact ⟨by show OwnAt K F H q.2 d; rw [e5]; exact o, by show F q.2 = none; rw [e5]; exact f, owAll_own s (fun z hz => hl z (List.mem_cons_of_mem _ hz)) h1⟩
    · cases h
theorem ps_retM' (g : Gd T N R X sc fbD Cg) {ms : List Nat} {e : Ex} {ea : Expr} {pos : Pos} (hm : ms = T.pins) (h : PE X ea (tE X.K B (evE R e))) : PS X (.Return (some ea) pos) (tS X.K B xw (evS R (.retM ms e))) :=
  (ps_ret h).imp fun D σ H ⟨F, env, o, s, ev, q⟩ => by
    simp only [evS, Option.bind_eq_some_iff] at ev
    obtain ⟨⟨r, env1⟩, e1, ev⟩ := ev
    split at ev
    · rename_i d hd
      have hd' : r = .sh d := hd
      subst hd'
      simp only [Option.bind_eq_some_iff, Option.some.injEq] at ev
      obtain ⟨fs, e2, rfl⟩ := ev
      refine ⟨F, env, _, _, s, e1, fun v F1 H1 s1 x1 o1 => ?_⟩
      rw [hm, ← g.pins] at e2
      exact q B rfl v F1 H1 ⟨s1.bas, s1.frz, s1.dis, s1.nf, s1.tab, o1, owAll_own s1 (fun _ h => h) e2⟩ x1.ff
    · cases ev


/-! ### one's own lists of one's own lists; own exceptions -/
theorem evL_len {as : Exs} : ∀ {env env' : En} {ds : List D} {es : List Expr} {sc : Scope} {fb : Str → Bool}, chkL T N as sc fb es = true → evL R as env = some (ds, env') → ds.length = es.length := by
  induction as using Exs.rec (motive_1 := fun _ => True) (motive_3 := fun _ => True) (motive_4 := fun _ => True) with
  | nil =>
    intro env env' ds es sc fb h e
    cases es with
    | nil => simp only [evL, Option.some.injEq, Prod.mk.injEq] at e; rw [← e.1]; rfl
    | cons _ _ => simp [chkL] at h
  | cons a as _ ih =>
    intro env env' ds es sc fb h e
    cases es with
    | nil => simp [chkL] at h
    | cons x es =>
      simp only [chkL, Bool.and_eq_true] at h
      simp only [evL, Option.bind_eq_some_iff, Option.some.injEq, Prod.mk.injEq] at e
      obtain ⟨p, _, t, _, q, e3, e4, _⟩ := e
      rw [← e4]
      simp [ih h.2 e3]
  | _ => trivial
/-- where a def's statements may stand -/
structure Go (T : Tb) (X : Cx) (xw : Xw) : Prop where
  hp : PassesOwn (model X.prog X.w) X.A X.env X.xe
  tk : Takes X xw.W
  xc : xw.xcs = T.xcs
  mg : xw.mg = X.mg
  hs : X.stack = X.env :: X.outer
  hf : X.env.frame = some X.env.locals
theorem ps_asgN' (g : Gd T N R X sc fbD Cg) {i : Nat} {own uses : List Nat} {p : Pt} {it : Itx} {e : Ex} {y : Str} {py spos : Pos} {value : Expr} (h1 : N[i]? = some y) (h2 : justLoc sc y = true) (h3 : chkE T N (.lc own uses p it .nil e) sc fbD value = true) :
    PS X (.Assign [.Name y py] value spos) (tS X.K B xw (evS R (.asgN i own uses p it e))) := by
  have key : PS X (.Assign [.Name y py] value spos) (tAsg (tN X.K B (nwV R own uses p it e)) (gName i)) := ⟨fun pins s σ H D I h => by
    have hs := sw_of g I.ok.kind (y := y) (py := py) (value := value) (l := spos.line)
    cases value <;> first | (simp only [chkE, Bool.false_eq_true] at h3; done) | skip
    rename_i elt gens scope pos
    match gens, h3, h, hs with
    | [⟨tg, iter, ifs, n⟩], h3, h, hs =>
      simp only [chkE, Bool.and_eq_true, decide_eq_true_eq] at h3
      obtain ⟨⟨⟨⟨⟨⟨rfl, h1'⟩, h2'⟩, h3'⟩, h4'⟩, h5'⟩, h6'⟩ := h3
      have hifs : ifs = [] := by
        cases ifs with
        | nil => rfl
        | cons _ _ => simp [chkTs] at h5'
      subst hifs
      cases hb : swB sc y py (.ListComp elt [⟨tg, iter, [], 0⟩] scope pos) with
      | false =>
        rw [hb] at hs
        exact (ps_set (by rw [g.hN]; exact g.nd) (by rw [g.hN]; exact h1) (.inl (just_of g h2)) (pe_nw' g (fun B => sI it g h4') h2' h3' h1' (fun {X'} ek g' => ek ▸ sC .nil g' h5') (fun {X'} ek g' B => ek ▸ sE e g' h6') (sI_set it h4' X.env)) hs (.inr (just_of g h2))).run pins s σ H D I h
      | true =>
        rw [hb] at hs
        exact (ps_setNw' g h1 h2 hs (fun B => sI it g h4') h2' h3' h1' (fun {X'} ek g' => ek ▸ sC .nil g' h5') (fun {X'} ek g' B => ek ▸ sE e g' h6') (sI_set it h4' X.env)).run pins s σ H D I h⟩
  refine key.imp fun D σ H ⟨F, env, o, s, ev, q⟩ => ?_
  simp only [evS, Option.bind_eq_some_iff] at ev
  obtain ⟨⟨ls, env1⟩, e1, ev⟩ := ev
  split at ev
  · rename_i hi
    simp only [Option.some.injEq] at ev
    subst ev
    exact ⟨F, env, ls, env1, s, e1, fun B' v F' H' hB s' x no => nw_store s' hi no fun s2 => q B' hB _ F' H' s2 x.ff⟩
  · cases ev
theorem ps_put2' (g : Gd T N R X sc fbD Cg) {i : Nat} {a b e : Ex} {x : Str} {px p1 p2 spos : Pos} {ea eb value : Expr} (h1 : N[i]? = some x) (h2 : visB sc x = true) (h3 : nameOk x = true) (hsa : noSlice ea = true) (h4 : chkE T N a sc fbD ea = true) (h5 : chkE T N b sc fbD eb = true) (h6 : chkE T N e sc fbD value = true) :
    PS X (.Assign [.Subscript (.Subscript (.Name x px) ea p1) eb p2] value spos) (tS X.K B xw (evS R (.put2 i a b e))) := ⟨fun pins s σ H D I ⟨F, env, o, sr, ev, q⟩ => by
  simp only [evS, Option.bind_eq_some_iff, Option.some.injEq] at ev
  obtain ⟨env', e1, rfl⟩ := ev
  exact put2_run g h1 h2 h3 hsa (fun B => sE a g h4) (fun B => sE b g h5) (fun B => sE e g h6) I sr e1 (fun B' F' H' hB s' x => q B' hB σ F' H' s' x) (by unfold swapsWith; cases value <;> rfl)⟩
section
variable (g : Gd T N R X sc fbD Cg) (G : Go T X xw) {f : Nat} {as : Exs} {value : Expr} (hv : chkE T N (.callX f as) sc fbD value = true)
include g G hv
theorem pe_vX : PE X value (tEX X.K B R xw f as) := by
  cases value <;> first | (simp only [chkE, Bool.false_eq_true] at hv; done) | skip
  rename_i ef args kws pos
  cases ef <;> first | (simp only [chkE, Bool.false_eq_true] at hv; done) | skip
  match args, kws, hv with
  | ea :: es, [], h =>
    simp only [chkE, Bool.and_eq_true, decide_eq_true_eq] at h
    obtain ⟨⟨⟨h1, h2⟩, h3⟩, h4⟩ := h
    exact pe_callX' g G.tk G.xc G.mg (fun B => sA as g h4) h1 h2 h3 (chkL_star h4)
omit g G in
theorem sw_vX {sc' : Scope} {y : Str} {py : Pos} : swB sc' y py value = false := by
  cases value <;> first | rfl | (simp only [chkE, Bool.false_eq_true] at hv; done)
theorem ps_asgX' {i : Nat} {y : Str} {py spos : Pos} (h1 : N[i]? = some y) (h2 : stOkB sc fbD y = true) (h5 : (!(T.pins.contains i)) = true) :
    PS X (.Assign [.Name y py] value spos) (tS X.K B xw (evS R (.asgX i f as))) := by
  have key : PS X (.Assign [.Name y py] value spos) (tAsg (tEX X.K B R xw f as) (gName i)) := ⟨fun pins s σ H D I h => by
    have hs := sw_of g I.ok.kind (y := y) (py := py) (value := value) (l := spos.line)
    obtain ⟨l1, l2⟩ := st_of g h2
    rw [sw_vX hv] at hs
    exact (ps_set (by rw [g.hN]; exact g.nd) (by rw [g.hN]; exact h1) l1 (pe_vX g G hv) hs l2).run pins s σ H D I h⟩
  have hpk : ∀ p, PinOk Cg i p := fun p q hq e => by
    rw [← g.pins] at h5
    have : i ∈ Cg.pin.map (·.1) := List.mem_map.mpr ⟨q, hq, e⟩
    simp only [Bool.not_eq_true'] at h5
    have h6 : (Cg.pin.map (·.1)).contains i = true := List.contains_iff_mem.mpr this
    rw [h6] at h5
    cases h5
  refine key.imp fun D σ H ⟨F, env, o, s, ev, q⟩ => ?_
  simp only [evS] at ev
  split at ev
  · rename_i qx hx
    simp only [Option.some.injEq] at ev
    subst ev
    exact .inr ⟨F, env, _, s, hx, q⟩
  · simp only [Option.bind_eq_some_iff, Option.some.injEq] at ev
    obtain ⟨p, e1, env', e2, rfl⟩ := ev
    exact .inl ⟨F, env, _, _, s, e1, fun v F1 H1 s1 x1 o1 => store_read hpk s1 o1 e2 fun F2 x2 s2 => q B rfl _ F2 H1 s2 (x1.ff.trans x2)⟩
theorem ps_expX' {spos : Pos} : PS X (.Expr value spos) (tS X.K B xw (evS R (.expX f as))) := by
  have hn : noComp value = true := by cases value <;> first | rfl | (simp only [chkE, Bool.false_eq_true] at hv; done)
  refine (ps_expr (pe_vX (B := B) g G hv) (by cases value <;> first | rfl | (simp [noComp] at hn))).imp fun D σ H ⟨F, env, o, s, ev, q⟩ => ?_
  simp only [evS] at ev
  split at ev
  · rename_i qx hx
    simp only [Option.some.injEq] at ev
    subst ev
    exact .inr ⟨F, env, _, s, hx, q⟩
  · simp only [Option.bind_eq_some_iff, Option.some.injEq] at ev
    obtain ⟨p, e1, rfl⟩ := ev
    exact .inl ⟨F, env, _, _, s, e1, fun v F1 H1 s1 x1 o1 => q B rfl σ F1 H1 s1 x1.ff⟩
theorem ps_retX' {spos : Pos} : PS X (.Return (some value) spos) (tS X.K B xw (evS R (.retX f as))) := by
  refine (ps_ret (pe_vX (B := B) g G hv)).imp fun D σ H ⟨F, env, o, s, ev, q⟩ => ?_
  simp only [evS] at ev
  split at ev
  · rename_i qx hx
    simp only [Option.some.injEq] at ev
    subst ev
    exact .inr ⟨F, env, _, s, hx, q⟩
  · simp only [Option.bind_eq_some_iff, Option.some.injEq] at ev
    obtain ⟨p, e1, nv, e2, rfl⟩ := ev
    exact .inl (ret_read s e1 e2 q)
theorem ps_unpX' {is : List Nat} {es : List Expr} {k : Nat} {pt spos : Pos} (h1 : ptOk.tsOk N sc fbD is es = true) :
    PS X (.Assign [.Tuple es k pt] value spos) (tS X.K B xw (evS R (.unpX is f as))) := by
  have pg : PG X (.Tuple es k pt) (tP X.K Cg (fun d env => asgP env (.t is) d) is) := pg_p g (p := .t is) (e := .Tuple es k pt) (by simpa [ptOk] using h1) (by simp [ptIn])
  refine (ps_asg (pe_vX (B := B) g G hv) pg (by cases value <;> first | rfl | (simp only [chkE, Bool.false_eq_true] at hv)) (by cases value <;> first | rfl | (simp only [chkE, Bool.false_eq_true] at hv))).imp fun D σ H ⟨F, env, o, s, ev, q⟩ => ?_
  simp only [evS] at ev
  split at ev
  · rename_i qx hx
    simp only [Option.some.injEq] at ev
    subst ev
    exact .inr ⟨F, env, _, s, hx, q⟩
  · exact .inl (unp_read (e := .callX f as) ⟨F, env, o, s, by simpa only [evS] using ev, q⟩)
theorem ps_forX' {p : Pt} {body : Sts} {w : List Nat} {tg : Expr} {sts : List Stmt} {pos : Pos} (hpt : ptOk N sc fbD p tg = true)
    (hb : ∀ B : Bs Cg, PSs X sts (tS X.K B xw (evSs R body))) : PS X (.For tg value sts [] pos) (tS X.K B xw (evS R (.forX p f as body w))) := by
  refine (ps_for G.hp g.calm (pi_seq (pe_vX (B := B) g G hv)) (pg_p g (vs := match p with | .v i => [i] | .t is => is) hpt (by cases p <;> simp [ptIn])) (⟨fun pins s σ H D I ⟨B', q⟩ => (hb B').run pins s σ H D I q⟩ : PSs X sts (fun D σ H => ∃ B : Bs Cg, tS X.K B xw (evSs R body) D σ H)) (by intro x; cases value <;> first | rfl | (simp only [chkE, Bool.false_eq_true] at hv))).imp fun D σ H ⟨F, env, o, s, ev, q⟩ => ?_
  simp only [evS] at ev
  split at ev
  · rename_i qx hx
    simp only [Option.some.injEq] at ev
    subst ev
    exact Or.inr ⟨F, env, _, s, hx, q⟩
  · exact Or.inl (seq_read (for_read (it := .seq (.callX f as)) s ev q))
end
theorem ps_raise' (g : Gd T N R X sc fbD Cg) (G : Go T X xw) {c : Nat} {as : Exs} {nm : Str} {e : Expr} {es : List Expr} {p cpos pos : Pos} (h1 : (T.xcs[c]?.map fun q => (q.1, q.2.length)) = some (nm, es.length + 1)) (h2 : glB sc nm = true) (h3 : nameOk nm = true) (h4 : chkL T N as sc fbD (e :: es) = true) :
    PS X (.Raise (some (.Call (.Name nm p) (e :: es) [] cpos)) none pos) (tS X.K B xw (evS R (.raise c as))) := by
  obtain ⟨⟨nm', flds⟩, hc, hq⟩ := Option.map_eq_some_iff.mp h1
  simp only [Prod.mk.injEq] at hq
  obtain ⟨rfl, hl⟩ := hq
  obtain ⟨C, o⟩ := g.xc c nm' flds hc
  refine (ps_raise g.calm G.tk (pmk_x (B := B) g o (gl_of g h2) (sL as g h4) (dbg_of h3).1 (star_of (chkL_star h4 _ (List.mem_cons_self ..)) _) (back_of _ _ fun e he => chkL_star h4 e (List.mem_cons_of_mem _ he)))).imp fun D σ H ⟨F, env, out, s, ev, q⟩ => ?_
  simp only [evS, Option.bind_eq_some_iff, Option.some.injEq] at ev
  obtain ⟨⟨ds, env1⟩, e1, rfl⟩ := ev
  have hdl : ds.length = flds.length := by rw [evL_len h4 e1, hl]; rfl
  refine ⟨F, env, ds, env1, s, e1, hdl, fun vs F' H' d s' x rp hd => ?_⟩
  have s2 := s'.new (o := xdV flds vs) hd
  have s3 := s2.share (o := xdV flds vs) upd_same (s'.free hd) (s'.freeB hd) (s'.notOwn hd) rfl
  have e2 := same_upd (H := F') (o := xdV flds vs) (s'.free hd)
  exact q B rfl C flds d vs σ _ _ s3 (x.ff.trans e2) ⟨nm', by rw [G.xc]; exact hc, by rw [G.mg]; exact o.mgC⟩ hdl.symm upd_same (rp.mono e2)
/-- in a try's body -/
theorem Gd.tr (g : Gd T N R X sc fbD Cg) (pn : List (Addr × Obj)) (xe : Value → Shared → Prop) : Gd T N R (X.tr pn xe) sc fbD Cg :=
  ⟨g.hN, g.nd, g.hsc, g.calm, g.fn, g.un, g.calls, g.callsM, g.callsX, g.room, g.xc, g.hnd, g.iss, g.pins, g.gen, g.blt, g.rng, g.ot, g.cons⟩
theorem ps_try' (g : Gd T N R X sc fbD Cg) (G : Go T X xw) {body : Sts} {hs : List Nat} {i : Nat} {r : Rx} {sts suite : List Stmt} {b0 : Stmt} {x n : Str} {np pos pos' : Pos} (h1 : T.hcs.lookup x = some hs) (h2 : glB sc x = true) (h3 : nameOk x = true) (h4 : N[i]? = some n) (h5 : justLoc sc n = true) (h6 : nameOk n = true) (h7 : rxChk T.xcs n hs r (stripG T sc n hs (b0 :: suite)) = true)
    (hb : ∀ (W : WX) (pn : List (Addr × Obj)) (xe : Value → Shared → Prop), Go T (X.tr pn xe) { xw with W := W } → ∀ B : Bs Cg, PSs (X.tr pn xe) sts (tS X.K B { xw with W := W } (evSs R body))) :
    PS X (.Try sts [.ExceptHandler (some (.Name x np)) (some n) (b0 :: suite) pos'] [] [] pos) (tS X.K B xw (evS R (.try_ body hs hs i r))) := by
  obtain ⟨Ch, hm, hx⟩ := g.hnd x hs h1
  have hj := just_of g h5
  have hvis : Vis X.env.scope n := .inl hj
  refine (ps_try_as (X := X) (x := x) (n := n) (np := np) (pos' := pos') (i := i) (Wout := xw.W) G.hs G.hf (by rw [g.hN]; exact g.nd) (by rw [g.hN]; exact h4) hj ⟨gl_of g h2, (dbg_of h3).1, .inl hm⟩ G.tk (tb := fun W => tS X.K B { xw with W := W } (evSs R body))
    (fun W pn xe tk po => hb W pn xe ⟨po, tk, G.xc, G.mg, G.hs, G.hf⟩ B) (ts := fun a cls d => rxT T X hs i a cls d r) (fun a oe cls d pn hz hf => pss_rxG g hz hf (by rw [g.hN]; exact h4) hvis h6 h7)).imp fun D σ H ⟨F, env, o, s, ev, q⟩ => ?_
  simp only [evS, Option.bind_eq_some_iff] at ev
  obtain ⟨o1, e1, ev⟩ := ev
  refine ⟨F, env, o1, s, e1, ?_⟩
  cases o1 with
  | nx e => simp only [Option.some.injEq] at ev; subst ev; exact q
  | bk e => simp only [Option.some.injEq] at ev; subst ev; exact q
  | ct e => simp only [Option.some.injEq] at ev; subst ev; exact q
  | rt e => simp only [Option.some.injEq] at ev; subst ev; exact q
  | rx e c fs =>
    intro B' hB C flds d vs σ' F' H' s' x' hA hl hd rp
    obtain ⟨nm, a1, a2⟩ := hA
    have a1' : T.xcs[c]? = some (nm, flds) := by rw [← G.xc]; exact a1
    have a2' : X.mg nm = some (.ref C) := by rw [← G.mg]; exact a2
    refine ⟨hs.contains c, hx c nm flds C a1' a2', fun hc a ha => ?_, fun hc => ?_⟩
    · simp only [hc, if_true] at ev
      split at ev
      case isFalse => cases ev
      rename_i hle
      simp only [Option.bind_eq_some_iff, Option.some.injEq] at ev
      obtain ⟨dv, e2, rfl⟩ := ev
      obtain ⟨C2, o⟩ := g.xc c nm flds a1'
      have : C2 = C := by have := o.mgC; rw [a2'] at this; cases this; rfl
      subst this
      have hlt : i < σ'.length := by rw [← s'.len]; exact hle
      have ret : ∀ {v : V} {F2 H2 : Hp} (s2 : SR X.K B' F2 H2 σ' e), Same F' F2 → Rp X.K F2 v dv → D.rt v H2 := fun {v F2 H2} s2 x2 rv =>
        q B' hB v F2 H2 ⟨s2.bas, s2.frz, s2.dis, s2.nf, s2.tab, rv⟩ (x'.trans x2)
      refine ⟨vs, ⟨⟨nm, C2, flds, d, c, rfl, rfl, o, a1', hc, by rw [rp.length, hl], s'.frz _ _ hd⟩, by rw [getσ, if_pos rfl, if_pos hlt]⟩, ?_⟩
      cases r with
      | no =>
        simp only [Rx.ev, Option.some.injEq] at e2
        subst e2
        exact ret s' (.refl _) .non
      | f1 k =>
        simp only [Rx.ev, if_true] at e2
        obtain ⟨v, hv, rv⟩ := rp.get e2
        exact ⟨v, hv, ret s' (.refl _) rv⟩
      | f2 j k =>
        simp only [Rx.ev, if_true, Option.bind_eq_some_iff, Option.some.injEq] at e2
        obtain ⟨d1, g1, d2, g2, rfl⟩ := e2
        obtain ⟨v, hv, rv⟩ := rp.get g1
        obtain ⟨w, hw, rw'⟩ := rp.get g2
        refine ⟨v, w, hv, hw, fun p hp => ?_⟩
        have s2 := s'.new (o := .tup [v, w]) hp
        have s3 := s2.share (o := .tup [v, w]) upd_same (s'.free hp) (s'.freeB hp) (s'.notOwn hp) rfl
        have e5 := same_upd (H := F') (o := .tup [v, w]) (s'.free hp)
        exact ret s3 e5 (.tup upd_same (.cons (rv.mono e5) (.cons (rw'.mono e5) .nil)))
    · simp only [hc, Bool.false_eq_true, if_false, Option.some.injEq] at ev
      subst ev
      exact q B' hB C flds d vs σ' F' H' s' x' ⟨nm, a1, a2⟩ hl hd rp
set_option maxHeartbeats 4000000 in
mutual
theorem sS : ∀ (a : Ts.St) {X : Cx} {xw : Xw} {st : Stmt} {B : Bs Cg}, Gd T N R X sc fbD Cg → Go T X xw → chkS T N sc a st = true → PS X st (tS X.K B xw (evS R a))
  | .asg i e, X, xw, st, B, g, G, h => by
    cases st <;> first | (simp only [chkS, Bool.false_eq_true] at h; done) | skip
    rename_i tgs value pos
    match tgs, h with
    | [.Name y py], h =>
      simp only [chkS, Bool.and_eq_true, decide_eq_true_eq] at h
      exact ps_asg' g h.1.1.1.1 h.1.1.1.2 h.1.1.2 h.1.2 h.2
  | .unp is e, X, xw, st, B, g, G, h => by
    cases st <;> first | (simp only [chkS, Bool.false_eq_true] at h; done) | skip
    rename_i tgs value pos
    match tgs, h with
    | [.Tuple es k pt], h =>
      simp only [chkS, Bool.and_eq_true] at h
      exact ps_unp' g h.1.1 h.1.2 h.2
  | .app i e, X, xw, st, B, g, G, h => by
    cases st <;> first | (simp only [chkS, Bool.false_eq_true] at h; done) | skip
    rename_i value pos
    match value, h with
    | .Call (.Attribute (.Name x px) m apos) [ea] [] cpos, h =>
      simp only [chkS, Bool.and_eq_true, decide_eq_true_eq] at h
      obtain ⟨⟨⟨⟨⟨⟨h1, h2⟩, h3⟩, rfl⟩, h4⟩, h5⟩, h6⟩ := h
      exact ps_app' g h1 h2 h3 h4 h5 h6
  | .par i j a b, X, xw, st, B, g, G, h => by
    simp only [chkS] at h
    split at h
    · rename_i es he
      rw [Bool.and_eq_true] at h
      exact ps_par' g he h.1 h.2
    · cases h
  | .aug i e, X, xw, st, B, g, G, h => by
    cases st <;> first | (simp only [chkS, Bool.false_eq_true] at h; done) | skip
    rename_i tg op value pos
    match tg, h with
    | .Name x px, h =>
      simp only [chkS, Bool.and_eq_true, decide_eq_true_eq] at h
      obtain ⟨⟨⟨n1, h2⟩, rfl⟩, c1⟩ := h
      exact ps_aug' g n1 h2 c1
  | .put i k e, X, xw, st, B, g, G, h => by
    cases st <;> first | (simp only [chkS, Bool.false_eq_true] at h; done) | skip
    rename_i tgs value pos
    match tgs, h with
    | [.Subscript (.Name x px) ek p2], h =>
      simp only [chkS, Bool.and_eq_true, decide_eq_true_eq] at h
      obtain ⟨⟨⟨⟨h1, h2⟩, h3⟩, h4⟩, h5⟩ := h
      exact ps_put' g h1 h2 h3 h4 h5
  | .exp e, X, xw, st, B, g, G, h => by
    cases st <;> first | (simp only [chkS, Bool.false_eq_true] at h; done) | skip
    rename_i value pos
    simp only [chkS, Bool.and_eq_true] at h
    exact (ps_expr (sE (B := B) e g h.2) (by cases value <;> first | rfl | (simp [noComp] at h))).imp fun D σ H ⟨F, env, o, s, ev, q⟩ => by
      simp only [evS, Option.bind_eq_some_iff, Option.some.injEq] at ev
      obtain ⟨p, e1, rfl⟩ := ev
      exact ⟨F, env, _, _, s, e1, fun v F1 H1 s1 x1 o1 => q B rfl σ F1 H1 s1 x1.ff⟩
  | .ifs c a b, X, xw, st, B, g, G, h => by
    cases st <;> first | (simp only [chkS, Bool.false_eq_true] at h; done) | skip
    simp only [chkS, Bool.and_eq_true] at h
    exact ps_if' (sT c g h.1.1.1 h.1.1.2) (sSs a g G h.1.2) (sSs b g G h.2)
  | .for_ p it body w, X, xw, st, B, g, G, h => by
    cases st <;> first | (simp only [chkS, Bool.false_eq_true] at h; done) | skip
    rename_i tg iter sts orelse pos
    match orelse, h with
    | [], h =>
      simp only [chkS, Bool.and_eq_true] at h
      exact ps_for' (vs := match p with | .v i => [i] | .t is => is) (G.hp) g.calm (sI it g h.1.2) (pg_p g h.1.1 (by cases p <;> simp [ptIn])) ⟨fun pins s σ H D I ⟨B', q⟩ => (sSs body (B := B') g G h.2).run pins s σ H D I q⟩ (sI_set it h.1.2 _)
  | .swp i a b, X, xw, st, B, g, G, h => by
    have h' : (match swpDec st with
      | some d => decide (N[i]? = some d.x) && decide (d.x' = d.x) && visB sc d.x && nameOk d.x && decide (N[a]? = some d.y) && visB sc d.y && nameOk d.y && decide (N[b]? = some d.z) && visB sc d.z && nameOk d.z && chkE T N (.tup (.cons (.ix (.var i) (.var b)) (.cons (.ix (.var i) (.var a)) .nil))) sc fbD (.Tuple d.es d.k2 d.p8)
      | none => false) = true := by
      cases st <;> exact h
    clear h
    cases hd : swpDec st with
    | none => rw [hd] at h'; cases h'
    | some d =>
      rw [hd] at h'
      have ee := swpDec_eq hd
      obtain ⟨x, x', y, z, kk, k2, p1, p2, p3, p4, p5, p6, p7, p8, p9, es⟩ := d
      simp only [Bool.and_eq_true, decide_eq_true_eq] at h'
      obtain ⟨⟨⟨⟨⟨⟨⟨⟨⟨⟨h1, rfl⟩, v1⟩, n1⟩, h2⟩, v2⟩, n2⟩, h3⟩, v3⟩, n3⟩, hv⟩ := h'
      rw [ee]
      exact ps_swp' (p1 := p1) (p2 := p2) (p3 := p3) (p4 := p4) (p5 := p5) (p6 := p6) (p7 := p7) (p8 := p8) (kk := kk) (k2 := k2) (spos := p9) (es := es) g h1 v1 n1 h2 v2 n2 h3 v3 n3 hv
  | .forK j p body w, X, xw, st, B, g, G, h => by
    cases st <;> first | (simp only [chkS, Bool.false_eq_true] at h; done) | skip
    rename_i tg iter sts orelse pos
    match iter, orelse, h with
    | .Name y py, [], h =>
      simp only [chkS, Bool.and_eq_true, decide_eq_true_eq] at h
      obtain ⟨⟨⟨⟨n1, n2⟩, n3⟩, n4⟩, n5⟩ := h
      exact ps_forK' g G.hp n1 n2 n3 n4 ⟨fun pins s σ H D I ⟨B', q⟩ => (sSs body (B := B') g G n5).run pins s σ H D I q⟩
  | .while_ c body w, X, xw, st, B, g, G, h => by
    cases st <;> first | (simp only [chkS, Bool.false_eq_true] at h; done) | skip
    rename_i test sts orelse pos
    match orelse, h with
    | [], h =>
      simp only [chkS, Bool.and_eq_true] at h
      exact ps_while' (G.hp) (fun _ => sT c g h.1.1 h.1.2) (fun _ => sSs body g G h.2)
  | .ret e, X, xw, st, B, g, G, h => by
    cases st <;> first | (simp only [chkS, Bool.false_eq_true] at h; done) | skip
    rename_i value pos
    cases value with
    | none => simp only [chkS, Bool.false_eq_true] at h
    | some v => exact ps_ret' (sE e g (by simpa only [chkS] using h))
  | .retM ms e, X, xw, st, B, g, G, h => by
    cases st <;> first | (simp only [chkS, Bool.false_eq_true] at h; done) | skip
    rename_i value pos
    cases value with
    | none => simp only [chkS, Bool.false_eq_true] at h
    | some v =>
      simp only [chkS, Bool.and_eq_true, decide_eq_true_eq] at h
      exact ps_retM' g h.1 (sE e g h.2)
  | .retN, X, xw, st, B, g, G, h => by
    cases st <;> first | (simp only [chkS, Bool.false_eq_true] at h; done) | skip
    rename_i value pos
    cases value with
    | some v => simp only [chkS, Bool.false_eq_true] at h
    | none =>
      refine ps_retN.imp fun D σ H ⟨F, env, o, s, ev, q⟩ => ?_
      simp only [evS, Option.some.injEq] at ev
      subst ev
      exact q B rfl .non F H ⟨s.bas, s.frz, s.dis, s.nf, s.tab, .non⟩ (.refl _)
  | .brk, X, xw, st, B, g, G, h => by
    cases st <;> first | (simp only [chkS, Bool.false_eq_true] at h; done) | skip
    exact ps_break.imp fun D σ H ⟨F, env, o, s, ev, q⟩ => by
      simp only [evS, Option.some.injEq] at ev
      subst ev
      exact q B rfl σ F H s (.refl _)
  | .cnt, X, xw, st, B, g, G, h => by
    cases st <;> first | (simp only [chkS, Bool.false_eq_true] at h; done) | skip
    exact ps_continue.imp fun D σ H ⟨F, env, o, s, ev, q⟩ => by
      simp only [evS, Option.some.injEq] at ev
      subst ev
      exact q B rfl σ F H s (.refl _)
  | .pass, X, xw, st, B, g, G, h => by
    cases st <;> first | (simp only [chkS, Bool.false_eq_true] at h; done) | skip
    exact ps_pass.imp fun D σ H ⟨F, env, o, s, ev, q⟩ => by
      simp only [evS, Option.some.injEq] at ev
      subst ev
      exact q B rfl σ F H s (.refl _)
  | .asgN i own uses p it e, X, xw, st, B, g, G, h => by
    cases st <;> first | (simp only [chkS, Bool.false_eq_true] at h; done) | skip
    rename_i tgs value pos
    match tgs, h with
    | [.Name y py], h =>
      simp only [chkS, Bool.and_eq_true, decide_eq_true_eq] at h
      exact ps_asgN' g h.1.1.1 h.1.1.2 h.2
  | .put2 i a b e, X, xw, st, B, g, G, h => by
    cases st <;> first | (simp only [chkS, Bool.false_eq_true] at h; done) | skip
    rename_i tgs value pos
    match tgs, h with
    | [.Subscript (.Subscript (.Name x px) ea p1) eb p2], h =>
      simp only [chkS, Bool.and_eq_true, decide_eq_true_eq] at h
      obtain ⟨⟨⟨⟨⟨⟨h1, h2⟩, h3⟩, h4⟩, h5⟩, h6⟩, h7⟩ := h
      exact ps_put2' g h1 h2 h3 h4 h5 h6 h7
  | .asgX i f as, X, xw, st, B, g, G, h => by
    cases st <;> first | (simp only [chkS, Bool.false_eq_true] at h; done) | skip
    rename_i tgs value pos
    match tgs, h with
    | [.Name y py], h =>
      simp only [chkS, Bool.and_eq_true, decide_eq_true_eq] at h
      exact ps_asgX' g G h.2 h.1.1.1 h.1.1.2 h.1.2
  | .expX f as, X, xw, st, B, g, G, h => by
    cases st <;> first | (simp only [chkS, Bool.false_eq_true] at h; done) | skip
    rename_i value pos
    simp only [chkS] at h
    exact ps_expX' g G h
  | .retX f as, X, xw, st, B, g, G, h => by
    cases st <;> first | (simp only [chkS, Bool.false_eq_true] at h; done) | skip
    rename_i value pos
    cases value with
    | none => simp only [chkS, Bool.false_eq_true] at h
    | some v =>
      simp only [chkS] at h
      exact ps_retX' g G h
  | .unpX is f as, X, xw, st, B, g, G, h => by
    cases st <;> first | (simp only [chkS, Bool.false_eq_true] at h; done) | skip
    rename_i tgs value pos
    match tgs, h with
    | [.Tuple es k pt], h =>
      simp only [chkS, Bool.and_eq_true] at h
      exact ps_unpX' g G h.2 h.1
  | .forX p f as body w, X, xw, st, B, g, G, h => by
    cases st <;> first | (simp only [chkS, Bool.false_eq_true] at h; done) | skip
    rename_i tg iter sts orelse pos
    match orelse, h with
    | [], h =>
      simp only [chkS, Bool.and_eq_true] at h
      exact ps_forX' g G h.1.2 h.1.1 (fun B => sSs body g G h.2)
  | .raise c as, X, xw, st, B, g, G, h => by
    cases st <;> first | (simp only [chkS, Bool.false_eq_true] at h; done) | skip
    rename_i v cause pos
    match v, cause, h with
    | some (.Call (.Name nm p) (e :: es) [] cpos), none, h =>
      simp only [chkS, Bool.and_eq_true, decide_eq_true_eq] at h
      obtain ⟨⟨⟨h1, h2⟩, h3⟩, h4⟩ := h
      exact ps_raise' g G h1 h2 h3 h4
  | .try_ body hs g0 i r, X, xw, st, B, g, G, h => by
    cases st <;> first | (simp only [chkS, Bool.false_eq_true] at h; done) | skip
    rename_i sts hds orelse fin pos
    match hds, orelse, fin, h with
    | [.ExceptHandler (some (.Name x np)) (some n) (b0 :: suite) pos'], [], [], h =>
      simp only [chkS, Bool.and_eq_true, decide_eq_true_eq] at h
      obtain ⟨⟨⟨⟨⟨⟨⟨⟨h1, h2⟩, h3⟩, h4⟩, h5⟩, h6⟩, rfl⟩, h7⟩, h8⟩ := h
      exact ps_try' g G h1 h2 h3 h4 h5 h6 h7 fun W pn xe G' B => sSs body (g.tr pn xe) G' h8
  | .never, X, xw, st, B, g, G, h => ps_never.imp fun D σ H ⟨F, env, o, s, ev, q⟩ => by simp [evS] at ev
theorem sSs : ∀ (a : Sts) {X : Cx} {xw : Xw} {st : List Stmt} {B : Bs Cg}, Gd T N R X sc fbD Cg → Go T X xw → chkSs T N sc a st = true → PSs X st (tS X.K B xw (evSs R a))
  | .nil, X, xw, st, B, g, G, h => by
    cases st with
    | nil => exact pss_nil'
    | cons _ _ => simp [chkSs] at h
  | .cons a as, X, xw, st, B, g, G, h => by
    cases st with
    | nil => simp [chkSs] at h
    | cons s ss =>
      simp only [chkSs, Bool.and_eq_true] at h
      exact pss_cons' (sS a g G h.1) (fun _ => sSs as g G h.2)
  | .un i as, X, xw, st, B, g, G, h => by
    simp only [chkSs] at h
    exact pss_un' (fun _ => sSs as g G h)
end
end
end Ts

set_option linter.all false
set_option autoImplicit false
set_option maxRecDepth 100000
/-! Defs: each keeps what run says. -/
namespace Ts
open PySem PySem.Spec PyProof.Rows L2

/-- the def st stands at fa, its code at cdv -/
structure FunC (K : PySem.W.Frag) (x : Str) (st : Stmt) (fa : Addr) (fd : FuncData) (cdv : Value) : Prop where
  ex : ∃ (oc : Value) (od : Option Addr) (kV doc pm : Value) (an : Option Addr) (ct : Value) (osl : Array (Option Value)), fd = PySem.W.fnOf x x (defArgs st) (defBody st) (defScope st) .none kV doc pm an cdv ct ∧ K.lookup fa = some ⟨oc, od, .func fd, osl⟩ ∧ PySem.W.codeIn K cdv x = true
  kp : PySem.W.keepIn K (.ref fa) = true
/-- what is known of the def x, number f -/
structure FI (Tt : Tb) (tab : Tab) (ts : List Addr) (K : PySem.W.Frag) (mg : Str → Option Value) (base : Heap) (f : Nat) (x : Str) (m : Nat) (xr : Bool) : Prop where
  ex : ∃ (fa : Addr) (fd : FuncData) (cdv : Value) (st : Stmt) (N ps : List Str) (fx : Fx) (b : Bool), FunC K x st fa fd cdv ∧ FnScope N ps (defScope st) ∧ mg x = some (.ref fa) ∧ Binds K fd ps [] ∧ tab f = some fx ∧ ps.length = fx.np ∧ N.length = fx.ns ∧ fx.mp = m ∧ fx.xr = xr ∧ m ≤ fx.np ∧
    chkSs { Tt with pins := (List.range m).map (fun j => fx.np - m + j), gn := b } N (defScope st) fx.body (defBody st) = true ∧ (b = true → ∃ c P, cdv = .ref c ∧ GxR.TabB base mg c P ∧ P ∈ ts)
structure TbOk (P : Program) (w : World) (Tt : Tb) (tab : Tab) (ts : List Addr) (K : PySem.W.Frag) (mg : Str → Option Value) (base : Heap) : Prop where
  fs : ∀ f x, Tt.nm f = some x → FI Tt tab ts K mg base f x 0 false
  fm : ∀ f x m, Tt.nmM f = some (x, m) → 0 < m ∧ FI Tt tab ts K mg base f x m false
  fX : ∀ f x, Tt.nmX f = some x → FI Tt tab ts K mg base f x 0 true
  xc : ∀ (c : Nat) nm flds, Tt.xcs[c]? = some (nm, flds) → ∃ Cc, XcOk P w K mg base nm Cc flds
  hnd : ∀ x hs, Tt.hcs.lookup x = some hs → ∃ Ch, mg x = some (.ref Ch) ∧ ∀ (c : Nat) nm flds Cc, Tt.xcs[c]? = some (nm, flds) → mg nm = some (.ref Cc) → PySem.W.exmOne K (.ref Cc) (.ref Ch) = some (hs.contains c)
  iss : Tt.iss = true → ∀ (c : Nat) nm flds Cc, Tt.xcs[c]? = some (nm, flds) → mg nm = some (.ref Cc) → ExcC K Cc
  blt : ∀ b : Bi, mg (biName b) = none
  rng : mg "range" = none
  ot : ∀ x ∈ otNames, mg x = none
  cons : ∀ x d, Tt.cons.lookup x = some d → ∃ u v, mg x = some u ∧ RelV v u ∧ (∀ F, Rp K F v d) ∧ scalar d = true

theorem run_len {tab : Tab} : ∀ {k f : Nat} {ds : List D} {r : Nv} {fx : Fx}, tab f = some fx → run tab k f ds = some r → ds.length = fx.np
  | 0, f, ds, r, fx, h, e => by cases e
  | k + 1, f, ds, r, fx, h, e => by
    simp only [run, h, Option.bind_some, runF] at e
    split at e
    · assumption
    · cases e
theorem start_sr {K : PySem.W.Frag} {ts : List Addr} {F H : Hp} {N : List Str} {vs : List V} {ds : List D} {fx : Fx} (s : Same F H) (nf : NoT F) (tb : Tabs ts H) (r : RpL K F vs ds) (h1 : ds.length = fx.np) (h2 : N.length = fx.ns) (h3 : fx.np ≤ N.length) : SR K (Bs.mk (C := ⟨ts, []⟩) (apart ts F H)) F H (start N vs) (startE fx ds) := by
  have key : ∀ (i : Nat) (sl : Sl), (startE fx ds)[i]? = some sl → sl = .u ∨ ∃ d, ds[i]? = some d ∧ sl = .sh d := fun i sl h => by
    unfold startE at h
    rw [List.getElem?_append] at h
    split at h
    · rw [List.getElem?_map] at h
      obtain ⟨d, e, rfl⟩ := Option.map_eq_some_iff.mp h
      exact .inr ⟨d, e, rfl⟩
    · rw [List.getElem?_replicate] at h
      split at h
      · cases h; exact .inl rfl
      · cases h
  refine ⟨?_, fun b o h => (apart_some h).2.1, s, fun b o h => (apart_some h).1, fun i sl h => ?_, fun i j d e p h1 => ?_, apart_nt, nf, tb⟩
  · have := r.length
    unfold startE L2.start
    simp only [List.length_append, List.length_map, List.length_replicate]
    omega
  · rcases key i sl h with rfl | ⟨d, e, rfl⟩
    · trivial
    · obtain ⟨v, e2, rv⟩ := r.get e
      refine ⟨v, ?_, rv⟩
      unfold L2.start
      have hl : i < vs.length := (List.getElem?_eq_some_iff.mp e2).1
      rw [List.getElem?_append_left (by rw [List.length_map]; exact hl), List.getElem?_map, e2]
      rfl
  · rcases key i _ h1 with z | ⟨_, _, z⟩ <;> cases z
/-- .. but for what is changed -/
def apartM (ts as : List Addr) (F H : Hp) : Hp := fun b => if b ∈ as then none else apart ts F H b
theorem apartM_some {ts as : List Addr} {F H : Hp} {b : Addr} {o : HO} (h : apartM ts as F H b = some o) : b ∉ as ∧ F b = none ∧ H b = some o ∧ Kp ts b o := by
  unfold apartM at h
  split at h
  · cases h
  · exact ⟨by assumption, apart_some h⟩
theorem apartM_of {ts as : List Addr} {F H : Hp} {b : Addr} {o : HO} (h : H b = some o) (n : Kp ts b o) (f : F b = none) (hb : b ∉ as) : apartM ts as F H b = some o := by
  unfold apartM
  rw [if_neg hb]
  exact apart_of h n f
theorem zip_pin {nd m : Nat} {as : List Addr} (hl : as.length = m) : (((List.range m).map fun j => nd + j).zip as).map (·.1) = (List.range m).map fun j => nd + j := by
  rw [List.map_fst_zip]
  simp [hl]
theorem zip_pin2 {nd m : Nat} {as : List Addr} (hl : as.length = m) : (((List.range m).map fun j => nd + j).zip as).map (·.2) = as := by
  rw [List.map_snd_zip]
  simp [hl]
theorem start_srM {K : PySem.W.Frag} {ts : List Addr} {F H : Hp} {N : List Str} {vs : List V} {as : List Addr} {ds ms : List D} {fx : Fx} (s : Same F H) (nf : NoT F) (tb : Tabs ts H) (r : RpL K F vs ds) (ow : OwnL K F H as ms) (hn : as.Nodup) (hm : as.length = fx.mp) (h1 : ds.length + fx.mp = fx.np) (h2 : N.length = fx.ns) (h3 : fx.np ≤ N.length) :
    SR K (Bs.mk (C := ⟨ts, ((List.range fx.mp).map fun j => ds.length + j).zip as⟩) (apartM ts as F H)) F H (start N (vs ++ as.map V.ref)) (startM fx (ds ++ ms)) := by
  have hml : ms.length = fx.mp := by rw [← ow.length, hm]
  have hvl := r.length
  have hnd : fx.np - fx.mp = ds.length := by omega
  have hst : startM fx (ds ++ ms) = ds.map Sl.sh ++ ms.map Sl.ow ++ List.replicate (fx.ns - fx.np) .u := by
    unfold startM
    rw [hnd, List.take_left, List.drop_left]
  have key : ∀ (i : Nat) (sl : Sl), (startM fx (ds ++ ms))[i]? = some sl → sl = .u ∨ (∃ d, ds[i]? = some d ∧ sl = .sh d) ∨ ∃ j d, i = ds.length + j ∧ ms[j]? = some d ∧ sl = .ow d := fun i sl h => by
    rw [hst, List.getElem?_append] at h
    split at h
    · rw [List.getElem?_append] at h
      split at h
      · rw [List.getElem?_map] at h
        obtain ⟨d, e, rfl⟩ := Option.map_eq_some_iff.mp h
        exact .inr (.inl ⟨d, e, rfl⟩)
      · rename_i hge
        rw [List.getElem?_map, List.length_map] at h
        rw [List.length_map] at hge
        obtain ⟨d, e, rfl⟩ := Option.map_eq_some_iff.mp h
        exact .inr (.inr ⟨i - ds.length, d, by omega, e, rfl⟩)
    · rw [List.getElem?_replicate] at h
      split at h
      · cases h; exact .inl rfl
      · cases h
  have slot : ∀ j d, ms[j]? = some d → ∃ a, as[j]? = some a ∧ (start N (vs ++ as.map V.ref))[ds.length + j]? = some (some (V.ref a)) ∧ OwnAt K F H a d ∧ F a = none := fun j d e => by
    have hj : j < as.length := by rw [ow.length]; exact (List.getElem?_eq_some_iff.mp e).1
    have ha : as[j]? = some as[j] := List.getElem?_eq_getElem hj
    obtain ⟨o, f⟩ := ow.get ha e
    refine ⟨_, ha, ?_, o, f⟩
    unfold L2.start
    rw [List.getElem?_append_left (by simp only [List.length_map, List.length_append]; omega), List.getElem?_map, ← hvl, List.getElem?_append_right (by omega), Nat.add_sub_cancel_left, List.getElem?_map, ha]
    rfl
  refine ⟨?_, fun b o h => (apartM_some h).2.2.1, s, fun b o h => (apartM_some h).2.1, fun i sl h => ?_, fun i j d e p g1 g2 e1 e2 => ?_, fun b o h => (apartM_some h).2.2.2, nf, tb⟩
  · rw [hst]
    unfold L2.start
    simp only [List.length_append, List.length_map, List.length_replicate]
    omega
  · rcases key i sl h with rfl | ⟨d, e, rfl⟩ | ⟨j, d, rfl, e, rfl⟩
    · trivial
    · obtain ⟨v, e2, rv⟩ := r.get e
      refine ⟨v, ?_, rv⟩
      unfold L2.start
      have hl : i < vs.length := (List.getElem?_eq_some_iff.mp e2).1
      rw [List.getElem?_append_left (by simp only [List.length_map, List.length_append]; omega), List.getElem?_map, List.getElem?_append_left hl, e2]
      rfl
    · obtain ⟨a, ha, hσ, o, f⟩ := slot j d e
      refine ⟨a, hσ, o, f, ?_, fun q hq e1 => ?_⟩
      · show apartM ts as F H a = none
        unfold apartM
        rw [if_pos (List.mem_of_getElem? ha)]
      · obtain ⟨k, hk⟩ := List.getElem?_of_mem hq
        rw [List.getElem?_zip_eq_some, List.getElem?_map] at hk
        obtain ⟨k1, k2⟩ := hk
        obtain ⟨k', k3, k4⟩ := Option.map_eq_some_iff.mp k1
        obtain ⟨_, k5⟩ := List.getElem?_eq_some_iff.mp k3
        rw [List.getElem_range] at k5
        have : k = j := by omega
        subst this
        rw [ha] at k2
        exact (Option.some.inj k2).symm
  · rcases key i _ g1 with z | ⟨_, _, z⟩ | ⟨i', d', rfl, b1, z⟩
    · cases z
    · cases z
    · rcases key j _ g2 with z | ⟨_, _, z⟩ | ⟨j', d'', rfl, b2, z⟩
      · cases z
      · cases z
      · obtain ⟨a1, c1, c2, -, -⟩ := slot i' d' b1
        obtain ⟨a2, c3, c4, -, -⟩ := slot j' d'' b2
        rw [e1] at c2
        rw [e2] at c4
        cases c2
        cases c4
        obtain ⟨l1, m1⟩ := List.getElem?_eq_some_iff.mp c1
        obtain ⟨l2, m2⟩ := List.getElem?_eq_some_iff.mp c3
        have := (List.getElem_inj hn).mp (m1.trans m2.symm)
        omega

section
variable {P : Program} {w : World} {K : PySem.W.Frag} {mg : Str → Option Value} {base : Heap} {Tt : Tb} {tab : Tab} {ts : List Addr}
structure AllOk (P : Program) (w : World) (K : PySem.W.Frag) (mg : Str → Option Value) (base : Heap) (Tt : Tb) (tab : Tab) (ts : List Addr) (k : Nat) : Prop where
  n : ∀ f x, Tt.nm f = some x → ∃ fa fd ps n, FnOk P w K mg base CX0 (k + 2) fa fd ps (spD K ts (run tab k) f n) ∧ mg x = some (.ref fa) ∧ PySem.W.keepIn K (.ref fa) = true ∧ Binds K fd ps [] ∧ ∀ ds r, run tab k f ds = some r → ds.length = n
  m : ∀ f x m, Tt.nmM f = some (x, m) → ∃ fa fd ps n, FnOk P w K mg base CX0 (k + 2) fa fd ps (spM K ts (run tab k) f n m) ∧ mg x = some (.ref fa) ∧ PySem.W.keepIn K (.ref fa) = true ∧ Binds K fd ps [] ∧ ∀ ds r, run tab k f ds = some r → ds.length = n
  x : ∀ f x, Tt.nmX f = some x → ∃ fa fd ps n, FnOk P w K mg base (L2.CX P w) (k + 2) fa fd ps (spX K ts (run tab k) Tt.xcs mg f n) ∧ mg x = some (.ref fa) ∧ PySem.W.keepIn K (.ref fa) = true ∧ Binds K fd ps [] ∧ ∀ ds r, run tab k f ds = some r → ds.length = n
theorem gd_mk (T : TbOk P w Tt tab ts K mg base) {k : Nat} (ih : AllOk P w K mg base Tt tab ts k) {x : Str} {fa : Addr} {cdv : Value} {st : Stmt} {N ps : List Str} (S : FnScope N ps (defScope st)) {pins : List (Nat × Addr)} {pl : List Nat} {b : Bool} (hp : pins.map (·.1) = pl)
    (hg : b = true → ∃ c P, cdv = .ref c ∧ GxR.TabB base mg c P ∧ P ∈ ts) {CX : CXT} {A : Around} {outer : List Env} {s : Shared} {H : Hp} {E : XK} (hr : Room (k + 2) (A.deeper (envOfC x (defScope st) s.heap.objs.size fa cdv))) :
    Gd { Tt with pins := pl, gn := b } N (run tab k) (cxOf CX P w K mg base N x (defScope st) fa cdv A outer s H E) (defScope st) fbD ⟨ts, pins⟩ := by
  refine ⟨rfl, S.nd, rfl, rfl, fun _ _ => rfl, ?_, fun f' x' hx => ?_, fun f' x' m' hx => ?_, fun f' x' hx => ?_, hr.mono (by omega), T.xc, T.hnd, T.iss, hp, fun h => ?_, T.blt, T.rng, T.ot, T.cons⟩
  · have := hr.un
    show (A.deeper (envOfC x (defScope st) s.heap.objs.size fa cdv)).units + 66 < cLine
    omega
  · obtain ⟨fa', fd', ps', n', a, b, c, d, e⟩ := ih.n f' x' hx
    exact ⟨fa', fd', _, ps', n', a, hr, b, c, d, e⟩
  · obtain ⟨fa', fd', ps', n', a, b, c, d, e⟩ := ih.m f' x' m' hx
    exact ⟨fa', fd', _, ps', n', a, hr, b, c, d, e⟩
  · obtain ⟨fa', fd', ps', n', a, b, c, d, e⟩ := ih.x f' x' hx
    exact ⟨fa', fd', _, ps', n', a, hr, b, c, d, e⟩
  · obtain ⟨c, P', h1, h2, h3⟩ := hg h
    exact ⟨c, P', h1, h2, h3⟩
theorem gd_nox {T : Tb} {N : List Str} {R : Run} {X : Cx} {sc : Scope} {Cg : Cfg} (g : Gd T N R X sc fbD Cg) : Gd T N R X.nox sc fbD Cg :=
  ⟨g.hN, g.nd, g.hsc, g.calm, g.fn, g.un, g.calls, g.callsM, g.callsX, g.room, g.xc, g.hnd, g.iss, g.pins, g.gen, g.blt, g.rng, g.ot, g.cons⟩
theorem go_nox {T : Tb} {X : Cx} (hs : X.stack = X.env :: X.outer) (hf : X.env.frame = some X.env.locals) : Go T X.nox ⟨T.xcs, X.mg, fun _ _ _ _ => False⟩ := ⟨PassesOwn.never, takes0, rfl, rfl, hs, hf⟩
theorem since_ok {F' H F2 H2 : Hp} (sm : Same F' H) (b1 : Same (apart ts F' H) H2) (f1 : Same F2 H2) (x1 : Same F' F2) (d1 : ∀ (b : Addr) (o : HO), apart ts F' H b = some o → F2 b = none) : SameN ts H H2 ∧ NewF ts H F' F2 := by
  refine ⟨fun b o h n => ?_, fun b o h n f => d1 b o (apart_of h n f)⟩
  cases f : F' b with
  | none => exact b1 b o (apart_of h n f)
  | some u =>
    have := sm b u f
    rw [h] at this; cases this
    exact f1 _ _ (x1 _ _ f)
theorem own_new {F' H F2 H2 : Hp} {p : Addr} {d : D} (x2 : Same F' F2) (tb : Tabs ts H2) (o : OwnAt K F2 H2 p d) (f : F2 p = none) (hb : apart ts F' H p = none) : H p = none := by
  cases z : H p with
  | none => rfl
  | some u =>
    have nt : Kp ts p u := by
      cases u <;> first | trivial | skip
      rename_i pst
      intro hp
      obtain ⟨w1, hw1, -, hw2⟩ := o.some
      obtain ⟨ps', e5, _⟩ := tb p hp
      rw [hw1] at e5
      cases e5
      cases hw2
    have := apart_of z nt (x2.free f)
    rw [hb] at this
    cases this
theorem fn_step (T : TbOk P w Tt tab ts K mg base) {k : Nat} (ih : AllOk P w K mg base Tt tab ts k)
    {f : Nat} {x : Str} {fa : Addr} {fd : FuncData} {cdv : Value} {st : Stmt} {N ps : List Str} {fx : Fx} {b : Bool} (F : FunC K x st fa fd cdv) (S : FnScope N ps (defScope st)) (ht : tab f = some fx) (h1 : ps.length = fx.np) (h2 : N.length = fx.ns) (h0 : fx.mp = 0) (hxr : fx.xr = false) (hc : chkSs { Tt with pins := [], gn := b } N (defScope st) fx.body (defBody st) = true)
    (hg : b = true → ∃ c P, cdv = .ref c ∧ GxR.TabB base mg c P ∧ P ∈ ts) :
    FnOk P w K mg base CX0 (k + 3) fa fd ps (spD K ts (run tab (k + 1)) f fx.np) := by
  obtain ⟨oc, od, kV, doc, pm, an, ct, osl, rfl, lk, hcd⟩ := F.ex
  refine fn_of lk hcd S (fun vs H Q E ⟨F, ds, r, _, _, _, rp, hl, _⟩ => by rw [rp.length, hl, h1]) fun A outer s H vs Q E hr ⟨F', ds, r, nf, tb, sm, rp, hl, er, q⟩ => ?_
  have g := gd_nox (gd_mk (CX := CX0) (outer := outer) (H := H) (E := E) T ih S (pins := []) (pl := []) rfl hg hr)
  have key : tS K (Bs.mk (C := ⟨ts, []⟩) (apart ts F' H)) ⟨Tt.xcs, mg, fun _ _ _ _ => False⟩ (evSs (run tab k) fx.body) { nx := fun _ H' => Q .non H', rt := Q } (start N vs) H := by
    refine ⟨F', startE fx ds, ?_⟩
    simp only [run, ht, Option.bind_some, runF, h0, if_true] at er
    rw [if_pos hl, Option.bind_eq_some_iff] at er
    obtain ⟨o, eo, er⟩ := er
    have hpn : ps.length ≤ N.length := by
      have := congrArg List.length S.pre
      rw [List.length_take] at this
      omega
    refine ⟨o, start_sr sm nf tb rp hl h2 (by rw [← h1]; exact hpn), eo, ?_⟩
    cases o with
    | nx e =>
      simp only [Option.some.injEq] at er
      subst er
      intro B2 hB σ' F2 H2 s2 x2
      obtain ⟨a, b⟩ := since_ok sm (s2.base hB).1 s2.frz x2 (s2.base hB).2
      exact q .non H2 F2 a x2 s2.frz b s2.nf s2.tab .non
    | rt nv =>
      simp only at er
      split at er
      · cases er
      rename_i hmu
      simp only [Option.some.injEq] at er
      subst er
      intro B2 hB v F2 H2 r2' x2
      have r2 := r2'.base hB
      obtain ⟨a, b⟩ := since_ok sm r2.bas r2.frz x2 r2.dis
      refine q v H2 F2 a x2 r2.frz b r2.nf r2.tab ?_
      have rv := r2.val
      cases nv with
      | sh d => exact rv
      | mu r fs => exact absurd rfl hmu
      | ex c fs => exact absurd rfl hmu
      | ow d =>
        obtain ⟨p, rfl, o, f, hb⟩ := rv
        exact ⟨p, rfl, o, f, own_new x2 r2.tab o f hb⟩
    | bk e => cases er
    | ct e => cases er
    | rx e c fs =>
      simp only [hxr, Bool.false_eq_true, if_false] at er
      cases er
  exact ⟨_, (sSs fx.body g (go_nox rfl rfl) hc).nox, key⟩
theorem fn_stepX (T : TbOk P w Tt tab ts K mg base) {k : Nat} (ih : AllOk P w K mg base Tt tab ts k)
    {f : Nat} {x : Str} {fa : Addr} {fd : FuncData} {cdv : Value} {st : Stmt} {N ps : List Str} {fx : Fx} {b : Bool} (F : FunC K x st fa fd cdv) (S : FnScope N ps (defScope st)) (ht : tab f = some fx) (h1 : ps.length = fx.np) (h2 : N.length = fx.ns) (h0 : fx.mp = 0) (hxr : fx.xr = true) (hc : chkSs { Tt with pins := [], gn := b } N (defScope st) fx.body (defBody st) = true)
    (hg : b = true → ∃ c P, cdv = .ref c ∧ GxR.TabB base mg c P ∧ P ∈ ts) :
    FnOk P w K mg base (L2.CX P w) (k + 3) fa fd ps (spX K ts (run tab (k + 1)) Tt.xcs mg f fx.np) := by
  obtain ⟨oc, od, kV, doc, pm, an, ct, osl, rfl, lk, hcd⟩ := F.ex
  refine fn_of lk hcd S (fun vs H Q E ⟨F, ds, r, _, _, _, rp, hl, _⟩ => by rw [rp.length, hl, h1]) fun A outer s H vs Q E hr ⟨F', ds, r, nf, tb, sm, rp, hl, er, q, qx⟩ => ?_
  have g := gd_mk (CX := L2.CX P w) (outer := outer) (H := H) (E := E) T ih S (pins := []) (pl := []) rfl hg hr
  have G : Go { Tt with pins := [], gn := b } (cxOf (L2.CX P w) P w K mg base N x (defScope st) fa cdv A outer s H E) ⟨Tt.xcs, mg, fun cls d _ H => E cls d H⟩ := ⟨passes_of rfl, takes_of rfl rfl rfl rfl, rfl, rfl, rfl, rfl⟩
  have key : tS K (Bs.mk (C := ⟨ts, []⟩) (apart ts F' H)) ⟨Tt.xcs, mg, fun cls d _ H => E cls d H⟩ (evSs (run tab k) fx.body) { nx := fun _ H' => Q .non H', rt := Q } (start N vs) H := by
    refine ⟨F', startE fx ds, ?_⟩
    simp only [run, ht, Option.bind_some, runF, h0, if_true] at er
    rw [if_pos hl, Option.bind_eq_some_iff] at er
    obtain ⟨o, eo, er⟩ := er
    have hpn : ps.length ≤ N.length := by
      have := congrArg List.length S.pre
      rw [List.length_take] at this
      omega
    refine ⟨o, start_sr sm nf tb rp hl h2 (by rw [← h1]; exact hpn), eo, ?_⟩
    cases o with
    | nx e =>
      simp only [Option.some.injEq] at er
      subst er
      intro B2 hB σ' F2 H2 s2 x2
      obtain ⟨a, b⟩ := since_ok sm (s2.base hB).1 s2.frz x2 (s2.base hB).2
      exact q .non H2 F2 a x2 s2.frz b s2.nf s2.tab .non
    | rt nv =>
      simp only at er
      split at er
      · cases er
      rename_i hmu
      simp only [Option.some.injEq] at er
      subst er
      intro B2 hB v F2 H2 r2' x2
      have r2 := r2'.base hB
      obtain ⟨a, b⟩ := since_ok sm r2.bas r2.frz x2 r2.dis
      refine q v H2 F2 a x2 r2.frz b r2.nf r2.tab ?_
      have rv := r2.val
      cases nv with
      | sh d => exact rv
      | mu r fs => exact absurd rfl hmu
      | ex c fs => exact absurd rfl hmu
      | ow d =>
        obtain ⟨p, rfl, o, f, hb⟩ := rv
        exact ⟨p, rfl, o, f, own_new x2 r2.tab o f hb⟩
    | bk e => cases er
    | ct e => cases er
    | rx e c fs =>
      simp only [hxr, if_true, Option.some.injEq] at er
      subst er
      intro B2 hB C flds d vs' σ' F2 H2 s2 x2 hA hlf hd rp2
      obtain ⟨a, b⟩ := since_ok sm (s2.base hB).1 s2.frz x2 (s2.base hB).2
      exact qx c fs rfl C flds d vs' H2 F2 a x2 s2.frz b s2.nf s2.tab hA hlf hd rp2
  exact ⟨_, sSs fx.body g G hc, key⟩
theorem fn_stepM (T : TbOk P w Tt tab ts K mg base) {k : Nat} (ih : AllOk P w K mg base Tt tab ts k)
    {f m : Nat} {x : Str} {fa : Addr} {fd : FuncData} {cdv : Value} {st : Stmt} {N ps : List Str} {fx : Fx} {b : Bool} (F : FunC K x st fa fd cdv) (S : FnScope N ps (defScope st)) (ht : tab f = some fx) (h1 : ps.length = fx.np) (h2 : N.length = fx.ns) (h0 : fx.mp = m) (hxr : fx.xr = false) (hm : 0 < m) (hc : chkSs { Tt with pins := (List.range m).map (fun j => fx.np - m + j), gn := b } N (defScope st) fx.body (defBody st) = true)
    (hg : b = true → ∃ c P, cdv = .ref c ∧ GxR.TabB base mg c P ∧ P ∈ ts) :
    FnOk P w K mg base CX0 (k + 3) fa fd ps (spM K ts (run tab (k + 1)) f fx.np m) := by
  obtain ⟨oc, od, kV, doc, pm, an, ct, osl, rfl, lk, hcd⟩ := F.ex
  refine fn_of lk hcd S (fun vs H Q E ⟨F, ds, ms, as, r, fs, vs0, e, _, _, _, rp, hl, _, ha, _⟩ => by rw [e, List.length_append, List.length_map, rp.length, ha, hl, h1]) fun A outer s H vs Q E hr ⟨F', ds, ms, as, r, fs, vs0, ev, nf, tb, sm, rp, hl, ow, hal, hnd, er, q⟩ => ?_
  subst ev
  have hd : fx.np - m = ds.length := by omega
  have hpin : (((List.range m).map fun j => ds.length + j).zip as).map (·.1) = (List.range m).map (fun j => fx.np - m + j) := by
    rw [zip_pin hal, hd]
  have g := gd_nox (gd_mk (CX := CX0) (outer := outer) (H := H) (E := E) T ih S (pins := ((List.range m).map fun j => ds.length + j).zip as) hpin hg hr)
  have hpn : ps.length ≤ N.length := by
    have := congrArg List.length S.pre
    rw [List.length_take] at this
    omega
  have key : tS K (Bs.mk (C := ⟨ts, ((List.range m).map fun j => ds.length + j).zip as⟩) (apartM ts as F' H)) ⟨Tt.xcs, mg, fun _ _ _ _ => False⟩ (evSs (run tab k) fx.body) { nx := fun _ H' => Q .non H', rt := Q } (start N (vs0 ++ as.map V.ref)) H := by
    refine ⟨F', startM fx (ds ++ ms), ?_⟩
    have hmp : ¬ fx.mp = 0 := by omega
    have hlen : (ds ++ ms).length = fx.np := by rw [List.length_append, ← ow.length, hal, hl]
    simp only [run, ht, Option.bind_some, runF] at er
    rw [if_pos hlen, if_neg hmp, Option.bind_eq_some_iff] at er
    obtain ⟨o, eo, er⟩ := er
    have s0 := start_srM (fx := fx) sm nf tb rp ow hnd (by rw [hal, h0]) (by rw [h0]; exact hl) h2 (by rw [← h1]; exact hpn)
    rw [h0] at s0
    refine ⟨o, s0, eo, ?_⟩
    cases o with
    | nx e => cases er
    | rt nv =>
      simp only at er
      split at er
      · simp only [Option.some.injEq] at er
        subst er
        intro B2 hB v F2 H2 r2' x2
        have r2 := r2'.base hB
        have rv : Rp K F2 v r ∧ OwnL K F2 H2 ((((List.range m).map fun j => ds.length + j).zip as).map (·.2)) fs := r2.val
        rw [zip_pin2 hal] at rv
        have b1 : Same (apartM ts as F' H) H2 := r2.bas
        have d1 : ∀ (b : Addr) (o : HO), apartM ts as F' H b = some o → F2 b = none := r2.dis
        refine q v H2 F2 (fun b o h n hb => ?_) x2 r2.frz (fun b o h n f => ?_) r2.nf r2.tab rv.1 rv.2
        · cases f : F' b with
          | none => exact b1 b o (apartM_of h n f hb)
          | some u =>
            have := sm b u f
            rw [h] at this; cases this
            exact r2.frz _ _ (x2 _ _ f)
        · by_cases hb : b ∈ as
          · obtain ⟨j, hj⟩ := List.getElem?_of_mem hb
            have hjl : j < fs.length := by rw [← rv.2.length]; exact (List.getElem?_eq_some_iff.mp hj).1
            exact (rv.2.get hj (List.getElem?_eq_getElem hjl)).2
          · exact d1 b o (apartM_of h n f hb)
      · cases er
    | bk e => cases er
    | ct e => cases er
    | rx e c fs => cases er
  exact ⟨_, (sSs fx.body g (go_nox rfl rfl) hc).nox, key⟩
theorem all_ok (T : TbOk P w Tt tab ts K mg base) : ∀ k, AllOk P w K mg base Tt tab ts k
  | 0 => by
    refine ⟨fun f x h => ?_, fun f x m h => ?_, fun f x h => ?_⟩
    · obtain ⟨fa, fd, cdv, st, N, ps, fx, b, F, S, m, bd, t, h1, h2, h0, hxr, hm, c, hg⟩ := (T.fs f x h).ex
      exact ⟨fa, fd, ps, fx.np, ⟨fun vs H Q E ⟨F, ds, r, _, _, _, rp, hl, _⟩ => by rw [rp.length, hl, h1], fun A outer s H args us vs Q E hr he hb hv ⟨F, ds, r, _, _, _, rp, hl, er, _⟩ => by cases er⟩, m, F.kp, bd, fun ds r e => by cases e⟩
    · obtain ⟨fa, fd, cdv, st, N, ps, fx, b, F, S, mm, bd, t, h1, h2, h0, hxr, hm, c, hg⟩ := (T.fm f x m h).2.ex
      exact ⟨fa, fd, ps, fx.np, ⟨fun vs H Q E ⟨F, ds, ms, as, r, fs, vs0, e, _, _, _, rp, hl, _, ha, _⟩ => by rw [e, List.length_append, List.length_map, rp.length, ha, hl, h1], fun A outer s H args us vs Q E hr he hb hv ⟨F, ds, ms, as, r, fs, vs0, e, _, _, _, rp, hl, _, ha, _, er, _⟩ => by cases er⟩, mm, F.kp, bd, fun ds r e => by cases e⟩
    · obtain ⟨fa, fd, cdv, st, N, ps, fx, b, F, S, m, bd, t, h1, h2, h0, hxr, hm, c, hg⟩ := (T.fX f x h).ex
      exact ⟨fa, fd, ps, fx.np, ⟨fun vs H Q E ⟨F, ds, r, _, _, _, rp, hl, _⟩ => by rw [rp.length, hl, h1], fun A outer s H args us vs Q E hr he hb hv ⟨F, ds, r, _, _, _, rp, hl, er, _⟩ => by cases er⟩, m, F.kp, bd, fun ds r e => by cases e⟩
  | k + 1 => by
    have ih := all_ok T k
    refine ⟨fun f x h => ?_, fun f x m h => ?_, fun f x h => ?_⟩
    · obtain ⟨fa, fd, cdv, st, N, ps, fx, b, F, S, m, bd, t, h1, h2, h0, hxr, hm, c, hg⟩ := (T.fs f x h).ex
      exact ⟨fa, fd, ps, fx.np, fn_step T ih F S t h1 h2 h0 hxr c hg, m, F.kp, bd, fun ds r e => run_len t e⟩
    · obtain ⟨hpos, hh⟩ := T.fm f x m h
      obtain ⟨fa, fd, cdv, st, N, ps, fx, b, F, S, mm, bd, t, h1, h2, h0, hxr, hm, c, hg⟩ := hh.ex
      exact ⟨fa, fd, ps, fx.np, fn_stepM T ih F S t h1 h2 h0 hxr hpos c hg, mm, F.kp, bd, fun ds r e => run_len t e⟩
    · obtain ⟨fa, fd, cdv, st, N, ps, fx, b, F, S, m, bd, t, h1, h2, h0, hxr, hm, c, hg⟩ := (T.fX f x h).ex
      exact ⟨fa, fd, ps, fx.np, fn_stepX T ih F S t h1 h2 h0 hxr c hg, m, F.kp, bd, fun ds r e => run_len t e⟩
/-- the law itself -/
theorem law_ok (T : TbOk P w Tt tab ts K mg base) (k : Nat) {f : Nat} {x : Str} {fa : Addr} {fd : FuncData} {cdv : Value} {st : Stmt} {N ps : List Str} {fx : Fx} (F : FunC K x st fa fd cdv) (S : FnScope N ps (defScope st)) (ht : tab f = some fx) (h1 : ps.length = fx.np) (h2 : N.length = fx.ns) (h0 : fx.mp = 0) (hxr : fx.xr = false) (hc : chkSs { Tt with pins := [], gn := false } N (defScope st) fx.body (defBody st) = true) :
    FnOk P w K mg base CX0 (k + 3) fa fd ps (spD K ts (run tab (k + 1)) f fx.np) := fn_step T (all_ok T k) F S ht h1 h2 h0 hxr hc (fun h => by cases h)
theorem spD_law {k f : Nat} {H : Hp} {a : Addr} {ns : List Int} (tb : Tabs ts H) (hS : SqL K H a (ns.map V.int)) (e : run tab k f [.scr ns] = some (.sh (.bl true))) {E : XK} : spD K ts (run tab k) f 1 [.ref a] H (fun v _ => v = .bl true) E := by
  let F : Hp := fun b => match H b with | some (.tbl _) => none | x => x
  have sm : Same F H := fun b o h => by
    simp only [F] at h
    split at h
    · cases h
    · exact h
  have nf : NoT F := fun b o h => by
    simp only [F] at h
    split at h
    · cases h
    · rename_i x n
      rw [h] at n
      cases o <;> first | rfl | exact absurd rfl (n _)
  have hS' : SqL K F a (ns.map V.int) := by
    rcases hS with (h | ⟨o, h⟩) | h
    · exact .inl (.inl (by show (match H a with | some (.tbl _) => none | x => x) = _; rw [h]))
    · exact .inl (.inr ⟨o, by show (match H a with | some (.tbl _) => none | x => x) = _; rw [h]⟩)
    · exact .inr h
  exact ⟨F, [.scr ns], _, nf, tb, sm, .cons (.scr hS') .nil, rfl, e, fun v H' F' _ _ _ _ _ _ h => by cases h; rfl⟩
theorem func_mk {x : Str} {st : Stmt} {fa : Addr} {oc : Value} {od an : Option Addr} {sl : Array (Option Value)} {kV dc pm cd ct : Value} (l : K.lookup fa = some ⟨oc, od, .func (PySem.W.fnOf x x (defArgs st) (defBody st) (defScope st) .none kV dc pm an cd ct), sl⟩) (c : PySem.W.codeIn K cd x = true) (k : PySem.W.keepIn K (.ref fa) = true) :
    FunC K x st fa (PySem.W.fnOf x x (defArgs st) (defBody st) (defScope st) .none kV dc pm an cd ct) cd := ⟨⟨_, _, _, _, _, _, _, _, rfl, l, c⟩, k⟩
/-- the facts of one def -/
theorem fi_mk {h : Heap} (X : K.In h) (G : h.Ns mainGlobals mg) {f m : Nat} {xr : Bool} {x : Str} {st : Stmt} {fa : Addr} {N ps : List Str} {fx : Fx} {b : Bool} {oc : Value} {od an : Option Addr} {sl : Array (Option Value)} {kV dc pm cd ct : Value}
    (a : PySem.W.nsIn K mainGlobals x = some (some (.ref fa))) (l : K.lookup fa = some ⟨oc, od, .func (PySem.W.fnOf x x (defArgs st) (defBody st) (defScope st) .none kV dc pm an cd ct), sl⟩) (c : PySem.W.codeIn K cd x = true) (k : PySem.W.keepIn K (.ref fa) = true)
    (S : FnScope N ps (defScope st)) (hb : ∀ (kV doc pm : Value) (an : Option Addr) (cdv ct : Value) (us : List Value), us.length = ps.length → bindArgs (PySem.W.fnOf x x (defArgs st) (defBody st) (defScope st) .none kV doc pm an cdv ct) ⟨us, []⟩ = pure (ps.zip us))
    (ht : tab f = some fx) (h1 : ps.length = fx.np) (h2 : N.length = fx.ns) (h0 : fx.mp = m) (hxr : fx.xr = xr) (hm : m ≤ fx.np) (hc : chkSs { Tt with pins := (List.range m).map (fun j => fx.np - m + j), gn := b } N (defScope st) fx.body (defBody st) = true) (hg : b = true → ∃ c P, cd = .ref c ∧ GxR.TabB base mg c P ∧ P ∈ ts) : FI Tt tab ts K mg base f x m xr :=
  ⟨fa, _, cd, st, N, ps, fx, b, func_mk l c k, S, PySem.W.mg_of X G a, .all (hb kV dc pm an cd ct), ht, h1, h2, h0, hxr, hm, hc, hg⟩
end
end Ts

set_option linter.all false
set_option autoImplicit false
/-! Reckoning with texts: the equations of the evaluation, as simp takes them; loops over mapped lists. -/
namespace Ts
open PySem L2

section
variable {R : Ts.Run} {env : En}
def varV (i : Nat) (env : En) : Option Sl → Option (Rv × En)
  | some (.sh d) => some (.sh d, env)
  | some (.ow _) => some (.bo i, env)
  | _ => none
@[simp] theorem varV_sh {i : Nat} {d : D} : varV i env (some (.sh d)) = some (.sh d, env) := rfl
@[simp] theorem varV_ow {i : Nat} {d : D} : varV i env (some (.ow d)) = some (.bo i, env) := rfl
@[simp] theorem ev_var {i : Nat} : evE R (.var i) env = varV i env env[i]? := rfl
@[simp] theorem ev_int {i : Int} : evE R (.int i) env = some (.sh (.int i), env) := rfl
@[simp] theorem ev_str {i : Str} : evE R (.str i) env = some (.sh (.str i), env) := rfl
@[simp] theorem ev_bl {i : Bool} : evE R (.bl i) env = some (.sh (.bl i), env) := rfl
@[simp] theorem ev_non : evE R .non env = some (.sh .non, env) := rfl
@[simp] theorem ev_gl {x : Str} {d : D} : evE R (.gl x d) env = some (.sh d, env) := rfl
@[simp] theorem ev_bin {op : Operator} {a b : Ex} : evE R (.bin op a b) env = (evE R a env).bind fun p => (evE R b p.2).bind fun q => (p.1.get q.2).bind fun x => (q.1.get q.2).bind fun y => (binV op x y).bind fun r => some (r.rv, q.2) := rfl
@[simp] theorem ev_neg {a : Ex} : evE R (.neg a) env = (evE R a env).bind fun p => (p.1.get p.2).bind fun x => (negV x).bind fun r => some (.sh r, p.2) := rfl
@[simp] theorem ev_cmp {op : CmpOp} {a b : Ex} : evE R (.cmp op a b) env = (evE R a env).bind fun p => (evE R b p.2).bind fun q => (p.1.get q.2).bind fun x => (q.1.get q.2).bind fun y => (cmpV op x y).bind fun r => some (.sh (.bl r), q.2) := rfl
@[simp] theorem ev_and {as : Exs} : evE R (.and as) env = evAnd R as env := rfl
@[simp] theorem ev_or {as : Exs} : evE R (.or as) env = evOr R as env := rfl
def notR : Rv × En → Option (Rv × En)
  | (.sh (.bl b), e) => some (.sh (.bl (!b)), e)
  | _ => none
@[simp] theorem notR_bl {b : Bool} : notR (.sh (.bl b), env) = some (.sh (.bl (!b)), env) := rfl
@[simp] theorem ev_not {a : Ex} : evE R (.not a) env = (evE R a env).bind notR := by
  show (evE R a env).bind _ = _
  congr 1
  funext ⟨r, e⟩
  cases r with
  | sh d => cases d <;> rfl
  | ow d => rfl
  | bo i => rfl
def iteR (a b : En → Option (Rv × En)) : Rv × En → Option (Rv × En)
  | (.sh (.bl true), e) => a e
  | (.sh (.bl false), e) => b e
  | _ => none
@[simp] theorem iteR_bl {a b : En → Option (Rv × En)} {c : Bool} : iteR a b (.sh (.bl c), env) = if c = true then a env else b env := by cases c <;> rfl
@[simp] theorem ev_ite {c a b : Ex} : evE R (.ite c a b) env = (evE R c env).bind (iteR (evE R a) (evE R b)) := by
  show (evE R c env).bind _ = _
  congr 1
  funext ⟨r, e⟩
  cases r with
  | sh d =>
    cases d with
    | bl k => cases k <;> rfl
    | _ => rfl
  | ow d => rfl
  | bo i => rfl
@[simp] theorem ev_tup {as : Exs} : evE R (.tup as) env = (evL R as env).bind fun p => if p.1.length ≤ bigLine then some (.sh (.tup p.1), p.2) else none := rfl
@[simp] theorem ev_lst {as : Exs} : evE R (.lst as) env = (evL R as env).bind fun p => if p.1.length ≤ bigLine then some (.ow (.lst p.1), p.2) else none := rfl
@[simp] theorem ev_dnewK : evE R (.dnew false) env = some (.ow (.dk []), env) := rfl
@[simp] theorem ev_dnewT : evE R (.dnew true) env = some (.ow (.dt []), env) := rfl
@[simp] theorem ev_dlit {k v : Ex} : evE R (.dlit k v) env = (evE R k env).bind fun p => (evE R v p.2).bind fun q => (leak q.2 q.1).bind fun t => (p.1.get t.2).bind fun x => x.key?.bind fun y => some (.ow (.dk [(y, t.1)]), t.2) := rfl
@[simp] theorem ev_ix {a b : Ex} : evE R (.ix a b) env = (evE R a env).bind fun p => (evE R b p.2).bind fun q => (p.1.get q.2).bind fun x => (q.1.get q.2).bind fun y => (ixV x y).bind fun r => some (.sh r, q.2) := rfl
@[simp] theorem ev_sl {a : Ex} {lo hi : Ox} : evE R (.sl a lo hi) env = (evE R a env).bind fun p => (evO R lo p.2).bind fun q => (evO R hi q.2).bind fun t => (p.1.get t.2).bind fun x => (slV x q.1 t.1).bind fun r => some (r.rv, t.2) := rfl
def revR (e : En) : D → Option (Rv × En)
  | .lst l => some (.ow (.lst l.reverse), e)
  | _ => none
@[simp] theorem revR_lst {l : List D} : revR env (.lst l) = some (.ow (.lst l.reverse), env) := rfl
@[simp] theorem ev_rev {a : Ex} : evE R (.rev a) env = (evE R a env).bind fun p => (p.1.get p.2).bind (revR p.2) := by
  show (evE R a env).bind _ = _
  congr 1
@[simp] theorem ev_call {f : Nat} {as : Exs} : evE R (.call f as) env = (evA R as env).bind fun p => (getAll p.2 p.1).bind fun ds => (R f ds).bind fun r =>
      if noBo p.1 = true ∨ flatRet r = true then some (r.rv, p.2) else (leakAll p.2 p.1).bind fun e => some (r.rv, e) := rfl
@[simp] theorem ev_bi {b : Bi} {as : Exs} : evE R (.bi b as) env = (evA R as env).bind fun p => (getAll p.2 p.1).bind fun ds => (biV b ds).bind fun r => some (r.rv, p.2) := rfl
def popF (i : Nat) (env : En) : Option Sl → Option (Rv × En)
  | some (.ow (.lst (d :: r))) => some (.sh d, env.set i (.ow (.lst r)))
  | _ => none
def popL (i : Nat) (env : En) : Option Sl → Option (Rv × En)
  | some (.ow (.lst l)) => match l.getLast? with | some d => some (.sh d, env.set i (.ow (.lst l.dropLast))) | none => none
  | _ => none
@[simp] theorem popF_cons {i : Nat} {d : D} {r : List D} : popF i env (some (.ow (.lst (d :: r)))) = some (.sh d, env.set i (.ow (.lst r))) := rfl
@[simp] theorem popL_some {i : Nat} {l : List D} {d : D} : popL i env (some (.ow (.lst (l ++ [d])))) = some (.sh d, env.set i (.ow (.lst l))) := by simp [popL]
@[simp] theorem ev_popF {i : Nat} : evE R (.pop i true) env = popF i env env[i]? := by
  simp only [evE]
  cases env[i]? with
  | none => rfl
  | some s =>
    cases s with
    | ow d =>
      cases d with
      | lst l => cases l <;> rfl
      | _ => rfl
    | _ => rfl
@[simp] theorem ev_popL {i : Nat} : evE R (.pop i false) env = popL i env env[i]? := by
  simp only [evE]
  cases env[i]? with
  | none => rfl
  | some s =>
    cases s with
    | ow d =>
      cases d with
      | lst l => rfl
      | _ => rfl
    | _ => rfl
@[simp] theorem ev_idx {a b : Ex} : evE R (.idx a b) env = (evE R a env).bind fun p => (evE R b p.2).bind fun q => (p.1.get q.2).bind fun x => (q.1.get q.2).bind fun y => (idxV x y).bind fun r => if isL (p.1.get p.2) = true then some (.sh r, q.2) else none := rfl
@[simp] theorem ev_count {a b : Ex} : evE R (.cnt a b) env = (evE R a env).bind fun p => (evE R b p.2).bind fun q => (p.1.get q.2).bind fun x => (q.1.get q.2).bind fun y => (cntV x y).bind fun r => if isL (p.1.get p.2) = true then some (.sh r, q.2) else none := rfl
@[simp] theorem ev_idxT {a b : Ex} : evE R (.idxT a b) env = (evE R a env).bind fun p => (evE R b p.2).bind fun q => (p.1.get q.2).bind fun x => (q.1.get q.2).bind fun y => (idxTV x y).bind fun r => if isTpn (p.1.get p.2) = true then some (.sh r, q.2) else none := rfl
@[simp] theorem ev_dictc {a : Ex} : evE R (.dictc a) env = (evE R a env).bind fun q => (q.1.get q.2).bind fun x => (dictV x).bind fun r => some (.ow r, q.2) := rfl
@[simp] theorem ev_dget {a k d : Ex} : evE R (.dget a k d) env = (evE R a env).bind fun p => (evE R k p.2).bind fun q => (evE R d q.2).bind fun t => (p.1.get t.2).bind fun x => (q.1.get t.2).bind fun y => (t.1.get t.2).bind fun z => (dgetV x y z).bind fun r => if isDk (p.1.get p.2) = true then some (.sh r, t.2) else none := rfl
def dcStp (R : Ts.Run) (p : Pt) (k v : Ex) (envb : En) (d : D) : Option (Option D) := (asgP envb p d).bind fun e1 => (evE R k e1).bind fun a => (a.1.get a.2).bind fun x => x.key?.bind fun _ => (evE R v a.2).bind fun b => (leak b.2 b.1).bind fun y => some (some (.tup [x, y.1]))
theorem dc_of {own uses : List Nat} {p : Pt} {it : Itx} {k v : Ex} {env1 : En} {l ds : List D} {ps : List (Key × D)} (h1 : evI R it env = some (l, env1)) (h2 : lcD (dcStp R p k v (wipeE (hide (frz env1 uses)) own)) l = some ds) (h3 : ds.length ≤ bigLine) (h4 : pairsD? ds = some ps) (h5 : anyOw env1 uses = false) :
    evE R (.dc own uses p it k v) env = some (.ow (.dk (mergeD [] ps)), env1) := by
  have h2' : lcD (fun d => (asgP (wipeE (hide (frz env1 uses)) own) p d).bind fun e1 => (evE R k e1).bind fun a => (a.1.get a.2).bind fun x => x.key?.bind fun _ => (evE R v a.2).bind fun b => (leak b.2 b.1).bind fun y => some (some (.tup [x, y.1]))) l = some ds := h2
  simp only [evE, h1, Option.bind_some, h2', h3, if_true, h4, h5]
def lkStp (R : Ts.Run) (p : Pt) (e : Ex) (envb : En) (d : D) : Option (Option D) := (asgP envb p d).bind fun e1 => (evE R e e1).bind fun r => (leak r.2 r.1).bind fun x => some (some x.1)
theorem lk_of {own : List Nat} {p : Pt} {i : Nat} {e : Ex} {es : List (L2.Key × D)} {ds : List D} (h0 : env[i]? = some (.ow (.dk es))) (h2 : lcD (lkStp R p e (wipeE (hide (env.set i (.sh (.dk es)))) own)) (es.map fun kv => keyD kv.1) = some ds) (h3 : ds.length ≤ bigLine) (h4 : ds.all D.flat = true) :
    evE R (.lk own p i e) env = some (.ow (.lst ds), env) := by
  have h2' : lcD (fun d => (asgP (wipeE (hide (env.set i (.sh (.dk es)))) own) p d).bind fun e1 => (evE R e e1).bind fun r => (leak r.2 r.1).bind fun x => some (some x.1)) (es.map fun kv => keyD kv.1) = some ds := h2
  simp only [evE, h0, h2', Option.bind_some]
  rw [if_pos ⟨h3, h4⟩]
theorem lkx_of {own uses : List Nat} {p : Pt} {i : Nat} {cs : Exs} {e : Ex} {dd : D} {items ds : List D} (h0 : lkItems p env[i]? = some (dd, items)) (h2 : lcD (lcStep R p cs e (wipeE (hide (frz (env.set i (.sh dd)) uses)) own)) items = some ds) (h3 : ds.length ≤ bigLine) (h4 : ds.all D.flat = true) :
    evE R (.lkx own uses p i cs e) env = some (.ow (.lst ds), env) := by
  have h2' : lcD (fun d => (asgP (wipeE (hide (frz (env.set i (.sh dd)) uses)) own) p d).bind fun e1 => (evC R cs e1).bind fun c => if c = true then (evE R e e1).bind fun r => (leak r.2 r.1).bind fun x => some (some x.1) else some none) items = some ds := h2
  simp only [evE, h0, Option.bind_some, h2']
  rw [if_pos ⟨h3, h4⟩]
/-- turns of two walks, one in the other -/
def lc2StpI (R : Ts.Run) (p1 : Pt) (e : Ex) (envb : En) (d1 : D) : Option (Option D) := (asgP envb p1 d1).bind fun e2 => (evE R e e2).bind fun r => (leak r.2 r.1).bind fun x => some (some x.1)
def lc2Stp (R : Ts.Run) (own1 : List Nat) (p p1 : Pt) (it1 : Itx) (e : Ex) (envb : En) (d : D) : Option (List D) := (asgP envb p d).bind fun e1 => (evI R it1 e1).bind fun q1 => lcD (lc2StpI R p1 e (wipeE (hide q1.2) own1)) q1.1
theorem lc2_of {own uses own1 : List Nat} {p p1 : Pt} {it it1 : Itx} {e : Ex} {env1 : En} {l ds : List D} (h1 : evI R it env = some (l, env1)) (h2 : lc2D (lc2Stp R own1 p p1 it1 e (wipeE (hide (frz env1 uses)) own)) l = some ds) (h3 : ds.length ≤ bigLine) (h4 : anyOw env1 uses = false ∨ ds.all D.flat = true) :
    evE R (.lc2 own uses own1 p it p1 it1 e) env = some (.ow (.lst ds), env1) := by
  have h2' : lc2D (fun d => (asgP (wipeE (hide (frz env1 uses)) own) p d).bind fun e1 => (evI R it1 e1).bind fun q1 => lcD (fun d1 => (asgP (wipeE (hide q1.2) own1) p1 d1).bind fun e2 => (evE R e e2).bind fun r => (leak r.2 r.1).bind fun x => some (some x.1)) q1.1) l = some ds := h2
  simp only [evE, h1, Option.bind_some, h2', h3, if_true]
  rw [if_pos h4]
@[simp] theorem ev_isi {t : Ti} {a : Ex} : evE R (.isi t a) env = (evE R a env).bind fun p => (p.1.get p.2).bind fun x => (isiV t x).bind fun r => some (.sh (.bl r), p.2) := rfl
@[simp] theorem ev_lset {a : Ex} : evE R (.lset a) env = (evE R a env).bind fun p => (p.1.get p.2).bind fun x => (lsetV x).bind fun r => some (.sh r, p.2) := rfl
@[simp] theorem ev_sset {a : Ex} : evE R (.sset a) env = (evE R a env).bind fun p => (p.1.get p.2).bind fun x => (ssetV x).bind fun r => some (.ow (.lst r), p.2) := rfl
def tupR : Rv × En → Option (Rv × En)
  | (.sh (.tup l), e) => some (.sh (.tup l), e)
  | _ => none
@[simp] theorem tupR_tup {l : List D} : tupR (.sh (.tup l), env) = some (.sh (.tup l), env) := rfl
def orVR (b : En → Option (Rv × En)) : Rv × En → Option (Rv × En)
  | (.sh .non, e) => (b e).bind tupR
  | (.sh (.tup (d :: l)), e) => some (.sh (.tup (d :: l)), e)
  | _ => none
@[simp] theorem orVR_non {b : En → Option (Rv × En)} : orVR b (.sh .non, env) = (b env).bind tupR := rfl
@[simp] theorem orVR_tup {b : En → Option (Rv × En)} {d : D} {l : List D} : orVR b (.sh (.tup (d :: l)), env) = some (.sh (.tup (d :: l)), env) := rfl
@[simp] theorem ev_orV {a b : Ex} : evE R (.orV a b) env = (evE R a env).bind (orVR (evE R b)) := by
  show (evE R a env).bind _ = _
  congr 1
  funext ⟨r, e⟩
  cases r with
  | sh d =>
    cases d with
    | non =>
      show (evE R b e).bind _ = (evE R b e).bind tupR
      congr 1
      funext ⟨r, e⟩
      cases r with
      | sh d => cases d <;> rfl
      | ow d => rfl
      | bo i => rfl
    | tup l => cases l <;> rfl
    | _ => rfl
  | ow d => rfl
  | bo i => rfl
/-- a turn of a comprehension -/
def lcStp (R : Ts.Run) (p : Pt) (cs : Exs) (e : Ex) (envb : En) (d : D) : Option (Option D) :=
  (asgP envb p d).bind fun e1 => (evC R cs e1).bind fun c => if c = true then (evE R e e1).bind fun r => (leak r.2 r.1).bind fun x => some (some x.1) else some none
@[simp] theorem ev_lc {own uses : List Nat} {p : Pt} {it : Itx} {cs : Exs} {e : Ex} : evE R (.lc own uses p it cs e) env = (evI R it env).bind fun q =>
      (lcD (lcStp R p cs e (wipeE (hide (frz q.2 uses)) own)) q.1).bind fun ds =>
        if ds.length ≤ bigLine then
          if anyOw q.2 uses = false ∨ ds.all D.flat = true then some (.ow (.lst ds), q.2) else some (.ow (.lst ds), frz q.2 uses)
        else none := rfl
@[simp] theorem evA_nil : evA R .nil env = some ([], env) := rfl
@[simp] theorem evA_cons {e : Ex} {es : Exs} : evA R (.cons e es) env = (evE R e env).bind fun p => (evA R es p.2).bind fun q => some (p.1 :: q.1, q.2) := rfl
@[simp] theorem evL_nil : evL R .nil env = some ([], env) := rfl
@[simp] theorem evL_cons {e : Ex} {es : Exs} : evL R (.cons e es) env = (evE R e env).bind fun p => (leak p.2 p.1).bind fun t => (evL R es t.2).bind fun q => some (t.1 :: q.1, q.2) := rfl
def bl1 : Rv × En → Option (Rv × En)
  | (.sh (.bl b), e) => some (.sh (.bl b), e)
  | _ => none
@[simp] theorem bl1_bl {b : Bool} : bl1 (.sh (.bl b), env) = some (.sh (.bl b), env) := rfl
def andR (k : En → Option (Rv × En)) : Rv × En → Option (Rv × En)
  | (.sh (.bl true), e) => k e
  | (.sh (.bl false), e) => some (.sh (.bl false), e)
  | _ => none
def orR (k : En → Option (Rv × En)) : Rv × En → Option (Rv × En)
  | (.sh (.bl false), e) => k e
  | (.sh (.bl true), e) => some (.sh (.bl true), e)
  | _ => none
@[simp] theorem andR_bl {k : En → Option (Rv × En)} {c : Bool} : andR k (.sh (.bl c), env) = if c = true then k env else some (.sh (.bl false), env) := by cases c <;> rfl
@[simp] theorem orR_bl {k : En → Option (Rv × En)} {c : Bool} : orR k (.sh (.bl c), env) = if c = true then some (.sh (.bl true), env) else k env := by cases c <;> rfl
theorem rv_cases {P : Rv × En → Prop} (h1 : ∀ b e, P (.sh (.bl b), e)) (h2 : ∀ r e, (∀ b, r ≠ .sh (.bl b)) → P (r, e)) : ∀ p, P p := fun ⟨r, e⟩ => by
  by_cases h : ∃ b, r = .sh (.bl b)
  · obtain ⟨b, rfl⟩ := h; exact h1 b e
  · exact h2 r e fun b z => h ⟨b, z⟩
@[simp] theorem evAnd_one {e : Ex} : evAnd R (.cons e .nil) env = (evE R e env).bind bl1 := by
  show (evE R e env).bind _ = _
  congr 1
  funext ⟨r, e⟩
  cases r with
  | sh d => cases d <;> rfl
  | ow d => rfl
  | bo i => rfl
@[simp] theorem evAnd_cons {e a : Ex} {es : Exs} : evAnd R (.cons e (.cons a es)) env = (evE R e env).bind (andR (evAnd R (.cons a es))) := by
  show (evE R e env).bind _ = _
  congr 1
  funext ⟨r, e⟩
  cases r with
  | sh d =>
    cases d with
    | bl k => cases k <;> rfl
    | _ => rfl
  | ow d => rfl
  | bo i => rfl
@[simp] theorem evOr_one {e : Ex} : evOr R (.cons e .nil) env = (evE R e env).bind bl1 := by
  show (evE R e env).bind _ = _
  congr 1
  funext ⟨r, e⟩
  cases r with
  | sh d => cases d <;> rfl
  | ow d => rfl
  | bo i => rfl
@[simp] theorem evOr_cons {e a : Ex} {es : Exs} : evOr R (.cons e (.cons a es)) env = (evE R e env).bind (orR (evOr R (.cons a es))) := by
  show (evE R e env).bind _ = _
  congr 1
  funext ⟨r, e⟩
  cases r with
  | sh d =>
    cases d with
    | bl k => cases k <;> rfl
    | _ => rfl
  | ow d => rfl
  | bo i => rfl
def intR : Rv × En → Option (Option Int × En)
  | (.sh (.int i), e) => some (some i, e)
  | _ => none
@[simp] theorem intR_int {i : Int} : intR (.sh (.int i), env) = some (some i, env) := rfl
@[simp] theorem evO_no : evO R .no env = some (none, env) := rfl
@[simp] theorem evO_yes {e : Ex} : evO R (.yes e) env = (evE R e env).bind intR := by
  show (evE R e env).bind _ = _
  congr 1
  funext ⟨r, e⟩
  cases r with
  | sh d => cases d <;> rfl
  | ow d => rfl
  | bo i => rfl
def rngR : Rv × En → Option (List D × En)
  | (.sh (.int n), e) => if n.natAbs < rngLine then some ((List.range n.toNat).map (fun (k : Nat) => D.int k), e) else none
  | _ => none
@[simp] theorem rngR_int {n : Int} : rngR (.sh (.int n), env) = if n.natAbs < rngLine then some ((List.range n.toNat).map (fun (k : Nat) => D.int k), env) else none := rfl
def dkR : Rv × En → Option (List D × En)
  | (.ow (.dk es), e) => some (es.map (fun kv => keyD kv.1), e)
  | _ => none
@[simp] theorem dkR_dk {es : List (Key × D)} : dkR (.ow (.dk es), env) = some (es.map (fun kv => keyD kv.1), env) := rfl
@[simp] theorem evI_dkeys {e : Ex} : evI R (.dkeys e) env = (evE R e env).bind dkR := by
  show (evE R e env).bind _ = _
  congr 1
  funext ⟨r, e⟩
  cases r with
  | sh d => rfl
  | ow d => cases d <;> rfl
  | bo i => rfl
def chR : Rv × En → Option (List D × En)
  | (.sh (.str s), e) => some (s.cps.toList.map (fun c => D.str ⟨#[c]⟩), e)
  | _ => none
@[simp] theorem chR_str {s : Str} : chR (.sh (.str s), env) = some (s.cps.toList.map (fun c => D.str ⟨#[c]⟩), env) := rfl
@[simp] theorem evI_chars {e : Ex} : evI R (.chars e) env = (evE R e env).bind chR := by
  show (evE R e env).bind _ = _
  congr 1
  funext ⟨r, e⟩
  cases r with
  | sh d => cases d <;> rfl
  | ow d => rfl
  | bo i => rfl
def enR : D × En → Option (List D × En)
  | (.lst l, e) => some (enumD l, e)
  | _ => none
@[simp] theorem enR_lst {l : List D} : enR (.lst l, env) = some (enumD l, env) := rfl
@[simp] theorem evI_enum {e : Ex} : evI R (.enum e) env = (evE R e env).bind fun p => (leak p.2 p.1).bind enR := by
  show (evE R e env).bind _ = _
  congr 1
  funext ⟨r, e⟩
  show (leak e r).bind _ = _
  congr 1
  funext ⟨d, e⟩
  cases d <;> rfl
@[simp] theorem evI_seq {e : Ex} : evI R (.seq e) env = (evE R e env).bind fun p => (leak p.2 p.1).bind fun q => (items? q.1).bind fun l => some (l, q.2) := rfl
@[simp] theorem evI_rng1 {e : Ex} : evI R (.rng1 e) env = (evE R e env).bind rngR := by
  show (evE R e env).bind _ = _
  congr 1
  funext ⟨r, e⟩
  cases r with
  | sh d => cases d <;> rfl
  | ow d => rfl
  | bo i => rfl
def rngR2 (m : Rv) : Rv × En → Option (List D × En)
  | (.sh (.int n), e) => match m with
    | .sh (.int m) => if m.natAbs < rngLine ∧ n.natAbs < rngLine then some ((List.range (n - m).toNat).map (fun (k : Nat) => D.int (m + k)), e) else none
    | _ => none
  | _ => none
@[simp] theorem rngR2_int {m n : Int} : rngR2 (.sh (.int m)) (.sh (.int n), env) = if m.natAbs < rngLine ∧ n.natAbs < rngLine then some ((List.range (n - m).toNat).map (fun (k : Nat) => D.int (m + k)), env) else none := rfl
@[simp] theorem evI_rng2 {a b : Ex} : evI R (.rng2 a b) env = (evE R a env).bind fun p => (evE R b p.2).bind (rngR2 p.1) := by
  show (evE R a env).bind _ = _
  congr 1
  funext ⟨r, e⟩
  show (evE R b e).bind _ = _
  congr 1
  funext ⟨r2, e2⟩
  cases r with
  | sh d =>
    cases d <;> (cases r2 with
      | sh d2 => cases d2 <;> rfl
      | ow d => rfl
      | bo i => rfl)
  | ow d =>
    cases r2 with
      | sh d2 => cases d2 <;> rfl
      | ow d => rfl
      | bo i => rfl
  | bo i =>
    cases r2 with
      | sh d2 => cases d2 <;> rfl
      | ow d => rfl
      | bo i => rfl
def rngRD (m : Rv) : Rv × En → Option (List D × En)
  | (.sh (.int n), e) => match m with
    | .sh (.int m) => if m.natAbs < rngLine ∧ n.natAbs < rngLine then some ((List.range (m - n).toNat).map (fun (k : Nat) => D.int (m - k)), e) else none
    | _ => none
  | _ => none
@[simp] theorem rngRD_int {m n : Int} : rngRD (.sh (.int m)) (.sh (.int n), env) = if m.natAbs < rngLine ∧ n.natAbs < rngLine then some ((List.range (m - n).toNat).map (fun (k : Nat) => D.int (m - k)), env) else none := rfl
@[simp] theorem evI_rngD {a b : Ex} : evI R (.rngD a b) env = (evE R a env).bind fun p => (evE R b p.2).bind (rngRD p.1) := by
  show (evE R a env).bind _ = _
  congr 1
  funext ⟨r, e⟩
  show (evE R b e).bind _ = _
  congr 1
  funext ⟨r2, e2⟩
  cases r with
  | sh d =>
    cases d <;> (cases r2 with
      | sh d2 => cases d2 <;> rfl
      | ow d => rfl
      | bo i => rfl)
  | ow d =>
    cases r2 with
      | sh d2 => cases d2 <;> rfl
      | ow d => rfl
      | bo i => rfl
  | bo i =>
    cases r2 with
      | sh d2 => cases d2 <;> rfl
      | ow d => rfl
      | bo i => rfl
def blC : Rv × En → Option Bool
  | (.sh (.bl b), _) => some b
  | _ => none
@[simp] theorem blC_bl {b : Bool} : blC (.sh (.bl b), env) = some b := rfl
@[simp] theorem evC_nil : evC R .nil env = some true := rfl
@[simp] theorem evC_one {e : Ex} : evC R (.cons e .nil) env = (evE R e env).bind blC := by
  show (evE R e env).bind _ = _
  congr 1
  funext ⟨r, e⟩
  cases r with
  | sh d => cases d <;> rfl
  | ow d => rfl
  | bo i => rfl

/-! ### statements -/
@[simp] theorem ev_asg {i : Nat} {e : Ex} : evS R (.asg i e) env = (evE R e env).bind fun p => (store p.2 i p.1).bind fun e => some (.nx e) := rfl
def unpR (is : List Nat) : D × En → Option Out
  | (.tup l, e) => (asgs e is l).bind fun e => some (.nx e)
  | (.lst l, e) => (asgs e is l).bind fun e => some (.nx e)
  | _ => none
@[simp] theorem unpR_tup {is : List Nat} {l : List D} : unpR is (.tup l, env) = (asgs env is l).bind fun e => some (.nx e) := rfl
@[simp] theorem unpR_lst {is : List Nat} {l : List D} : unpR is (.lst l, env) = (asgs env is l).bind fun e => some (.nx e) := rfl
@[simp] theorem ev_unp {is : List Nat} {e : Ex} : evS R (.unp is e) env = (evE R e env).bind fun p => (leak p.2 p.1).bind (unpR is) := by
  show (evE R e env).bind _ = _
  congr 1
  funext p
  show (leak p.2 p.1).bind _ = _
  congr 1
  funext ⟨d, e⟩
  cases d <;> rfl
def appR (i : Nat) (d : D) (e : En) : Option Sl → Option Out
  | some (.ow (.lst l)) => if l.length < bigLine then some (.nx (e.set i (.ow (.lst (l ++ [d]))))) else none
  | _ => none
@[simp] theorem appR_ow {i : Nat} {d : D} {l : List D} : appR i d env (some (.ow (.lst l))) = if l.length < bigLine then some (.nx (env.set i (.ow (.lst (l ++ [d]))))) else none := rfl
def isOwL : Option Sl → Bool
  | some (.ow (.lst _)) => true
  | _ => false
def isOwA : Option Sl → Bool
  | some (.ow _) => true
  | _ => false
@[simp] theorem isOwL_ow {l : List D} : isOwL (some (.ow (.lst l))) = true := rfl
@[simp] theorem isOwA_ow {l : D} : isOwA (some (.ow l)) = true := rfl
@[simp] theorem ev_app {i : Nat} {e : Ex} : evS R (.app i e) env = if isOwL env[i]? = true then (evE R e env).bind fun p => (leak p.2 p.1).bind fun q => appR i q.1 q.2 q.2[i]? else none := by
  simp only [evS]
  cases h : env[i]? with
  | none => rfl
  | some s =>
    cases s with
    | ow d =>
      cases d with
      | lst l =>
        simp only [isOwL, if_true]
        congr 1
      | _ => rfl
    | _ => rfl
def parR (i j : Nat) : Rv → Rv × En → Option Out
  | .sh x, (.sh y, e) => if i < e.length ∧ j < e.length then some (.nx ((e.set i (.sh x)).set j (.sh y))) else none
  | _, _ => none
@[simp] theorem parR_sh {i j : Nat} {x y : D} : parR i j (.sh x) (.sh y, env) = if i < env.length ∧ j < env.length then some (.nx ((env.set i (.sh x)).set j (.sh y))) else none := rfl
@[simp] theorem ev_par {i j : Nat} {a b : Ex} : evS R (.par i j a b) env = (evE R a env).bind fun p => (evE R b p.2).bind (parR i j p.1) := by
  show (evE R a env).bind _ = _
  congr 1
  funext ⟨r, e⟩
  show (evE R b e).bind _ = _
  congr 1
  funext ⟨r2, e2⟩
  cases r <;> cases r2 <;> rfl
def augR (i : Nat) : Option Sl → Rv × En → Option Out
  | some (.sh (.int m)), (.sh (.int n), e) => if i < e.length then some (.nx (e.set i (.sh (.int (m + n))))) else none
  | _, _ => none
@[simp] theorem augR_int {i : Nat} {m n : Int} : augR i (some (.sh (.int m))) (.sh (.int n), env) = if i < env.length then some (.nx (env.set i (.sh (.int (m + n))))) else none := rfl
theorem ev_aug {i : Nat} {e : Ex} {m : Int} (h : env[i]? = some (.sh (.int m))) : evS R (.aug i e) env = (evE R e env).bind (augR i (some (.sh (.int m)))) := by
  simp only [evS, h]
  congr 1
  funext ⟨r, e⟩
  cases r with
  | sh d => cases d <;> rfl
  | ow d => rfl
  | bo i => rfl
@[simp] theorem ev_put {i : Nat} {k e : Ex} : evS R (.put i k e) env = if isOwA env[i]? = true then (evE R e env).bind fun p => (leak p.2 p.1).bind fun q => (evE R k q.2).bind fun t => (leak t.2 t.1).bind fun z => (putV i z.1 q.1 z.2).bind fun e => some (.nx e) else none := by
  simp only [evS]
  cases h : env[i]? with
  | none => rfl
  | some s => cases s <;> rfl
@[simp] theorem ev_exp {e : Ex} : evS R (.exp e) env = (evE R e env).bind fun p => some (.nx p.2) := rfl
def ifR (a b : En → Option Out) : Rv × En → Option Out
  | (.sh (.bl true), e) => a e
  | (.sh (.bl false), e) => b e
  | _ => none
@[simp] theorem ifR_bl {a b : En → Option Out} {c : Bool} : ifR a b (.sh (.bl c), env) = if c = true then a env else b env := by cases c <;> rfl
@[simp] theorem ev_ifs {c : Ex} {a b : Sts} : evS R (.ifs c a b) env = (evE R c env).bind (ifR (evSs R a) (evSs R b)) := by
  show (evE R c env).bind _ = _
  congr 1
  funext ⟨r, e⟩
  cases r with
  | sh d =>
    cases d with
    | bl k => cases k <;> rfl
    | _ => rfl
  | ow d => rfl
  | bo i => rfl
/-- a turn -/
def forT (R : Ts.Run) (p : Pt) (body : Sts) (w : List Nat) (d : D) (e : En) : Option Out := (asgP e p d).bind fun e1 => (evSs R body e1).bind fun o => some (wipeOut w o)
def whT (R : Ts.Run) (body : Sts) (w : List Nat) (e : En) : Option Out := (evSs R body e).bind fun o => some (wipeOut w o)
def whR : Rv × En → Option (Bool × En)
  | (.sh (.bl b), e) => some (b, e)
  | _ => none
@[simp] theorem whR_bl {b : Bool} : whR (.sh (.bl b), env) = some (b, env) := rfl
def whC (R : Ts.Run) (c : Ex) (e : En) : Option (Bool × En) := (evE R c e).bind whR
theorem forK_of {i : Nat} {p : Pt} {body : Sts} {w : List Nat} {d : D} {items : List D} {o : Out} (h1 : lkItemsO p env[i]? = some (d, items)) (h2 : forD (forT R p body w) items (env.set i (.sh d)) = some o) (h3 : noRx o = true) : evS R (.forK i p body w) env = some o := by
  have : evS R (.forK i p body w) env = (lkItemsO p env[i]?).bind fun q => (forD (forT R p body w) q.2 (env.set i (.sh q.1))).bind fun o => if noRx o = true then some o else none := rfl
  rw [this, h1, Option.bind_some, h2, Option.bind_some, if_pos h3]
theorem sscK_of {i j : Nat} {kvs : List (List Key × D)} {ks : List Str} (h1 : env[j]? = some (.ow (.dt kvs))) (h2 : firsts? kvs = some ks) (h3 : ks.length < 1000) (h4 : i < env.length) : evE R (.sscK i j) env = some (.ow (.lst (((dedS ks).map D.str).mergeSort leD)), env) := by
  simp only [evE, h1, h2, Option.bind_some]
  rw [if_pos ⟨h3, h4⟩]
@[simp] theorem ev_for {p : Pt} {it : Itx} {body : Sts} {w : List Nat} : evS R (.for_ p it body w) env = (evI R it env).bind fun q => forD (forT R p body w) q.1 q.2 := rfl
@[simp] theorem ev_while {c : Ex} {body : Sts} {w : List Nat} : evS R (.while_ c body w) env = whileD (whC R c) (whT R body w) whileMost env := by
  show whileD _ _ _ _ = _
  congr 1
  funext e
  show (evE R c e).bind _ = _
  unfold whC
  congr 1
  funext ⟨r, e⟩
  cases r with
  | sh d => cases d <;> rfl
  | ow d => rfl
  | bo i => rfl
@[simp] theorem ev_ret {e : Ex} : evS R (.ret e) env = (evE R e env).bind fun p => (retV p.2 p.1).bind fun r => some (.rt r) := rfl
def retMR (ms : List Nat) : Rv × En → Option Out
  | (.sh d, e) => (owAll e ms).bind fun fs => some (.rt (.mu d fs))
  | _ => none
@[simp] theorem retMR_sh {ms : List Nat} {d : D} : retMR ms (.sh d, env) = (owAll env ms).bind fun fs => some (.rt (.mu d fs)) := rfl
@[simp] theorem ev_retM {ms : List Nat} {e : Ex} : evS R (.retM ms e) env = (evE R e env).bind (retMR ms) := by
  show (evE R e env).bind _ = _
  congr 1
  funext ⟨r, e⟩
  cases r <;> rfl
theorem callM_of {f m : Nat} {as : Exs} {env1 e' : En} {rs : List Rv} {ds : List D} {is : List Nat} {x : D} {fs : List D} (h1 : evA R as env = some (rs, env1)) (h2 : getAll env1 rs = some ds) (h3 : noBo (rs.take (rs.length - m)) = true) (h4 : bos (rs.drop (rs.length - m)) = some is) (h5 : is.Nodup ∧ is.length = m) (h6 : R f ds = some (.mu x fs)) (h7 : putAll env1 is fs = some e') :
    evE R (.callM f as m) env = some (.sh x, e') := by
  simp only [evE, h1, Option.bind_some, h2, h3, if_true, h4, h6, h7]
  rw [if_pos h5]
theorem ev_anyIn {it : Ex} {i : Nat} : evE R (.anyIn it i) env = (evE R it env).bind fun p => (p.1.get p.2).bind fun l => (getAt p.2 i).bind fun m => (anyInV l m).bind fun b => some (.sh (.bl b), p.2) := rfl
theorem anyPos_of {i : Nat} {kvs : List (List Key × D)} {ns : List Int} (h : env[i]? = some (.ow (.dt kvs))) (h1 : valsI? kvs = some ns) (h2 : kvs.length ≤ bigLine) : evE R (.anyPos i) env = some (.sh (.bl (ns.any fun n => decide (0 < n))), env) := by
  simp only [evE, h, h1, Option.bind_some, h2, if_true]
@[simp] theorem ev_retN : evS R .retN env = some (.rt (.sh .non)) := rfl
@[simp] theorem ev_brk : evS R .brk env = some (.bk env) := rfl
@[simp] theorem ev_cnt : evS R .cnt env = some (.ct env) := rfl
@[simp] theorem ev_pass : evS R .pass env = some (.nx env) := rfl
@[simp] theorem evSs_nil : evSs R .nil env = some (.nx env) := rfl
def sqR (k : En → Option Out) : Out → Option Out
  | .nx e => k e
  | o => some o
@[simp] theorem sqR_nx {k : En → Option Out} : sqR k (.nx env) = k env := rfl
@[simp] theorem sqR_rt {k : En → Option Out} {v : Nv} : sqR k (.rt v) = some (.rt v) := rfl
@[simp] theorem sqR_bk {k : En → Option Out} : sqR k (.bk env) = some (.bk env) := rfl
@[simp] theorem sqR_ct {k : En → Option Out} : sqR k (.ct env) = some (.ct env) := rfl
@[simp] theorem evSs_cons {s : Ts.St} {ss : Sts} : evSs R (.cons s ss) env = (evS R s env).bind (sqR (evSs R ss)) := by
  show (evS R s env).bind _ = _
  congr 1
end

/-! ### small values -/
@[simp] theorem get_sh {env : En} {d : D} : Rv.get env (.sh d) = some d := rfl
@[simp] theorem get_ow {env : En} {d : D} : Rv.get env (.ow d) = some d := rfl
@[simp] theorem get_bo {env : En} {i : Nat} : Rv.get env (.bo i) = (env[i]?).bind slD := rfl
@[simp] theorem slD_sh {d : D} : slD (.sh d) = some d := rfl
@[simp] theorem slD_ow {d : D} : slD (.ow d) = some d := rfl
@[simp] theorem leak_sh {env : En} {d : D} : leak env (.sh d) = some (d, env) := rfl
@[simp] theorem leak_ow {env : En} {d : D} : leak env (.ow d) = some (d, env) := rfl
@[simp] theorem leak_bo {env : En} {i : Nat} : leak env (.bo i) = ((env[i]?).bind slD).bind fun d => some (d, env.set i (.sh d)) := rfl
@[simp] theorem rv_sh {d : D} : Nv.rv (.sh d) = .sh d := rfl
@[simp] theorem rv_ow {d : D} : Nv.rv (.ow d) = .ow d := rfl
def ownR (k : Option (List D)) : Option Sl → Option (List D)
  | some (.ow d) => k.bind fun ds => some (d :: ds)
  | _ => none
@[simp] theorem ownR_ow {k : Option (List D)} {d : D} : ownR k (some (.ow d)) = k.bind fun ds => some (d :: ds) := rfl
@[simp] theorem owAll_nil {env : En} : owAll env [] = some [] := rfl
@[simp] theorem owAll_cons {env : En} {i : Nat} {is : List Nat} : owAll env (i :: is) = ownR (owAll env is) env[i]? := by
  simp only [owAll]
  cases env[i]? with
  | none => rfl
  | some s => cases s <;> rfl
@[simp] theorem getAll_nil {env : En} : getAll env [] = some [] := rfl
@[simp] theorem getAll_cons {env : En} {r : Rv} {rs : List Rv} : getAll env (r :: rs) = (r.get env).bind fun d => (getAll env rs).bind fun ds => some (d :: ds) := rfl
@[simp] theorem noBo_nil : noBo [] = true := rfl
@[simp] theorem noBo_sh {d : D} {rs : List Rv} : noBo (.sh d :: rs) = noBo rs := rfl
@[simp] theorem noBo_ow {d : D} {rs : List Rv} : noBo (.ow d :: rs) = noBo rs := rfl
@[simp] theorem noBo_bo {i : Nat} {rs : List Rv} : noBo (.bo i :: rs) = false := rfl
@[simp] theorem flatRet_sh {d : D} : flatRet (.sh d) = d.flat := rfl
@[simp] theorem flatRet_ow {l : List D} : flatRet (.ow (.lst l)) = l.all D.flat := rfl
@[simp] theorem store_sh {env : En} {i : Nat} {d : D} : store env i (.sh d) = if i < env.length then some (env.set i (.sh d)) else none := rfl
@[simp] theorem store_ow {env : En} {i : Nat} {d : D} : store env i (.ow d) = if i < env.length then some (env.set i (.ow d)) else none := rfl
@[simp] theorem store_bo {env : En} {i j : Nat} : store env i (.bo j) = (leak env (.bo j)).bind fun p => if i < env.length then some (p.2.set i (.sh p.1)) else none := rfl
@[simp] theorem retV_sh {env : En} {d : D} : retV env (.sh d) = some (.sh d) := rfl
@[simp] theorem retV_ow {env : En} {d : D} : retV env (.ow d) = some (.ow d) := rfl
@[simp] theorem retV_bo {env : En} {i : Nat} : retV env (.bo i) = ((env[i]?).bind slD).bind fun d => some (.ow d) := rfl
@[simp] theorem asgP_v {env : En} {i : Nat} {d : D} : asgP env (.v i) d = if i < env.length then some (env.set i (.sh d)) else none := rfl
@[simp] theorem asgP_t {env : En} {is : List Nat} {l : List D} : asgP env (.t is) (.tup l) = asgs env is l := rfl
@[simp] theorem asgP_l {env : En} {is : List Nat} {l : List D} : asgP env (.t is) (.lst l) = asgs env is l := rfl
@[simp] theorem asgs_nil {env : En} : asgs env [] [] = some env := rfl
@[simp] theorem asgs_cons {env : En} {i : Nat} {is : List Nat} {d : D} {ds : List D} : asgs env (i :: is) (d :: ds) = if i < env.length then asgs (env.set i (.sh d)) is ds else none := rfl
@[simp] theorem wipeE_nil {env : En} : wipeE env [] = env := rfl
@[simp] theorem wipeE_cons {env : En} {i : Nat} {is : List Nat} : wipeE env (i :: is) = (wipeE env is).set i .u := rfl
@[simp] theorem wipeOut_nx {w : List Nat} {e : En} : wipeOut w (.nx e) = .nx (wipeE e w) := rfl
@[simp] theorem wipeOut_ct {w : List Nat} {e : En} : wipeOut w (.ct e) = .ct (wipeE e w) := rfl
@[simp] theorem wipeOut_bk {w : List Nat} {e : En} : wipeOut w (.bk e) = .bk (wipeE e w) := rfl
@[simp] theorem wipeOut_rt {w : List Nat} {v : Nv} : wipeOut w (.rt v) = .rt v := rfl
@[simp] theorem hide_nil : hide [] = [] := rfl
@[simp] theorem hide_u {env : En} : hide (.u :: env) = .u :: hide env := rfl
@[simp] theorem hide_sh {d : D} {env : En} : hide (.sh d :: env) = .sh d :: hide env := rfl
@[simp] theorem hide_ow {d : D} {env : En} : hide (.ow d :: env) = .u :: hide env := rfl
@[simp] theorem frz_nil {env : En} : frz env [] = env := rfl
@[simp] theorem frz_cons {env : En} {i : Nat} {is : List Nat} : frz env (i :: is) = (frz env is).modify i frzS := rfl
@[simp] theorem frzS_u : frzS .u = .u := rfl
@[simp] theorem frzS_sh {d : D} : frzS (.sh d) = .sh d := rfl
@[simp] theorem frzS_ow {d : D} : frzS (.ow d) = .sh d := rfl
@[simp] theorem anyOw_nil {env : En} : anyOw env [] = false := rfl
def owB : Option Sl → Bool
  | some (.ow _) => true
  | _ => false
@[simp] theorem owB_u : owB (some .u) = false := rfl
@[simp] theorem owB_sh {d : D} : owB (some (.sh d)) = false := rfl
@[simp] theorem owB_ow {d : D} : owB (some (.ow d)) = true := rfl
@[simp] theorem anyOw_cons {env : En} {i : Nat} {is : List Nat} : anyOw env (i :: is) = (owB env[i]? || anyOw env is) := by
  show ((match env[i]? with | some (.ow _) => true | _ => false) || _) = _
  congr 1
@[simp] theorem items_lst {l : List D} : items? (.lst l) = some l := rfl
@[simp] theorem items_tpn {l : List D} : items? (.tpn l) = some l := rfl
@[simp] theorem items_tup {l : List D} : items? (.tup l) = some l := rfl
@[simp] theorem flat_tpn {l : List D} : (D.tpn l).flat = l.all D.flat := by rw [D.flat, D.flats_all]
@[simp] theorem flat_tup {l : List D} : (D.tup l).flat = l.all D.flat := by rw [D.flat, D.flats_all]
@[simp] theorem flat_int {i : Int} : (D.int i).flat = true := rfl
@[simp] theorem flat_str {i : Str} : (D.str i).flat = true := rfl
@[simp] theorem flat_bl {i : Bool} : (D.bl i).flat = true := rfl
@[simp] theorem flat_non : D.non.flat = true := rfl
@[simp] theorem key_int {i : Int} : (D.int i).key? = some (.inl i) := rfl
@[simp] theorem key_str {i : Str} : (D.str i).key? = some (.inr i) := rfl
@[simp] theorem keyL_nil : D.keyL? [] = some [] := rfl
@[simp] theorem keyL_cons {d : D} {l : List D} : D.keyL? (d :: l) = d.key?.bind fun k => (D.keyL? l).bind fun ks => some (k :: ks) := rfl
/-- how a def runs -/
theorem run_at {tab : Tab} {k f : Nat} {ds : List D} {fx : Fx} (h : tab f = some fx) (hl : ds.length = fx.np) {r : Nv} (e : (evSs (run tab k) fx.body (startE fx ds)) = some (.rt r)) (h0 : fx.mp = 0 := by rfl) (hr : isMu r = false := by rfl) : run tab (k + 1) f ds = some r := by
  simp [run, h, runF, hl, e, h0, hr]
theorem run_atM {tab : Tab} {k f : Nat} {ds : List D} {fx : Fx} (h : tab f = some fx) (hl : ds.length = fx.np) (h0 : ¬ fx.mp = 0) {r : D} {fs : List D} (e : (evSs (run tab k) fx.body (startM fx ds)) = some (.rt (.mu r fs))) : run tab (k + 1) f ds = some (.mu r fs) := by
  simp [run, h, runF, hl, e, h0, isMu, isEx]

/-! ### loops -/
theorem forD_fold {α σ : Type} {f : α → D} (E : σ → En) (g : σ → α → σ) (P : σ → Prop) {step : D → En → Option Out} {l : List α} {s0 : σ} (h0 : P s0) (hs : ∀ s a, a ∈ l → P s → step (f a) (E s) = some (.nx (E (g s a))) ∧ P (g s a)) :
    forD step (l.map f) (E s0) = some (.nx (E (l.foldl g s0))) ∧ P (l.foldl g s0) := by
  induction l generalizing s0 with
  | nil => exact ⟨rfl, h0⟩
  | cons a l ih =>
    obtain ⟨h1, h2⟩ := hs s0 a (List.mem_cons_self ..) h0
    have := ih h2 fun s b hb => hs s b (List.mem_cons_of_mem _ hb)
    simp only [List.map_cons, forD, h1, Option.bind_some, List.foldl_cons]
    exact this
theorem lcD_map {α : Type} {f : α → D} (h : α → Option D) {step : D → Option (Option D)} {l : List α} (hs : ∀ a, a ∈ l → step (f a) = some (h a)) : lcD step (l.map f) = some (l.filterMap h) := by
  induction l with
  | nil => rfl
  | cons a l ih =>
    have := ih fun b hb => hs b (List.mem_cons_of_mem _ hb)
    simp only [List.map_cons, lcD, hs a (List.mem_cons_self ..), Option.bind_some, this]
    cases e : h a <;> simp [List.filterMap_cons, e]
/-! ### own exceptions, lists of lists -/
section
variable {R : Run} {env : En}
def callXR (rs : List Rv) (env : En) (r : Nv) : Option (Rv × En) := if isEx r = true then none else if noBo rs = true ∨ flatRet r = true then some (r.rv, env) else (leakAll env rs).bind fun e => some (r.rv, e)
@[simp] theorem ev_callX {f : Nat} {as : Exs} : evE R (.callX f as) env = (evA R as env).bind fun p => (getAll p.2 p.1).bind fun ds => (R f ds).bind (callXR p.1 p.2) := by
  simp only [evE]
  try rfl
@[simp] theorem callXR_sh {rs : List Rv} {d : D} : callXR rs env (.sh d) = if noBo rs = true ∨ d.flat = true then some (.sh d, env) else (leakAll env rs).bind fun e => some (.sh d, e) := rfl
@[simp] theorem callXR_ow {rs : List Rv} {d : D} : callXR rs env (.ow d) = if noBo rs = true ∨ flatRet (.ow d) = true then some (.ow d, env) else (leakAll env rs).bind fun e => some (.ow d, e) := rfl
def exO (e : En) : Option Nv → Option (En × Nat × List D)
  | some (.ex c fs) => some (e, c, fs)
  | _ => none
@[simp] theorem exO_ex {c : Nat} {fs : List D} : exO env (some (.ex c fs)) = some (env, c, fs) := rfl
@[simp] theorem exO_sh {d : D} : exO env (some (.sh d)) = none := rfl
@[simp] theorem exO_ow {d : D} : exO env (some (.ow d)) = none := rfl
@[simp] theorem leakAll_nil : leakAll env [] = some env := rfl
@[simp] theorem leakAll_cons {r : Rv} {rs : List Rv} : leakAll env (r :: rs) = (leak env r).bind fun p => leakAll p.2 rs := rfl
@[simp] theorem ev_exC {f : Nat} {as : Exs} : exC R f as env = (evA R as env).bind fun p => (getAll p.2 p.1).bind fun ds => (leakAll p.2 p.1).bind fun e => exO e (R f ds) := by
  unfold exC
  congr 1
  try (funext p; congr 1; funext ds; congr 1; funext e
       cases R f ds with
       | none => rfl
       | some r => cases r <;> rfl)
  done
def xS (o : Option (En × Nat × List D)) (k : Option Out) : Option Out := match o with | some q => some (.rx q.1 q.2.1 q.2.2) | none => k
@[simp] theorem xS_some {q : En × Nat × List D} {k : Option Out} : xS (some q) k = some (.rx q.1 q.2.1 q.2.2) := rfl
@[simp] theorem xS_none {k : Option Out} : xS none k = k := rfl
@[simp] theorem ev_asgX {i f : Nat} {as : Exs} : evS R (.asgX i f as) env = xS (exC R f as env) ((evE R (.callX f as) env).bind fun p => (store p.2 i p.1).bind fun e => some (.nx e)) := by
  simp only [evS]
  try rfl
@[simp] theorem ev_expX {f : Nat} {as : Exs} : evS R (.expX f as) env = xS (exC R f as env) ((evE R (.callX f as) env).bind fun p => some (.nx p.2)) := by
  simp only [evS]
  try rfl
@[simp] theorem ev_retX {f : Nat} {as : Exs} : evS R (.retX f as) env = xS (exC R f as env) ((evE R (.callX f as) env).bind fun p => (retV p.2 p.1).bind fun r => some (.rt r)) := by
  simp only [evS]
  try rfl
@[simp] theorem ev_raise {c : Nat} {as : Exs} : evS R (.raise c as) env = (evL R as env).bind fun p => some (.rx p.2 c p.1) := by simp only [evS]
theorem forX_none {p : Pt} {f : Nat} {as : Exs} {body : Sts} {w : List Nat} (h : exC R f as env = none) : evS R (.forX p f as body w) env = evS R (.for_ p (.seq (.callX f as)) body w) env := by
  simp only [evS, h]
theorem forX_some {p : Pt} {f : Nat} {as : Exs} {body : Sts} {w : List Nat} {q : En × Nat × List D} (h : exC R f as env = some q) : evS R (.forX p f as body w) env = some (.rx q.1 q.2.1 q.2.2) := by
  simp only [evS, h]
theorem unpX_none {is : List Nat} {f : Nat} {as : Exs} (h : exC R f as env = none) : evS R (.unpX is f as) env = evS R (.unp is (.callX f as)) env := by
  simp only [evS, h]
theorem unpX_some {is : List Nat} {f : Nat} {as : Exs} {q : En × Nat × List D} (h : exC R f as env = some q) : evS R (.unpX is f as) env = some (.rx q.1 q.2.1 q.2.2) := by
  simp only [evS, h]
def trR (hs g : List Nat) (i : Nat) (r : Rx) : Out → Option Out
  | .rx e c fs => if hs.contains c = true then if i < e.length then (r.ev (g.contains c) fs).bind fun d => some (.rt (.sh d)) else none else some (.rx e c fs)
  | o => some o
@[simp] theorem ev_try {body : Sts} {hs g : List Nat} {i : Nat} {r : Rx} : evS R (.try_ body hs g i r) env = (evSs R body env).bind (trR hs g i r) := by
  simp only [evS]
  congr 1
  try (funext o; cases o <;> rfl)
@[simp] theorem trR_nx {hs g : List Nat} {i : Nat} {r : Rx} : trR hs g i r (.nx env) = some (.nx env) := rfl
@[simp] theorem trR_rt {hs g : List Nat} {i : Nat} {r : Rx} {v : Nv} : trR hs g i r (.rt v) = some (.rt v) := rfl
@[simp] theorem trR_rx {hs g : List Nat} {i : Nat} {r : Rx} {c : Nat} {fs : List D} : trR hs g i r (.rx env c fs) = if hs.contains c = true then if i < env.length then (r.ev (g.contains c) fs).bind fun d => some (.rt (.sh d)) else none else some (.rx env c fs) := rfl
@[simp] theorem sqR_rx {k : En → Option Out} {c : Nat} {fs : List D} : sqR k (.rx env c fs) = some (.rx env c fs) := rfl
@[simp] theorem wipeOut_rx {w : List Nat} {c : Nat} {fs : List D} : wipeOut w (.rx env c fs) = .rx env c fs := rfl
@[simp] theorem ev_asgN {i : Nat} {own uses : List Nat} {p : Pt} {it : Itx} {e : Ex} : evS R (.asgN i own uses p it e) env = (nwV R own uses p it e env).bind fun q => if i < q.2.length then some (.nx (q.2.set i (.nw q.1))) else none := by simp only [evS]
theorem put2_of {i : Nat} {a b e : Ex} {d z : D} {env0 env1 env2 env' : En} {l0 l1 : List D} {x y : Int} (h1 : evE R e env = some (.sh d, env0)) (hi : env0[i]? = some (.nw l0)) (h2 : evE R a env0 = some (.sh (.int x), env1)) (hi1 : env1[i]? = some (.nw l1)) (hx : atI l1 x = some z) (h3 : evE R b env1 = some (.sh (.int y), env2)) (h4 : set2 i x y d env2 = some env') :
    evS R (.put2 i a b e) env = some (.nx env') := by
  simp only [evS, put2V, h1, Option.bind_some, hi, h2, hi1, hx, h3, h4]
theorem ix2_of {i : Nat} {a b : Ex} {d : D} {env1 env2 : En} {ls ds : List D} {x y : Int} (hi : env[i]? = some (.nw ls)) (h1 : evE R a env = some (.sh (.int x), env1)) (h2 : evE R b env1 = some (.sh (.int y), env2)) (hx : atI ls x = some (.lst ds)) (hy : atI ds y = some d) : evE R (.ix2 i a b) env = some (.sh d, env2) := by
  simp only [evE, hi, h1, Option.bind_some, h2, hx, hy]
theorem lenN_of {i : Nat} {ls : List D} (hi : env[i]? = some (.nw ls)) : evE R (.lenN i) env = some (.sh (.int ls.length), env) := by simp only [evE, hi]
theorem un_of {i : Nat} {ss : Sts} {ls : List D} (hi : env[i]? = some (.nw ls)) (hl : lone i env = true) : evSs R (.un i ss) env = evSs R ss (env.set i (.sh (.lst ls))) := by simp only [evSs, hi, hl, if_true]
@[simp] theorem hide_nw {d : List D} {env : En} : hide (.nw d :: env) = .u :: hide env := rfl
@[simp] theorem frzS_nw {d : List D} : frzS (.nw d) = .nw d := rfl
@[simp] theorem owB_nw {d : List D} : owB (some (.nw d)) = false := rfl
end
theorem run_atX {tab : Tab} {k f : Nat} {ds : List D} {fx : Fx} (h : tab f = some fx) (hl : ds.length = fx.np) {env : En} {c : Nat} {fs : List D} (e : (evSs (run tab k) fx.body (startE fx ds)) = some (.rx env c fs)) (h0 : fx.mp = 0 := by rfl) (hx : fx.xr = true := by rfl) : run tab (k + 1) f ds = some (.ex c fs) := by
  simp [run, h, runF, hl, e, h0, hx]
end Ts

set_option linter.all false
set_option autoImplicit false
/-! Values of a sort: how they lie among plain values, when they are equal, their order. -/
namespace Ts
open PySem L2

mutual
theorem ok_mono : ∀ (d : D) (n m : Nat), n ≤ m → d.ok n = true → d.ok m = true
  | .non, _, _, _, _ => rfl
  | .int _, _, _, _, _ => rfl
  | .str _, _, _, _, h => h
  | .bl _, _, _, _, h => by cases h
  | .dk _, _, _, _, h => by cases h
  | .dt _, _, _, _, h => by cases h
  | .scr _, _, _, _, h => by cases h
  | .tup l, 0, _, _, h => by cases h
  | .lst l, 0, _, _, h => by cases h
  | .tup l, n + 1, 0, h, _ => by omega
  | .lst l, n + 1, 0, h, _ => by omega
  | .tup l, n + 1, m + 1, e, h => oks_mono l n m (by omega) h
  | .lst l, n + 1, m + 1, e, h => oks_mono l n m (by omega) h
theorem oks_mono : ∀ (l : List D) (n m : Nat), n ≤ m → D.oks l n = true → D.oks l m = true
  | [], _, _, _, _ => rfl
  | d :: l, n, m, e, h => by
    simp only [D.oks, Bool.and_eq_true] at h ⊢
    exact ⟨ok_mono d n m e h.1, oks_mono l n m e h.2⟩
end
mutual
theorem beq_iff : ∀ (d e : D) (n : Nat), d.ok n = true → (d.beq e = true ↔ d = e)
  | .non, e, _, _ => by cases e <;> simp [D.beq]
  | .int a, e, _, _ => by cases e <;> simp [D.beq]
  | .str a, e, _, _ => by cases e <;> simp [D.beq]
  | .bl _, _, _, h => by cases h
  | .dk _, _, _, h => by cases h
  | .dt _, _, _, h => by cases h
  | .scr _, _, _, h => by cases h
  | .tup l, _, 0, h => by cases h
  | .lst l, _, 0, h => by cases h
  | .tup l, e, n + 1, h => by
    cases e with
    | tup m => simp only [D.beq, D.tup.injEq]; exact beqs_iff l m n h
    | _ => simp [D.beq]
  | .lst l, e, n + 1, h => by
    cases e with
    | lst m => simp only [D.beq, D.lst.injEq]; exact beqs_iff l m n h
    | _ => simp [D.beq]
theorem beqs_iff : ∀ (d e : List D) (n : Nat), D.oks d n = true → (D.beqs d e = true ↔ d = e)
  | [], e, _, _ => by cases e <;> simp [D.beqs]
  | a :: l, e, n, h => by
    simp only [D.oks, Bool.and_eq_true] at h
    cases e with
    | nil => simp [D.beqs]
    | cons b m => simp only [D.beqs, Bool.and_eq_true, List.cons.injEq, beq_iff a b n h.1, beqs_iff l m n h.2]
end

/-- values of one sort -/
class Enc (α : Type) where
  enc : α → D
  dep : Nat
  ok : ∀ a, (enc a).ok dep = true
  inj : ∀ a b, enc a = enc b → a = b
  flat : ∀ a, (enc a).flat = true
open Enc (enc)
/-- of one sort that has an order -/
class OrdE (α : Type) extends Enc α where
  ali : ∀ a b, PySem.W.alike (enc a).pd (enc b).pd = true
  shape : (∀ a, ∃ x l, enc a = .tup (x :: l)) ∨ (∀ a, (∃ i, enc a = .int i) ∨ ∃ s, enc a = .str s)

section
variable {α β γ : Type} [Enc α] [Enc β] [Enc γ]
theorem enc_inj {a b : α} : enc a = enc b ↔ a = b := ⟨Enc.inj a b, fun h => h ▸ rfl⟩
theorem oks_enc {l : List α} {n : Nat} (h : Enc.dep α ≤ n) : D.oks (l.map enc) n = true := by
  induction l with
  | nil => rfl
  | cons a l ih => simp only [List.map_cons, D.oks, ih, Bool.and_true]; exact ok_mono _ _ _ h (Enc.ok a)
theorem beq_enc [DecidableEq α] (a b : α) : (enc a).beq (enc b) = decide (a = b) := by
  rw [Bool.eq_iff_iff, beq_iff _ _ _ (Enc.ok a), decide_eq_true_eq, enc_inj]
theorem map_enc_inj {l m : List α} : l.map enc = m.map (enc : α → D) ↔ l = m := by
  refine ⟨fun h => ?_, fun h => h ▸ rfl⟩
  induction l generalizing m with
  | nil => cases m with
    | nil => rfl
    | cons b m => cases h
  | cons a l ih => cases m with
    | nil => cases h
    | cons b m =>
      simp only [List.map_cons, List.cons.injEq, enc_inj] at h
      rw [h.1, ih h.2]
theorem eqV_ok {a b : D} (ha : a.ok 60 = true) (hb : b.ok 60 = true) : eqV a b = some (a.beq b) := by
  have h1 := ok_nm a 60 ha
  have h2 := ok_nm b 60 hb
  have h : eqV a b = if a.nm.ok 60 = true ∧ b.nm.ok 60 = true then some (a.nm.beq b.nm) else none := by
    cases a <;> cases b <;> first | rfl | (simp [D.ok] at ha)
  rw [h, h1, h2, if_pos ⟨ha, hb⟩]
theorem eqV_enc [DecidableEq α] (h : Enc.dep α ≤ 60) (a b : α) : eqV (enc a) (enc b) = some (decide (a = b)) := by
  rw [eqV_ok (ok_mono _ _ _ h (Enc.ok a)) (ok_mono _ _ _ h (Enc.ok b)), beq_enc]
theorem any_enc [DecidableEq α] (a : α) (l : List α) : ((l.map enc).any fun z => z.beq (enc a)) = decide (a ∈ l) := by
  induction l with
  | nil => simp
  | cons b l ih =>
    rw [List.map_cons, List.any_cons, ih, beq_enc, Bool.eq_iff_iff, Bool.or_eq_true, decide_eq_true_eq, decide_eq_true_eq, decide_eq_true_eq, List.mem_cons]
    exact or_congr_left eq_comm
theorem inV_enc [DecidableEq α] (h : Enc.dep α ≤ 59) (a : α) (l : List α) : inV (enc a) (.lst (l.map enc)) = some (decide (a ∈ l)) := by
  simp only [inV, ok_mono _ _ _ h (Enc.ok a), oks_enc h, and_self, if_true, any_enc]
@[simp] theorem all_flat (l : List α) : (l.map enc).all D.flat = true := by simp [Enc.flat]
@[simp] theorem flat_enc (a : α) : (enc a).flat = true := Enc.flat a
instance encInt : OrdE Int where
  enc := .int
  dep := 0
  ok _ := rfl
  inj a b h := D.int.inj h
  flat _ := rfl
  ali a b := by simp [D.pd, PySem.W.alike]
  shape := .inr fun a => .inl ⟨a, rfl⟩
@[simp] theorem enc_int (i : Int) : enc i = D.int i := rfl
/-- a text that can be a name -/
structure Nm where
  s : Str
  ok : PyData.canLay0 (.str s) = true
  deriving DecidableEq
theorem Nm.ext {a b : Nm} (h : a.s = b.s) : a = b := by cases a; cases b; cases h; rfl
instance encNm : OrdE Nm where
  enc a := .str a.s
  dep := 0
  ok a := a.ok
  inj a b h := Nm.ext (D.str.inj h)
  flat _ := rfl
  ali a b := by simp [D.pd, PySem.W.alike]
  shape := .inr fun a => .inr ⟨a.s, rfl⟩
theorem enc_nm (a : Nm) : enc a = D.str a.s := rfl
instance encPair : Enc (α × β) where
  enc p := .tup [enc p.1, enc p.2]
  dep := max (Enc.dep α) (Enc.dep β) + 1
  ok p := by
    simp only [D.ok, D.oks, Bool.and_true, Bool.and_eq_true]
    exact ⟨ok_mono _ _ _ (by omega) (Enc.ok p.1), ok_mono _ _ _ (by omega) (Enc.ok p.2)⟩
  inj p q h := by
    simp only [D.tup.injEq, List.cons.injEq, enc_inj, and_true] at h
    exact Prod.ext h.1 h.2
  flat p := by simp [D.flat, D.flats, Enc.flat]
@[simp] theorem enc_pair (a : α) (b : β) : enc (a, b) = D.tup [enc a, enc b] := rfl
/-- three -/
structure T3 (α β γ : Type) where
  a : α
  b : β
  c : γ
  deriving DecidableEq
instance encT3 : Enc (T3 α β γ) where
  enc p := .tup [enc p.a, enc p.b, enc p.c]
  dep := max (max (Enc.dep α) (Enc.dep β)) (Enc.dep γ) + 1
  ok p := by
    simp only [D.ok, D.oks, Bool.and_true, Bool.and_eq_true]
    exact ⟨ok_mono _ _ _ (by omega) (Enc.ok p.a), ok_mono _ _ _ (by omega) (Enc.ok p.b), ok_mono _ _ _ (by omega) (Enc.ok p.c)⟩
  inj p q h := by
    simp only [D.tup.injEq, List.cons.injEq, enc_inj, and_true] at h
    cases p; cases q
    simp only at h
    simp [h]
  flat p := by simp [D.flat, D.flats, Enc.flat]
@[simp] theorem enc_t3 (a : α) (b : β) (c : γ) : enc (T3.mk a b c) = D.tup [enc a, enc b, enc c] := rfl
/-- a tuple of any length -/
structure Tp (α : Type) where
  l : List α
  deriving DecidableEq
instance encTp : Enc (Tp α) where
  enc p := .tup (p.l.map enc)
  dep := Enc.dep α + 1
  ok p := oks_enc (Nat.le_refl _)
  inj p q h := by
    simp only [D.tup.injEq, map_enc_inj] at h
    cases p; cases q
    simp only at h
    simp [h]
  flat p := by simp
@[simp] theorem enc_tp (l : List α) : enc (Tp.mk l) = D.tup (l.map enc) := rfl
end

section
variable {α β γ : Type} [OrdE α] [OrdE β] [OrdE γ]
instance ordPair : OrdE (α × β) := { encPair with
  ali := fun p q => by
    show PySem.W.alike (.tuple [_, _]) (.tuple [_, _]) = true
    simp [PySem.W.alike, PySem.W.alikeAll, OrdE.ali]
  shape := .inl fun p => ⟨_, _, rfl⟩ }
instance ordT3 : OrdE (T3 α β γ) := { encT3 with
  ali := fun p q => by
    show PySem.W.alike (.tuple [_, _, _]) (.tuple [_, _, _]) = true
    simp [PySem.W.alike, PySem.W.alikeAll, OrdE.ali]
  shape := .inl fun p => ⟨_, _, rfl⟩ }
theorem ord_enc (h : Enc.dep α ≤ 59) (l : List α) : ordOk (l.map enc) = true := by
  simp only [ordOk, oks_enc h, Bool.true_and, Bool.and_eq_true, Bool.or_eq_true]
  constructor
  · simp only [List.all_map, List.all_eq_true, Function.comp]
    exact fun a _ b _ => OrdE.ali a b
  · cases OrdE.shape (α := α) with
    | inl h =>
      refine .inl ?_
      simp only [List.all_map, List.all_eq_true, Function.comp]
      intro a _
      obtain ⟨x, l, e⟩ := h a
      rw [e]
    | inr h =>
      refine .inr ?_
      simp only [List.all_map, List.all_eq_true, Function.comp]
      intro a _
      cases h a with
      | inl h => obtain ⟨x, e⟩ := h; rw [e]
      | inr h => obtain ⟨x, e⟩ := h; rw [e]
/-- less -/
def ltE (a b : α) : Bool := PySem.W.dataLt (enc a).pd (enc b).pd
def leE (a b : α) : Bool := !ltE b a
theorem leD_enc (a b : α) : leD (enc a) (enc b) = leE a b := rfl
theorem ltE_irrefl (a : α) : ltE a a = false := PyProof.Rows.lex_irrefl _
theorem ltE_trans {a b c : α} (h : ltE a b = true) (k : ltE b c = true) : ltE a c = true := PyProof.Rows.lex_trans _ _ _ h k
theorem ltE_neg {a b c : α} (h : ltE a c = true) : ltE a b = true ∨ ltE b c = true := PyProof.Rows.lex_negTrans _ _ _ h
theorem toks_inj {x y : PyData} (h : PySem.W.alike x y = true) (e : PySem.W.keyToks x = PySem.W.keyToks y) : PyData.eqv x y = true := by
  cases q : PyData.eqv x y with
  | true => rfl
  | false =>
    have := (PySem.W.toks_eqv x y h).2 q [] [.inl 0]
    rw [e, PySem.W.lex_pre] at this
    have i := PyProof.Rows.lex_irrefl (O := PyProof.Rows.itemOrd) (PySem.W.keyToks y)
    rw [i] at this
    cases this
theorem ltE_total {a b : α} (h : ltE a b = false) (k : ltE b a = false) : a = b := by
  have e := PyProof.Rows.lex_total _ _ h k
  have q := toks_inj (OrdE.ali a b) e
  rw [beq_eqv _ _ _ _ (Enc.ok a) (Enc.ok b), beq_iff _ _ _ (Enc.ok a)] at q
  exact Enc.inj _ _ q
theorem ltE_asymm {a b : α} (h : ltE a b = true) : ltE b a = false := by
  cases e : ltE b a with
  | false => rfl
  | true => exact absurd (ltE_trans h e) (by rw [ltE_irrefl]; simp)
theorem leE_refl (a : α) : leE a a = true := by simp [leE, ltE_irrefl]
theorem leE_total (a b : α) : (leE a b || leE b a) = true := by
  simp only [leE]
  cases h : ltE b a with
  | false => rfl
  | true => rw [ltE_asymm h]; rfl
theorem leE_trans (a b c : α) (h : leE a b = true) (k : leE b c = true) : leE a c = true := by
  simp only [leE, Bool.not_eq_true'] at *
  cases e : ltE c a with
  | false => rfl
  | true =>
    cases ltE_neg (b := b) e with
    | inl q => rw [q] at k; cases k
    | inr q => rw [q] at h; cases h
theorem leE_anti {a b : α} (h : leE a b = true) (k : leE b a = true) : a = b := by
  simp only [leE, Bool.not_eq_true'] at *
  exact ltE_total k h
theorem leE_iff {a b : α} : leE a b = true ↔ a = b ∨ ltE a b = true := by
  constructor
  · intro h
    cases e : ltE a b with
    | true => exact .inr rfl
    | false => exact .inl (ltE_total e (by simpa [leE] using h))
  · rintro (h | h)
    · rw [h]; exact leE_refl _
    · simp [leE, ltE_asymm h]
theorem ltE_iff {a b : α} : ltE a b = true ↔ leE a b = true ∧ a ≠ b := by
  rw [leE_iff]
  constructor
  · intro h
    exact ⟨.inr h, fun e => by rw [e, ltE_irrefl] at h; cases h⟩
  · rintro ⟨h | h, k⟩
    · exact absurd h k
    · exact h
def sortE (l : List α) : List α := l.mergeSort leE
theorem sortE_perm (l : List α) : (sortE l).Perm l := List.mergeSort_perm l leE
theorem sortE_sorted (l : List α) : (sortE l).Pairwise (fun a b => leE a b = true) := List.pairwise_mergeSort leE_trans leE_total l
@[simp] theorem sortE_mem {l : List α} {a : α} : a ∈ sortE l ↔ a ∈ l := (sortE_perm l).mem_iff
@[simp] theorem sortE_length (l : List α) : (sortE l).length = l.length := (sortE_perm l).length_eq
theorem sorted_unique {l m : List α} (p : l.Perm m) (h : l.Pairwise (fun a b => leE a b = true)) (k : m.Pairwise (fun a b => leE a b = true)) : l = m := List.Perm.eq_of_pairwise (fun a b _ _ h k => leE_anti h k) h k p
theorem sortE_eq {l m : List α} (p : l.Perm m) : sortE l = sortE m := sorted_unique ((sortE_perm l).trans (p.trans (sortE_perm m).symm)) (sortE_sorted l) (sortE_sorted m)
theorem sortE_id {l : List α} (h : l.Pairwise (fun a b => leE a b = true)) : sortE l = l := sorted_unique (sortE_perm l) (sortE_sorted l) h
theorem sort_enc (l : List α) : (l.map enc).mergeSort leD = (sortE l).map enc := (List.map_mergeSort (f := enc) (r := leE) (s := leD) fun a _ b _ => rfl).symm
theorem sorted_enc (h : Enc.dep α ≤ 59) {l : List α} (hl : l.length ≤ bigLine) : biV .sorted [.lst (l.map enc)] = some (.ow (.lst ((sortE l).map enc))) := by
  simp only [biV, ord_enc h, List.length_map, hl, and_self, if_true, sort_enc]
end
theorem ltE_nm (a b : Nm) : ltE a b = strLt a.s b.s := PySem.W.dataLt_str _ _
theorem ltE_int (a b : Int) : ltE a b = decide (a < b) := PySem.W.dataLt_int _ _
theorem ltE_pair {α β : Type} [OrdE α] [OrdE β] (p q : α × β) : ltE p q = true ↔ ltE p.1 q.1 = true ∨ (p.1 = q.1 ∧ ltE p.2 q.2 = true) := by
  show PySem.W.dataLt (.tuple [(enc p.1).pd, (enc p.2).pd]) (.tuple [(enc q.1).pd, (enc q.2).pd]) = true ↔ _
  rw [PySem.W.dataLt_pair (OrdE.ali _ _) (OrdE.ali _ _), beq_eqv _ _ _ _ (Enc.ok p.1) (Enc.ok q.1), beq_eqv _ _ _ _ (Enc.ok p.2) (Enc.ok q.2)]
  classical
  simp only [beq_iff _ _ _ (Enc.ok p.1), beq_iff _ _ _ (Enc.ok p.2), enc_inj]
  by_cases h : p.1 = q.1
  · simp only [h, if_true, ltE_irrefl, Bool.false_eq_true, false_or, true_and]
    by_cases k : p.2 = q.2
    · simp [k, ltE_irrefl]
    · simp only [k, if_false]; exact Iff.rfl
  · simp only [h, if_false, false_and, or_false]; exact Iff.rfl
theorem ltE_t3 {α β γ : Type} [OrdE α] [OrdE β] [OrdE γ] (p q : T3 α β γ) : ltE p q = true ↔ ltE p.a q.a = true ∨ (p.a = q.a ∧ (ltE p.b q.b = true ∨ (p.b = q.b ∧ ltE p.c q.c = true))) := by
  show PySem.W.dataLt (.tuple [(enc p.a).pd, (enc p.b).pd, (enc p.c).pd]) (.tuple [(enc q.a).pd, (enc q.b).pd, (enc q.c).pd]) = true ↔ _
  rw [PySem.W.dataLt_tuple, PySem.W.dataLt_cons (OrdE.ali _ _), PySem.W.dataLt_cons (OrdE.ali _ _), PySem.W.dataLt_cons (OrdE.ali _ _), beq_eqv _ _ _ _ (Enc.ok p.a) (Enc.ok q.a), beq_eqv _ _ _ _ (Enc.ok p.b) (Enc.ok q.b), beq_eqv _ _ _ _ (Enc.ok p.c) (Enc.ok q.c)]
  classical
  simp only [beq_iff _ _ _ (Enc.ok p.a), beq_iff _ _ _ (Enc.ok p.b), beq_iff _ _ _ (Enc.ok p.c), enc_inj]
  by_cases h : p.a = q.a
  · simp only [h, if_true, ltE_irrefl, Bool.false_eq_true, false_or, true_and]
    by_cases k : p.b = q.b
    · simp only [k, if_true, ltE_irrefl, Bool.false_eq_true, false_or, true_and]
      by_cases j : p.c = q.c
      · simp only [j, if_true, ltE_irrefl, PyProof.Rows.lex_irrefl]
      · simp only [j, if_false]; exact Iff.rfl
    · simp only [k, if_false, false_and, or_false]; exact Iff.rfl
  · simp only [h, if_false, false_and, or_false]; exact Iff.rfl
end Ts

set_option linter.all false
set_option autoImplicit false
/-! More equations as simp takes them; loops with a state told by what is behind. -/
namespace Ts
open PySem L2 Enc

/-! ### one statement behind another -/
section
variable {R : Ts.Run} {s : Ts.St} {ss : Sts} {env env' : En} {r : Option Out} {v : Nv}
theorem go_nx (h : evS R s env = some (.nx env')) (k : evSs R ss env' = r) : evSs R (.cons s ss) env = r := by
  rw [evSs_cons, h]
  exact k
theorem go_rt (h : evS R s env = some (.rt v)) : evSs R (.cons s ss) env = some (.rt v) := by
  rw [evSs_cons, h]
  rfl
theorem go_for {p : Pt} {it : Itx} {body : Sts} {w : List Nat} {l : List D} {env1 : En} (h : evI R it env = some (l, env1)) (k : forD (forT R p body w) l env1 = some (.nx env')) : evS R (.for_ p it body w) env = some (.nx env') := by
  rw [ev_for, h]
  exact k
theorem forT_of {p : Pt} {w : List Nat} {d : D} {e1 : En} {o : Out} (h1 : asgP env p d = some e1) (h2 : evSs R ss e1 = some o) : forT R p ss w d env = some (wipeOut w o) := by
  simp only [forT, h1, Option.bind_some, h2]
theorem forT_nx {p : Pt} {w : List Nat} {d : D} {e1 e2 : En} (h1 : asgP env p d = some e1) (h2 : evSs R ss e1 = some (.nx e2)) : forT R p ss w d env = some (.nx (wipeE e2 w)) := forT_of h1 h2
theorem whT_nx {w : List Nat} {e2 : En} (h2 : evSs R ss env = some (.nx e2)) : whT R ss w env = some (.nx (wipeE e2 w)) := by
  simp only [whT, h2, Option.bind_some, wipeOut]
theorem whT_of {w : List Nat} {o : Out} (h2 : evSs R ss env = some o) : whT R ss w env = some (wipeOut w o) := by
  simp only [whT, h2, Option.bind_some]
end
/-! ### operators -/
@[simp] theorem add_int {a b : Int} : binV .Add (.int a) (.int b) = some (.sh (.int (a + b))) := rfl
@[simp] theorem sub_int {a b : Int} : binV .Sub (.int a) (.int b) = some (.sh (.int (a - b))) := rfl
@[simp] theorem add_lst {a b : List D} : binV .Add (.lst a) (.lst b) = if a.length + b.length ≤ bigLine then some (.ow (.lst (a ++ b))) else none := rfl
@[simp] theorem mul_lst {a : List D} {k : Int} : binV .Mult (.lst a) (.int k) = if 0 ≤ k ∧ k < 1000 ∧ a.length * k.toNat ≤ bigLine then some (.ow (.lst (List.replicate k.toNat a).flatten)) else none := rfl
theorem mul_int {a b : Int} (h : a.natAbs < mulLine ∨ b.natAbs < mulLine) : binV .Mult (.int a) (.int b) = some (.sh (.int (a * b))) := if_pos h
@[simp] theorem mul_int' {a b : Int} : binV .Mult (.int a) (.int b) = if a.natAbs < mulLine ∨ b.natAbs < mulLine then some (.sh (.int (a * b))) else none := rfl
@[simp] theorem mod_int {a b : Int} : binV .Mod (.int a) (.int b) = if 0 < b then some (.sh (.int (a % b))) else none := rfl
@[simp] theorem fdiv_int {a b : Int} : binV .FloorDiv (.int a) (.int b) = if 0 < b ∧ b.natAbs < divLine then some (.sh (.int (a / b))) else none := rfl
theorem pow_int {a b : Int} (h : 0 ≤ b ∧ b ≤ 1000000 ∧ a.natAbs < mulLine) : binV .Pow (.int a) (.int b) = some (.sh (.int (a ^ b.toNat))) := if_pos h
@[simp] theorem pow_10_18 : binV .Pow (.int 10) (.int 18) = some (.sh (.int 1000000000000000000)) := by
  rw [pow_int (by decide)]
  rfl
@[simp] theorem neg_int {a : Int} : negV (.int a) = some (.int (-a)) := rfl
@[simp] theorem cmp_lt {a b : Int} : cmpV .Lt (.int a) (.int b) = some (decide (a < b)) := rfl
@[simp] theorem cmp_le {a b : Int} : cmpV .LtE (.int a) (.int b) = some (decide (a ≤ b)) := rfl
@[simp] theorem cmp_gt {a b : Int} : cmpV .Gt (.int a) (.int b) = some (decide (b < a)) := rfl
@[simp] theorem cmp_ge {a b : Int} : cmpV .GtE (.int a) (.int b) = some (decide (b ≤ a)) := rfl
@[simp] theorem cmp_eq {a b : D} : cmpV .Eq a b = eqV a b := rfl
@[simp] theorem cmp_ne {a b : D} : cmpV .NotEq a b = (eqV a b).map (!·) := rfl
@[simp] theorem cmp_in {a b : D} : cmpV .In a b = inV a b := rfl
@[simp] theorem cmp_nin {a b : D} : cmpV .NotIn a b = (inV a b).map (!·) := rfl
@[simp] theorem eq_int {a b : Int} : eqV (.int a) (.int b) = some (decide (a = b)) := eqV_enc (by decide) a b
@[simp] theorem eq_bl {a b : Bool} : eqV (.bl a) (.bl b) = some (decide (a = b)) := rfl
@[simp] theorem eq_nm {a b : Nm} : eqV (enc a) (enc b) = some (decide (a = b)) := eqV_enc (by decide) a b
@[simp] theorem in_nm {a : Nm} {l : List Nm} : inV (enc a) (.lst (l.map enc)) = some (decide (a ∈ l)) := inV_enc (by decide) a l
@[simp] theorem in_nil {a : Nm} : inV (enc a) (.lst []) = some false := inV_enc (by decide) a []
@[simp] theorem in_nm2 {a b : Nm} {l : List (Nm × Nm)} : inV (.tup [enc a, enc b]) (.lst (l.map enc)) = some (decide ((a, b) ∈ l)) := (inV_enc (by decide) (a, b) l).trans (congrArg some (decide_eq_decide.mpr Iff.rfl))
@[simp] theorem key_nm {a : Nm} : (enc a).key? = some (.inr a.s) := rfl
@[simp] theorem ix_tpn {l : List D} {i : Int} : ixV (.tpn l) (.int i) = atI l i := rfl
@[simp] theorem ix_tup {l : List D} {i : Int} : ixV (.tup l) (.int i) = atI l i := rfl
@[simp] theorem ix_lst {l : List D} {i : Int} : ixV (.lst l) (.int i) = atI l i := rfl
@[simp] theorem ix_scr {l : List Int} {i : Int} : ixV (.scr l) (.int i) = (atI l i).map .int := rfl
theorem atI_nn {α : Type} {l : List α} {i : Int} (h : 0 ≤ i) : atI l i = l[i.toNat]? := by
  unfold atI ixN
  rw [if_pos h]
  by_cases k : i < l.length
  · rw [if_pos k]; rfl
  · rw [if_neg k, List.getElem?_eq_none (by omega)]; rfl
@[simp] theorem atI_cast {α : Type} {l : List α} {i : Nat} : atI l (i : Int) = l[i]? := by rw [atI_nn (by omega), Int.toNat_natCast]
@[simp] theorem atI_lit {α : Type} {l : List α} {n : Nat} : atI l (@OfNat.ofNat Int n _) = l[@OfNat.ofNat Nat n _]? := atI_nn (Int.natCast_nonneg n)
@[simp] theorem atI_zero {α : Type} {l : List α} : atI l 0 = l[0]? := atI_nn (by omega)
@[simp] theorem atI_one {α : Type} {l : List α} : atI l 1 = l[1]? := atI_nn (by omega)
@[simp] theorem atI_two {α : Type} {l : List α} : atI l 2 = l[2]? := atI_nn (by omega)
theorem atI_at {α : Type} {l : List α} {i : Int} {n : Nat} (h : i = n) : atI l i = l[n]? := by rw [h, atI_cast]
@[simp] theorem atI_neg1 {α : Type} {l : List α} : atI l (-1) = l.getLast? := by
  cases h : l with
  | nil => rfl
  | cons a m =>
    rw [← h]
    have hl : 0 < l.length := by rw [h]; simp
    unfold atI ixN
    rw [if_neg (by omega), if_pos (by omega), Option.bind_some, List.getLast?_eq_getElem?]
    congr 1
    omega
@[simp] theorem len_lst {l : List D} : biV .len [.lst l] = some (.sh (.int l.length)) := rfl
@[simp] theorem len_tpn {l : List D} : biV .len [.tpn l] = some (.sh (.int l.length)) := rfl
@[simp] theorem len_tup {l : List D} : biV .len [.tup l] = some (.sh (.int l.length)) := rfl
@[simp] theorem len_scr {l : List Int} : biV .len [.scr l] = some (.sh (.int l.length)) := rfl
@[simp] theorem len_dk {l : List (Key × D)} : biV .len [.dk l] = some (.sh (.int l.length)) := rfl
@[simp] theorem abs_int {i : Int} : biV .abs [.int i] = some (.sh (.int (if i < 0 then -i else i))) := rfl
@[simp] theorem min2_int {a b : Int} : biV .min2 [.int a, .int b] = some (.sh (.int (if b < a then b else a))) := rfl
@[simp] theorem max2_int {a b : Int} : biV .max2 [.int a, .int b] = some (.sh (.int (if a < b then b else a))) := rfl
def minN (a b : Nm) : Nm := if ltE b a then b else a
def maxN (a b : Nm) : Nm := if ltE a b then b else a
@[simp] theorem min2_nm {a b : Nm} : biV .min2 [enc a, enc b] = some (.sh (enc (minN a b))) := by
  show some (Nv.sh (.str (if strLt b.s a.s = true then b.s else a.s))) = _
  rw [minN, ltE_nm]
  split <;> rfl
@[simp] theorem max2_nm {a b : Nm} : biV .max2 [enc a, enc b] = some (.sh (enc (maxN a b))) := by
  show some (Nv.sh (.str (if strLt a.s b.s = true then b.s else a.s))) = _
  rw [maxN, ltE_nm]
  split <;> rfl
@[simp] theorem tuple_tpn {l : List D} : biV .tuple [.tpn l] = some (.sh (.tpn l)) := rfl
@[simp] theorem tupK_lst {l : List D} : biV .tupK [.lst l] = some (.sh (.tpn l)) := rfl
@[simp] theorem list_tpn {l : List D} : biV .list [.tpn l] = some (.ow (.lst l)) := rfl
@[simp] theorem tuple_lst {l : List D} : biV .tuple [.lst l] = some (.sh (.tup l)) := rfl
@[simp] theorem tuple_tup {l : List D} : biV .tuple [.tup l] = some (.sh (.tup l)) := rfl
@[simp] theorem list_lst {l : List D} : biV .list [.lst l] = some (.ow (.lst l)) := rfl
@[simp] theorem list_tup {l : List D} : biV .list [.tup l] = some (.ow (.lst l)) := rfl
theorem ints_map (l : List Int) : D.ints? (l.map D.int) = some l := by
  induction l with
  | nil => rfl
  | cons a l ih => simp [D.ints?, ih]
@[simp] theorem sum_ints {l : List Int} : biV .sum [.lst (l.map D.int)] = some (.sh (.int l.sum)) := by
  show (D.ints? (l.map D.int)).bind _ = _
  rw [ints_map]
  rfl
theorem sl_lst {l : List D} {lo hi : Option Int} : slV (.lst l) lo hi = some (.ow (.lst (cutD l lo hi))) := rfl
@[simp] theorem sl_t3_2 {a b c : D} : slV (.tup [a, b, c]) none (some 2) = some (.sh (.tup [a, b])) := rfl
theorem ite_bind {α β : Type} {c : Prop} [Decidable c] {a b : Option α} {f : α → Option β} : (if c then a else b).bind f = if c then a.bind f else b.bind f := by split <;> rfl

/-! ### dicts with names as keys -/
def dkN {α : Type} (f : α → D) (l : List (Nm × α)) : D := .dk (l.map fun p => (.inr p.1.s, f p.2))
def getN {α : Type} (l : List (Nm × α)) (x : Nm) : Option α := (l.find? fun p => decide (p.1 = x)).map (·.2)
def putN {α : Type} (l : List (Nm × α)) (x : Nm) (v : α) : List (Nm × α) :=
  if (l.any fun p => decide (p.1 = x)) = true then l.map (fun p => if p.1 = x then (p.1, v) else p) else l ++ [(x, v)]
theorem nm_key {x y : Nm} : ((Sum.inr x.s : Key) = .inr y.s) ↔ x = y := ⟨fun h => Nm.ext (Sum.inr.inj h), fun h => h ▸ rfl⟩
section
variable {α : Type} {f : α → D}
theorem val_dkN (l : List (Nm × α)) (x : Nm) : valD (l.map fun p => ((.inr p.1.s : Key), f p.2)) (.inr x.s) = (getN l x).map f := by
  induction l with
  | nil => rfl
  | cons p l ih =>
    simp only [valD, getN, List.map_cons, List.find?_cons, nm_key] at ih ⊢
    by_cases h : p.1 = x
    · simp [h]
    · simp only [h, decide_false]; exact ih
theorem put_dkN (l : List (Nm × α)) (x : Nm) (v : α) : putD (l.map fun p => ((.inr p.1.s : Key), f p.2)) (.inr x.s) (f v) = (putN l x v).map fun p => ((.inr p.1.s : Key), f p.2) := by
  have e : ((l.map fun p => ((.inr p.1.s : Key), f p.2)).any fun kv => decide (kv.1 = (.inr x.s : Key))) = l.any fun p => decide (p.1 = x) := by
    simp only [List.any_map, Function.comp_def, nm_key]
  unfold putD putN
  rw [e]
  split
  · simp only [List.map_map]
    refine List.map_congr_left fun p _ => ?_
    simp only [Function.comp, nm_key]
    split <;> rfl
  · simp
@[simp] theorem in_dkN {x : Nm} {l : List (Nm × α)} : inV (enc x) (dkN f l) = some (getN l x).isSome := by
  show some (valD (l.map fun p => ((.inr p.1.s : Key), f p.2)) (.inr x.s)).isSome = _
  rw [val_dkN, Option.isSome_map]
@[simp] theorem ix_dkN {x : Nm} {l : List (Nm × α)} : ixV (dkN f l) (enc x) = (getN l x).map f := val_dkN l x
theorem put_dkV {env : En} {i : Nat} {l : List (Nm × α)} {x : Nm} {v : α} (h : env[i]? = some (Sl.ow (dkN f l))) (hl : l.length < bigLine) : putV i (enc x) (f v) env = some (env.set i (.ow (dkN f (putN l x v)))) := by
  have h' : env[i]? = some (Sl.ow (.dk (l.map fun p => ((.inr p.1.s : Key), f p.2)))) := h
  simp only [putV, h', key_nm, Option.bind_some, List.length_map, hl, if_true, put_dkN]
  rfl
theorem getN_some {l : List (Nm × α)} {x : Nm} : (getN l x).isSome = true ↔ x ∈ l.map (·.1) := by
  simp [getN, List.find?_isSome]
theorem getN_none {l : List (Nm × α)} {x : Nm} : getN l x = none ↔ x ∉ l.map (·.1) := by
  rw [← getN_some]
  cases getN l x <;> simp
theorem getN_mem {l : List (Nm × α)} {x : Nm} {v : α} (h : getN l x = some v) : (x, v) ∈ l := by
  simp only [getN, Option.map_eq_some_iff] at h
  obtain ⟨p, h1, h2⟩ := h
  have := List.find?_some h1
  simp only [decide_eq_true_eq] at this
  have m := List.mem_of_find?_eq_some h1
  cases p
  simp only at this h2
  rw [← this, ← h2]
  exact m
theorem getN_nodup {l : List (Nm × α)} {x : Nm} {v : α} (hn : (l.map (·.1)).Nodup) (h : (x, v) ∈ l) : getN l x = some v := by
  cases e : getN l x with
  | none => exact absurd (List.mem_map_of_mem (f := (·.1)) h) (getN_none.mp e)
  | some w =>
    have m := getN_mem e
    induction l with
    | nil => cases h
    | cons p l ih =>
      simp only [List.map_cons, List.nodup_cons] at hn
      simp only [getN, List.find?_cons] at e
      by_cases k : p.1 = x
      · simp only [k, decide_true, Option.map_some, Option.some.injEq] at e
        cases List.mem_cons.mp h with
        | inl q => rw [← q] at e; rw [← e]
        | inr q => exact absurd (List.mem_map_of_mem (f := (·.1)) q) (k ▸ hn.1)
      · simp only [k, decide_false] at e
        have h' : (x, v) ∈ l := by
          cases List.mem_cons.mp h with
          | inl q => exact absurd (congrArg Prod.fst q).symm k
          | inr q => exact q
        exact ih hn.2 h' e (getN_mem e)
theorem putN_new {l : List (Nm × α)} {x : Nm} {v : α} (h : getN l x = none) : putN l x v = l ++ [(x, v)] := by
  rw [getN_none] at h
  unfold putN
  rw [if_neg]
  simp only [List.any_eq_true, decide_eq_true_eq, not_exists, not_and]
  intro p hp e
  exact h (List.mem_map.mpr ⟨p, hp, e⟩)
theorem putN_keys {l : List (Nm × α)} {x : Nm} {v : α} (h : x ∈ l.map (·.1)) : (putN l x v).map (·.1) = l.map (·.1) := by
  unfold putN
  rw [if_pos]
  · simp only [List.map_map]
    refine List.map_congr_left fun p _ => ?_
    simp only [Function.comp]
    split <;> rfl
  · obtain ⟨p, hp, e⟩ := List.mem_map.mp h
    simp only [List.any_eq_true, decide_eq_true_eq]
    exact ⟨p, hp, e⟩
end
theorem keysS_dkN {α : Type} {f : α → D} (l : List (Nm × α)) : keysS? (l.map fun p => ((.inr p.1.s : Key), f p.2)) = some (l.map fun p => p.1.s) := by
  induction l with
  | nil => rfl
  | cons a l ih => simp [keysS?, ih]
theorem sorted_dkN {α : Type} {f : α → D} {l : List (Nm × α)} (h : l.length < 64) : biV .sorted [dkN f l] = some (.ow (.lst ((sortE (l.map (·.1))).map enc))) := by
  have e : ((l.map fun p => p.1.s).map D.str) = (l.map (·.1)).map enc := by
    simp only [List.map_map]
    rfl
  show (keysS? (l.map fun p => ((.inr p.1.s : Key), f p.2))).bind _ = _
  rw [keysS_dkN]
  simp only [Option.bind_some, List.length_map, h, if_true]
  rw [e, sort_enc]

/-! ### loops -/
/-- a loop goes through its first part: the state is told by the items behind -/
theorem forD_go {α : Type} {f : α → D} (S : List α → En) {step : D → En → Option Out} {l rest : List α}
    (hs : ∀ pre a post, l = pre ++ a :: post → step (f a) (S pre) = some (.nx (S (pre ++ [a]))) ∨ step (f a) (S pre) = some (.ct (S (pre ++ [a])))) : forD step ((l ++ rest).map f) (S []) = forD step (rest.map f) (S l) := by
  have : ∀ (post pre : List α), l = pre ++ post → forD step ((post ++ rest).map f) (S pre) = forD step (rest.map f) (S l) := by
    intro post
    induction post with
    | nil => intro pre e; rw [e, List.append_nil]; rfl
    | cons a post ih =>
      intro pre e
      have := ih (pre ++ [a]) (by rw [e]; simp)
      cases hs pre a post e with
      | inl h => simp only [List.cons_append, List.map_cons, forD, h, Option.bind_some, this]
      | inr h => simp only [List.cons_append, List.map_cons, forD, h, Option.bind_some, this]
  exact this l [] rfl
/-- a loop: the state is told by the items behind -/
theorem forD_pre {α : Type} {f : α → D} (S : List α → En) {step : D → En → Option Out} {l : List α}
    (hs : ∀ pre a post, l = pre ++ a :: post → step (f a) (S pre) = some (.nx (S (pre ++ [a]))) ∨ step (f a) (S pre) = some (.ct (S (pre ++ [a])))) : forD step (l.map f) (S []) = some (.nx (S l)) := by
  have := forD_go (rest := []) S hs
  rw [List.append_nil] at this
  exact this
/-- a loop that goes out at an item -/
theorem forD_out {α : Type} {f : α → D} (S : List α → En) {step : D → En → Option Out} {pre : List α} {a : α} {post : List α} {v : Nv}
    (hs : ∀ p b q, pre = p ++ b :: q → step (f b) (S p) = some (.nx (S (p ++ [b]))) ∨ step (f b) (S p) = some (.ct (S (p ++ [b])))) (ha : step (f a) (S pre) = some (.rt v)) : forD step ((pre ++ a :: post).map f) (S []) = some (.rt v) := by
  rw [forD_go S hs]
  simp only [List.map_cons, forD, ha, Option.bind_some]
/-- a loop that breaks off at an item -/
theorem forD_brk {α : Type} {f : α → D} (S : List α → En) {step : D → En → Option Out} {pre : List α} {a : α} {post : List α} {e : En}
    (hs : ∀ p b q, pre = p ++ b :: q → step (f b) (S p) = some (.nx (S (p ++ [b]))) ∨ step (f b) (S p) = some (.ct (S (p ++ [b])))) (ha : step (f a) (S pre) = some (.bk e)) : forD step ((pre ++ a :: post).map f) (S []) = some (.nx e) := by
  rw [forD_go S hs]
  simp only [List.map_cons, forD, ha, Option.bind_some]
/-- a loop over 0 .. n-1: the state is told by the number -/
theorem forD_range (S : Nat → En) {step : D → En → Option Out} {n : Nat}
    (hs : ∀ j, j < n → step (.int j) (S j) = some (.nx (S (j + 1))) ∨ step (.int j) (S j) = some (.ct (S (j + 1)))) : forD step ((List.range n).map fun (k : Nat) => D.int k) (S 0) = some (.nx (S n)) := by
  have := forD_pre (f := fun (k : Nat) => D.int k) (fun pre => S pre.length) (step := step) (l := List.range n) fun pre a post e => by
    have hl : pre.length < n := by
      have := congrArg List.length e
      simp only [List.length_range, List.length_append, List.length_cons] at this
      omega
    have : a = pre.length := by
      have h1 : (List.range n)[pre.length]? = some a := by rw [e]; simp
      rw [List.getElem?_range hl] at h1
      exact (Option.some.inj h1).symm
    rw [this]
    simp only [List.length_append, List.length_singleton]
    exact hs _ hl
  simpa using this
/-- a loop that may hold any state with a property, told by the items behind -/
theorem forD_inv {α : Type} {f : α → D} (P : List α → En → Prop) {step : D → En → Option Out} {l : List α} {e0 : En} (h0 : P [] e0)
    (hs : ∀ pre a post e, l = pre ++ a :: post → P pre e → ∃ e', (step (f a) e = some (.nx e') ∨ step (f a) e = some (.ct e')) ∧ P (pre ++ [a]) e') : ∃ e', forD step (l.map f) e0 = some (.nx e') ∧ P l e' := by
  have : ∀ (post pre : List α) (e : En), l = pre ++ post → P pre e → ∃ e', forD step (post.map f) e = some (.nx e') ∧ P l e' := by
    intro post
    induction post with
    | nil => intro pre e q p; rw [q, List.append_nil]; exact ⟨e, rfl, p⟩
    | cons a post ih =>
      intro pre e q p
      obtain ⟨e', h, p'⟩ := hs pre a post e q p
      obtain ⟨e2, h2, p2⟩ := ih (pre ++ [a]) e' (by rw [q]; simp) p'
      refine ⟨e2, ?_, p2⟩
      cases h with
      | inl h => simp only [List.map_cons, forD, h, Option.bind_some, h2]
      | inr h => simp only [List.map_cons, forD, h, Option.bind_some, h2]
  exact this l [] e0 rfl h0
/-- the same over 0 .. n-1 -/
theorem forD_rinv (P : Nat → En → Prop) {step : D → En → Option Out} {n : Nat} {e0 : En} (h0 : P 0 e0)
    (hs : ∀ (j : Nat) (e : En), j < n → P j e → ∃ e', (step (.int j) e = some (.nx e') ∨ step (.int j) e = some (.ct e')) ∧ P (j + 1) e') : ∃ e', forD step ((List.range n).map fun (k : Nat) => D.int k) e0 = some (.nx e') ∧ P n e' := by
  have := forD_inv (f := fun (k : Nat) => D.int k) (fun pre => P pre.length) (step := step) (l := List.range n) (e0 := e0) h0 fun pre a post e q p => by
    have hl : pre.length < n := by
      have := congrArg List.length q
      simp only [List.length_range, List.length_append, List.length_cons] at this
      omega
    have : a = pre.length := by
      have h1 : (List.range n)[pre.length]? = some a := by rw [q]; simp
      rw [List.getElem?_range hl] at h1
      exact (Option.some.inj h1).symm
    rw [this]
    simp only [List.length_append, List.length_singleton]
    exact hs _ _ hl p
  simpa using this
theorem lcD_filter {α : Type} {f : α → D} (p : α → Bool) {step : D → Option (Option D)} {l : List α} (hs : ∀ a ∈ l, step (f a) = some (if p a = true then some (f a) else none)) : lcD step (l.map f) = some ((l.filter p).map f) := by
  induction l with
  | nil => rfl
  | cons a l ih =>
    have := ih fun b hb => hs b (List.mem_cons_of_mem _ hb)
    simp only [List.map_cons, lcD, hs a (List.mem_cons_self ..), Option.bind_some, this]
    cases e : p a <;> simp [e]
theorem lcD_each {α : Type} {f g : α → D} {step : D → Option (Option D)} {l : List α} (hs : ∀ a ∈ l, step (f a) = some (some (g a))) : lcD step (l.map f) = some (l.map g) := by
  induction l with
  | nil => rfl
  | cons a l ih =>
    have := ih fun b hb => hs b (List.mem_cons_of_mem _ hb)
    simp only [List.map_cons, lcD, hs a (List.mem_cons_self ..), Option.bind_some, this]
theorem lc_of {R : Ts.Run} {env env1 : En} {own uses : List Nat} {p : Pt} {it : Itx} {cs : Exs} {e : Ex} {l ds : List D} (h1 : evI R it env = some (l, env1)) (h2 : lcD (lcStp R p cs e (wipeE (hide (frz env1 uses)) own)) l = some ds) (h3 : ds.length ≤ bigLine) (h4 : anyOw env1 uses = false ∨ ds.all D.flat = true) :
    evE R (.lc own uses p it cs e) env = some (.ow (.lst ds), env1) := by
  rw [ev_lc, h1]
  simp only [Option.bind_some, h2, h3, if_true]
  rw [if_pos h4]
/-- while: something grows less -/
theorem whileD_meas {σ : Type} (E : σ → En) (P Q : σ → Prop) (m : σ → Nat) {cond : En → Option (Bool × En)} {step : En → Option Out}
    (hs : ∀ s, P s → (cond (E s) = some (false, E s) ∧ Q s) ∨ (cond (E s) = some (true, E s) ∧ ∃ s', (step (E s) = some (.nx (E s')) ∨ step (E s) = some (.ct (E s'))) ∧ P s' ∧ m s' < m s)) :
    ∀ (n : Nat) (s : σ), P s → m s < n → ∃ s', whileD cond step n (E s) = some (.nx (E s')) ∧ P s' ∧ Q s'
  | 0, s, _, h => absurd h (Nat.not_lt_zero _)
  | n + 1, s, p, h => by
    cases hs s p with
    | inl h1 => exact ⟨s, by simp [whileD, h1.1], p, h1.2⟩
    | inr h1 =>
      obtain ⟨c, s', st, p', lt⟩ := h1
      obtain ⟨s2, w, p2, q2⟩ := whileD_meas E P Q m hs n s' p' (by omega)
      refine ⟨s2, ?_, p2, q2⟩
      cases st with
      | inl st => simp [whileD, c, st, w]
      | inr st => simp [whileD, c, st, w]
end Ts

set_option linter.all false
set_option autoImplicit false
/-! The end of a law whose defs have tables of code: what is known at the top comes along. -/
namespace Ts
open PySem PySem.Spec PyProof.Rows PySem.W L2 LamX
theorem walk_ofTop {l : PySem.W.OpenLaw} {n k : Nat} {q : Program} {loose : List Str} {XP : (Str → Option Value) → Heap → Prop} {YP : World → Heap → Prop} {d : DefRec} {K : Params → PySem.W.Frag} {CX : World → CXT} {x : Str}
    (hn : l.most = some n) (hn2 : n ≤ sizeLine) (hdf : d.params.defaults = []) (hr : Room k callerA) (hY : ∀ (w : World) (h : Heap), YP w h → (K w.params).In h)
    (F : ∀ (w : World) (mg mb : Str → Option Value) (fa : Addr) (h : Heap), (∃ mean, Top q (looseW q loose) mean mg mb h) → YP w h → (K w.params).In h → h.Ns mainGlobals mg → mg d.name = some (.ref fa) → LawAtS l w (K w.params) (CX w) k n x mg fa h)
    (hCX : ∀ (w : World) (H : Hp) (s : Shared) (e : Value) (s' : Shared), CX w [] H s (fun _ _ _ => False) e s' → False) :
    PySem.W.WalkO q loose XP YP l.row.toRowW d [] (fun f vs => PySem.call f vs) := by
  refine Att.attach_callB hn hdf fun w s₀ s₁ mg mb fa o pm cd doc a vs ns G Y ho hd hcd hmg hobj hints hlen hbits hg => ?_
  have KX := hY w _ Y
  obtain ⟨fd, cs, sp, hT, nT, C, hb, hsp, hF⟩ := F w mg mb fa _ ⟨_, G.T⟩ Y KX G.T.g hmg
  exact law_callTs KX G.T.g G.T.b G.T.builtins G.T.nolimit hg hT nT C G.T.bmain hobj hints (Nat.le_trans hlen hn2) hr hF hb (fun H hH hS => hsp H a ns hlen hbits hH hS) fun H e s' => hCX w H s₁ e s'
theorem tab_code {K : PySem.W.Frag} {x : Str} {f c P : Addr} {oc : Value} {od : Option Addr} {fd : FuncData} {sl : Array (Option Value)} (a : PySem.W.nsIn K mainGlobals x = some (some (.ref f))) (l : K.lookup f = some ⟨oc, od, .func fd, sl⟩) (t : PySem.W.tabIn K x = some (c, P)) : fd.code = .ref c := by
  unfold PySem.W.tabIn at t
  rw [a] at t
  simp only [l] at t
  split at t
  · rename_i c' hc
    split at t
    · split at t
      · cases t
        exact hc
      · cases t
    · cases t
  · cases t
theorem tab_at {q : Program} {loose : List Str} {K : PySem.W.Frag} {mg mb : Str → Option Value} {h : Heap} {d : DefRec} {x : Str} {c P : Addr} (T : ∃ mean, Top q (looseW q loose) mean mg mb h) (X : K.In h) (hr : (recsOf q).find? (fun e => e.name == x) = some d) (ht : PySem.W.tabIn K x = some (c, P)) : PySem.W.CodeHd h c P ∧ h.get? P = some { cls := .none, data := .fields #[] } := by
  obtain ⟨mean, T⟩ := T
  exact PySem.W.tab_of T X hr ht
theorem triples_nil : TriplesOk ([] : List Value) := True.intro
end Ts

namespace TsX
open PySem PySem.Spec PyProof.Rows L2 Ts
/-! ### the text -/
def topS (i : Nat) : Stmt := PySem.Challenge.pw_treeserved_k01_trees_made.main.body.getD i (.Pass ⟨0, 0, 0, 0⟩)
/-! is_name -/
abbrev s93 : Stmt := topS 9
def N93 : List Str := [("text" : Str), ("sign" : Str)]
def q93_0 : Ts.St :=
    (.ifs (.or (.cons (.not (.cmp2 .LtE .LtE (.int 1) (.bi .len (.cons (.var 0) .nil)) (.gl "LETTERS" (.int 8)))) (.cons (.cmp .NotIn (.ix (.var 0) (.int 0)) (.gl "SMALL" (.str "abcdefghijklmnopqrstuvwxyz"))) .nil))) (.cons (.ret (.bl false))
    .nil) .nil)
def c93_0 : Ex :=
    .lc [1] [] (.v 1) (.chars (.var 0)) .nil (.cmp .In (.var 1) (.bin .Add (.gl "SMALL" (.str "abcdefghijklmnopqrstuvwxyz")) (.gl "FIGURES" (.str "0123456789"))))
def q93_1 : Ts.St :=
    (.ret (.bi .all (.cons c93_0 .nil)))
def b93 : Sts :=
    (.cons q93_0 (.cons q93_1 .nil))
def x93 : Fx := ⟨1, 2, b93, 0, false⟩
/-! check_nodes -/
abbrev s94 : Stmt := topS 10
def N94 : List Str := [("nodes" : Str), ("seen" : Str), ("place" : Str), ("name" : Str), ("weight" : Str)]
def q94_0 : Ts.St :=
    (.asg 1 (.lst .nil))
def q94_2 : Ts.St :=
    (.unp [3, 4] (.ix (.var 0) (.var 2)))
def q94_3 : Ts.St :=
    (.ifs (.not (.call 93 (.cons (.var 3) .nil))) (.cons (.raise 0 (.cons (.str "wrong name") (.cons (.var 2) .nil)))
    .nil) .nil)
def q94_4 : Ts.St :=
    (.ifs (.cmp .In (.var 3) (.var 1)) (.cons (.raise 0 (.cons (.str "named twice") (.cons (.var 2) .nil)))
    .nil) .nil)
def q94_5 : Ts.St :=
    (.ifs (.or (.cons (.cmp .Lt (.var 4) (.int 0)) (.cons (.cmp .Gt (.var 4) (.gl "GREAT" (.int 999))) .nil))) (.cons (.raise 0 (.cons (.str "wrong weight") (.cons (.var 2) .nil)))
    .nil) .nil)
def q94_6 : Ts.St :=
    (.app 1 (.var 3))
def l94_0 : Sts :=
    (.cons q94_2 (.cons q94_3 (.cons q94_4 (.cons q94_5 (.cons q94_6 .nil)))))
def q94_1 : Ts.St :=
    (.for_ (.v 2) (.rng1 (.bi .len (.cons (.var 0) .nil))) l94_0 [2, 3, 4])
def q94_7 : Ts.St :=
    (.ifs (.not (.cmp2 .LtE .LtE (.int 1) (.bi .len (.cons (.var 0) .nil)) (.gl "NODES" (.int 12)))) (.cons (.raise 0 (.cons (.str "wrong number of nodes") (.cons (.bi .len (.cons (.var 0) .nil)) .nil)))
    .nil) .nil)
def b94 : Sts :=
    (.cons q94_0 (.cons q94_1 (.cons q94_7 .nil)))
def x94 : Fx := ⟨1, 5, b94, 0, true⟩
/-! edge_fault -/
abbrev s95 : Stmt := topS 11
def N95 : List Str := [("clusters" : Str), ("edge" : Str), ("first" : Str), ("second" : Str), ("length" : Str)]
def q95_0 : Ts.St :=
    (.unp [2, 3, 4] (.var 1))
def q95_1 : Ts.St :=
    (.ifs (.or (.cons (.cmp .NotIn (.var 2) (.var 0)) (.cons (.cmp .NotIn (.var 3) (.var 0)) .nil))) (.cons (.ret (.str "unknown node"))
    .nil) .nil)
def q95_2 : Ts.St :=
    (.ifs (.or (.cons (.cmp .Lt (.var 4) (.int 1)) (.cons (.cmp .Gt (.var 4) (.gl "GREAT" (.int 999))) .nil))) (.cons (.ret (.str "wrong length"))
    .nil) .nil)
def q95_3 : Ts.St :=
    (.ifs (.cmp .Eq (.ix (.var 0) (.var 2)) (.ix (.var 0) (.var 3))) (.cons (.ret (.str "joined already"))
    .nil) .nil)
def q95_4 : Ts.St :=
    (.ret .non)
def b95 : Sts :=
    (.cons q95_0 (.cons q95_1 (.cons q95_2 (.cons q95_3 (.cons q95_4 .nil)))))
def x95 : Fx := ⟨2, 5, b95, 0, false⟩
/-! joined_clusters -/
abbrev s96 : Stmt := topS 12
def N96 : List Str := [("clusters" : Str), ("first" : Str), ("second" : Str), ("later" : Str), ("name" : Str)]
def q96_0 : Ts.St :=
    (.asg 3 (.dnew false))
def q96_2 : Ts.St :=
    (.put 3 (.var 4) (.ite (.cmp .Eq (.ix (.var 0) (.var 4)) (.ix (.var 0) (.var 2))) (.ix (.var 0) (.var 1)) (.ix (.var 0) (.var 4))))
def l96_0 : Sts :=
    (.cons q96_2 .nil)
def q96_1 : Ts.St :=
    (.forK 0 (.v 4) l96_0 [4])
def q96_3 : Ts.St :=
    (.ret (.var 3))
def b96 : Sts :=
    (.cons q96_0 (.cons q96_1 (.cons q96_3 .nil)))
def x96 : Fx := ⟨3, 5, b96, 0, false⟩
/-! check_edges -/
abbrev s97 : Stmt := topS 13
def N97 : List Str := [("names" : Str), ("edges" : Str), ("clusters" : Str), ("place" : Str), ("what" : Str), ("name" : Str)]
def c97_0 : Ex :=
    .dc [5] [] (.v 5) (.seq (.var 0)) (.var 5) (.var 5)
def q97_0 : Ts.St :=
    (.asg 2 c97_0)
def q97_2 : Ts.St :=
    (.asg 4 (.call 95 (.cons (.var 2) (.cons (.ix (.var 1) (.var 3)) .nil))))
def q97_3 : Ts.St :=
    (.ifs (.cmp .IsNot (.var 4) .non) (.cons (.raise 0 (.cons (.var 4) (.cons (.var 3) .nil)))
    .nil) .nil)
def q97_4 : Ts.St :=
    (.asg 2 (.call 96 (.cons (.var 2) (.cons (.ix (.ix (.var 1) (.var 3)) (.int 0)) (.cons (.ix (.ix (.var 1) (.var 3)) (.int 1)) .nil)))))
def l97_0 : Sts :=
    (.cons q97_2 (.cons q97_3 (.cons q97_4 .nil)))
def q97_1 : Ts.St :=
    (.for_ (.v 3) (.rng1 (.bi .len (.cons (.var 1) .nil))) l97_0 [3, 4])
def q97_5 : Ts.St :=
    (.ifs (.cmp .Lt (.bin .Add (.bi .len (.cons (.var 1) .nil)) (.int 1)) (.bi .len (.cons (.var 0) .nil))) (.cons (.raise 0 (.cons (.str "not joined") (.cons (.bi .len (.cons (.var 1) .nil)) .nil)))
    .nil) .nil)
def b97 : Sts :=
    (.cons q97_0 (.cons q97_1 (.cons q97_5 .nil)))
def x97 : Fx := ⟨2, 6, b97, 0, true⟩
/-! in_order -/
abbrev s98 : Stmt := topS 14
def N98 : List Str := [("edges" : Str), ("first" : Str), ("second" : Str), ("length" : Str)]
def c98_0 : Ex :=
    .lc [1, 2, 3] [] (.t [1, 2, 3]) (.seq (.var 0)) .nil (.tup (.cons (.bi .min2 (.cons (.var 1) (.cons (.var 2) .nil))) (.cons (.bi .max2 (.cons (.var 1) (.cons (.var 2) .nil))) (.cons (.var 3) .nil))))
def q98_0 : Ts.St :=
    (.ret (.bi .tuple (.cons (.bi .sorted (.cons c98_0 .nil)) .nil)))
def b98 : Sts :=
    (.cons q98_0 .nil)
def x98 : Fx := ⟨1, 4, b98, 0, false⟩
/-! tree -/
abbrev s99 : Stmt := topS 15
def N99 : List Str := [("nodes" : Str), ("edges" : Str), ("name" : Str), ("weight" : Str)]
def q99_0 : Ts.St :=
    (.expX 94 (.cons (.var 0) .nil))
def c99_0 : Ex :=
    .lc [2, 3] [] (.t [2, 3]) (.seq (.var 0)) .nil (.var 2)
def q99_1 : Ts.St :=
    (.expX 97 (.cons c99_0 (.cons (.var 1) .nil)))
def q99_2 : Ts.St :=
    (.ret (.tup (.cons (.bi .tuple (.cons (.bi .sorted (.cons (.var 0) .nil)) .nil)) (.cons (.call 98 (.cons (.var 1) .nil)) .nil))))
def b99 : Sts :=
    (.cons q99_0 (.cons q99_1 (.cons q99_2 .nil)))
def x99 : Fx := ⟨2, 4, b99, 0, true⟩
/-! _law_cell -/
abbrev s5 : Stmt := topS 17
def N5 : List Str := [("_law_script" : Str), ("_law_k" : Str)]
def q5_0 : Ts.St :=
    (.ifs (.cmp .Lt (.var 1) (.bi .len (.cons (.var 0) .nil))) (.cons (.ret (.ix (.var 0) (.var 1)))
    .nil) .nil)
def q5_1 : Ts.St :=
    (.ret (.int 0))
def b5 : Sts :=
    (.cons q5_0 (.cons q5_1 .nil))
def x5 : Fx := ⟨2, 2, b5, 0, false⟩
/-! _law_draw -/
abbrev s31 : Stmt := topS 18
def N31 : List Str := [("_law_script" : Str), ("_law_k" : Str), ("_law_sizes" : Str), ("_law_cell_here" : Str), ("_law_drawn" : Str), ("_law_size" : Str), ("_law_mixed" : Str), ("_law_j" : Str)]
def q31_0 : Ts.St :=
    (.asg 3 (.call 5 (.cons (.var 0) (.cons (.var 1) .nil))))
def q31_1 : Ts.St :=
    (.ifs (.cmp .Lt (.var 3) (.int 0)) (.cons (.asg 3 (.neg (.var 3)))
    .nil) .nil)
def q31_2 : Ts.St :=
    (.asg 4 (.lst .nil))
def q31_4 : Ts.St :=
    (.app 4 (.bin .Mod (.var 3) (.var 5)))
def q31_5 : Ts.St :=
    (.asg 3 (.bin .FloorDiv (.var 3) (.var 5)))
def l31_0 : Sts :=
    (.cons q31_4 (.cons q31_5 .nil))
def q31_3 : Ts.St :=
    (.ifs (.cmp .GtE (.var 3) (.bin .Pow (.int 10) (.int 18))) (.cons (.asg 3 (.bin .Sub (.var 3) (.bin .Pow (.int 10) (.int 18))))
    (.cons (.for_ (.v 5) (.seq (.var 2)) l31_0 [5])
    (.cons (.ret (.var 4))
    .nil))) .nil)
def q31_6 : Ts.St :=
    (.asg 6 (.bin .Mod (.bin .Add (.bin .Add (.var 3) (.int 1)) (.bin .Mult (.int 31) (.var 1))) (.int 2147483647)))
def q31_8 : Ts.St :=
    (.asg 6 (.bin .Mod (.bin .Add (.bin .Add (.bin .Mult (.var 6) (.int 48271)) (.int 11)) (.var 7)) (.int 2147483647)))
def q31_9 : Ts.St :=
    (.asg 6 (.bin .Mod (.bin .Add (.bin .Mult (.var 6) (.int 69621)) (.int 3)) (.int 2147483647)))
def q31_10 : Ts.St :=
    (.app 4 (.bin .Mod (.bin .FloorDiv (.var 6) (.int 7)) (.ix (.var 2) (.var 7))))
def l31_1 : Sts :=
    (.cons q31_8 (.cons q31_9 (.cons q31_10 .nil)))
def q31_7 : Ts.St :=
    (.for_ (.v 7) (.rng1 (.bi .len (.cons (.var 2) .nil))) l31_1 [7])
def q31_11 : Ts.St :=
    (.ret (.var 4))
def b31 : Sts :=
    (.cons q31_0 (.cons q31_1 (.cons q31_2 (.cons q31_3 (.cons q31_6 (.cons q31_7 (.cons q31_11 .nil)))))))
def x31 : Fx := ⟨3, 8, b31, 0, false⟩
/-! _law_parts -/
abbrev s32 : Stmt := topS 19
def N32 : List Str := [("_law_script" : Str), ("_law_k" : Str), ("_law_head" : Str), ("_law_many" : Str), ("_law_digits" : Str), ("_law_names" : Str), ("_law_j" : Str), ("_law_nodes" : Str), ("_law_edges" : Str), ("_law_weight" : Str), ("_law_length" : Str), ("_law_other" : Str)]
def q32_0 : Ts.St :=
    (.asg 2 (.call 31 (.cons (.var 0) (.cons (.var 1) (.cons (.lst (.cons (.int 12) (.cons (.int 4) (.cons (.int 3) (.cons (.int 26) (.cons (.int 7) .nil)))))) .nil)))))
def q32_1 : Ts.St :=
    (.asg 3 (.bin .Add (.int 1) (.ix (.var 2) (.int 0))))
def q32_2 : Ts.St :=
    (.ifs (.cmp .Gt (.ix (.var 2) (.int 1)) (.int 0)) (.cons (.asg 3 (.bin .Add (.int 1) (.bin .Mod (.ix (.var 2) (.int 0)) (.int 8))))
    .nil) .nil)
def q32_3 : Ts.St :=
    (.asg 4 (.call 31 (.cons (.var 0) (.cons (.bin .Add (.var 1) (.int 1)) (.cons (.bin .Mult (.lst (.cons (.int 97) (.cons (.int 1000) (.cons (.int 10) (.cons (.int 12) .nil))))) (.int 12)) .nil)))))
def q32_4 : Ts.St :=
    (.asg 5 (.lst .nil))
def q32_6 : Ts.St :=
    (.app 5 (.bin .Add (.ix (.str "abcdefghijklmnopqrstuvwxyz") (.bin .Mod (.bin .Add (.ix (.var 2) (.int 3)) (.bin .Mult (.ix (.lst (.cons (.int 1) (.cons (.int 3) (.cons (.int 5) (.cons (.int 7) (.cons (.int 9) (.cons (.int 11) (.cons (.int 17) .nil)))))))) (.ix (.var 2) (.int 4))) (.var 6))) (.int 26))) (.ix (.lst (.cons (.str "") (.cons (.str "1") (.cons (.str "x9") .nil)))) (.ix (.var 2) (.int 2)))))
def l32_0 : Sts :=
    (.cons q32_6 .nil)
def q32_5 : Ts.St :=
    (.for_ (.v 6) (.rng1 (.var 3)) l32_0 [6])
def q32_7 : Ts.St :=
    (.asg 7 (.lst .nil))
def q32_8 : Ts.St :=
    (.asg 8 (.lst .nil))
def q32_10 : Ts.St :=
    (.asg 9 (.ix (.var 4) (.bin .Add (.bin .Mult (.int 4) (.var 6)) (.int 2))))
def q32_11 : Ts.St :=
    (.asg 10 (.bin .Add (.int 1) (.bin .Mod (.ix (.var 4) (.bin .Add (.bin .Mult (.int 4) (.var 6)) (.int 2))) (.int 3))))
def q32_12 : Ts.St :=
    (.ifs (.cmp .Eq (.ix (.var 2) (.int 1)) (.int 3)) (.cons (.asg 9 (.ix (.var 4) (.bin .Add (.bin .Mult (.int 4) (.var 6)) (.int 1))))
    (.cons (.asg 10 (.bin .Add (.int 1) (.bin .Mod (.ix (.var 4) (.bin .Add (.bin .Mult (.int 4) (.var 6)) (.int 1))) (.int 999))))
    .nil)) .nil)
def q32_13 : Ts.St :=
    (.app 7 (.tup (.cons (.ix (.var 5) (.var 6)) (.cons (.var 9) .nil))))
def q32_14 : Ts.St :=
    (.ifs (.cmp .Gt (.var 6) (.int 0)) (.cons (.asg 11 (.bin .Mod (.ix (.var 4) (.bin .Mult (.int 4) (.var 6))) (.var 6)))
    (.cons (.ifs (.cmp .Eq (.ix (.var 2) (.int 2)) (.int 1)) (.cons (.asg 11 (.bi .max2 (.cons (.int 0) (.cons (.bin .Sub (.bin .Sub (.var 6) (.int 1)) (.bin .Mod (.ix (.var 4) (.bin .Mult (.int 4) (.var 6))) (.int 2))) .nil))))
    .nil) .nil)
    (.cons (.app 8 (.tup (.cons (.ix (.var 5) (.var 6)) (.cons (.ix (.var 5) (.var 11)) (.cons (.var 10) .nil)))))
    .nil))) .nil)
def l32_1 : Sts :=
    (.cons q32_10 (.cons q32_11 (.cons q32_12 (.cons q32_13 (.cons q32_14 .nil)))))
def q32_9 : Ts.St :=
    (.for_ (.v 6) (.rng1 (.var 3)) l32_1 [6, 9, 10, 11])
def q32_15 : Ts.St :=
    (.ret (.tup (.cons (.var 7) (.cons (.var 8) .nil))))
def b32 : Sts :=
    (.cons q32_0 (.cons q32_1 (.cons q32_2 (.cons q32_3 (.cons q32_4 (.cons q32_5 (.cons q32_7 (.cons q32_8 (.cons q32_9 (.cons q32_15 .nil))))))))))
def x32 : Fx := ⟨2, 12, b32, 0, false⟩
/-! _law_name -/
abbrev s100 : Stmt := topS 20
def N100 : List Str := [("_law_word" : Str), ("_law_letters" : Str), ("_law_sign" : Str)]
def q100_0 : Ts.St :=
    (.asg 1 (.str "abcdefghijklmnopqrstuvwxyz"))
def q100_1 : Ts.St :=
    (.ifs (.or (.cons (.cmp .Lt (.bi .len (.cons (.var 0) .nil)) (.int 1)) (.cons (.cmp .Gt (.bi .len (.cons (.var 0) .nil)) (.int 8)) (.cons (.cmp .NotIn (.ix (.var 0) (.int 0)) (.var 1)) .nil)))) (.cons (.ret (.bl false))
    .nil) .nil)
def c100_0 : Ex :=
    .lc [2] [1] (.v 2) (.chars (.var 0)) (.cons (.and (.cons (.cmp .NotIn (.var 2) (.var 1)) (.cons (.cmp .NotIn (.var 2) (.str "0123456789")) .nil))) .nil) (.var 2)
def q100_2 : Ts.St :=
    (.ret (.cmp .Eq (.bi .len (.cons c100_0 .nil)) (.int 0)))
def b100 : Sts :=
    (.cons q100_0 (.cons q100_1 (.cons q100_2 .nil)))
def x100 : Fx := ⟨1, 3, b100, 0, false⟩
/-! _law_due -/
abbrev s101 : Stmt := topS 21
def N101 : List Str := [("_law_nodes" : Str), ("_law_edges" : Str), ("_law_names" : Str), ("_law_k" : Str), ("_law_name_here" : Str), ("_law_weight" : Str), ("_law_group" : Str), ("_law_rows" : Str), ("_law_one" : Str), ("_law_other" : Str), ("_law_length" : Str), ("_law_old" : Str)]
def q101_0 : Ts.St :=
    (.asg 2 (.lst .nil))
def q101_2 : Ts.St :=
    (.unp [4, 5] (.ix (.var 0) (.var 3)))
def q101_3 : Ts.St :=
    (.ifs (.not (.call 100 (.cons (.var 4) .nil))) (.cons (.ret (.tup (.cons (.str "wrong name") (.cons (.var 3) .nil))))
    .nil) .nil)
def q101_4 : Ts.St :=
    (.ifs (.cmp .In (.var 4) (.var 2)) (.cons (.ret (.tup (.cons (.str "named twice") (.cons (.var 3) .nil))))
    .nil) .nil)
def q101_5 : Ts.St :=
    (.ifs (.or (.cons (.cmp .Lt (.var 5) (.int 0)) (.cons (.cmp .Gt (.var 5) (.int 999)) .nil))) (.cons (.ret (.tup (.cons (.str "wrong weight") (.cons (.var 3) .nil))))
    .nil) .nil)
def q101_6 : Ts.St :=
    (.app 2 (.var 4))
def l101_0 : Sts :=
    (.cons q101_2 (.cons q101_3 (.cons q101_4 (.cons q101_5 (.cons q101_6 .nil)))))
def q101_1 : Ts.St :=
    (.for_ (.v 3) (.rng1 (.bi .len (.cons (.var 0) .nil))) l101_0 [3, 4, 5])
def q101_7 : Ts.St :=
    (.ifs (.or (.cons (.cmp .Lt (.bi .len (.cons (.var 0) .nil)) (.int 1)) (.cons (.cmp .Gt (.bi .len (.cons (.var 0) .nil)) (.int 12)) .nil))) (.cons (.ret (.tup (.cons (.str "wrong number of nodes") (.cons (.bi .len (.cons (.var 0) .nil)) .nil))))
    .nil) .nil)
def q101_8 : Ts.St :=
    (.asg 6 (.dnew false))
def q101_10 : Ts.St :=
    (.put 6 (.var 4) (.var 4))
def l101_1 : Sts :=
    (.cons q101_10 .nil)
def q101_9 : Ts.St :=
    (.for_ (.v 4) (.seq (.var 2)) l101_1 [4])
def q101_11 : Ts.St :=
    (.asg 7 (.lst .nil))
def q101_13 : Ts.St :=
    (.unp [8, 9, 10] (.ix (.var 1) (.var 3)))
def q101_14 : Ts.St :=
    (.ifs (.or (.cons (.cmp .NotIn (.var 8) (.var 2)) (.cons (.cmp .NotIn (.var 9) (.var 2)) .nil))) (.cons (.ret (.tup (.cons (.str "unknown node") (.cons (.var 3) .nil))))
    .nil) .nil)
def q101_15 : Ts.St :=
    (.ifs (.or (.cons (.cmp .Lt (.var 10) (.int 1)) (.cons (.cmp .Gt (.var 10) (.int 999)) .nil))) (.cons (.ret (.tup (.cons (.str "wrong length") (.cons (.var 3) .nil))))
    .nil) .nil)
def q101_16 : Ts.St :=
    (.ifs (.cmp .Eq (.ix (.var 6) (.var 8)) (.ix (.var 6) (.var 9))) (.cons (.ret (.tup (.cons (.str "joined already") (.cons (.var 3) .nil))))
    .nil) .nil)
def q101_17 : Ts.St :=
    (.asg 11 (.ix (.var 6) (.var 8)))
def q101_19 : Ts.St :=
    (.ifs (.cmp .Eq (.ix (.var 6) (.var 4)) (.var 11)) (.cons (.put 6 (.var 4) (.ix (.var 6) (.var 9)))
    .nil) .nil)
def l101_3 : Sts :=
    (.cons q101_19 .nil)
def q101_18 : Ts.St :=
    (.for_ (.v 4) (.seq (.var 2)) l101_3 [4])
def q101_20 : Ts.St :=
    (.app 7 (.tup (.cons (.bi .min2 (.cons (.var 8) (.cons (.var 9) .nil))) (.cons (.bi .max2 (.cons (.var 8) (.cons (.var 9) .nil))) (.cons (.var 10) .nil)))))
def l101_2 : Sts :=
    (.cons q101_13 (.cons q101_14 (.cons q101_15 (.cons q101_16 (.cons q101_17 (.cons q101_18 (.cons q101_20 .nil)))))))
def q101_12 : Ts.St :=
    (.for_ (.v 3) (.rng1 (.bi .len (.cons (.var 1) .nil))) l101_2 [3, 4, 8, 9, 10, 11])
def q101_21 : Ts.St :=
    (.ifs (.cmp .Lt (.bi .len (.cons (.var 7) .nil)) (.bin .Sub (.bi .len (.cons (.var 0) .nil)) (.int 1))) (.cons (.ret (.tup (.cons (.str "not joined") (.cons (.bi .len (.cons (.var 1) .nil)) .nil))))
    .nil) .nil)
def q101_22 : Ts.St :=
    (.ret (.tup (.cons (.bi .tuple (.cons (.bi .sorted (.cons (.var 0) .nil)) .nil)) (.cons (.bi .tuple (.cons (.bi .sorted (.cons (.var 7) .nil)) .nil)) .nil))))
def b101 : Sts :=
    (.cons q101_0 (.cons q101_1 (.cons q101_7 (.cons q101_8 (.cons q101_9 (.cons q101_11 (.cons q101_12 (.cons q101_21 (.cons q101_22 .nil)))))))))
def x101 : Fx := ⟨2, 12, b101, 0, false⟩
/-! _law_told -/
abbrev s102 : Stmt := topS 22
def N102 : List Str := [("_law_nodes" : Str), ("_law_edges" : Str), ("e" : Str)]
def q102_1 : Ts.St :=
    (.retX 99 (.cons (.bi .list (.cons (.var 0) .nil)) (.cons (.bi .list (.cons (.var 1) .nil)) .nil)))
def l102_0 : Sts :=
    (.cons q102_1 .nil)
def q102_0 : Ts.St :=
    (.try_ l102_0 [0] [0] 2 (.f2 0 1))
def b102 : Sts :=
    (.cons q102_0 .nil)
def x102 : Fx := ⟨2, 3, b102, 0, false⟩
/-! _law_turned -/
abbrev s103 : Stmt := topS 23
def N103 : List Str := [("_law_rows" : Str), ("_law_digits" : Str), ("_law_made" : Str), ("_law_j" : Str), ("_law_k" : Str)]
def q103_0 : Ts.St :=
    (.asg 2 (.bi .list (.cons (.var 0) .nil)))
def q103_2 : Ts.St :=
    (.asg 4 (.bin .Mod (.ix (.var 1) (.var 3)) (.bin .Add (.var 3) (.int 1))))
def q103_3 : Ts.St :=
    (.swp 2 3 4)
def l103_0 : Sts :=
    (.cons q103_2 (.cons q103_3 .nil))
def q103_1 : Ts.St :=
    (.for_ (.v 3) (.rng1 (.bi .len (.cons (.var 0) .nil))) l103_0 [3, 4])
def q103_4 : Ts.St :=
    (.ret (.var 2))
def b103 : Sts :=
    (.cons q103_0 (.cons q103_1 (.cons q103_4 .nil)))
def x103 : Fx := ⟨2, 5, b103, 0, false⟩
/-! law -/
abbrev s104 : Stmt := topS 24
def N104 : List Str := [("_law_script" : Str), ("_law_odd" : Str), ("_law_w" : Str), ("_law_nodes" : Str), ("_law_edges" : Str), ("_law_digits" : Str), ("_law_j" : Str), ("_law_part" : Str), ("_law_k" : Str), ("_law_i" : Str), ("_law_number" : Str), ("_law_edge" : Str), ("_law_m" : Str)]
def q104_0 : Ts.St :=
    (.asg 1 (.lst (.cons (.str "") (.cons (.str "A") (.cons (.str "9") (.cons (.str "abcdefghi") (.cons (.str "a_b") (.cons (.str "zz") (.cons (.str "abcdefgh") (.cons (.str "a b") (.cons (.str "aB") (.cons (.str "ab\n") .nil))))))))))))
def q104_2 : Ts.St :=
    (.unp [3, 4] (.call 32 (.cons (.var 0) (.cons (.bin .Mult (.int 5) (.var 2)) .nil))))
def q104_3 : Ts.St :=
    (.asg 5 (.call 31 (.cons (.var 0) (.cons (.bin .Add (.bin .Mult (.int 5) (.var 2)) (.int 2)) (.cons (.bin .Mult (.lst (.cons (.int 12) .nil)) (.int 24)) .nil)))))
def q104_4 : Ts.St :=
    (.asg 3 (.call 103 (.cons (.var 3) (.cons (.var 5) .nil))))
def c104_0 : Ex :=
    .lc [11] [5] (.v 11) (.seq (.call 103 (.cons (.var 4) (.cons (.sl (.var 5) (.yes (.int 12)) .no) .nil)))) .nil (.ite (.cmp .Eq (.bin .Mod (.ix (.var 5) (.int 23)) (.int 2)) (.int 0)) (.var 11) (.tup (.cons (.ix (.var 11) (.int 1)) (.cons (.ix (.var 11) (.int 0)) (.cons (.ix (.var 11) (.int 2)) .nil)))))
def q104_5 : Ts.St :=
    (.asg 4 c104_0)
def q104_6 : Ts.St :=
    (.ifs (.cmp .NotEq (.call 102 (.cons (.var 3) (.cons (.var 4) .nil))) (.call 101 (.cons (.var 3) (.cons (.var 4) .nil)))) (.cons (.ret (.bl false))
    .nil) .nil)
def q104_8 : Ts.St :=
    (.asg 7 (.call 31 (.cons (.var 0) (.cons (.bin .Add (.bin .Add (.bin .Mult (.int 5) (.var 2)) (.int 3)) (.var 6)) (.cons (.lst (.cons (.int 11) (.cons (.int 12) (.cons (.int 10) (.cons (.int 1002) (.cons (.int 12) (.cons (.int 12) .nil))))))) .nil)))))
def q104_9 : Ts.St :=
    (.asg 8 (.bin .Mod (.ix (.var 7) (.int 1)) (.bin .Add (.bi .len (.cons (.var 3) .nil)) (.int 1))))
def q104_10 : Ts.St :=
    (.asg 9 (.bin .Mod (.ix (.var 7) (.int 1)) (.bin .Add (.bi .len (.cons (.var 4) .nil)) (.int 1))))
def q104_11 : Ts.St :=
    (.asg 10 (.bin .Sub (.ix (.var 7) (.int 3)) (.int 1)))
def q104_12 : Ts.St :=
    (.ifs (.cmp .Eq (.ix (.var 7) (.int 2)) (.int 7)) (.cons (.asg 10 (.ix (.lst (.cons (.neg (.int 1)) (.cons (.int 0) (.cons (.int 999) (.cons (.int 1000) .nil))))) (.bin .Mod (.ix (.var 7) (.int 4)) (.int 4))))
    .nil) .nil)
def c104_1 : Ex :=
    .lc [12] [] (.v 12) (.rng1 (.ix (.var 7) (.int 4))) .nil (.tup (.cons (.bin .Add (.str "w") (.strI (.var 12))) (.cons (.int 1) .nil)))
def q104_13 : Ts.St :=
    (.ifs (.cmp .Eq (.ix (.var 7) (.int 0)) (.int 0)) (.cons (.asg 3 (.bin .Add (.bin .Add (.sl (.var 3) .no (.yes (.var 8))) (.lst (.cons (.tup (.cons (.ix (.var 1) (.ix (.var 7) (.int 2))) (.cons (.var 10) .nil))) .nil))) (.sl (.var 3) (.yes (.var 8)) .no)))
    .nil) (.cons (.ifs (.cmp .Eq (.ix (.var 7) (.int 0)) (.int 1)) (.cons (.asg 3 (.bin .Add (.sl (.var 3) .no (.yes (.var 8))) (.sl (.var 3) (.yes (.bin .Add (.var 8) (.int 1))) .no)))
    .nil) (.cons (.ifs (.and (.cons (.cmp .Eq (.ix (.var 7) (.int 0)) (.int 2)) (.cons (.cmp .Lt (.var 8) (.bi .len (.cons (.var 3) .nil))) .nil))) (.cons (.put 3 (.var 8) (.tup (.cons (.ix (.ix (.var 3) (.var 8)) (.int 0)) (.cons (.var 10) .nil))))
    .nil) (.cons (.ifs (.and (.cons (.cmp .Eq (.ix (.var 7) (.int 0)) (.int 3)) (.cons (.cmp .Lt (.var 8) (.bi .len (.cons (.var 3) .nil))) .nil))) (.cons (.app 3 (.ix (.var 3) (.var 8)))
    .nil) (.cons (.ifs (.cmp .Eq (.ix (.var 7) (.int 0)) (.int 4)) (.cons (.asg 4 (.bin .Add (.sl (.var 4) .no (.yes (.var 9))) (.sl (.var 4) (.yes (.bin .Add (.var 9) (.int 1))) .no)))
    .nil) (.cons (.ifs (.and (.cons (.cmp .Eq (.ix (.var 7) (.int 0)) (.int 5)) (.cons (.cmp .Lt (.var 9) (.bi .len (.cons (.var 4) .nil))) .nil))) (.cons (.put 4 (.var 9) (.tup (.cons (.ix (.ix (.var 4) (.var 9)) (.int 0)) (.cons (.ix (.ix (.var 4) (.var 9)) (.int 1)) (.cons (.var 10) .nil)))))
    .nil) (.cons (.ifs (.and (.cons (.cmp .Eq (.ix (.var 7) (.int 0)) (.int 6)) (.cons (.cmp .Gt (.bi .len (.cons (.var 3) .nil)) (.int 0)) .nil))) (.cons (.asg 4 (.bin .Add (.bin .Add (.sl (.var 4) .no (.yes (.var 9))) (.lst (.cons (.tup (.cons (.ix (.ix (.var 3) (.bin .Mod (.ix (.var 7) (.int 4)) (.bi .len (.cons (.var 3) .nil)))) (.int 0)) (.cons (.ix (.ix (.var 3) (.bin .Mod (.ix (.var 7) (.int 5)) (.bi .len (.cons (.var 3) .nil)))) (.int 0)) (.cons (.bin .Add (.int 1) (.ix (.var 7) (.int 2))) .nil)))) .nil))) (.sl (.var 4) (.yes (.var 9)) .no)))
    .nil) (.cons (.ifs (.cmp .Eq (.ix (.var 7) (.int 0)) (.int 7)) (.cons (.asg 4 (.bin .Add (.bin .Add (.sl (.var 4) .no (.yes (.var 9))) (.lst (.cons (.tup (.cons (.ix (.var 1) (.ix (.var 7) (.int 2))) (.cons (.str "a") (.cons (.int 1) .nil)))) .nil))) (.sl (.var 4) (.yes (.var 9)) .no)))
    .nil) (.cons (.ifs (.cmp .Eq (.ix (.var 7) (.int 0)) (.int 8)) (.cons (.asg 3 (.bin .Add (.var 3) c104_1))
    .nil) (.cons (.ifs (.cmp .Eq (.ix (.var 7) (.int 0)) (.int 9)) (.cons (.asg 3 (.lst .nil))
    .nil) .nil)
    .nil))
    .nil))
    .nil))
    .nil))
    .nil))
    .nil))
    .nil))
    .nil))
    .nil))
def q104_14 : Ts.St :=
    (.ifs (.cmp .NotEq (.call 102 (.cons (.var 3) (.cons (.var 4) .nil))) (.call 101 (.cons (.var 3) (.cons (.var 4) .nil)))) (.cons (.ret (.bl false))
    .nil) .nil)
def l104_1 : Sts :=
    (.cons q104_8 (.cons q104_9 (.cons q104_10 (.cons q104_11 (.cons q104_12 (.cons q104_13 (.cons q104_14 .nil)))))))
def q104_7 : Ts.St :=
    (.for_ (.v 6) (.rng1 (.int 2)) l104_1 [6, 7, 8, 9, 10])
def l104_0 : Sts :=
    (.cons q104_2 (.cons q104_3 (.cons q104_4 (.cons q104_5 (.cons q104_6 (.cons q104_7 .nil))))))
def q104_1 : Ts.St :=
    (.for_ (.v 2) (.rng1 (.bi .min2 (.cons (.int 6) (.cons (.bin .Add (.int 1) (.bin .FloorDiv (.bi .len (.cons (.var 0) .nil)) (.int 5))) .nil)))) l104_0 [2, 3, 4, 5, 6, 7, 8, 9, 10])
def q104_15 : Ts.St :=
    (.ret (.bl true))
def b104 : Sts :=
    (.cons q104_0 (.cons q104_1 (.cons q104_15 .nil)))
def x104 : Fx := ⟨1, 13, b104, 0, false⟩
def tab : Tab := fun n => match n with
  | 93 => some x93
  | 94 => some x94
  | 95 => some x95
  | 96 => some x96
  | 97 => some x97
  | 98 => some x98
  | 99 => some x99
  | 5 => some x5
  | 31 => some x31
  | 32 => some x32
  | 100 => some x100
  | 101 => some x101
  | 102 => some x102
  | 103 => some x103
  | 104 => some x104
  | _ => none
def names : Tb := ⟨fun n => match n with
  | 93 => some "is_name"
  | 95 => some "edge_fault"
  | 96 => some "joined_clusters"
  | 98 => some "in_order"
  | 5 => some "_law_cell"
  | 31 => some "_law_draw"
  | 32 => some "_law_parts"
  | 100 => some "_law_name"
  | 101 => some "_law_due"
  | 102 => some "_law_told"
  | 103 => some "_law_turned"
  | _ => none, [(("NODES" : Str), D.int 12), (("GREAT" : Str), D.int 999), (("LETTERS" : Str), D.int 8), (("SMALL" : Str), D.str "abcdefghijklmnopqrstuvwxyz"), (("FIGURES" : Str), D.str "0123456789")], fun n => match n with
  | _ => none, [], false, fun n => match n with
  | 94 => some "check_nodes"
  | 97 => some "check_edges"
  | 99 => some "tree"
  | _ => none, [("ShapeError", [("what" : Str), ("place" : Str)])], [("TreeError", [0])], true⟩
theorem sc93 : FnScope N93 [("text" : Str)] (defScope s93) := ⟨rfl, rfl, rfl, by decide +kernel, rfl, by decide +kernel, by decide +kernel⟩
theorem ck93 : chkSs { names with pins := [], gn := false } N93 (defScope s93) b93 (defBody s93) = true := by decide +kernel
theorem sc94 : FnScope N94 [("nodes" : Str)] (defScope s94) := ⟨rfl, rfl, rfl, by decide +kernel, rfl, by decide +kernel, by decide +kernel⟩
theorem ck94 : chkSs { names with pins := [], gn := false } N94 (defScope s94) b94 (defBody s94) = true := by decide +kernel
theorem sc95 : FnScope N95 [("clusters" : Str), ("edge" : Str)] (defScope s95) := ⟨rfl, rfl, rfl, by decide +kernel, rfl, by decide +kernel, by decide +kernel⟩
theorem ck95 : chkSs { names with pins := [], gn := false } N95 (defScope s95) b95 (defBody s95) = true := by decide +kernel
theorem sc96 : FnScope N96 [("clusters" : Str), ("first" : Str), ("second" : Str)] (defScope s96) := ⟨rfl, rfl, rfl, by decide +kernel, rfl, by decide +kernel, by decide +kernel⟩
theorem ck96 : chkSs { names with pins := [], gn := false } N96 (defScope s96) b96 (defBody s96) = true := by decide +kernel
theorem sc97 : FnScope N97 [("names" : Str), ("edges" : Str)] (defScope s97) := ⟨rfl, rfl, rfl, by decide +kernel, rfl, by decide +kernel, by decide +kernel⟩
theorem ck97 : chkSs { names with pins := [], gn := false } N97 (defScope s97) b97 (defBody s97) = true := by decide +kernel
theorem sc98 : FnScope N98 [("edges" : Str)] (defScope s98) := ⟨rfl, rfl, rfl, by decide +kernel, rfl, by decide +kernel, by decide +kernel⟩
theorem ck98 : chkSs { names with pins := [], gn := false } N98 (defScope s98) b98 (defBody s98) = true := by decide +kernel
theorem sc99 : FnScope N99 [("nodes" : Str), ("edges" : Str)] (defScope s99) := ⟨rfl, rfl, rfl, by decide +kernel, rfl, by decide +kernel, by decide +kernel⟩
theorem ck99 : chkSs { names with pins := [], gn := false } N99 (defScope s99) b99 (defBody s99) = true := by decide +kernel
theorem sc5 : FnScope N5 [("_law_script" : Str), ("_law_k" : Str)] (defScope s5) := ⟨rfl, rfl, rfl, by decide +kernel, rfl, by decide +kernel, by decide +kernel⟩
theorem ck5 : chkSs { names with pins := [], gn := false } N5 (defScope s5) b5 (defBody s5) = true := by decide +kernel
theorem sc31 : FnScope N31 [("_law_script" : Str), ("_law_k" : Str), ("_law_sizes" : Str)] (defScope s31) := ⟨rfl, rfl, rfl, by decide +kernel, rfl, by decide +kernel, by decide +kernel⟩
theorem ck31 : chkSs { names with pins := [], gn := false } N31 (defScope s31) b31 (defBody s31) = true := by decide +kernel
theorem sc32 : FnScope N32 [("_law_script" : Str), ("_law_k" : Str)] (defScope s32) := ⟨rfl, rfl, rfl, by decide +kernel, rfl, by decide +kernel, by decide +kernel⟩
theorem ck32 : chkSs { names with pins := [], gn := false } N32 (defScope s32) b32 (defBody s32) = true := by decide +kernel
theorem sc100 : FnScope N100 [("_law_word" : Str)] (defScope s100) := ⟨rfl, rfl, rfl, by decide +kernel, rfl, by decide +kernel, by decide +kernel⟩
theorem ck100 : chkSs { names with pins := [], gn := false } N100 (defScope s100) b100 (defBody s100) = true := by decide +kernel
theorem sc101 : FnScope N101 [("_law_nodes" : Str), ("_law_edges" : Str)] (defScope s101) := ⟨rfl, rfl, rfl, by decide +kernel, rfl, by decide +kernel, by decide +kernel⟩
theorem ck101 : chkSs { names with pins := [], gn := false } N101 (defScope s101) b101 (defBody s101) = true := by decide +kernel
theorem sc102 : FnScope N102 [("_law_nodes" : Str), ("_law_edges" : Str)] (defScope s102) := ⟨rfl, rfl, rfl, by decide +kernel, rfl, by decide +kernel, by decide +kernel⟩
theorem ck102 : chkSs { names with pins := [], gn := false } N102 (defScope s102) b102 (defBody s102) = true := by decide +kernel
theorem sc103 : FnScope N103 [("_law_rows" : Str), ("_law_digits" : Str)] (defScope s103) := ⟨rfl, rfl, rfl, by decide +kernel, rfl, by decide +kernel, by decide +kernel⟩
theorem ck103 : chkSs { names with pins := [], gn := false } N103 (defScope s103) b103 (defBody s103) = true := by decide +kernel
theorem sc104 : FnScope N104 [("_law_script" : Str)] (defScope s104) := ⟨rfl, rfl, rfl, by decide +kernel, rfl, by decide +kernel, by decide +kernel⟩
theorem ck104 : chkSs { names with pins := [], gn := false } N104 (defScope s104) b104 (defBody s104) = true := by decide +kernel
def clsBody (s : Stmt) : List Stmt := match s with
  | .ClassDef _ _ _ b _ _ _ _ _ _ _ => b
  | _ => []
abbrev sC0 : Stmt := (clsBody (topS 2)).getD 0 (.Pass ⟨0, 0, 0, 0⟩)
theorem xb0 : ∃ p0 p1 p2 p3 p4 p5 q1 q2 q3 q4 r1 r2 r3 r4 : Pos, defBody sC0 = [suF "what" p0 p1 p2 p3 p4 p5, stF "self" "what" "what" q1 q2 q3 q4, stF "self" "place" "place" r1 r2 r3 r4] ∧ ∀ (fI cc : Addr) (cdv : Value), EvSuper fI cc (defScope sC0) cdv "what" p0 p1 p2 p3 p4 := ⟨_, _, _, _, _, _, _, _, _, _, _, _, _, _, rfl, fun _ _ _ _ _ => ⟨_, rfl⟩⟩

end TsX
namespace TsX
open PySem L2 Ts Enc
/-! draws -/
def cellOf (ns : List Int) (k : Nat) : Int := ns.getD k 0
theorem r_cell (k : Nat) (ns : List Int) (j : Nat) : run tab (k + 1) 5 [.scr ns, .int j] = some (.sh (.int (cellOf ns j))) := by
  refine run_at (fx := x5) rfl rfl ?_
  by_cases h : j < ns.length
  · simp [x5, b5, q5_0, q5_1, startE, h, cellOf]
  · simp [x5, b5, q5_0, q5_1, startE, h, cellOf]
/-- drawn digits -/
def Digs (sizes ds : List Int) : Prop := ds.length = sizes.length ∧ ∀ (i : Nat) (h : i < ds.length) (h' : i < sizes.length), 0 ≤ ds[i] ∧ ds[i] < sizes[i]
theorem digs_snoc {sizes ds : List Int} {s d : Int} (h : Digs sizes ds) (h0 : 0 ≤ d) (h1 : d < s) : Digs (sizes ++ [s]) (ds ++ [d]) := by
  obtain ⟨hl, hd⟩ := h
  refine ⟨by simp [hl], fun i h h' => ?_⟩
  by_cases k : i < ds.length
  · rw [List.getElem_append_left k, List.getElem_append_left (by omega)]
    exact hd i k (by omega)
  · have : i = ds.length := by simp at h; omega
    subst this
    simp [hl, h0, h1]

theorem r_drawM (k : Nat) (ns : List Int) (j : Nat) (hj : j < 1000) (sizes : List Int) (hs : ∀ s ∈ sizes, 0 < s ∧ s < 1073741824) (hl : sizes.length < 1000) :
    ∃ ds : List Int, run tab (k + 2) 31 [.scr ns, .int j, .lst (sizes.map enc)] = some (.ow (.lst (ds.map enc))) ∧ Digs sizes ds := by
  have hc := r_cell k ns j
  have st0 : evS (run tab (k + 1)) q31_0 (startE x31 [.scr ns, .int j, .lst (sizes.map enc)]) = some (.nx [.sh (.scr ns), .sh (.int j), .sh (.lst (sizes.map enc)), .sh (.int (cellOf ns j)), .u, .u, .u, .u]) := by
    simp [q31_0, startE, x31, hc]
  have st1 : ∃ c : Int, 0 ≤ c ∧ evS (run tab (k + 1)) q31_1 [.sh (.scr ns), .sh (.int j), .sh (.lst (sizes.map enc)), .sh (.int (cellOf ns j)), .u, .u, .u, .u] = some (.nx [.sh (.scr ns), .sh (.int j), .sh (.lst (sizes.map enc)), .sh (.int c), .u, .u, .u, .u]) := by
    by_cases h : cellOf ns j < 0
    · exact ⟨-cellOf ns j, by omega, by simp [q31_1, h]⟩
    · exact ⟨cellOf ns j, by omega, by simp [q31_1, h]⟩
  obtain ⟨c, hc0, st1⟩ := st1
  have st2 : evS (run tab (k + 1)) q31_2 [.sh (.scr ns), .sh (.int j), .sh (.lst (sizes.map enc)), .sh (.int c), .u, .u, .u, .u] = some (.nx [.sh (.scr ns), .sh (.int j), .sh (.lst (sizes.map enc)), .sh (.int c), .ow (.lst []), .u, .u, .u]) := by
    simp [q31_2, bigLine]
  have len : ∀ {pre post : List Int} {a : Int}, sizes = pre ++ a :: post → ∀ {ds : List Int}, Digs pre ds → ds.length < bigLine := by
    intro pre post a hp ds hd
    have := hd.1
    have := congrArg List.length hp
    simp only [List.length_append, List.length_cons] at this
    simp only [bigLine]
    omega
  by_cases hb : 1000000000000000000 ≤ c
  · obtain ⟨e', h1, ds, c', h2, h3, h4⟩ := forD_inv (f := enc) (fun (pre : List Int) (e : En) => ∃ (ds : List Int) (c : Int), e = [.sh (.scr ns), .sh (.int j), .sh (.lst (sizes.map enc)), .sh (.int c), .ow (.lst (ds.map enc)), .u, .u, .u] ∧ 0 ≤ c ∧ Digs pre ds) (l := sizes)
        (step := forT (run tab (k + 1)) (.v 5) l31_0 [5])
        (e0 := [.sh (.scr ns), .sh (.int j), .sh (.lst (sizes.map enc)), .sh (.int (c - 1000000000000000000)), .ow (.lst []), .u, .u, .u])
        ⟨[], c - 1000000000000000000, rfl, by omega, rfl, fun i h => absurd h (Nat.not_lt_zero _)⟩
        (by
          rintro pre a post e hp ⟨ds, c, rfl, hc0, hd⟩
          obtain ⟨ha, ha'⟩ := hs a (by rw [hp]; simp)
          have hm := len hp hd
          have ha2 : a.natAbs < divLine := by simp only [divLine]; omega
          refine ⟨_, .inl ?_, ds ++ [c % a], c / a, rfl, Int.ediv_nonneg hc0 (by omega), digs_snoc hd (Int.emod_nonneg _ (by omega)) (Int.emod_lt_of_pos _ ha)⟩
          simp [forT, l31_0, q31_4, q31_5, ha, ha2, hm])
    subst h2
    refine ⟨ds, run_at (fx := x31) rfl rfl (go_nx st0 (go_nx st1 (go_nx st2 (go_rt ?_)))), h4⟩
    simp [q31_3, hb, h1]
  · have st3 : evS (run tab (k + 1)) q31_3 [.sh (.scr ns), .sh (.int j), .sh (.lst (sizes.map enc)), .sh (.int c), .ow (.lst []), .u, .u, .u] = some (.nx [.sh (.scr ns), .sh (.int j), .sh (.lst (sizes.map enc)), .sh (.int c), .ow (.lst []), .u, .u, .u]) := by
      simp [q31_3, hb]
    have st4 : evS (run tab (k + 1)) q31_6 [.sh (.scr ns), .sh (.int j), .sh (.lst (sizes.map enc)), .sh (.int c), .ow (.lst []), .u, .u, .u] = some (.nx [.sh (.scr ns), .sh (.int j), .sh (.lst (sizes.map enc)), .sh (.int c), .ow (.lst []), .u, .sh (.int ((c + 1 + 31 * j) % 2147483647)), .u]) := by
      simp [q31_6, mulLine]
    obtain ⟨e', h1, ds, c', h2, h3, h4⟩ := forD_rinv (fun (i : Nat) (e : En) => ∃ (ds : List Int) (t : Int), e = [.sh (.scr ns), .sh (.int j), .sh (.lst (sizes.map enc)), .sh (.int c), .ow (.lst (ds.map enc)), .u, .sh (.int t), .u] ∧ 0 ≤ t ∧ Digs (sizes.take i) ds) (n := sizes.length)
        (step := forT (run tab (k + 1)) (.v 7) l31_1 [7])
        (e0 := [.sh (.scr ns), .sh (.int j), .sh (.lst (sizes.map enc)), .sh (.int c), .ow (.lst []), .u, .sh (.int ((c + 1 + 31 * j) % 2147483647)), .u])
        ⟨[], _, rfl, Int.emod_nonneg _ (by omega), rfl, fun i h => absurd h (Nat.not_lt_zero _)⟩
        (by
          rintro i e hi ⟨ds, t, rfl, ht, hd⟩
          obtain ⟨ha, ha'⟩ := hs sizes[i] (List.getElem_mem hi)
          have hm := len (post := sizes.drop (i + 1)) (a := sizes[i]) (by rw [List.getElem_cons_drop, List.take_append_drop]) hd
          refine ⟨_, .inl ?_, ds ++ [((((t * 48271 + 11 + i) % 2147483647) * 69621 + 3) % 2147483647) / 7 % sizes[i]], (((t * 48271 + 11 + i) % 2147483647) * 69621 + 3) % 2147483647, rfl, Int.emod_nonneg _ (by omega), ?_⟩
          · simp [forT, l31_1, q31_8, q31_9, q31_10, ha, hm, hi, mulLine, divLine]
          · rw [← List.take_append_getElem hi]
            exact digs_snoc hd (Int.emod_nonneg _ (by omega)) (Int.emod_lt_of_pos _ ha))
    subst h2
    rw [List.take_length] at h4
    refine ⟨ds, run_at (fx := x31) rfl rfl (go_nx st0 (go_nx st1 (go_nx st2 (go_nx st3 (go_nx st4 (go_nx (go_for (l := (List.range sizes.length).map fun (k : Nat) => D.int k) ?_ h1) (go_rt ?_))))))), h4⟩
    · have : sizes.length < rngLine := by simp only [rngLine]; omega
      simp [this]
    · simp [q31_11]

theorem sub_length {α : Type} [DecidableEq α] : ∀ (l m : List α), l.Nodup → (∀ x ∈ l, x ∈ m) → l.length ≤ m.length
  | [], _, _, _ => Nat.zero_le _
  | a :: l, m, h, s => by
    rw [List.nodup_cons] at h
    have := sub_length l (m.erase a) h.2 fun x hx => (List.mem_erase_of_ne (fun e : x = a => h.1 (e ▸ hx))).mpr (s x (List.mem_cons_of_mem _ hx))
    rw [List.length_erase_of_mem (s a (List.mem_cons_self ..))] at this
    have : 0 < m.length := List.length_pos_of_mem (s a (List.mem_cons_self ..))
    simp only [List.length_cons]
    omega

theorem cutD_map {α β : Type} (f : α → β) (l : List α) (lo hi : Option Int) : cutD (l.map f) lo hi = (cutD l lo hi).map f := by
  simp [cutD, List.map_drop, List.map_take]

theorem strs_enc (l : List Nm) : D.strs? (l.map enc) = some (l.map (·.s)) := by
  induction l with
  | nil => rfl
  | cons a l ih =>
    show (D.strs? (l.map enc)).bind (fun m => some (a.s :: m)) = _
    rw [ih]
    rfl

/-! trees -/
theorem sortE_two (x y : Nm) : sortE [x, y] = [minN x y, maxN x y] := by
  have key : ∀ a b : Nm, leE a b = true → sortE [a, b] = [a, b] := fun a b h => sortE_id (by simp [h])
  cases h : ltE y x with
  | true =>
    have h' := ltE_asymm h
    have h2 : leE y x = true := by simp [leE, h']
    rw [sortE_eq (List.Perm.swap y x []), key y x h2]
    simp [minN, maxN, h, h']
  | false =>
    have h2 : leE x y = true := by simp [leE, h]
    rw [key x y h2]
    simp only [minN, maxN, h, Bool.false_eq_true, if_false]
    cases h3 : ltE x y with
    | true => simp
    | false => simp [ltE_total h3 h]
abbrev Edge := T3 Nm Nm Int
abbrev Node := Nm × Int
def mkE (x y : Nm) (c : Int) : Edge := ⟨minN x y, maxN x y, c⟩
/-- a tree, leaf by leaf -/
inductive TreeG : List Node → List Edge → Prop
  | one (x : Nm) (w : Int) : TreeG [(x, w)] []
  | leaf {ns : List Node} {es : List Edge} {x y : Nm} {w c : Int} : TreeG ns es → x ∈ ns.map (·.1) → y ∉ ns.map (·.1) → TreeG (ns ++ [(y, w)]) (es ++ [mkE y x c])
def Tame (ns : List Node) (es : List Edge) : Prop := (∀ p ∈ ns, 0 ≤ p.2 ∧ p.2 ≤ 1000) ∧ ∀ e ∈ es, 1 ≤ e.c ∧ e.c ≤ 1000
/-- the tree as it stands: ordered -/
structure Tree where
  ns : List Node
  es : List Edge
def Tree.d (t : Tree) : D := .tup [.tup (t.ns.map enc), .tup (t.es.map enc)]
structure IsTree (t : Tree) (most : Nat) : Prop where
  ex : ∃ ns es, TreeG ns es ∧ Tame ns es ∧ ns.length ≤ most ∧ es.length + 1 = ns.length ∧ t.ns = sortE ns ∧ t.es = sortE es

/-! walks and their lengths -/
def dtE (l : List Edge) : D := .dt (l.map fun e => ([(Sum.inr e.a.s : Key), .inr e.b.s], D.int e.c))
theorem key2 {a b c d : Nm} : ([(Sum.inr a.s : Key), .inr b.s] : List Key) = [.inr c.s, .inr d.s] ↔ (a, b) = (c, d) := by
  constructor
  · intro h
    injection h with h1 h2
    injection h2 with h2 _
    rw [Nm.ext (Sum.inr.inj h1), Nm.ext (Sum.inr.inj h2)]
  · intro h
    cases h
    rfl
theorem ix_dtE {a b : Nm} {l : List Edge} : ixV (dtE l) (.tup [enc a, enc b]) = (l.find? fun e => decide ((e.a, e.b) = (a, b))).map fun e => D.int e.c := by
  have hk : D.keyL? [(enc a : D), enc b] = some [.inr a.s, .inr b.s] := rfl
  show (D.keyL? [(enc a : D), enc b]).bind (fun k => valD (l.map fun e => ([(Sum.inr e.a.s : Key), .inr e.b.s], D.int e.c)) k) = _
  rw [hk, Option.bind_some]
  induction l with
  | nil => rfl
  | cons e l ih =>
    by_cases h : (e.a, e.b) = (a, b)
    · have h' : ([(Sum.inr e.a.s : Key), .inr e.b.s] : List Key) = [.inr a.s, .inr b.s] := key2.mpr h
      simp only [valD, List.map_cons, List.find?_cons, decide_eq_true h', decide_eq_true h, Option.map_some]
    · have h' : ¬ ([(Sum.inr e.a.s : Key), .inr e.b.s] : List Key) = [.inr a.s, .inr b.s] := fun q => h (key2.mp q)
      simp only [valD, List.map_cons, List.find?_cons, decide_eq_false h', decide_eq_false h] at ih ⊢
      exact ih
theorem in_dtE {a b : Nm} {l : List Edge} : Ts.inV (.tup [enc a, enc b]) (dtE l) = some (ixV (dtE l) (.tup [enc a, enc b])).isSome := rfl
theorem put_dtE {env : En} {i : Nat} {l : List Edge} {a b : Nm} {c : Int} (h : env[i]? = some (Sl.ow (dtE l))) (hl : l.length < bigLine) (hn : (a, b) ∉ l.map fun e => (e.a, e.b)) : putV i (.tup [enc a, enc b]) (.int c) env = some (env.set i (.ow (dtE (l ++ [⟨a, b, c⟩])))) := by
  have h' : env[i]? = some (Sl.ow (.dt (l.map fun e => ([(Sum.inr e.a.s : Key), .inr e.b.s], D.int e.c)))) := h
  have hk : D.keyL? [(enc a : D), enc b] = some [.inr a.s, .inr b.s] := rfl
  have hp : putD (l.map fun e => ([(Sum.inr e.a.s : Key), .inr e.b.s], D.int e.c)) [.inr a.s, .inr b.s] (.int c) = (l ++ [(⟨a, b, c⟩ : Edge)]).map fun e => ([(Sum.inr e.a.s : Key), .inr e.b.s], D.int e.c) := by
    unfold putD
    rw [if_neg]
    · rw [List.map_append]; rfl
    · rw [List.any_eq_true]
      rintro ⟨kv, hm, e⟩
      obtain ⟨p, hp, rfl⟩ := List.mem_map.mp hm
      have := key2.mp (of_decide_eq_true e)
      exact hn (this ▸ List.mem_map.mpr ⟨p, hp, rfl⟩)
  simp only [putV, h', hk, Option.bind_some, List.length_map, hl, if_true, hp]
  rfl

/-- a loop that may go out -/
theorem forD_try {α : Type} {f : α → D} (bad : α → Prop) (v : Nv) (P : List α → En → Prop) {step : D → En → Option Out} {l : List α} {e0 : En} (h0 : P [] e0)
    (hg : ∀ pre a post e, l = pre ++ a :: post → P pre e → ¬ bad a → ∃ e', (step (f a) e = some (.nx e') ∨ step (f a) e = some (.ct e')) ∧ P (pre ++ [a]) e')
    (hb : ∀ pre a post e, l = pre ++ a :: post → P pre e → bad a → step (f a) e = some (.rt v)) :
    (¬ (∃ a ∈ l, bad a) → ∃ e', forD step (l.map f) e0 = some (.nx e') ∧ P l e') ∧ ((∃ a ∈ l, bad a) → forD step (l.map f) e0 = some (.rt v)) := by
  have : ∀ (post pre : List α) (e : En), l = pre ++ post → P pre e → (¬ (∃ a ∈ post, bad a) → ∃ e', forD step (post.map f) e = some (.nx e') ∧ P l e') ∧ ((∃ a ∈ post, bad a) → forD step (post.map f) e = some (.rt v)) := by
    intro post
    induction post with
    | nil => intro pre e q p; exact ⟨fun _ => ⟨e, rfl, by rw [q, List.append_nil]; exact p⟩, fun ⟨a, ha, _⟩ => by cases ha⟩
    | cons a post ih =>
      intro pre e q p
      by_cases hba : bad a
      · have h := hb pre a post e q p hba
        exact ⟨fun hn => absurd ⟨a, List.mem_cons_self .., hba⟩ hn, fun _ => by simp only [List.map_cons, forD, h, Option.bind_some]⟩
      · obtain ⟨e', h, p'⟩ := hg pre a post e q p hba
        obtain ⟨i1, i2⟩ := ih (pre ++ [a]) e' (by rw [q]; simp) p'
        have go : forD step ((a :: post).map f) e = forD step (post.map f) e' := by
          cases h with
          | inl h => simp only [List.map_cons, forD, h, Option.bind_some]
          | inr h => simp only [List.map_cons, forD, h, Option.bind_some]
        rw [go]
        refine ⟨fun hn => i1 fun ⟨c, hc, hcb⟩ => hn ⟨c, List.mem_cons_of_mem _ hc, hcb⟩, fun ⟨c, hc, hcb⟩ => i2 ?_⟩
        rcases List.mem_cons.mp hc with e | hc
        · exact absurd (e ▸ hcb) hba
        · exact ⟨c, hc, hcb⟩
  exact this l [] e0 rfl h0

/-! names: by the program, by the law -/
def smS : Str := "abcdefghijklmnopqrstuvwxyz"
def fgS : Str := "0123456789"
/-- a name: one to eight signs, the first one a letter -/
def nameB (s : Str) : Bool := decide (1 ≤ s.length) && decide (s.length ≤ 8) && smS.cps.toList.contains (s.cps.toList.headD 0) && s.cps.toList.all fun c => (smS ++ fgS).cps.toList.contains c
theorem ev_c2 {R : Ts.Run} {env : En} {op op' : CmpOp} {a b c : Ex} : evE R (.cmp2 op op' a b c) env = (evE R a env).bind fun p => (evE R b p.2).bind fun q => (p.1.get q.2).bind fun x => (q.1.get q.2).bind fun y => (cmpV op x y).bind fun r =>
    if r = true then (evE R c q.2).bind fun t => (t.1.get t.2).bind fun z => (q.1.get t.2).bind fun y' => (cmpV op' y' z).bind fun r' => some (.sh (.bl r'), t.2) else some (.sh (.bl false), q.2) := by simp only [evE]
theorem in_sign (c : Nat) (s : Str) : Ts.inV (.str ⟨#[c]⟩) (.str s) = some (s.cps.toList.contains c) := rfl
theorem add_sf : binV .Add (.str smS) (.str fgS) = some (.sh (.str (smS ++ fgS))) := by
  show (if smS.length + fgS.length ≤ bigLine then some (Nv.sh (.str (smS ++ fgS))) else none) = _
  rw [if_pos (by decide +kernel)]
theorem str_at0 {s : Str} (h : s.length ≤ bigLine) (h1 : 1 ≤ s.length) : ixV (.str s) (.int 0) = some (.str ⟨#[s.cps.toList.headD 0]⟩) := by
  show (if s.length ≤ bigLine then (atI s.cps.toList 0).map fun c => D.str ⟨#[c]⟩ else none) = _
  rw [if_pos h, atI_zero]
  have : s.cps.toList ≠ [] := fun e => by
    have : s.cps.toList.length = 0 := by rw [e]; rfl
    rw [Array.length_toList] at this
    have h2 : s.length = s.cps.size := rfl
    omega
  cases hs : s.cps.toList with
  | nil => exact absurd hs this
  | cons a l => rfl
theorem len_str {s : Str} (h : s.length ≤ bigLine) : biV .len [.str s] = some (.sh (.int s.length)) := if_pos h
theorem r_isname93 (k : Nat) (x : Nm) (hl : x.s.length ≤ 1000) : run tab (k + 1) 93 [enc x] = some (.sh (.bl (nameB x.s))) := by
  have hb : x.s.length ≤ bigLine := by simp only [bigLine]; omega
  have hlen := len_str hb
  have hsm : (("abcdefghijklmnopqrstuvwxyz" : Str)) = smS := rfl
  have hfg : (("0123456789" : Str)) = fgS := rfl
  have hadd := add_sf
  have hst : startE x93 [enc x] = [.sh (.str x.s), .u] := rfl
  refine run_at (fx := x93) rfl rfl ?_
  rw [hst]
  have hc : evE (run tab k) c93_0 [.sh (.str x.s), .u] = some (.ow (.lst (x.s.cps.toList.map fun c => D.bl ((smS ++ fgS).cps.toList.contains c))), [.sh (.str x.s), .u]) := by
    have hsz : x.s.cps.toList.length ≤ 1000 := by rw [Array.length_toList]; exact hl
    generalize x.s = s at *
    refine lc_of (l := s.cps.toList.map fun c => D.str ⟨#[c]⟩) (by simp) (lcD_each (g := fun c => D.bl ((smS ++ fgS).cps.toList.contains c)) fun c _ => ?_) (by rw [List.length_map]; simp only [bigLine]; omega) (.inl rfl)
    have hin := in_sign c (smS ++ fgS)
    rw [hsm, hfg]
    generalize smS ++ fgS = sf at hadd hin ⊢
    generalize (⟨#[c]⟩ : Str) = cs at hin ⊢
    simp [lcStp, hide, hadd, hin]
  have h0 := fun h1 => str_at0 hb h1
  have hb1 : ∀ l : List Bool, D.bls? (l.map D.bl) = some l := fun l => by
    induction l with
    | nil => rfl
    | cons a l ih => simp only [List.map_cons, D.bls?, ih, Option.bind_some]
  have hall : biV .all [.lst (x.s.cps.toList.map fun c => D.bl ((smS ++ fgS).cps.toList.contains c))] = some (.sh (.bl (x.s.cps.toList.all fun c => (smS ++ fgS).cps.toList.contains c))) := by
    show (D.bls? _).bind _ = _
    have := hb1 (x.s.cps.toList.map fun c => (smS ++ fgS).cps.toList.contains c)
    rw [List.map_map] at this
    rw [show (x.s.cps.toList.map fun c => D.bl ((smS ++ fgS).cps.toList.contains c)) = x.s.cps.toList.map (D.bl ∘ fun c => (smS ++ fgS).cps.toList.contains c) from rfl, this, Option.bind_some, List.all_map]
    rfl
  have hin0 := in_sign (x.s.cps.toList.headD 0) smS
  unfold nameB
  generalize hs : x.s = s at *
  generalize s.cps.toList.map (fun c => D.bl ((smS ++ fgS).cps.toList.contains c)) = BL at hc hall
  generalize (s.cps.toList.all fun c => (smS ++ fgS).cps.toList.contains c) = AL at hall ⊢
  generalize (⟨#[s.cps.toList.headD 0]⟩ : Str) = s0 at h0 hin0
  generalize smS.cps.toList.contains (s.cps.toList.headD 0) = FI at hin0 ⊢
  have e1 : evSs (run tab k) (.cons q93_1 .nil) [.sh (.str s), .u] = some (.rt (.sh (.bl AL))) := go_rt (by simp [q93_1, hc, hall])
  by_cases h1 : 1 ≤ s.length
  · by_cases h2 : s.length ≤ 8
    · have h0' := h0 h1
      have g1 : (1 : Int) ≤ (s.length : Int) := by omega
      have g2 : (s.length : Int) ≤ 8 := by omega
      generalize (s.length : Int) = n at hlen g1 g2
      cases FI with
      | true =>
        have e0 : evS (run tab k) q93_0 [.sh (.str s), .u] = some (.nx [.sh (.str s), .u]) := by
          simp only [q93_0, hsm]
          simp [ev_c2, hlen, h0', hin0, g1, g2]
        rw [decide_eq_true h1, decide_eq_true h2]
        exact go_nx e0 e1
      | false =>
        have e0 : evS (run tab k) q93_0 [.sh (.str s), .u] = some (.rt (.sh (.bl false))) := by
          simp only [q93_0, hsm]
          simp [ev_c2, hlen, h0', hin0, g1, g2]
        rw [Bool.and_false, Bool.false_and]
        exact go_rt e0
    · have g1 : (1 : Int) ≤ (s.length : Int) := by omega
      have g2 : ¬ (s.length : Int) ≤ 8 := by omega
      generalize (s.length : Int) = n at hlen g1 g2
      have e0 : evS (run tab k) q93_0 [.sh (.str s), .u] = some (.rt (.sh (.bl false))) := by
        simp only [q93_0, hsm]
        simp [ev_c2, hlen, g1, g2]
      rw [decide_eq_false h2, Bool.and_false, Bool.false_and, Bool.false_and]
      exact go_rt e0
  · have g1 : ¬ (1 : Int) ≤ (s.length : Int) := by omega
    generalize (s.length : Int) = n at hlen g1
    have e0 : evS (run tab k) q93_0 [.sh (.str s), .u] = some (.rt (.sh (.bl false))) := by
      simp only [q93_0, hsm]
      simp [ev_c2, hlen, g1]
    rw [decide_eq_false h1, Bool.false_and, Bool.false_and, Bool.false_and]
    exact go_rt e0

/-! nodes: the first fault -/
theorem run_end {tab : Tab} {k f : Nat} {ds : List D} {fx : Fx} (h : tab f = some fx) (hl : ds.length = fx.np) {env : En} (e : (evSs (run tab k) fx.body (startE fx ds)) = some (.nx env)) (h0 : fx.mp = 0 := by rfl) : run tab (k + 1) f ds = some (.sh .non) := by
  simp [Ts.run, h, runF, hl, e, h0]
theorem go_rx {R : Ts.Run} {s : Ts.St} {ss : Sts} {env env' : En} {c : Nat} {fs : List D} (h : evS R s env = some (.rx env' c fs)) : evSs R (.cons s ss) env = some (.rx env' c fs) := by
  rw [evSs_cons, h]; rfl
def faultN (seen : List Nm) (p : Nm × Int) : Option Str :=
  if nameB p.1.s = true then if p.1 ∈ seen then some (Str.ofString "named twice") else if p.2 < 0 ∨ 999 < p.2 then some (Str.ofString "wrong weight") else none
  else some (Str.ofString "wrong name")
def fstN : List (Nm × Int) → List (Nm × Int) → Option (Str × Nat)
  | _, [] => none
  | pre, p :: l => match faultN (pre.map (·.1)) p with
    | some w => some (w, pre.length)
    | none => fstN (pre ++ [p]) l
def resN (N : List (Nm × Int)) : Option (Str × Int) := match fstN [] N with
  | some (w, j) => some (w, (j : Nat))
  | none => if 1 ≤ N.length ∧ N.length ≤ 12 then none else some (Str.ofString "wrong number of nodes", (N.length : Int))
theorem faultN_none {seen : List Nm} {p : Nm × Int} (h : faultN seen p = none) : p.1 ∉ seen := by
  unfold faultN at h
  split at h
  · split at h
    · cases h
    · assumption
  · cases h
theorem fstN_nodup : ∀ {rest pre : List (Nm × Int)}, (pre.map (·.1)).Nodup → fstN pre rest = none → ((pre ++ rest).map (·.1)).Nodup
  | [], pre, h, _ => by rw [List.append_nil]; exact h
  | p :: l, pre, h, hf => by
    unfold fstN at hf
    split at hf
    · cases hf
    · rename_i h1
      have h2 := faultN_none h1
      have := fstN_nodup (pre := pre ++ [p]) (by
        rw [List.map_append, List.nodup_append]
        refine ⟨h, by simp, fun a ha b hb e => ?_⟩
        simp only [List.map_cons, List.map_nil, List.mem_singleton] at hb
        exact h2 (hb ▸ e ▸ ha)) hf
      simpa using this
theorem resN_none {N : List (Nm × Int)} (h : resN N = none) : (N.map (·.1)).Nodup ∧ 1 ≤ N.length ∧ N.length ≤ 12 := by
  unfold resN at h
  split at h
  · cases h
  · rename_i h1
    split at h
    · rename_i h2
      exact ⟨by have := fstN_nodup (pre := []) List.nodup_nil h1; simpa using this, h2⟩
    · cases h
/-- indices from i on -/
def idxA {α : Type} : Nat → List α → List D
  | _, [] => []
  | i, _ :: l => .int (i : Nat) :: idxA (i + 1) l
theorem idxA_at {α : Type} : ∀ (l : List α) (i j : Nat), (idxA i l)[j]? = (l[j]?).map fun _ => D.int ((i + j : Nat) : Int)
  | [], i, j => by simp [idxA]
  | e :: l, i, 0 => by simp [idxA]
  | e :: l, i, j + 1 => by
    rw [idxA, List.getElem?_cons_succ, List.getElem?_cons_succ, idxA_at l (i + 1) j]
    have : i + 1 + j = i + (j + 1) := by omega
    rw [this]
theorem idxA_range {α : Type} (l : List α) : ((List.range l.length).map fun (k : Nat) => D.int k) = idxA 0 l := by
  apply List.ext_getElem?
  intro j
  rw [idxA_at, List.getElem?_map]
  by_cases h : j < l.length
  · rw [List.getElem?_range h, List.getElem?_eq_getElem h]
    simp
  · rw [List.getElem?_eq_none (l := List.range l.length) (by rw [List.length_range]; omega), List.getElem?_eq_none (l := l) (by omega)]
    rfl
def ShortN (N : List (Nm × Int)) : Prop := ∀ p ∈ N, p.1.s.length ≤ 1000
theorem loop94 (k : Nat) (N : List (Nm × Int)) : ∀ (rest pre : List (Nm × Int)), N = pre ++ rest → ShortN rest → pre.length + rest.length ≤ 1000 →
    ∃ out, forD (forT (run tab (k + 1)) (.v 2) l94_0 [2, 3, 4]) (idxA pre.length rest) [.sh (.lst (N.map enc)), .ow (.lst ((pre.map (·.1)).map enc)), .u, .u, .u] = some out ∧
      match fstN pre rest with
      | some (w, j) => ∃ env, out = .rx env 0 [.str w, .int (j : Nat)]
      | none => out = .nx [.sh (.lst (N.map enc)), .ow (.lst (((pre ++ rest).map (·.1)).map enc)), .u, .u, .u]
  | [], pre, hP, hs, hl => ⟨_, rfl, by simp [fstN]⟩
  | p :: rest, pre, hP, hs, hl => by
    have n1 := r_isname93 k p.1 (hs p (List.mem_cons_self ..))
    have hat : ixV (.lst (N.map (enc : Nm × Int → D))) (.int (pre.length : Nat)) = some (.tup [enc p.1, .int p.2]) := by
      show atI _ _ = _
      rw [atI_cast, List.getElem?_map, hP]
      simp
      rfl
    unfold idxA fstN
    generalize hPL : D.lst (N.map (enc : Nm × Int → D)) = PD at *
    generalize hpl : ((pre.length : Nat) : Int) = pl at hat
    have hpre : ((pre.map (·.1)).map (enc : Nm → D)).length < bigLine := by simp only [List.length_map, bigLine]; omega
    have e2 : evS (run tab (k + 1)) q94_2 [.sh PD, .ow (.lst ((pre.map (·.1)).map enc)), .sh (.int pl), .u, .u] = some (.nx [.sh PD, .ow (.lst ((pre.map (·.1)).map enc)), .sh (.int pl), .sh (enc p.1), .sh (.int p.2)]) := by
      generalize (pre.map (·.1)).map (enc : Nm → D) = SD
      simp [q94_2, hat]
    have fin : ∀ env fs, evSs (run tab (k + 1)) l94_0 [.sh PD, .ow (.lst ((pre.map (·.1)).map enc)), .sh (.int pl), .u, .u] = some (.rx env 0 fs) → forD (forT (run tab (k + 1)) (.v 2) l94_0 [2, 3, 4]) (.int pl :: idxA (pre.length + 1) rest) [.sh PD, .ow (.lst ((pre.map (·.1)).map enc)), .u, .u, .u] = some (.rx env 0 fs) := fun env fs hv => by
      have st : forT (run tab (k + 1)) (.v 2) l94_0 [2, 3, 4] (.int pl) [.sh PD, .ow (.lst ((pre.map (·.1)).map enc)), .u, .u, .u] = some (.rx env 0 fs) := forT_of (e1 := [.sh PD, .ow (.lst ((pre.map (·.1)).map enc)), .sh (.int pl), .u, .u]) rfl hv
      rw [forD, st]; rfl
    by_cases hn : nameB p.1.s = true
    · have e3 : evS (run tab (k + 1)) q94_3 [.sh PD, .ow (.lst ((pre.map (·.1)).map enc)), .sh (.int pl), .sh (enc p.1), .sh (.int p.2)] = some (.nx [.sh PD, .ow (.lst ((pre.map (·.1)).map enc)), .sh (.int pl), .sh (enc p.1), .sh (.int p.2)]) := by
        rw [hn] at n1
        generalize (pre.map (·.1)).map (enc : Nm → D) = SD
        simp [q94_3, n1]
      by_cases hm : p.1 ∈ pre.map (·.1)
      · have hf : faultN (pre.map (·.1)) p = some (Str.ofString "named twice") := by rw [faultN, if_pos hn, if_pos hm]
        rw [hf]
        have hin : Ts.inV (enc p.1) (.lst ((pre.map (·.1)).map (enc : Nm → D))) = some true := by rw [in_nm, decide_eq_true hm]
        have e4 : evS (run tab (k + 1)) q94_4 [.sh PD, .ow (.lst ((pre.map (·.1)).map enc)), .sh (.int pl), .sh (enc p.1), .sh (.int p.2)] = some (.rx [.sh PD, .ow (.lst ((pre.map (·.1)).map enc)), .sh (.int pl), .sh (enc p.1), .sh (.int p.2)] 0 [.str (Str.ofString "named twice"), .int pl]) := by
          generalize (pre.map (·.1)).map (enc : Nm → D) = SD at hin ⊢
          simp [q94_4, hin]
        exact ⟨_, fin _ _ (go_nx e2 (go_nx e3 (go_rx e4))), by rw [← hpl]; exact ⟨_, rfl⟩⟩
      · have hin : Ts.inV (enc p.1) (.lst ((pre.map (·.1)).map (enc : Nm → D))) = some false := by rw [in_nm, decide_eq_false hm]
        have e4 : evS (run tab (k + 1)) q94_4 [.sh PD, .ow (.lst ((pre.map (·.1)).map enc)), .sh (.int pl), .sh (enc p.1), .sh (.int p.2)] = some (.nx [.sh PD, .ow (.lst ((pre.map (·.1)).map enc)), .sh (.int pl), .sh (enc p.1), .sh (.int p.2)]) := by
          generalize (pre.map (·.1)).map (enc : Nm → D) = SD at hin ⊢
          simp [q94_4, hin]
        by_cases hw : p.2 < 0 ∨ 999 < p.2
        · have hf : faultN (pre.map (·.1)) p = some (Str.ofString "wrong weight") := by rw [faultN, if_pos hn, if_neg hm, if_pos hw]
          rw [hf]
          have e5 : evS (run tab (k + 1)) q94_5 [.sh PD, .ow (.lst ((pre.map (·.1)).map enc)), .sh (.int pl), .sh (enc p.1), .sh (.int p.2)] = some (.rx [.sh PD, .ow (.lst ((pre.map (·.1)).map enc)), .sh (.int pl), .sh (enc p.1), .sh (.int p.2)] 0 [.str (Str.ofString "wrong weight"), .int pl]) := by
            generalize (pre.map (·.1)).map (enc : Nm → D) = SD
            by_cases g1 : p.2 < 0
            · simp [q94_5, g1]
            · have g2 : 999 < p.2 := hw.resolve_left g1
              simp [q94_5, g1, g2]
          exact ⟨_, fin _ _ (go_nx e2 (go_nx e3 (go_nx e4 (go_rx e5)))), by rw [← hpl]; exact ⟨_, rfl⟩⟩
        · have hf : faultN (pre.map (·.1)) p = none := by rw [faultN, if_pos hn, if_neg hm, if_neg hw]
          rw [hf]
          have e5 : evS (run tab (k + 1)) q94_5 [.sh PD, .ow (.lst ((pre.map (·.1)).map enc)), .sh (.int pl), .sh (enc p.1), .sh (.int p.2)] = some (.nx [.sh PD, .ow (.lst ((pre.map (·.1)).map enc)), .sh (.int pl), .sh (enc p.1), .sh (.int p.2)]) := by
            have g1 : ¬ p.2 < 0 := fun z => hw (.inl z)
            have g2 : ¬ 999 < p.2 := fun z => hw (.inr z)
            generalize (pre.map (·.1)).map (enc : Nm → D) = SD
            simp [q94_5, g1, g2]
          have e6 : evS (run tab (k + 1)) q94_6 [.sh PD, .ow (.lst ((pre.map (·.1)).map enc)), .sh (.int pl), .sh (enc p.1), .sh (.int p.2)] = some (.nx [.sh PD, .ow (.lst (((pre ++ [p]).map (·.1)).map enc)), .sh (.int pl), .sh (enc p.1), .sh (.int p.2)]) := by
            rw [List.map_append, List.map_append, show List.map (enc : Nm → D) (List.map (·.1) [p]) = [enc p.1] from rfl]
            generalize (pre.map (·.1)).map (enc : Nm → D) = SD at hpre ⊢
            simp [q94_6, hpre]
          have st : forT (run tab (k + 1)) (.v 2) l94_0 [2, 3, 4] (.int pl) [.sh PD, .ow (.lst ((pre.map (·.1)).map enc)), .u, .u, .u] = some (.nx [.sh PD, .ow (.lst (((pre ++ [p]).map (·.1)).map enc)), .u, .u, .u]) :=
            Eq.trans (forT_nx (e1 := [.sh PD, .ow (.lst ((pre.map (·.1)).map enc)), .sh (.int pl), .u, .u]) rfl (go_nx e2 (go_nx e3 (go_nx e4 (go_nx e5 (go_nx e6 rfl)))))) rfl
          obtain ⟨out, ho, hm⟩ := loop94 k N rest (pre ++ [p]) (by rw [hP]; simp) (fun f hf => hs f (List.mem_cons_of_mem _ hf)) (by simp only [List.length_append, List.length_cons, List.length_nil] at hl ⊢; omega)
          refine ⟨out, ?_, ?_⟩
          · rw [forD, st, Option.bind_some]
            rw [List.length_append, List.length_singleton, hPL] at ho
            exact ho
          · rw [hPL] at hm
            show (match fstN (pre ++ [p]) rest with | some (w, j) => _ | none => _)
            cases hz : fstN (pre ++ [p]) rest with
            | some q => rw [hz] at hm; exact hm
            | none => rw [hz] at hm; rw [hm]; simp
    · have hf : faultN (pre.map (·.1)) p = some (Str.ofString "wrong name") := by rw [faultN, if_neg hn]
      rw [hf]
      have e3 : evS (run tab (k + 1)) q94_3 [.sh PD, .ow (.lst ((pre.map (·.1)).map enc)), .sh (.int pl), .sh (enc p.1), .sh (.int p.2)] = some (.rx [.sh PD, .ow (.lst ((pre.map (·.1)).map enc)), .sh (.int pl), .sh (enc p.1), .sh (.int p.2)] 0 [.str (Str.ofString "wrong name"), .int pl]) := by
        rw [Bool.not_eq_true] at hn
        rw [hn] at n1
        generalize (pre.map (·.1)).map (enc : Nm → D) = SD
        simp [q94_3, n1]
      exact ⟨_, fin _ _ (go_nx e2 (go_rx e3)), by rw [← hpl]; exact ⟨_, rfl⟩⟩
theorem r_nodes94 (k : Nat) (N : List (Nm × Int)) (hs : ShortN N) (hl : N.length ≤ 1000) : run tab (k + 2) 94 [.lst (N.map enc)] = match resN N with
    | some (w, j) => some (.ex 0 [.str w, .int j])
    | none => some (.sh .non) := by
  have hst : startE x94 [.lst (N.map enc)] = [.sh (.lst (N.map enc)), .u, .u, .u, .u] := rfl
  have e0 : evS (run tab (k + 1)) q94_0 [.sh (.lst (N.map enc)), .u, .u, .u, .u] = some (.nx [.sh (.lst (N.map enc)), .ow (.lst (((([] : List (Nm × Int))).map (·.1)).map enc)), .u, .u, .u]) := by
    generalize N.map (enc : Nm × Int → D) = PL
    simp [q94_0]
  obtain ⟨out, ho, hm⟩ := loop94 k N N [] rfl hs (by simp; omega)
  have hlN : biV .len [.lst (N.map (enc : Nm × Int → D))] = some (.sh (.int N.length)) := by rw [len_lst, List.length_map]
  have hi : evI (run tab (k + 1)) (.rng1 (.bi .len (.cons (.var 0) .nil))) [.sh (.lst (N.map enc)), .ow (.lst (((([] : List (Nm × Int))).map (·.1)).map enc)), .u, .u, .u] = some (idxA 0 N, [.sh (.lst (N.map enc)), .ow (.lst (((([] : List (Nm × Int))).map (·.1)).map enc)), .u, .u, .u]) := by
    rw [← idxA_range]
    have h1 : N.length < rngLine := by simp only [rngLine]; omega
    generalize D.lst (N.map (enc : Nm × Int → D)) = PL at hlN ⊢
    simp [hlN, h1]
  have e1 : evS (run tab (k + 1)) q94_1 [.sh (.lst (N.map enc)), .ow (.lst (((([] : List (Nm × Int))).map (·.1)).map enc)), .u, .u, .u] = some out := by
    rw [q94_1, ev_for]; simp only [hi, Option.bind_some]; exact ho
  unfold resN
  cases hf : fstN [] N with
  | some q =>
    obtain ⟨w, j⟩ := q
    rw [hf] at hm
    obtain ⟨env, rfl⟩ := hm
    refine run_atX (fx := x94) rfl rfl (env := env) ?_
    rw [hst]
    exact go_nx e0 (go_rx e1)
  | none =>
    rw [hf] at hm
    dsimp only at hm ⊢
    rw [List.nil_append] at hm
    subst hm
    by_cases hc : 1 ≤ N.length ∧ N.length ≤ 12
    · rw [if_pos hc]
      have e7 : evS (run tab (k + 1)) q94_7 [.sh (.lst (N.map enc)), .ow (.lst ((N.map (·.1)).map enc)), .u, .u, .u] = some (.nx [.sh (.lst (N.map enc)), .ow (.lst ((N.map (·.1)).map enc)), .u, .u, .u]) := by
        have g1 : (1 : Int) ≤ (N.length : Int) := by omega
        have g2 : (N.length : Int) ≤ 12 := by omega
        generalize D.lst (N.map (enc : Nm × Int → D)) = PL at hlN ⊢
        generalize (N.length : Int) = n at hlN g1 g2
        generalize (N.map (·.1)).map (enc : Nm → D) = SD
        simp [q94_7, ev_c2, hlN, g1, g2]
      refine run_end (fx := x94) rfl rfl (env := [.sh (.lst (N.map enc)), .ow (.lst ((N.map (·.1)).map enc)), .u, .u, .u]) ?_
      rw [hst]
      exact go_nx e0 (go_nx e1 (go_nx e7 rfl))
    · rw [if_neg hc]
      have e7 : evS (run tab (k + 1)) q94_7 [.sh (.lst (N.map enc)), .ow (.lst ((N.map (·.1)).map enc)), .u, .u, .u] = some (.rx [.sh (.lst (N.map enc)), .ow (.lst ((N.map (·.1)).map enc)), .u, .u, .u] 0 [.str (Str.ofString "wrong number of nodes"), .int N.length]) := by
        generalize D.lst (N.map (enc : Nm × Int → D)) = PL at hlN ⊢
        generalize (N.map (·.1)).map (enc : Nm → D) = SD
        by_cases g1 : (1 : Int) ≤ (N.length : Int)
        · have g2 : ¬ (N.length : Int) ≤ 12 := by omega
          generalize (N.length : Int) = n at hlN g1 g2
          simp [q94_7, ev_c2, hlN, g1, g2]
        · generalize (N.length : Int) = n at hlN g1
          simp [q94_7, ev_c2, hlN, g1]
      refine run_atX (fx := x94) rfl rfl (env := [.sh (.lst (N.map enc)), .ow (.lst ((N.map (·.1)).map enc)), .u, .u, .u]) ?_
      rw [hst]
      exact go_nx e0 (go_nx e1 (go_rx e7))

/-! edges: the first fault, by clusters -/
def cD (S : List Nm) (c : Nm → Nm) : D := dkN (enc : Nm → D) (S.map fun x => (x, c x))
theorem getC {S : List Nm} {c : Nm → Nm} {x : Nm} (h : x ∈ S) : getN (S.map fun x => (x, c x)) x = some (c x) := by
  induction S with
  | nil => cases h
  | cons y l ih =>
    simp only [getN, List.map_cons, List.find?_cons] at ih ⊢
    by_cases e : y = x
    · simp [e]
    · simp only [e, decide_false]
      exact ih ((List.mem_cons.mp h).resolve_left fun z => e z.symm)
theorem ix_cD {S : List Nm} {c : Nm → Nm} {x : Nm} (h : x ∈ S) : ixV (cD S c) (enc x) = some (enc (c x)) := by
  rw [cD, ix_dkN, getC h]; rfl
theorem in_cD {S : List Nm} {c : Nm → Nm} {x : Nm} : Ts.inV (enc x) (cD S c) = some (decide (x ∈ S)) := by
  rw [cD, in_dkN]
  congr 1
  rw [Bool.eq_iff_iff, getN_some, decide_eq_true_eq, List.map_map]
  simp [Function.comp_def]
def faultE (S : List Nm) (c : Nm → Nm) (e : Edge) : Option Str :=
  if e.a ∈ S ∧ e.b ∈ S then if 1 ≤ e.c ∧ e.c ≤ 999 then if c e.a = c e.b then some (Str.ofString "joined already") else none else some (Str.ofString "wrong length")
  else some (Str.ofString "unknown node")
/-- the second's cluster goes into the first's -/
def joinP (c : Nm → Nm) (a b : Nm) : Nm → Nm := fun x => if c x = c b then c a else c x
/-- the other way round -/
def joinL (c : Nm → Nm) (a b : Nm) : Nm → Nm := fun x => if c x = c a then c b else c x
def scanE (S : List Nm) (jn : (Nm → Nm) → Nm → Nm → Nm → Nm) : (Nm → Nm) → Nat → List Edge → Option (Str × Nat)
  | _, _, [] => none
  | c, j, e :: l => match faultE S c e with
    | some w => some (w, j)
    | none => scanE S jn (jn c e.a e.b) (j + 1) l
theorem fault_same {S : List Nm} {c g : Nm → Nm} (h : ∀ x ∈ S, ∀ y ∈ S, c x = c y ↔ g x = g y) (e : Edge) : faultE S c e = faultE S g e := by
  unfold faultE
  by_cases h1 : e.a ∈ S ∧ e.b ∈ S
  · rw [if_pos h1, if_pos h1]
    have := h e.a h1.1 e.b h1.2
    by_cases h2 : c e.a = c e.b
    · rw [if_pos h2, if_pos (this.mp h2)]
    · rw [if_neg h2, if_neg fun z => h2 (this.mpr z)]
  · rw [if_neg h1, if_neg h1]
theorem join_same {S : List Nm} {c g : Nm → Nm} (h : ∀ x ∈ S, ∀ y ∈ S, c x = c y ↔ g x = g y) {a b : Nm} (ha : a ∈ S) (hb : b ∈ S) : ∀ x ∈ S, ∀ y ∈ S, joinP c a b x = joinP c a b y ↔ joinL g a b x = joinL g a b y := by
  intro x hx y hy
  have h1 := h x hx y hy
  have h2 := h x hx a ha
  have h3 := h x hx b hb
  have h4 := h y hy a ha
  have h5 := h y hy b hb
  unfold joinP joinL
  by_cases q1 : c x = c b <;> by_cases q2 : c y = c b <;> by_cases q3 : c x = c a <;> by_cases q4 : c y = c a
  all_goals
    simp only [q1, q2, q3, q4, true_iff, false_iff] at h1 h2 h3 h4 h5 ⊢
  all_goals grind
theorem scan_same {S : List Nm} : ∀ {l : List Edge} {c g : Nm → Nm} {j : Nat}, (∀ x ∈ S, ∀ y ∈ S, c x = c y ↔ g x = g y) → scanE S joinP c j l = scanE S joinL g j l
  | [], _, _, _, _ => rfl
  | e :: l, c, g, j, h => by
    unfold scanE
    rw [← fault_same h e]
    cases hf : faultE S c e with
    | some w => rfl
    | none =>
      have hm : e.a ∈ S ∧ e.b ∈ S := Classical.byContradiction fun z => by
        unfold faultE at hf
        rw [if_neg z] at hf
        cases hf
      exact scan_same (join_same h hm.1 hm.2)
def resE (S : List Nm) (E : List Edge) : Option (Str × Int) := match scanE S joinP id 0 E with
  | some (w, j) => some (w, (j : Nat))
  | none => if (E.length : Int) + 1 < (S.length : Int) then some (Str.ofString "not joined", (E.length : Int)) else none
def optS : Option Str → D | none => .non | some w => .str w
theorem r_fault95 (k : Nat) (S : List Nm) (c : Nm → Nm) (e : Edge) : run tab (k + 1) 95 [cD S c, enc e] = some (.sh (optS (faultE S c e))) := by
  have i1 := in_cD (S := S) (c := c) (x := e.a)
  have i2 := in_cD (S := S) (c := c) (x := e.b)
  have hst : startE x95 [cD S c, enc e] = [.sh (cD S c), .sh (.tup [enc e.a, enc e.b, .int e.c]), .u, .u, .u] := rfl
  refine run_at (fx := x95) rfl rfl ?_
  rw [hst]
  have x1 := fun h => ix_cD (S := S) (c := c) (x := e.a) h
  have x2 := fun h => ix_cD (S := S) (c := c) (x := e.b) h
  unfold faultE
  generalize cD S c = KD at *
  have e0 : evS (run tab k) q95_0 [.sh KD, .sh (.tup [enc e.a, enc e.b, .int e.c]), .u, .u, .u] = some (.nx [.sh KD, .sh (.tup [enc e.a, enc e.b, .int e.c]), .sh (enc e.a), .sh (enc e.b), .sh (.int e.c)]) := by simp [q95_0]
  by_cases h1 : e.a ∈ S ∧ e.b ∈ S
  · rw [if_pos h1]
    rw [decide_eq_true h1.1] at i1
    rw [decide_eq_true h1.2] at i2
    have x1 := x1 h1.1
    have x2 := x2 h1.2
    have e1 : evS (run tab k) q95_1 [.sh KD, .sh (.tup [enc e.a, enc e.b, .int e.c]), .sh (enc e.a), .sh (enc e.b), .sh (.int e.c)] = some (.nx [.sh KD, .sh (.tup [enc e.a, enc e.b, .int e.c]), .sh (enc e.a), .sh (enc e.b), .sh (.int e.c)]) := by
      simp [q95_1, i1, i2]
    by_cases h2 : 1 ≤ e.c ∧ e.c ≤ 999
    · rw [if_pos h2]
      have g1 : ¬ e.c < 1 := by omega
      have g2 : ¬ 999 < e.c := by omega
      have e2 : evS (run tab k) q95_2 [.sh KD, .sh (.tup [enc e.a, enc e.b, .int e.c]), .sh (enc e.a), .sh (enc e.b), .sh (.int e.c)] = some (.nx [.sh KD, .sh (.tup [enc e.a, enc e.b, .int e.c]), .sh (enc e.a), .sh (enc e.b), .sh (.int e.c)]) := by
        simp [q95_2, g1, g2]
      by_cases h3 : c e.a = c e.b
      · rw [if_pos h3]
        exact go_nx e0 (go_nx e1 (go_nx e2 (go_rt (by simp [q95_3, x1, x2, h3, optS]))))
      · rw [if_neg h3]
        have e3 : evS (run tab k) q95_3 [.sh KD, .sh (.tup [enc e.a, enc e.b, .int e.c]), .sh (enc e.a), .sh (enc e.b), .sh (.int e.c)] = some (.nx [.sh KD, .sh (.tup [enc e.a, enc e.b, .int e.c]), .sh (enc e.a), .sh (enc e.b), .sh (.int e.c)]) := by
          simp [q95_3, x1, x2, h3]
        exact go_nx e0 (go_nx e1 (go_nx e2 (go_nx e3 (go_rt (by simp [q95_4, optS])))))
    · rw [if_neg h2]
      refine go_nx e0 (go_nx e1 (go_rt ?_))
      by_cases g1 : e.c < 1
      · simp [q95_2, g1, optS]
      · have g2 : 999 < e.c := by omega
        simp [q95_2, g1, g2, optS]
  · rw [if_neg h1]
    refine go_nx e0 (go_rt ?_)
    by_cases h2 : e.a ∈ S
    · have h3 : e.b ∉ S := fun z => h1 ⟨h2, z⟩
      rw [decide_eq_true h2] at i1
      rw [decide_eq_false h3] at i2
      simp [q95_1, i1, i2, optS]
    · rw [decide_eq_false h2] at i1
      simp [q95_1, i1, optS]
theorem r_join96 (k : Nat) (S : List Nm) (hn : S.Nodup) (hl : S.length ≤ 1000) (c : Nm → Nm) {a b : Nm} (ha : a ∈ S) (hb : b ∈ S) : run tab (k + 1) 96 [cD S c, enc a, enc b] = some (.ow (cD S (joinP c a b))) := by
  have hst : startE x96 [cD S c, enc a, enc b] = [.sh (cD S c), .sh (enc a), .sh (enc b), .u, .u] := rfl
  have xa := ix_cD (c := c) ha
  have xb := ix_cD (c := c) hb
  refine run_at (fx := x96) rfl rfl ?_
  rw [hst]
  have e0 : evS (run tab k) q96_0 [.sh (cD S c), .sh (enc a), .sh (enc b), .u, .u] = some (.nx [.sh (cD S c), .sh (enc a), .sh (enc b), .ow (dkN enc (([] : List Nm).map fun x => (x, joinP c a b x))), .u]) := by
    have : dkN (enc : Nm → D) (([] : List Nm).map fun x => (x, joinP c a b x)) = .dk [] := rfl
    rw [this]
    generalize cD S c = KD
    simp [q96_0]
  have hit : lkItemsO (.v 4) (some (.sh (cD S c))) = some (cD S c, S.map (enc : Nm → D)) := by
    show some (cD S c, ((S.map fun x => (x, c x)).map fun p => ((Sum.inr p.1.s : Key), (enc p.2 : D))).map fun kv => keyD kv.1) = _
    rw [List.map_map, List.map_map]
    rfl
  have lp := forD_pre (f := (enc : Nm → D)) (l := S) (fun pre => [.sh (cD S c), .sh (enc a), .sh (enc b), .ow (dkN enc (pre.map fun x => (x, joinP c a b x))), .u]) (step := forT (run tab k) (.v 4) l96_0 [4]) fun pre x post hp => by
    refine .inl ?_
    have hx : x ∈ S := by rw [hp]; simp
    have xx := ix_cD (c := c) hx
    have hnew : getN (pre.map fun x => (x, joinP c a b x)) x = none := by
      rw [getN_none, List.map_map]
      simp only [Function.comp_def, List.map_id']
      rw [hp, List.nodup_append] at hn
      exact fun z => hn.2.2 x z x (by simp) rfl
    have hpl : pre.length ≤ S.length := by rw [hp]; simp
    have hput : putV 3 (enc x) (enc (joinP c a b x)) [.sh (cD S c), .sh (enc a), .sh (enc b), .ow (dkN enc (pre.map fun x => (x, joinP c a b x))), .sh (enc x)] = some [.sh (cD S c), .sh (enc a), .sh (enc b), .ow (dkN enc ((pre ++ [x]).map fun x => (x, joinP c a b x))), .sh (enc x)] := by
      have := put_dkV (f := (enc : Nm → D)) (env := [.sh (cD S c), .sh (enc a), .sh (enc b), .ow (dkN enc (pre.map fun x => (x, joinP c a b x))), .sh (enc x)]) (i := 3) (x := x) (v := joinP c a b x) rfl (by rw [List.length_map]; simp only [bigLine]; omega)
      rw [this, putN_new hnew, List.map_append]
      rfl
    generalize dkN (enc : Nm → D) (pre.map fun x => (x, joinP c a b x)) = K1 at hput ⊢
    generalize dkN (enc : Nm → D) ((pre ++ [x]).map fun x => (x, joinP c a b x)) = K2 at hput ⊢
    generalize cD S c = KD at *
    unfold joinP at hput
    by_cases h : c x = c b
    · rw [if_pos h] at hput
      simp [forT, l96_0, q96_2, xx, xa, xb, h, hput]
    · rw [if_neg h] at hput
      simp [forT, l96_0, q96_2, xx, xa, xb, h, hput]
  have e1 : evS (run tab k) q96_1 [.sh (cD S c), .sh (enc a), .sh (enc b), .ow (dkN enc (([] : List Nm).map fun x => (x, joinP c a b x))), .u] = some (.nx [.sh (cD S c), .sh (enc a), .sh (enc b), .ow (dkN enc (S.map fun x => (x, joinP c a b x))), .u]) := forK_of (env := [.sh (cD S c), .sh (enc a), .sh (enc b), .ow (dkN enc (([] : List Nm).map fun x => (x, joinP c a b x))), .u]) (i := 0) hit lp rfl
  refine go_nx e0 (go_nx e1 (go_rt ?_))
  show _ = some (Out.rt (Nv.ow (dkN enc (S.map fun x => (x, joinP c a b x)))))
  generalize dkN (enc : Nm → D) (S.map fun x => (x, joinP c a b x)) = K2
  generalize cD S c = KD
  simp [q96_3]

theorem merge_nm (B : List (Nm × Nm)) : ∀ A : List (Nm × Nm), ((A ++ B).map (·.1)).Nodup → mergeD (A.map fun p => ((Sum.inr p.1.s : Key), (enc p.2 : D))) (B.map fun p => ((Sum.inr p.1.s : Key), (enc p.2 : D))) = (A ++ B).map fun p => ((Sum.inr p.1.s : Key), (enc p.2 : D)) := by
  induction B with
  | nil => intro A _; rw [List.append_nil]; rfl
  | cons p B ih =>
    intro A h
    have h' : ((A ++ [p] ++ B).map (·.1)).Nodup := by simpa using h
    have hnew : getN A p.1 = none := by
      rw [getN_none]
      rw [List.map_append, List.nodup_append] at h
      exact fun z => h.2.2 p.1 z p.1 (by simp) rfl
    have hp := put_dkN (f := (enc : Nm → D)) A p.1 p.2
    rw [putN_new hnew] at hp
    have := ih (A ++ [p]) h'
    rw [List.map_cons]
    unfold mergeD at this ⊢
    rw [List.foldl_cons]
    show List.foldl _ (putD (A.map fun p => ((Sum.inr p.1.s : Key), (enc p.2 : D))) (.inr p.1.s) (enc p.2)) _ = _
    rw [hp]
    have ep : (A ++ [(p.1, p.2)]) = A ++ [p] := rfl
    rw [ep, this]
    simp
theorem pairs_nm (B : List (Nm × Nm)) : pairsD? (B.map enc) = some (B.map fun p => ((Sum.inr p.1.s : Key), (enc p.2 : D))) := by
  induction B with
  | nil => rfl
  | cons p B ih =>
    obtain ⟨a, b⟩ := p
    show ((enc a : D).key?).bind (fun kk => (pairsD? (B.map enc)).bind fun ps => some ((kk, (enc b : D)) :: ps)) = _
    rw [ih]
    rfl
theorem loop97 (k : Nat) (S : List Nm) (hn : S.Nodup) (hSl : S.length ≤ 1000) (SD : D) (E : List Edge) : ∀ (rest pre : List Edge) (c : Nm → Nm), E = pre ++ rest → pre.length + rest.length ≤ 1000 →
    ∃ out, forD (forT (run tab (k + 2)) (.v 3) l97_0 [3, 4]) (idxA pre.length rest) [.sh SD, .sh (.lst (E.map enc)), .ow (cD S c), .u, .u, .u] = some out ∧
      match scanE S joinP c pre.length rest with
      | some (w, j) => ∃ env, out = .rx env 0 [.str w, .int (j : Nat)]
      | none => ∃ c', out = .nx [.sh SD, .sh (.lst (E.map enc)), .ow (cD S c'), .u, .u, .u]
  | [], pre, c, hP, hl => ⟨_, rfl, ⟨c, rfl⟩⟩
  | e :: rest, pre, c, hP, hl => by
    have r1 := r_fault95 (k + 1) S c e
    have ee : (enc e : D) = .tup [enc e.a, enc e.b, .int e.c] := rfl
    have hat : ixV (.lst (E.map (enc : Edge → D))) (.int (pre.length : Nat)) = some (.tup [enc e.a, enc e.b, .int e.c]) := by
      show atI _ _ = _
      rw [atI_cast, List.getElem?_map, hP]
      simp [ee]
    rw [ee] at r1
    unfold idxA scanE
    generalize hPL : D.lst (E.map (enc : Edge → D)) = PD at *
    generalize hpl : ((pre.length : Nat) : Int) = pl at hat
    have hofl : (optS (faultE S c e)).flat = true := by cases faultE S c e <;> rfl
    have e2 : evS (run tab (k + 2)) q97_2 [.sh SD, .sh PD, .ow (cD S c), .sh (.int pl), .u, .u] = some (.nx [.sh SD, .sh PD, .ow (cD S c), .sh (.int pl), .sh (optS (faultE S c e)), .u]) := by
      generalize cD S c = KD at r1 ⊢
      generalize optS (faultE S c e) = OD at r1 hofl ⊢
      simp [q97_2, hat, r1, hofl]
    cases hf : faultE S c e with
    | some w =>
      rw [hf] at e2
      have e3 : evS (run tab (k + 2)) q97_3 [.sh SD, .sh PD, .ow (cD S c), .sh (.int pl), .sh (.str w), .u] = some (.rx [.sh SD, .sh PD, .ow (cD S c), .sh (.int pl), .sh (.str w), .u] 0 [.str w, .int pl]) := by
        have i1 : cmpV .IsNot (.str w) .non = some true := rfl
        generalize cD S c = KD
        simp [q97_3, i1]
      have st : forT (run tab (k + 2)) (.v 3) l97_0 [3, 4] (.int pl) [.sh SD, .sh PD, .ow (cD S c), .u, .u, .u] = some (.rx [.sh SD, .sh PD, .ow (cD S c), .sh (.int pl), .sh (.str w), .u] 0 [.str w, .int pl]) :=
        forT_of (e1 := [.sh SD, .sh PD, .ow (cD S c), .sh (.int pl), .u, .u]) rfl (go_nx e2 (go_rx e3))
      refine ⟨.rx _ 0 [.str w, .int pl], by rw [forD, st]; rfl, ?_⟩
      rw [← hpl]
      exact ⟨_, rfl⟩
    | none =>
      rw [hf] at e2
      have hm : e.a ∈ S ∧ e.b ∈ S := Classical.byContradiction fun z => by
        unfold faultE at hf
        rw [if_neg z] at hf
        cases hf
      have r2 := r_join96 (k + 1) S hn hSl c hm.1 hm.2
      have e3 : evS (run tab (k + 2)) q97_3 [.sh SD, .sh PD, .ow (cD S c), .sh (.int pl), .sh .non, .u] = some (.nx [.sh SD, .sh PD, .ow (cD S c), .sh (.int pl), .sh .non, .u]) := by
        have i1 : cmpV .IsNot .non .non = some false := rfl
        generalize cD S c = KD
        simp [q97_3, i1]
      have e4 : evS (run tab (k + 2)) q97_4 [.sh SD, .sh PD, .ow (cD S c), .sh (.int pl), .sh .non, .u] = some (.nx [.sh SD, .sh PD, .ow (cD S (joinP c e.a e.b)), .sh (.int pl), .sh .non, .u]) := by
        have hfd : flatRet (.ow (cD S (joinP c e.a e.b))) = false := rfl
        generalize cD S c = KD at r2 ⊢
        generalize cD S (joinP c e.a e.b) = KD' at r2 hfd ⊢
        simp [q97_4, hat, r2, hfd]
      have st : forT (run tab (k + 2)) (.v 3) l97_0 [3, 4] (.int pl) [.sh SD, .sh PD, .ow (cD S c), .u, .u, .u] = some (.nx [.sh SD, .sh PD, .ow (cD S (joinP c e.a e.b)), .u, .u, .u]) :=
        Eq.trans (forT_nx (e1 := [.sh SD, .sh PD, .ow (cD S c), .sh (.int pl), .u, .u]) rfl (go_nx e2 (go_nx e3 (go_nx e4 rfl)))) rfl
      obtain ⟨out, ho, hm2⟩ := loop97 k S hn hSl SD E rest (pre ++ [e]) (joinP c e.a e.b) (by rw [hP]; simp) (by simp only [List.length_append, List.length_cons, List.length_nil] at hl ⊢; omega)
      rw [List.length_append, List.length_singleton] at ho hm2
      refine ⟨out, ?_, ?_⟩
      · rw [forD, st, Option.bind_some]
        rw [hPL] at ho
        exact ho
      · rw [hPL] at hm2
        exact hm2
theorem r_edges97 (k : Nat) (S : List Nm) (hn : S.Nodup) (hSl : S.length ≤ 1000) (E : List Edge) (hl : E.length ≤ 1000) : run tab (k + 3) 97 [.lst (S.map enc), .lst (E.map enc)] = match resE S E with
    | some (w, j) => some (.ex 0 [.str w, .int j])
    | none => some (.sh .non) := by
  have hst : startE x97 [.lst (S.map enc), .lst (E.map enc)] = [.sh (.lst (S.map enc)), .sh (.lst (E.map enc)), .u, .u, .u, .u] := rfl
  have hc : evE (run tab (k + 2)) c97_0 [.sh (.lst (S.map enc)), .sh (.lst (E.map enc)), .u, .u, .u, .u] = some (.ow (cD S id), [.sh (.lst (S.map enc)), .sh (.lst (E.map enc)), .u, .u, .u, .u]) := by
    have hps := pairs_nm (S.map fun x => (x, x))
    have hmg := merge_nm (S.map fun x => (x, x)) [] (by rw [List.nil_append, List.map_map]; simpa [Function.comp_def] using hn)
    have := dc_of (R := run tab (k + 2)) (own := [5]) (uses := []) (p := .v 5) (it := .seq (.var 0)) (k := .var 5) (v := .var 5) (env := [.sh (.lst (S.map enc)), .sh (.lst (E.map enc)), .u, .u, .u, .u]) (env1 := [.sh (.lst (S.map enc)), .sh (.lst (E.map enc)), .u, .u, .u, .u]) (l := S.map enc) (ds := (S.map fun x => (x, x)).map enc) (by
        generalize E.map (enc : Edge → D) = ED
        simp) (by
      rw [List.map_map]
      refine lcD_each (f := (enc : Nm → D)) (g := enc ∘ fun x : Nm => (x, x)) fun x _ => ?_
      generalize E.map (enc : Edge → D) = ED
      generalize S.map (enc : Nm → D) = SD
      simp [dcStp, hide]) (by rw [List.length_map, List.length_map]; simp only [bigLine]; omega) hps rfl
    rw [c97_0, this]
    rw [show ([] : List (Key × D)) = ([] : List (Nm × Nm)).map fun p => ((Sum.inr p.1.s : Key), (enc p.2 : D)) from rfl, hmg]
    rfl
  have e0 : evS (run tab (k + 2)) q97_0 [.sh (.lst (S.map enc)), .sh (.lst (E.map enc)), .u, .u, .u, .u] = some (.nx [.sh (.lst (S.map enc)), .sh (.lst (E.map enc)), .ow (cD S id), .u, .u, .u]) := by
    generalize S.map (enc : Nm → D) = SD at hc ⊢
    generalize E.map (enc : Edge → D) = ED at hc ⊢
    generalize cD S id = KD at hc ⊢
    simp only [q97_0, ev_asg, hc]
    rfl
  obtain ⟨out, ho, hm⟩ := loop97 k S hn hSl (.lst (S.map enc)) E E [] id rfl (by simp; omega)
  have hlE : biV .len [.lst (E.map (enc : Edge → D))] = some (.sh (.int E.length)) := by rw [len_lst, List.length_map]
  have hlS : biV .len [.lst (S.map (enc : Nm → D))] = some (.sh (.int S.length)) := by rw [len_lst, List.length_map]
  have hi : evI (run tab (k + 2)) (.rng1 (.bi .len (.cons (.var 1) .nil))) [.sh (.lst (S.map enc)), .sh (.lst (E.map enc)), .ow (cD S id), .u, .u, .u] = some (idxA 0 E, [.sh (.lst (S.map enc)), .sh (.lst (E.map enc)), .ow (cD S id), .u, .u, .u]) := by
    rw [← idxA_range]
    have h1 : E.length < rngLine := by simp only [rngLine]; omega
    generalize D.lst (E.map (enc : Edge → D)) = PL at hlE ⊢
    generalize cD S id = KD
    simp [hlE, h1]
  have e1 : evS (run tab (k + 2)) q97_1 [.sh (.lst (S.map enc)), .sh (.lst (E.map enc)), .ow (cD S id), .u, .u, .u] = some out := by
    rw [q97_1, ev_for]; simp only [hi, Option.bind_some]; exact ho
  unfold resE
  have hm' := hm
  rw [show ([] : List Edge).length = 0 from rfl] at hm'
  cases hf : scanE S joinP id 0 E with
  | some q =>
    obtain ⟨w, j⟩ := q
    rw [hf] at hm'
    obtain ⟨env, rfl⟩ := hm'
    refine run_atX (fx := x97) rfl rfl (env := env) ?_
    rw [hst]
    exact go_nx e0 (go_rx e1)
  | none =>
    rw [hf] at hm'
    obtain ⟨c', rfl⟩ := hm'
    dsimp only
    by_cases hc : (E.length : Int) + 1 < (S.length : Int)
    · rw [if_pos hc]
      have e5 : evS (run tab (k + 2)) q97_5 [.sh (.lst (S.map enc)), .sh (.lst (E.map enc)), .ow (cD S c'), .u, .u, .u] = some (.rx [.sh (.lst (S.map enc)), .sh (.lst (E.map enc)), .ow (cD S c'), .u, .u, .u] 0 [.str (Str.ofString "not joined"), .int E.length]) := by
        generalize D.lst (E.map (enc : Edge → D)) = PL at hlE ⊢
        generalize D.lst (S.map (enc : Nm → D)) = SL at hlS ⊢
        generalize cD S c' = KD
        generalize (E.length : Int) = m at hlE hc ⊢
        generalize (S.length : Int) = n at hlS hc
        simp [q97_5, hlE, hlS, hc]
      refine run_atX (fx := x97) rfl rfl (env := [.sh (.lst (S.map enc)), .sh (.lst (E.map enc)), .ow (cD S c'), .u, .u, .u]) ?_
      rw [hst]
      exact go_nx e0 (go_nx e1 (go_rx e5))
    · rw [if_neg hc]
      have e5 : evS (run tab (k + 2)) q97_5 [.sh (.lst (S.map enc)), .sh (.lst (E.map enc)), .ow (cD S c'), .u, .u, .u] = some (.nx [.sh (.lst (S.map enc)), .sh (.lst (E.map enc)), .ow (cD S c'), .u, .u, .u]) := by
        generalize D.lst (E.map (enc : Edge → D)) = PL at hlE ⊢
        generalize D.lst (S.map (enc : Nm → D)) = SL at hlS ⊢
        generalize cD S c' = KD
        generalize (E.length : Int) = m at hlE hc ⊢
        generalize (S.length : Int) = n at hlS hc
        simp [q97_5, hlE, hlS, hc]
      refine run_end (fx := x97) rfl rfl (env := [.sh (.lst (S.map enc)), .sh (.lst (E.map enc)), .ow (cD S c'), .u, .u, .u]) ?_
      rw [hst]
      exact go_nx e0 (go_nx e1 (go_nx e5 rfl))
theorem r_order98 (k : Nat) (E : List Edge) (hl : E.length ≤ 1000) : run tab (k + 1) 98 [.lst (E.map enc)] = some (.sh (.tup ((sortE (E.map fun e => mkE e.a e.b e.c)).map enc))) := by
  have hst : startE x98 [.lst (E.map enc)] = [.sh (.lst (E.map enc)), .u, .u, .u] := rfl
  refine run_at (fx := x98) rfl rfl ?_
  rw [hst]
  have c3 : 3 ≤ bigLine := by simp [bigLine]
  have hc : evE (run tab k) c98_0 [.sh (.lst (E.map enc)), .u, .u, .u] = some (.ow (.lst ((E.map fun e => mkE e.a e.b e.c).map enc)), [.sh (.lst (E.map enc)), .u, .u, .u]) := by
    rw [List.map_map]
    refine lc_of (l := E.map enc) (by simp) (lcD_each (g := enc ∘ fun e : Edge => mkE e.a e.b e.c) fun e _ => ?_) (by rw [List.length_map]; simp only [bigLine]; omega) (.inl rfl)
    have ee : (enc e : D) = .tup [enc e.a, enc e.b, .int e.c] := rfl
    have e2 : ((enc ∘ fun e : Edge => mkE e.a e.b e.c) e : D) = .tup [enc (minN e.a e.b), enc (maxN e.a e.b), .int e.c] := rfl
    rw [ee, e2]
    generalize E.map (enc : Edge → D) = ED
    simp [lcStp, hide, c3]
  have hso := sorted_enc (α := Edge) (by decide) (l := E.map fun e => mkE e.a e.b e.c) (by rw [List.length_map]; simp only [bigLine]; omega)
  refine go_rt ?_
  generalize (E.map fun e => mkE e.a e.b e.c).map (enc : Edge → D) = EL at hc hso
  generalize (sortE (E.map fun e => mkE e.a e.b e.c)).map (enc : Edge → D) = TL at hso ⊢
  generalize E.map (enc : Edge → D) = ED at hc ⊢
  simp [q98_0, hc, hso]

/-! tree: by the program -/
def eRows (E : List Edge) : List Edge := E.map fun e => mkE e.a e.b e.c
def res01 (N : List (Nm × Int)) (E : List Edge) : Option (Str × Int) := match resN N with
  | some q => some q
  | none => resE (N.map (·.1)) E
def treeD (N : List (Nm × Int)) (E : List Edge) : D := .tup [.tup ((sortE N).map enc), .tup ((sortE (eRows E)).map enc)]
def out01 (N : List (Nm × Int)) (E : List Edge) : D := match res01 N E with
  | some q => .tup [.str q.1, .int q.2]
  | none => treeD N E
theorem r_tree99 (k : Nat) (N : List (Nm × Int)) (hs : ShortN N) (hl : N.length ≤ 1000) (E : List Edge) (hE : E.length ≤ 1000) : run tab (k + 4) 99 [.lst (N.map enc), .lst (E.map enc)] = match res01 N E with
    | some q => some (.ex 0 [.str q.1, .int q.2])
    | none => some (.sh (treeD N E)) := by
  have hst : startE x99 [.lst (N.map enc), .lst (E.map enc)] = [.sh (.lst (N.map enc)), .sh (.lst (E.map enc)), .u, .u] := rfl
  have r1 := r_nodes94 (k + 1) N hs hl
  have c2 : 2 ≤ bigLine := by simp [bigLine]
  unfold res01
  cases h1 : resN N with
  | some q =>
    rw [h1] at r1
    dsimp only at r1
    refine run_atX (fx := x99) rfl rfl (env := [.sh (.lst (N.map enc)), .sh (.lst (E.map enc)), .u, .u]) ?_
    rw [hst]
    refine go_rx ?_
    generalize N.map (enc : Nm × Int → D) = ND at r1 ⊢
    generalize E.map (enc : Edge → D) = ED
    simp [q99_0, r1]
  | none =>
    rw [h1] at r1
    dsimp only at r1 ⊢
    obtain ⟨hn, hN1, hN2⟩ := resN_none h1
    have r2 := r_edges97 k (N.map (·.1)) hn (by rw [List.length_map]; omega) E hE
    have r3 := r_order98 (k + 2) E hE
    have hc : evE (run tab (k + 3)) c99_0 [.sh (.lst (N.map enc)), .sh (.lst (E.map enc)), .u, .u] = some (.ow (.lst ((N.map (·.1)).map enc)), [.sh (.lst (N.map enc)), .sh (.lst (E.map enc)), .u, .u]) := by
      rw [List.map_map]
      refine lc_of (l := N.map enc) (by generalize E.map (enc : Edge → D) = ED; simp) (lcD_each (g := enc ∘ fun p : Nm × Int => p.1) fun p _ => ?_) (by rw [List.length_map]; simp only [bigLine]; omega) (.inl rfl)
      obtain ⟨a, v⟩ := p
      generalize N.map (enc : Nm × Int → D) = ND
      generalize E.map (enc : Edge → D) = ED
      simp [lcStp, hide]
    have e0 : evS (run tab (k + 3)) q99_0 [.sh (.lst (N.map enc)), .sh (.lst (E.map enc)), .u, .u] = some (.nx [.sh (.lst (N.map enc)), .sh (.lst (E.map enc)), .u, .u]) := by
      generalize N.map (enc : Nm × Int → D) = ND at r1 ⊢
      generalize E.map (enc : Edge → D) = ED
      simp [q99_0, r1]
    cases h2 : resE (N.map (·.1)) E with
    | some q =>
      rw [h2] at r2
      dsimp only at r2
      refine run_atX (fx := x99) rfl rfl (env := [.sh (.lst (N.map enc)), .sh (.lst (E.map enc)), .u, .u]) ?_
      rw [hst]
      refine go_nx e0 (go_rx ?_)
      generalize (N.map (·.1)).map (enc : Nm → D) = SD at hc r2
      generalize N.map (enc : Nm × Int → D) = ND at hc ⊢
      generalize E.map (enc : Edge → D) = ED at hc r2 ⊢
      simp [q99_1, hc, r2]
    | none =>
      rw [h2] at r2
      dsimp only at r2 ⊢
      refine run_at (fx := x99) rfl rfl ?_
      rw [hst]
      have e1 : evS (run tab (k + 3)) q99_1 [.sh (.lst (N.map enc)), .sh (.lst (E.map enc)), .u, .u] = some (.nx [.sh (.lst (N.map enc)), .sh (.lst (E.map enc)), .u, .u]) := by
        generalize (N.map (·.1)).map (enc : Nm → D) = SD at hc r2
        generalize N.map (enc : Nm × Int → D) = ND at hc ⊢
        generalize E.map (enc : Edge → D) = ED at hc r2 ⊢
        simp [q99_1, hc, r2]
      refine go_nx e0 (go_nx e1 (go_rt ?_))
      have hso := sorted_enc (α := Nm × Int) (by decide) (l := N) (by simp only [bigLine]; omega)
      rw [treeD, eRows]
      generalize (sortE N).map (enc : Nm × Int → D) = TN at hso ⊢
      generalize (sortE (E.map fun e => mkE e.a e.b e.c)).map (enc : Edge → D) = TE at r3 ⊢
      generalize N.map (enc : Nm × Int → D) = ND at hso ⊢
      generalize E.map (enc : Edge → D) = ED at r3 ⊢
      simp [q99_2, hso, r3, c2]
theorem treeD_flat (N : List (Nm × Int)) (E : List Edge) : (treeD N E).flat = true := by
  have h1 : ∀ p : Nm × Int, (enc p : D).flat = true := fun p => Enc.flat p
  have h2 : ∀ p : Edge, (enc p : D).flat = true := fun p => Enc.flat p
  simp [treeD, List.all_map, Function.comp_def, h1, h2]
theorem r_told102 (k : Nat) (N : List (Nm × Int)) (hs : ShortN N) (hl : N.length ≤ 1000) (E : List Edge) (hE : E.length ≤ 1000) : run tab (k + 5) 102 [.lst (N.map enc), .lst (E.map enc)] = some (.sh (out01 N E)) := by
  have h := r_tree99 k N hs hl E hE
  have hst : startE x102 [.lst (N.map enc), .lst (E.map enc)] = [.sh (.lst (N.map enc)), .sh (.lst (E.map enc)), .u] := rfl
  refine run_at (fx := x102) rfl rfl ?_
  rw [hst]
  generalize N.map (enc : Nm × Int → D) = ND at h ⊢
  generalize E.map (enc : Edge → D) = ED at h ⊢
  refine go_rt ?_
  unfold out01
  cases hr : res01 N E with
  | some q =>
    rw [hr] at h
    dsimp only at h ⊢
    simp [q102_0, l102_0, q102_1, h]
    rfl
  | none =>
    rw [hr] at h
    dsimp only at h ⊢
    have hfl := treeD_flat N E
    generalize treeD N E = TD at h hfl ⊢
    simp [q102_0, l102_0, q102_1, h, hfl]

/-! what is due, by the law -/
theorem r_name100 (k : Nat) (x : Nm) (hl : x.s.length ≤ 1000) : run tab (k + 1) 100 [enc x] = some (.sh (.bl (nameB x.s))) := by
  have hb : x.s.length ≤ bigLine := by simp only [bigLine]; omega
  have hlen := len_str hb
  have hsm : (("abcdefghijklmnopqrstuvwxyz" : Str)) = smS := rfl
  have hfg : (("0123456789" : Str)) = fgS := rfl
  have hst : startE x100 [enc x] = [.sh (.str x.s), .u, .u] := rfl
  refine run_at (fx := x100) rfl rfl ?_
  rw [hst]
  have hsz : x.s.cps.toList.length ≤ 1000 := by rw [Array.length_toList]; exact hl
  have happ : ∀ c, (smS ++ fgS).cps.toList.contains c = (smS.cps.toList.contains c || fgS.cps.toList.contains c) := fun c => by
    have : (smS ++ fgS).cps.toList = smS.cps.toList ++ fgS.cps.toList := by decide +kernel
    rw [this]
    simp
  have hfl := List.length_filter_le (fun c => !((smS ++ fgS).cps.toList.contains c)) x.s.cps.toList
  have hc : evE (run tab k) c100_0 [.sh (.str x.s), .sh (.str smS), .u] = some (.ow (.lst ((x.s.cps.toList.filter fun c => !((smS ++ fgS).cps.toList.contains c)).map fun c => D.str ⟨#[c]⟩)), [.sh (.str x.s), .sh (.str smS), .u]) := by
    generalize x.s = s at *
    refine lc_of (l := s.cps.toList.map fun c => D.str ⟨#[c]⟩) (by simp) (lcD_filter (fun c => !((smS ++ fgS).cps.toList.contains c)) fun c _ => ?_) (by rw [List.length_map]; simp only [bigLine]; omega) (.inl rfl)
    have hin1 := in_sign c smS
    have hin2 := in_sign c fgS
    rw [hfg, happ c]
    generalize smS.cps.toList.contains c = c1 at hin1 ⊢
    generalize fgS.cps.toList.contains c = c2 at hin2 ⊢
    generalize smS = sm at *
    generalize fgS = fg at *
    generalize (⟨#[c]⟩ : Str) = cs at hin1 hin2 ⊢
    cases c1 <;> cases c2 <;> simp [lcStp, hide, hin1, hin2]
  have hz : (((x.s.cps.toList.filter fun c => !((smS ++ fgS).cps.toList.contains c)).length : Nat) : Int) = 0 ↔ (x.s.cps.toList.all fun c => (smS ++ fgS).cps.toList.contains c) = true := by
    rw [List.all_eq_true]
    constructor
    · intro h c hm
      have h0 : x.s.cps.toList.filter (fun c => !((smS ++ fgS).cps.toList.contains c)) = [] := List.length_eq_zero_iff.mp (by omega)
      rw [List.filter_eq_nil_iff] at h0
      have := h0 c hm
      simpa using this
    · intro h
      have h0 : x.s.cps.toList.filter (fun c => !((smS ++ fgS).cps.toList.contains c)) = [] := by
        rw [List.filter_eq_nil_iff]
        intro c hm
        simpa using h c hm
      rw [h0]; rfl
  have hlf : biV .len [.lst ((x.s.cps.toList.filter fun c => !((smS ++ fgS).cps.toList.contains c)).map fun c => D.str ⟨#[c]⟩)] = some (.sh (.int ((x.s.cps.toList.filter fun c => !((smS ++ fgS).cps.toList.contains c)).length : Nat))) := by rw [len_lst, List.length_map]
  have h0 := fun h1 => str_at0 hb h1
  have hin0 := in_sign (x.s.cps.toList.headD 0) smS
  unfold nameB
  generalize hs : x.s = s at *
  generalize (((s.cps.toList.filter fun c => !((smS ++ fgS).cps.toList.contains c)).length : Nat) : Int) = FL at hz hlf
  generalize (s.cps.toList.filter fun c => !((smS ++ fgS).cps.toList.contains c)).map (fun c => D.str ⟨#[c]⟩) = BL at hc hlf
  generalize (s.cps.toList.all fun c => (smS ++ fgS).cps.toList.contains c) = AL at hz ⊢
  generalize (⟨#[s.cps.toList.headD 0]⟩ : Str) = s0 at h0 hin0
  generalize smS.cps.toList.contains (s.cps.toList.headD 0) = FI at hin0 ⊢
  have e0 : evS (run tab k) q100_0 [.sh (.str s), .u, .u] = some (.nx [.sh (.str s), .sh (.str smS), .u]) := by
    simp only [q100_0, hsm]
    simp
  have e2 : evSs (run tab k) (.cons q100_2 .nil) [.sh (.str s), .sh (.str smS), .u] = some (.rt (.sh (.bl AL))) := go_rt (by
    cases AL with
    | true =>
      have := hz.mpr rfl
      subst this
      simp [q100_2, hc, hlf]
    | false =>
      have : ¬ FL = 0 := fun z => by have := hz.mp z; cases this
      simp [q100_2, hc, hlf, this])
  by_cases h1 : 1 ≤ s.length
  · by_cases h2 : s.length ≤ 8
    · have h0' := h0 h1
      have g1 : ¬ (s.length : Int) < 1 := by omega
      have g2 : ¬ 8 < (s.length : Int) := by omega
      generalize (s.length : Int) = n at hlen g1 g2
      cases FI with
      | true =>
        have e1 : evS (run tab k) q100_1 [.sh (.str s), .sh (.str smS), .u] = some (.nx [.sh (.str s), .sh (.str smS), .u]) := by
          simp [q100_1, hlen, h0', hin0, g1, g2]
        rw [decide_eq_true h1, decide_eq_true h2]
        exact go_nx e0 (go_nx e1 e2)
      | false =>
        have e1 : evS (run tab k) q100_1 [.sh (.str s), .sh (.str smS), .u] = some (.rt (.sh (.bl false))) := by
          simp [q100_1, hlen, h0', hin0, g1, g2]
        rw [Bool.and_false, Bool.false_and]
        exact go_nx e0 (go_rt e1)
    · have g1 : ¬ (s.length : Int) < 1 := by omega
      have g2 : 8 < (s.length : Int) := by omega
      generalize (s.length : Int) = n at hlen g1 g2
      have e1 : evS (run tab k) q100_1 [.sh (.str s), .sh (.str smS), .u] = some (.rt (.sh (.bl false))) := by
        simp [q100_1, hlen, g1, g2]
      rw [decide_eq_false h2, Bool.and_false, Bool.false_and, Bool.false_and]
      exact go_nx e0 (go_rt e1)
  · have g1 : (s.length : Int) < 1 := by omega
    generalize (s.length : Int) = n at hlen g1
    have e1 : evS (run tab k) q100_1 [.sh (.str s), .sh (.str smS), .u] = some (.rt (.sh (.bl false))) := by
      simp [q100_1, hlen, g1]
    rw [decide_eq_false h1, Bool.false_and, Bool.false_and, Bool.false_and]
    exact go_nx e0 (go_rt e1)
theorem loop101 (k : Nat) (N : List (Nm × Int)) (ED : D) : ∀ (rest pre : List (Nm × Int)), N = pre ++ rest → ShortN rest → pre.length + rest.length ≤ 1000 →
    ∃ out, forD (forT (run tab (k + 1)) (.v 3) l101_0 [3, 4, 5]) (idxA pre.length rest) [.sh (.lst (N.map enc)), .sh ED, .ow (.lst ((pre.map (·.1)).map enc)), .u, .u, .u, .u, .u, .u, .u, .u, .u] = some out ∧
      match fstN pre rest with
      | some (w, j) => out = .rt (.sh (.tup [.str w, .int (j : Nat)]))
      | none => out = .nx [.sh (.lst (N.map enc)), .sh ED, .ow (.lst (((pre ++ rest).map (·.1)).map enc)), .u, .u, .u, .u, .u, .u, .u, .u, .u]
  | [], pre, hP, hs, hl => ⟨_, rfl, by simp [fstN]⟩
  | p :: rest, pre, hP, hs, hl => by
    have n1 := r_name100 k p.1 (hs p (List.mem_cons_self ..))
    have c2 : 2 ≤ bigLine := by simp [bigLine]
    have hat : ixV (.lst (N.map (enc : Nm × Int → D))) (.int (pre.length : Nat)) = some (.tup [enc p.1, .int p.2]) := by
      show atI _ _ = _
      rw [atI_cast, List.getElem?_map, hP]
      simp
      rfl
    unfold idxA fstN
    generalize hPL : D.lst (N.map (enc : Nm × Int → D)) = PD at *
    generalize hpl : ((pre.length : Nat) : Int) = pl at hat
    have hpre : ((pre.map (·.1)).map (enc : Nm → D)).length < bigLine := by simp only [List.length_map, bigLine]; omega
    have e2 : evS (run tab (k + 1)) q101_2 [.sh PD, .sh ED, .ow (.lst ((pre.map (·.1)).map enc)), .sh (.int pl), .u, .u, .u, .u, .u, .u, .u, .u] = some (.nx [.sh PD, .sh ED, .ow (.lst ((pre.map (·.1)).map enc)), .sh (.int pl), .sh (enc p.1), .sh (.int p.2), .u, .u, .u, .u, .u, .u]) := by
      generalize (pre.map (·.1)).map (enc : Nm → D) = SD
      simp [q101_2, hat]
    have fin : ∀ v, evSs (run tab (k + 1)) l101_0 [.sh PD, .sh ED, .ow (.lst ((pre.map (·.1)).map enc)), .sh (.int pl), .u, .u, .u, .u, .u, .u, .u, .u] = some (.rt v) → forD (forT (run tab (k + 1)) (.v 3) l101_0 [3, 4, 5]) (.int pl :: idxA (pre.length + 1) rest) [.sh PD, .sh ED, .ow (.lst ((pre.map (·.1)).map enc)), .u, .u, .u, .u, .u, .u, .u, .u, .u] = some (.rt v) := fun v hv => by
      have st : forT (run tab (k + 1)) (.v 3) l101_0 [3, 4, 5] (.int pl) [.sh PD, .sh ED, .ow (.lst ((pre.map (·.1)).map enc)), .u, .u, .u, .u, .u, .u, .u, .u, .u] = some (.rt v) := forT_of (e1 := [.sh PD, .sh ED, .ow (.lst ((pre.map (·.1)).map enc)), .sh (.int pl), .u, .u, .u, .u, .u, .u, .u, .u]) rfl hv
      rw [forD, st]; rfl
    by_cases hn : nameB p.1.s = true
    · have e3 : evS (run tab (k + 1)) q101_3 [.sh PD, .sh ED, .ow (.lst ((pre.map (·.1)).map enc)), .sh (.int pl), .sh (enc p.1), .sh (.int p.2), .u, .u, .u, .u, .u, .u] = some (.nx [.sh PD, .sh ED, .ow (.lst ((pre.map (·.1)).map enc)), .sh (.int pl), .sh (enc p.1), .sh (.int p.2), .u, .u, .u, .u, .u, .u]) := by
        rw [hn] at n1
        generalize (pre.map (·.1)).map (enc : Nm → D) = SD
        simp [q101_3, n1]
      by_cases hm : p.1 ∈ pre.map (·.1)
      · have hf : faultN (pre.map (·.1)) p = some (Str.ofString "named twice") := by rw [faultN, if_pos hn, if_pos hm]
        rw [hf]
        have hin : Ts.inV (enc p.1) (.lst ((pre.map (·.1)).map (enc : Nm → D))) = some true := by rw [in_nm, decide_eq_true hm]
        have e4 : evS (run tab (k + 1)) q101_4 [.sh PD, .sh ED, .ow (.lst ((pre.map (·.1)).map enc)), .sh (.int pl), .sh (enc p.1), .sh (.int p.2), .u, .u, .u, .u, .u, .u] = some (.rt (.sh (.tup [.str (Str.ofString "named twice"), .int pl]))) := by
          generalize (pre.map (·.1)).map (enc : Nm → D) = SD at hin ⊢
          simp [q101_4, hin, c2]
        exact ⟨_, fin _ (go_nx e2 (go_nx e3 (go_rt e4))), by rw [← hpl]⟩
      · have hin : Ts.inV (enc p.1) (.lst ((pre.map (·.1)).map (enc : Nm → D))) = some false := by rw [in_nm, decide_eq_false hm]
        have e4 : evS (run tab (k + 1)) q101_4 [.sh PD, .sh ED, .ow (.lst ((pre.map (·.1)).map enc)), .sh (.int pl), .sh (enc p.1), .sh (.int p.2), .u, .u, .u, .u, .u, .u] = some (.nx [.sh PD, .sh ED, .ow (.lst ((pre.map (·.1)).map enc)), .sh (.int pl), .sh (enc p.1), .sh (.int p.2), .u, .u, .u, .u, .u, .u]) := by
          generalize (pre.map (·.1)).map (enc : Nm → D) = SD at hin ⊢
          simp [q101_4, hin]
        by_cases hw : p.2 < 0 ∨ 999 < p.2
        · have hf : faultN (pre.map (·.1)) p = some (Str.ofString "wrong weight") := by rw [faultN, if_pos hn, if_neg hm, if_pos hw]
          rw [hf]
          have e5 : evS (run tab (k + 1)) q101_5 [.sh PD, .sh ED, .ow (.lst ((pre.map (·.1)).map enc)), .sh (.int pl), .sh (enc p.1), .sh (.int p.2), .u, .u, .u, .u, .u, .u] = some (.rt (.sh (.tup [.str (Str.ofString "wrong weight"), .int pl]))) := by
            generalize (pre.map (·.1)).map (enc : Nm → D) = SD
            by_cases g1 : p.2 < 0
            · simp [q101_5, g1, c2]
            · have g2 : 999 < p.2 := hw.resolve_left g1
              simp [q101_5, g1, g2, c2]
          exact ⟨_, fin _ (go_nx e2 (go_nx e3 (go_nx e4 (go_rt e5)))), by rw [← hpl]⟩
        · have hf : faultN (pre.map (·.1)) p = none := by rw [faultN, if_pos hn, if_neg hm, if_neg hw]
          rw [hf]
          have e5 : evS (run tab (k + 1)) q101_5 [.sh PD, .sh ED, .ow (.lst ((pre.map (·.1)).map enc)), .sh (.int pl), .sh (enc p.1), .sh (.int p.2), .u, .u, .u, .u, .u, .u] = some (.nx [.sh PD, .sh ED, .ow (.lst ((pre.map (·.1)).map enc)), .sh (.int pl), .sh (enc p.1), .sh (.int p.2), .u, .u, .u, .u, .u, .u]) := by
            have g1 : ¬ p.2 < 0 := fun z => hw (.inl z)
            have g2 : ¬ 999 < p.2 := fun z => hw (.inr z)
            generalize (pre.map (·.1)).map (enc : Nm → D) = SD
            simp [q101_5, g1, g2]
          have e6 : evS (run tab (k + 1)) q101_6 [.sh PD, .sh ED, .ow (.lst ((pre.map (·.1)).map enc)), .sh (.int pl), .sh (enc p.1), .sh (.int p.2), .u, .u, .u, .u, .u, .u] = some (.nx [.sh PD, .sh ED, .ow (.lst (((pre ++ [p]).map (·.1)).map enc)), .sh (.int pl), .sh (enc p.1), .sh (.int p.2), .u, .u, .u, .u, .u, .u]) := by
            rw [List.map_append, List.map_append, show List.map (enc : Nm → D) (List.map (·.1) [p]) = [enc p.1] from rfl]
            generalize (pre.map (·.1)).map (enc : Nm → D) = SD at hpre ⊢
            simp [q101_6, hpre]
          have st : forT (run tab (k + 1)) (.v 3) l101_0 [3, 4, 5] (.int pl) [.sh PD, .sh ED, .ow (.lst ((pre.map (·.1)).map enc)), .u, .u, .u, .u, .u, .u, .u, .u, .u] = some (.nx [.sh PD, .sh ED, .ow (.lst (((pre ++ [p]).map (·.1)).map enc)), .u, .u, .u, .u, .u, .u, .u, .u, .u]) :=
            Eq.trans (forT_nx (e1 := [.sh PD, .sh ED, .ow (.lst ((pre.map (·.1)).map enc)), .sh (.int pl), .u, .u, .u, .u, .u, .u, .u, .u]) rfl (go_nx e2 (go_nx e3 (go_nx e4 (go_nx e5 (go_nx e6 rfl)))))) rfl
          obtain ⟨out, ho, hm⟩ := loop101 k N ED rest (pre ++ [p]) (by rw [hP]; simp) (fun f hf => hs f (List.mem_cons_of_mem _ hf)) (by simp only [List.length_append, List.length_cons, List.length_nil] at hl ⊢; omega)
          refine ⟨out, ?_, ?_⟩
          · rw [forD, st, Option.bind_some]
            rw [List.length_append, List.length_singleton, hPL] at ho
            exact ho
          · rw [hPL] at hm
            show (match fstN (pre ++ [p]) rest with | some (w, j) => _ | none => _)
            cases hz : fstN (pre ++ [p]) rest with
            | some q => rw [hz] at hm; exact hm
            | none => rw [hz] at hm; rw [hm]; simp
    · have hf : faultN (pre.map (·.1)) p = some (Str.ofString "wrong name") := by rw [faultN, if_neg hn]
      rw [hf]
      have e3 : evS (run tab (k + 1)) q101_3 [.sh PD, .sh ED, .ow (.lst ((pre.map (·.1)).map enc)), .sh (.int pl), .sh (enc p.1), .sh (.int p.2), .u, .u, .u, .u, .u, .u] = some (.rt (.sh (.tup [.str (Str.ofString "wrong name"), .int pl]))) := by
        rw [Bool.not_eq_true] at hn
        rw [hn] at n1
        generalize (pre.map (·.1)).map (enc : Nm → D) = SD
        simp [q101_3, n1, c2]
      exact ⟨_, fin _ (go_nx e2 (go_rt e3)), by rw [← hpl]⟩

/-- group by group -/
def grpF (g : Nm → Nm) (a b : Nm) (pre : List Nm) : Nm → Nm := fun x => if x ∈ pre then joinL g a b x else g x
theorem putC {S : List Nm} (c : Nm → Nm) {x : Nm} (hx : x ∈ S) (v : Nm) : putN (S.map fun y => (y, c y)) x v = S.map fun y => (y, if y = x then v else c y) := by
  unfold putN
  rw [if_pos, List.map_map]
  · refine List.map_congr_left fun y _ => ?_
    simp only [Function.comp]
    split <;> rfl
  · rw [List.any_eq_true]
    exact ⟨(x, c x), List.mem_map.mpr ⟨x, hx, rfl⟩, by simp⟩
theorem cD_congr {S : List Nm} {c g : Nm → Nm} (h : ∀ x ∈ S, c x = g x) : cD S c = cD S g := by
  unfold cD
  congr 1
  exact List.map_congr_left fun x hx => by rw [h x hx]
/-- one edge: the groups behind it -/
theorem grp101 (k : Nat) (S : List Nm) (hn : S.Nodup) (hl : S.length ≤ 1000) (g : Nm → Nm) {a b : Nm} (ha : a ∈ S) (hb : b ∈ S) (hab : ¬ g a = g b) (ND ED RD cD0 pl : D) :
    evS (run tab (k + 1)) q101_18 [.sh ND, .sh ED, .sh (.lst (S.map enc)), .sh pl, .u, .u, .ow (cD S g), .ow RD, .sh (enc a), .sh (enc b), .sh cD0, .sh (enc (g a))] = some (.nx [.sh ND, .sh ED, .sh (.lst (S.map enc)), .sh pl, .u, .u, .ow (cD S (joinL g a b)), .ow RD, .sh (enc a), .sh (enc b), .sh cD0, .sh (enc (g a))]) := by
  have hi : evI (run tab (k + 1)) (.seq (.var 2)) [.sh ND, .sh ED, .sh (.lst (S.map enc)), .sh pl, .u, .u, .ow (cD S g), .ow RD, .sh (enc a), .sh (enc b), .sh cD0, .sh (enc (g a))] = some (S.map enc, [.sh ND, .sh ED, .sh (.lst (S.map enc)), .sh pl, .u, .u, .ow (cD S g), .ow RD, .sh (enc a), .sh (enc b), .sh cD0, .sh (enc (g a))]) := by
    generalize cD S g = KD
    simp
  have lp := forD_pre (f := (enc : Nm → D)) (l := S) (fun pre => [.sh ND, .sh ED, .sh (.lst (S.map enc)), .sh pl, .u, .u, .ow (cD S (grpF g a b pre)), .ow RD, .sh (enc a), .sh (enc b), .sh cD0, .sh (enc (g a))]) (step := forT (run tab (k + 1)) (.v 4) l101_3 [4]) fun pre x post hp => by
    refine .inl ?_
    have hx : x ∈ S := by rw [hp]; simp
    have hxp : x ∉ pre := fun z => by
      rw [hp, List.nodup_append] at hn
      exact hn.2.2 x z x (by simp) rfl
    have e1 : grpF g a b pre x = g x := by unfold grpF; rw [if_neg hxp]
    have e2 : grpF g a b pre b = g b := by
      unfold grpF joinL
      split
      · rw [if_neg fun z => hab z.symm]
      · rfl
    have x1 := ix_cD (c := grpF g a b pre) hx
    have x2 := ix_cD (c := grpF g a b pre) hb
    rw [e1] at x1
    rw [e2] at x2
    by_cases h : g x = g a
    · have hput : putV 6 (enc x) (enc (g b)) [.sh ND, .sh ED, .sh (.lst (S.map enc)), .sh pl, .sh (enc x), .u, .ow (cD S (grpF g a b pre)), .ow RD, .sh (enc a), .sh (enc b), .sh cD0, .sh (enc (g a))] = some [.sh ND, .sh ED, .sh (.lst (S.map enc)), .sh pl, .sh (enc x), .u, .ow (cD S (grpF g a b (pre ++ [x]))), .ow RD, .sh (enc a), .sh (enc b), .sh cD0, .sh (enc (g a))] := by
        have := put_dkV (f := (enc : Nm → D)) (env := [.sh ND, .sh ED, .sh (.lst (S.map enc)), .sh pl, .sh (enc x), .u, .ow (cD S (grpF g a b pre)), .ow RD, .sh (enc a), .sh (enc b), .sh cD0, .sh (enc (g a))]) (i := 6) (l := S.map fun y => (y, grpF g a b pre y)) (x := x) (v := g b) rfl (by rw [List.length_map]; simp only [bigLine]; omega)
        rw [this, putC _ hx]
        have e3 : dkN (enc : Nm → D) (S.map fun y => (y, if y = x then g b else grpF g a b pre y)) = cD S (grpF g a b (pre ++ [x])) := by
          show cD S (fun y => if y = x then g b else grpF g a b pre y) = _
          refine cD_congr fun y hy => ?_
          unfold grpF joinL
          by_cases hyx : y = x
          · subst hyx
            simp [h]
          · simp [hyx]
        rw [e3]
        rfl
      rw [h] at x1
      generalize cD S (grpF g a b pre) = K1 at *
      generalize cD S (grpF g a b (pre ++ [x])) = K2 at *
      generalize S.map (enc : Nm → D) = SD at *
      simp [forT, l101_3, q101_19, x1, x2, hput]
    · have e3 : cD S (grpF g a b (pre ++ [x])) = cD S (grpF g a b pre) := by
        refine cD_congr fun y hy => ?_
        unfold grpF joinL
        by_cases hyx : y = x
        · subst hyx
          simp [hxp, h]
        · simp [hyx]
      rw [e3]
      generalize cD S (grpF g a b pre) = K1 at *
      generalize S.map (enc : Nm → D) = SD at *
      simp [forT, l101_3, q101_19, x1, h]
  have h0 : cD S (grpF g a b []) = cD S g := cD_congr fun x _ => by simp [grpF]
  have h1 : cD S (grpF g a b S) = cD S (joinL g a b) := cD_congr fun x hx => by unfold grpF; rw [if_pos hx]
  rw [h0, h1] at lp
  exact go_for hi lp
theorem loop101b (k : Nat) (S : List Nm) (hn : S.Nodup) (hSl : S.length ≤ 1000) (ND : D) (E : List Edge) : ∀ (rest pre : List Edge) (g : Nm → Nm), E = pre ++ rest → pre.length + rest.length ≤ 1000 →
    ∃ out, forD (forT (run tab (k + 1)) (.v 3) l101_2 [3, 4, 8, 9, 10, 11]) (idxA pre.length rest) [.sh ND, .sh (.lst (E.map enc)), .sh (.lst (S.map enc)), .u, .u, .u, .ow (cD S g), .ow (.lst ((eRows pre).map enc)), .u, .u, .u, .u] = some out ∧
      match scanE S joinL g pre.length rest with
      | some (w, j) => out = .rt (.sh (.tup [.str w, .int (j : Nat)]))
      | none => ∃ g', out = .nx [.sh ND, .sh (.lst (E.map enc)), .sh (.lst (S.map enc)), .u, .u, .u, .ow (cD S g'), .ow (.lst ((eRows (pre ++ rest)).map enc)), .u, .u, .u, .u]
  | [], pre, g, hP, hl => ⟨_, rfl, ⟨g, by simp⟩⟩
  | e :: rest, pre, g, hP, hl => by
    have c2 : 2 ≤ bigLine := by simp [bigLine]
    have c3 : 3 ≤ bigLine := by simp [bigLine]
    have ee : (enc e : D) = .tup [enc e.a, enc e.b, .int e.c] := rfl
    have hat : ixV (.lst (E.map (enc : Edge → D))) (.int (pre.length : Nat)) = some (.tup [enc e.a, enc e.b, .int e.c]) := by
      show atI _ _ = _
      rw [atI_cast, List.getElem?_map, hP]
      simp [ee]
    unfold idxA scanE
    generalize hPL : D.lst (E.map (enc : Edge → D)) = PD at *
    generalize hpl : ((pre.length : Nat) : Int) = pl at hat
    have hrl : ((eRows pre).map (enc : Edge → D)).length < bigLine := by simp only [eRows, List.length_map, bigLine]; omega
    have i1 : Ts.inV (enc e.a) (.lst (S.map (enc : Nm → D))) = some (decide (e.a ∈ S)) := in_nm
    have i2 : Ts.inV (enc e.b) (.lst (S.map (enc : Nm → D))) = some (decide (e.b ∈ S)) := in_nm
    have e13 : evS (run tab (k + 1)) q101_13 [.sh ND, .sh PD, .sh (.lst (S.map enc)), .sh (.int pl), .u, .u, .ow (cD S g), .ow (.lst ((eRows pre).map enc)), .u, .u, .u, .u] = some (.nx [.sh ND, .sh PD, .sh (.lst (S.map enc)), .sh (.int pl), .u, .u, .ow (cD S g), .ow (.lst ((eRows pre).map enc)), .sh (enc e.a), .sh (enc e.b), .sh (.int e.c), .u]) := by
      generalize cD S g = KD
      generalize S.map (enc : Nm → D) = SD
      generalize (eRows pre).map (enc : Edge → D) = RD
      simp [q101_13, hat]
    have fin : ∀ v, evSs (run tab (k + 1)) l101_2 [.sh ND, .sh PD, .sh (.lst (S.map enc)), .sh (.int pl), .u, .u, .ow (cD S g), .ow (.lst ((eRows pre).map enc)), .u, .u, .u, .u] = some (.rt v) → forD (forT (run tab (k + 1)) (.v 3) l101_2 [3, 4, 8, 9, 10, 11]) (.int pl :: idxA (pre.length + 1) rest) [.sh ND, .sh PD, .sh (.lst (S.map enc)), .u, .u, .u, .ow (cD S g), .ow (.lst ((eRows pre).map enc)), .u, .u, .u, .u] = some (.rt v) := fun v hv => by
      have st : forT (run tab (k + 1)) (.v 3) l101_2 [3, 4, 8, 9, 10, 11] (.int pl) [.sh ND, .sh PD, .sh (.lst (S.map enc)), .u, .u, .u, .ow (cD S g), .ow (.lst ((eRows pre).map enc)), .u, .u, .u, .u] = some (.rt v) := forT_of (e1 := [.sh ND, .sh PD, .sh (.lst (S.map enc)), .sh (.int pl), .u, .u, .ow (cD S g), .ow (.lst ((eRows pre).map enc)), .u, .u, .u, .u]) rfl hv
      rw [forD, st]; rfl
    by_cases h1 : e.a ∈ S ∧ e.b ∈ S
    · rw [decide_eq_true h1.1] at i1
      rw [decide_eq_true h1.2] at i2
      have x1 := ix_cD (c := g) h1.1
      have x2 := ix_cD (c := g) h1.2
      have e14 : evS (run tab (k + 1)) q101_14 [.sh ND, .sh PD, .sh (.lst (S.map enc)), .sh (.int pl), .u, .u, .ow (cD S g), .ow (.lst ((eRows pre).map enc)), .sh (enc e.a), .sh (enc e.b), .sh (.int e.c), .u] = some (.nx [.sh ND, .sh PD, .sh (.lst (S.map enc)), .sh (.int pl), .u, .u, .ow (cD S g), .ow (.lst ((eRows pre).map enc)), .sh (enc e.a), .sh (enc e.b), .sh (.int e.c), .u]) := by
        generalize cD S g = KD
        generalize S.map (enc : Nm → D) = SD at i1 i2 ⊢
        generalize (eRows pre).map (enc : Edge → D) = RD
        simp [q101_14, i1, i2]
      by_cases h2 : 1 ≤ e.c ∧ e.c ≤ 999
      · have g1 : ¬ e.c < 1 := by omega
        have g2 : ¬ 999 < e.c := by omega
        have e15 : evS (run tab (k + 1)) q101_15 [.sh ND, .sh PD, .sh (.lst (S.map enc)), .sh (.int pl), .u, .u, .ow (cD S g), .ow (.lst ((eRows pre).map enc)), .sh (enc e.a), .sh (enc e.b), .sh (.int e.c), .u] = some (.nx [.sh ND, .sh PD, .sh (.lst (S.map enc)), .sh (.int pl), .u, .u, .ow (cD S g), .ow (.lst ((eRows pre).map enc)), .sh (enc e.a), .sh (enc e.b), .sh (.int e.c), .u]) := by
          generalize cD S g = KD
          generalize S.map (enc : Nm → D) = SD
          generalize (eRows pre).map (enc : Edge → D) = RD
          simp [q101_15, g1, g2]
        by_cases h3 : g e.a = g e.b
        · have hf : faultE S g e = some (Str.ofString "joined already") := by rw [faultE, if_pos h1, if_pos h2, if_pos h3]
          rw [hf]
          rw [h3] at x1
          have e16 : evS (run tab (k + 1)) q101_16 [.sh ND, .sh PD, .sh (.lst (S.map enc)), .sh (.int pl), .u, .u, .ow (cD S g), .ow (.lst ((eRows pre).map enc)), .sh (enc e.a), .sh (enc e.b), .sh (.int e.c), .u] = some (.rt (.sh (.tup [.str (Str.ofString "joined already"), .int pl]))) := by
            generalize cD S g = KD at x1 x2 ⊢
            generalize S.map (enc : Nm → D) = SD
            generalize (eRows pre).map (enc : Edge → D) = RD
            simp [q101_16, x1, x2, c2]
          exact ⟨_, fin _ (go_nx e13 (go_nx e14 (go_nx e15 (go_rt e16)))), by rw [← hpl]⟩
        · have hf : faultE S g e = none := by rw [faultE, if_pos h1, if_pos h2, if_neg h3]
          rw [hf]
          have e16 : evS (run tab (k + 1)) q101_16 [.sh ND, .sh PD, .sh (.lst (S.map enc)), .sh (.int pl), .u, .u, .ow (cD S g), .ow (.lst ((eRows pre).map enc)), .sh (enc e.a), .sh (enc e.b), .sh (.int e.c), .u] = some (.nx [.sh ND, .sh PD, .sh (.lst (S.map enc)), .sh (.int pl), .u, .u, .ow (cD S g), .ow (.lst ((eRows pre).map enc)), .sh (enc e.a), .sh (enc e.b), .sh (.int e.c), .u]) := by
            generalize cD S g = KD at x1 x2 ⊢
            generalize S.map (enc : Nm → D) = SD
            generalize (eRows pre).map (enc : Edge → D) = RD
            simp [q101_16, x1, x2, h3]
          have e17 : evS (run tab (k + 1)) q101_17 [.sh ND, .sh PD, .sh (.lst (S.map enc)), .sh (.int pl), .u, .u, .ow (cD S g), .ow (.lst ((eRows pre).map enc)), .sh (enc e.a), .sh (enc e.b), .sh (.int e.c), .u] = some (.nx [.sh ND, .sh PD, .sh (.lst (S.map enc)), .sh (.int pl), .u, .u, .ow (cD S g), .ow (.lst ((eRows pre).map enc)), .sh (enc e.a), .sh (enc e.b), .sh (.int e.c), .sh (enc (g e.a))]) := by
            generalize cD S g = KD at x1 x2 ⊢
            generalize S.map (enc : Nm → D) = SD
            generalize (eRows pre).map (enc : Edge → D) = RD
            simp [q101_17, x1]
          have e18 := grp101 k S hn hSl g h1.1 h1.2 h3 ND PD (.lst ((eRows pre).map enc)) (.int e.c) (.int pl)
          have e20 : evS (run tab (k + 1)) q101_20 [.sh ND, .sh PD, .sh (.lst (S.map enc)), .sh (.int pl), .u, .u, .ow (cD S (joinL g e.a e.b)), .ow (.lst ((eRows pre).map enc)), .sh (enc e.a), .sh (enc e.b), .sh (.int e.c), .sh (enc (g e.a))] = some (.nx [.sh ND, .sh PD, .sh (.lst (S.map enc)), .sh (.int pl), .u, .u, .ow (cD S (joinL g e.a e.b)), .ow (.lst ((eRows (pre ++ [e])).map enc)), .sh (enc e.a), .sh (enc e.b), .sh (.int e.c), .sh (enc (g e.a))]) := by
            have er : (eRows (pre ++ [e])).map (enc : Edge → D) = (eRows pre).map enc ++ [.tup [enc (minN e.a e.b), enc (maxN e.a e.b), .int e.c]] := by
              unfold eRows
              rw [List.map_append, List.map_append]
              rfl
            rw [er]
            generalize cD S (joinL g e.a e.b) = KD
            generalize S.map (enc : Nm → D) = SD
            generalize (eRows pre).map (enc : Edge → D) = RD at hrl ⊢
            simp [q101_20, hrl, c3]
          have st : forT (run tab (k + 1)) (.v 3) l101_2 [3, 4, 8, 9, 10, 11] (.int pl) [.sh ND, .sh PD, .sh (.lst (S.map enc)), .u, .u, .u, .ow (cD S g), .ow (.lst ((eRows pre).map enc)), .u, .u, .u, .u] = some (.nx [.sh ND, .sh PD, .sh (.lst (S.map enc)), .u, .u, .u, .ow (cD S (joinL g e.a e.b)), .ow (.lst ((eRows (pre ++ [e])).map enc)), .u, .u, .u, .u]) :=
            Eq.trans (forT_nx (e1 := [.sh ND, .sh PD, .sh (.lst (S.map enc)), .sh (.int pl), .u, .u, .ow (cD S g), .ow (.lst ((eRows pre).map enc)), .u, .u, .u, .u]) rfl (go_nx e13 (go_nx e14 (go_nx e15 (go_nx e16 (go_nx e17 (go_nx e18 (go_nx e20 rfl)))))))) rfl
          obtain ⟨out, ho, hm2⟩ := loop101b k S hn hSl ND E rest (pre ++ [e]) (joinL g e.a e.b) (by rw [hP]; simp) (by simp only [List.length_append, List.length_cons, List.length_nil] at hl ⊢; omega)
          rw [List.length_append, List.length_singleton] at ho hm2
          refine ⟨out, ?_, ?_⟩
          · rw [forD, st, Option.bind_some]
            rw [hPL] at ho
            exact ho
          · rw [hPL] at hm2
            show (match scanE S joinL (joinL g e.a e.b) (pre.length + 1) rest with | some (w, j) => _ | none => _)
            cases hz : scanE S joinL (joinL g e.a e.b) (pre.length + 1) rest with
            | some q => rw [hz] at hm2; exact hm2
            | none =>
              rw [hz] at hm2
              obtain ⟨g', hg⟩ := hm2
              exact ⟨g', by rw [hg]; simp⟩
      · have hf : faultE S g e = some (Str.ofString "wrong length") := by rw [faultE, if_pos h1, if_neg h2]
        rw [hf]
        have e15 : evS (run tab (k + 1)) q101_15 [.sh ND, .sh PD, .sh (.lst (S.map enc)), .sh (.int pl), .u, .u, .ow (cD S g), .ow (.lst ((eRows pre).map enc)), .sh (enc e.a), .sh (enc e.b), .sh (.int e.c), .u] = some (.rt (.sh (.tup [.str (Str.ofString "wrong length"), .int pl]))) := by
          generalize cD S g = KD
          generalize S.map (enc : Nm → D) = SD
          generalize (eRows pre).map (enc : Edge → D) = RD
          by_cases g1 : e.c < 1
          · simp [q101_15, g1, c2]
          · have g2 : 999 < e.c := by omega
            simp [q101_15, g1, g2, c2]
        exact ⟨_, fin _ (go_nx e13 (go_nx e14 (go_rt e15))), by rw [← hpl]⟩
    · have hf : faultE S g e = some (Str.ofString "unknown node") := by rw [faultE, if_neg h1]
      rw [hf]
      have e14 : evS (run tab (k + 1)) q101_14 [.sh ND, .sh PD, .sh (.lst (S.map enc)), .sh (.int pl), .u, .u, .ow (cD S g), .ow (.lst ((eRows pre).map enc)), .sh (enc e.a), .sh (enc e.b), .sh (.int e.c), .u] = some (.rt (.sh (.tup [.str (Str.ofString "unknown node"), .int pl]))) := by
        by_cases h2 : e.a ∈ S
        · have h3 : e.b ∉ S := fun z => h1 ⟨h2, z⟩
          rw [decide_eq_true h2] at i1
          rw [decide_eq_false h3] at i2
          generalize cD S g = KD
          generalize S.map (enc : Nm → D) = SD at i1 i2 ⊢
          generalize (eRows pre).map (enc : Edge → D) = RD
          simp [q101_14, i1, i2, c2]
        · rw [decide_eq_false h2] at i1
          generalize cD S g = KD
          generalize S.map (enc : Nm → D) = SD at i1 i2 ⊢
          generalize (eRows pre).map (enc : Edge → D) = RD
          simp [q101_14, i1, c2]
      exact ⟨_, fin _ (go_nx e13 (go_rt e14)), by rw [← hpl]⟩

theorem r_due101 (k : Nat) (N : List (Nm × Int)) (hs : ShortN N) (hl : N.length ≤ 1000) (E : List Edge) (hE : E.length ≤ 1000) : run tab (k + 2) 101 [.lst (N.map enc), .lst (E.map enc)] = some (.sh (out01 N E)) := by
  have hst : startE x101 [.lst (N.map enc), .lst (E.map enc)] = [.sh (.lst (N.map enc)), .sh (.lst (E.map enc)), .u, .u, .u, .u, .u, .u, .u, .u, .u, .u] := rfl
  have c2 : 2 ≤ bigLine := by simp [bigLine]
  refine run_at (fx := x101) rfl rfl ?_
  rw [hst]
  have e0 : evS (run tab (k + 1)) q101_0 [.sh (.lst (N.map enc)), .sh (.lst (E.map enc)), .u, .u, .u, .u, .u, .u, .u, .u, .u, .u] = some (.nx [.sh (.lst (N.map enc)), .sh (.lst (E.map enc)), .ow (.lst (((([] : List (Nm × Int))).map (·.1)).map enc)), .u, .u, .u, .u, .u, .u, .u, .u, .u]) := by
    generalize N.map (enc : Nm × Int → D) = PL
    generalize E.map (enc : Edge → D) = EL
    simp [q101_0]
  obtain ⟨out, ho, hm⟩ := loop101 k N (.lst (E.map enc)) N [] rfl hs (by simp; omega)
  have hlN : biV .len [.lst (N.map (enc : Nm × Int → D))] = some (.sh (.int N.length)) := by rw [len_lst, List.length_map]
  have hlE : biV .len [.lst (E.map (enc : Edge → D))] = some (.sh (.int E.length)) := by rw [len_lst, List.length_map]
  have hi : evI (run tab (k + 1)) (.rng1 (.bi .len (.cons (.var 0) .nil))) [.sh (.lst (N.map enc)), .sh (.lst (E.map enc)), .ow (.lst (((([] : List (Nm × Int))).map (·.1)).map enc)), .u, .u, .u, .u, .u, .u, .u, .u, .u] = some (idxA 0 N, [.sh (.lst (N.map enc)), .sh (.lst (E.map enc)), .ow (.lst (((([] : List (Nm × Int))).map (·.1)).map enc)), .u, .u, .u, .u, .u, .u, .u, .u, .u]) := by
    rw [← idxA_range]
    have h1 : N.length < rngLine := by simp only [rngLine]; omega
    generalize D.lst (N.map (enc : Nm × Int → D)) = PL at hlN ⊢
    generalize E.map (enc : Edge → D) = EL
    simp [hlN, h1]
  have e1 : evS (run tab (k + 1)) q101_1 [.sh (.lst (N.map enc)), .sh (.lst (E.map enc)), .ow (.lst (((([] : List (Nm × Int))).map (·.1)).map enc)), .u, .u, .u, .u, .u, .u, .u, .u, .u] = some out := by
    rw [q101_1, ev_for]; simp only [hi, Option.bind_some]; exact ho
  unfold out01 res01
  cases hf : fstN [] N with
  | some q =>
    obtain ⟨w, j⟩ := q
    rw [hf] at hm
    subst hm
    have hr : resN N = some (w, (j : Int)) := by unfold resN; rw [hf]
    rw [hr]
    exact go_nx e0 (go_rt e1)
  | none =>
    rw [hf] at hm
    dsimp only at hm
    rw [List.nil_append] at hm
    subst hm
    by_cases hc : 1 ≤ N.length ∧ N.length ≤ 12
    · have hr : resN N = none := by unfold resN; rw [hf]; exact if_pos hc
      rw [hr]
      dsimp only
      obtain ⟨hn, -, -⟩ := resN_none hr
      have hSl : (N.map (·.1)).length = N.length := List.length_map ..
      have e7 : evS (run tab (k + 1)) q101_7 [.sh (.lst (N.map enc)), .sh (.lst (E.map enc)), .ow (.lst ((N.map (·.1)).map enc)), .u, .u, .u, .u, .u, .u, .u, .u, .u] = some (.nx [.sh (.lst (N.map enc)), .sh (.lst (E.map enc)), .ow (.lst ((N.map (·.1)).map enc)), .u, .u, .u, .u, .u, .u, .u, .u, .u]) := by
        have g1 : ¬ (N.length : Int) < 1 := by omega
        have g2 : ¬ 12 < (N.length : Int) := by omega
        generalize D.lst (N.map (enc : Nm × Int → D)) = PL at hlN ⊢
        generalize (N.map (·.1)).map (enc : Nm → D) = SD
        generalize E.map (enc : Edge → D) = EL
        generalize (N.length : Int) = n at hlN g1 g2
        simp [q101_7, hlN, g1, g2]
      generalize hS : N.map (·.1) = S at *
      have e8 : evS (run tab (k + 1)) q101_8 [.sh (.lst (N.map enc)), .sh (.lst (E.map enc)), .ow (.lst (S.map enc)), .u, .u, .u, .u, .u, .u, .u, .u, .u] = some (.nx [.sh (.lst (N.map enc)), .sh (.lst (E.map enc)), .ow (.lst (S.map enc)), .u, .u, .u, .ow (cD [] id), .u, .u, .u, .u, .u]) := by
        have : cD [] id = .dk [] := rfl
        rw [this]
        generalize N.map (enc : Nm × Int → D) = PL
        generalize E.map (enc : Edge → D) = EL
        generalize S.map (enc : Nm → D) = SD
        simp [q101_8]
      have e9 : evS (run tab (k + 1)) q101_9 [.sh (.lst (N.map enc)), .sh (.lst (E.map enc)), .ow (.lst (S.map enc)), .u, .u, .u, .ow (cD [] id), .u, .u, .u, .u, .u] = some (.nx [.sh (.lst (N.map enc)), .sh (.lst (E.map enc)), .sh (.lst (S.map enc)), .u, .u, .u, .ow (cD S id), .u, .u, .u, .u, .u]) := by
        have hi9 : evI (run tab (k + 1)) (.seq (.var 2)) [.sh (.lst (N.map enc)), .sh (.lst (E.map enc)), .ow (.lst (S.map enc)), .u, .u, .u, .ow (cD [] id), .u, .u, .u, .u, .u] = some (S.map enc, [.sh (.lst (N.map enc)), .sh (.lst (E.map enc)), .sh (.lst (S.map enc)), .u, .u, .u, .ow (cD [] id), .u, .u, .u, .u, .u]) := by
          generalize cD [] id = KD
          generalize N.map (enc : Nm × Int → D) = PL
          generalize E.map (enc : Edge → D) = EL
          simp
        refine go_for hi9 (forD_pre (f := (enc : Nm → D)) (l := S) (fun pre => [.sh (.lst (N.map enc)), .sh (.lst (E.map enc)), .sh (.lst (S.map enc)), .u, .u, .u, .ow (cD pre id), .u, .u, .u, .u, .u]) fun pre x post hp => .inl ?_)
        have hnew : getN (pre.map fun x => (x, id x)) x = none := by
          rw [getN_none, List.map_map]
          simp only [Function.comp_def, List.map_id']
          rw [hp, List.nodup_append] at hn
          exact fun z => hn.2.2 x z x (by simp) rfl
        have hpl : pre.length ≤ S.length := by rw [hp]; simp
        have hput : putV 6 (enc x) (enc x) [.sh (.lst (N.map enc)), .sh (.lst (E.map enc)), .sh (.lst (S.map enc)), .u, .sh (enc x), .u, .ow (cD pre id), .u, .u, .u, .u, .u] = some [.sh (.lst (N.map enc)), .sh (.lst (E.map enc)), .sh (.lst (S.map enc)), .u, .sh (enc x), .u, .ow (cD (pre ++ [x]) id), .u, .u, .u, .u, .u] := by
          have := put_dkV (f := (enc : Nm → D)) (env := [.sh (.lst (N.map enc)), .sh (.lst (E.map enc)), .sh (.lst (S.map enc)), .u, .sh (enc x), .u, .ow (cD pre id), .u, .u, .u, .u, .u]) (i := 6) (l := pre.map fun y => (y, id y)) (x := x) (v := x) rfl (by rw [List.length_map]; simp only [bigLine]; omega)
          rw [this, putN_new hnew]
          have e3 : dkN (enc : Nm → D) ((pre.map fun y => (y, id y)) ++ [(x, x)]) = cD (pre ++ [x]) id := by
            unfold cD
            rw [List.map_append]
            rfl
          rw [e3]
          rfl
        generalize cD pre id = K1 at hput ⊢
        generalize cD (pre ++ [x]) id = K2 at hput ⊢
        generalize D.lst (N.map (enc : Nm × Int → D)) = PL at hput ⊢
        generalize D.lst (E.map (enc : Edge → D)) = EL at hput ⊢
        generalize D.lst (S.map (enc : Nm → D)) = SD at hput ⊢
        simp [forT, l101_1, q101_10, hput]
      have e11 : evS (run tab (k + 1)) q101_11 [.sh (.lst (N.map enc)), .sh (.lst (E.map enc)), .sh (.lst (S.map enc)), .u, .u, .u, .ow (cD S id), .u, .u, .u, .u, .u] = some (.nx [.sh (.lst (N.map enc)), .sh (.lst (E.map enc)), .sh (.lst (S.map enc)), .u, .u, .u, .ow (cD S id), .ow (.lst ((eRows []).map enc)), .u, .u, .u, .u]) := by
        generalize cD S id = KD
        generalize N.map (enc : Nm × Int → D) = PL
        generalize E.map (enc : Edge → D) = EL
        generalize S.map (enc : Nm → D) = SD
        simp [q101_11, eRows]
      obtain ⟨out2, ho2, hm2⟩ := loop101b k S hn (by omega) (.lst (N.map enc)) E E [] id rfl (by simp; omega)
      have hi12 : evI (run tab (k + 1)) (.rng1 (.bi .len (.cons (.var 1) .nil))) [.sh (.lst (N.map enc)), .sh (.lst (E.map enc)), .sh (.lst (S.map enc)), .u, .u, .u, .ow (cD S id), .ow (.lst ((eRows []).map enc)), .u, .u, .u, .u] = some (idxA 0 E, [.sh (.lst (N.map enc)), .sh (.lst (E.map enc)), .sh (.lst (S.map enc)), .u, .u, .u, .ow (cD S id), .ow (.lst ((eRows []).map enc)), .u, .u, .u, .u]) := by
        rw [← idxA_range]
        have h1 : E.length < rngLine := by simp only [rngLine]; omega
        generalize D.lst (E.map (enc : Edge → D)) = EL at hlE ⊢
        generalize cD S id = KD
        generalize N.map (enc : Nm × Int → D) = PL
        generalize S.map (enc : Nm → D) = SD
        generalize (eRows []).map (enc : Edge → D) = RD
        simp [hlE, h1]
      have e12 : evS (run tab (k + 1)) q101_12 [.sh (.lst (N.map enc)), .sh (.lst (E.map enc)), .sh (.lst (S.map enc)), .u, .u, .u, .ow (cD S id), .ow (.lst ((eRows []).map enc)), .u, .u, .u, .u] = some out2 := by
        rw [q101_12, ev_for]; simp only [hi12, Option.bind_some]; exact ho2
      have hscan : scanE S joinP id 0 E = scanE S joinL id 0 E := scan_same fun x _ y _ => Iff.rfl
      rw [show ([] : List Edge).length = 0 from rfl] at hm2
      cases hz : scanE S joinL id 0 E with
      | some q =>
        obtain ⟨w, j⟩ := q
        rw [hz] at hm2
        subst hm2
        have hr2 : resE S E = some (w, (j : Int)) := by unfold resE; rw [hscan, hz]
        rw [hr2]
        exact go_nx e0 (go_nx e1 (go_nx e7 (go_nx e8 (go_nx e9 (go_nx e11 (go_rt e12))))))
      | none =>
        rw [hz] at hm2
        obtain ⟨g', hg⟩ := hm2
        rw [List.nil_append] at hg
        subst hg
        have hlR : biV .len [.lst ((eRows E).map (enc : Edge → D))] = some (.sh (.int E.length)) := by rw [len_lst]; simp [eRows]
        by_cases hcj : (E.length : Int) + 1 < (S.length : Int)
        · have hr2 : resE S E = some (Str.ofString "not joined", (E.length : Int)) := by unfold resE; rw [hscan, hz]; exact if_pos hcj
          rw [hr2]
          have e21 : evS (run tab (k + 1)) q101_21 [.sh (.lst (N.map enc)), .sh (.lst (E.map enc)), .sh (.lst (S.map enc)), .u, .u, .u, .ow (cD S g'), .ow (.lst ((eRows E).map enc)), .u, .u, .u, .u] = some (.rt (.sh (.tup [.str (Str.ofString "not joined"), .int E.length]))) := by
            have g1 : (E.length : Int) < (N.length : Int) - 1 := by omega
            generalize cD S g' = KD
            generalize D.lst (N.map (enc : Nm × Int → D)) = PL at hlN ⊢
            generalize D.lst (E.map (enc : Edge → D)) = EL at hlE ⊢
            generalize (eRows E).map (enc : Edge → D) = RD at hlR ⊢
            generalize S.map (enc : Nm → D) = SD
            generalize (E.length : Int) = m at hlE hlR g1 ⊢
            generalize (N.length : Int) = n at hlN g1
            simp [q101_21, hlN, hlE, hlR, g1, c2]
          exact go_nx e0 (go_nx e1 (go_nx e7 (go_nx e8 (go_nx e9 (go_nx e11 (go_nx e12 (go_rt e21)))))))
        · have hr2 : resE S E = none := by unfold resE; rw [hscan, hz]; exact if_neg hcj
          rw [hr2]
          have e21 : evS (run tab (k + 1)) q101_21 [.sh (.lst (N.map enc)), .sh (.lst (E.map enc)), .sh (.lst (S.map enc)), .u, .u, .u, .ow (cD S g'), .ow (.lst ((eRows E).map enc)), .u, .u, .u, .u] = some (.nx [.sh (.lst (N.map enc)), .sh (.lst (E.map enc)), .sh (.lst (S.map enc)), .u, .u, .u, .ow (cD S g'), .ow (.lst ((eRows E).map enc)), .u, .u, .u, .u]) := by
            have g1 : ¬ (E.length : Int) < (N.length : Int) - 1 := by omega
            generalize cD S g' = KD
            generalize D.lst (N.map (enc : Nm × Int → D)) = PL at hlN ⊢
            generalize D.lst (E.map (enc : Edge → D)) = EL at hlE ⊢
            generalize (eRows E).map (enc : Edge → D) = RD at hlR ⊢
            generalize S.map (enc : Nm → D) = SD
            generalize (E.length : Int) = m at hlE hlR g1 ⊢
            generalize (N.length : Int) = n at hlN g1
            simp [q101_21, hlN, hlE, hlR, g1]
          refine go_nx e0 (go_nx e1 (go_nx e7 (go_nx e8 (go_nx e9 (go_nx e11 (go_nx e12 (go_nx e21 (go_rt ?_))))))))
          have hso := sorted_enc (α := Nm × Int) (by decide) (l := N) (by simp only [bigLine]; omega)
          have hso2 := sorted_enc (α := Edge) (by decide) (l := eRows E) (by simp only [eRows, List.length_map, bigLine]; omega)
          rw [treeD]
          generalize (sortE N).map (enc : Nm × Int → D) = TN at hso ⊢
          generalize (sortE (eRows E)).map (enc : Edge → D) = TE at hso2 ⊢
          generalize (eRows E).map (enc : Edge → D) = RD at hso2 ⊢
          generalize N.map (enc : Nm × Int → D) = ND at hso ⊢
          generalize E.map (enc : Edge → D) = ED
          generalize S.map (enc : Nm → D) = SD
          generalize cD S g' = KD
          simp [q101_22, hso, hso2, c2]
    · have hr : resN N = some (Str.ofString "wrong number of nodes", (N.length : Int)) := by unfold resN; rw [hf]; exact if_neg hc
      rw [hr]
      dsimp only
      have e7 : evS (run tab (k + 1)) q101_7 [.sh (.lst (N.map enc)), .sh (.lst (E.map enc)), .ow (.lst ((N.map (·.1)).map enc)), .u, .u, .u, .u, .u, .u, .u, .u, .u] = some (.rt (.sh (.tup [.str (Str.ofString "wrong number of nodes"), .int N.length]))) := by
        generalize D.lst (N.map (enc : Nm × Int → D)) = PL at hlN ⊢
        generalize (N.map (·.1)).map (enc : Nm → D) = SD
        generalize E.map (enc : Edge → D) = EL
        by_cases g1 : (N.length : Int) < 1
        · generalize (N.length : Int) = n at hlN g1 ⊢
          simp [q101_7, hlN, g1, c2]
        · have g2 : 12 < (N.length : Int) := by omega
          generalize (N.length : Int) = n at hlN g1 g2 ⊢
          simp [q101_7, hlN, g1, g2, c2]
      exact go_nx e0 (go_nx e1 (go_rt e7))
theorem fstN_ok : ∀ {rest pre : List (Nm × Int)} {w : Str} {j : Nat}, fstN pre rest = some (w, j) → PyData.canLay0 (.str w) = true
  | [], pre, w, j, h => by cases h
  | p :: l, pre, w, j, h => by
    unfold fstN at h
    split at h
    · rename_i h1
      cases h
      unfold faultN at h1
      split at h1
      · split at h1
        · cases h1; decide +kernel
        · split at h1
          · cases h1; decide +kernel
          · cases h1
      · cases h1; decide +kernel
    · exact fstN_ok h
theorem scanE_ok {S : List Nm} {jn : (Nm → Nm) → Nm → Nm → Nm → Nm} : ∀ {l : List Edge} {c : Nm → Nm} {i : Nat} {w : Str} {j : Nat}, scanE S jn c i l = some (w, j) → PyData.canLay0 (.str w) = true
  | [], _, _, w, j, h => by cases h
  | e :: l, c, i, w, j, h => by
    unfold scanE at h
    split at h
    · rename_i h1
      cases h
      unfold faultE at h1
      split at h1
      · split at h1
        · split at h1
          · cases h1; decide +kernel
          · cases h1
        · cases h1; decide +kernel
      · cases h1; decide +kernel
    · exact scanE_ok h
theorem out01_eq (N : List (Nm × Int)) (E : List Edge) : eqV (out01 N E) (out01 N E) = some true ∧ (out01 N E).flat = true := by
  unfold out01
  cases h : res01 N E with
  | none =>
    refine ⟨?_, treeD_flat N E⟩
    have hok : (treeD N E).ok 60 = true := by
      show (D.oks ((sortE N).map enc) 58 && (D.oks ((sortE (eRows E)).map enc) 58 && true)) = true
      rw [oks_enc (α := Nm × Int) (by decide), oks_enc (α := Edge) (by decide)]
      rfl
    show eqV (treeD N E) (treeD N E) = some true
    rw [eqV_ok hok hok]
    simp [beq_iff _ _ 60 hok]
  | some q =>
    obtain ⟨w, j⟩ := q
    refine ⟨?_, rfl⟩
    have hw : PyData.canLay0 (.str w) = true := by
      unfold res01 resN at h
      cases h1 : fstN [] N with
      | some q =>
        obtain ⟨w', j'⟩ := q
        rw [h1] at h
        cases h
        exact fstN_ok h1
      | none =>
        rw [h1] at h
        dsimp only at h
        split at h
        · rename_i q hq
          split at hq
          · cases hq
          · cases hq
            cases h
            decide +kernel
        · unfold resE at h
          split at h
          · rename_i w' j' h2
            cases h
            exact scanE_ok h2
          · split at h
            · cases h; decide +kernel
            · cases h
    have hok : (D.tup [.str w, .int j]).ok 60 = true := by
      show (PyData.canLay0 (.str w) && (true && true)) = true
      rw [hw]; rfl
    show eqV (D.tup [.str w, .int j]) (D.tup [.str w, .int j]) = some true
    rw [eqV_ok hok hok]
    simp [beq_iff _ _ 60 hok]

/-! drawn trees, with letters -/
def letterS (i : Nat) : Str := ⟨#[97 + i]⟩
def sufs : List Str := ["", "1", "x9"]
theorem letter_ok : ∀ i ∈ List.range 26, ∀ s ∈ sufs, PyData.canLay0 (.str (letterS i ++ s)) = true := by decide +kernel
theorem letter_at : ∀ i ∈ List.range 26, ("abcdefghijklmnopqrstuvwxyz" : Str).cps.toList[i]? = some (97 + i) := by decide +kernel
theorem ix_letter {i : Int} (h0 : 0 ≤ i) (h1 : i < 26) : ixV (.str "abcdefghijklmnopqrstuvwxyz") (.int i) = some (.str (letterS i.toNat)) := by
  have : ("abcdefghijklmnopqrstuvwxyz" : Str).length ≤ bigLine := by decide +kernel
  simp only [ixV, this, if_true, atI_nn h0]
  rw [letter_at i.toNat (List.mem_range.mpr (by omega))]
  rfl
theorem letter_inj {i j : Nat} {s : Str} (h : letterS i ++ s = letterS j ++ s) : i = j := by
  have h1 : (letterS i ++ s).cps.toList = (letterS j ++ s).cps.toList := congrArg (fun z : Str => z.cps.toList) h
  have h2 : ∀ i, (letterS i ++ s).cps.toList = (97 + i) :: s.cps.toList := fun i => by
    show (#[97 + i] ++ s.cps).toList = _
    simp
  rw [h2, h2, List.cons.injEq] at h1
  omega
theorem letter_len (i : Nat) : (letterS i).length = 1 := rfl
theorem suf_len : ∀ s ∈ sufs, s.length ≤ 2 := by decide +kernel
theorem steps_inj {m : Int} (hm : m ∈ [(1 : Int), 3, 5, 7, 9, 11, 17]) {h : Int} {i j : Nat} (hi : i < 12) (hj : j < 12) (e : (h + m * i) % 26 = (h + m * j) % 26) : i = j := by
  simp only [List.mem_cons, List.not_mem_nil, or_false] at hm
  rcases hm with rfl | rfl | rfl | rfl | rfl | rfl | rfl <;> omega
/-- a letter and an ending -/
def Lett (x : Nm) : Prop := ∃ i ∈ List.range 26, ∃ s ∈ sufs, x.s = letterS i ++ s
theorem r_parts32 (k : Nat) (ns : List Int) (j : Nat) (hj : j < 900) :
    ∃ (nd : List Node) (ed : List Edge), run tab (k + 3) 32 [.scr ns, .int j] = some (.sh (.tup [.lst (nd.map enc), .lst (ed.map enc)])) ∧ TreeG nd (ed.map fun e => mkE e.a e.b e.c) ∧ Tame nd ed ∧ nd.length ≤ 12 ∧ ed.length + 1 = nd.length ∧ ∀ n ∈ nd, Lett n.1 := by
  obtain ⟨hs, hr, hD⟩ := r_drawM k ns j (by omega) [12, 4, 3, 26, 7] (by simp) (by simp)
  obtain ⟨ds, hr2, hD2⟩ := r_drawM k ns (j + 1) (by omega) (List.replicate 12 [97, 1000, 10, 12]).flatten (by
    intro s hs
    simp at hs
    rcases hs with h | h | h | h <;> omega) (by simp)
  have hl1 : hs.length = 5 := by rw [hD.1]; simp
  have hl2 : ds.length = 48 := by rw [hD2.1]; simp
  obtain ⟨h0, h1, h2, h3, h4, rfl⟩ : ∃ a b c d e, hs = [a, b, c, d, e] := by
    match hs, hl1 with
    | [a, b, c, d, e], _ => exact ⟨a, b, c, d, e, rfl⟩
  have g0 := hD.2 0 (by simp) (by simp)
  have g1 := hD.2 1 (by simp) (by simp)
  have g2 := hD.2 2 (by simp) (by simp)
  have g3 := hD.2 3 (by simp) (by simp)
  have g4 := hD.2 4 (by simp) (by simp)
  simp only [List.getElem_cons_zero, List.getElem_cons_succ] at g0 g1 g2 g3 g4
  have hr' : run tab (k + 2) 31 [.scr ns, .int j, .lst [.int 12, .int 4, .int 3, .int 26, .int 7]] = some (.ow (.lst [.int h0, .int h1, .int h2, .int h3, .int h4])) := hr
  have hr2' : run tab (k + 2) 31 [.scr ns, .int (j + 1), .lst (List.replicate 12 [D.int 97, D.int 1000, D.int 10, D.int 12]).flatten] = some (.ow (.lst (ds.map enc))) := hr2
  simp at hr2'
  have b5 : (5 : Nat) ≤ bigLine := by simp [bigLine]
  have b4 : (4 : Nat) ≤ bigLine := by simp [bigLine]
  have b48 : (48 : Nat) ≤ bigLine := by simp [bigLine]
  let H : D := .lst [.int h0, .int h1, .int h2, .int h3, .int h4]
  have e0 : evS (run tab (k + 2)) q32_0 (startE x32 [.scr ns, .int j]) = some (.nx [.sh (.scr ns), .sh (.int j), .ow H, .u, .u, .u, .u, .u, .u, .u, .u, .u]) := by
    simp [q32_0, startE, x32, hr', b5, H]
  obtain ⟨many, hm0, hm1, e12⟩ : ∃ many : Nat, 1 ≤ many ∧ many ≤ 12 ∧ ∀ ss, evSs (run tab (k + 2)) (.cons q32_1 (.cons q32_2 ss)) [.sh (.scr ns), .sh (.int j), .ow H, .u, .u, .u, .u, .u, .u, .u, .u, .u] = evSs (run tab (k + 2)) ss [.sh (.scr ns), .sh (.int j), .ow H, .sh (.int many), .u, .u, .u, .u, .u, .u, .u, .u] := by
    by_cases c : 0 < h1
    · refine ⟨(1 + h0 % 8).toNat, by omega, by omega, fun ss => ?_⟩
      have c2 : (((1 + h0 % 8).toNat : Nat) : Int) = 1 + h0 % 8 := by omega
      rw [c2]
      simp [q32_1, q32_2, H, c]
    · refine ⟨(1 + h0).toNat, by omega, by omega, fun ss => ?_⟩
      have c2 : (((1 + h0).toNat : Nat) : Int) = 1 + h0 := by omega
      rw [c2]
      simp [q32_1, q32_2, H, c]
  let DS : D := .lst (ds.map enc)
  have e3 : evS (run tab (k + 2)) q32_3 [.sh (.scr ns), .sh (.int j), .ow H, .sh (.int many), .u, .u, .u, .u, .u, .u, .u, .u] = some (.nx [.sh (.scr ns), .sh (.int j), .ow H, .sh (.int many), .ow DS, .u, .u, .u, .u, .u, .u, .u]) := by
    simp [q32_3, hr2', b4, b48, DS]
  have e4 : evS (run tab (k + 2)) q32_4 [.sh (.scr ns), .sh (.int j), .ow H, .sh (.int many), .ow DS, .u, .u, .u, .u, .u, .u, .u] = some (.nx [.sh (.scr ns), .sh (.int j), .ow H, .sh (.int many), .ow DS, .ow (.lst []), .u, .u, .u, .u, .u, .u]) := by
    simp [q32_4, bigLine]
  -- the names
  obtain ⟨m, hm, hmi⟩ : ∃ m : Int, atI [D.int 1, D.int 3, D.int 5, D.int 7, D.int 9, D.int 11, D.int 17] h4 = some (.int m) ∧ m ∈ [(1 : Int), 3, 5, 7, 9, 11, 17] := by
    have : h4 = 0 ∨ h4 = 1 ∨ h4 = 2 ∨ h4 = 3 ∨ h4 = 4 ∨ h4 = 5 ∨ h4 = 6 := by omega
    rcases this with rfl | rfl | rfl | rfl | rfl | rfl | rfl
    · exact ⟨1, rfl, by simp⟩
    · exact ⟨3, rfl, by simp⟩
    · exact ⟨5, rfl, by simp⟩
    · exact ⟨7, rfl, by simp⟩
    · exact ⟨9, rfl, by simp⟩
    · exact ⟨11, rfl, by simp⟩
    · exact ⟨17, rfl, by simp⟩
  obtain ⟨sf, hsf, hsi⟩ : ∃ s : Str, atI [D.str "", D.str "1", D.str "x9"] h2 = some (.str s) ∧ s ∈ sufs := by
    have : h2 = 0 ∨ h2 = 1 ∨ h2 = 2 := by omega
    rcases this with rfl | rfl | rfl
    · exact ⟨"", rfl, by simp [sufs]⟩
    · exact ⟨"1", rfl, by simp [sufs]⟩
    · exact ⟨"x9", rfl, by simp [sufs]⟩
  have hmod : ∀ i : Nat, 0 ≤ (h3 + m * i) % 26 ∧ (h3 + m * i) % 26 < 26 := fun i => ⟨Int.emod_nonneg _ (by omega), Int.emod_lt_of_pos _ (by omega)⟩
  let nmo : Nat → Nm := fun i => ⟨letterS ((h3 + m * i) % 26).toNat ++ sf, letter_ok _ (List.mem_range.mpr (by have := hmod i; omega)) _ hsi⟩
  have nmo_inj : ∀ {a b : Nat}, a < 12 → b < 12 → nmo a = nmo b → a = b := fun {a b} ha hb e => by
    have e1 : letterS ((h3 + m * a) % 26).toNat ++ sf = letterS ((h3 + m * b) % 26).toNat ++ sf := congrArg Nm.s e
    have e2 := letter_inj e1
    have p1 := hmod a
    have p2 := hmod b
    exact steps_inj hmi ha hb (h := h3) (by omega)
  have hmm : m.natAbs < mulLine := by
    simp only [List.mem_cons, List.not_mem_nil, or_false] at hmi
    simp only [mulLine]
    rcases hmi with rfl | rfl | rfl | rfl | rfl | rfl | rfl <;> decide
  have lt12 : ∀ {n : Nat}, n ≤ 12 → n < bigLine := fun h => by simp only [bigLine]; omega
  have lr : many < rngLine := by simp only [rngLine]; omega
  have b7 : (7 : Nat) ≤ bigLine := by simp [bigLine]
  have b3 : (3 : Nat) ≤ bigLine := by simp [bigLine]
  have b2 : (2 : Nat) ≤ bigLine := by simp [bigLine]
  have lp := forD_range (fun i => [.sh (.scr ns), .sh (.int j), .ow H, .sh (.int many), .ow DS, .ow (.lst ((List.range i).map fun i => enc (nmo i))), .u, .u, .u, .u, .u, .u]) (step := forT (run tab (k + 2)) (.v 6) l32_0 [6]) (n := many) fun i hi => by
    refine .inl ?_
    have p := hmod i
    have hx := ix_letter p.1 p.2
    have hadd : binV .Add (.str (letterS ((h3 + m * i) % 26).toNat)) (.str sf) = some (.sh (enc (nmo i))) := by
      have := suf_len sf hsi
      have e : (letterS ((h3 + m * i) % 26).toNat).length + sf.length ≤ bigLine := by rw [letter_len]; simp only [bigLine]; omega
      simp only [binV, e, if_true]
      rfl
    have hl := lt12 (n := i) (by omega)
    have hH3 : ixV H (.int 3) = some (.int h3) := rfl
    have hH4 : ixV H (.int 4) = some (.int h4) := rfl
    have hH2 : ixV H (.int 2) = some (.int h2) := rfl
    simp [forT, l32_0, q32_6, hH3, hH4, hH2, hm, hsf, b7, b3, hmm, hx, hadd, hl, List.range_succ]
  have e7 : ∀ N : Sl, evS (run tab (k + 2)) q32_7 [.sh (.scr ns), .sh (.int j), .ow H, .sh (.int many), .ow DS, N, .u, .u, .u, .u, .u, .u] = some (.nx [.sh (.scr ns), .sh (.int j), .ow H, .sh (.int many), .ow DS, N, .u, .ow (.lst []), .u, .u, .u, .u]) := fun N => by
    simp [q32_7, bigLine]
  have e8 : ∀ N : Sl, evS (run tab (k + 2)) q32_8 [.sh (.scr ns), .sh (.int j), .ow H, .sh (.int many), .ow DS, N, .u, .ow (.lst []), .u, .u, .u, .u] = some (.nx [.sh (.scr ns), .sh (.int j), .ow H, .sh (.int many), .ow DS, N, .u, .ow (.lst []), .ow (.lst []), .u, .u, .u]) := fun N => by
    simp [q32_8, bigLine]
  have at_ : ∀ i : Nat, i < 48 → ∃ d : Int, atI (ds.map enc) (i : Int) = some (.int d) ∧ 0 ≤ d ∧ ∀ s : Int, ((List.replicate 12 [(97 : Int), 1000, 10, 12]).flatten)[i]? = some s → d < s := by
    intro i hi
    have hi' : i < ds.length := by omega
    have hi2 : i < ((List.replicate 12 [(97 : Int), 1000, 10, 12]).flatten).length := by rw [← hD2.1]; exact hi'
    refine ⟨ds[i], by simp [hi'], (hD2.2 i hi' hi2).1, fun s hs => ?_⟩
    rw [List.getElem?_eq_getElem hi2] at hs
    have := (hD2.2 i hi' hi2).2
    rw [Option.some.inj hs] at this
    exact this
  have z1 : ∀ i ∈ List.range 12, ((List.replicate 12 [(97 : Int), 1000, 10, 12]).flatten)[4 * i + 1]? = some 1000 := by decide
  have z2 : ∀ i ∈ List.range 12, ((List.replicate 12 [(97 : Int), 1000, 10, 12]).flatten)[4 * i + 2]? = some 10 := by decide
  let N : Sl := .ow (.lst ((List.range many).map fun i => enc (nmo i)))
  obtain ⟨e', l1, nd, ed, l2, l3, l4, l5, l6, l7, l8⟩ := forD_rinv (fun (i : Nat) (e : En) => ∃ (nd : List Node) (ed : List Edge), e = [.sh (.scr ns), .sh (.int j), .ow H, .sh (.int many), .ow DS, N, .u, .ow (.lst (nd.map enc)), .ow (.lst (ed.map enc)), .u, .u, .u] ∧ (i = 0 → nd = [] ∧ ed = []) ∧ (0 < i → TreeG nd (ed.map fun e => mkE e.a e.b e.c)) ∧ Tame nd ed ∧ nd.length = i ∧ ed.length = i - 1 ∧ nd.map (·.1) = (List.range i).map nmo) (n := many)
        (step := forT (run tab (k + 2)) (.v 6) l32_1 [6, 9, 10, 11])
        (e0 := [.sh (.scr ns), .sh (.int j), .ow H, .sh (.int many), .ow DS, N, .u, .ow (.lst []), .ow (.lst []), .u, .u, .u])
        ⟨[], [], rfl, fun _ => ⟨rfl, rfl⟩, fun h => absurd h (Nat.lt_irrefl _), ⟨fun p h => (by cases h), fun p h => (by cases h)⟩, rfl, rfl, rfl⟩
        (by
          rintro i e hi ⟨nd, ed, rfl, q0, q1, q2, q3, q4, q5⟩
          have hi' : i < 12 := by omega
          obtain ⟨d0, a0, p0, -⟩ := at_ (4 * i) (by omega)
          obtain ⟨d1, a1, p1, c1⟩ := at_ (4 * i + 1) (by omega)
          obtain ⟨d2, a2, p2, c2⟩ := at_ (4 * i + 2) (by omega)
          have c1 := c1 _ (z1 i (List.mem_range.mpr hi'))
          have c2 := c2 _ (z2 i (List.mem_range.mpr hi'))
          have a0 : ixV DS (.int (4 * (i : Int))) = some (.int d0) := by rw [← a0]; show atI _ _ = _; congr 1
          have a1 : ixV DS (.int (4 * (i : Int) + 1)) = some (.int d1) := by rw [← a1]; show atI _ _ = _; congr 1
          have a2 : ixV DS (.int (4 * (i : Int) + 2)) = some (.int d2) := by rw [← a2]; show atI _ _ = _; congr 1
          have hH1 : ixV H (.int 1) = some (.int h1) := rfl
          have hH2 : ixV H (.int 2) = some (.int h2) := rfl
          have name : ∀ n : Nat, n < many → ((List.range many).map fun i => (enc (nmo i) : D))[n]? = some (enc (nmo n)) := fun n hn => by simp [hn]
          let base : Sl → Sl → Sl → Sl → Sl → En := fun A B C D' E' => [.sh (.scr ns), .sh (.int j), .ow H, .sh (.int many), .ow DS, N, .sh (.int i), A, B, C, D', E']
          obtain ⟨w, c, hw, hc, t1⟩ : ∃ w c : Int, (0 ≤ w ∧ w ≤ 1000) ∧ (1 ≤ c ∧ c ≤ 1000) ∧ ∀ ss, evSs (run tab (k + 2)) (.cons q32_10 (.cons q32_11 (.cons q32_12 ss))) (base (.ow (.lst (nd.map enc))) (.ow (.lst (ed.map enc))) .u .u .u) = evSs (run tab (k + 2)) ss (base (.ow (.lst (nd.map enc))) (.ow (.lst (ed.map enc))) (.sh (.int w)) (.sh (.int c)) .u) := by
            by_cases h : h1 = 3
            · refine ⟨d1, 1 + d1 % 999, by omega, by omega, fun ss => ?_⟩
              simp [base, q32_10, q32_11, q32_12, hH1, h, a1, a2, mulLine]
            · refine ⟨d2, 1 + d2 % 3, by omega, by omega, fun ss => ?_⟩
              simp [base, q32_10, q32_11, q32_12, hH1, h, a2, mulLine]
          have t2 : evS (run tab (k + 2)) q32_13 (base (.ow (.lst (nd.map enc))) (.ow (.lst (ed.map enc))) (.sh (.int w)) (.sh (.int c)) .u) = some (.nx (base (.ow (.lst ((nd ++ [(nmo i, w)]).map enc))) (.ow (.lst (ed.map enc))) (.sh (.int w)) (.sh (.int c)) .u)) := by
            simp [base, q32_13, N, name i hi, q3, lt12 (Nat.le_of_lt hi'), b2]
          have nd' : (nd ++ [(nmo i, w)]).map (·.1) = (List.range (i + 1)).map nmo := by
            rw [List.map_append, q5, List.range_succ, List.map_append]
            rfl
          by_cases hz : i = 0
          · obtain ⟨hnd, hed⟩ := q0 hz
            have t3 : evS (run tab (k + 2)) q32_14 (base (.ow (.lst ((nd ++ [(nmo i, w)]).map enc))) (.ow (.lst (ed.map enc))) (.sh (.int w)) (.sh (.int c)) .u) = some (.nx (base (.ow (.lst ((nd ++ [(nmo i, w)]).map enc))) (.ow (.lst (ed.map enc))) (.sh (.int w)) (.sh (.int c)) .u)) := by
              simp only [base]
              rw [hz]
              simp [q32_14]
            refine ⟨_, .inl (forT_nx rfl ((t1 _).trans (go_nx t2 (go_nx t3 rfl)))), nd ++ [(nmo i, w)], ed, rfl, fun h => absurd h (by omega), fun _ => ?_, ⟨fun p hp => ?_, q2.2⟩, by simp [q3], by omega, nd'⟩
            · rw [hnd, hed]; exact .one _ w
            · rw [hnd] at hp
              simp at hp
              rw [hp]
              exact hw
          · have ip : 0 < i := by omega
            have tg := q1 ip
            have mi : 0 ≤ d0 % (i : Int) ∧ d0 % (i : Int) < i := ⟨Int.emod_nonneg _ (by omega), Int.emod_lt_of_pos _ (by omega)⟩
            have le : ed.length < bigLine := lt12 (by omega)
            have t3 : ∃ p : Nat, p < i ∧ evS (run tab (k + 2)) q32_14 (base (.ow (.lst ((nd ++ [(nmo i, w)]).map enc))) (.ow (.lst (ed.map enc))) (.sh (.int w)) (.sh (.int c)) .u) = some (.nx (base (.ow (.lst ((nd ++ [(nmo i, w)]).map enc))) (.ow (.lst ((ed ++ [(⟨nmo i, nmo p, c⟩ : Edge)]).map enc))) (.sh (.int w)) (.sh (.int c)) (.sh (.int p)))) := by
              by_cases h : h2 = 1
              · obtain ⟨p, hp⟩ : ∃ p : Nat, (p : Int) = (if d0 % 2 < (i : Int) - 1 then (i : Int) - 1 - d0 % 2 else 0) := ⟨((if d0 % 2 < (i : Int) - 1 then (i : Int) - 1 - d0 % 2 else 0)).toNat, by split <;> omega⟩
                have hpi : p < i := by split at hp <;> omega
                refine ⟨p, hpi, ?_⟩
                simp [base, q32_14, N, hH2, h, ip, a0, mulLine, ← hp, name i hi, name p (by omega), b3, le]
              · obtain ⟨p, hp⟩ : ∃ p : Nat, (p : Int) = d0 % (i : Int) := ⟨(d0 % (i : Int)).toNat, by omega⟩
                refine ⟨p, by omega, ?_⟩
                simp [base, q32_14, N, hH2, h, ip, a0, mulLine, ← hp, name i hi, name p (by omega), b3, le]
            obtain ⟨p, hpi, t3⟩ := t3
            refine ⟨_, .inl (forT_nx rfl ((t1 _).trans (go_nx t2 (go_nx t3 rfl)))), nd ++ [(nmo i, w)], ed ++ [⟨nmo i, nmo p, c⟩], rfl, fun h => absurd h (by omega), fun _ => ?_, ⟨fun q hq => ?_, fun q hq => ?_⟩, by simp [q3], by simp [q4]; omega, nd'⟩
            · rw [List.map_append]
              refine .leaf tg ?_ ?_
              · rw [q5]
                exact List.mem_map_of_mem (List.mem_range.mpr hpi)
              · rw [q5]
                intro hm
                obtain ⟨z, hz, e⟩ := List.mem_map.mp hm
                have hz := List.mem_range.mp hz
                have := nmo_inj (by omega) (by omega) e
                omega
            · rcases List.mem_append.mp hq with h | h
              · exact q2.1 q h
              · rw [List.mem_singleton.mp h]
                exact hw
            · rcases List.mem_append.mp hq with h | h
              · exact q2.2 q h
              · rw [List.mem_singleton.mp h]
                exact hc)
  subst l2
  refine ⟨nd, ed, run_at (fx := x32) rfl rfl (go_nx e0 ((e12 _).trans (go_nx e3 (go_nx e4 (go_nx (go_for (l := (List.range many).map fun (k : Nat) => D.int k) (by simp [lr]) lp) (go_nx (e7 _) (go_nx (e8 _) (go_nx (go_for (l := (List.range many).map fun (k : Nat) => D.int k) (by simp [lr, N]) l1) (go_rt ?_))))))))), l4 (by omega), l5, by omega, by omega, fun n hn => ?_⟩
  · simp [q32_15, b2]
  · have hm : n.1 ∈ (List.range many).map nmo := by rw [← l8]; exact List.mem_map_of_mem hn
    obtain ⟨i, -, e⟩ := List.mem_map.mp hm
    rw [← e]
    exact ⟨((h3 + m * i) % 26).toNat, List.mem_range.mpr (by have := hmod i; omega), sf, hsi, rfl⟩

theorem cut_take {α : Type} (l : List α) (n : Nat) : cutD l none (some (n : Int)) = l.take n := by
  simp only [cutD, HT.sIx_nat, HT.sIx_none, List.drop_zero, Nat.sub_zero]
  rw [Nat.min_comm, ← List.take_take]
  exact List.take_of_length_le (by rw [List.length_take]; omega)

/-! law k01 -/
theorem swp_of {R : Ts.Run} {env : En} {i a b k j : Nat} {m : List D} {x y : Int} {u v : D} (h1 : env[i]? = some (.ow (.lst m))) (h2 : env[a]? = some (.sh (.int x))) (h3 : env[b]? = some (.sh (.int y))) (hk : ixN m.length x = some k) (hj : ixN m.length y = some j) (hu : m[k]? = some u) (hv : m[j]? = some v) :
    evS R (.swp i a b) env = some (.nx (env.set i (.ow (.lst ((m.set k v).set j u))))) := by
  simp only [evS, h1, h2, h3, hk, hj, hu, hv, Option.bind_some]
theorem strI_of {R : Ts.Run} {env env1 : En} {a : Ex} {n : Int} (h1 : evE R a env = some (.sh (.int n), env1)) (h2 : n.natAbs < rngLine) : evE R (.strI a) env = some (.sh (.str (toString n)), env1) := by
  simp only [evE, h1, Option.bind_some, h2, if_true]
theorem ixN_n {n i : Nat} (h : i < n) : ixN n (i : Int) = some i := by
  unfold ixN
  have h1 : (0 : Int) ≤ (i : Int) := by omega
  simp [h1, h]
theorem r_turned103 (k : Nat) (L : List D) (ds : List Int) (hL : L.length ≤ ds.length) (hd : ds.length ≤ 1000) : ∃ L' : List D, run tab (k + 1) 103 [.lst L, .lst (ds.map D.int)] = some (.ow (.lst L')) ∧ L'.length = L.length ∧ ∀ x ∈ L', x ∈ L := by
  have hst : startE x103 [.lst L, .lst (ds.map D.int)] = [.sh (.lst L), .sh (.lst (ds.map D.int)), .u, .u, .u] := rfl
  have e0 : evS (run tab k) q103_0 [.sh (.lst L), .sh (.lst (ds.map D.int)), .u, .u, .u] = some (.nx [.sh (.lst L), .sh (.lst (ds.map D.int)), .ow (.lst L), .u, .u]) := by
    generalize ds.map D.int = DS
    simp [q103_0]
  have lp := forD_rinv (n := L.length) (step := forT (run tab k) (.v 3) l103_0 [3, 4]) (P := fun j e => ∃ M : List D, M.length = L.length ∧ (∀ x ∈ M, x ∈ L) ∧ e = [.sh (.lst L), .sh (.lst (ds.map D.int)), .ow (.lst M), .u, .u]) (e0 := [.sh (.lst L), .sh (.lst (ds.map D.int)), .ow (.lst L), .u, .u]) ⟨L, rfl, fun _ h => h, rfl⟩ fun j e hj he => by
    obtain ⟨M, hM, hm, rfl⟩ := he
    have hat : atI (ds.map D.int) (j : Int) = some (.int (ds[j]'(by omega))) := by
      rw [atI_cast, List.getElem?_map, List.getElem?_eq_getElem (by omega)]; rfl
    obtain ⟨q, hq⟩ : ∃ q : Nat, (ds[j]'(by omega)) % ((j : Int) + 1) = q := ⟨_, (Int.toNat_of_nonneg (Int.emod_nonneg _ (show (j : Int) + 1 ≠ 0 by omega))).symm⟩
    have hql : q < j + 1 := by have := Int.emod_lt_of_pos (ds[j]'(by omega)) (show (0 : Int) < (j : Int) + 1 by omega); omega
    have e2 : evS (run tab k) q103_2 [.sh (.lst L), .sh (.lst (ds.map D.int)), .ow (.lst M), .sh (.int j), .u] = some (.nx [.sh (.lst L), .sh (.lst (ds.map D.int)), .ow (.lst M), .sh (.int j), .sh (.int q)]) := by
      have hp : (0 : Int) < (j : Int) + 1 := by omega
      generalize ds[j]'(by omega) = dj at hat hq
      generalize ds.map D.int = DS at hat ⊢
      generalize ((j : Nat) : Int) = J at hat hq hp ⊢
      simp [q103_2, hat, hp, hq]
    have u1 : M[j]? = some (M[j]'(by omega)) := List.getElem?_eq_getElem (by omega)
    have u2 : M[q]? = some (M[q]'(by omega)) := List.getElem?_eq_getElem (by omega)
    have e3 := swp_of (R := run tab k) (env := [.sh (.lst L), .sh (.lst (ds.map D.int)), .ow (.lst M), .sh (.int j), .sh (.int q)]) (i := 2) (a := 3) (b := 4) rfl rfl rfl (ixN_n (by omega)) (ixN_n (by omega)) u1 u2
    refine ⟨_, .inl (forT_nx (e1 := [.sh (.lst L), .sh (.lst (ds.map D.int)), .ow (.lst M), .sh (.int j), .u]) rfl (go_nx e2 (go_nx e3 rfl))), _, ?_, ?_, rfl⟩
    · rw [List.length_set, List.length_set, hM]
    · intro x hx
      rcases List.mem_or_eq_of_mem_set hx with hx | rfl
      · rcases List.mem_or_eq_of_mem_set hx with hx | rfl
        · exact hm x hx
        · exact hm _ (List.getElem_mem _)
      · exact hm _ (List.getElem_mem _)
  obtain ⟨e', hl', M, hM, hm, rfl⟩ := lp
  have hi : evI (run tab k) (.rng1 (.bi .len (.cons (.var 0) .nil))) [.sh (.lst L), .sh (.lst (ds.map D.int)), .ow (.lst L), .u, .u] = some ((List.range L.length).map fun (k : Nat) => D.int k, [.sh (.lst L), .sh (.lst (ds.map D.int)), .ow (.lst L), .u, .u]) := by
    have : L.length < rngLine := by simp only [rngLine]; omega
    generalize ds.map D.int = DS
    simp [this]
  refine ⟨M, run_at (fx := x103) rfl rfl ?_, hM, hm⟩
  rw [hst]
  refine go_nx e0 (go_nx (go_for hi hl') (go_rt ?_))
  generalize ds.map D.int = DS
  simp [q103_4]
theorem from_enc {α : Type} [Enc α] {L : List α} : ∀ {M : List D}, (∀ x ∈ M, x ∈ L.map (enc : α → D)) → ∃ L' : List α, M = L'.map enc ∧ ∀ a ∈ L', a ∈ L
  | [], _ => ⟨[], rfl, fun a h => by cases h⟩
  | d :: M, h => by
    obtain ⟨L', e, hm⟩ := from_enc fun x hx => h x (List.mem_cons_of_mem _ hx)
    obtain ⟨a, ha, rfl⟩ := List.mem_map.mp (h d (List.mem_cons_self ..))
    exact ⟨a :: L', by rw [e]; rfl, fun b hb => by
      rcases List.mem_cons.mp hb with rfl | hb
      · exact ha
      · exact hm b hb⟩
theorem r_turnedE (k : Nat) {α : Type} [Enc α] (L : List α) (ds : List Int) (hL : L.length ≤ ds.length) (hd : ds.length ≤ 1000) : ∃ L' : List α, run tab (k + 1) 103 [.lst (L.map enc), .lst (ds.map D.int)] = some (.ow (.lst (L'.map enc))) ∧ L'.length = L.length ∧ ∀ a ∈ L', a ∈ L := by
  obtain ⟨M, h1, h2, h3⟩ := r_turned103 k (L.map enc) ds (by rw [List.length_map]; exact hL) hd
  obtain ⟨L', rfl, hm⟩ := from_enc h3
  exact ⟨L', h1, by simpa using h2, hm⟩
/-- both judge alike -/
theorem same01 (k : Nat) (N : List (Nm × Int)) (E : List Edge) (hN : ShortN N) (hl : N.length ≤ 1000) (hE : E.length ≤ 1000) : run tab (k + 5) 102 [.lst (N.map enc), .lst (E.map enc)] = some (.sh (out01 N E)) ∧ run tab (k + 5) 101 [.lst (N.map enc), .lst (E.map enc)] = some (.sh (out01 N E)) :=
  ⟨r_told102 k N hN hl E hE, r_due101 (k + 3) N hN hl E hE⟩
/-- odd names -/
def odds01 : List Nm := [⟨"", by decide +kernel⟩, ⟨"A", by decide +kernel⟩, ⟨"9", by decide +kernel⟩, ⟨"abcdefghi", by decide +kernel⟩, ⟨"a_b", by decide +kernel⟩, ⟨"zz", by decide +kernel⟩, ⟨"abcdefgh", by decide +kernel⟩, ⟨"a b", by decide +kernel⟩, ⟨"aB", by decide +kernel⟩, ⟨"ab\n", by decide +kernel⟩]
theorem odds01_short : ∀ x ∈ odds01, x.s.length ≤ 1000 := by decide +kernel
def wS (m : Nat) : Str := ("w" : Str) ++ (toString (m : Int) : Str)
theorem wS_ok : ∀ m ∈ List.range 12, PyData.canLay0 (.str (wS m)) = true ∧ (wS m).length ≤ 1000 := by decide +kernel
theorem wS_len : ∀ m ∈ List.range 12, ("w" : Str).length + (toString (m : Int) : Str).length ≤ 1000 := by decide +kernel
theorem cut_drop {α : Type} (l : List α) (n : Nat) : cutD l (some (n : Int)) none = l.drop n := by
  simp only [cutD, HT.sIx_nat, HT.sIx_none]
  rw [List.take_of_length_le (by rw [List.length_drop]; omega)]
  by_cases h : n ≤ l.length
  · rw [Nat.min_eq_left h]
  · rw [Nat.min_eq_right (by omega), List.drop_of_length_le (Nat.le_refl _), List.drop_of_length_le (by omega)]
theorem elif_P {X : Option Out → Prop} {R : Ts.Run} {c : Ex} {A B : Sts} {env : En} {b : Bool} (h : evE R c env = some (.sh (.bl b), env)) (h1 : b = true → X (evSs R A env)) (h2 : b = false → X (evSs R B env)) : X (evS R (.ifs c A B) env) := by
  rw [ev_ifs, h]
  cases b with
  | true => simpa using h1 rfl
  | false => simpa using h2 rfl
/-- a state of the law -/
def Env01 (ns : List Int) (w : Nat) (DS s6 s7 s8 s9 s10 : Sl) (N : List (Nm × Int)) (E : List Edge) : En := [.sh (.scr ns), .ow (.lst (odds01.map enc)), .sh (.int w), .ow (.lst (N.map enc)), .ow (.lst (E.map enc)), DS, s6, s7, s8, s9, s10, .u, .u]
def Good01 (ns : List Int) (w : Nat) (DS s6 s7 s8 s9 s10 : Sl) (n m : Nat) (o : Option Out) : Prop := ∃ (N : List (Nm × Int)) (E : List Edge), ShortN N ∧ N.length ≤ n ∧ E.length ≤ m ∧ o = some (.nx (Env01 ns w DS s6 s7 s8 s9 s10 N E))
theorem one_P {ns : List Int} {w : Nat} {DS s6 s7 s8 s9 s10 : Sl} {n m : Nat} {R : Ts.Run} {s : Ts.St} {env : En} (h : Good01 ns w DS s6 s7 s8 s9 s10 n m (evS R s env)) : Good01 ns w DS s6 s7 s8 s9 s10 n m (evSs R (.cons s .nil) env) := by
  obtain ⟨N, E, h1, h2, h3, h4⟩ := h
  exact ⟨N, E, h1, h2, h3, go_nx h4 rfl⟩
theorem shortN_app {N M : List (Nm × Int)} (h : ShortN N) (h' : ShortN M) : ShortN (N ++ M) := fun p hp => by
  rcases List.mem_append.mp hp with hp | hp
  · exact h p hp
  · exact h' p hp
theorem shortN_take {N : List (Nm × Int)} (h : ShortN N) (a : Nat) : ShortN (N.take a) := fun p hp => h p (List.mem_of_mem_take hp)
theorem shortN_drop {N : List (Nm × Int)} (h : ShortN N) (a : Nat) : ShortN (N.drop a) := fun p hp => h p (List.mem_of_mem_drop hp)
theorem shortN_one {p : Nm × Int} (h : p.1.s.length ≤ 1000) : ShortN [p] := fun q hq => by rw [List.mem_singleton.mp hq]; exact h
theorem shortN_set {N : List (Nm × Int)} (h : ShortN N) (i : Nat) {p : Nm × Int} (hp : p.1.s.length ≤ 1000) : ShortN (N.set i p) := fun q hq => by
  rcases List.mem_or_eq_of_mem_set hq with hq | rfl
  · exact h q hq
  · exact hp
theorem at_enc {α : Type} [Enc α] {L : List α} {i : Nat} (h : i < L.length) : atI (L.map (enc : α → D)) (i : Int) = some (enc (L[i]'h)) := by
  rw [atI_cast, List.getElem?_map, List.getElem?_eq_getElem h]; rfl
def nw (m : Nat) (h : m ∈ List.range 12) : Nm × Int := (⟨wS m, (wS_ok m h).1⟩, 1)
def nwF (m : Nat) : Nm × Int := if h : m ∈ List.range 12 then nw m h else (⟨"", by decide +kernel⟩, 1)
theorem nwF_short (m : Nat) : (nwF m).1.s.length ≤ 1000 := by
  unfold nwF
  split
  · rename_i h
    exact (wS_ok m h).2
  · decide +kernel
theorem nwF_enc {m : Nat} (h : m < 12) : (enc (nwF m) : D) = .tup [.str (wS m), .int 1] := by
  unfold nwF
  rw [dif_pos (List.mem_range.mpr h)]
  rfl
theorem step13 (R : Ts.Run) (ns : List Int) (w : Nat) (DS s6 : Sl) (p0 p2 p4 p5 : Nat) (h0 : p0 < 11) (h2 : p2 < 10) (h4 : p4 < 12) (h5 : p5 < 12) (PT : List D) (a0 : atI PT 0 = some (.int p0)) (a2 : atI PT 2 = some (.int p2)) (a4 : atI PT 4 = some (.int p4)) (a5 : atI PT 5 = some (.int p5)) (i ii : Nat) (num : Int) (N : List (Nm × Int)) (E : List Edge) (hN : ShortN N) (hl : N.length ≤ 100) (hE : E.length ≤ 100) :
    Good01 ns w DS s6 (.ow (.lst PT)) (.sh (.int i)) (.sh (.int ii)) (.sh (.int num)) (N.length + 12) (E.length + 1) (evS R q104_13 (Env01 ns w DS s6 (.ow (.lst PT)) (.sh (.int i)) (.sh (.int ii)) (.sh (.int num)) N E)) := by
  have lN : biV .len [.lst (N.map (enc : Nm × Int → D))] = some (.sh (.int N.length)) := by rw [len_lst, List.length_map]
  have lE : biV .len [.lst (E.map (enc : Edge → D))] = some (.sh (.int E.length)) := by rw [len_lst, List.length_map]
  have b1 : 1 ≤ bigLine := by simp [bigLine]
  have b2 : 2 ≤ bigLine := by simp [bigLine]
  have b3 : 3 ≤ bigLine := by simp [bigLine]
  obtain ⟨od, hod, aod⟩ : ∃ x : Nm, x.s.length ≤ 1000 ∧ atI (odds01.map (enc : Nm → D)) (p2 : Int) = some (enc x) := ⟨_, odds01_short _ (List.getElem_mem (show p2 < odds01.length from h2)), at_enc h2⟩
  have eod : (enc od : D) = .str od.s := rfl
  have hK : ∀ c : Nat, (p0 : Int) = (c : Int) ↔ p0 = c := fun c => Int.ofNat_inj
  have tkN : ∀ m : Nat, slV (.lst (N.map (enc : Nm × Int → D))) none (some (m : Int)) = some (.ow (.lst ((N.take m).map enc))) := fun m => by rw [sl_lst, cutD_map, cut_take]
  have dpN : ∀ m : Nat, slV (.lst (N.map (enc : Nm × Int → D))) (some (m : Int)) none = some (.ow (.lst ((N.drop m).map enc))) := fun m => by rw [sl_lst, cutD_map, cut_drop]
  have tkE : ∀ m : Nat, slV (.lst (E.map (enc : Edge → D))) none (some (m : Int)) = some (.ow (.lst ((E.take m).map enc))) := fun m => by rw [sl_lst, cutD_map, cut_take]
  have dpE : ∀ m : Nat, slV (.lst (E.map (enc : Edge → D))) (some (m : Int)) none = some (.ow (.lst ((E.drop m).map enc))) := fun m => by rw [sl_lst, cutD_map, cut_drop]
  have kNl : ∀ m : Nat, ((N.take m).map (enc : Nm × Int → D)).length ≤ 100 := fun m => by simp only [List.length_map, List.length_take]; omega
  have dNl : ∀ m : Nat, ((N.drop m).map (enc : Nm × Int → D)).length ≤ 100 := fun m => by simp only [List.length_map, List.length_drop]; omega
  have kEl : ∀ m : Nat, ((E.take m).map (enc : Edge → D)).length ≤ 100 := fun m => by simp only [List.length_map, List.length_take]; omega
  have dEl : ∀ m : Nat, ((E.drop m).map (enc : Edge → D)).length ≤ 100 := fun m => by simp only [List.length_map, List.length_drop]; omega
  have stay : Good01 ns w DS s6 (.ow (.lst PT)) (.sh (.int i)) (.sh (.int ii)) (.sh (.int num)) (N.length + 12) (E.length + 1) (evSs R .nil (Env01 ns w DS s6 (.ow (.lst PT)) (.sh (.int i)) (.sh (.int ii)) (.sh (.int num)) N E)) := ⟨N, E, hN, by omega, by omega, rfl⟩
  rw [q104_13]
  -- 0
  have c0 : evE R (.cmp .Eq (.ix (.var 7) (.int 0)) (.int 0)) (Env01 ns w DS s6 (.ow (.lst PT)) (.sh (.int i)) (.sh (.int ii)) (.sh (.int num)) N E) = some (.sh (.bl (decide (p0 = 0))), (Env01 ns w DS s6 (.ow (.lst PT)) (.sh (.int i)) (.sh (.int ii)) (.sh (.int num)) N E)) := by
    unfold Env01
    have hk : (p0 : Int) = 0 ↔ p0 = 0 := hK 0
    generalize odds01.map (enc : Nm → D) = OD
    generalize N.map (enc : Nm × Int → D) = ND
    generalize E.map (enc : Edge → D) = ED
    simp [a0, hk]
  refine elif_P c0 (fun hc => one_P ?_) (fun _ => one_P ?_)
  · refine ⟨N.take i ++ [(od, num)] ++ N.drop i, E, shortN_app (shortN_app (shortN_take hN i) (shortN_one hod)) (shortN_drop hN i), by simp only [List.length_append, List.length_take, List.length_drop, List.length_singleton]; omega, by omega, ?_⟩
    have t1 := tkN i
    have t2 := dpN i
    have l1 : ((N.take i).map (enc : Nm × Int → D)).length + 1 ≤ bigLine := by have := kNl i; simp only [bigLine]; omega
    have l2 : ((N.take i).map (enc : Nm × Int → D)).length + 1 + ((N.drop i).map (enc : Nm × Int → D)).length ≤ bigLine := by have := kNl i; have := dNl i; simp only [bigLine]; omega
    unfold Env01
    rw [List.map_append, List.map_append, show List.map (enc : Nm × Int → D) [(od, num)] = [.tup [enc od, .int num]] from rfl]
    simp only [eod] at aod ⊢
    clear tkN dpN tkE dpE kNl dNl kEl dEl lN lE stay
    generalize (N.take i).map (enc : Nm × Int → D) = TD at *
    generalize (N.drop i).map (enc : Nm × Int → D) = DD at *
    generalize odds01.map (enc : Nm → D) = OD at *
    generalize N.map (enc : Nm × Int → D) = ND at *
    generalize E.map (enc : Edge → D) = ED at *
    simp [t1, t2, a2, aod, b1, b2, l1, l2]
  -- 1
  have c1 : evE R (.cmp .Eq (.ix (.var 7) (.int 0)) (.int 1)) (Env01 ns w DS s6 (.ow (.lst PT)) (.sh (.int i)) (.sh (.int ii)) (.sh (.int num)) N E) = some (.sh (.bl (decide (p0 = 1))), (Env01 ns w DS s6 (.ow (.lst PT)) (.sh (.int i)) (.sh (.int ii)) (.sh (.int num)) N E)) := by
    unfold Env01
    have hk : (p0 : Int) = 1 ↔ p0 = 1 := hK 1
    generalize odds01.map (enc : Nm → D) = OD
    generalize N.map (enc : Nm × Int → D) = ND
    generalize E.map (enc : Edge → D) = ED
    simp [a0, hk]
  refine elif_P c1 (fun hc => one_P ?_) (fun _ => one_P ?_)
  · refine ⟨N.take i ++ N.drop (i + 1), E, shortN_app (shortN_take hN i) (shortN_drop hN (i + 1)), by simp only [List.length_append, List.length_take, List.length_drop]; omega, by omega, ?_⟩
    have t1 := tkN i
    have t2 : slV (.lst (N.map (enc : Nm × Int → D))) (some ((i : Int) + 1)) none = some (.ow (.lst ((N.drop (i + 1)).map enc))) := dpN (i + 1)
    have l2 : ((N.take i).map (enc : Nm × Int → D)).length + ((N.drop (i + 1)).map (enc : Nm × Int → D)).length ≤ bigLine := by have := kNl i; have := dNl (i + 1); simp only [bigLine]; omega
    unfold Env01
    rw [List.map_append]
    clear tkN dpN tkE dpE kNl dNl kEl dEl lN lE stay
    generalize (N.take i).map (enc : Nm × Int → D) = TD at *
    generalize (N.drop (i + 1)).map (enc : Nm × Int → D) = DD at *
    generalize odds01.map (enc : Nm → D) = OD at *
    generalize N.map (enc : Nm × Int → D) = ND at *
    generalize E.map (enc : Edge → D) = ED at *
    simp [t1, t2, l2]
  -- 2
  have c2 : evE R (.and (.cons (.cmp .Eq (.ix (.var 7) (.int 0)) (.int 2)) (.cons (.cmp .Lt (.var 8) (.bi .len (.cons (.var 3) .nil))) .nil))) (Env01 ns w DS s6 (.ow (.lst PT)) (.sh (.int i)) (.sh (.int ii)) (.sh (.int num)) N E) = some (.sh (.bl (decide (p0 = 2 ∧ i < N.length))), (Env01 ns w DS s6 (.ow (.lst PT)) (.sh (.int i)) (.sh (.int ii)) (.sh (.int num)) N E)) := by
    unfold Env01
    have hk : (p0 : Int) = 2 ↔ p0 = 2 := hK 2
    have hc : (i : Int) < (N.length : Int) ↔ i < N.length := by omega
    generalize (N.length : Int) = LL at *
    generalize odds01.map (enc : Nm → D) = OD
    generalize N.map (enc : Nm × Int → D) = ND at *
    generalize E.map (enc : Edge → D) = ED at *
    by_cases q : p0 = 2
    · simp [a0, hk, q, lN, hc]
    · simp [a0, hk, q]
  refine elif_P c2 (fun hc => one_P ?_) (fun _ => one_P ?_)
  · have hi : i < N.length := (of_decide_eq_true hc).2
    have ai := at_enc hi
    have hk : ixN (N.map (enc : Nm × Int → D)).length (i : Int) = some i := ixN_n (by rw [List.length_map]; exact hi)
    have hx : (N[i]).1.s.length ≤ 1000 := hN _ (List.getElem_mem _)
    have eai : (enc (N[i]) : D) = .tup [enc (N[i]).1, .int (N[i]).2] := rfl
    refine ⟨N.set i ((N[i]).1, num), E, shortN_set hN i hx, by rw [List.length_set]; omega, by omega, ?_⟩
    have es : (N.set i ((N[i]).1, num)).map (enc : Nm × Int → D) = (N.map enc).set i (.tup [enc (N[i]).1, .int num]) := by rw [List.map_set]; rfl
    unfold Env01
    rw [es]
    rw [eai] at ai
    clear tkN dpN tkE dpE kNl dNl kEl dEl lN lE stay es eai
    generalize N[i] = xx at *
    obtain ⟨xa, xb⟩ := xx
    generalize odds01.map (enc : Nm → D) = OD at *
    generalize N.map (enc : Nm × Int → D) = ND at *
    generalize E.map (enc : Edge → D) = ED at *
    simp [ai, b2, putV, hk]
  -- 3
  have c3 : evE R (.and (.cons (.cmp .Eq (.ix (.var 7) (.int 0)) (.int 3)) (.cons (.cmp .Lt (.var 8) (.bi .len (.cons (.var 3) .nil))) .nil))) (Env01 ns w DS s6 (.ow (.lst PT)) (.sh (.int i)) (.sh (.int ii)) (.sh (.int num)) N E) = some (.sh (.bl (decide (p0 = 3 ∧ i < N.length))), (Env01 ns w DS s6 (.ow (.lst PT)) (.sh (.int i)) (.sh (.int ii)) (.sh (.int num)) N E)) := by
    unfold Env01
    have hk : (p0 : Int) = 3 ↔ p0 = 3 := hK 3
    have hc : (i : Int) < (N.length : Int) ↔ i < N.length := by omega
    generalize (N.length : Int) = LL at *
    generalize odds01.map (enc : Nm → D) = OD
    generalize N.map (enc : Nm × Int → D) = ND at *
    generalize E.map (enc : Edge → D) = ED at *
    by_cases q : p0 = 3
    · simp [a0, hk, q, lN, hc]
    · simp [a0, hk, q]
  refine elif_P c3 (fun hc => one_P ?_) (fun _ => one_P ?_)
  · have hi : i < N.length := (of_decide_eq_true hc).2
    have ai := at_enc hi
    have hx : (N[i]).1.s.length ≤ 1000 := hN _ (List.getElem_mem _)
    refine ⟨N ++ [N[i]], E, shortN_app hN (shortN_one hx), by simp only [List.length_append, List.length_singleton]; omega, by omega, ?_⟩
    unfold Env01
    rw [List.map_append, show List.map (enc : Nm × Int → D) [N[i]] = [.tup [enc (N[i]).1, .int (N[i]).2]] from rfl]
    rw [show (enc (N[i]) : D) = .tup [enc (N[i]).1, .int (N[i]).2] from rfl] at ai
    have l1 : (N.map (enc : Nm × Int → D)).length < bigLine := by rw [List.length_map]; simp only [bigLine]; omega
    clear tkN dpN tkE dpE kNl dNl kEl dEl lN lE stay
    generalize N[i] = xx at *
    obtain ⟨xa, xb⟩ := xx
    generalize odds01.map (enc : Nm → D) = OD at *
    generalize N.map (enc : Nm × Int → D) = ND at *
    generalize E.map (enc : Edge → D) = ED at *
    simp [ai, l1]
  -- 4
  have c4 : evE R (.cmp .Eq (.ix (.var 7) (.int 0)) (.int 4)) (Env01 ns w DS s6 (.ow (.lst PT)) (.sh (.int i)) (.sh (.int ii)) (.sh (.int num)) N E) = some (.sh (.bl (decide (p0 = 4))), (Env01 ns w DS s6 (.ow (.lst PT)) (.sh (.int i)) (.sh (.int ii)) (.sh (.int num)) N E)) := by
    unfold Env01
    have hk : (p0 : Int) = 4 ↔ p0 = 4 := hK 4
    generalize odds01.map (enc : Nm → D) = OD
    generalize N.map (enc : Nm × Int → D) = ND
    generalize E.map (enc : Edge → D) = ED
    simp [a0, hk]
  refine elif_P c4 (fun hc => one_P ?_) (fun _ => one_P ?_)
  · refine ⟨N, E.take ii ++ E.drop (ii + 1), hN, by omega, by simp only [List.length_append, List.length_take, List.length_drop]; omega, ?_⟩
    have t1 := tkE ii
    have t2 : slV (.lst (E.map (enc : Edge → D))) (some ((ii : Int) + 1)) none = some (.ow (.lst ((E.drop (ii + 1)).map enc))) := dpE (ii + 1)
    have l2 : ((E.take ii).map (enc : Edge → D)).length + ((E.drop (ii + 1)).map (enc : Edge → D)).length ≤ bigLine := by have := kEl ii; have := dEl (ii + 1); simp only [bigLine]; omega
    unfold Env01
    rw [List.map_append]
    clear tkN dpN tkE dpE kNl dNl kEl dEl lN lE stay
    generalize (E.take ii).map (enc : Edge → D) = TD at *
    generalize (E.drop (ii + 1)).map (enc : Edge → D) = DD at *
    generalize odds01.map (enc : Nm → D) = OD at *
    generalize N.map (enc : Nm × Int → D) = ND at *
    generalize E.map (enc : Edge → D) = ED at *
    simp [t1, t2, l2]
  -- 5
  have c5 : evE R (.and (.cons (.cmp .Eq (.ix (.var 7) (.int 0)) (.int 5)) (.cons (.cmp .Lt (.var 9) (.bi .len (.cons (.var 4) .nil))) .nil))) (Env01 ns w DS s6 (.ow (.lst PT)) (.sh (.int i)) (.sh (.int ii)) (.sh (.int num)) N E) = some (.sh (.bl (decide (p0 = 5 ∧ ii < E.length))), (Env01 ns w DS s6 (.ow (.lst PT)) (.sh (.int i)) (.sh (.int ii)) (.sh (.int num)) N E)) := by
    unfold Env01
    have hk : (p0 : Int) = 5 ↔ p0 = 5 := hK 5
    have hc : (ii : Int) < (E.length : Int) ↔ ii < E.length := by omega
    generalize (E.length : Int) = LL at *
    generalize odds01.map (enc : Nm → D) = OD
    generalize N.map (enc : Nm × Int → D) = ND at *
    generalize E.map (enc : Edge → D) = ED at *
    by_cases q : p0 = 5
    · simp [a0, hk, q, lE, hc]
    · simp [a0, hk, q]
  refine elif_P c5 (fun hc => one_P ?_) (fun _ => one_P ?_)
  · have hi : ii < E.length := (of_decide_eq_true hc).2
    have ai := at_enc hi
    have hk : ixN (E.map (enc : Edge → D)).length (ii : Int) = some ii := ixN_n (by rw [List.length_map]; exact hi)
    have eai : (enc (E[ii]) : D) = .tup [enc (E[ii]).a, enc (E[ii]).b, .int (E[ii]).c] := rfl
    refine ⟨N, E.set ii ⟨(E[ii]).a, (E[ii]).b, num⟩, hN, by omega, by rw [List.length_set]; omega, ?_⟩
    have es : (E.set ii ⟨(E[ii]).a, (E[ii]).b, num⟩).map (enc : Edge → D) = (E.map enc).set ii (.tup [enc (E[ii]).a, enc (E[ii]).b, .int num]) := by rw [List.map_set]; rfl
    unfold Env01
    rw [es]
    rw [eai] at ai
    clear tkN dpN tkE dpE kNl dNl kEl dEl lN lE stay es eai
    generalize E[ii] = xx at *
    obtain ⟨xa, xb, xc⟩ := xx
    generalize odds01.map (enc : Nm → D) = OD at *
    generalize N.map (enc : Nm × Int → D) = ND at *
    generalize E.map (enc : Edge → D) = ED at *
    simp [ai, b3, putV, hk]
  -- 6
  have c6 : evE R (.and (.cons (.cmp .Eq (.ix (.var 7) (.int 0)) (.int 6)) (.cons (.cmp .Gt (.bi .len (.cons (.var 3) .nil)) (.int 0)) .nil))) (Env01 ns w DS s6 (.ow (.lst PT)) (.sh (.int i)) (.sh (.int ii)) (.sh (.int num)) N E) = some (.sh (.bl (decide (p0 = 6 ∧ 0 < N.length))), (Env01 ns w DS s6 (.ow (.lst PT)) (.sh (.int i)) (.sh (.int ii)) (.sh (.int num)) N E)) := by
    unfold Env01
    have hk : (p0 : Int) = 6 ↔ p0 = 6 := hK 6
    have hc : (0 : Int) < (N.length : Int) ↔ 0 < N.length := by omega
    generalize (N.length : Int) = LL at *
    generalize odds01.map (enc : Nm → D) = OD
    generalize N.map (enc : Nm × Int → D) = ND at *
    generalize E.map (enc : Edge → D) = ED at *
    by_cases q : p0 = 6
    · simp [a0, hk, q, lN, hc]
    · simp [a0, hk, q]
  refine elif_P c6 (fun hc => one_P ?_) (fun _ => one_P ?_)
  · have hp : 0 < N.length := (of_decide_eq_true hc).2
    have hpp : (0 : Int) < (N.length : Int) := by omega
    have m4 : (p4 : Int) % (N.length : Int) = ((p4 % N.length : Nat) : Int) := rfl
    have m5 : (p5 : Int) % (N.length : Int) = ((p5 % N.length : Nat) : Int) := rfl
    have x4 := at_enc (Nat.mod_lt p4 hp)
    have x5 := at_enc (Nat.mod_lt p5 hp)
    obtain ⟨u, hu⟩ : ∃ u : Nm × Int, u = N[p4 % N.length]'(Nat.mod_lt p4 hp) := ⟨_, rfl⟩
    obtain ⟨v, hv⟩ : ∃ u : Nm × Int, u = N[p5 % N.length]'(Nat.mod_lt p5 hp) := ⟨_, rfl⟩
    rw [← hu, ← m4, show (enc u : D) = .tup [enc u.1, .int u.2] from rfl] at x4
    rw [← hv, ← m5, show (enc v : D) = .tup [enc v.1, .int v.2] from rfl] at x5
    clear hu hv m4 m5
    refine ⟨N, E.take ii ++ [⟨u.1, v.1, 1 + p2⟩] ++ E.drop ii, hN, by omega, by simp only [List.length_append, List.length_take, List.length_drop, List.length_singleton]; omega, ?_⟩
    have t1 := tkE ii
    have t2 := dpE ii
    have l1 : ((E.take ii).map (enc : Edge → D)).length + 1 ≤ bigLine := by have := kEl ii; simp only [bigLine]; omega
    have l2 : ((E.take ii).map (enc : Edge → D)).length + 1 + ((E.drop ii).map (enc : Edge → D)).length ≤ bigLine := by have := kEl ii; have := dEl ii; simp only [bigLine]; omega
    unfold Env01
    rw [List.map_append, List.map_append, show List.map (enc : Edge → D) [⟨u.1, v.1, 1 + p2⟩] = [.tup [enc u.1, enc v.1, .int (1 + p2)]] from rfl]
    clear tkN dpN tkE dpE kNl dNl kEl dEl lE stay hl hp
    generalize (E.take ii).map (enc : Edge → D) = TD at *
    generalize (E.drop ii).map (enc : Edge → D) = DD at *
    generalize odds01.map (enc : Nm → D) = OD at *
    generalize N.map (enc : Nm × Int → D) = ND at *
    generalize E.map (enc : Edge → D) = ED at *
    generalize (N.length : Int) = LL at *
    obtain ⟨u1, u2⟩ := u
    obtain ⟨v1, v2⟩ := v
    simp [t1, t2, a2, a4, a5, hpp, lN, x4, x5, b1, b3, l1, l2]
  -- 7
  have c7 : evE R (.cmp .Eq (.ix (.var 7) (.int 0)) (.int 7)) (Env01 ns w DS s6 (.ow (.lst PT)) (.sh (.int i)) (.sh (.int ii)) (.sh (.int num)) N E) = some (.sh (.bl (decide (p0 = 7))), (Env01 ns w DS s6 (.ow (.lst PT)) (.sh (.int i)) (.sh (.int ii)) (.sh (.int num)) N E)) := by
    unfold Env01
    have hk : (p0 : Int) = 7 ↔ p0 = 7 := hK 7
    generalize odds01.map (enc : Nm → D) = OD
    generalize N.map (enc : Nm × Int → D) = ND
    generalize E.map (enc : Edge → D) = ED
    simp [a0, hk]
  refine elif_P c7 (fun hc => one_P ?_) (fun _ => one_P ?_)
  · refine ⟨N, E.take ii ++ [⟨od, ⟨"a", by decide +kernel⟩, 1⟩] ++ E.drop ii, hN, by omega, by simp only [List.length_append, List.length_take, List.length_drop, List.length_singleton]; omega, ?_⟩
    have t1 := tkE ii
    have t2 := dpE ii
    have l1 : ((E.take ii).map (enc : Edge → D)).length + 1 ≤ bigLine := by have := kEl ii; simp only [bigLine]; omega
    have l2 : ((E.take ii).map (enc : Edge → D)).length + 1 + ((E.drop ii).map (enc : Edge → D)).length ≤ bigLine := by have := kEl ii; have := dEl ii; simp only [bigLine]; omega
    unfold Env01
    rw [List.map_append, List.map_append, show List.map (enc : Edge → D) [⟨od, ⟨"a", by decide +kernel⟩, 1⟩] = [.tup [enc od, .str "a", .int 1]] from rfl]
    simp only [eod] at aod ⊢
    clear tkN dpN tkE dpE kNl dNl kEl dEl lN lE stay
    generalize (E.take ii).map (enc : Edge → D) = TD at *
    generalize (E.drop ii).map (enc : Edge → D) = DD at *
    generalize odds01.map (enc : Nm → D) = OD at *
    generalize N.map (enc : Nm × Int → D) = ND at *
    generalize E.map (enc : Edge → D) = ED at *
    simp [t1, t2, a2, aod, b1, b3, l1, l2]
  -- 8
  have c8 : evE R (.cmp .Eq (.ix (.var 7) (.int 0)) (.int 8)) (Env01 ns w DS s6 (.ow (.lst PT)) (.sh (.int i)) (.sh (.int ii)) (.sh (.int num)) N E) = some (.sh (.bl (decide (p0 = 8))), (Env01 ns w DS s6 (.ow (.lst PT)) (.sh (.int i)) (.sh (.int ii)) (.sh (.int num)) N E)) := by
    unfold Env01
    have hk : (p0 : Int) = 8 ↔ p0 = 8 := hK 8
    generalize odds01.map (enc : Nm → D) = OD
    generalize N.map (enc : Nm × Int → D) = ND
    generalize E.map (enc : Edge → D) = ED
    simp [a0, hk]
  refine elif_P c8 (fun hc => one_P ?_) (fun _ => one_P ?_)
  · refine ⟨N ++ (List.range p4).map nwF, E, shortN_app hN fun p hp => (by obtain ⟨m, -, rfl⟩ := List.mem_map.mp hp; exact nwF_short m), by simp only [List.length_append, List.length_map, List.length_range]; omega, by omega, ?_⟩
    have el : ((List.range p4).map nwF).map (enc : Nm × Int → D) = (List.range p4).map fun m => (D.tup [.str (wS m), .int 1]) := by
      rw [List.map_map]
      refine List.map_congr_left fun m hm => ?_
      have := List.mem_range.mp hm
      exact nwF_enc (by omega)
    have hlc : evE R c104_1 (Env01 ns w DS s6 (.ow (.lst PT)) (.sh (.int i)) (.sh (.int ii)) (.sh (.int num)) N E) = some (.ow (.lst ((List.range p4).map fun m => (D.tup [.str (wS m), .int 1]))), Env01 ns w DS s6 (.ow (.lst PT)) (.sh (.int i)) (.sh (.int ii)) (.sh (.int num)) N E) := by
      unfold Env01
      refine lc_of (l := (List.range p4).map fun (m : Nat) => D.int m) ?_ (lcD_each fun m hm => ?_) (by rw [List.length_map, List.length_range]; simp only [bigLine]; omega) (.inl rfl)
      · have h : (p4 : Int).natAbs < rngLine := by simp only [rngLine]; omega
        have h' : p4 < rngLine := by simp only [rngLine]; omega
        generalize odds01.map (enc : Nm → D) = OD
        generalize N.map (enc : Nm × Int → D) = ND
        generalize E.map (enc : Edge → D) = ED
        simp [a4, h, h']
      · have hm := List.mem_range.mp hm
        have h : (m : Int).natAbs < rngLine := by simp only [rngLine]; omega
        have hs : ("w" : Str).length + (toString (m : Int) : Str).length ≤ bigLine := by
          have := wS_len m (List.mem_range.mpr (by omega))
          simp only [bigLine]; omega
        have hb : binV .Add (.str "w") (.str (toString (m : Int))) = some (.sh (.str (wS m))) := by
          simp only [binV, hs, if_true]
          rfl
        have hq : ∀ env : En, evE R (.var 12) env = some (.sh (.int m), env) → evE R (.strI (.var 12)) env = some (.sh (.str (toString (m : Int))), env) := fun env h1 => strI_of h1 h
        generalize wS m = W at *
        generalize (toString (m : Int) : Str) = T at *
        clear h
        generalize (m : Int) = M at *
        generalize odds01.map (enc : Nm → D) = OD
        generalize N.map (enc : Nm × Int → D) = ND
        generalize E.map (enc : Edge → D) = ED
        simp [lcStp, hide, hq, hb, b2]
    have l1 : (N.map (enc : Nm × Int → D)).length + ((List.range p4).map fun m => (D.tup [.str (wS m), .int 1])).length ≤ bigLine := by simp only [List.length_map, List.length_range, bigLine]; omega
    unfold Env01 at hlc ⊢
    rw [List.map_append, el]
    clear tkN dpN tkE dpE kNl dNl kEl dEl lN lE stay el
    generalize ((List.range p4).map fun m => (D.tup [.str (wS m), .int 1])) = WD at *
    generalize odds01.map (enc : Nm → D) = OD at *
    generalize N.map (enc : Nm × Int → D) = ND at *
    generalize E.map (enc : Edge → D) = ED at *
    generalize c104_1 = cc at *
    simp [hlc, l1]
  -- 9
  have c9 : evE R (.cmp .Eq (.ix (.var 7) (.int 0)) (.int 9)) (Env01 ns w DS s6 (.ow (.lst PT)) (.sh (.int i)) (.sh (.int ii)) (.sh (.int num)) N E) = some (.sh (.bl (decide (p0 = 9))), (Env01 ns w DS s6 (.ow (.lst PT)) (.sh (.int i)) (.sh (.int ii)) (.sh (.int num)) N E)) := by
    unfold Env01
    have hk : (p0 : Int) = 9 ↔ p0 = 9 := hK 9
    generalize odds01.map (enc : Nm → D) = OD
    generalize N.map (enc : Nm × Int → D) = ND
    generalize E.map (enc : Edge → D) = ED
    simp [a0, hk]
  refine elif_P c9 (fun hc => one_P ?_) (fun _ => stay)
  · refine ⟨[], E, fun p hp => (by cases hp), Nat.zero_le _, by omega, ?_⟩
    unfold Env01
    clear tkN dpN tkE dpE kNl dNl kEl dEl lN lE stay
    generalize odds01.map (enc : Nm → D) = OD at *
    generalize N.map (enc : Nm × Int → D) = ND at *
    generalize E.map (enc : Edge → D) = ED at *
    simp
theorem chk01 (k : Nat) (ns : List Int) (w : Nat) (DS s6 s7 s8 s9 s10 : Sl) (N : List (Nm × Int)) (E : List Edge) (hN : ShortN N) (hl : N.length ≤ 1000) (hE : E.length ≤ 1000) : evS (run tab (k + 5)) q104_14 (Env01 ns w DS s6 s7 s8 s9 s10 N E) = some (.nx (Env01 ns w DS s6 s7 s8 s9 s10 N E)) := by
  obtain ⟨r1, r2⟩ := same01 k N E hN hl hE
  obtain ⟨h1, h2⟩ := out01_eq N E
  unfold Env01
  generalize out01 N E = O at *
  generalize odds01.map (enc : Nm → D) = OD
  generalize N.map (enc : Nm × Int → D) = ND at *
  generalize E.map (enc : Edge → D) = ED at *
  simp [q104_14, r1, r2, h1, h2]
theorem in01 (k : Nat) (ns : List Int) (w : Nat) (hw : w < 20) (DS : Sl) (j : Nat) (hj : j < 2) (N : List (Nm × Int)) (E : List Edge) (hN : ShortN N) (hl : N.length ≤ 12 + 12 * j) (hE : E.length ≤ 12 + j) :
    ∃ N' E', ShortN N' ∧ N'.length ≤ 12 + 12 * (j + 1) ∧ E'.length ≤ 12 + (j + 1) ∧ forT (run tab (k + 8)) (.v 6) l104_1 [6, 7, 8, 9, 10] (.int j) (Env01 ns w DS .u .u .u .u .u N E) = some (.nx (Env01 ns w DS .u .u .u .u .u N' E')) := by
  obtain ⟨hs, hr1, hd1⟩ := r_drawM (k + 6) ns (5 * w + 3 + j) (by omega) [11, 12, 10, 1002, 12, 12] (by
    intro s hs
    simp at hs
    omega) (by simp)
  have hlen1 : hs.length = 6 := by rw [hd1.1]; simp
  obtain ⟨h0, h1, h2, h3, h4, h5, rfl⟩ : ∃ h0 h1 h2 h3 h4 h5, hs = [h0, h1, h2, h3, h4, h5] := by
    match hs, hlen1 with
    | [a, b, c, d, e, f], _ => exact ⟨a, b, c, d, e, f, rfl⟩
  have b0 : 0 ≤ h0 ∧ h0 < 11 := hd1.2 0 (by simp) (by simp)
  have b1 : 0 ≤ h1 ∧ h1 < 12 := hd1.2 1 (by simp) (by simp)
  have b2 : 0 ≤ h2 ∧ h2 < 10 := hd1.2 2 (by simp) (by simp)
  have b4 : 0 ≤ h4 ∧ h4 < 12 := hd1.2 4 (by simp) (by simp)
  have b5 : 0 ≤ h5 ∧ h5 < 12 := hd1.2 5 (by simp) (by simp)
  have hr1' : run tab (k + 8) 31 [.scr ns, .int (5 * (w : Int) + 3 + (j : Int)), .lst [.int 11, .int 12, .int 10, .int 1002, .int 12, .int 12]] = some (.ow (.lst [.int h0, .int h1, .int h2, .int h3, .int h4, .int h5])) := by
    have c : (5 * (w : Int) + 3 + (j : Int)) = ((5 * w + 3 + j : Nat) : Int) := by omega
    rw [c]; exact hr1
  obtain ⟨PT, hPT⟩ : ∃ PT : List D, PT = [.int h0, .int h1, .int h2, .int h3, .int h4, .int h5] := ⟨_, rfl⟩
  rw [← hPT] at hr1'
  have a0 : atI PT 0 = some (.int h0) := by rw [hPT]; rfl
  have a1 : atI PT 1 = some (.int h1) := by rw [hPT]; rfl
  have a2 : atI PT 2 = some (.int h2) := by rw [hPT]; rfl
  have a3 : atI PT 3 = some (.int h3) := by rw [hPT]; rfl
  have a4 : atI PT 4 = some (.int h4) := by rw [hPT]; rfl
  have a5 : atI PT 5 = some (.int h5) := by rw [hPT]; rfl
  have lN : biV .len [.lst (N.map (enc : Nm × Int → D))] = some (.sh (.int N.length)) := by rw [len_lst, List.length_map]
  have lE : biV .len [.lst (E.map (enc : Edge → D))] = some (.sh (.int E.length)) := by rw [len_lst, List.length_map]
  obtain ⟨i, hi⟩ : ∃ i : Nat, h1 % ((N.length : Int) + 1) = i := ⟨_, (Int.toNat_of_nonneg (Int.emod_nonneg _ (show (N.length : Int) + 1 ≠ 0 by omega))).symm⟩
  obtain ⟨ii, hii⟩ : ∃ i : Nat, h1 % ((E.length : Int) + 1) = i := ⟨_, (Int.toNat_of_nonneg (Int.emod_nonneg _ (show (E.length : Int) + 1 ≠ 0 by omega))).symm⟩
  have e8 : evS (run tab (k + 8)) q104_8 (Env01 ns w DS (.sh (.int j)) .u .u .u .u N E) = some (.nx (Env01 ns w DS (.sh (.int j)) (.ow (.lst PT)) .u .u .u N E)) := by
    have m1 : (w : Int).natAbs < mulLine := by simp only [mulLine]; omega
    have m1' : w < mulLine := by simp only [mulLine]; omega
    unfold Env01
    generalize odds01.map (enc : Nm → D) = OD
    generalize N.map (enc : Nm × Int → D) = ND
    generalize E.map (enc : Edge → D) = ED
    simp [q104_8, mulLine, bigLine, hr1', m1, m1']
  have e9 : evS (run tab (k + 8)) q104_9 (Env01 ns w DS (.sh (.int j)) (.ow (.lst PT)) .u .u .u N E) = some (.nx (Env01 ns w DS (.sh (.int j)) (.ow (.lst PT)) (.sh (.int i)) .u .u N E)) := by
    have hp : (0 : Int) < (N.length : Int) + 1 := by omega
    unfold Env01
    generalize (N.length : Int) = LL at *
    generalize odds01.map (enc : Nm → D) = OD
    generalize N.map (enc : Nm × Int → D) = ND at *
    generalize E.map (enc : Edge → D) = ED
    simp [q104_9, a1, lN, hp, hi]
  have e10 : evS (run tab (k + 8)) q104_10 (Env01 ns w DS (.sh (.int j)) (.ow (.lst PT)) (.sh (.int i)) .u .u N E) = some (.nx (Env01 ns w DS (.sh (.int j)) (.ow (.lst PT)) (.sh (.int i)) (.sh (.int ii)) .u N E)) := by
    have hp : (0 : Int) < (E.length : Int) + 1 := by omega
    unfold Env01
    generalize (E.length : Int) = LL at *
    generalize odds01.map (enc : Nm → D) = OD
    generalize N.map (enc : Nm × Int → D) = ND
    generalize E.map (enc : Edge → D) = ED at *
    simp [q104_10, a1, lE, hp, hii]
  have e11 : evS (run tab (k + 8)) q104_11 (Env01 ns w DS (.sh (.int j)) (.ow (.lst PT)) (.sh (.int i)) (.sh (.int ii)) .u N E) = some (.nx (Env01 ns w DS (.sh (.int j)) (.ow (.lst PT)) (.sh (.int i)) (.sh (.int ii)) (.sh (.int (h3 - 1))) N E)) := by
    unfold Env01
    generalize odds01.map (enc : Nm → D) = OD
    generalize N.map (enc : Nm × Int → D) = ND
    generalize E.map (enc : Edge → D) = ED
    simp [q104_11, a3]
  obtain ⟨num, e12⟩ : ∃ num : Int, evS (run tab (k + 8)) q104_12 (Env01 ns w DS (.sh (.int j)) (.ow (.lst PT)) (.sh (.int i)) (.sh (.int ii)) (.sh (.int (h3 - 1))) N E) = some (.nx (Env01 ns w DS (.sh (.int j)) (.ow (.lst PT)) (.sh (.int i)) (.sh (.int ii)) (.sh (.int num)) N E)) := by
    by_cases h : h2 = 7
    · obtain ⟨x, hx⟩ : ∃ x : Int, atI [D.int (-1), .int 0, .int 999, .int 1000] (h4 % 4) = some (.int x) := by
        have : h4 % 4 = 0 ∨ h4 % 4 = 1 ∨ h4 % 4 = 2 ∨ h4 % 4 = 3 := by omega
        rcases this with q | q | q | q <;> rw [q]
        · exact ⟨-1, rfl⟩
        · exact ⟨0, rfl⟩
        · exact ⟨999, rfl⟩
        · exact ⟨1000, rfl⟩
      refine ⟨x, ?_⟩
      have c4 : 4 ≤ bigLine := by simp [bigLine]
      unfold Env01
      generalize odds01.map (enc : Nm → D) = OD
      generalize N.map (enc : Nm × Int → D) = ND
      generalize E.map (enc : Edge → D) = ED
      simp [q104_12, a2, a4, h, hx, c4]
    · refine ⟨h3 - 1, ?_⟩
      unfold Env01
      generalize odds01.map (enc : Nm → D) = OD
      generalize N.map (enc : Nm × Int → D) = ND
      generalize E.map (enc : Edge → D) = ED
      simp [q104_12, a2, h]
  obtain ⟨N', E', g1, g2, g3, e13⟩ := step13 (run tab (k + 8)) ns w DS (.sh (.int j)) h0.toNat h2.toNat h4.toNat h5.toNat (by omega) (by omega) (by omega) (by omega) PT (by rw [a0, Int.toNat_of_nonneg b0.1]) (by rw [a2, Int.toNat_of_nonneg b2.1]) (by rw [a4, Int.toNat_of_nonneg b4.1]) (by rw [a5, Int.toNat_of_nonneg b5.1]) i ii num N E hN (by omega) (by omega)
  have e14 := chk01 (k + 3) ns w DS (.sh (.int j)) (.ow (.lst PT)) (.sh (.int i)) (.sh (.int ii)) (.sh (.int num)) N' E' g1 (by omega) (by omega)
  exact ⟨N', E', g1, by omega, by omega, Eq.trans (forT_nx (e1 := Env01 ns w DS (.sh (.int j)) .u .u .u .u N E) rfl (go_nx e8 (go_nx e9 (go_nx e10 (go_nx e11 (go_nx e12 (go_nx e13 (go_nx e14 rfl)))))))) rfl⟩
def flE01 (e : Edge) : Edge := ⟨e.b, e.a, e.c⟩
theorem turn01 (k : Nat) (ns : List Int) (w : Nat) (hw : w < 20) :
    forT (run tab (k + 8)) (.v 2) l104_0 [2, 3, 4, 5, 6, 7, 8, 9, 10] (.int w) [.sh (.scr ns), .ow (.lst (odds01.map enc)), .u, .u, .u, .u, .u, .u, .u, .u, .u, .u, .u] = some (.nx [.sh (.scr ns), .ow (.lst (odds01.map enc)), .u, .u, .u, .u, .u, .u, .u, .u, .u, .u, .u]) := by
  obtain ⟨nd, ed, hp, -, -, hl, hel, hlet⟩ := r_parts32 (k + 5) ns (5 * w) (by omega)
  have hp' : run tab (k + 8) 32 [.scr ns, .int (5 * (w : Int))] = some (.sh (.tup [.lst (nd.map enc), .lst (ed.map enc)])) := by
    have c : (5 * (w : Int)) = ((5 * w : Nat) : Int) := by omega
    rw [c]; exact hp
  have hsh : ShortN nd := fun n hn => by
    obtain ⟨i, hi, s, hs, e⟩ := hlet n hn
    rw [e]
    have h1 : (letterS i ++ s).length = (letterS i).length + s.length := by
      show ((letterS i).cps ++ s.cps).size = _
      exact Array.size_append
    have := suf_len s hs
    rw [h1, letter_len]; omega
  obtain ⟨ds, hr2, hd2⟩ := r_drawM (k + 6) ns (5 * w + 2) (by omega) (List.replicate 24 12) (by
    intro s hs
    simp [List.mem_replicate] at hs
    omega) (by simp)
  have hlen2 : ds.length = 24 := by rw [hd2.1]; simp
  have hr2' : run tab (k + 8) 31 [.scr ns, .int (5 * (w : Int) + 2), .lst (List.replicate 24 (D.int 12))] = some (.ow (.lst (ds.map D.int))) := by
    have c : (5 * (w : Int) + 2) = ((5 * w + 2 : Nat) : Int) := by omega
    have e : (List.replicate 24 (12 : Int)).map (enc : Int → D) = List.replicate 24 (D.int 12) := by rw [List.map_replicate]; rfl
    rw [c, ← e]; exact hr2
  obtain ⟨d23, h23⟩ : ∃ d : Int, atI (ds.map D.int) 23 = some (.int d) := by
    refine ⟨ds[23]'(by omega), ?_⟩
    have : atI (ds.map D.int) ((23 : Nat) : Int) = some (.int (ds[23]'(by omega))) := by
      rw [atI_cast, List.getElem?_map, List.getElem?_eq_getElem (by omega)]; rfl
    exact this
  obtain ⟨nd2, ht1, hnl, hnm⟩ := r_turnedE (k + 7) nd ds (by omega) (by omega)
  have hcut : slV (.lst (ds.map D.int)) (some 12) none = some (.ow (.lst ((ds.drop 12).map D.int))) := by
    have : slV (.lst (ds.map (enc : Int → D))) (some ((12 : Nat) : Int)) none = some (.ow (.lst ((ds.drop 12).map enc))) := by rw [sl_lst, cutD_map, cut_drop]
    exact this
  obtain ⟨ed1, ht2, hem, -⟩ := r_turnedE (k + 7) ed (ds.drop 12) (by rw [List.length_drop]; omega) (by rw [List.length_drop]; omega)
  have hsh2 : ShortN nd2 := fun n hn => hsh n (hnm n hn)
  have e2 : evS (run tab (k + 8)) q104_2 [.sh (.scr ns), .ow (.lst (odds01.map enc)), .sh (.int w), .u, .u, .u, .u, .u, .u, .u, .u, .u, .u] = some (.nx [.sh (.scr ns), .ow (.lst (odds01.map enc)), .sh (.int w), .sh (.lst (nd.map enc)), .sh (.lst (ed.map enc)), .u, .u, .u, .u, .u, .u, .u, .u]) := by
    have m1' : w < mulLine := by simp only [mulLine]; omega
    generalize odds01.map (enc : Nm → D) = OD
    generalize nd.map (enc : Node → D) = ND at *
    generalize ed.map (enc : Edge → D) = ED at *
    simp [q104_2, mulLine, bigLine, hp', m1']
  have e3 : evS (run tab (k + 8)) q104_3 [.sh (.scr ns), .ow (.lst (odds01.map enc)), .sh (.int w), .sh (.lst (nd.map enc)), .sh (.lst (ed.map enc)), .u, .u, .u, .u, .u, .u, .u, .u] = some (.nx [.sh (.scr ns), .ow (.lst (odds01.map enc)), .sh (.int w), .sh (.lst (nd.map enc)), .sh (.lst (ed.map enc)), .ow (.lst (ds.map D.int)), .u, .u, .u, .u, .u, .u, .u]) := by
    have m1' : w < mulLine := by simp only [mulLine]; omega
    simp [List.replicate] at hr2'
    generalize odds01.map (enc : Nm → D) = OD
    generalize nd.map (enc : Node → D) = ND at *
    generalize ed.map (enc : Edge → D) = ED at *
    simp [q104_3, mulLine, bigLine, List.replicate, hr2', m1']
  have e4 : evS (run tab (k + 8)) q104_4 [.sh (.scr ns), .ow (.lst (odds01.map enc)), .sh (.int w), .sh (.lst (nd.map enc)), .sh (.lst (ed.map enc)), .ow (.lst (ds.map D.int)), .u, .u, .u, .u, .u, .u, .u] = some (.nx [.sh (.scr ns), .ow (.lst (odds01.map enc)), .sh (.int w), .ow (.lst (nd2.map enc)), .sh (.lst (ed.map enc)), .ow (.lst (ds.map D.int)), .u, .u, .u, .u, .u, .u, .u]) := by
    generalize odds01.map (enc : Nm → D) = OD
    generalize nd.map (enc : Node → D) = ND at *
    generalize ed.map (enc : Edge → D) = ED at *
    generalize ds.map D.int = DS at *
    simp [q104_4, ht1]
  have hi : evI (run tab (k + 8)) (.seq (.call 103 (.cons (.var 4) (.cons (.sl (.var 5) (.yes (.int 12)) .no) .nil)))) [.sh (.scr ns), .ow (.lst (odds01.map enc)), .sh (.int w), .ow (.lst (nd2.map enc)), .sh (.lst (ed.map enc)), .ow (.lst (ds.map D.int)), .u, .u, .u, .u, .u, .u, .u] = some (ed1.map enc, [.sh (.scr ns), .ow (.lst (odds01.map enc)), .sh (.int w), .ow (.lst (nd2.map enc)), .sh (.lst (ed.map enc)), .ow (.lst (ds.map D.int)), .u, .u, .u, .u, .u, .u, .u]) := by
    generalize odds01.map (enc : Nm → D) = OD
    generalize nd2.map (enc : Node → D) = ND at *
    generalize ed.map (enc : Edge → D) = ED at *
    generalize (ds.drop 12).map D.int = DR at *
    generalize ds.map D.int = DS at *
    simp [hcut, ht2]
  obtain ⟨ed2, hem2, e5⟩ : ∃ ed2 : List Edge, ed2.length = ed1.length ∧ evE (run tab (k + 8)) c104_0 [.sh (.scr ns), .ow (.lst (odds01.map enc)), .sh (.int w), .ow (.lst (nd2.map enc)), .sh (.lst (ed.map enc)), .ow (.lst (ds.map D.int)), .u, .u, .u, .u, .u, .u, .u] = some (.ow (.lst (ed2.map enc)), [.sh (.scr ns), .ow (.lst (odds01.map enc)), .sh (.int w), .ow (.lst (nd2.map enc)), .sh (.lst (ed.map enc)), .ow (.lst (ds.map D.int)), .u, .u, .u, .u, .u, .u, .u]) := by
    have c3 : 3 ≤ bigLine := by simp [bigLine]
    by_cases h : d23 % 2 = 0
    · refine ⟨ed1, rfl, lc_of hi (lcD_each fun e he => ?_) (by rw [List.length_map]; simp only [bigLine]; omega) (.inr (by simp [List.all_map, D.flat]))⟩
      have ee : (enc e : D) = .tup [enc e.a, enc e.b, .int e.c] := rfl
      rw [ee]
      generalize odds01.map (enc : Nm → D) = OD
      generalize nd2.map (enc : Node → D) = ND at *
      generalize ed.map (enc : Edge → D) = ED at *
      generalize ds.map D.int = DS at *
      simp [lcStp, hide, h23, h]
    · refine ⟨ed1.map flE01, by rw [List.length_map], ?_⟩
      rw [List.map_map]
      refine lc_of hi (lcD_each (g := (enc : Edge → D) ∘ flE01) fun e he => ?_) (by rw [List.length_map]; simp only [bigLine]; omega) (.inr (by simp [List.all_map, D.flat]))
      have ee : (enc e : D) = .tup [enc e.a, enc e.b, .int e.c] := rfl
      have ef : ((enc : Edge → D) ∘ flE01) e = .tup [enc e.b, enc e.a, .int e.c] := rfl
      rw [ee, ef]
      generalize odds01.map (enc : Nm → D) = OD
      generalize nd2.map (enc : Node → D) = ND at *
      generalize ed.map (enc : Edge → D) = ED at *
      generalize ds.map D.int = DS at *
      simp [lcStp, hide, h23, h, c3]
  have e5' : evS (run tab (k + 8)) q104_5 [.sh (.scr ns), .ow (.lst (odds01.map enc)), .sh (.int w), .ow (.lst (nd2.map enc)), .sh (.lst (ed.map enc)), .ow (.lst (ds.map D.int)), .u, .u, .u, .u, .u, .u, .u] = some (.nx (Env01 ns w (.ow (.lst (ds.map D.int))) .u .u .u .u .u nd2 ed2)) := by
    unfold Env01
    generalize odds01.map (enc : Nm → D) = OD at *
    generalize nd2.map (enc : Node → D) = ND at *
    generalize ed.map (enc : Edge → D) = ED at *
    generalize ds.map D.int = DS at *
    generalize hcc : c104_0 = cc at *
    simp [q104_5, hcc, e5]
  have e6 := chk01 (k + 3) ns w (.ow (.lst (ds.map D.int))) .u .u .u .u .u nd2 ed2 hsh2 (by omega) (by omega)
  have lp := forD_rinv (n := 2) (step := forT (run tab (k + 8)) (.v 6) l104_1 [6, 7, 8, 9, 10]) (P := fun j e => ∃ (N : List (Nm × Int)) (E : List Edge), ShortN N ∧ N.length ≤ 12 + 12 * j ∧ E.length ≤ 12 + j ∧ e = Env01 ns w (.ow (.lst (ds.map D.int))) .u .u .u .u .u N E) (e0 := Env01 ns w (.ow (.lst (ds.map D.int))) .u .u .u .u .u nd2 ed2) ⟨nd2, ed2, hsh2, by omega, by omega, rfl⟩ fun j e hj he => by
    obtain ⟨N, E, q1, q2, q3, rfl⟩ := he
    obtain ⟨N', E', g1, g2, g3, g4⟩ := in01 k ns w hw (.ow (.lst (ds.map D.int))) j hj N E q1 q2 q3
    exact ⟨_, .inl g4, N', E', g1, g2, g3, rfl⟩
  obtain ⟨e', hl', N', E', -, -, -, rfl⟩ := lp
  have hi7 : evI (run tab (k + 8)) (.rng1 (.int 2)) (Env01 ns w (.ow (.lst (ds.map D.int))) .u .u .u .u .u nd2 ed2) = some ((List.range 2).map fun (k : Nat) => D.int k, Env01 ns w (.ow (.lst (ds.map D.int))) .u .u .u .u .u nd2 ed2) := by
    unfold Env01
    simp [rngLine]
  have e7 : evS (run tab (k + 8)) q104_7 (Env01 ns w (.ow (.lst (ds.map D.int))) .u .u .u .u .u nd2 ed2) = some (.nx (Env01 ns w (.ow (.lst (ds.map D.int))) .u .u .u .u .u N' E')) := go_for hi7 hl'
  exact Eq.trans (forT_nx (e1 := [.sh (.scr ns), .ow (.lst (odds01.map enc)), .sh (.int w), .u, .u, .u, .u, .u, .u, .u, .u, .u, .u]) rfl (go_nx e2 (go_nx e3 (go_nx e4 (go_nx e5' (go_nx (s := q104_6) e6 (go_nx e7 rfl))))))) rfl
theorem law_true (ns : List Int) (h : ns.length ≤ 63) : run tab 40 104 [.scr ns] = some (.sh (.bl true)) := by
  have e0 : evS (run tab 39) q104_0 [.sh (.scr ns), .u, .u, .u, .u, .u, .u, .u, .u, .u, .u, .u, .u] = some (.nx [.sh (.scr ns), .ow (.lst (odds01.map enc)), .u, .u, .u, .u, .u, .u, .u, .u, .u, .u, .u]) := by
    have : odds01.map (enc : Nm → D) = [.str "", .str "A", .str "9", .str "abcdefghi", .str "a_b", .str "zz", .str "abcdefgh", .str "a b", .str "aB", .str "ab\n"] := rfl
    rw [this]
    have c : 10 ≤ bigLine := by simp [bigLine]
    simp [q104_0, c]
  obtain ⟨m, hm, hr⟩ : ∃ m : Nat, m ≤ 6 ∧ evI (run tab 39) (.rng1 (.bi .min2 (.cons (.int 6) (.cons (.bin .Add (.int 1) (.bin .FloorDiv (.bi .len (.cons (.var 0) .nil)) (.int 5))) .nil)))) [.sh (.scr ns), .ow (.lst (odds01.map enc)), .u, .u, .u, .u, .u, .u, .u, .u, .u, .u, .u] = some ((List.range m).map fun (k : Nat) => D.int k, [.sh (.scr ns), .ow (.lst (odds01.map enc)), .u, .u, .u, .u, .u, .u, .u, .u, .u, .u, .u]) := by
    obtain ⟨y, hy⟩ : ∃ y : Int, y = 1 + (ns.length : Int) / 5 := ⟨_, rfl⟩
    obtain ⟨x, hx⟩ : ∃ x : Int, x = (if y < 6 then y else 6) := ⟨_, rfl⟩
    have h0 : 1 ≤ y := by omega
    have h1 : 1 ≤ x ∧ x ≤ 6 := by rw [hx]; split <;> omega
    have h2 : x.natAbs < rngLine := by simp only [rngLine]; omega
    refine ⟨x.toNat, by omega, ?_⟩
    generalize odds01.map (enc : Nm → D) = OD
    simp [divLine, ← hy, ← hx, h2]
  have lp := forD_range (fun _ => [.sh (.scr ns), .ow (.lst (odds01.map enc)), .u, .u, .u, .u, .u, .u, .u, .u, .u, .u, .u]) (step := forT (run tab 39) (.v 2) l104_0 [2, 3, 4, 5, 6, 7, 8, 9, 10]) (n := m) fun j hj => .inl (turn01 31 ns j (by omega))
  refine run_at (fx := x104) rfl rfl (go_nx e0 (go_nx (go_for hr lp) (go_rt ?_)))
  simp [q104_15]


end TsX
namespace TsX
open PySem PySem.Spec PyProof.Rows L2 Ts

section
theorem all_mk {l : PySem.W.OpenLaw} {w : World} {K : PySem.W.Frag} {h : Heap} {mg : Str → Option Value} {fa f0 f1 f2 f3 f4 f5 f6 f7 f8 f9 f10 f11 f12 f13 f14 : Addr} (X : K.In h) (G : h.Ns mainGlobals mg) (hfa : mg "law" = some (.ref fa))
    {od0 an0 : Option Addr} {sl0 : Array (Option Value)} {oc0 kV0 dc0 pm0 cd0 ct0 : Value} (a0 : PySem.W.nsIn K mainGlobals "is_name" = some (some (.ref f0))) (l0 : K.lookup f0 = some ⟨oc0, od0, .func (PySem.W.fnOf "is_name" "is_name" (defArgs s93) (defBody s93) (defScope s93) .none kV0 dc0 pm0 an0 cd0 ct0), sl0⟩) (c0 : PySem.W.codeIn K cd0 "is_name" = true) (k0 : PySem.W.keepIn K (.ref f0) = true)
    {od1 an1 : Option Addr} {sl1 : Array (Option Value)} {oc1 kV1 dc1 pm1 cd1 ct1 : Value} (a1 : PySem.W.nsIn K mainGlobals "check_nodes" = some (some (.ref f1))) (l1 : K.lookup f1 = some ⟨oc1, od1, .func (PySem.W.fnOf "check_nodes" "check_nodes" (defArgs s94) (defBody s94) (defScope s94) .none kV1 dc1 pm1 an1 cd1 ct1), sl1⟩) (c1 : PySem.W.codeIn K cd1 "check_nodes" = true) (k1 : PySem.W.keepIn K (.ref f1) = true)
    {od2 an2 : Option Addr} {sl2 : Array (Option Value)} {oc2 kV2 dc2 pm2 cd2 ct2 : Value} (a2 : PySem.W.nsIn K mainGlobals "edge_fault" = some (some (.ref f2))) (l2 : K.lookup f2 = some ⟨oc2, od2, .func (PySem.W.fnOf "edge_fault" "edge_fault" (defArgs s95) (defBody s95) (defScope s95) .none kV2 dc2 pm2 an2 cd2 ct2), sl2⟩) (c2 : PySem.W.codeIn K cd2 "edge_fault" = true) (k2 : PySem.W.keepIn K (.ref f2) = true)
    {od3 an3 : Option Addr} {sl3 : Array (Option Value)} {oc3 kV3 dc3 pm3 cd3 ct3 : Value} (a3 : PySem.W.nsIn K mainGlobals "joined_clusters" = some (some (.ref f3))) (l3 : K.lookup f3 = some ⟨oc3, od3, .func (PySem.W.fnOf "joined_clusters" "joined_clusters" (defArgs s96) (defBody s96) (defScope s96) .none kV3 dc3 pm3 an3 cd3 ct3), sl3⟩) (c3 : PySem.W.codeIn K cd3 "joined_clusters" = true) (k3 : PySem.W.keepIn K (.ref f3) = true)
    {od4 an4 : Option Addr} {sl4 : Array (Option Value)} {oc4 kV4 dc4 pm4 cd4 ct4 : Value} (a4 : PySem.W.nsIn K mainGlobals "check_edges" = some (some (.ref f4))) (l4 : K.lookup f4 = some ⟨oc4, od4, .func (PySem.W.fnOf "check_edges" "check_edges" (defArgs s97) (defBody s97) (defScope s97) .none kV4 dc4 pm4 an4 cd4 ct4), sl4⟩) (c4 : PySem.W.codeIn K cd4 "check_edges" = true) (k4 : PySem.W.keepIn K (.ref f4) = true)
    {od5 an5 : Option Addr} {sl5 : Array (Option Value)} {oc5 kV5 dc5 pm5 cd5 ct5 : Value} (a5 : PySem.W.nsIn K mainGlobals "in_order" = some (some (.ref f5))) (l5 : K.lookup f5 = some ⟨oc5, od5, .func (PySem.W.fnOf "in_order" "in_order" (defArgs s98) (defBody s98) (defScope s98) .none kV5 dc5 pm5 an5 cd5 ct5), sl5⟩) (c5 : PySem.W.codeIn K cd5 "in_order" = true) (k5 : PySem.W.keepIn K (.ref f5) = true)
    {od6 an6 : Option Addr} {sl6 : Array (Option Value)} {oc6 kV6 dc6 pm6 cd6 ct6 : Value} (a6 : PySem.W.nsIn K mainGlobals "tree" = some (some (.ref f6))) (l6 : K.lookup f6 = some ⟨oc6, od6, .func (PySem.W.fnOf "tree" "tree" (defArgs s99) (defBody s99) (defScope s99) .none kV6 dc6 pm6 an6 cd6 ct6), sl6⟩) (c6 : PySem.W.codeIn K cd6 "tree" = true) (k6 : PySem.W.keepIn K (.ref f6) = true)
    {od7 an7 : Option Addr} {sl7 : Array (Option Value)} {oc7 kV7 dc7 pm7 cd7 ct7 : Value} (a7 : PySem.W.nsIn K mainGlobals "_law_cell" = some (some (.ref f7))) (l7 : K.lookup f7 = some ⟨oc7, od7, .func (PySem.W.fnOf "_law_cell" "_law_cell" (defArgs s5) (defBody s5) (defScope s5) .none kV7 dc7 pm7 an7 cd7 ct7), sl7⟩) (c7 : PySem.W.codeIn K cd7 "_law_cell" = true) (k7 : PySem.W.keepIn K (.ref f7) = true)
    {od8 an8 : Option Addr} {sl8 : Array (Option Value)} {oc8 kV8 dc8 pm8 cd8 ct8 : Value} (a8 : PySem.W.nsIn K mainGlobals "_law_draw" = some (some (.ref f8))) (l8 : K.lookup f8 = some ⟨oc8, od8, .func (PySem.W.fnOf "_law_draw" "_law_draw" (defArgs s31) (defBody s31) (defScope s31) .none kV8 dc8 pm8 an8 cd8 ct8), sl8⟩) (c8 : PySem.W.codeIn K cd8 "_law_draw" = true) (k8 : PySem.W.keepIn K (.ref f8) = true)
    {od9 an9 : Option Addr} {sl9 : Array (Option Value)} {oc9 kV9 dc9 pm9 cd9 ct9 : Value} (a9 : PySem.W.nsIn K mainGlobals "_law_parts" = some (some (.ref f9))) (l9 : K.lookup f9 = some ⟨oc9, od9, .func (PySem.W.fnOf "_law_parts" "_law_parts" (defArgs s32) (defBody s32) (defScope s32) .none kV9 dc9 pm9 an9 cd9 ct9), sl9⟩) (c9 : PySem.W.codeIn K cd9 "_law_parts" = true) (k9 : PySem.W.keepIn K (.ref f9) = true)
    {od10 an10 : Option Addr} {sl10 : Array (Option Value)} {oc10 kV10 dc10 pm10 cd10 ct10 : Value} (a10 : PySem.W.nsIn K mainGlobals "_law_name" = some (some (.ref f10))) (l10 : K.lookup f10 = some ⟨oc10, od10, .func (PySem.W.fnOf "_law_name" "_law_name" (defArgs s100) (defBody s100) (defScope s100) .none kV10 dc10 pm10 an10 cd10 ct10), sl10⟩) (c10 : PySem.W.codeIn K cd10 "_law_name" = true) (k10 : PySem.W.keepIn K (.ref f10) = true)
    {od11 an11 : Option Addr} {sl11 : Array (Option Value)} {oc11 kV11 dc11 pm11 cd11 ct11 : Value} (a11 : PySem.W.nsIn K mainGlobals "_law_due" = some (some (.ref f11))) (l11 : K.lookup f11 = some ⟨oc11, od11, .func (PySem.W.fnOf "_law_due" "_law_due" (defArgs s101) (defBody s101) (defScope s101) .none kV11 dc11 pm11 an11 cd11 ct11), sl11⟩) (c11 : PySem.W.codeIn K cd11 "_law_due" = true) (k11 : PySem.W.keepIn K (.ref f11) = true)
    {od12 an12 : Option Addr} {sl12 : Array (Option Value)} {oc12 kV12 dc12 pm12 cd12 ct12 : Value} (a12 : PySem.W.nsIn K mainGlobals "_law_told" = some (some (.ref f12))) (l12 : K.lookup f12 = some ⟨oc12, od12, .func (PySem.W.fnOf "_law_told" "_law_told" (defArgs s102) (defBody s102) (defScope s102) .none kV12 dc12 pm12 an12 cd12 ct12), sl12⟩) (c12 : PySem.W.codeIn K cd12 "_law_told" = true) (k12 : PySem.W.keepIn K (.ref f12) = true)
    {od13 an13 : Option Addr} {sl13 : Array (Option Value)} {oc13 kV13 dc13 pm13 cd13 ct13 : Value} (a13 : PySem.W.nsIn K mainGlobals "_law_turned" = some (some (.ref f13))) (l13 : K.lookup f13 = some ⟨oc13, od13, .func (PySem.W.fnOf "_law_turned" "_law_turned" (defArgs s103) (defBody s103) (defScope s103) .none kV13 dc13 pm13 an13 cd13 ct13), sl13⟩) (c13 : PySem.W.codeIn K cd13 "_law_turned" = true) (k13 : PySem.W.keepIn K (.ref f13) = true)
    {od14 an14 : Option Addr} {sl14 : Array (Option Value)} {oc14 kV14 dc14 pm14 cd14 ct14 : Value} (a14 : PySem.W.nsIn K mainGlobals "law" = some (some (.ref f14))) (l14 : K.lookup f14 = some ⟨oc14, od14, .func (PySem.W.fnOf "law" "law" (defArgs s104) (defBody s104) (defScope s104) .none kV14 dc14 pm14 an14 cd14 ct14), sl14⟩) (c14 : PySem.W.codeIn K cd14 "law" = true) (k14 : PySem.W.keepIn K (.ref f14) = true)
    (z_len : PySem.W.nsIn K mainGlobals "len" = some none)
    (z_abs : PySem.W.nsIn K mainGlobals "abs" = some none)
    (z_min : PySem.W.nsIn K mainGlobals "min" = some none)
    (z_max : PySem.W.nsIn K mainGlobals "max" = some none)
    (z_sorted : PySem.W.nsIn K mainGlobals "sorted" = some none)
    (z_sum : PySem.W.nsIn K mainGlobals "sum" = some none)
    (z_tuple : PySem.W.nsIn K mainGlobals "tuple" = some none)
    (z_list : PySem.W.nsIn K mainGlobals "list" = some none)
    (z_all : PySem.W.nsIn K mainGlobals "all" = some none)
    (z_any : PySem.W.nsIn K mainGlobals "any" = some none)
    (z_range : PySem.W.nsIn K mainGlobals "range" = some none)
    (z_isinstance : PySem.W.nsIn K mainGlobals "isinstance" = some none)
    (z_bool : PySem.W.nsIn K mainGlobals "bool" = some none)
    (z_int : PySem.W.nsIn K mainGlobals "int" = some none)
    (z_str : PySem.W.nsIn K mainGlobals "str" = some none)
    (z_set : PySem.W.nsIn K mainGlobals "set" = some none)
    (z_dict : PySem.W.nsIn K mainGlobals "dict" = some none)
    (z_enumerate : PySem.W.nsIn K mainGlobals "enumerate" = some none)
    (z_zip : PySem.W.nsIn K mainGlobals "zip" = some none)
    (z_reversed : PySem.W.nsIn K mainGlobals "reversed" = some none)
    {tct0 : Tok} (cst0 : PySem.W.nsIn K mainGlobals "NODES" = some (some (.int 12 tct0)))
    {tct1 : Tok} (cst1 : PySem.W.nsIn K mainGlobals "GREAT" = some (some (.int 999 tct1)))
    {tct2 : Tok} (cst2 : PySem.W.nsIn K mainGlobals "LETTERS" = some (some (.int 8 tct2)))
    {tct3 : Tok} (cst3 : PySem.W.nsIn K mainGlobals "SMALL" = some (some (.str "abcdefghijklmnopqrstuvwxyz" tct3)))
    {tct4 : Tok} (cst4 : PySem.W.nsIn K mainGlobals "FIGURES" = some (some (.str "0123456789" tct4)))
    {nm0 qn0 : Str} {nN0 : Addr} {bs0 bm0 : List Value} {sn0 : List Str} {sub0 : List Value} {ab0 : Bool} {col0 : Option Bool} {dd0 : Option Addr} {m00 m10 m20 m30 m50 : Option Value} {C0 fI0 cda0 cc0 : Addr} {xoc0 xcc0 xcl0 xkV0 xdc0 xpm0 xct0 : Value} {xan0 xod0 xdd0 xcd0 : Option Addr} {xsl0 xcs0 xls0 : Array (Option Value)} {vs0 : Array Value} {file0 : Str} {tf0 : Tok} {cdD0 : ClassData} {ql0 : Str}
    (aC0 : PySem.W.nsIn K mainGlobals "ShapeError" = some (some (.ref C0))) (xL0 : K.lookup C0 = some (excClassObj nm0 qn0 C0 nN0 bs0 bm0 true sn0 sub0 ab0 col0 dd0 m00 m10 m20 m30 m50 "ValueError.__new__"))
    (rb0 : PySem.HandSPX.refsVE bm0 = true) (sa0 : PySem.W.findIn K (.ref C0) "__setattr__" = some (some (.builtin "object.__setattr__"))) (ga0 : PySem.W.findIn K (.ref C0) "__getattribute__" = some (some (.builtin "BaseException.__getattribute__"))) (gg0 : PySem.W.findIn K (.ref C0) "__getattr__" = some none)
    (nf0_0 : PySem.W.findIn K (.ref C0) "what" = some none)
    (nf0_1 : PySem.W.findIn K (.ref C0) "place" = some none)
    (xI0 : PySem.W.findIn K (.ref C0) "__init__" = some (some (.ref fI0))) (xT0 : PySem.W.typeIn K (.ref fI0) = some (.type "function")) (xl0 : K.lookup fI0 = some ⟨xoc0, xod0, .func (PySem.W.ksFn "__init__" ql0 (defArgs sC0) (defBody sC0) (defScope sC0) .none xkV0 xdc0 xpm0 xan0 (.ref cda0) xct0 cc0), xsl0⟩) (xc0 : PySem.W.codeIn K (.ref cda0) ql0 = true)
    (kC0 : PySem.W.keepIn K (.ref C0) = true) (eC0 : PySem.W.subIn K (.ref C0) (.type "BaseException") = some true) (tC0 : PySem.W.typeIn K (.ref C0) = some (.type "type")) (hC0 : PySem.W.hasDictIn K C0 = true) (xk0 : K.lookup cda0 = some ⟨xcc0, xdd0, .fields vs0, xcs0⟩) (xv0 : vs0[2]? = some (.str file0 tf0)) (xf0 : ((l.prog.main.file : Str) == file0) = true)
    (xe0 : K.lookup cc0 = some ⟨xcl0, xcd0, .cell (some (.ref C0)), xls0⟩) (xd0 : PySem.W.clsIn K C0 = some cdD0) (xr0 : PySem.W.mroIn K C0 (.ref C0) = some true) (xm0 : PySem.W.ks_superIn K C0 C0 "__init__" = some (some (.builtin "ValueError.__init__"))) (xB0 : PySem.W.subIn K (.ref C0) (.type "ValueError") = some true)
    (z_super : PySem.W.nsIn K mainGlobals "super" = some none) (xht : (l.prog.main.scope.names.lookup ("super" : Str)).isSome = false) (xho : PySem.W.nsIn K cStatics "thirdparty.any" = some none)
    (ic0 : PySem.W.findIn K (.ref C0) "__class__" = some (some (.builtin "object.__class__"))) (im0 : PySem.W.mroIn K C0 (.type "object") = some true)
    (isn : PySem.W.specialIn K (.builtin "object.__class__") "__get__" = some (some (.builtin "getset_descriptor.__get__"))) (ist : PySem.W.takesIn K (.builtin "object.__class__") = some true)
    {H0 : Addr} (hn0 : PySem.W.nsIn K mainGlobals "TreeError" = some (some (.ref H0)))
    (hx0_0 : PySem.W.exmOne K (.ref C0) (.ref H0) = some true)
    : ∃ fd : FuncData, (∀ (s : Shared) (v : Value), BindsTo s fd ⟨[v], []⟩ [("_law_script", v)]) ∧ ∀ base : Heap, K.In base → base.Ns mainGlobals mg → FnOk l.prog w K mg base CX0 42 fa fd ["_law_script"] (spD K [] (run tab 40) 104 1) := by
  have e := hfa.symm.trans (PySem.W.mg_of X G a14)
  cases e
  have XC0 : ∀ base : Heap, XcOk l.prog w K mg base "ShapeError" C0 [("what" : Str), ("place" : Str)] := fun base => by
    have OE : OexC K C0 := ⟨⟨_, _, _, _, _, _, _, _, _, _, _, _, _, _, _, xL0, rb0⟩, sa0, eC0, tC0, kC0⟩
    obtain ⟨p0, p1, p2, p3, p4, p5, q1, q2, q3, q4, r1, r2, r3, r4, hb, hev⟩ := xb0
    have Z : XiK l.prog K mg C0 fI0 [("self" : Str), ("what" : Str), ("place" : Str)] _ (defScope sC0) (defBody sC0) (.ref cda0) cc0 := ⟨OE, ⟨_, _, _, _, _, _, _, _, _, _, _, _, _, _, _, _, _, _, _, _, _, _, _, rfl, xl0, rfl, xc0, rfl, rfl, xk0, xv0, xf0, xe0, xd0, xr0⟩, PySem.W.mg_none_of X G z_super, by decide +kernel, by decide +kernel, by decide +kernel, by decide +kernel, by decide +kernel, by decide +kernel, by decide +kernel, by decide +kernel, xht, xho, xm0, xB0⟩
    have FI := xl0
    rw [hb] at Z
    refine ⟨PySem.W.mg_of X G aC0, OE, ⟨_, _, [("self" : Str), ("what" : Str), ("place" : Str)], xI0, xT0, xi_ok2 Z (hev _ _ _) (by decide +kernel) (by decide +kernel) (by decide +kernel) (by decide +kernel) nf0_0 nf0_1, .all fun us hl => match us, hl with | [_, _, _], _ => rfl⟩, fun f hf => ?_, by decide +kernel, by decide, ⟨ga0, gg0, eC0, hC0⟩⟩
    simp only [List.mem_cons, List.not_mem_nil, or_false] at hf
    rcases hf with rfl | rfl
    · exact nf0_0
    · exact nf0_1
  have T : ∀ base, TbOk l.prog w names tab [] K mg base := fun base => by
    refine ⟨fun f x hx => ?_, fun f x m hx => ?_, fun f x hx => ?_, fun c nm flds hx => ?_, fun x hs hx => ?_, fun hI c nm flds Cc hx hm => ?_, fun b => ?_, PySem.W.mg_none_of X G z_range, fun x hx => ?_, fun x d hx => ?_⟩
    · simp only [names] at hx
      split at hx
      · cases hx
        exact fi_mk X G a0 l0 c0 k0 sc93 (fun _ _ _ _ _ _ us hl => match us, hl with | [_], _ => rfl) rfl rfl rfl rfl rfl (by decide) ck93 (fun h => by cases h)
      · cases hx
        exact fi_mk X G a2 l2 c2 k2 sc95 (fun _ _ _ _ _ _ us hl => match us, hl with | [_, _], _ => rfl) rfl rfl rfl rfl rfl (by decide) ck95 (fun h => by cases h)
      · cases hx
        exact fi_mk X G a3 l3 c3 k3 sc96 (fun _ _ _ _ _ _ us hl => match us, hl with | [_, _, _], _ => rfl) rfl rfl rfl rfl rfl (by decide) ck96 (fun h => by cases h)
      · cases hx
        exact fi_mk X G a5 l5 c5 k5 sc98 (fun _ _ _ _ _ _ us hl => match us, hl with | [_], _ => rfl) rfl rfl rfl rfl rfl (by decide) ck98 (fun h => by cases h)
      · cases hx
        exact fi_mk X G a7 l7 c7 k7 sc5 (fun _ _ _ _ _ _ us hl => match us, hl with | [_, _], _ => rfl) rfl rfl rfl rfl rfl (by decide) ck5 (fun h => by cases h)
      · cases hx
        exact fi_mk X G a8 l8 c8 k8 sc31 (fun _ _ _ _ _ _ us hl => match us, hl with | [_, _, _], _ => rfl) rfl rfl rfl rfl rfl (by decide) ck31 (fun h => by cases h)
      · cases hx
        exact fi_mk X G a9 l9 c9 k9 sc32 (fun _ _ _ _ _ _ us hl => match us, hl with | [_, _], _ => rfl) rfl rfl rfl rfl rfl (by decide) ck32 (fun h => by cases h)
      · cases hx
        exact fi_mk X G a10 l10 c10 k10 sc100 (fun _ _ _ _ _ _ us hl => match us, hl with | [_], _ => rfl) rfl rfl rfl rfl rfl (by decide) ck100 (fun h => by cases h)
      · cases hx
        exact fi_mk X G a11 l11 c11 k11 sc101 (fun _ _ _ _ _ _ us hl => match us, hl with | [_, _], _ => rfl) rfl rfl rfl rfl rfl (by decide) ck101 (fun h => by cases h)
      · cases hx
        exact fi_mk X G a12 l12 c12 k12 sc102 (fun _ _ _ _ _ _ us hl => match us, hl with | [_, _], _ => rfl) rfl rfl rfl rfl rfl (by decide) ck102 (fun h => by cases h)
      · cases hx
        exact fi_mk X G a13 l13 c13 k13 sc103 (fun _ _ _ _ _ _ us hl => match us, hl with | [_, _], _ => rfl) rfl rfl rfl rfl rfl (by decide) ck103 (fun h => by cases h)
      · cases hx
    · simp only [names] at hx
      cases hx
    · simp only [names] at hx
      split at hx
      · cases hx
        exact fi_mk X G a1 l1 c1 k1 sc94 (fun _ _ _ _ _ _ us hl => match us, hl with | [_], _ => rfl) rfl rfl rfl rfl rfl (by decide) ck94 (fun h => by cases h)
      · cases hx
        exact fi_mk X G a4 l4 c4 k4 sc97 (fun _ _ _ _ _ _ us hl => match us, hl with | [_, _], _ => rfl) rfl rfl rfl rfl rfl (by decide) ck97 (fun h => by cases h)
      · cases hx
        exact fi_mk X G a6 l6 c6 k6 sc99 (fun _ _ _ _ _ _ us hl => match us, hl with | [_, _], _ => rfl) rfl rfl rfl rfl rfl (by decide) ck99 (fun h => by cases h)
      · cases hx
    · match c, hx with
      | 0, hx =>
        simp only [names] at hx
        cases hx
        exact ⟨_, XC0 base⟩
      | n + 1, hx => simp [names] at hx
    · simp only [names] at hx
      rw [List.lookup_cons] at hx
      split at hx
      next q =>
        have q := eq_of_beq q
        subst q
        cases hx
        refine ⟨_, PySem.W.mg_of X G hn0, fun c nm flds Cc hc hm => ?_⟩
        match c, hc with
        | 0, hc =>
          simp only [names] at hc
          cases hc
          rw [PySem.W.mg_of X G aC0] at hm
          cases hm
          exact hx0_0
        | n + 1, hc => simp [names] at hc
      cases hx
    · match c, hx with
      | 0, hx =>
        simp only [names] at hx
        cases hx
        rw [PySem.W.mg_of X G aC0] at hm
        cases hm
        exact ⟨ga0, gg0, eC0, hC0, ic0, isn, ist, im0⟩
      | n + 1, hx => simp [names] at hx
    · cases b <;> first | exact PySem.W.mg_none_of X G z_len | exact PySem.W.mg_none_of X G z_abs | exact PySem.W.mg_none_of X G z_min | exact PySem.W.mg_none_of X G z_max | exact PySem.W.mg_none_of X G z_sorted | exact PySem.W.mg_none_of X G z_sum | exact PySem.W.mg_none_of X G z_tuple | exact PySem.W.mg_none_of X G z_list | exact PySem.W.mg_none_of X G z_all | exact PySem.W.mg_none_of X G z_any
    · simp only [otNames, List.mem_cons, List.not_mem_nil, or_false] at hx
      rcases hx with rfl | rfl | rfl | rfl | rfl | rfl | rfl | rfl | rfl | rfl | rfl
      · exact PySem.W.mg_none_of X G z_isinstance
      · exact PySem.W.mg_none_of X G z_bool
      · exact PySem.W.mg_none_of X G z_int
      · exact PySem.W.mg_none_of X G z_str
      · exact PySem.W.mg_none_of X G z_tuple
      · exact PySem.W.mg_none_of X G z_len
      · exact PySem.W.mg_none_of X G z_set
      · exact PySem.W.mg_none_of X G z_dict
      · exact PySem.W.mg_none_of X G z_enumerate
      · exact PySem.W.mg_none_of X G z_zip
      · exact PySem.W.mg_none_of X G z_reversed
    · simp only [names] at hx
      rw [List.lookup_cons] at hx
      split at hx
      next q =>
        have q := eq_of_beq q
        subst q
        cases hx
        exact ⟨_, .int 12, PySem.W.mg_of X G cst0, ⟨_, rfl⟩, fun F => .int _, rfl⟩
      rw [List.lookup_cons] at hx
      split at hx
      next q =>
        have q := eq_of_beq q
        subst q
        cases hx
        exact ⟨_, .int 999, PySem.W.mg_of X G cst1, ⟨_, rfl⟩, fun F => .int _, rfl⟩
      rw [List.lookup_cons] at hx
      split at hx
      next q =>
        have q := eq_of_beq q
        subst q
        cases hx
        exact ⟨_, .int 8, PySem.W.mg_of X G cst2, ⟨_, rfl⟩, fun F => .int _, rfl⟩
      rw [List.lookup_cons] at hx
      split at hx
      next q =>
        have q := eq_of_beq q
        subst q
        cases hx
        exact ⟨_, .str "abcdefghijklmnopqrstuvwxyz", PySem.W.mg_of X G cst3, ⟨_, rfl⟩, fun F => .str _, rfl⟩
      rw [List.lookup_cons] at hx
      split at hx
      next q =>
        have q := eq_of_beq q
        subst q
        cases hx
        exact ⟨_, .str "0123456789", PySem.W.mg_of X G cst4, ⟨_, rfl⟩, fun F => .str _, rfl⟩
      cases hx
  have F := func_mk (st := s104) l14 c14 k14
  exact ⟨_, fun s v => .of_eq rfl, fun base _ _ => law_ok (T base) 39 F sc104 (f := 104) (fx := x104) rfl rfl rfl rfl rfl ck104⟩
end
end TsX


open PySem PySem.W PyProof.Rows
set_option maxRecDepth 100000 in
set_option maxHeartbeats 0 in
theorem PySem.Challenge.cw_treeserved_k01_trees_made_holds : PySem.Challenge.rw_treeserved_k01_trees_made.Holds := by
  w_on; o_law; k_head; (case hw => w_witness2)
  k_fill
  refine L2.walk_of (l := PySem.Challenge.rw_treeserved_k01_trees_made) (n := 63) (k := 42) (x := "_law_script") (CX := fun _ => L2.CX0) (sp := fun w => Ts.spD _ [] (Ts.run TsX.tab 40) 104 1) rfl (by decide) rfl ⟨rfl, by decide, by decide⟩ (fun w h Y => PySem.W.kIn_of Y) ?F (fun w H a ns hl _ hS => Ts.spD_law (fun _ h => by cases h) hS (TsX.law_true ns hl)) (fun _ _ _ _ _ h => h)
  case F =>
    intro w mg fa h KX G hmg
    refine' TsX.all_mk KX G hmg ?a0 ?l0 ?c0 ?k0 ?a1 ?l1 ?c1 ?k1 ?a2 ?l2 ?c2 ?k2 ?a3 ?l3 ?c3 ?k3 ?a4 ?l4 ?c4 ?k4 ?a5 ?l5 ?c5 ?k5 ?a6 ?l6 ?c6 ?k6 ?a7 ?l7 ?c7 ?k7 ?a8 ?l8 ?c8 ?k8 ?a9 ?l9 ?c9 ?k9 ?a10 ?l10 ?c10 ?k10 ?a11 ?l11 ?c11 ?k11 ?a12 ?l12 ?c12 ?k12 ?a13 ?l13 ?c13 ?k13 ?a14 ?l14 ?c14 ?k14 ?z_len ?z_abs ?z_min ?z_max ?z_sorted ?z_sum ?z_tuple ?z_list ?z_all ?z_any ?z_range ?z_isinstance ?z_bool ?z_int ?z_str ?z_set ?z_dict ?z_enumerate ?z_zip ?z_reversed ?cst0 ?cst1 ?cst2 ?cst3 ?cst4 ?aC0 ?xL0 ?rb0 ?sa0 ?ga0 ?gg0 ?nf0_0 ?nf0_1 ?xI0 ?xT0 ?xl0 ?xc0 ?kC0 ?eC0 ?tC0 ?hC0 ?xk0 ?xv0 ?xf0 ?xe0 ?xd0 ?xr0 ?xm0 ?xB0 ?z_super ?xht ?xho ?ic0 ?im0 ?isn ?ist ?hn0 ?hx0_0
    (case a0 => k_is); (case l0 => k_is); (case c0 => k_is); (case k0 => k_is); (case a1 => k_is); (case l1 => k_is); (case c1 => k_is); (case k1 => k_is); (case a2 => k_is); (case l2 => k_is); (case c2 => k_is); (case k2 => k_is); (case a3 => k_is); (case l3 => k_is); (case c3 => k_is); (case k3 => k_is); (case a4 => k_is); (case l4 => k_is); (case c4 => k_is); (case k4 => k_is); (case a5 => k_is); (case l5 => k_is); (case c5 => k_is); (case k5 => k_is); (case a6 => k_is); (case l6 => k_is); (case c6 => k_is); (case k6 => k_is); (case a7 => k_is); (case l7 => k_is); (case c7 => k_is); (case k7 => k_is); (case a8 => k_is); (case l8 => k_is); (case c8 => k_is); (case k8 => k_is); (case a9 => k_is); (case l9 => k_is); (case c9 => k_is); (case k9 => k_is); (case a10 => k_is); (case l10 => k_is); (case c10 => k_is); (case k10 => k_is); (case a11 => k_is); (case l11 => k_is); (case c11 => k_is); (case k11 => k_is); (case a12 => k_is); (case l12 => k_is); (case c12 => k_is); (case k12 => k_is); (case a13 => k_is); (case l13 => k_is); (case c13 => k_is); (case k13 => k_is); (case a14 => k_is); (case l14 => k_is); (case c14 => k_is); (case k14 => k_is); (case z_len => k_is); (case z_abs => k_is); (case z_min => k_is); (case z_max => k_is); (case z_sorted => k_is); (case z_sum => k_is); (case z_tuple => k_is); (case z_list => k_is); (case z_all => k_is); (case z_any => k_is); (case z_range => k_is); (case z_isinstance => k_is); (case z_bool => k_is); (case z_int => k_is); (case z_str => k_is); (case z_set => k_is); (case z_dict => k_is); (case z_enumerate => k_is); (case z_zip => k_is); (case z_reversed => k_is); (case cst0 => k_is); (case cst1 => k_is); (case cst2 => k_is); (case cst3 => k_is); (case cst4 => k_is); (case aC0 => k_is); (case xL0 => k_is); (case rb0 => first | rfl | k_is | kernel_rfl | decide +kernel); (case sa0 => k_is); (case ga0 => k_is); (case gg0 => k_is); (case nf0_0 => k_is); (case nf0_1 => k_is); (case xI0 => k_is); (case xT0 => k_is); (case xl0 => k_is); (case xc0 => k_is); (case kC0 => k_is); (case eC0 => k_is); (case tC0 => k_is); (case hC0 => k_is); (case xk0 => k_is); (case xv0 => first | rfl | k_is | kernel_rfl | decide +kernel); (case xf0 => first | rfl | k_is | kernel_rfl | decide +kernel); (case xe0 => k_is); (case xd0 => k_is); (case xr0 => k_is); (case xm0 => first | rfl | k_is | kernel_rfl | decide +kernel); (case xB0 => k_is); (case z_super => k_is); (case xht => first | rfl | k_is | kernel_rfl | decide +kernel); (case xho => first | rfl | k_is | kernel_rfl | decide +kernel); (case ic0 => k_is); (case im0 => k_is); (case isn => k_is); (case ist => k_is); (case hn0 => k_is); (case hx0_0 => first | rfl | k_is | kernel_rfl | decide +kernel)
