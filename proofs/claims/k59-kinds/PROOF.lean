import PyProof.Rows.All
import Wide.All
import OpenK.AllK
import Wide.FinOn
import HandS.ForMost
import HandS.Deep
import HandS.TupAny
import HandS.TupMul
import HandS.Conv
import HandS.IsInst
import HandS.Flow
import HandS.Style
import HandS.Zip
import HandS.RaiseMore
import HandS.Small
import HandS.Strs
import HandS.SetFor
import KE.SortData
import PySem.Challenge.RW_manydeep_k59_kinds_and_where_they_lead
set_option Elab.async false
set_option linter.all false
set_option maxRecDepth 100000
/-! MiniPy, part A: values, heap, the compact syntax, the evaluator -/
namespace MP
open PySem L2

inductive T where
  | non | bl (b : Bool) | int (i : Int) | str (x : Str) | tup (xs : List T) | fz (xs : List T) | ref (n : Nat) | fn (f : String)
  deriving Inhabited

/-- a dict's key -/
inductive KT where
  | ki (i : Int) | ks (x : Str)
  deriving DecidableEq
def KT.key : KT → Key
  | .ki i => .inl i
  | .ks x => .inr x
def KT.t : KT → T
  | .ki i => .int i
  | .ks x => .str x
def T.kt : T → Option KT
  | .int i => some (.ki i)
  | .str x => some (.ks x)
  | _ => none

inductive O where
  | lst (xs : List T) | dK (kvs : List (KT × T))
  deriving Inhabited
abbrev Hh := List O

inductive R (α : Type) where
  | ok (a : α) (h : Hh) | exc (c : String) (fs : List T) (h : Hh) | bad
def R.bd {α β : Type} (r : R α) (f : α → Hh → R β) : R β := match r with
  | .ok a h => f a h
  | .exc c fs h => .exc c fs h
  | .bad => .bad
@[simp] theorem R.bd_ok {α β : Type} (a : α) (h : Hh) (f : α → Hh → R β) : (R.ok a h).bd f = f a h := rfl
@[simp] theorem R.bd_exc {α β : Type} (c : String) (fs : List T) (h : Hh) (f : α → Hh → R β) : (R.exc c fs h : R α).bd f = .exc c fs h := rfl
@[simp] theorem R.bd_bad {α β : Type} (f : α → Hh → R β) : (R.bad : R α).bd f = .bad := rfl
theorem R.bd_eq_ok {α β : Type} {r : R α} {f : α → Hh → R β} {b : β} {h' : Hh} (e : r.bd f = .ok b h') : ∃ a h1, r = .ok a h1 ∧ f a h1 = .ok b h' := by
  cases r with
  | ok a h1 => exact ⟨a, h1, rfl, e⟩
  | exc c fs h1 => cases e
  | bad => cases e

/-! ### data -/
mutual
def T.dat (f : Nat → Option PyData) : T → Option PyData
  | .non => some .none
  | .bl b => some (.bool b)
  | .int i => some (.int i)
  | .str x => some (.str x)
  | .tup xs => (T.dats f xs).map .tuple
  | .fz xs => (T.dats f xs).map .list
  | .ref n => f n
  | .fn _ => none
def T.dats (f : Nat → Option PyData) : List T → Option (List PyData)
  | [] => some []
  | x :: xs => match T.dat f x with
    | some d => (T.dats f xs).map (d :: ·)
    | none => none
end
def refD : Nat → Hh → Nat → Option PyData
  | 0, _, _ => none
  | k + 1, h, n => match h[n]? with
    | some (.lst xs) => (T.dats (refD k h) xs).map .list
    | _ => none
def dat (h : Hh) (t : T) : Option PyData := T.dat (refD 12 h) t
def dats (h : Hh) (ts : List T) : Option (List PyData) := T.dats (refD 12 h) ts

/-! ### the syntax -/
inductive Bop where
  | add | sub | mul | fdiv | mod | pow | shl | shr | band | bor | bxor
  deriving DecidableEq
inductive Cop where
  | eq | ne | lt | le | gt | ge | inn | nin
  deriving DecidableEq
inductive Blt where
  | len | list | tuple | sorted | all | any | sum | max | min | int | repr | str | abs | bool
  deriving DecidableEq
inductive Mth where
  | append | extend | pop | get | index
  deriving DecidableEq

mutual
inductive CE where
  | var (i : Nat) | int (i : Int) | bl (b : Bool) | non | str (x : String)
  | glob (x : String)
  | bin (op : Bop) (a b : CE) | neg (a : CE) | inv (a : CE) | not (a : CE)
  | cmp (op : Cop) (a b : CE) | chn (op op' : Cop) (a b c : CE)
  | isN (a : CE) | isnN (a : CE)
  | and (es : CEs) | or (es : CEs) | ite (c a b : CE)
  | tup (es : CEs) | lst (es : CEs) | dic (ps : CKs)
  | idx (a i : CE) | slc (a : CE) (lo hi : CO) | rev (a : CE)
  | call (f : String) (as : CEs) | callK (f : String) (as : CEs) (ks : List String) (vs : CEs)
  | blt (b : Blt) (as : CEs) | sset (a : CE)
  | isiT (a : CE) (ts : List String)
  | mth (m : Mth) (o : CE) (as : CEs)
  | rngL (it : CI) | rngT (it : CI)
  | comp (own : List Nat) (tg : Tg) (it : CI) (c : CO) (elt : CE)
inductive CEs where
  | nil | cons (e : CE) (es : CEs)
inductive CKs where
  | nil | cons (k e : CE) (r : CKs)
inductive CO where
  | no | so (e : CE)
inductive CI where
  | val (e : CE) | rng1 (a : CE) | rng2 (a b : CE) | rng3 (a b c : CE) | enum (a : CE) | zip (a b : CE)
inductive Tg where
  | var (i : Nat) | tup (ts : Tgs) | sub (o i : CE)
inductive Tgs where
  | nil | cons (t : Tg) (ts : Tgs)
end
mutual
def Tg.vars : Tg → List Nat
  | .var i => [i]
  | .tup ts => ts.vars
  | .sub _ _ => []
def Tgs.vars : Tgs → List Nat
  | .nil => []
  | .cons t ts => t.vars ++ ts.vars
end
/-! no store into a thing -/
mutual
def Tg.plain : Tg → Bool
  | .var _ => true
  | .tup ts => ts.plain
  | .sub _ _ => false
def Tgs.plain : Tgs → Bool
  | .nil => true
  | .cons t ts => t.plain && ts.plain
end
mutual
inductive CS where
  | pass | expr (e : CE) | ret (e : CE) | retN
  | set (t : Tg) (e : CE) | aug (i : Nat) (op : Bop) (e : CE) | augS (o i : CE) (op : Bop) (e : CE)
  | iff (c : CE) (a b : CSs) | for (t : Tg) (it : CI) (body : CSs) | whl (c : CE) (body : CSs)
  | brk | cnt | never
inductive CSs where
  | nil | cons (s : CS) (ss : CSs)
end

/-! ### operators -/
def CPowB (i j : Int) : Bool := decide (0 ≤ j) && decide (j ≤ 1000000) && decide (i.natAbs < 2 ^ 64)
def CMulB (i j : Int) : Bool := (decide (-(2 ^ 64) < i) && decide (i < 2 ^ 64)) || (decide (-(2 ^ 64) < j) && decide (j < 2 ^ 64))
def CDivB (i j : Int) : Bool := decide (0 < j) && decide (j < 1073741824)
def intOp : Bop → Int → Int → Option Int
  | .add, i, j => some (i + j)
  | .sub, i, j => some (i - j)
  | .mul, i, j => if CMulB i j = true then some (i * j) else none
  | .fdiv, i, j => if CDivB i j = true then some (i / j) else none
  | .mod, i, j => if 0 < j then some (i % j) else none
  | .pow, i, j => if CPowB i j = true then some (i ^ j.toNat) else none
  | .shl, i, j => if CPowB i j = true then some (i * 2 ^ j.toNat) else none
  | .shr, i, j => if 0 ≤ j then some (i / 2 ^ j.toNat) else none
  | .band, i, j => some (Builtin.bitAnd i j)
  | .bor, i, j => some (Builtin.bitOr i j)
  | .bxor, i, j => some (Builtin.bitXor i j)
def mutL (h : Hh) (n : Nat) : Option (List T) := match h[n]? with
  | some (.lst xs) => some xs
  | _ => none
/-- the items of a list -/
def lsT (h : Hh) : T → Option (List T)
  | .ref n => mutL h n
  | .fz xs => some xs
  | _ => none
def newL (h : Hh) (xs : List T) : R T := if xs.length ≤ 16777216 then .ok (.ref h.length) (h ++ [.lst xs]) else .bad
def newT (h : Hh) (xs : List T) : R T := if xs.length ≤ 16777216 then .ok (.tup xs) h else .bad
def binT (op : Bop) (x y : T) (h : Hh) : R T := match x, y with
  | .int i, .int j => match intOp op i j with
    | some k => .ok (.int k) h
    | none => .bad
  | .str a, .str b => match op with
    | .add => if a.length + b.length ≤ 16777216 then .ok (.str (a ++ b)) h else .bad
    | _ => .bad
  | .tup xs, .tup ys => match op with
    | .add => newT h (xs ++ ys)
    | _ => .bad
  | .ref a, .ref b => match op, mutL h a, mutL h b with
    | .add, some xs, some ys => newL h (xs ++ ys)
    | _, _, _ => .bad
  | .ref a, .int k => match op, mutL h a with
    | .mul, some xs => if -(2 ^ 62) ≤ k ∧ k < 2 ^ 62 then newL h (List.replicate k.toNat xs).flatten else .bad
    | _, _ => .bad
  | .tup xs, .int k => match op, xs with
    | .mul, x :: r => if 2 ≤ k ∧ k ≤ 1000 ∧ (x :: r).length ≤ 1000 then .ok (.tup (List.replicate k.toNat (x :: r)).flatten) h else .bad
    | _, _ => .bad
  | _, _ => .bad
def eqT (h : Hh) (x y : T) : Option Bool := match dat h x, dat h y with
  | some d, some e => if (SeqAt.shaped d && SeqAt.shaped e) = true then some (PyData.eqv d e) else none
  | _, _ => none
/-- x among ys -/
def inT (h : Hh) (x : T) (ys : List T) : Option Bool := match dat h x, dats h ys with
  | some d, some ds => if (SeqAt.shaped d && SeqAt.shaped (.list ds)) = true then some (ds.any fun z => PyData.eqv z d) else none
  | _, _ => none
def T.isNone : T → Bool
  | .non => true
  | _ => false
def T.flat : T → Bool
  | .non => true
  | .bl _ => true
  | .int _ => true
  | .str _ => true
  | _ => false
def intC : Cop → Int → Int → Option Bool
  | .lt, i, j => some (decide (i < j))
  | .le, i, j => some (decide (i ≤ j))
  | .gt, i, j => some (decide (j < i))
  | .ge, i, j => some (decide (j ≤ i))
  | _, _, _ => none
def lookK (kvs : List (KT × T)) (k : KT) : Option T := (kvs.find? fun kv => decide (kv.1 = k)).map (·.2)
def putKT (kvs : List (KT × T)) (k : KT) (v : T) : List (KT × T) :=
  if (kvs.any fun kv => decide (kv.1 = k)) = true then kvs.map (fun kv => if kv.1 = k then (kv.1, v) else kv) else kvs ++ [(k, v)]
def inO (x y : T) (h : Hh) : Option Bool := match y with
  | .fz ys => inT h x ys
  | .ref n => match h[n]? with
    | some (.lst ys) => inT h x ys
    | some (.dK kvs) => match x.kt with
      | some k => some (lookK kvs k).isSome
      | none => none
    | none => none
  | .tup ys => if (x.flat && ys.all T.flat) = true then inT h x ys else none
  | _ => none
def numC (op : Cop) (x y : T) (h : Hh) : R T := match x, y with
  | .int i, .int j => match intC op i j with
    | some b => .ok (.bl b) h
    | none => .bad
  | _, _ => .bad
def cmpT (op : Cop) (x y : T) (h : Hh) : R T := match op with
  | .eq => match eqT h x y with
    | some b => .ok (.bl b) h
    | none => .bad
  | .ne => match eqT h x y with
    | some b => .ok (.bl (!b)) h
    | none => .bad
  | .inn => match inO x y h with
    | some b => .ok (.bl b) h
    | none => .bad
  | .nin => match inO x y h with
    | some b => .ok (.bl (!b)) h
    | none => .bad
  | op => numC op x y h
def idxT (x i : T) (h : Hh) : R T := match x, i with
  | .tup xs, .int k => match atI xs k with
    | some v => .ok v h
    | none => .bad
  | .ref n, i => match h[n]?, i with
    | some (.lst xs), .int k => match atI xs k with
      | some v => .ok v h
      | none => .bad
    | some (.dK kvs), i => match i.kt with
      | some k => match lookK kvs k with
        | some v => .ok v h
        | none => .bad
      | none => .bad
    | _, _ => .bad
  | .fz xs, .int k => match atI xs k with
    | some v => .ok v h
    | none => .bad
  | .str x, .int k => match atI x.cps.toList k with
    | some c => if x.length ≤ 16777216 then .ok (.str ⟨#[c]⟩) h else .bad
    | none => .bad
  | _, _ => .bad
def cutT {α : Type} (xs : List α) (lo hi : Option Int) : List α := (xs.drop (HT.sIx xs.length 0 lo)).take (HT.sIx xs.length xs.length hi - HT.sIx xs.length 0 lo)
def slcT (x : T) (lo hi : Option Int) (h : Hh) : R T := match x with
  | .tup xs => .ok (.tup (cutT xs lo hi)) h
  | x => match lsT h x with
    | some xs => newL h (cutT xs lo hi)
    | none => .bad
def revT (x : T) (h : Hh) : R T := match lsT h x with
  | some xs => newL h xs.reverse
  | none => .bad
def intsT : List T → Option (List Int)
  | [] => some []
  | .int i :: r => (intsT r).map (i :: ·)
  | _ => none
def boolsT : List T → Option (List Bool)
  | [] => some []
  | .bl i :: r => (boolsT r).map (i :: ·)
  | _ => none
def maxI : List Int → Option Int
  | [] => none
  | x :: r => some (r.foldl max x)
def minI : List Int → Option Int
  | [] => none
  | x :: r => some (r.foldl min x)
/-- what can be sorted: all items alike, all tuples with an item at least, or none a tuple or None -/
def sortable (ds : List PyData) : Bool :=
  (ds.all fun d => ds.all fun e => W.alike d e) &&
    ((ds.all fun d => match d with | .tuple (_ :: _) => true | _ => false) || (ds.all fun d => match d with | .none => false | .tuple _ => false | _ => true)) &&
    (ds.all fun d => decide (d.depth ≤ 60))
def sortP (ps : List (T × PyData)) : List (T × PyData) := ps.mergeSort (W.dataLe false fun p : T × PyData => p.2)
def sortT (h : Hh) (xs : List T) : Option (List T) := match dats h xs with
  | some ds => if sortable ds = true ∧ xs.length ≤ 16777216 then some ((sortP (xs.zip ds)).map (·.1)) else none
  | none => none
def seqOf (h : Hh) : T → Option (List T)
  | .tup xs => some xs
  | x => lsT h x
def typeN (h : Hh) : T → Option String
  | .non => some "NoneType"
  | .bl _ => some "bool"
  | .int _ => some "int"
  | .str _ => some "str"
  | .tup _ => some "tuple"
  | .fz _ => some "list"
  | .ref n => match h[n]? with
    | some (.lst _) => some "list"
    | some (.dK _) => some "dict"
    | none => none
  | .fn _ => none
def isiT1 (n : String) (t : String) : Bool := n == t || (n == "bool" && t == "int")
def bltT (b : Blt) (as : List T) (h : Hh) : R T := match b, as with
  | .len, [x] => match x with
    | .tup xs => .ok (.int xs.length) h
    | .fz xs => .ok (.int xs.length) h
    | .str s => if s.length ≤ 16777216 then .ok (.int s.length) h else .bad
    | .ref n => match h[n]? with
      | some (.lst xs) => .ok (.int xs.length) h
      | some (.dK kvs) => .ok (.int kvs.length) h
      | none => .bad
    | _ => .bad
  | .list, [x] => match seqOf h x with
    | some xs => newL h xs
    | none => .bad
  | .tuple, [x] => match x with
    | .tup xs => .ok (.tup xs) h
    | x => match lsT h x with
      | some xs => .ok (.tup xs) h
      | none => .bad
  | .sorted, [x] => match seqOf h x with
    | some xs => match sortT h xs with
      | some ys => newL h ys
      | none => .bad
    | none => .bad
  | .all, [x] => match (lsT h x).bind boolsT with
    | some bs => .ok (.bl (bs.all id)) h
    | none => .bad
  | .any, [x] => match (lsT h x).bind boolsT with
    | some bs => .ok (.bl (bs.any id)) h
    | none => .bad
  | .sum, [x] => match (lsT h x).bind intsT with
    | some ns => .ok (.int ns.sum) h
    | none => .bad
  | .max, [x] => match ((lsT h x).bind intsT).bind maxI with
    | some m => .ok (.int m) h
    | none => .bad
  | .min, [x] => match ((lsT h x).bind intsT).bind minI with
    | some m => .ok (.int m) h
    | none => .bad
  | .max, [.int i, .int j] => .ok (.int (if j > i then j else i)) h
  | .min, [.int i, .int j] => .ok (.int (if j < i then j else i)) h
  | .int, [.int i] => .ok (.int i) h
  | .repr, [x] => match dat h x with
    | some d => if (decide (d.shown.length ≤ 16777216) && d.showable && decide (d.depth ≤ 60)) = true then .ok (.str d.shown) h else .bad
    | none => .bad
  | .str, [.int i] => if i.natAbs.log2 < 1920 then .ok (.str (toString i)) h else .bad
  | .abs, [.int i] => .ok (.int (if i < 0 then -i else i)) h
  | _, _ => .bad
def Mth.ty : Mth → String
  | .get => "dict"
  | _ => "list"
def mthT (m : Mth) (o : T) (as : List T) (h : Hh) : R T := match m, o, as with
  | .append, .ref n, [x] => match mutL h n with
    | some xs => if xs.length < 16777216 then .ok .non (h.set n (.lst (xs ++ [x]))) else .bad
    | none => .bad
  | .extend, .ref n, [.ref m] => match mutL h n, mutL h m with
    | some xs, some ys => if xs.length + ys.length ≤ 16777216 then .ok .non (h.set n (.lst (xs ++ ys))) else .bad
    | _, _ => .bad
  | .pop, .ref n, [] => match mutL h n with
    | some xs => match xs[xs.length - 1]? with
      | some y => .ok y (h.set n (.lst xs.dropLast))
      | none => .bad
    | none => .bad
  | .pop, .ref n, [.int i] => match mutL h n with
    | some xs => match ixN xs.length i with
      | some k => match xs[k]? with
        | some y => if -(2 ^ 62) ≤ i ∧ i < 2 ^ 62 then .ok y (h.set n (.lst (xs.eraseIdx k))) else .bad
        | none => .bad
      | none => .bad
    | none => .bad
  | .get, .ref n, [x] => match h[n]?, x.kt with
    | some (.dK kvs), some k => .ok ((lookK kvs k).getD .non) h
    | _, _ => .bad
  | .get, .ref n, [x, d] => match h[n]?, x.kt with
    | some (.dK kvs), some k => .ok ((lookK kvs k).getD d) h
    | _, _ => .bad
  | _, _, _ => .bad
def setT (o i v : T) (h : Hh) : R Unit := match o with
  | .ref n => match h[n]?, i with
    | some (.lst xs), .int k => match ixN xs.length k with
      | some j => .ok () (h.set n (.lst (xs.set j v)))
      | none => .bad
    | some (.dK kvs), i => match i.kt with
      | some k => if kvs.length < 16777216 then .ok () (h.set n (.dK (putKT kvs k v))) else .bad
      | none => .bad
    | _, _ => .bad
  | _ => .bad
/-- the ints, each once, in order -/
def insU (k : Int) : List Int → List Int
  | [] => [k]
  | j :: r => if k < j then k :: j :: r else if k = j then j :: r else j :: insU k r
def sdd (ns : List Int) : List Int := ns.foldr insU []
def ssetT (h : Hh) (x : T) : R T := match (lsT h x).bind intsT with
  | some ns => if ns.length < 64 then newL h ((sdd ns).map T.int) else .bad
  | none => .bad
def mergeKT : List (KT × T) → List KT → List T → Option (List (KT × T))
  | acc, [], [] => some acc
  | acc, k :: ks, v :: vs => mergeKT (putKT acc k v) ks vs
  | _, _, _ => none
def keysT : List T → Option (List KT)
  | [] => some []
  | t :: r => match t.kt with
    | some k => (keysT r).map (k :: ·)
    | none => none
def rangeT (a b : Int) : List T := (List.range (b - a).toNat).map fun i => T.int (a + (i : Nat))
def rangeC (a c : Int) (n : Nat) : List T := (List.range n).map fun i => T.int (a + (i : Nat) * c)
def enumT (k : Nat) : List T → List T
  | [] => []
  | x :: r => .tup [.int k, x] :: enumT (k + 1) r
def zipT : List T → List T → List T
  | x :: r, y :: s => .tup [x, y] :: zipT r s
  | _, _ => []
def rgOk (a b : Int) : Bool := decide (-(2 ^ 62) ≤ a) && decide (a < 2 ^ 62) && decide (-(2 ^ 62) ≤ b) && decide (b < 2 ^ 62)

/-! ### the evaluator -/
abbrev Ls := List (Option T)
/-- the lists that a loop walks, as they stand -/
abbrev Wt := List (T × List T)
noncomputable def wtOk (w : Wt) (h : Hh) : Bool := @decide (∀ p ∈ w, lsT h p.1 = some p.2) (Classical.propDecidable _)
inductive Fl where
  | nx | bk | ct | rt (t : T)
def wipeL (ls : Ls) : List Nat → Ls
  | [] => ls
  | v :: vs => (wipeL ls vs).set v none
noncomputable def evFor (w : Wt) (asg : T → Ls → Hh → R Ls) (body : Ls → Hh → R (Fl × Ls)) : List T → Ls → Hh → R (Fl × Ls)
  | [], ls, h => if wtOk w h = true then .ok (.nx, ls) h else .bad
  | x :: xs, ls, h => if wtOk w h = true then (asg x ls h).bd fun ls1 h1 => (body ls1 h1).bd fun p h2 => match p.1 with
      | .nx => evFor w asg body xs p.2 h2
      | .ct => evFor w asg body xs p.2 h2
      | .bk => .ok (.nx, p.2) h2
      | .rt t => .ok (.rt t, p.2) h2
    else .bad
noncomputable def evComp (w : Wt) (asg : T → Ls → Hh → R Ls) (c : Ls → Hh → R T) (elt : Ls → Hh → R T) (ls : Ls) : List T → List T → Hh → R T
  | [], acc, h => if wtOk w h = true then .ok (.ref h.length) (h ++ [.lst acc]) else .bad
  | x :: xs, acc, h => if wtOk w h = true then (asg x ls h).bd fun ls1 h1 => (c ls1 h1).bd fun b h2 => match b with
      | .bl true => (elt ls1 h2).bd fun y h3 => if acc.length < 16777216 then evComp w asg c elt ls xs (acc ++ [y]) h3 else .bad
      | .bl false => evComp w asg c elt ls xs acc h2
      | _ => .bad
    else .bad
def whileN (c : Ls → Hh → R T) (body : Ls → Hh → R (Fl × Ls)) : Nat → Ls → Hh → R (Fl × Ls)
  | 0, _, _ => .bad
  | n + 1, ls, h => (c ls h).bd fun b h1 => match b with
    | .bl false => .ok (.nx, ls) h1
    | .bl true => (body ls h1).bd fun p h2 => match p.1 with
      | .nx => whileN c body n p.2 h2
      | .ct => whileN c body n p.2 h2
      | .bk => .ok (.nx, p.2) h2
      | .rt t => .ok (.rt t, p.2) h2
    | _ => .bad
open Classical in
noncomputable def whileW (c : Ls → Hh → R T) (body : Ls → Hh → R (Fl × Ls)) (ls : Ls) (h : Hh) : R (Fl × Ls) :=
  if e : ∃ n, whileN c body n ls h ≠ .bad then whileN c body e.choose ls h else .bad
def unitT : R Unit → R T
  | .ok _ h => .ok .non h
  | .exc c fs h => .exc c fs h
  | .bad => .bad
structure FD where
  ps : List String
  N : List String
  body : CSs
structure Tbl where
  fn : String → Option FD
  gl : String → Option T
  kw : List (String × Nat × List String)
def ordK {α : Type} (ps : List String) (n : Nat) (as : List α) (ks : List String) (vs : List α) : Option (List α) :=
  if as.length + vs.length = ps.length ∧ as.length = n ∧ ks.length = vs.length then
    ((ps.drop n).mapM fun p => (ks.zip vs).lookup p).map (as ++ ·)
  else none

mutual
noncomputable def evE (D : Tbl) (C : String → List T → Hh → R T) : CE → Ls → Hh → R T
  | .var i, ls, h => match ls[i]? with
    | some (some t) => .ok t h
    | _ => .bad
  | .int i, _, h => .ok (.int i) h
  | .bl b, _, h => .ok (.bl b) h
  | .non, _, h => .ok .non h
  | .str x, _, h => .ok (.str (Str.ofString x)) h
  | .glob x, _, h => match D.gl x with
    | some t => .ok t h
    | none => .bad
  | .bin op a b, ls, h => (evE D C a ls h).bd fun x h1 => (evE D C b ls h1).bd fun y h2 => binT op x y h2
  | .neg a, ls, h => (evE D C a ls h).bd fun x h1 => match x with
    | .int i => .ok (.int (-i)) h1
    | _ => .bad
  | .inv a, ls, h => (evE D C a ls h).bd fun x h1 => match x with
    | .int i => .ok (.int (Builtin.bitNot i)) h1
    | _ => .bad
  | .not a, ls, h => (evE D C a ls h).bd fun x h1 => match x with
    | .bl b => .ok (.bl (!b)) h1
    | _ => .bad
  | .cmp op a b, ls, h => (evE D C a ls h).bd fun x h1 => (evE D C b ls h1).bd fun y h2 => cmpT op x y h2
  | .chn op op' a b c, ls, h => (evE D C a ls h).bd fun x h1 => (evE D C b ls h1).bd fun y h2 => (cmpT op x y h2).bd fun z h3 => match z with
    | .bl true => (evE D C c ls h3).bd fun u h4 => cmpT op' y u h4
    | .bl false => .ok (.bl false) h3
    | _ => .bad
  | .isN a, ls, h => (evE D C a ls h).bd fun x h1 => .ok (.bl x.isNone) h1
  | .isnN a, ls, h => (evE D C a ls h).bd fun x h1 => .ok (.bl (!x.isNone)) h1
  | .and es, ls, h => evAnd D C es ls h
  | .or es, ls, h => evOr D C es ls h
  | .ite c a b, ls, h => (evE D C c ls h).bd fun x h1 => match x with
    | .bl true => evE D C a ls h1
    | .bl false => evE D C b ls h1
    | _ => .bad
  | .tup es, ls, h => (evEs D C es ls h).bd fun xs h1 => newT h1 xs
  | .lst es, ls, h => (evEs D C es ls h).bd fun xs h1 => newL h1 xs
  | .dic ps, ls, h => (evKV D C ps ls h).bd fun p h1 => match keysT p.1 with
    | some ks => match mergeKT [] ks p.2 with
      | some kvs => .ok (.ref h1.length) (h1 ++ [.dK kvs])
      | none => .bad
    | none => .bad
  | .idx a i, ls, h => (evE D C a ls h).bd fun x h1 => (evE D C i ls h1).bd fun y h2 => idxT x y h2
  | .slc a lo hi, ls, h => (evE D C a ls h).bd fun x h1 => (evO D C lo ls h1).bd fun l h2 => (evO D C hi ls h2).bd fun u h3 => slcT x l u h3
  | .rev a, ls, h => (evE D C a ls h).bd fun x h1 => revT x h1
  | .call f as, ls, h => (evEs D C as ls h).bd fun xs h1 => C f xs h1
  | .callK f as ks vs, ls, h => (evEs D C as ls h).bd fun xs h1 => (evEs D C vs ls h1).bd fun ys h2 => match D.fn f with
    | some fd => match ordK fd.ps xs.length xs ks ys with
      | some zs => C f zs h2
      | none => .bad
    | none => .bad
  | .blt b as, ls, h => (evEs D C as ls h).bd fun xs h1 => bltT b xs h1
  | .sset a, ls, h => (evE D C a ls h).bd fun x h1 => ssetT h1 x
  | .isiT a ts, ls, h => (evE D C a ls h).bd fun x h1 => match typeN h1 x with
    | some n => .ok (.bl (ts.any (isiT1 n))) h1
    | none => .bad
  | .mth m o as, ls, h => (evE D C o ls h).bd fun x h1 => if typeN h1 x = some m.ty then (evEs D C as ls h1).bd fun ys h2 => mthT m x ys h2 else .bad
  | .rngL it, ls, h => (evI D C it ls h).bd fun p h1 => newL h1 p.1
  | .rngT it, ls, h => (evI D C it ls h).bd fun p h1 => newT h1 p.1
  | .comp own tg it c elt, ls, h => (evI D C it ls h).bd fun p h1 =>
      evComp p.2 (fun x l hh => evG D C tg x l hh) (fun l hh => evC D C c l hh) (fun l hh => evE D C elt l hh) (wipeL ls own) p.1 [] h1
noncomputable def evEs (D : Tbl) (C : String → List T → Hh → R T) : CEs → Ls → Hh → R (List T)
  | .nil, _, h => .ok [] h
  | .cons e es, ls, h => (evE D C e ls h).bd fun x h1 => (evEs D C es ls h1).bd fun xs h2 => .ok (x :: xs) h2
noncomputable def evKV (D : Tbl) (C : String → List T → Hh → R T) : CKs → Ls → Hh → R (List T × List T)
  | .nil, _, h => .ok ([], []) h
  | .cons k e r, ls, h => (evE D C k ls h).bd fun x h1 => (evE D C e ls h1).bd fun y h2 => (evKV D C r ls h2).bd fun p h3 => .ok (x :: p.1, y :: p.2) h3
noncomputable def evO (D : Tbl) (C : String → List T → Hh → R T) : CO → Ls → Hh → R (Option Int)
  | .no, _, h => .ok none h
  | .so e, ls, h => (evE D C e ls h).bd fun x h1 => match x with
    | .int i => .ok (some i) h1
    | _ => .bad
/-- a comprehension's test -/
noncomputable def evC (D : Tbl) (C : String → List T → Hh → R T) : CO → Ls → Hh → R T
  | .no, _, h => .ok (.bl true) h
  | .so e, ls, h => evE D C e ls h
noncomputable def evAnd (D : Tbl) (C : String → List T → Hh → R T) : CEs → Ls → Hh → R T
  | .nil, _, _ => .bad
  | .cons e es, ls, h => (evE D C e ls h).bd fun x h1 => match es with
    | .nil => .ok x h1
    | es => match x with
      | .bl true => evAnd D C es ls h1
      | .bl false => .ok (.bl false) h1
      | _ => .bad
noncomputable def evOr (D : Tbl) (C : String → List T → Hh → R T) : CEs → Ls → Hh → R T
  | .nil, _, _ => .bad
  | .cons e es, ls, h => (evE D C e ls h).bd fun x h1 => match es with
    | .nil => .ok x h1
    | es => match x with
      | .bl false => evOr D C es ls h1
      | .bl true => .ok (.bl true) h1
      | _ => .bad
noncomputable def evI (D : Tbl) (C : String → List T → Hh → R T) : CI → Ls → Hh → R (List T × Wt)
  | .val e, ls, h => (evE D C e ls h).bd fun x h1 => match x with
    | .tup xs => .ok (xs, []) h1
    | x => match lsT h1 x with
      | some xs => .ok (xs, [(x, xs)]) h1
      | none => .bad
  | .rng1 a, ls, h => (evE D C a ls h).bd fun x h1 => match x with
    | .int i => if rgOk 0 i = true then .ok (rangeT 0 i, []) h1 else .bad
    | _ => .bad
  | .rng2 a b, ls, h => (evE D C a ls h).bd fun x h1 => (evE D C b ls h1).bd fun y h2 => match x, y with
    | .int i, .int j => if rgOk i j = true then .ok (rangeT i j, []) h2 else .bad
    | _, _ => .bad
  | .rng3 a b c, ls, h => (evE D C a ls h).bd fun x h1 => (evE D C b ls h1).bd fun y h2 => (evE D C c ls h2).bd fun z h3 => match x, y, z with
    | .int i, .int j, .int (-1) => if rgOk i j = true then .ok (rangeC i (-1) (i - j).toNat, []) h3 else .bad
    | _, _, _ => .bad
  | .enum e, ls, h => (evE D C e ls h).bd fun x h1 => match lsT h1 x with
    | some xs => .ok (enumT 0 xs, [(x, xs)]) h1
    | none => .bad
  | .zip a b, ls, h => (evE D C a ls h).bd fun x h1 => (evE D C b ls h1).bd fun y h2 => match x, y with
    | .tup xs, .tup ys => .ok (zipT xs ys, []) h2
    | x, y => match lsT h2 x, lsT h2 y with
      | some xs, some ys => .ok (zipT xs ys, [(x, xs), (y, ys)]) h2
      | _, _ => .bad
noncomputable def evG (D : Tbl) (C : String → List T → Hh → R T) : Tg → T → Ls → Hh → R Ls
  | .var i, x, ls, h => if i < ls.length then .ok (ls.set i (some x)) h else .bad
  | .tup ts, x, ls, h => match x with
    | .tup xs => evGs D C ts xs ls h
    | _ => .bad
  | .sub o i, x, ls, h => (evE D C o ls h).bd fun p h1 => (evE D C i ls h1).bd fun y h2 => (setT p y x h2).bd fun _ h3 => .ok ls h3
noncomputable def evGs (D : Tbl) (C : String → List T → Hh → R T) : Tgs → List T → Ls → Hh → R Ls
  | .nil, [], ls, h => .ok ls h
  | .cons t ts, x :: xs, ls, h => (evG D C t x ls h).bd fun l1 h1 => evGs D C ts xs l1 h1
  | _, _, _, _ => .bad
end
mutual
noncomputable def evS (D : Tbl) (C : String → List T → Hh → R T) : CS → Ls → Hh → R (Fl × Ls)
  | .pass, ls, h => .ok (.nx, ls) h
  | .expr e, ls, h => (evE D C e ls h).bd fun _ h1 => .ok (.nx, ls) h1
  | .ret e, ls, h => (evE D C e ls h).bd fun x h1 => .ok (.rt x, ls) h1
  | .retN, ls, h => .ok (.rt .non, ls) h
  | .set t e, ls, h => (evE D C e ls h).bd fun x h1 => (evG D C t x ls h1).bd fun l h2 => .ok (.nx, l) h2
  | .aug i op e, ls, h => match ls[i]? with
    | some (some x) => (evE D C e ls h).bd fun y h1 => match x, y with
      | .int a, .int b => match op with
        | .add => .ok (.nx, ls.set i (some (.int (a + b)))) h1
        | .sub => .ok (.nx, ls.set i (some (.int (a - b)))) h1
        | _ => .bad
      | _, _ => .bad
    | _ => .bad
  | .augS _ _ _ _, _, _ => .bad
  | .iff c a b, ls, h => (evE D C c ls h).bd fun x h1 => match x with
    | .bl true => evSs D C a ls h1
    | .bl false => evSs D C b ls h1
    | _ => .bad
  | .for t it body, ls, h => (evI D C it ls h).bd fun p h1 => evFor p.2 (fun x l hh => evG D C t x l hh) (fun l hh => evSs D C body l hh) p.1 ls h1
  | .whl c body, ls, h => whileW (fun l hh => evE D C c l hh) (fun l hh => evSs D C body l hh) ls h
  | .brk, ls, h => .ok (.bk, ls) h
  | .cnt, ls, h => .ok (.ct, ls) h
  | .never, _, _ => .bad
noncomputable def evSs (D : Tbl) (C : String → List T → Hh → R T) : CSs → Ls → Hh → R (Fl × Ls)
  | .nil, ls, h => .ok (.nx, ls) h
  | .cons s ss, ls, h => (evS D C s ls h).bd fun p h1 => match p.1 with
    | .nx => evSs D C ss p.2 h1
    | f => .ok (f, p.2) h1
end
def fin : R (Fl × Ls) → R T
  | .ok (.rt t, _) h => .ok t h
  | .ok (.nx, _) h => .ok .non h
  | .exc c fs h => .exc c fs h
  | _ => .bad
def startL (fd : FD) (as : List T) : Ls := as.map some ++ List.replicate (fd.N.length - as.length) none
noncomputable def callN (D : Tbl) : Nat → String → List T → Hh → R T
  | 0, _, _, _ => .bad
  | n + 1, f, as, h => match D.fn f with
    | some fd => if as.length = fd.ps.length then fin (evSs D (callN D n) fd.body (startL fd as) h) else .bad
    | none => .bad
end MP

set_option Elab.async false
set_option linter.all false
set_option maxRecDepth 100000
/-! MiniPy, part B: how values and heaps stand in the model's heap -/
namespace MP
open PySem PySem.Spec PyProof.Rows L2

def KSeq (K : PySem.W.Frag) (ty : String) (a : Addr) (xs : List V) : Prop :=
  ∃ (o : Obj) (its : Array Value) (n : Nat), K.lookup a = some o ∧ o.cls = .type ty ∧ (ty = "list" → o.dict = none) ∧ o.data = .seq its n ∧ its.size ≤ sizeLine ∧ Vals xs its.toList
def TupAt (K : PySem.W.Frag) (H : Hp) (a : Addr) (xs : List V) : Prop := H a = some (.tup xs) ∨ KSeq K "tuple" a xs
def FzAt (K : PySem.W.Frag) (H : Hp) (a : Addr) (xs : List V) : Prop := (∃ o, H a = some (.frz o (.lst xs))) ∨ KSeq K "list" a xs
theorem TupAt.sq {K : PySem.W.Frag} {H : Hp} {a : Addr} {xs : List V} (h : TupAt K H a xs) : SqT K H a xs := by
  rcases h with h | ⟨o, its, n, h1, h2, _, h3, h4, h5⟩
  · exact .inl (.inl h)
  · exact .inr ⟨o, its, n, h1, h2, h3, h4, h5⟩
theorem FzAt.sq {K : PySem.W.Frag} {H : Hp} {a : Addr} {xs : List V} (h : FzAt K H a xs) : SqL K H a xs := by
  rcases h with ⟨o, h⟩ | ⟨o, its, n, h1, h2, h2', h3, h4, h5⟩
  · exact .inl (.inr ⟨o, h⟩)
  · exact .inr ⟨o, its, n, h1, h2, h2' rfl, h3, h4, h5⟩

mutual
inductive RT (K : PySem.W.Frag) (mg : Str → Option Value) (ρ : List Addr) (H : Hp) : T → V → Prop
  | non : RT K mg ρ H .non .non
  | bl (b : Bool) : RT K mg ρ H (.bl b) (.bl b)
  | int (i : Int) : RT K mg ρ H (.int i) (.int i)
  | str (x : Str) : RT K mg ρ H (.str x) (.str x)
  | tup {xs : List T} {a : Addr} {vs : List V} : TupAt K H a vs → RTs K mg ρ H xs vs → RT K mg ρ H (.tup xs) (.ref a)
  | fz {xs : List T} {a : Addr} {vs : List V} : FzAt K H a vs → RTs K mg ρ H xs vs → RT K mg ρ H (.fz xs) (.ref a)
  | ref {n : Nat} {a : Addr} : ρ[n]? = some a → RT K mg ρ H (.ref n) (.ref a)
  | fn {f : String} {a : Addr} : mg (Str.ofString f) = some (.ref a) → RT K mg ρ H (.fn f) (.ref a)
inductive RTs (K : PySem.W.Frag) (mg : Str → Option Value) (ρ : List Addr) (H : Hp) : List T → List V → Prop
  | nil : RTs K mg ρ H [] []
  | cons {x : T} {v : V} {xs : List T} {vs : List V} : RT K mg ρ H x v → RTs K mg ρ H xs vs → RTs K mg ρ H (x :: xs) (v :: vs)
end
def RKV (K : PySem.W.Frag) (mg : Str → Option Value) (ρ : List Addr) (H : Hp) : List (KT × T) → List (Key × V) → Prop :=
  Paired fun p q => q.1 = p.1.key ∧ RT K mg ρ H p.2 q.2
inductive RO (K : PySem.W.Frag) (mg : Str → Option Value) (ρ : List Addr) (H : Hp) : O → Addr → Prop
  | lst {xs : List T} {vs : List V} {a : Addr} : H a = some (.lst vs) → RTs K mg ρ H xs vs → RO K mg ρ H (.lst xs) a
  | dK {kvs : List (KT × T)} {qs : List (Key × V)} {a : Addr} : H a = some (.dK qs) → RKV K mg ρ H kvs qs → RO K mg ρ H (.dK kvs) a
structure G (K : PySem.W.Frag) (mg : Str → Option Value) (ρ : List Addr) (H : Hp) (h : Hh) : Prop where
  len : ρ.length = h.length
  nd : ρ.Nodup
  ob : ∀ (n : Nat) (a : Addr) (o : O), ρ[n]? = some a → h[n]? = some o → RO K mg ρ H o a
structure Ext (ρ : List Addr) (H : Hp) (ρ' : List Addr) (H' : Hp) : Prop where
  pre : ρ <+: ρ'
  new : ∀ a ∈ ρ', a ∈ ρ ∨ H a = none
  keep : ∀ a o, H a = some o → a ∉ ρ → H' a = some o
  tup : ∀ a xs, H a = some (.tup xs) → H' a = some (.tup xs)
  frz : ∀ a o u, H a = some (.frz o u) → H' a = some (.frz o u)

section
variable {K : PySem.W.Frag} {mg : Str → Option Value} {ρ ρ' ρ1 ρ2 : List Addr} {H H' H1 H2 : Hp} {h h' : Hh}
theorem Ext.refl : Ext ρ H ρ H := ⟨List.prefix_refl _, fun a ha => .inl ha, fun _ _ e _ => e, fun _ _ e => e, fun _ _ _ e => e⟩
theorem Ext.get (e : Ext ρ H ρ' H') {n : Nat} {a : Addr} (q : ρ[n]? = some a) : ρ'[n]? = some a := by
  obtain ⟨t, rfl⟩ := e.pre
  have hn := (List.getElem?_eq_some_iff.mp q).1
  rw [List.getElem?_append_left hn]
  exact q
theorem Ext.trans (e : Ext ρ H ρ1 H1) (f : Ext ρ1 H1 ρ2 H2) : Ext ρ H ρ2 H2 where
  pre := e.pre.trans f.pre
  new := fun a ha => by
    rcases f.new a ha with q | q
    · exact e.new a q
    · cases z : H a with
      | none => exact .inr rfl
      | some o =>
        by_cases hm : a ∈ ρ
        · exact .inl hm
        · rw [e.keep a o z hm] at q
          cases q
  keep := fun a o q hn => by
    refine f.keep a o (e.keep a o q hn) fun hm => ?_
    rcases e.new a hm with z | z
    · exact hn z
    · rw [z] at q
      cases q
  tup := fun a xs q => f.tup a xs (e.tup a xs q)
  frz := fun a o u q => f.frz a o u (e.frz a o u q)
/-- what values lean on -/
structure Wk (ρ : List Addr) (H : Hp) (ρ' : List Addr) (H' : Hp) : Prop where
  get : ∀ (n : Nat) (a : Addr), ρ[n]? = some a → ρ'[n]? = some a
  tup : ∀ a xs, H a = some (.tup xs) → H' a = some (.tup xs)
  frz : ∀ a o u, H a = some (.frz o u) → H' a = some (.frz o u)
theorem Ext.wk (e : Ext ρ H ρ' H') : Wk ρ H ρ' H' := ⟨fun _ _ q => e.get q, e.tup, e.frz⟩
theorem Wk.add {p : Addr} : Wk ρ H (ρ ++ [p]) H := ⟨fun n a q => by
  rw [List.getElem?_append_left (List.getElem?_eq_some_iff.mp q).1]
  exact q, fun _ _ z => z, fun _ _ _ z => z⟩
theorem TupAt.wk (e : Wk ρ H ρ' H') {a : Addr} {xs : List V} (t : TupAt K H a xs) : TupAt K H' a xs := t.imp (e.tup a xs) id
theorem FzAt.wk (e : Wk ρ H ρ' H') {a : Addr} {xs : List V} (t : FzAt K H a xs) : FzAt K H' a xs := t.imp (fun ⟨o, q⟩ => ⟨o, e.frz a o _ q⟩) id
mutual
theorem RT.wk (e : Wk ρ H ρ' H') : ∀ {t : T} {v : V}, RT K mg ρ H t v → RT K mg ρ' H' t v
  | _, _, .non => .non
  | _, _, .bl b => .bl b
  | _, _, .int i => .int i
  | _, _, .str x => .str x
  | _, _, .tup a b => .tup (a.wk e) (RTs.wk e b)
  | _, _, .fz a b => .fz (a.wk e) (RTs.wk e b)
  | _, _, .ref q => .ref (e.get _ _ q)
  | _, _, .fn q => .fn q
theorem RTs.wk (e : Wk ρ H ρ' H') : ∀ {t : List T} {v : List V}, RTs K mg ρ H t v → RTs K mg ρ' H' t v
  | _, _, .nil => .nil
  | _, _, .cons a b => .cons (RT.wk e a) (RTs.wk e b)
end
theorem RKV.wk (e : Wk ρ H ρ' H') {ps : List (KT × T)} {qs : List (Key × V)} (r : RKV K mg ρ H ps qs) : RKV K mg ρ' H' ps qs :=
  Paired.mapP r fun _ _ z => ⟨z.1, z.2.wk e⟩
theorem RO.wk {a : Addr} {o : O} (e : Wk ρ H ρ' H') (k : H' a = H a) (r : RO K mg ρ H o a) : RO K mg ρ' H' o a := by
  cases r with
  | lst q r => exact .lst (k.trans q) (r.wk e)
  | dK q r => exact .dK (k.trans q) (r.wk e)
theorem TupAt.ext (e : Ext ρ H ρ' H') {a : Addr} {xs : List V} (t : TupAt K H a xs) : TupAt K H' a xs := t.imp (e.tup a xs) id
theorem FzAt.ext (e : Ext ρ H ρ' H') {a : Addr} {xs : List V} (t : FzAt K H a xs) : FzAt K H' a xs := t.imp (fun ⟨o, q⟩ => ⟨o, e.frz a o _ q⟩) id
theorem RT.ext (e : Ext ρ H ρ' H') {t : T} {v : V} (r : RT K mg ρ H t v) : RT K mg ρ' H' t v := r.wk e.wk
theorem RTs.ext (e : Ext ρ H ρ' H') {t : List T} {v : List V} (r : RTs K mg ρ H t v) : RTs K mg ρ' H' t v := r.wk e.wk
theorem RTs.length : ∀ {xs : List T} {vs : List V}, RTs K mg ρ H xs vs → xs.length = vs.length
  | _, _, .nil => rfl
  | _, _, .cons _ b => congrArg (· + 1) b.length
theorem RTs.get : ∀ {xs : List T} {vs : List V} {i : Nat} {x : T}, RTs K mg ρ H xs vs → xs[i]? = some x → ∃ v, vs[i]? = some v ∧ RT K mg ρ H x v
  | _, _, _, _, .nil, e => by simp at e
  | _, _, 0, _, .cons r _, e => by
    simp at e
    subst e
    exact ⟨_, rfl, r⟩
  | _, _, i + 1, x, .cons _ t, e => by
    obtain ⟨u, h1, h2⟩ := RTs.get (i := i) (x := x) t (by simpa using e)
    exact ⟨u, by simpa using h1, h2⟩
theorem RTs.append : ∀ {xs ys : List T} {us ws : List V}, RTs K mg ρ H xs us → RTs K mg ρ H ys ws → RTs K mg ρ H (xs ++ ys) (us ++ ws)
  | _, _, _, _, .nil, s => s
  | _, _, _, _, .cons r t, s => .cons r (RTs.append t s)
theorem RTs.take : ∀ {xs : List T} {us : List V} (n : Nat), RTs K mg ρ H xs us → RTs K mg ρ H (xs.take n) (us.take n)
  | _, _, 0, _ => .nil
  | _, _, _ + 1, .nil => .nil
  | _, _, n + 1, .cons r t => .cons r (RTs.take n t)
theorem RTs.drop : ∀ {xs : List T} {us : List V} (n : Nat), RTs K mg ρ H xs us → RTs K mg ρ H (xs.drop n) (us.drop n)
  | _, _, 0, r => r
  | _, _, _ + 1, .nil => .nil
  | _, _, n + 1, .cons _ t => RTs.drop n t
theorem RTs.set {x : T} {v : V} (r : RT K mg ρ H x v) : ∀ {xs : List T} {us : List V} (i : Nat), RTs K mg ρ H xs us → RTs K mg ρ H (xs.set i x) (us.set i v)
  | _, _, _, .nil => .nil
  | _, _, 0, .cons _ t => .cons r t
  | _, _, i + 1, .cons q t => .cons q (RTs.set r i t)
theorem RTs.reverse : ∀ {xs : List T} {us : List V}, RTs K mg ρ H xs us → RTs K mg ρ H xs.reverse us.reverse
  | _, _, .nil => .nil
  | _, _, .cons r t => by
    rw [List.reverse_cons, List.reverse_cons]
    exact (RTs.reverse t).append (.cons r .nil)
theorem RTs.eraseIdx : ∀ {xs : List T} {us : List V} (i : Nat), RTs K mg ρ H xs us → RTs K mg ρ H (xs.eraseIdx i) (us.eraseIdx i)
  | _, _, _, .nil => .nil
  | _, _, 0, .cons _ t => t
  | _, _, i + 1, .cons q t => .cons q (RTs.eraseIdx i t)
theorem RTs.dropLast {xs : List T} {us : List V} (r : RTs K mg ρ H xs us) : RTs K mg ρ H xs.dropLast us.dropLast := by
  rw [List.dropLast_eq_take, List.dropLast_eq_take, ← r.length]
  exact r.take _
theorem RTs.rep {xs : List T} {us : List V} (r : RTs K mg ρ H xs us) : ∀ n : Nat, RTs K mg ρ H (List.replicate n xs).flatten (List.replicate n us).flatten
  | 0 => .nil
  | n + 1 => by
    rw [List.replicate_succ, List.replicate_succ, List.flatten_cons, List.flatten_cons]
    exact r.append (r.rep n)
theorem RTs.cut {xs : List T} {us : List V} (r : RTs K mg ρ H xs us) (lo hi : Option Int) : RTs K mg ρ H (cutT xs lo hi) (cutV us lo hi) := by
  unfold cutT cutV
  rw [r.length]
  exact (r.drop _).take _
theorem RTs.at {xs : List T} {us : List V} {k : Int} {x : T} (r : RTs K mg ρ H xs us) (e : atI xs k = some x) : ∃ v, atI us k = some v ∧ RT K mg ρ H x v := by
  unfold atI at e ⊢
  rw [← r.length]
  cases q : ixN xs.length k with
  | none =>
    rw [q] at e
    cases e
  | some j =>
    rw [q] at e
    exact r.get e
theorem RTs.none_of {xs : List T} {us : List V} {i : Nat} (r : RTs K mg ρ H xs us) (e : xs[i]? = none) : us[i]? = none := by
  have h1 := r.length
  have h2 := List.getElem?_eq_none_iff.mp e
  exact List.getElem?_eq_none_iff.mpr (by omega)
theorem RTs.of_ints : ∀ {ts : List T} {ns : List Int} {vs : List V}, intsT ts = some ns → RTs K mg ρ H ts vs → vs = ns.map V.int
  | [], ns, _, e, .nil => by
    cases e
    rfl
  | .int i :: r, ns, _, e, .cons (.int _) b => by
    unfold intsT at e
    cases q : intsT r with
    | none =>
      rw [q] at e
      cases e
    | some ms =>
      rw [q] at e
      cases e
      rw [RTs.of_ints q b]
      rfl
theorem RTs.of_bools : ∀ {ts : List T} {ns : List Bool} {vs : List V}, boolsT ts = some ns → RTs K mg ρ H ts vs → vs = ns.map V.bl
  | [], ns, _, e, .nil => by
    cases e
    rfl
  | .bl i :: r, ns, _, e, .cons (.bl _) b => by
    unfold boolsT at e
    cases q : boolsT r with
    | none =>
      rw [q] at e
      cases e
    | some ms =>
      rw [q] at e
      cases e
      rw [RTs.of_bools q b]
      rfl

/-! ### steps of the heap -/
theorem G.mem_some (g : G K mg ρ H h) {a : Addr} (ha : a ∈ ρ) : ∃ o, H a = some o ∧ (∀ xs, o ≠ .tup xs) ∧ ∀ q u, o ≠ .frz q u := by
  obtain ⟨n, hn, e⟩ := List.mem_iff_getElem.mp ha
  have e1 : ρ[n]? = some a := by rw [List.getElem?_eq_getElem hn, e]
  have hn2 : n < h.length := by rw [← g.len]; exact hn
  obtain ⟨o, e2⟩ : ∃ o, h[n]? = some o := ⟨_, List.getElem?_eq_getElem hn2⟩
  cases g.ob n a o e1 e2 with
  | lst q _ => exact ⟨_, q, (by intro xs z; cases z), (by intro q u z; cases z)⟩
  | dK q _ => exact ⟨_, q, (by intro xs z; cases z), (by intro q u z; cases z)⟩
theorem G.not_mem (g : G K mg ρ H h) {a : Addr} (e : H a = none) : a ∉ ρ := fun ha => by
  obtain ⟨o, q, _⟩ := g.mem_some ha
  rw [e] at q
  cases q
theorem RKV.ext (e : Ext ρ H ρ' H') {ps : List (KT × T)} {qs : List (Key × V)} (r : RKV K mg ρ H ps qs) : RKV K mg ρ' H' ps qs :=
  Paired.mapP r fun _ _ z => ⟨z.1, z.2.ext e⟩
/-- a fresh thing that is not of our heap -/
theorem Ext.fresh {p : Addr} {o : HO} (hp : H p = none) : Ext ρ H ρ (upd H p o) where
  pre := List.prefix_refl _
  new := fun a ha => .inl ha
  keep := fun a q e _ => by
    rw [upd_ne (ne_of_none e hp)]
    exact e
  tup := fun a xs e => by
    rw [upd_ne (ne_of_none e hp)]
    exact e
  frz := fun a q u e => by
    rw [upd_ne (ne_of_none e hp)]
    exact e
theorem G.step (g : G K mg ρ H h) (e : Ext ρ H ρ H') (k : ∀ a ∈ ρ, H' a = H a) : G K mg ρ H' h where
  len := g.len
  nd := g.nd
  ob := fun n a o e1 e2 => by
    have hk := k a (List.mem_of_getElem? e1)
    cases g.ob n a o e1 e2 with
    | lst q r => exact .lst (hk.trans q) (r.ext e)
    | dK q r => exact .dK (hk.trans q) (r.ext e)
theorem G.fresh {p : Addr} {o : HO} (g : G K mg ρ H h) (hp : H p = none) : G K mg ρ (upd H p o) h :=
  g.step (Ext.fresh hp) fun a ha => upd_ne fun z => g.not_mem hp (z ▸ ha)
theorem Ext.alloc {p : Addr} {o : HO} (hp : H p = none) : Ext ρ H (ρ ++ [p]) (upd H p o) where
  pre := List.prefix_append _ _
  new := fun a ha => by
    rcases List.mem_append.mp ha with q | q
    · exact .inl q
    · rw [List.mem_singleton.mp q]
      exact .inr hp
  keep := (Ext.fresh (ρ := ρ) (o := o) hp).keep
  tup := (Ext.fresh (ρ := ρ) (o := o) hp).tup
  frz := (Ext.fresh (ρ := ρ) (o := o) hp).frz
/-- a tracked thing comes into our heap -/
theorem G.add {p : Addr} {o : O} (g : G K mg ρ H h) (hn : p ∉ ρ) (r : RO K mg ρ H o p) : G K mg (ρ ++ [p]) H (h ++ [o]) where
  len := by rw [List.length_append, List.length_append, g.len]; rfl
  nd := List.nodup_append.mpr ⟨g.nd, by simp, fun a ha b hb z => hn (by rw [List.mem_singleton.mp hb] at z; exact z ▸ ha)⟩
  ob := fun n a q e1 e2 => by
    by_cases hlt : n < ρ.length
    · rw [List.getElem?_append_left hlt] at e1
      rw [List.getElem?_append_left (by rw [← g.len]; exact hlt)] at e2
      exact (g.ob n a q e1 e2).wk Wk.add rfl
    · have hn2 := (List.getElem?_eq_some_iff.mp e1).1
      rw [List.length_append, List.length_singleton] at hn2
      have hn3 : n = ρ.length := by omega
      subst hn3
      rw [List.getElem?_append_right (Nat.le_refl _), Nat.sub_self] at e1
      rw [g.len, List.getElem?_append_right (Nat.le_refl _), Nat.sub_self] at e2
      cases e1
      cases e2
      exact r.wk Wk.add rfl
theorem RT.last {p : Addr} (g : G K mg ρ H h) : RT K mg (ρ ++ [p]) H' (.ref h.length) (.ref p) := by
  refine .ref ?_
  rw [← g.len, List.getElem?_append_right (Nat.le_refl _), Nat.sub_self]
  rfl
/-- a new list, a new dict -/
theorem G.newL {p : Addr} {xs : List T} {vs : List V} (g : G K mg ρ H h) (hp : H p = none) (r : RTs K mg ρ H xs vs) : G K mg (ρ ++ [p]) (upd H p (.lst vs)) (h ++ [.lst xs]) :=
  (g.fresh hp).add (g.not_mem hp) (.lst upd_same (r.ext (Ext.fresh hp)))
theorem G.newD {p : Addr} {xs : List (KT × T)} {vs : List (Key × V)} (g : G K mg ρ H h) (hp : H p = none) (r : RKV K mg ρ H xs vs) : G K mg (ρ ++ [p]) (upd H p (.dK vs)) (h ++ [.dK xs]) :=
  (g.fresh hp).add (g.not_mem hp) (.dK upd_same (r.ext (Ext.fresh hp)))
/-- a store into our heap -/
theorem Ext.write {a : Addr} {o : HO} {n : Nat} (g : G K mg ρ H h) (e : ρ[n]? = some a) : Ext ρ H ρ (upd H a o) where
  pre := List.prefix_refl _
  new := fun a ha => .inl ha
  keep := fun b q eb hb => by
    rw [upd_ne fun z => hb (by rw [z]; exact List.mem_of_getElem? e)]
    exact eb
  tup := fun b xs eb => by
    obtain ⟨q, h1, h2, _⟩ := g.mem_some (List.mem_of_getElem? e)
    rw [upd_ne fun z => by rw [z, h1] at eb; exact h2 xs (Option.some.inj eb)]
    exact eb
  frz := fun b q u eb => by
    obtain ⟨q', h1, _, h2⟩ := g.mem_some (List.mem_of_getElem? e)
    rw [upd_ne fun z => by rw [z, h1] at eb; exact h2 q u (Option.some.inj eb)]
    exact eb
theorem G.write {a : Addr} {u : HO} {n : Nat} {o : O} (g : G K mg ρ H h) (e : ρ[n]? = some a) (r : RO K mg ρ (upd H a u) o a) : G K mg ρ (upd H a u) (h.set n o) where
  len := by rw [List.length_set]; exact g.len
  nd := g.nd
  ob := fun m b q e1 e2 => by
    by_cases hm : n = m
    · subst hm
      rw [e] at e1
      cases e1
      have hn := (List.getElem?_eq_some_iff.mp e).1
      rw [List.getElem?_set_self (by rw [← g.len]; exact hn)] at e2
      cases e2
      exact r
    · rw [List.getElem?_set_ne hm] at e2
      have hb : b ≠ a := fun z => by
        subst z
        obtain ⟨h1, e1'⟩ := List.getElem?_eq_some_iff.mp e
        obtain ⟨h2, e2'⟩ := List.getElem?_eq_some_iff.mp e1
        exact hm ((List.getElem_inj g.nd).mp (e1'.trans e2'.symm))
      exact (g.ob m b q e1 e2).wk (Ext.write g e).wk (upd_ne hb)
theorem G.writeL {a : Addr} {n : Nat} {xs : List T} {vs : List V} (g : G K mg ρ H h) (e : ρ[n]? = some a) (r : RTs K mg ρ H xs vs) : G K mg ρ (upd H a (.lst vs)) (h.set n (.lst xs)) :=
  g.write e (.lst upd_same (r.ext (Ext.write g e)))
theorem G.writeD {a : Addr} {n : Nat} {xs : List (KT × T)} {vs : List (Key × V)} (g : G K mg ρ H h) (e : ρ[n]? = some a) (r : RKV K mg ρ H xs vs) : G K mg ρ (upd H a (.dK vs)) (h.set n (.dK xs)) :=
  g.write e (.dK upd_same (r.ext (Ext.write g e)))
/-- a list that may be changed -/
theorem G.mutL {n : Nat} {a : Addr} {xs : List T} (g : G K mg ρ H h) (e : ρ[n]? = some a) (q : mutL h n = some xs) : ∃ vs, H a = some (.lst vs) ∧ RTs K mg ρ H xs vs := by
  unfold MP.mutL at q
  split at q
  · rename_i ys eq
    cases q
    cases g.ob n a _ e eq with
    | lst h1 h2 => exact ⟨_, h1, h2⟩
  · cases q
theorem G.dK {n : Nat} {a : Addr} {kvs : List (KT × T)} (g : G K mg ρ H h) (e : ρ[n]? = some a) (q : h[n]? = some (.dK kvs)) : ∃ qs, H a = some (.dK qs) ∧ RKV K mg ρ H kvs qs := by
  cases g.ob n a _ e q with
  | dK h1 h2 => exact ⟨_, h1, h2⟩
theorem G.lsT {x : T} {v : V} {xs : List T} (g : G K mg ρ H h) (r : RT K mg ρ H x v) (q : lsT h x = some xs) : ∃ a vs, v = .ref a ∧ SqL K H a vs ∧ RTs K mg ρ H xs vs := by
  cases r with
  | ref e =>
    obtain ⟨vs, h1, h2⟩ := g.mutL e q
    exact ⟨_, vs, rfl, SqL.of h1, h2⟩
  | fz f r =>
    cases q
    exact ⟨_, _, rfl, f.sq, r⟩
  | _ => cases q
theorem RT.tupAt {xs : List T} {v : V} (r : RT K mg ρ H (.tup xs) v) : ∃ a vs, v = .ref a ∧ SqT K H a vs ∧ RTs K mg ρ H xs vs := by
  cases r with
  | tup t r => exact ⟨_, _, rfl, t.sq, r⟩
theorem G.seqOf {x : T} {v : V} {xs : List T} (g : G K mg ρ H h) (r : RT K mg ρ H x v) (q : seqOf h x = some xs) : ∃ a vs, v = .ref a ∧ (SqL K H a vs ∨ SqT K H a vs) ∧ RTs K mg ρ H xs vs := by
  cases r with
  | tup t r =>
    cases q
    exact ⟨_, _, rfl, .inr t.sq, r⟩
  | ref e =>
    obtain ⟨a, vs, h1, h2, h3⟩ := g.lsT (.ref e) q
    exact ⟨a, vs, h1, .inl h2, h3⟩
  | fz f r =>
    cases q
    exact ⟨_, _, rfl, .inl f.sq, r⟩
  | _ => cases q

/-! ### data -/
mutual
theorem dp_of {f : Nat → Option PyData} (hf : ∀ (n : Nat) (a : Addr) (d : PyData), ρ[n]? = some a → f n = some d → Dp K H (.ref a) d) : ∀ (t : T) (v : V) (d : PyData), RT K mg ρ H t v → T.dat f t = some d → Dp K H v d
  | .non, _, d, .non, e => by cases e; exact .non
  | .bl b, _, d, .bl _, e => by cases e; exact .bl b
  | .int b, _, d, .int _, e => by cases e; exact .int b
  | .str b, _, d, .str _, e => by cases e; exact .str b
  | .tup xs, _, d, .tup t r, e => by
    unfold T.dat at e
    cases q : T.dats f xs with
    | none => rw [q] at e; cases e
    | some ds =>
      rw [q] at e
      cases e
      exact .tup t.sq (dps_of hf xs _ ds r q)
  | .fz xs, _, d, .fz t r, e => by
    unfold T.dat at e
    cases q : T.dats f xs with
    | none => rw [q] at e; cases e
    | some ds =>
      rw [q] at e
      cases e
      exact .lst t.sq (dps_of hf xs _ ds r q)
  | .ref n, _, d, .ref q, e => hf n _ d q e
  | .fn x, _, d, .fn q, e => by cases e
theorem dps_of {f : Nat → Option PyData} (hf : ∀ (n : Nat) (a : Addr) (d : PyData), ρ[n]? = some a → f n = some d → Dp K H (.ref a) d) : ∀ (ts : List T) (vs : List V) (ds : List PyData), RTs K mg ρ H ts vs → T.dats f ts = some ds → DpAll K H vs ds
  | [], _, ds, .nil, e => by cases e; exact .nil
  | t :: ts, _, ds, .cons r rs, e => by
    unfold T.dats at e
    cases q : T.dat f t with
    | none => rw [q] at e; cases e
    | some d =>
      rw [q] at e
      cases q2 : T.dats f ts with
      | none => rw [q2] at e; cases e
      | some ds2 =>
        rw [q2] at e
        cases e
        exact .cons (dp_of hf t _ d r q) (dps_of hf ts _ ds2 rs q2)
end
theorem refD_ok (g : G K mg ρ H h) : ∀ (k n : Nat) (a : Addr) (d : PyData), ρ[n]? = some a → refD k h n = some d → Dp K H (.ref a) d
  | 0, _, _, _, _, e => by cases e
  | k + 1, n, a, d, e1, e => by
    unfold refD at e
    split at e
    · rename_i xs q
      cases g.ob n a _ e1 q with
      | lst h1 h2 =>
        cases q2 : T.dats (refD k h) xs with
        | none => rw [q2] at e; cases e
        | some ds =>
          rw [q2] at e
          cases e
          exact .lst (SqL.of h1) (dps_of (refD_ok g k) xs _ ds h2 q2)
    · cases e
theorem G.dat (g : G K mg ρ H h) {t : T} {v : V} {d : PyData} (r : RT K mg ρ H t v) (e : dat h t = some d) : Dp K H v d := dp_of (refD_ok g 12) t v d r e
theorem G.dats (g : G K mg ρ H h) {t : List T} {v : List V} {d : List PyData} (r : RTs K mg ρ H t v) (e : dats h t = some d) : DpAll K H v d := dps_of (refD_ok g 12) t v d r e

/-! ### keys -/
theorem KT.key_inj {a b : KT} (e : a.key = b.key) : a = b := by
  cases a <;> cases b <;> simp [KT.key] at e <;> rw [e]
theorem T.kt_ok {t : T} {k : KT} {v : V} (e : t.kt = some k) (r : RT K mg ρ H t v) : v = kV k.key := by
  cases r <;> simp [T.kt] at e <;> subst e <;> rfl
theorem RKV.look : ∀ {ps : List (KT × T)} {qs : List (Key × V)} (k : KT), RKV K mg ρ H ps qs → (∀ x, lookK ps k = some x → ∃ v, valV qs k.key = some v ∧ RT K mg ρ H x v) ∧ (lookK ps k = none → valV qs k.key = none)
  | _, _, k, .nil => ⟨fun x e => by simp [lookK] at e, fun _ => rfl⟩
  | _, _, k, @Paired.cons _ _ _ p q ps qs r t => by
    obtain ⟨ih1, ih2⟩ := RKV.look k t
    by_cases e : p.1 = k
    · have e2 : q.1 = k.key := by rw [r.1, e]
      rw [valV_pos e2]
      have e3 : lookK (p :: ps) k = some p.2 := by simp [lookK, List.find?_cons, e]
      rw [e3]
      exact ⟨fun x z => ⟨_, rfl, by cases z; exact r.2⟩, fun z => by cases z⟩
    · have e2 : ¬ q.1 = k.key := fun z => e (KT.key_inj (by rw [← r.1, z]))
      rw [valV_neg e2]
      have e3 : lookK (p :: ps) k = lookK ps k := by simp [lookK, List.find?_cons, e]
      rw [e3]
      exact ⟨ih1, ih2⟩
theorem RKV.length {ps : List (KT × T)} {qs : List (Key × V)} (r : RKV K mg ρ H ps qs) : ps.length = qs.length := Paired.length r
theorem RKV.any (k : KT) {ps : List (KT × T)} {qs : List (Key × V)} (r : RKV K mg ρ H ps qs) : (ps.any fun kv => decide (kv.1 = k)) = (qs.any fun kv => decide (kv.1 = k.key)) := by
  induction r with
  | nil => rfl
  | @cons p q ps qs r t ih =>
    rw [List.any_cons, List.any_cons, ih]
    congr 1
    by_cases e : p.1 = k
    · rw [decide_eq_true e, decide_eq_true (by rw [r.1, e])]
    · rw [decide_eq_false e, decide_eq_false fun z => e (KT.key_inj (by rw [← r.1, z]))]
theorem RKV.put1 (k : KT) {x : T} {v : V} (rx : RT K mg ρ H x v) {ps : List (KT × T)} {qs : List (Key × V)} (r : RKV K mg ρ H ps qs) :
    RKV K mg ρ H (ps.map fun kv => if kv.1 = k then (kv.1, x) else kv) (qs.map fun kv => if kv.1 = k.key then (kv.1, v) else kv) := by
  induction r with
  | nil => exact .nil
  | @cons p q ps qs r t ih =>
    rw [List.map_cons, List.map_cons]
    refine .cons ?_ ih
    by_cases e : p.1 = k
    · rw [if_pos e, if_pos (by rw [r.1, e])]
      exact ⟨r.1, rx⟩
    · rw [if_neg e, if_neg fun z => e (KT.key_inj (by rw [← r.1, z]))]
      exact r
theorem RKV.put2 (k : KT) {x : T} {v : V} (rx : RT K mg ρ H x v) {ps : List (KT × T)} {qs : List (Key × V)} (r : RKV K mg ρ H ps qs) : RKV K mg ρ H (ps ++ [(k, x)]) (qs ++ [(k.key, v)]) := by
  induction r with
  | nil => exact .cons ⟨rfl, rx⟩ .nil
  | cons r t ih => exact .cons r ih
theorem RKV.put (k : KT) {x : T} {v : V} (rx : RT K mg ρ H x v) {ps : List (KT × T)} {qs : List (Key × V)} (r : RKV K mg ρ H ps qs) : RKV K mg ρ H (putKT ps k x) (putK qs k.key v) := by
  unfold putKT putK
  rw [r.any k]
  split
  · exact r.put1 k rx
  · exact r.put2 k rx
end
end MP

set_option Elab.async false
set_option linter.all false
set_option maxRecDepth 100000
/-! MiniPy, part C: the operators by values -/
namespace MP
open PySem PySem.Spec PyProof.Rows L2

def Kn (K : PySem.W.Frag) (mg : Str → Option Value) (ρ : List Addr) (H : Hp) (h' : Hh) (t : T) (Q : VK) : Prop :=
  ∀ ρ' H' v, Ext ρ H ρ' H' → G K mg ρ' H' h' → RT K mg ρ' H' t v → Q v H'
section
variable {K : PySem.W.Frag} {mg : Str → Option Value} {ρ ρ' : List Addr} {H H' : Hp} {h h' : Hh} {t : T} {Q : VK}
theorem Kn.now (k : Kn K mg ρ H h t Q) (g : G K mg ρ H h) {v : V} (r : RT K mg ρ H t v) : Q v H := k ρ H v Ext.refl g r
theorem Kn.lst {xs : List T} {vs : List V} {p : Addr} (k : Kn K mg ρ H (h ++ [.lst xs]) (.ref h.length) Q) (g : G K mg ρ H h) (r : RTs K mg ρ H xs vs) (hp : H p = none) : Q (.ref p) (upd H p (.lst vs)) :=
  k _ _ _ (Ext.alloc hp) (g.newL hp r) (RT.last g)
theorem Kn.tup {xs : List T} {vs : List V} {p : Addr} (k : Kn K mg ρ H h (.tup xs) Q) (g : G K mg ρ H h) (r : RTs K mg ρ H xs vs) (hp : H p = none) : Q (.ref p) (upd H p (.tup vs)) :=
  k _ _ _ (Ext.fresh hp) (g.fresh hp) (.tup (.inl upd_same) (r.ext (Ext.fresh hp)))
theorem Kn.setL {n : Nat} {a : Addr} {xs : List T} {vs : List V} {v : V} (k : Kn K mg ρ H (h.set n (.lst xs)) t Q) (g : G K mg ρ H h) (e : ρ[n]? = some a) (r : RTs K mg ρ H xs vs) (rv : RT K mg ρ H t v) : Q v (upd H a (.lst vs)) :=
  k _ _ _ (Ext.write g e) (g.writeL e r) (rv.ext (Ext.write g e))
theorem newL_ok {xs : List T} {t : T} (e : newL h xs = .ok t h') : xs.length ≤ 16777216 ∧ t = .ref h.length ∧ h' = h ++ [.lst xs] := by
  unfold newL at e
  split at e
  · rename_i hl
    cases e
    exact ⟨hl, rfl, rfl⟩
  · cases e
theorem newT_ok {xs : List T} {t : T} (e : newT h xs = .ok t h') : xs.length ≤ 16777216 ∧ t = .tup xs ∧ h' = h := by
  unfold newT at e
  split at e
  · rename_i hl
    cases e
    exact ⟨hl, rfl, rfl⟩
  · cases e
theorem line_le {n : Nat} (h : n ≤ 16777216) : n ≤ sizeLine := by rw [sizeLine_eq]; exact h
theorem line_lt {n : Nat} (h : n < 16777216) : n < sizeLine := by rw [sizeLine_eq]; exact h
end

def Bop.o : Bop → Operator
  | .add => .Add
  | .sub => .Sub
  | .mul => .Mult
  | .fdiv => .FloorDiv
  | .mod => .Mod
  | .pow => .Pow
  | .shl => .LShift
  | .shr => .RShift
  | .band => .BitAnd
  | .bor => .BitOr
  | .bxor => .BitXor
theorem CMulB_ok {i j : Int} (h : CMulB i j = true) : CMul i j := by
  unfold CMulB at h
  unfold CMul
  simp only [Bool.or_eq_true, Bool.and_eq_true, decide_eq_true_eq] at h
  exact h
theorem CDivB_ok {i j : Int} (h : CDivB i j = true) : CDiv i j := by
  unfold CDivB at h
  unfold CDiv
  simp only [Bool.and_eq_true, decide_eq_true_eq] at h
  exact h
theorem CPowB_ok {i j : Int} (h : CPowB i j = true) : CPow i j := by
  unfold CPowB at h
  unfold CPow
  simp only [Bool.and_eq_true, decide_eq_true_eq] at h
  exact ⟨h.1.1, h.1.2, h.2⟩
section
variable {X : Cx}
/-- the reading of an operation by our values -/
def rOp (K : PySem.W.Frag) (mg : Str → Option Value) (f : T → T → Hh → R T) : R2 := fun x y H Q =>
  ∃ ρ h tx ty t h', G K mg ρ H h ∧ RT K mg ρ H tx x ∧ RT K mg ρ H ty y ∧ f tx ty h = .ok t h' ∧ Kn K mg ρ H h' t Q
theorem op_int (op : Bop) : OpR X (binaryOp op.o) (fun x y H Q => ∃ i j k, x = .int i ∧ y = .int j ∧ intOp op i j = some k ∧ Q (.int k) H) := by
  intro pins s σ H x y v u Q I rx ry hq
  obtain ⟨i, j, k, rfl, rfl, e, q⟩ := hq
  cases op with
  | add => cases e; exact op_add pins s σ H _ _ v u Q I rx ry ⟨i, j, rfl, rfl, q⟩
  | sub => cases e; exact op_sub pins s σ H _ _ v u Q I rx ry ⟨i, j, rfl, rfl, q⟩
  | band => cases e; exact op_and pins s σ H _ _ v u Q I rx ry ⟨i, j, rfl, rfl, q⟩
  | bor => cases e; exact op_or pins s σ H _ _ v u Q I rx ry ⟨i, j, rfl, rfl, q⟩
  | bxor => cases e; exact op_xor pins s σ H _ _ v u Q I rx ry ⟨i, j, rfl, rfl, q⟩
  | mul =>
    dsimp only [intOp] at e
    split at e
    · rename_i hc; cases e; exact op_mul pins s σ H _ _ v u Q I rx ry ⟨i, j, rfl, rfl, CMulB_ok hc, q⟩
    · cases e
  | fdiv =>
    dsimp only [intOp] at e
    split at e
    · rename_i hc; cases e; exact op_fdiv pins s σ H _ _ v u Q I rx ry ⟨i, j, rfl, rfl, CDivB_ok hc, q⟩
    · cases e
  | mod =>
    dsimp only [intOp] at e
    split at e
    · rename_i hc; cases e; exact op_mod pins s σ H _ _ v u Q I rx ry ⟨i, j, rfl, rfl, hc, q⟩
    · cases e
  | pow =>
    dsimp only [intOp] at e
    split at e
    · rename_i hc; cases e; exact op_pow pins s σ H _ _ v u Q I rx ry ⟨i, j, rfl, rfl, CPowB_ok hc, q⟩
    · cases e
  | shl =>
    dsimp only [intOp] at e
    split at e
    · rename_i hc; cases e; exact op_shl pins s σ H _ _ v u Q I rx ry ⟨i, j, rfl, rfl, CPowB_ok hc, q⟩
    · cases e
  | shr =>
    dsimp only [intOp] at e
    split at e
    · rename_i hc; cases e; exact op_shr pins s σ H _ _ v u Q I rx ry ⟨i, j, rfl, rfl, hc, q⟩
    · cases e
theorem rep_len {α : Type} (xs : List α) : ∀ n : Nat, (List.replicate n xs).flatten.length = xs.length * n
  | 0 => rfl
  | n + 1 => by
    rw [List.replicate_succ, List.flatten_cons, List.length_append, rep_len xs n, Nat.mul_succ, Nat.add_comm]
theorem op_bin (op : Bop) : OpR X (binaryOp op.o) (rOp X.K X.mg (binT op)) := by
  intro pins s σ H x y v u Q I rx ry hq
  obtain ⟨ρ, h, tx, ty, t, h', g, r1, r2, e, k⟩ := hq
  unfold binT at e
  split at e
  · -- ints
    rename_i i j
    split at e
    · rename_i m em
      cases e
      cases r1
      cases r2
      exact op_int op pins s σ H _ _ v u Q I rx ry ⟨i, j, m, rfl, rfl, em, k.now g (.int _)⟩
    · cases e
  · -- texts
    rename_i a b
    cases op <;> dsimp only at e <;> try cases e
    split at e
    · rename_i hl
      cases e
      cases r1
      cases r2
      exact op_add_str pins s σ H _ _ v u Q I rx ry ⟨a, b, rfl, rfl, line_le hl, k.now g (.str _)⟩
    · cases e
  · -- tuples
    rename_i xs ys
    cases op <;> dsimp only at e <;> try cases e
    obtain ⟨hl, rfl, rfl⟩ := newT_ok e
    obtain ⟨a, vs, rfl, s1, q1⟩ := r1.tupAt
    obtain ⟨b, ws, rfl, s2, q2⟩ := r2.tupAt
    rw [List.length_append] at hl
    refine op_catA pins s σ H _ _ v u Q I rx ry ⟨a, b, vs, ws, rfl, rfl, s1, s2, line_le (by rw [← q1.length, ← q2.length]; exact hl), fun ev => ?_, fun _ ew => ?_, fun _ _ p hp => k.tup g (q1.append q2) hp⟩
    · subst ev
      cases q1
      exact k.now g r2
    · subst ew
      cases q2
      rw [List.append_nil] at k
      exact k.now g r1
  · -- lists
    rename_i a b
    split at e
    · rename_i xs ys e1 e2
      obtain ⟨hl, rfl, rfl⟩ := newL_ok e
      cases r1 with
      | ref p1 =>
        cases r2 with
        | ref p2 =>
          obtain ⟨vs, m1, q1⟩ := g.mutL p1 e1
          obtain ⟨ws, m2, q2⟩ := g.mutL p2 e2
          rw [List.length_append] at hl
          exact op_cat pins s σ H _ _ v u Q I rx ry ⟨_, _, vs, ws, rfl, rfl, m1, m2, line_le (by rw [← q1.length, ← q2.length]; exact hl), fun p hp => k.lst g (q1.append q2) hp⟩
    · cases e
  · -- a list so often
    rename_i a m
    split at e
    · rename_i xs e1
      split at e
      · rename_i hb
        obtain ⟨hl, rfl, rfl⟩ := newL_ok e
        cases r1 with
        | ref p1 =>
          cases r2
          obtain ⟨vs, m1, q1⟩ := g.mutL p1 e1
          rw [rep_len] at hl
          exact op_rep pins s σ H _ _ v u Q I rx ry ⟨_, _, vs, rfl, rfl, m1, by omega, by omega, line_le (by rw [← q1.length]; exact hl), fun p hp => k.lst g (q1.rep _) hp⟩
      · cases e
    · cases e
  · -- a tuple so often
    rename_i xs m
    split at e
    · rename_i x r
      split at e
      · rename_i hb
        cases e
        obtain ⟨a, vs, rfl, s1, q1⟩ := r1.tupAt
        cases r2
        refine op_repT pins s σ H _ _ v u Q I rx ry ⟨_, _, vs, rfl, rfl, s1, fun ev => ?_, hb.1, hb.2.1, by rw [← q1.length]; exact hb.2.2, fun p hp => k.tup g (q1.rep _) hp⟩
        rw [ev] at q1
        cases q1
      · cases e
    · cases e
  · cases e

/-! ### comparisons -/
def Cop.o : Cop → CmpOp
  | .eq => .Eq
  | .ne => .NotEq
  | .lt => .Lt
  | .le => .LtE
  | .gt => .Gt
  | .ge => .GtE
  | .inn => .In
  | .nin => .NotIn
theorem T.flat_ok {K : PySem.W.Frag} {mg : Str → Option Value} {ρ : List Addr} {H : Hp} {t : T} {v : V} (e : t.flat = true) (r : RT K mg ρ H t v) : flatV v = true := by
  cases r <;> first | rfl | cases e
theorem flats_ok {K : PySem.W.Frag} {mg : Str → Option Value} {ρ : List Addr} {H : Hp} : ∀ {ts : List T} {vs : List V}, ts.all T.flat = true → RTs K mg ρ H ts vs → vs.all flatV = true
  | _, _, _, .nil => rfl
  | _, _, e, .cons a b => by
    rw [List.all_cons, Bool.and_eq_true] at e
    rw [List.all_cons, T.flat_ok e.1 a, flats_ok e.2 b]
    rfl
theorem eqv_flat {K : PySem.W.Frag} {H : Hp} {x y : V} {d e : PyData} (a : Dp K H x d) (b : Dp K H y e) (fx : flatV x = true) (fy : flatV y = true) : PyData.eqv d e = eqV x y := by
  cases a <;> cases b <;> first | rfl | (cases fx; done) | (cases fy; done)
theorem any_flat {K : PySem.W.Frag} {H : Hp} {x : V} {d : PyData} (a : Dp K H x d) (fx : flatV x = true) : ∀ {ys : List V} {ds : List PyData}, DpAll K H ys ds → ys.all flatV = true → (ds.any fun z => PyData.eqv z d) = inV x ys
  | _, _, .nil, _ => rfl
  | _, _, .cons b r, f => by
    rw [List.all_cons, Bool.and_eq_true] at f
    unfold inV
    rw [List.any_cons, List.any_cons, any_flat a fx r f.2, eqv_flat b a f.1 fx]
    rfl
/-- x among y: the list's way, the tuple's, the dict's -/
theorem in_road {neg : Bool} (hu : X.A.units + 65 < cLine) : OpR X (compareOp (if neg = true then .NotIn else .In)) (fun x y H Q => ∃ ρ h tx ty b, G X.K X.mg ρ H h ∧ RT X.K X.mg ρ H tx x ∧ RT X.K X.mg ρ H ty y ∧ inO tx ty h = some b ∧ Q (.bl (if neg = true then !b else b)) H) := by
  intro pins s σ H x y v u Q I rx ry hq
  obtain ⟨ρ, h, tx, ty, b, g, r1, r2, e, q⟩ := hq
  have lists : ∀ {ys : List T} {a : Addr} {vs : List V}, y = .ref a → SqL X.K H a vs → RTs X.K X.mg ρ H ys vs → inT h tx ys = some b → wpAny (model X.prog X.w) X.A (compareOp (if neg = true then .NotIn else .In) v u) (EP X pins σ Q) X.xe s := by
    rintro ys a vs rfl hs rs e
    unfold inT at e
    split at e
    · rename_i d ds e1 e2
      split at e
      · rename_i hc
        rw [Bool.and_eq_true] at hc
        cases e
        have D1 := g.dat r1 e1
        have D2 := Dp.lst hs (g.dats rs e2)
        cases neg with
        | false => exact op_inD hu pins s σ H _ _ v u Q I rx ry ⟨d, ds, D1, D2, hc.1, hc.2, q⟩
        | true => exact op_notInD hu pins s σ H _ _ v u Q I rx ry ⟨d, ds, D1, D2, hc.1, hc.2, q⟩
      · cases e
    · cases e
  unfold inO at e
  split at e
  · rename_i ys
    obtain ⟨a, vs, ev, hs, rs⟩ := g.lsT r2 rfl
    exact lists ev hs rs e
  · rename_i n
    cases r2 with
    | ref p2 =>
      split at e
      · rename_i ys e3
        obtain ⟨vs, m, rs⟩ := g.mutL p2 (xs := ys) (by unfold mutL; rw [e3])
        exact lists rfl (SqL.of m) rs e
      · rename_i kvs e3
        split at e
        · rename_i kk ek
          cases e
          obtain ⟨qs, m, rk⟩ := g.dK p2 e3
          have ev := T.kt_ok ek r1
          subst ev
          have gt : DGet H _ (kV kk.key) (valV qs kk.key) := DGet.k m
          have es : (lookK kvs kk).isSome = (valV qs kk.key).isSome := by
            obtain ⟨h1, h2⟩ := rk.look kk
            cases z : lookK kvs kk with
            | none => rw [h2 z]; rfl
            | some x0 =>
              obtain ⟨v0, z2, _⟩ := h1 x0 z
              rw [z2]
              rfl
          rw [es] at q
          cases ry
          cases neg with
          | false => exact d_in (by omega) I gt rx fun s' I' => ⟨.bl _, H, I', rfl, q⟩
          | true => exact d_notIn (by omega) I gt rx fun s' I' => ⟨.bl _, H, I', rfl, q⟩
        · cases e
      · cases e
  · rename_i ys
    split at e
    · rename_i hf
      rw [Bool.and_eq_true] at hf
      obtain ⟨a, vs, rfl, hs, rs⟩ := r2.tupAt
      unfold inT at e
      split at e
      · rename_i d ds e1 e2
        split at e
        · cases e
          have D1 := g.dat r1 e1
          have D2 := g.dats rs e2
          have f1 := T.flat_ok hf.1 r1
          have f2 := flats_ok hf.2 rs
          rw [any_flat D1 f1 D2 f2] at q
          cases neg with
          | false => exact op_in_seq pins s σ H _ _ v u Q I rx ry ⟨a, vs, rfl, .inr hs, f1, f2, q⟩
          | true => exact op_notIn_seq pins s σ H _ _ v u Q I rx ry ⟨a, vs, rfl, .inr hs, f1, f2, q⟩
        · cases e
      · cases e
    · cases e
  · cases e
theorem op_cmp (op : Cop) (hu : X.A.units + 65 < cLine) : OpR X (compareOp op.o) (rOp X.K X.mg (cmpT op)) := by
  intro pins s σ H x y v u Q I rx ry hq
  obtain ⟨ρ, h, tx, ty, t, h', g, r1, r2, e, k⟩ := hq
  have eqs : ∀ {b : Bool}, eqT h tx ty = some b → ∃ d e, Dp X.K H x d ∧ Dp X.K H y e ∧ SeqAt.shaped d = true ∧ SeqAt.shaped e = true ∧ PyData.eqv d e = b := fun {b} eb => by
    unfold eqT at eb
    split at eb
    · rename_i d1 d2 e1 e2
      split at eb
      · rename_i hc
        rw [Bool.and_eq_true] at hc
        cases eb
        exact ⟨d1, d2, g.dat r1 e1, g.dat r2 e2, hc.1, hc.2, rfl⟩
      · cases eb
    · cases eb
  have nums : numC op tx ty h = R.ok t h' → ∃ i j b, x = .int i ∧ y = .int j ∧ intC op i j = some b ∧ Q (.bl b) H := fun en => by
    cases r1 <;> first
      | (cases en; done)
      | (cases r2 <;> first
          | (cases en; done)
          | (rename_i i j
             dsimp only [numC] at en
             split at en
             · rename_i b eb
               cases en
               exact ⟨i, j, b, rfl, rfl, eb, k.now g (.bl b)⟩
             · cases en))
  cases op with
  | eq =>
    dsimp only [cmpT] at e
    split at e
    · rename_i b eb
      cases e
      obtain ⟨d1, d2, D1, D2, s1, s2, eb⟩ := eqs eb
      subst eb
      exact op_eqD (by omega) pins s σ H _ _ v u Q I rx ry ⟨d1, d2, D1, D2, s1, s2, k.now g (.bl _)⟩
    · cases e
  | ne =>
    dsimp only [cmpT] at e
    split at e
    · rename_i b eb
      cases e
      obtain ⟨d1, d2, D1, D2, s1, s2, eb⟩ := eqs eb
      subst eb
      exact op_neD (by omega) pins s σ H _ _ v u Q I rx ry ⟨d1, d2, D1, D2, s1, s2, k.now g (.bl _)⟩
    · cases e
  | inn =>
    dsimp only [cmpT] at e
    split at e
    · rename_i b eb
      cases e
      exact in_road (neg := false) hu pins s σ H _ _ v u Q I rx ry ⟨ρ, h, tx, ty, b, g, r1, r2, eb, k.now g (.bl _)⟩
    · cases e
  | nin =>
    dsimp only [cmpT] at e
    split at e
    · rename_i b eb
      cases e
      exact in_road (neg := true) hu pins s σ H _ _ v u Q I rx ry ⟨ρ, h, tx, ty, b, g, r1, r2, eb, k.now g (.bl _)⟩
    · cases e
  | lt =>
    obtain ⟨i, j, b, rfl, rfl, eb, q⟩ := nums e
    cases eb
    exact op_lt pins s σ H _ _ v u Q I rx ry ⟨i, j, rfl, rfl, q⟩
  | le =>
    obtain ⟨i, j, b, rfl, rfl, eb, q⟩ := nums e
    cases eb
    exact op_le pins s σ H _ _ v u Q I rx ry ⟨i, j, rfl, rfl, q⟩
  | gt =>
    obtain ⟨i, j, b, rfl, rfl, eb, q⟩ := nums e
    cases eb
    exact op_gt pins s σ H _ _ v u Q I rx ry ⟨i, j, rfl, rfl, q⟩
  | ge =>
    obtain ⟨i, j, b, rfl, rfl, eb, q⟩ := nums e
    cases eb
    exact op_ge pins s σ H _ _ v u Q I rx ry ⟨i, j, rfl, rfl, q⟩

/-! ### items, slices -/
theorem sl_all : SlR X (fun x lo hi H Q => ∃ ρ h tx t h', G X.K X.mg ρ H h ∧ RT X.K X.mg ρ H tx x ∧ slcT tx lo hi h = .ok t h' ∧ Kn X.K X.mg ρ H h' t Q) := by
  intro pins s σ H x v vl vu lo hi sl Q I rx hs pl pu hq
  obtain ⟨ρ, h, tx, t, h', g, r1, e, k⟩ := hq
  unfold slcT at e
  split at e
  · rename_i xs
    cases e
    obtain ⟨a, vs, rfl, s1, q1⟩ := r1.tupAt
    refine sl_tupA pins s σ H _ v vl vu lo hi sl Q I rx hs pl pu ⟨a, vs, rfl, s1, fun hw => ?_, fun _ p hp => k.tup g (q1.cut lo hi) hp⟩
    refine k.now g ?_
    have ec : cutT xs lo hi = xs := by
      unfold cutT
      rw [q1.length, hw.1, hw.2, List.drop_zero, Nat.sub_zero, ← q1.length]
      exact List.take_length
    rw [ec]
    exact r1
  · split at e
    · rename_i xs ex
      obtain ⟨hl, rfl, rfl⟩ := newL_ok e
      obtain ⟨a, vs, rfl, s1, q1⟩ := g.lsT r1 ex
      exact sl_list pins s σ H _ v vl vu lo hi sl Q I rx hs pl pu ⟨a, vs, rfl, s1, fun p hp => k.lst g (q1.cut lo hi) hp⟩
    · cases e

/-! ### stores -/
theorem set_all (hu : X.A.units + 1 < cLine) : PSet X (fun o i v H Q => ∃ ρ h to' ti tv h', G X.K X.mg ρ H h ∧ RT X.K X.mg ρ H to' o ∧ RT X.K X.mg ρ H ti i ∧ RT X.K X.mg ρ H tv v ∧ setT to' ti tv h = .ok () h' ∧
    ∀ ρ' H', Ext ρ H ρ' H' → G X.K X.mg ρ' H' h' → Q H') := by
  intro pins s σ H o i v ov iv u Q I ro ri rv hq
  obtain ⟨ρ, h, to', ti, tv, h', g, r1, r2, r3, e, k⟩ := hq
  unfold setT at e
  split at e
  · rename_i n
    cases r1 with
    | ref p1 =>
      split at e
      · rename_i xs j e1
        split at e
        · rename_i m em
          cases e
          obtain ⟨vs, m1, q1⟩ := g.mutL p1 (xs := xs) (by unfold mutL; rw [e1])
          cases r2
          exact set_list pins s σ H _ _ _ ov iv u Q I ro ri rv ⟨_, vs, _, m, rfl, rfl, m1, by rw [← q1.length]; exact em, k _ _ (Ext.write g p1) (g.writeL p1 (q1.set r3 m))⟩
        · cases e
      · rename_i kvs e1
        split at e
        · rename_i kk ek
          split at e
          · rename_i hl
            cases e
            obtain ⟨qs, m1, q1⟩ := g.dK p1 e1
            have ev := T.kt_ok ek r2
            subst ev
            exact set_dict hu pins s σ H _ _ _ ov iv u Q I ro ri rv ⟨_, _, rfl, DPut.k m1 (line_lt (by rw [← q1.length]; exact hl)), k _ _ (Ext.write g p1) (g.writeD p1 (q1.put kk r3))⟩
          · cases e
        · cases e
      · cases e
  · cases e

/-! ### sorted -/
theorem pl_obj {h : Heap} {a : Addr} {xs : Array Value} (p : PlainL h a xs) : ∃ o n, h.get? a = some o ∧ o.cls = .type "list" ∧ o.data = .seq xs n := by
  obtain ⟨o, n, h1, h2, _, h3⟩ := p
  exact ⟨o, n, h1, h2, h3⟩
theorem sorted_seq {prog : Program} {w : World} {A : Around} {E : Value → Shared → Prop} {s : Shared} {β : Type} {R : Value → β → Prop} {enc : β → PyData} {vs : List Value} {bs : List β} {a : Addr} {o : Obj} {n : Nat} {ty : String} {Q : Value → Shared → Prop}
    (hT : ty = "list" ∨ ty = "tuple") (ho : s.heap.get? a = some o) (hc : o.cls = .type ty) (hd : o.data = .seq vs.toArray n)
    (er : W.EachIs (fun v b => R v b ∧ ∃ as, Reads s.heap v (enc b) as) vs bs) (hal : W.AllAlike (bs.map enc)) (hk : W.Sortable (bs.map enc)) (hL : bs.length ≤ sizeLine)
    (hu : ∀ b, b ∈ bs → A.units + 2 + (enc b).depth < cLine)
    (hq : ∀ (h1 : Heap) (out : List Value) (h' : Heap) (ep : Nat), (∀ b u, s.heap.get? b = some u → h1.get? b = some u) → out.length = bs.length → W.EachIs R out (bs.mergeSort (W.dataLe false enc)) → (∀ b u, h1.get? b = some u → h'.get? b = some u) →
      h'.get? h1.objs.size = some { cls := .type "list", data := .seq out.toArray ep } → Q (.ref h1.objs.size) { s with heap := h' }) :
    wpAny (model prog w) A (call (.builtin "sorted") [.ref a]) Q E s := by
  have e1 : W.EachIs R vs bs := er.mono fun _ _ z => z.1
  have hz : vs.length ≤ sizeLine := by rw [e1.length]; exact hL
  refine call_function_entry_kw kind_sorted plain_sorted entry_sorted (args_sorted1 _) ?_
  unfold Builtin.«sorted»
  refine wpAny_bind (m := checkCount "sorted" 1 1 _) (wpAny_pure (wpAny_bind (wpAny_collect_seq a hT ho hc hd (fun h1 k1 => ?_) (by rw [List.size_toArray]; exact hz))))
  refine wpAny_bind (PySem.wpAny_newList ?_ hz)
  have at1 : (h1.push { cls := .type "list", data := .seq vs.toArray }).get? h1.objs.size = some (seqObj "list" vs.toArray 0) := Heap.get?_push_size _ rfl
  have k2 : ∀ b u, h1.get? b = some u → (h1.push { cls := .type "list", data := .seq vs.toArray }).get? b = some u := fun b u z => Heap.get?_push_of_some _ z
  -- the sort itself
  refine wpAny_bind (wpAny_holding (wpAny_call_entry_kw slot_list_sort ⟨_, at1, rfl⟩ entry_list_sort ?body (args_list_sort _)))
  have k3 : ∀ b u, h1.get? b = some u → (W.sortingHeap (h1.push { cls := .type "list", data := .seq vs.toArray }) h1.objs.size vs).get? b = some u := fun b u z => W.sortingHeap_old (Nat.ne_of_lt (Heap.lt_size z)) (k2 b u z)
  have er' : W.EachIs (fun v b => ∃ as, Reads (W.sortingHeap (h1.push { cls := .type "list", data := .seq vs.toArray }) h1.objs.size vs) v (enc b) as) vs bs :=
    er.mono fun _ _ ⟨_, as, r⟩ => ⟨as, PyProof.Rows.Reads.keeps (fun b u z => k3 b u (k1 b u z)) r⟩
  refine wpAny_mono (W.list_sort_vals (P := fun f s' => f = .done (.ret .none) ∧ s' = { s with heap := sortedHeap (h1.push { cls := .type "list", data := .seq vs.toArray }) h1.objs.size vs (W.sortVals (W.dataKind (W.sortingHeap (h1.push { cls := .type "list", data := .seq vs.toArray }) h1.objs.size vs) (bs.map enc)) false vs vs).toArray })
    at1 (W.SortsAt.data (s := { s with heap := W.sortingHeap (h1.push { cls := .type "list", data := .seq vs.toArray }) h1.objs.size vs }) (W.each_map (R := fun v d => ∃ as, Reads (W.sortingHeap (h1.push { cls := .type "list", data := .seq vs.toArray }) h1.objs.size vs) v d as) enc er') hal hk (W.bound_map hu)) hz ⟨rfl, rfl⟩) (fun f s' hf => ?_) fun _ _ z => z
  obtain ⟨rfl, rfl⟩ := hf
  refine ⟨_, rfl, wpAny_pure ⟨_, rfl, ?_⟩⟩
  obtain ⟨ep, he⟩ := sortedHeap_at (out := (W.sortVals (W.dataKind (W.sortingHeap (h1.push { cls := .type "list", data := .seq vs.toArray }) h1.objs.size vs) (bs.map enc)) false vs vs).toArray) at1
  refine hq h1 _ _ ep k1 ?_ (W.sortVals_data false e1 er' hal) (fun b u z => ?_) he
  · rw [W.sortVals_length false rfl]
    exact e1.length
  · rw [sortedHeap_old (Nat.ne_of_lt (Heap.lt_size z)) (Heap.lt_size (k2 b u z))]
    exact k2 b u z
end
end MP

set_option Elab.async false
set_option linter.all false
set_option maxRecDepth 100000
/-! MiniPy, part D: built-ins and methods by values -/
namespace MP
open PySem PySem.Spec PyProof.Rows L2
section
variable {X : Cx}
theorem RTs.one {K : PySem.W.Frag} {mg : Str → Option Value} {ρ : List Addr} {H : Hp} {x : T} {vs : List V} (r : RTs K mg ρ H [x] vs) : ∃ v, vs = [v] ∧ RT K mg ρ H x v := by
  cases r with
  | cons a b =>
    cases b
    exact ⟨_, rfl, a⟩
theorem RTs.two {K : PySem.W.Frag} {mg : Str → Option Value} {ρ : List Addr} {H : Hp} {x y : T} {vs : List V} (r : RTs K mg ρ H [x, y] vs) : ∃ v w, vs = [v, w] ∧ RT K mg ρ H x v ∧ RT K mg ρ H y w := by
  cases r with
  | cons a b =>
    obtain ⟨w, rfl, q⟩ := b.one
    exact ⟨_, w, rfl, a, q⟩
def Blt.f : Blt → Value
  | .len => .builtin "len"
  | .list => .type "list"
  | .tuple => .type "tuple"
  | .sorted => .builtin "sorted"
  | .all => .builtin "all"
  | .any => .builtin "any"
  | .sum => .builtin "sum"
  | .max => .builtin "max"
  | .min => .builtin "min"
  | .int => .type "int"
  | .repr => .builtin "repr"
  | .str => .type "str"
  | .abs => .builtin "abs"
  | .bool => .type "bool"
theorem foldl_max (r : List Int) : ∀ a : Int, a ≤ r.foldl max a ∧ (∀ y ∈ r, y ≤ r.foldl max a) ∧ (r.foldl max a = a ∨ r.foldl max a ∈ r) := by
  induction r with
  | nil => exact fun a => ⟨Int.le_refl a, by simp, .inl rfl⟩
  | cons x r ih =>
    intro a
    obtain ⟨h1, h2, h3⟩ := ih (max a x)
    refine ⟨Int.le_trans (Int.le_max_left a x) h1, fun y hy => ?_, ?_⟩
    · rcases List.mem_cons.mp hy with rfl | hy
      · exact Int.le_trans (Int.le_max_right a y) h1
      · exact h2 y hy
    · rcases h3 with h3 | h3
      · show (r.foldl max (max a x) = a ∨ r.foldl max (max a x) ∈ x :: r)
        rw [h3]
        rcases Int.le_total a x with q | q
        · rw [Int.max_eq_right q]
          exact .inr List.mem_cons_self
        · rw [Int.max_eq_left q]
          exact .inl rfl
      · exact .inr (List.mem_cons_of_mem _ h3)
theorem foldl_min (r : List Int) : ∀ a : Int, r.foldl min a ≤ a ∧ (∀ y ∈ r, r.foldl min a ≤ y) ∧ (r.foldl min a = a ∨ r.foldl min a ∈ r) := by
  induction r with
  | nil => exact fun a => ⟨Int.le_refl a, by simp, .inl rfl⟩
  | cons x r ih =>
    intro a
    obtain ⟨h1, h2, h3⟩ := ih (min a x)
    refine ⟨Int.le_trans h1 (Int.min_le_left a x), fun y hy => ?_, ?_⟩
    · rcases List.mem_cons.mp hy with rfl | hy
      · exact Int.le_trans h1 (Int.min_le_right a y)
      · exact h2 y hy
    · rcases h3 with h3 | h3
      · show (r.foldl min (min a x) = a ∨ r.foldl min (min a x) ∈ x :: r)
        rw [h3]
        rcases Int.le_total a x with q | q
        · rw [Int.min_eq_left q]
          exact .inl rfl
        · rw [Int.min_eq_right q]
          exact .inr List.mem_cons_self
      · exact .inr (List.mem_cons_of_mem _ h3)
theorem maxI_ok {ns : List Int} {m : Int} (e : maxI ns = some m) : 0 < ns.length ∧ ∀ k, k ∈ ns → (∀ y, y ∈ ns → y ≤ k) → k = m := by
  cases ns with
  | nil => cases e
  | cons x r =>
    cases e
    obtain ⟨h1, h2, h3⟩ := foldl_max r x
    refine ⟨Nat.succ_pos _, fun k hk hy => ?_⟩
    have a1 : k ≤ r.foldl max x := by
      rcases List.mem_cons.mp hk with rfl | hk
      · exact h1
      · exact h2 k hk
    have a2 : r.foldl max x ≤ k := by
      rcases h3 with h3 | h3
      · rw [h3]
        exact hy x List.mem_cons_self
      · exact hy _ (List.mem_cons_of_mem _ h3)
    omega
theorem minI_ok {ns : List Int} {m : Int} (e : minI ns = some m) : 0 < ns.length ∧ ∀ k, k ∈ ns → (∀ y, y ∈ ns → k ≤ y) → k = m := by
  cases ns with
  | nil => cases e
  | cons x r =>
    cases e
    obtain ⟨h1, h2, h3⟩ := foldl_min r x
    refine ⟨Nat.succ_pos _, fun k hk hy => ?_⟩
    have a1 : r.foldl min x ≤ k := by
      rcases List.mem_cons.mp hk with rfl | hk
      · exact h1
      · exact h2 k hk
    have a2 : k ≤ r.foldl min x := by
      rcases h3 with h3 | h3
      · rw [h3]
        exact hy x List.mem_cons_self
      · exact hy _ (List.mem_cons_of_mem _ h3)
    omega
theorem ref1 {v : V} {a : Addr} {us : List Value} (r : Vals [v] us) (e : v = .ref a) : us = [.ref a] := by
  subst e
  cases r with
  | cons p q =>
    cases q
    rw [show _ = Value.ref a from p]
/-! ### sorted -/
theorem sortable_ok {ds : List PyData} (h : sortable ds = true) : W.AllAlike ds ∧ W.Sortable ds ∧ ∀ d ∈ ds, d.depth ≤ 60 := by
  unfold sortable at h
  rw [Bool.and_eq_true, Bool.and_eq_true, Bool.or_eq_true] at h
  obtain ⟨⟨h1, h2⟩, h3⟩ := h
  refine ⟨fun d hd e he => ?_, ?_, fun d hd => of_decide_eq_true (List.all_eq_true.mp h3 d hd)⟩
  · exact List.all_eq_true.mp (List.all_eq_true.mp h1 d hd) e he
  · rcases h2 with h2 | h2
    · refine .inl fun d hd => ?_
      have q := List.all_eq_true.mp h2 d hd
      split at q
      · exact ⟨_, _, rfl⟩
      · cases q
    · refine .inr fun d hd => ?_
      have q := List.all_eq_true.mp h2 d hd
      split at q
      · cases q
      · cases q
      · rename_i g1 g2
        exact ⟨g1, g2⟩
/-- the items as values, read off -/
theorem each_of {pins : List (Addr × Obj)} {σ : L2.St} {H : Hp} {s : Shared} {mg : Str → Option Value} {ρ : List Addr} (I : Inv X pins σ H s) : ∀ {xs : List T} {vs : List V} {us : List Value} {ds : List PyData}, RTs X.K mg ρ H xs vs → DpAll X.K H vs ds → Vals vs us →
    W.EachIs (fun u (p : T × PyData) => (∃ v, RelV v u ∧ RT X.K mg ρ H p.1 v) ∧ ∃ as, Reads s.heap u p.2 as) us (xs.zip ds)
  | _, _, _, _, .nil, .nil, .nil => .nil
  | _, _, _, _, .cons r rs, .cons d ds, .cons v vs => .cons ⟨⟨_, v, r⟩, Dp.reads I _ _ _ d v⟩ (each_of I rs ds vs)
theorem each_back {H : Hp} {K : PySem.W.Frag} {mg : Str → Option Value} {ρ : List Addr} : ∀ {us : List Value} {ps : List (T × PyData)}, W.EachIs (fun u (p : T × PyData) => ∃ v, RelV v u ∧ RT K mg ρ H p.1 v) us ps → ∃ vs, Vals vs us ∧ RTs K mg ρ H (ps.map (·.1)) vs
  | _, _, .nil => ⟨[], .nil, .nil⟩
  | _, _, .cons ⟨v, r, q⟩ t => by
    obtain ⟨vs, a, b⟩ := each_back t
    exact ⟨v :: vs, .cons r a, .cons q b⟩
theorem DpAll.length {K : PySem.W.Frag} {H : Hp} : ∀ {vs : List V} {ds : List PyData}, DpAll K H vs ds → vs.length = ds.length
  | _, _, .nil => rfl
  | _, _, .cons _ r => congrArg (· + 1) (DpAll.length r)
theorem zip_snd {α β : Type} : ∀ {xs : List α} {ys : List β}, xs.length = ys.length → (xs.zip ys).map (·.2) = ys
  | [], [], _ => rfl
  | x :: xs, y :: ys, h => by
    rw [List.zip_cons_cons, List.map_cons, zip_snd (by simpa using h)]
theorem cr_sortedT (hu : X.A.units + 100 < cLine) {pins : List (Addr × Obj)} {s : Shared} {σ : L2.St} {H : Hp} {Q : VK} {ρ : List Addr} {h h' : Hh} {x t : T} {v : V} {us : List Value} {xs ys : List T} (I : Inv X pins σ H s) (r : Vals [v] us) (g : G X.K X.mg ρ H h) (rx : RT X.K X.mg ρ H x v)
    (e1 : seqOf h x = some xs) (e2 : sortT h xs = some ys) (e3 : newL h ys = .ok t h') (k : Kn X.K X.mg ρ H h' t Q) : wpAny (model X.prog X.w) X.A (call (.builtin "sorted") us) (EP X pins σ Q) X.xe s := by
  obtain ⟨a, vs, rfl, hs, rs⟩ := g.seqOf rx e1
  unfold sortT at e2
  split at e2
  · rename_i ds ed
    split at e2
    · rename_i hc
      cases e2
      obtain ⟨hl, rfl, rfl⟩ := newL_ok e3
      obtain ⟨al, so, dep⟩ := sortable_ok hc.1
      have D := g.dats rs ed
      have hlen : xs.length = ds.length := rs.length.trans (DpAll.length D)
      have hzip : (xs.zip ds).map (·.2) = ds := zip_snd hlen
      rw [ref1 r rfl]
      -- the object itself
      obtain ⟨o, n, its, ty, hT, ho, hcl, hdt, rv⟩ : ∃ o n its ty, (ty = "list" ∨ ty = "tuple") ∧ s.heap.get? a = some o ∧ o.cls = .type ty ∧ o.data = .seq its.toArray n ∧ Vals vs its := by
        rcases hs with hs | hs
        · obtain ⟨its, rv, pl, _⟩ := I.list hs
          obtain ⟨o, n, h1, h2, h3⟩ := pl_obj pl
          exact ⟨o, n, its, "list", .inl rfl, h1, h2, h3, rv⟩
        · obtain ⟨its, rv, ⟨o, h1, h2, n, h3⟩, _⟩ := I.tuple hs
          exact ⟨o, n, its, "tuple", .inr rfl, h1, h2, h3, rv⟩
      refine sorted_seq (R := fun u (p : T × PyData) => ∃ v, RelV v u ∧ RT X.K X.mg ρ H p.1 v) (enc := fun p : T × PyData => p.2) hT ho hcl hdt (each_of I rs D rv) (by rw [hzip]; exact al) (by rw [hzip]; exact so) ?_ ?_ ?_
      · rw [List.length_zip, ← hlen, Nat.min_self]
        exact line_le hc.2
      · intro b hb
        have := dep b.2 (by rw [← hzip]; exact List.mem_map_of_mem hb)
        omega
      · intro h1 out h2 ep k1 ho2 eo k2 he
        obtain ⟨ws, rw', rt⟩ := each_back eo
        have I1 : Inv X pins σ H { s with heap := h1 } := I.kept (t' := s.toks) k1
        have hf : H h1.objs.size = none := I1.hok.fresh (Nat.le_refl _)
        refine ⟨.ref h1.objs.size, upd H h1.objs.size (.lst ws), I1.laid (t' := s.toks) k2 (Nat.le_refl _) ⟨?_, out, ep, rw', he⟩, rfl, k.lst g rt hf⟩
        rw [rw'.length, ho2, List.length_zip, ← hlen, Nat.min_self]
        exact line_le hc.2
    · cases e2
  · cases e2

/-! ### repr -/
mutual
theorem Dp.noDict {K : PySem.W.Frag} {H : Hp} : ∀ (d : PyData) (v : V), Dp K H v d → d.hasDict = false
  | .none, _, _ => by simp only [PyData.hasDict]
  | .bool _, _, _ => by simp only [PyData.hasDict]
  | .int _, _, _ => by simp only [PyData.hasDict]
  | .str _, _, _ => by simp only [PyData.hasDict]
  | .list ds, _, h => by
    cases h with
    | lst _ r =>
      simp only [PyData.hasDict]
      exact Dp.noDicts ds _ r
  | .tuple ds, _, h => by
    cases h with
    | tup _ r =>
      simp only [PyData.hasDict]
      exact Dp.noDicts ds _ r
  | .dict _, _, h => by cases h
theorem Dp.noDicts {K : PySem.W.Frag} {H : Hp} : ∀ (ds : List PyData) (vs : List V), DpAll K H vs ds → PyData.hasDictAll ds = false
  | [], _, _ => by simp only [PyData.hasDictAll]
  | d :: ds, _, h => by
    cases h with
    | cons a b =>
      simp only [PyData.hasDictAll]
      rw [Dp.noDict d _ a, Dp.noDicts ds _ b]
      rfl
end
theorem cr_repr (hu : X.A.units + 100 < cLine) (hg : X.A.guards = some []) {pins : List (Addr × Obj)} {s : Shared} {σ : L2.St} {H : Hp} {Q : VK} {v : V} {us : List Value} {d : PyData} (I : Inv X pins σ H s) (r : Vals [v] us) (D : Dp X.K H v d)
    (h1 : d.shown.length ≤ 16777216) (h2 : d.showable = true) (h3 : d.depth ≤ 60) (q : Q (.str d.shown) H) : wpAny (model X.prog X.w) X.A (call (.builtin "repr") us) (EP X pins σ Q) X.xe s := by
  cases r with
  | cons r rr =>
    cases rr
    have hl := line_le h1
    cases D with
    | non =>
      cases r
      exact PySem.P.repr_of_none ⟨.str _, H, I.tok _, ⟨_, rfl⟩, q⟩
    | bl b =>
      cases r
      exact PySem.P.repr_of_bool ⟨.str _, H, I.tok _, ⟨_, rfl⟩, q⟩
    | int i =>
      obtain ⟨t, rfl⟩ := r
      exact PySem.P.repr_of_int (by simpa [PyData.showable] using h2) ⟨.str _, H, I.tok _, ⟨_, rfl⟩, q⟩
    | str x =>
      obtain ⟨t, rfl⟩ := r
      exact PySem.P.repr_of_str (hsz := hl) ⟨.str _, H, I.tok _, ⟨_, rfl⟩, q⟩
    | lst a b =>
      cases r
      obtain ⟨as, rd⟩ := Dp.reads I _ _ _ (.lst a b) rfl
      exact repr_of_reads' rd h2 (fun z => by rw [Dp.noDict _ _ (Dp.lst a b)] at z; cases z) hg (by omega) (fun _ _ e => e) (fun hh u tk k => ⟨.str _, H, I.kept k, ⟨_, rfl⟩, q⟩) hl
    | tup a b =>
      cases r
      obtain ⟨as, rd⟩ := Dp.reads I _ _ _ (.tup a b) rfl
      exact repr_of_reads' rd h2 (fun z => by rw [Dp.noDict _ _ (Dp.tup a b)] at z; cases z) hg (by omega) (fun _ _ e => e) (fun hh u tk k => ⟨.str _, H, I.kept k, ⟨_, rfl⟩, q⟩) hl

/-! ### all built-ins -/
def rC (K : PySem.W.Frag) (mg : Str → Option Value) (f : List T → Hh → R T) : List V → Hp → VK → Prop := fun vs H Q =>
  ∃ ρ h ts t h', G K mg ρ H h ∧ RTs K mg ρ H ts vs ∧ f ts h = .ok t h' ∧ Kn K mg ρ H h' t Q
theorem bind_some {α β : Type} {o : Option α} {f : α → Option β} {b : β} (e : o.bind f = some b) : ∃ a, o = some a ∧ f a = some b := by
  cases o with
  | none => cases e
  | some a => exact ⟨a, rfl, e⟩
theorem cr_blt (b : Blt) (hc : X.calm = true) (hu : X.A.units + 100 < cLine) (hg : X.A.guards = some []) : CallR X b.f (rC X.K X.mg (bltT b)) := by
  intro pins s σ H vs us Q I r hq
  obtain ⟨ρ, h, ts, t, h', g, rs, e, k⟩ := hq
  unfold bltT at e
  split at e
  · -- len
    rename_i x
    obtain ⟨v, rfl, rx⟩ := rs.one
    split at e
    · cases e
      obtain ⟨a, ws, rfl, s1, q1⟩ := rx.tupAt
      exact call_len_seq pins s σ H _ us Q I r ⟨a, ws, rfl, .inr s1, by rw [← q1.length]; exact k.now g (.int _)⟩
    · cases e
      obtain ⟨a, ws, rfl, s1, q1⟩ := g.lsT rx rfl
      exact call_len_seq pins s σ H _ us Q I r ⟨a, ws, rfl, .inl s1, by rw [← q1.length]; exact k.now g (.int _)⟩
    · split at e
      · rename_i hl
        cases e
        cases rx
        exact call_len_str pins s σ H _ us Q I r ⟨_, rfl, line_le hl, k.now g (.int _)⟩
      · cases e
    · rename_i n
      cases rx with
      | ref p1 =>
        split at e
        · rename_i xs e1
          cases e
          obtain ⟨ws, m1, q1⟩ := g.mutL p1 (xs := xs) (by unfold mutL; rw [e1])
          exact call_len_seq pins s σ H _ us Q I r ⟨_, ws, rfl, .inl (SqL.of m1), by rw [← q1.length]; exact k.now g (.int _)⟩
        · rename_i kvs e1
          cases e
          obtain ⟨qs, m1, q1⟩ := g.dK p1 e1
          rw [ref1 r rfl]
          refine d_len I (Rd.of m1) fun tk s' I' => ⟨.int _, H, I', ⟨tk, rfl⟩, ?_⟩
          rw [← q1.length]
          exact k.now g (.int _)
        · cases e
    · cases e
  · -- list
    rename_i x
    obtain ⟨v, rfl, rx⟩ := rs.one
    split at e
    · rename_i xs ex
      obtain ⟨hl, rfl, rfl⟩ := newL_ok e
      obtain ⟨a, ws, rfl, s1, q1⟩ := g.seqOf rx ex
      exact call_list_of pins s σ H _ us Q I r ⟨a, ws, rfl, s1, fun p hp => k.lst g q1 hp⟩
    · cases e
  · -- tuple
    rename_i x
    obtain ⟨v, rfl, rx⟩ := rs.one
    split at e
    · cases e
      obtain ⟨a, ws, rfl, s1, q1⟩ := rx.tupAt
      exact call_tuple_of pins s σ H _ us Q I r ⟨a, ws, rfl, .inr ⟨s1, k.now g rx⟩⟩
    · split at e
      · rename_i xs ex
        cases e
        obtain ⟨a, ws, rfl, s1, q1⟩ := g.lsT rx ex
        exact call_tuple_of pins s σ H _ us Q I r ⟨a, ws, rfl, .inl ⟨s1, fun p hp => k.tup g q1 hp⟩⟩
      · cases e
  · -- sorted
    rename_i x
    obtain ⟨v, rfl, rx⟩ := rs.one
    split at e
    · rename_i xs e1
      split at e
      · rename_i ys e2
        exact cr_sortedT hu I r g rx e1 e2 e k
      · cases e
    · cases e
  · -- all
    rename_i x
    obtain ⟨v, rfl, rx⟩ := rs.one
    split at e
    · rename_i bs e1
      cases e
      obtain ⟨xs, e2, e3⟩ := bind_some e1
      obtain ⟨a, ws, rfl, s1, q1⟩ := g.lsT rx e2
      rw [q1.of_bools e3] at s1
      exact cr_all hc pins s σ H _ us Q I r ⟨a, bs, rfl, s1, k.now g (.bl _)⟩
    · cases e
  · -- any
    rename_i x
    obtain ⟨v, rfl, rx⟩ := rs.one
    split at e
    · rename_i bs e1
      cases e
      obtain ⟨xs, e2, e3⟩ := bind_some e1
      obtain ⟨a, ws, rfl, s1, q1⟩ := g.lsT rx e2
      rw [q1.of_bools e3] at s1
      exact cr_any hc pins s σ H _ us Q I r ⟨a, bs, rfl, s1, k.now g (.bl _)⟩
    · cases e
  · -- sum
    rename_i x
    obtain ⟨v, rfl, rx⟩ := rs.one
    split at e
    · rename_i ns e1
      cases e
      obtain ⟨xs, e2, e3⟩ := bind_some e1
      obtain ⟨a, ws, rfl, s1, q1⟩ := g.lsT rx e2
      rw [q1.of_ints e3] at s1
      exact cr_sum hc pins s σ H _ us Q I r ⟨a, ns, rfl, s1, k.now g (.int _)⟩
    · cases e
  · -- max
    rename_i x
    obtain ⟨v, rfl, rx⟩ := rs.one
    split at e
    · rename_i m e0
      cases e
      obtain ⟨ns, e1, e4⟩ := bind_some e0
      obtain ⟨xs, e2, e3⟩ := bind_some e1
      obtain ⟨a, ws, rfl, s1, q1⟩ := g.lsT rx e2
      rw [q1.of_ints e3] at s1
      obtain ⟨hp, hm⟩ := maxI_ok e4
      exact cr_max hc pins s σ H _ us Q I r ⟨a, ns, rfl, s1, hp, fun m' hm' hy => by rw [hm m' hm' hy]; exact k.now g (.int _)⟩
    · cases e
  · -- min
    rename_i x
    obtain ⟨v, rfl, rx⟩ := rs.one
    split at e
    · rename_i m e0
      cases e
      obtain ⟨ns, e1, e4⟩ := bind_some e0
      obtain ⟨xs, e2, e3⟩ := bind_some e1
      obtain ⟨a, ws, rfl, s1, q1⟩ := g.lsT rx e2
      rw [q1.of_ints e3] at s1
      obtain ⟨hp, hm⟩ := minI_ok e4
      exact cr_min hc pins s σ H _ us Q I r ⟨a, ns, rfl, s1, hp, fun m' hm' hy => by rw [hm m' hm' hy]; exact k.now g (.int _)⟩
    · cases e
  · cases e
    obtain ⟨v, w, rfl, rx, ry⟩ := rs.two
    cases rx
    cases ry
    exact call_max2 hc pins s σ H _ us Q I r ⟨_, _, rfl, k.now g (.int _)⟩
  · cases e
    obtain ⟨v, w, rfl, rx, ry⟩ := rs.two
    cases rx
    cases ry
    exact call_min2 hc pins s σ H _ us Q I r ⟨_, _, rfl, k.now g (.int _)⟩
  · cases e
    obtain ⟨v, rfl, rx⟩ := rs.one
    cases rx
    exact call_int1 pins s σ H _ us Q I r (.inl ⟨_, rfl, k.now g (.int _)⟩)
  · -- repr
    rename_i x
    obtain ⟨v, rfl, rx⟩ := rs.one
    split at e
    · rename_i d ed
      split at e
      · rename_i hz
        cases e
        rw [Bool.and_eq_true, Bool.and_eq_true, decide_eq_true_eq, decide_eq_true_eq] at hz
        exact cr_repr hu hg I r (g.dat rx ed) hz.1.1 hz.1.2 hz.2 (k.now g (.str _))
      · cases e
    · cases e
  · -- str
    obtain ⟨v, rfl, rx⟩ := rs.one
    cases rx
    split at e
    · rename_i hl
      cases e
      exact call_str_int pins s σ H _ us Q I r ⟨_, rfl, hl, k.now g (.str _)⟩
    · cases e
  · cases e
    obtain ⟨v, rfl, rx⟩ := rs.one
    cases rx
    exact call_abs pins s σ H _ us Q I r ⟨_, rfl, k.now g (.int _)⟩
  · cases e
end
end MP

set_option Elab.async false
set_option linter.all false
set_option maxRecDepth 100000
/-! MiniPy, part E: readings, calls -/
namespace MP
open PySem PySem.Spec PyProof.Rows L2

structure RS (K : PySem.W.Frag) (mg : Str → Option Value) (ρ : List Addr) (H : Hp) (ls : Ls) (σ : L2.St) : Prop where
  len : ls.length = σ.length
  get : ∀ (i : Nat) (t : T), ls[i]? = some (some t) → ∃ v, σ[i]? = some (some v) ∧ RT K mg ρ H t v
section
variable {K : PySem.W.Frag} {mg : Str → Option Value} {ρ ρ' : List Addr} {H H' : Hp} {h h' : Hh} {ls : Ls} {σ : L2.St}
theorem RS.ext (e : Ext ρ H ρ' H') (r : RS K mg ρ H ls σ) : RS K mg ρ' H' ls σ := ⟨r.len, fun i t z => by
  obtain ⟨v, h1, h2⟩ := r.get i t z
  exact ⟨v, h1, h2.ext e⟩⟩
theorem RS.set (r : RS K mg ρ H ls σ) {i : Nat} {t : T} {v : V} (hi : i < ls.length) (rv : RT K mg ρ H t v) : RS K mg ρ H (ls.set i (some t)) (σ.set i (some v)) := ⟨by rw [List.length_set, List.length_set, r.len], fun j u z => by
  by_cases hj : i = j
  · subst hj
    rw [List.getElem?_set_self hi] at z
    cases z
    exact ⟨v, List.getElem?_set_self (by rw [← r.len]; exact hi), rv⟩
  · rw [List.getElem?_set_ne hj] at z
    rw [List.getElem?_set_ne hj]
    exact r.get j u z⟩
theorem RS.wipe (r : RS K mg ρ H ls σ) : ∀ vs : List Nat, RS K mg ρ H (wipeL ls vs) (wipe σ vs)
  | [] => r
  | v :: vs => by
    have ih := r.wipe vs
    refine ⟨?_, fun j u z => ?_⟩
    · show ((wipeL ls vs).set v none).length = ((L2.wipe σ vs).set v none).length
      rw [List.length_set, List.length_set, ih.len]
    · have z' : ((wipeL ls vs).set v none)[j]? = some (some u) := z
      show ∃ w, ((L2.wipe σ vs).set v none)[j]? = some (some w) ∧ _
      by_cases hj : v = j
      · subst hj
        by_cases hv : v < (wipeL ls vs).length
        · rw [List.getElem?_set_self hv] at z'
          cases z'
        · rw [List.getElem?_eq_none (by simpa using hv)] at z'
          cases z'
      · rw [List.getElem?_set_ne hj] at z'
        rw [List.getElem?_set_ne hj]
        exact ih.get j u z'
end

/-- the reading of an expression by the evaluator -/
def rd (K : PySem.W.Frag) (mg : Str → Option Value) (m : Ls → Hh → R T) : TE := fun σ H Q =>
  ∃ ρ ls h t h', G K mg ρ H h ∧ RS K mg ρ H ls σ ∧ m ls h = .ok t h' ∧ Kn K mg ρ H h' t Q
def rdT (K : PySem.W.Frag) (mg : Str → Option Value) (m : Ls → Hh → R T) : TT := fun σ H Q =>
  ∃ ρ ls h b h', G K mg ρ H h ∧ RS K mg ρ H ls σ ∧ m ls h = .ok (.bl b) h' ∧ ∀ ρ' H', Ext ρ H ρ' H' → G K mg ρ' H' h' → Q b H'
def rdA (K : PySem.W.Frag) (mg : Str → Option Value) (m : Ls → Hh → R (List T)) : TA := fun σ H Q =>
  ∃ ρ ls h ts h', G K mg ρ H h ∧ RS K mg ρ H ls σ ∧ m ls h = .ok ts h' ∧ ∀ ρ' H' vs, Ext ρ H ρ' H' → G K mg ρ' H' h' → RTs K mg ρ' H' ts vs → Q vs H'
def rdO (K : PySem.W.Frag) (mg : Str → Option Value) (m : Ls → Hh → R (Option Int)) : TO := fun σ H Q =>
  ∃ ρ ls h o h', G K mg ρ H h ∧ RS K mg ρ H ls σ ∧ m ls h = .ok o h' ∧ ∀ ρ' H', Ext ρ H ρ' H' → G K mg ρ' H' h' → Q o H'
/-- nothing but these slots changed -/
def Only1 (vars : List Nat) (σ σ' : L2.St) : Prop := ∀ vs : List Nat, (∀ i ∈ vars, i ∈ vs) → wipe σ' vs = wipe σ vs
def rdG (K : PySem.W.Frag) (mg : Str → Option Value) (vars : List Nat) (m : T → Ls → Hh → R Ls) : TG := fun v σ H Q =>
  ∃ ρ ls h t l' h', G K mg ρ H h ∧ RS K mg ρ H ls σ ∧ RT K mg ρ H t v ∧ m t ls h = .ok l' h' ∧ ∀ ρ' H' σ', Ext ρ H ρ' H' → G K mg ρ' H' h' → RS K mg ρ' H' l' σ' → Only1 vars σ σ' → Q σ' H'
def rdGs (K : PySem.W.Frag) (mg : Str → Option Value) (vars : List Nat) (m : List T → Ls → Hh → R Ls) : TGs := fun vs σ H Q =>
  ∃ ρ ls h ts l' h', G K mg ρ H h ∧ RS K mg ρ H ls σ ∧ RTs K mg ρ H ts vs ∧ m ts ls h = .ok l' h' ∧ ∀ ρ' H' σ', Ext ρ H ρ' H' → G K mg ρ' H' h' → RS K mg ρ' H' l' σ' → Only1 vars σ σ' → Q σ' H'
def endF (K : PySem.W.Frag) (mg : Str → Option Value) (ρ : List Addr) (H : Hp) (D : Ends) (l : Ls) : Fl → Prop
  | .nx => ∀ σ, RS K mg ρ H l σ → D.nx σ H
  | .bk => ∀ σ, RS K mg ρ H l σ → D.bk σ H
  | .ct => ∀ σ, RS K mg ρ H l σ → D.ct σ H
  | .rt t => ∀ v, RT K mg ρ H t v → D.rt v H
def rdS (K : PySem.W.Frag) (mg : Str → Option Value) (m : Ls → Hh → R (Fl × Ls)) : TS := fun D σ H =>
  ∃ ρ ls h f l' h', G K mg ρ H h ∧ RS K mg ρ H ls σ ∧ m ls h = .ok (f, l') h' ∧ ∀ ρ' H', Ext ρ H ρ' H' → G K mg ρ' H' h' → endF K mg ρ' H' D l' f
theorem wipe_len (σ : L2.St) : ∀ vs : List Nat, (wipe σ vs).length = σ.length := wipe_length σ
theorem wipe_get {σ : L2.St} {i : Nat} : ∀ vs : List Nat, (wipe σ vs)[i]? = if i ∈ vs then (if i < σ.length then some none else none) else σ[i]?
  | [] => by simp [wipe]
  | v :: vs => by
    have ih := wipe_get (σ := σ) (i := i) vs
    unfold wipe
    by_cases hv : v = i
    · subst hv
      rw [if_pos List.mem_cons_self]
      by_cases hl : v < σ.length
      · rw [List.getElem?_set_self (by rw [wipe_length]; exact hl), if_pos hl]
      · rw [List.getElem?_eq_none (by rw [List.length_set, wipe_length]; omega), if_neg hl]
    · rw [List.getElem?_set_ne hv, ih]
      by_cases hm : i ∈ vs
      · rw [if_pos hm, if_pos (List.mem_cons_of_mem _ hm)]
      · rw [if_neg hm, if_neg fun z => (List.mem_cons.mp z).elim (fun e => hv e.symm) hm]
theorem wipe_ext {σ σ' : L2.St} {vs : List Nat} (h : ∀ i : Nat, (wipe σ' vs)[i]? = (wipe σ vs)[i]?) : wipe σ' vs = wipe σ vs := List.ext_getElem? h
theorem wipe_set {σ : L2.St} {vs : List Nat} {i : Nat} {x : Option V} (h : i ∈ vs) : wipe (σ.set i x) vs = wipe σ vs := wipe_ext fun j => by
  rw [wipe_get, wipe_get, List.length_set]
  by_cases hj : j ∈ vs
  · rw [if_pos hj, if_pos hj]
  · rw [if_neg hj, if_neg hj, List.getElem?_set_ne fun e : i = j => hj (by rw [← e]; exact h)]
theorem wipe_wipe (σ : L2.St) (vs : List Nat) : wipe (wipe σ vs) vs = wipe σ vs := wipe_ext fun j => by
  rw [wipe_get, wipe_get, wipe_length]
  by_cases hj : j ∈ vs
  · rw [if_pos hj, if_pos hj]
  · rw [if_neg hj, if_neg hj]
theorem Only1.refl {vars : List Nat} {σ : L2.St} : Only1 vars σ σ := fun _ _ => rfl
section
variable {X : Cx}
theorem _root_.L2.PE.imp {e : Expr} {t t' : TE} (h : PE X e t) (f : ∀ σ H Q, t' σ H Q → t σ H Q) : PE X e t' := ⟨fun pins s σ H Q I q => h.run pins s σ H Q I (f σ H Q q)⟩
theorem _root_.L2.PT.imp {e : Expr} {t t' : TT} (h : PT X e t) (f : ∀ σ H Q, t' σ H Q → t σ H Q) : PT X e t' := ⟨fun pins s σ H Q I q => h.run pins s σ H Q I (f σ H Q q)⟩
theorem _root_.L2.PW.imp {e : Expr} {t t' : TT} (h : PW X e t) (f : ∀ σ H Q, t' σ H Q → t σ H Q) : PW X e t' := ⟨fun w pins s σ H Q I q => h.run w pins s σ H Q I (f σ H Q q)⟩
theorem _root_.L2.PA.imp {e : List Expr} {t t' : TA} (h : PA X e t) (f : ∀ σ H Q, t' σ H Q → t σ H Q) : PA X e t' := ⟨fun p pins s σ H Q I q => h.run p pins s σ H Q I (f σ H Q q)⟩
theorem _root_.L2.PO.imp {e : Option Expr} {t t' : TO} (h : PO X e t) (f : ∀ σ H Q, t' σ H Q → t σ H Q) : PO X e t' := ⟨fun pins s σ H Q I q => h.run pins s σ H Q I (f σ H Q q)⟩
theorem _root_.L2.PS.imp {e : Stmt} {t t' : TS} (h : PS X e t) (f : ∀ D σ H, t' D σ H → t D σ H) : PS X e t' := ⟨fun pins s σ H D I q => h.run pins s σ H D I (f D σ H q)⟩
theorem _root_.L2.PSs.imp {e : List Stmt} {t t' : TS} (h : PSs X e t) (f : ∀ D σ H, t' D σ H → t D σ H) : PSs X e t' := ⟨fun pins s σ H D I q => h.run pins s σ H D I (f D σ H q)⟩
theorem _root_.L2.PG.imp {e : Expr} {t t' : TG} (h : PG X e t) (f : ∀ v σ H Q, t' v σ H Q → t v σ H Q) : PG X e t' := ⟨fun pins s σ H v u Q I r q => h.run pins s σ H v u Q I r (f v σ H Q q)⟩
theorem _root_.L2.PGs.imp {e : List Expr} {t t' : TGs} (h : PGs X e t) (f : ∀ v σ H Q, t' v σ H Q → t v σ H Q) : PGs X e t' := ⟨fun pins s σ H v u Q I r q => h.run pins s σ H v u Q I r (f v σ H Q q)⟩
theorem _root_.L2.PI.imp {tg e : Expr} {t t' : TI} (h : PI X tg e t) (f : ∀ σ H Q, t' σ H Q → t σ H Q) : PI X tg e t' := ⟨fun pins s σ H Q I q => h.run pins s σ H Q I (f σ H Q q)⟩

/-! ### calls of the text's own defs, no exception under way in a repr -/
structure FnG (P : Program) (w : World) (K : PySem.W.Frag) (mg : Str → Option Value) (base : Heap) (k : Nat) (f : Addr) (fd : FuncData) (ps : List Str) (sp : Sp) : Prop where
  len : ∀ vs H Q E, sp vs H Q E → vs.length = ps.length
  run : ∀ (A : Around) (fr : List Env) (s : Shared) (H : Hp) (args : Args) (us : List Value) (vs : List V) (Q : VK), A.guards = some [] → Room k A → Env0 P w K mg base A fr s H → BindsTo s fd args (ps.zip us) → Vals vs us → sp vs H Q E0 →
    codeAny (model P w) A (.call (.ref f) args) (CR CX0 fr P w H s Q E0) s
theorem run_g {k : Nat} {f : Addr} {fd : FuncData} {ps : List Str} {sp : Sp} {pins : List (Addr × Obj)} {σ : L2.St} {H : Hp} {s : Shared} {Q : VK} {us ws : List Value} {vs : List V} {kw : List (Str × Value)} (F : FnG X.prog X.w X.K X.mg X.base k f fd ps sp)
    (hg : X.A.guards = some []) (hr : Room k X.A) (I : Inv X pins σ H s) (hb : BindsTo s fd ⟨us, kw⟩ (ps.zip ws)) (r : Vals vs ws) (q : sp vs H Q E0) : wpAny (model X.prog X.w) X.A (call (.ref f) us kw) (EP X pins σ Q) X.xe s := by
  have F1 := F.run X.A X.stack s H ⟨us, kw⟩ ws vs Q hg hr I.env0 hb r q
  refine wpAny_call (codeAny_mono F1 fun z s1 hz => ?_)
  match z, hz with
  | .ok (.ret _), hz => exact I.after hz
  | .ok .next, hz => exact hz.elim
  | .ok .brk, hz => exact hz.elim
  | .ok .cont, hz => exact hz.elim
  | .error _, hz => exact hz.elim
/-- a def's promise by the evaluator -/
def spf (K : PySem.W.Frag) (mg : Str → Option Value) (np : Nat) (m : List T → Hh → R T) : Sp := fun vs H Q _ =>
  vs.length = np ∧ ∃ ρ h ts t h', G K mg ρ H h ∧ RTs K mg ρ H ts vs ∧ m ts h = .ok t h' ∧ Kn K mg ρ H h' t Q
/-- how keywords come to the parameters -/
def KBd (K : PySem.W.Frag) (fd : FuncData) (ps : List String) (n : Nat) (ks : List String) : Prop :=
  ∀ (s : Shared) (us ws zs : List Value), K.In s.heap → ordK ps n us ks ws = some zs → BindsTo s fd ⟨us, (ks.map Str.ofString).zip ws⟩ ((ps.map Str.ofString).zip zs)
/-- raw: the scope as it is written; sc: the scope that runs -/
structure XO (D : Tbl) (n : Nat) (X : Cx) (raw sc : Scope) (N : List Str) : Prop where
  esc : X.env.scope = sc
  eN : X.N = N
  nd : N.Nodup
  calm : X.calm = true
  room : Room n X.A
  gd : X.A.guards = some []
  kd : sc.kind = .function
  rw_ : ∀ x k, k ≠ NameKind.free → raw.names.lookup x = some k → sc.names.lookup x = some k
  fn : ∀ x, raw.names.lookup x = some .cell → X.fn x = true
  pas : PassesOwn (model X.prog X.w) X.A X.env X.xe
  fns : ∀ f fd, D.fn f = some fd → ∃ fa fdata, FnG X.prog X.w X.K X.mg X.base n fa fdata (fd.ps.map Str.ofString) (spf X.K X.mg fd.ps.length (callN D n f)) ∧ X.mg (Str.ofString f) = some (.ref fa) ∧ PySem.W.keepIn X.K (.ref fa) = true ∧
    Binds X.K fdata (fd.ps.map Str.ofString) [] ∧ ∀ m ks, (f, m, ks) ∈ D.kw → KBd X.K fdata fd.ps m ks
  gls : ∀ x t, D.gl x = some t → ∃ u v, X.mg (Str.ofString x) = some u ∧ RelV v u ∧ ∀ ρ H, RT X.K X.mg ρ H t v
  blt : ∀ x, x ∈ ["len", "list", "tuple", "sorted", "all", "any", "sum", "max", "min", "int", "repr", "str", "abs", "bool", "isinstance", "range", "enumerate", "zip", "set", "reversed", "dict"] → X.mg (Str.ofString x) = none
theorem XO.hu {D : Tbl} {n : Nat} {raw sc : Scope} {N : List Str} (o : XO D n X raw sc N) : X.A.units + 100 < cLine := by
  have := o.room.un
  omega
end
end MP

set_option Elab.async false
set_option linter.all false
set_option maxRecDepth 100000
/-! MiniPy, part F: the check that a compact text is the written one -/
namespace MP
open PySem PySem.Spec PyProof.Rows L2

def noStar : Expr → Bool
  | .Starred .. => false
  | _ => true
def noSet : Expr → Bool
  | .Set .. => false
  | _ => true
def noSlice : Expr → Bool
  | .Slice .. => false
  | _ => true
def noComp : Expr → Bool
  | .ListComp .. => false
  | .SetComp .. => false
  | .DictComp .. => false
  | _ => true
def noCall0 : Expr → Bool
  | .Call _ [] [] _ => false
  | _ => true
def isListE : Expr → Bool
  | .List .. => true
  | _ => false
def isTupE : Expr → Bool
  | .Tuple .. => true
  | _ => false
theorem star_cons {e : Expr} {es : List Expr} {env : Env} (h : noStar e = true) : starEach (e :: es) env = (false, eval e env) :: starEach es env := by
  cases e <;> first | rfl | cases h
theorem star_any (pos : Pos) (env : Env) : ∀ es : List Expr, es.all noStar = true → (backTo pos (starEach es env)).any (·.1) = false
  | [], _ => rfl
  | e :: es, h => by
    rw [List.all_cons, Bool.and_eq_true] at h
    rw [star_cons h.1]
    show (false || (backTo pos (starEach es env)).any (·.1)) = false
    rw [star_any pos env es h.2]
    rfl
theorem star_all (pos : Pos) (env : Env) : ∀ es : List Expr, es.all noStar = true → (backTo pos (starEach es env)).all (fun x => !x.1) = true
  | [], _ => rfl
  | e :: es, h => by
    rw [List.all_cons, Bool.and_eq_true] at h
    rw [star_cons h.1]
    show (!false && (backTo pos (starEach es env)).all (fun x => !x.1)) = true
    rw [star_all pos env es h.2]
    rfl
theorem few_of {pos : Pos} {env : Env} {es : List Expr} (h : es.all noStar = true) (hl : es.length < 20) :
    ((backTo pos (starEach es env)).all (fun x => !x.1) && (backToKw pos (keywordEach [] env)).all (fun x => x.1.isSome) && decide (es.length + ([] : List Keyword).length + (if ([] : List Keyword).isEmpty then 0 else 1) < 30)) = true := by
  rw [star_all pos env es h]
  have : decide (es.length + ([] : List Keyword).length + (if ([] : List Keyword).isEmpty then 0 else 1) < 30) = true := decide_eq_true (by simp; omega)
  rw [this]
  rfl
theorem base_of {o : Expr} {m : Str} {env : Env} (h : noCall0 o = true) : attributeBase o m env (eval o env) = eval o env := by
  unfold attributeBase
  split
  · rename_i id p pos
    cases h
  · rfl
theorem set_of {e : Expr} {env : Env} (h : noSet e = true) : ∀ x, foldedSetIterable e env x = pure x := by
  intro x
  cases e <;> first | rfl | cases h
theorem beh_of {op : CmpOp} {e : Expr} (h : noSet e = true) : behindInMarks op e = false := by
  cases e <;> first | rfl | cases h
theorem swap_of {e : Expr} {t : Option Expr} {l : Nat} {env : Env} (h : noComp e = true) : swapsWith e t l env = pure false := by
  cases e <;> first | rfl | cases h
theorem plain_of {e : Expr} (h : noSlice e = true) : PlainIx e := by
  intro o i
  cases e <;> first | rfl | cases h

def visB (sc : Scope) (x : Str) : Bool := match sc.names.lookup x with
  | some .local => true
  | some .cell => true
  | some .free => true
  | _ => false
def gloB (sc : Scope) (x : Str) : Bool := match sc.names.lookup x with
  | some .globalImplicit => true
  | _ => false
def locB (sc : Scope) (x : Str) : Bool := match sc.names.lookup x with
  | some .local => true
  | _ => false
def celB (sc : Scope) (x : Str) : Bool := match sc.names.lookup x with
  | some .cell => true
  | _ => false
def okName (x : Str) : Bool := !decide (x = "__debug__") && !decide (x = "__classdict__") && !decide (x = "__name__")
theorem visB_ok {sc : Scope} {x : Str} (h : visB sc x = true) : Vis sc x := by
  unfold visB at h
  split at h
  · rename_i e; exact .inl e
  · rename_i e; exact .inr (.inl e)
  · rename_i e; exact .inr (.inr e)
  · cases h
theorem gloB_ok {sc : Scope} {x : Str} (h : gloB sc x = true) : sc.names.lookup x = some .globalImplicit := by
  unfold gloB at h
  split at h
  · rename_i e; exact e
  · cases h
theorem locB_ok {sc : Scope} {x : Str} (h : locB sc x = true) : sc.names.lookup x = some .local := by
  unfold locB at h
  split at h
  · rename_i e; exact e
  · cases h
theorem celB_ok {sc : Scope} {x : Str} (h : celB sc x = true) : sc.names.lookup x = some .cell := by
  unfold celB at h
  split at h
  · rename_i e; exact e
  · cases h
theorem okName_ok {x : Str} (h : okName x = true) : (x == ("__debug__" : Str)) = false ∧ (x == ("__classdict__" : Str)) = false ∧ x ≠ "__name__" := by
  unfold okName at h
  simp only [Bool.and_eq_true, Bool.not_eq_true', decide_eq_false_iff_not] at h
  exact ⟨beq_eq_false_iff_ne.mpr h.1.1, beq_eq_false_iff_ne.mpr h.1.2, h.2⟩

def Blt.x : Blt → String
  | .len => "len"
  | .list => "list"
  | .tuple => "tuple"
  | .sorted => "sorted"
  | .all => "all"
  | .any => "any"
  | .sum => "sum"
  | .max => "max"
  | .min => "min"
  | .int => "int"
  | .repr => "repr"
  | .str => "str"
  | .abs => "abs"
  | .bool => "bool"
def Mth.x : Mth → String
  | .append => "append"
  | .extend => "extend"
  | .pop => "pop"
  | .get => "get"
  | .index => "index"
/-- the types that isinstance asks for here -/
def tyNames : List String := ["int", "bool", "str", "list", "tuple", "dict"]
/-- what can be a test -/
def CE.tst : CE → Bool
  | .ite .. => false
  | _ => true
def isNameE (s : String) (sc : Scope) : Expr → Bool
  | .Name x _ => decide (x = Str.ofString s) && gloB sc x && okName x
  | _ => false

mutual
def chkE (D : Tbl) (N : List Str) : CE → (raw sc : Scope) → Expr → Bool
  | .var i, raw, sc, e => match e with
    | .Name x _ => decide (N[i]? = some x) && visB sc x && okName x
    | _ => false
  | .int i, raw, sc, e => match e with
    | .Constant (.int j) _ _ => decide (i = j)
    | _ => false
  | .bl b, raw, sc, e => match e with
    | .Constant (.bool c) _ _ => decide (b = c)
    | _ => false
  | .non, raw, sc, e => match e with
    | .Constant .none _ _ => true
    | _ => false
  | .str x, raw, sc, e => match e with
    | .Constant (.str y) _ _ => decide (Str.ofString x = y)
    | _ => false
  | .glob x, raw, sc, e => match e with
    | .Name y _ => decide (Str.ofString x = y) && gloB sc y && okName y && (D.gl x).isSome
    | _ => false
  | .bin op a b, raw, sc, e => match e with
    | .BinOp a' o b' _ => decide (op.o = o) && chkE D N a raw sc a' && chkE D N b raw sc b'
    | _ => false
  | .neg a, raw, sc, e => match e with
    | .UnaryOp .USub a' _ => chkE D N a raw sc a'
    | _ => false
  | .inv a, raw, sc, e => match e with
    | .UnaryOp .Invert a' _ => chkE D N a raw sc a'
    | _ => false
  | .not a, raw, sc, e => match e with
    | .UnaryOp .Not a' _ => a.tst && chkE D N a raw sc a'
    | _ => false
  | .cmp op a b, raw, sc, e => match e with
    | .Compare a' [o] [b'] _ => decide (op.o = o) && noSet b' && chkE D N a raw sc a' && chkE D N b raw sc b'
    | _ => false
  | .chn op op2 a b c, raw, sc, e => match e with
    | .Compare a' [o, o2] [b', c'] _ => decide (op.o = o) && decide (op2.o = o2) && noSet c' && chkE D N a raw sc a' && chkE D N b raw sc b' && chkE D N c raw sc c'
    | _ => false
  | .isN a, raw, sc, e => match e with
    | .Compare a' [.Is] [.Constant .none _ _] _ => chkE D N a raw sc a'
    | _ => false
  | .isnN a, raw, sc, e => match e with
    | .Compare a' [.IsNot] [.Constant .none _ _] _ => chkE D N a raw sc a'
    | _ => false
  | .and es, raw, sc, e => match e with
    | .BoolOp .And es' _ => chkT D N es raw sc es'
    | _ => false
  | .or es, raw, sc, e => match e with
    | .BoolOp .Or es' _ => chkT D N es raw sc es'
    | _ => false
  | .ite c a b, raw, sc, e => match e with
    | .IfExp c' a' b' _ => c.tst && chkE D N c raw sc c' && chkE D N a raw sc a' && chkE D N b raw sc b'
    | _ => false
  | .tup es, raw, sc, e => match e with
    | .Tuple es' _ _ => chkEs D N es raw sc es'
    | _ => false
  | .lst es, raw, sc, e => match e with
    | .List es' _ => chkEs D N es raw sc es'
    | _ => false
  | .dic ps, raw, sc, e => match e with
    | .Dict ks vs _ => chkKV D N ps raw sc ks vs && decide (ks.length ≤ 15)
    | _ => false
  | .idx a i, raw, sc, e => match e with
    | .Subscript a' i' _ => noSlice i' && chkE D N a raw sc a' && chkE D N i raw sc i'
    | _ => false
  | .slc a lo hi, raw, sc, e => match e with
    | .Subscript a' (.Slice l h none _) _ => chkE D N a raw sc a' && chkO D N lo raw sc l && chkO D N hi raw sc h
    | _ => false
  | .rev a, raw, sc, e => match e with
    | .Subscript a' (.Slice none none (some (.UnaryOp .USub (.Constant (.int 1) _ _) _)) _) _ => chkE D N a raw sc a'
    | _ => false
  | .call f as, raw, sc, e => match e with
    | .Call (.Name x _) es [] _ => decide (x = Str.ofString f) && gloB sc x && okName x && (D.fn f).isSome && chkEs D N as raw sc es
    | _ => false
  | .callK f as ks vs, raw, sc, e => match e with
    | .Call (.Name x _) es kws _ => decide (x = Str.ofString f) && gloB sc x && okName x && (D.fn f).isSome && decide ((f, es.length, ks) ∈ D.kw) && chkEs D N as raw sc es && chkKW D N vs raw sc ks kws
    | _ => false
  | .blt b as, raw, sc, e => match e with
    | .Call (.Name x _) (a' :: es) [] _ => decide (x = Str.ofString b.x) && gloB sc x && okName x && chkEs D N as raw sc (a' :: es)
    | _ => false
  | .sset a, raw, sc, e => match e with
    | .Call (.Name x _) [.Call (.Name y _) [a'] [] _] [] _ => decide (x = "sorted") && gloB sc x && okName x && decide (y = "set") && gloB sc y && okName y && noStar a' && chkE D N a raw sc a'
    | _ => false
  | .isiT a ts, raw, sc, e => match e with
    | .Call (.Name x _) [a', t'] [] _ => decide (x = "isinstance") && gloB sc x && okName x && (noStar a' && decide (ts.length ≤ 100)) && ts.all (tyNames.contains ·) && chkE D N a raw sc a' &&
      (match ts, t' with
        | [t], .Name y _ => decide (y = Str.ofString t) && gloB sc y && okName y
        | ts, .Tuple es _ _ => decide (2 ≤ ts.length) && decide (ts.length = es.length) && (ts.zip es).all fun p => isNameE p.1 sc p.2
        | _, _ => false)
    | _ => false
  | .mth m o as, raw, sc, e => match e with
    | .Call (.Attribute o' x ap) es [] cp => decide (x = Str.ofString m.x) && noCall0 o' && (ap.endLine == cp.line) && decide (es.length < 20) && chkE D N o raw sc o' && chkEs D N as raw sc es
    | _ => false
  | .rngL it, raw, sc, e => match e with
    | .Call (.Name x _) [r] [] _ => decide (x = "list") && gloB sc x && okName x && noStar r && chkR D N it raw sc r
    | _ => false
  | .rngT it, raw, sc, e => match e with
    | .Call (.Name x _) [r] [] _ => decide (x = "tuple") && gloB sc x && okName x && noStar r && chkR D N it raw sc r
    | _ => false
  | .comp own tg it c elt, raw, sc, e => match e with
    | .ListComp elt' [⟨tg', it', ifs, 0⟩] scope _ => blkC N sc scope (own.map fun i => (N.getD i "", i)) && own.all (fun i => decide (i < N.length)) && tg.vars.all (own.contains ·) && noSet it' && chkI D N it raw sc it' (isTupE tg') && chkG D N tg scope (relS scope sc) tg' && chkC D N c scope (relS scope sc) ifs &&
        chkE D N elt scope (relS scope sc) elt'
    | _ => false
def chkEs (D : Tbl) (N : List Str) : CEs → (raw sc : Scope) → List Expr → Bool
  | .nil, raw, sc, es => match es with
    | [] => true
    | _ => false
  | .cons c cs, raw, sc, es => match es with
    | e :: r => noStar e && chkE D N c raw sc e && chkEs D N cs raw sc r
    | [] => false
/-- operands of and, or -/
def chkT (D : Tbl) (N : List Str) : CEs → (raw sc : Scope) → List Expr → Bool
  | .nil, raw, sc, es => false
  | .cons c cs, raw, sc, es => match cs, es with
    | .nil, [e] => c.tst && chkE D N c raw sc e
    | cs, e :: e2 :: r => c.tst && chkE D N c raw sc e && chkT D N cs raw sc (e2 :: r)
    | _, _ => false
def chkKV (D : Tbl) (N : List Str) : CKs → (raw sc : Scope) → List (Option Expr) → List Expr → Bool
  | .nil, raw, sc, ks, vs => match ks, vs with
    | [], [] => true
    | _, _ => false
  | .cons k v r, raw, sc, ks, vs => match ks, vs with
    | some k' :: ks, v' :: vs => chkE D N k raw sc k' && chkE D N v raw sc v' && chkKV D N r raw sc ks vs
    | _, _ => false
def chkKW (D : Tbl) (N : List Str) : CEs → (raw sc : Scope) → List String → List Keyword → Bool
  | .nil, raw, sc, ks, kws => match ks, kws with
    | [], [] => true
    | _, _ => false
  | .cons c cs, raw, sc, ks, kws => match ks, kws with
    | k :: ks, ⟨nm, v, _⟩ :: kws => decide (nm = some (Str.ofString k)) && chkE D N c raw sc v && chkKW D N cs raw sc ks kws
    | _, _ => false
def chkO (D : Tbl) (N : List Str) : CO → (raw sc : Scope) → Option Expr → Bool
  | .no, raw, sc, o => match o with
    | none => true
    | _ => false
  | .so c, raw, sc, o => match o with
    | some e => chkE D N c raw sc e
    | _ => false
def chkC (D : Tbl) (N : List Str) : CO → (raw sc : Scope) → List Expr → Bool
  | .no, raw, sc, o => match o with
    | [] => true
    | _ => false
  | .so c, raw, sc, o => match o with
    | [e] => c.tst && chkE D N c raw sc e
    | _ => false
/-- a range's call -/
def chkR (D : Tbl) (N : List Str) : CI → (raw sc : Scope) → Expr → Bool
  | .rng1 a, raw, sc, e => match e with
    | .Call (.Name x _) [a'] [] _ => decide (x = "range") && gloB sc x && okName x && noStar a' && chkE D N a raw sc a'
    | _ => false
  | .rng2 a b, raw, sc, e => match e with
    | .Call (.Name x _) [a', b'] [] _ => decide (x = "range") && gloB sc x && okName x && noStar a' && noStar b' && chkE D N a raw sc a' && chkE D N b raw sc b'
    | _ => false
  | _, _, _, _ => false
def chkI (D : Tbl) (N : List Str) : CI → (raw sc : Scope) → Expr → Bool → Bool
  | .val a, raw, sc, e, _ => chkE D N a raw sc e
  | .rng1 a, raw, sc, e, _ => match e with
    | .Call (.Name x _) [a'] [] _ => decide (x = "range") && gloB sc x && okName x && noStar a' && chkE D N a raw sc a'
    | _ => false
  | .rng2 a b, raw, sc, e, _ => match e with
    | .Call (.Name x _) [a', b'] [] _ => decide (x = "range") && gloB sc x && okName x && noStar a' && noStar b' && chkE D N a raw sc a' && chkE D N b raw sc b'
    | _ => false
  | .rng3 a b c, raw, sc, e, _ => match e with
    | .Call (.Name x _) [a', b', c'] [] _ => decide (x = "range") && gloB sc x && okName x && noStar a' && noStar b' && noStar c' && chkE D N a raw sc a' && chkE D N b raw sc b' && chkE D N c raw sc c'
    | _ => false
  | .enum a, raw, sc, e, tp => tp && match e with
    | .Call (.Name x _) [a'] [] _ => decide (x = "enumerate") && gloB sc x && okName x && noStar a' && chkE D N a raw sc a'
    | _ => false
  | .zip a b, raw, sc, e, tp => tp && match e with
    | .Call (.Name x _) [a', b'] [] _ => decide (x = "zip") && gloB sc x && okName x && noStar a' && noStar b' && chkE D N a raw sc a' && chkE D N b raw sc b'
    | _ => false
def chkG (D : Tbl) (N : List Str) : Tg → (raw sc : Scope) → Expr → Bool
  | .var i, raw, sc, e => match e with
    | .Name x _ => decide (N[i]? = some x) && (locB raw x || celB raw x) && okName x
    | _ => false
  | .tup ts, raw, sc, e => match e with
    | .Tuple es _ _ => chkGs D N ts raw sc es
    | _ => false
  | .sub o i, raw, sc, e => match e with
    | .Subscript o' i' _ => noSlice i' && chkE D N o raw sc o' && chkE D N i raw sc i'
    | _ => false
def chkGs (D : Tbl) (N : List Str) : Tgs → (raw sc : Scope) → List Expr → Bool
  | .nil, raw, sc, es => match es with
    | [] => true
    | _ => false
  | .cons t ts, raw, sc, es => match es with
    | e :: r => noStar e && chkG D N t raw sc e && chkGs D N ts raw sc r
    | _ => false
end
end MP

set_option Elab.async false
set_option linter.all false
set_option maxRecDepth 100000
/-! MiniPy, part G: each form of expression, its parts given -/
namespace MP
open PySem PySem.Spec PyProof.Rows L2
theorem Kn.mono {K : PySem.W.Frag} {mg : Str → Option Value} {ρ ρ1 : List Addr} {H H1 : Hp} {h' : Hh} {t : T} {Q : VK} (k : Kn K mg ρ H h' t Q) (e : Ext ρ H ρ1 H1) : Kn K mg ρ1 H1 h' t Q :=
  fun ρ' H' v E G r => k ρ' H' v (e.trans E) G r
theorem RT.isNon {K : PySem.W.Frag} {mg : Str → Option Value} {ρ : List Addr} {H : Hp} {t : T} {v : V} (r : RT K mg ρ H t v) : decide (v = .non) = t.isNone := by
  cases r <;> simp [T.isNone]
section
variable {D : Tbl} {n : Nat} {X : Cx} {raw sc : Scope} {N : List Str}
abbrev M1 (D : Tbl) (n : Nat) (X : Cx) (c : CE) : TE := rd X.K X.mg (evE D (callN D n) c)
abbrev M1T (D : Tbl) (n : Nat) (X : Cx) (c : CE) : TT := rdT X.K X.mg (evE D (callN D n) c)
theorem rdT_rd {K : PySem.W.Frag} {mg : Str → Option Value} {m : Ls → Hh → R T} {σ : L2.St} {H : Hp} {Q : Bool → Hp → Prop} (q : rdT K mg m σ H Q) : rd K mg m σ H (fun x H1 => ∃ c, x = .bl c ∧ Q c H1) := by
  obtain ⟨ρ, ls, h, b, h', g, rs, e, k⟩ := q
  exact ⟨ρ, ls, h, .bl b, h', g, rs, e, fun ρ' H' v E G r => by cases r; exact ⟨b, rfl, k ρ' H' E G⟩⟩
theorem pt_of {c : CE} {e : Expr} (p : PE X e (M1 D n X c)) (he : ∀ whole, isTrue e X.env whole = (do let v ← whole; standAt e.pos; holding [v] (truthy v))) : PT X e (M1T D n X c) :=
  (pt_val p he).imp fun σ H Q q => rdT_rd q
theorem px_var {i : Nat} {x : Str} {pos : Pos} (o : XO D n X raw sc N) (hi : N[i]? = some x) (hv : visB sc x = true) (hk : okName x = true) : PE X (.Name x pos) (M1 D n X (.var i)) := by
  have hN : X.N[i]? = some x := by rw [o.eN]; exact hi
  have hV : Vis X.env.scope x := by rw [o.esc]; exact visB_ok hv
  refine (pe_var hN hV (okName_ok hk).1 (okName_ok hk).2.1).imp fun σ H Q q => ?_
  obtain ⟨ρ, ls, h, t, h', g, rs, e, k⟩ := q
  unfold evE at e
  split at e
  · rename_i t' et
    cases e
    obtain ⟨v, h1, h2⟩ := rs.get i _ et
    exact ⟨v, h1, k.now g h2⟩
  · cases e
theorem px_int {i : Int} {j : Nat} {pos : Pos} : PE X (.Constant (.int i) j pos) (M1 D n X (.int i)) :=
  pe_int.imp fun σ H Q ⟨ρ, ls, h, t, h', g, rs, e, k⟩ => by cases e; exact k.now g (.int _)
theorem px_bl {i : Bool} {j : Nat} {pos : Pos} : PE X (.Constant (.bool i) j pos) (M1 D n X (.bl i)) :=
  pe_bl.imp fun σ H Q ⟨ρ, ls, h, t, h', g, rs, e, k⟩ => by cases e; exact k.now g (.bl _)
theorem px_non {j : Nat} {pos : Pos} : PE X (.Constant .none j pos) (M1 D n X .non) :=
  pe_non.imp fun σ H Q ⟨ρ, ls, h, t, h', g, rs, e, k⟩ => by cases e; exact k.now g .non
theorem px_str {x : String} {j : Nat} {pos : Pos} : PE X (.Constant (.str (Str.ofString x)) j pos) (M1 D n X (.str x)) :=
  pe_str.imp fun σ H Q ⟨ρ, ls, h, t, h', g, rs, e, k⟩ => by cases e; exact k.now g (.str _)
theorem px_glob {x : String} {pos : Pos} (o : XO D n X raw sc N) (hg : gloB sc (Str.ofString x) = true) (hk : okName (Str.ofString x) = true) : PE X (.Name (Str.ofString x) pos) (M1 D n X (.glob x)) := by
  cases et : D.gl x with
  | none =>
    refine ⟨fun pins s σ H Q I q => ?_⟩
    obtain ⟨ρ, ls, h, t, h', g, rs, e, k⟩ := q
    unfold evE at e
    rw [et] at e
    cases e
  | some t0 =>
    obtain ⟨u, v, hm, r, rt⟩ := o.gls x t0 et
    have hG : Gl X (Str.ofString x) := by show X.env.scope.names.lookup _ = _; rw [o.esc]; exact gloB_ok hg
    refine (pe_glob hG hm r (okName_ok hk).1).imp fun σ H Q q => ?_
    obtain ⟨ρ, ls, h, t, h', g, rs, e, k⟩ := q
    unfold evE at e
    rw [et] at e
    cases e
    exact k.now g (rt ρ H)
theorem px_bin {op : Bop} {a b : CE} {a' b' : Expr} {pos : Pos} (pa : PE X a' (M1 D n X a)) (pb : PE X b' (M1 D n X b)) : PE X (.BinOp a' op.o b' pos) (M1 D n X (.bin op a b)) :=
  (pe_op (op_bin op) pa pb).imp fun σ H Q ⟨ρ, ls, h, t, h', g, rs, e, k⟩ => by
    unfold evE at e
    obtain ⟨x, h1, e1, e⟩ := R.bd_eq_ok e
    obtain ⟨y, h2, e2, e⟩ := R.bd_eq_ok e
    exact ⟨ρ, ls, h, x, h1, g, rs, e1, fun ρ1 H1 v1 E1 G1 r1 => ⟨ρ1, ls, h1, y, h2, G1, rs.ext E1, e2, fun ρ2 H2 v2 E2 G2 r2 => ⟨ρ2, h2, x, y, t, h', G2, r1.ext E2, r2, e, k.mono (E1.trans E2)⟩⟩⟩
theorem cmp_rd {op : Cop} {a b : CE} {σ : L2.St} {H : Hp} {Q : VK} (q : M1 D n X (.cmp op a b) σ H Q) : tOp (rOp X.K X.mg (cmpT op)) (M1 D n X a) (M1 D n X b) σ H Q := by
  obtain ⟨ρ, ls, h, t, h', g, rs, e, k⟩ := q
  unfold evE at e
  obtain ⟨x, h1, e1, e⟩ := R.bd_eq_ok e
  obtain ⟨y, h2, e2, e⟩ := R.bd_eq_ok e
  exact ⟨ρ, ls, h, x, h1, g, rs, e1, fun ρ1 H1 v1 E1 G1 r1 => ⟨ρ1, ls, h1, y, h2, G1, rs.ext E1, e2, fun ρ2 H2 v2 E2 G2 r2 => ⟨ρ2, h2, x, y, t, h', G2, r1.ext E2, r2, e, k.mono (E1.trans E2)⟩⟩⟩
theorem px_cmp {op : Cop} {a b : CE} {a' b' : Expr} {pos : Pos} (o : XO D n X raw sc N) (hs : noSet b' = true) (pa : PE X a' (M1 D n X a)) (pb : PE X b' (M1 D n X b)) :
    PE X (.Compare a' [op.o] [b'] pos) (M1 D n X (.cmp op a b)) ∧ PT X (.Compare a' [op.o] [b'] pos) (M1T D n X (.cmp op a b)) := by
  have hu : X.A.units + 65 < cLine := by have := o.hu; omega
  exact ⟨(pe_cmpR (op_cmp op hu) pa pb (beh_of hs)).imp fun σ H Q q => cmp_rd q, (pt_cmpR (op_cmp op hu) pa pb (beh_of hs)).imp fun σ H Q q => cmp_rd (rdT_rd q)⟩
theorem chn_rd {op op' : Cop} {a b c : CE} {σ : L2.St} {H : Hp} {Q : VK} (q : M1 D n X (.chn op op' a b c) σ H Q) : tChain (rOp X.K X.mg (cmpT op)) (rOp X.K X.mg (cmpT op')) (M1 D n X a) (M1 D n X b) (M1 D n X c) σ H Q := by
  obtain ⟨ρ, ls, h, t, h', g, rs, e, k⟩ := q
  unfold evE at e
  obtain ⟨x, h1, e1, e⟩ := R.bd_eq_ok e
  obtain ⟨y, h2, e2, e⟩ := R.bd_eq_ok e
  obtain ⟨z, h3, e3, e⟩ := R.bd_eq_ok e
  refine ⟨ρ, ls, h, x, h1, g, rs, e1, fun ρ1 H1 v1 E1 G1 r1 => ⟨ρ1, ls, h1, y, h2, G1, rs.ext E1, e2, fun ρ2 H2 v2 E2 G2 r2 => ⟨ρ2, h2, x, y, z, h3, G2, r1.ext E2, r2, e3, fun ρ3 H3 v3 E3 G3 r3 => ?_⟩⟩⟩
  split at e
  · cases r3
    obtain ⟨u, h4, e4, e⟩ := R.bd_eq_ok e
    refine ⟨true, rfl, ?_⟩
    rw [if_pos rfl]
    exact ⟨ρ3, ls, h3, u, h4, G3, rs.ext (E1.trans (E2.trans E3)), e4, fun ρ4 H4 v4 E4 G4 r4 => ⟨ρ4, h4, y, u, t, h', G4, r2.ext (E3.trans E4), r4, e, k.mono (E1.trans (E2.trans (E3.trans E4)))⟩⟩
  · cases r3
    cases e
    refine ⟨false, rfl, ?_⟩
    rw [if_neg (by decide)]
    exact k _ _ _ (E1.trans (E2.trans E3)) G3 (.bl false)
  · cases e
theorem px_chn {op op' : Cop} {a b c : CE} {a' b' c' : Expr} {pos : Pos} (o : XO D n X raw sc N) (hs : noSet c' = true) (pa : PE X a' (M1 D n X a)) (pb : PE X b' (M1 D n X b)) (pc : PE X c' (M1 D n X c)) :
    PE X (.Compare a' [op.o, op'.o] [b', c'] pos) (M1 D n X (.chn op op' a b c)) ∧ PT X (.Compare a' [op.o, op'.o] [b', c'] pos) (M1T D n X (.chn op op' a b c)) := by
  have hu : X.A.units + 65 < cLine := by have := o.hu; omega
  exact ⟨(pe_chain (op_cmp op hu) (op_cmp op' hu) pa pb pc (beh_of hs)).imp fun σ H Q q => chn_rd q, (pt_chain (op_cmp op hu) (op_cmp op' hu) pa pb pc (beh_of hs)).imp fun σ H Q q => chn_rd (rdT_rd q)⟩
theorem isN_rd {a : CE} {σ : L2.St} {H : Hp} {Q : VK} (q : M1 D n X (.isN a) σ H Q) : tIsN (M1 D n X a) σ H Q := by
  obtain ⟨ρ, ls, h, t, h', g, rs, e, k⟩ := q
  unfold evE at e
  obtain ⟨x, h1, e1, e⟩ := R.bd_eq_ok e
  cases e
  refine ⟨ρ, ls, h, x, _, g, rs, e1, fun ρ1 H1 v1 E1 G1 r1 => ?_⟩
  show Q (.bl (decide (v1 = .non))) H1
  rw [r1.isNon]
  exact k _ _ _ E1 G1 (.bl _)
theorem isnN_rd {a : CE} {σ : L2.St} {H : Hp} {Q : VK} (q : M1 D n X (.isnN a) σ H Q) : tNotN (M1 D n X a) σ H Q := by
  obtain ⟨ρ, ls, h, t, h', g, rs, e, k⟩ := q
  unfold evE at e
  obtain ⟨x, h1, e1, e⟩ := R.bd_eq_ok e
  cases e
  refine ⟨ρ, ls, h, x, _, g, rs, e1, fun ρ1 H1 v1 E1 G1 r1 => ?_⟩
  show Q (.bl (!decide (v1 = .non))) H1
  rw [r1.isNon]
  exact k _ _ _ E1 G1 (.bl _)
theorem px_isN {a : CE} {a' : Expr} {j : Nat} {pos pos' : Pos} (pa : PE X a' (M1 D n X a)) : PE X (.Compare a' [.Is] [.Constant .none j pos'] pos) (M1 D n X (.isN a)) ∧ PT X (.Compare a' [.Is] [.Constant .none j pos'] pos) (M1T D n X (.isN a)) :=
  ⟨(pe_cmp (pc_isN pa) rfl).imp fun σ H Q q => isN_rd q, (pt_cmp (pc_isN pa) rfl).imp fun σ H Q q => isN_rd (rdT_rd q)⟩
theorem px_isnN {a : CE} {a' : Expr} {j : Nat} {pos pos' : Pos} (pa : PE X a' (M1 D n X a)) : PE X (.Compare a' [.IsNot] [.Constant .none j pos'] pos) (M1 D n X (.isnN a)) ∧ PT X (.Compare a' [.IsNot] [.Constant .none j pos'] pos) (M1T D n X (.isnN a)) :=
  ⟨(pe_cmp (pc_notN pa) rfl).imp fun σ H Q q => isnN_rd q, (pt_cmp (pc_notN pa) rfl).imp fun σ H Q q => isnN_rd (rdT_rd q)⟩
theorem px_neg {a : CE} {a' : Expr} {pos : Pos} (pa : PE X a' (M1 D n X a)) : PE X (.UnaryOp .USub a' pos) (M1 D n X (.neg a)) :=
  (pe_un un_neg pa).imp fun σ H Q ⟨ρ, ls, h, t, h', g, rs, e, k⟩ => by
    unfold evE at e
    obtain ⟨x, h1, e1, e⟩ := R.bd_eq_ok e
    split at e
    · cases e
      exact ⟨ρ, ls, h, _, _, g, rs, e1, fun ρ1 H1 v1 E1 G1 r1 => by cases r1; exact ⟨_, rfl, k _ _ _ E1 G1 (.int _)⟩⟩
    · cases e
theorem px_inv {a : CE} {a' : Expr} {pos : Pos} (pa : PE X a' (M1 D n X a)) : PE X (.UnaryOp .Invert a' pos) (M1 D n X (.inv a)) :=
  (pe_un un_inv pa).imp fun σ H Q ⟨ρ, ls, h, t, h', g, rs, e, k⟩ => by
    unfold evE at e
    obtain ⟨x, h1, e1, e⟩ := R.bd_eq_ok e
    split at e
    · cases e
      exact ⟨ρ, ls, h, _, _, g, rs, e1, fun ρ1 H1 v1 E1 G1 r1 => by cases r1; exact ⟨_, rfl, k _ _ _ E1 G1 (.int _)⟩⟩
    · cases e
theorem px_not {a : CE} {a' : Expr} {pos : Pos} (pa : PE X a' (M1 D n X a)) (ta : PT X a' (M1T D n X a)) : PE X (.UnaryOp .Not a' pos) (M1 D n X (.not a)) ∧ PT X (.UnaryOp .Not a' pos) (M1T D n X (.not a)) := by
  refine ⟨(pe_not pa).imp fun σ H Q ⟨ρ, ls, h, t, h', g, rs, e, k⟩ => ?_, (pt_not ta).imp fun σ H Q ⟨ρ, ls, h, b, h', g, rs, e, k⟩ => ?_⟩
  · unfold evE at e
    obtain ⟨x, h1, e1, e⟩ := R.bd_eq_ok e
    split at e
    · cases e
      exact ⟨ρ, ls, h, _, _, g, rs, e1, fun ρ1 H1 v1 E1 G1 r1 => by cases r1; exact ⟨_, rfl, k _ _ _ E1 G1 (.bl _)⟩⟩
    · cases e
  · unfold evE at e
    obtain ⟨x, h1, e1, e⟩ := R.bd_eq_ok e
    split at e
    · cases e
      exact ⟨ρ, ls, h, _, _, g, rs, e1, fun ρ1 H1 E1 G1 => k _ _ E1 G1⟩
    · cases e
theorem px_ite {c a b : CE} {c' a' b' : Expr} {pos : Pos} (tc : PT X c' (M1T D n X c)) (pa : PE X a' (M1 D n X a)) (pb : PE X b' (M1 D n X b)) : PE X (.IfExp c' a' b' pos) (M1 D n X (.ite c a b)) :=
  (pe_ifExp tc pa pb).imp fun σ H Q ⟨ρ, ls, h, t, h', g, rs, e, k⟩ => by
    unfold evE at e
    obtain ⟨x, h1, e1, e⟩ := R.bd_eq_ok e
    split at e
    · exact ⟨ρ, ls, h, true, h1, g, rs, e1, fun ρ1 H1 E1 G1 => iteT ⟨ρ1, ls, h1, t, h', G1, rs.ext E1, e, k.mono E1⟩⟩
    · exact ⟨ρ, ls, h, false, h1, g, rs, e1, fun ρ1 H1 E1 G1 => iteF ⟨ρ1, ls, h1, t, h', G1, rs.ext E1, e, k.mono E1⟩⟩
    · cases e
/-! ### argument lists -/
abbrev MA (D : Tbl) (n : Nat) (X : Cx) (cs : CEs) : TA := rdA X.K X.mg (evEs D (callN D n) cs)
theorem px_nil : PA X [] (MA D n X .nil) := pa_nil.imp fun σ H Q ⟨ρ, ls, h, t, h', g, rs, e, k⟩ => by
  unfold evEs at e
  cases e
  exact k _ _ _ Ext.refl g .nil
theorem px_cons {c : CE} {cs : CEs} {e : Expr} {es : List Expr} (hs : noStar e = true) (p : PE X e (M1 D n X c)) (q : PA X es (MA D n X cs)) : PA X (e :: es) (MA D n X (.cons c cs)) :=
  (pa_cons p q (star_cons hs)).imp fun σ H Q ⟨ρ, ls, h, t, h', g, rs, e, k⟩ => by
    unfold evEs at e
    obtain ⟨x, h1, e1, e⟩ := R.bd_eq_ok e
    obtain ⟨xs, h2, e2, e⟩ := R.bd_eq_ok e
    cases e
    exact ⟨ρ, ls, h, x, h1, g, rs, e1, fun ρ1 H1 v1 E1 G1 r1 => ⟨ρ1, ls, h1, xs, _, G1, rs.ext E1, e2, fun ρ2 H2 v2 E2 G2 r2 => k _ _ _ (E1.trans E2) G2 (.cons (r1.ext E2) r2)⟩⟩
theorem px_tup {cs : CEs} {es : List Expr} {j : Nat} {pos : Pos} (p : PA X es (MA D n X cs)) : PE X (.Tuple es j pos) (M1 D n X (.tup cs)) :=
  (pe_tup p).imp fun σ H Q ⟨ρ, ls, h, t, h', g, rs, e, k⟩ => by
    unfold evE at e
    obtain ⟨xs, h1, e1, e⟩ := R.bd_eq_ok e
    obtain ⟨hl, rfl, rfl⟩ := newT_ok e
    exact ⟨ρ, ls, h, xs, _, g, rs, e1, fun ρ1 H1 vs E1 G1 r1 => ⟨line_le (by rw [← r1.length]; exact hl), fun p hp => (k.mono E1).tup G1 r1 hp⟩⟩
theorem px_lst {cs : CEs} {es : List Expr} {pos : Pos} (p : PA X es (MA D n X cs)) : PE X (.List es pos) (M1 D n X (.lst cs)) :=
  (pe_lst p).imp fun σ H Q ⟨ρ, ls, h, t, h', g, rs, e, k⟩ => by
    unfold evE at e
    obtain ⟨xs, h1, e1, e⟩ := R.bd_eq_ok e
    obtain ⟨hl, rfl, rfl⟩ := newL_ok e
    exact ⟨ρ, ls, h, xs, _, g, rs, e1, fun ρ1 H1 vs E1 G1 r1 => ⟨line_le (by rw [← r1.length]; exact hl), fun p hp => (k.mono E1).lst G1 r1 hp⟩⟩
theorem ix_road {K : PySem.W.Frag} {mg : Str → Option Value} {ρ2 : List Addr} {H2 : Hp} {h2 h' : Hh} {x y t : T} {v1 v2 : V} {Q : VK} (G2 : G K mg ρ2 H2 h2) (r1' : RT K mg ρ2 H2 x v1) (r2 : RT K mg ρ2 H2 y v2) (e : idxT x y h2 = .ok t h') (k' : Kn K mg ρ2 H2 h' t Q)
    (hd : ¬ ∃ m kvs, x = .ref m ∧ h2[m]? = some (.dK kvs)) : rIx K v1 v2 H2 Q := by
    unfold idxT at e
    split at e
    · rename_i xs kk
      split at e
      · rename_i v ev
        cases e
        obtain ⟨a0, vs, rfl, s1, q1⟩ := r1'.tupAt
        cases r2
        obtain ⟨w, hw, rw'⟩ := q1.at ev
        exact .inr (.inl ⟨a0, vs, kk, w, rfl, rfl, s1, hw, k'.now G2 rw'⟩)
      · cases e
    · rename_i m y'
      split at e
      · rename_i xs kk em
        split at e
        · rename_i v ev
          cases e
          cases r1' with
          | ref p1 =>
            cases r2
            obtain ⟨vs, m1, q1⟩ := G2.mutL p1 (xs := xs) (by unfold mutL; rw [em])
            obtain ⟨w, hw, rw'⟩ := q1.at ev
            exact .inl ⟨_, vs, kk, w, rfl, rfl, SqL.of m1, hw, k'.now G2 rw'⟩
        · cases e
      · rename_i kvs em
        exact absurd ⟨_, _, rfl, em⟩ hd
      · cases e
    · rename_i xs kk
      split at e
      · rename_i v ev
        cases e
        obtain ⟨a0, vs, rfl, s1, q1⟩ := G2.lsT r1' rfl
        cases r2
        obtain ⟨w, hw, rw'⟩ := q1.at ev
        exact .inl ⟨a0, vs, kk, w, rfl, rfl, s1, hw, k'.now G2 rw'⟩
      · cases e
    · rename_i z kk
      split at e
      · rename_i c ec
        split at e
        · rename_i hl
          cases e
          cases r1'
          cases r2
          exact .inr (.inr ⟨z, kk, c, rfl, rfl, line_le hl, ec, k'.now G2 (.str _)⟩)
        · cases e
      · cases e
    · cases e
/-! ### items, slices -/
theorem px_idx {a i : CE} {a' i' : Expr} {pos : Pos} (o : XO D n X raw sc N) (hs : noSlice i' = true) (pa : PE X a' (M1 D n X a)) (pb : PE X i' (M1 D n X i)) : PE X (.Subscript a' i' pos) (M1 D n X (.idx a i)) := by
  refine ⟨fun pins s σ H Q I q => ?_⟩
  obtain ⟨ρ, ls, h, t, h', g, rs, e, k⟩ := q
  unfold evE at e
  obtain ⟨x, h1, e1, e⟩ := R.bd_eq_ok e
  obtain ⟨y, h2, e2, e⟩ := R.bd_eq_ok e
  have hu : X.A.units + 1 < cLine := by have := o.hu; omega
  by_cases hd : ∃ m kvs, x = .ref m ∧ h2[m]? = some (.dK kvs)
  · obtain ⟨m, kvs, rfl, em⟩ := hd
    refine (pe_dget (pos := pos) hu pa pb (plain_of hs)).run pins s σ H Q I ⟨ρ, ls, h, _, h1, g, rs, e1, fun ρ1 H1 v1 E1 G1 r1 => ⟨ρ1, ls, h1, y, h2, G1, rs.ext E1, e2, fun ρ2 H2 v2 E2 G2 r2 => ?_⟩⟩
    have r1' := r1.ext E2
    unfold idxT at e
    simp only [em] at e
    cases r1' with
    | ref p1 =>
      split at e
      · rename_i kk ek
        split at e
        · rename_i tv el
          cases e
          obtain ⟨qs, m1, rk⟩ := G2.dK p1 em
          have ev := T.kt_ok ek r2
          subst ev
          obtain ⟨w, hw, rw'⟩ := (rk.look kk).1 _ el
          exact ⟨_, w, rfl, hw ▸ DGet.k m1, k _ _ _ (E1.trans E2) G2 rw'⟩
        · cases e
      · cases e
  · refine (pe_ix (pos := pos) ix_seq pa pb (plain_of hs)).run pins s σ H Q I ⟨ρ, ls, h, _, h1, g, rs, e1, fun ρ1 H1 v1 E1 G1 r1 => ⟨ρ1, ls, h1, y, h2, G1, rs.ext E1, e2, fun ρ2 H2 v2 E2 G2 r2 => ?_⟩⟩
    exact ix_road G2 (r1.ext E2) r2 e (k.mono (E1.trans E2)) hd
theorem px_no : PO X none (rdO X.K X.mg (evO D (callN D n) .no)) := po_none.imp fun σ H Q ⟨ρ, ls, h, t, h', g, rs, e, k⟩ => by
  unfold evO at e
  cases e
  exact k _ _ Ext.refl g
theorem px_so {c : CE} {e : Expr} (p : PE X e (M1 D n X c)) : PO X (some e) (rdO X.K X.mg (evO D (callN D n) (.so c))) := (po_some p).imp fun σ H Q ⟨ρ, ls, h, t, h', g, rs, e, k⟩ => by
  unfold evO at e
  obtain ⟨x, h1, e1, e⟩ := R.bd_eq_ok e
  split at e
  · cases e
    exact ⟨ρ, ls, h, _, _, g, rs, e1, fun ρ1 H1 v1 E1 G1 r1 => by cases r1; exact ⟨_, rfl, k _ _ E1 G1⟩⟩
  · cases e
theorem px_slc {a : CE} {lo hi : CO} {a' : Expr} {l u : Option Expr} {pos p2 : Pos} (pa : PE X a' (M1 D n X a)) (pl : PO X l (rdO X.K X.mg (evO D (callN D n) lo))) (pu : PO X u (rdO X.K X.mg (evO D (callN D n) hi))) :
    PE X (.Subscript a' (.Slice l u none p2) pos) (M1 D n X (.slc a lo hi)) := (pe_slice sl_all pa pl pu).imp fun σ H Q ⟨ρ, ls, h, t, h', g, rs, e, k⟩ => by
  unfold evE at e
  obtain ⟨x, h1, e1, e⟩ := R.bd_eq_ok e
  obtain ⟨y, h2, e2, e⟩ := R.bd_eq_ok e
  obtain ⟨z, h3, e3, e⟩ := R.bd_eq_ok e
  exact ⟨ρ, ls, h, x, h1, g, rs, e1, fun ρ1 H1 v1 E1 G1 r1 => ⟨ρ1, ls, h1, y, h2, G1, rs.ext E1, e2, fun ρ2 H2 E2 G2 => ⟨ρ2, ls, h2, z, h3, G2, rs.ext (E1.trans E2), e3, fun ρ3 H3 E3 G3 =>
    ⟨ρ3, h3, x, t, h', G3, r1.ext (E2.trans E3), e, k.mono (E1.trans (E2.trans E3))⟩⟩⟩⟩
theorem px_rev {a : CE} {a' : Expr} {j : Nat} {p1 p2 p3 pos : Pos} (pa : PE X a' (M1 D n X a)) : PE X (.Subscript a' (.Slice none none (some (.UnaryOp .USub (.Constant (.int 1) j p1) p2)) p3) pos) (M1 D n X (.rev a)) :=
  (pe_revL pa).imp fun σ H Q ⟨ρ, ls, h, t, h', g, rs, e, k⟩ => by
    unfold evE at e
    obtain ⟨x, h1, e1, e⟩ := R.bd_eq_ok e
    unfold revT at e
    split at e
    · rename_i xs ex
      obtain ⟨hl, rfl, rfl⟩ := newL_ok e
      refine ⟨ρ, ls, h, x, _, g, rs, e1, fun ρ1 H1 v1 E1 G1 r1 => ?_⟩
      obtain ⟨a0, vs, rfl, s1, q1⟩ := G1.lsT r1 ex
      exact ⟨a0, vs, rfl, s1, fun p hp => (k.mono E1).lst G1 q1.reverse hp⟩
    · cases e
end
end MP

set_option Elab.async false
set_option linter.all false
set_option maxRecDepth 100000
/-! MiniPy, part H: and, or, displays of dicts, calls, methods -/
namespace MP
open PySem PySem.Spec PyProof.Rows L2
section
variable {D : Tbl} {n : Nat} {X : Cx} {raw sc : Scope} {N : List Str}
/-! ### and, or -/
abbrev MAnd (D : Tbl) (n : Nat) (X : Cx) (cs : CEs) : TE := rd X.K X.mg (evAnd D (callN D n) cs)
abbrev MAndT (D : Tbl) (n : Nat) (X : Cx) (cs : CEs) : TT := rdT X.K X.mg (evAnd D (callN D n) cs)
abbrev MOr (D : Tbl) (n : Nat) (X : Cx) (cs : CEs) : TE := rd X.K X.mg (evOr D (callN D n) cs)
abbrev MOrT (D : Tbl) (n : Nat) (X : Cx) (cs : CEs) : TT := rdT X.K X.mg (evOr D (callN D n) cs)
theorem evAnd_one {C : String → List T → Hh → R T} {c : CE} {ls : Ls} {h : Hh} : evAnd D C (.cons c .nil) ls h = (evE D C c ls h).bd fun x h1 => .ok x h1 := by
  simp only [evAnd]
theorem evOr_one {C : String → List T → Hh → R T} {c : CE} {ls : Ls} {h : Hh} : evOr D C (.cons c .nil) ls h = (evE D C c ls h).bd fun x h1 => .ok x h1 := by
  simp only [evOr]
theorem evAnd_two {C : String → List T → Hh → R T} {c c2 : CE} {cs : CEs} {ls : Ls} {h : Hh} : evAnd D C (.cons c (.cons c2 cs)) ls h = (evE D C c ls h).bd fun x h1 => match x with
    | .bl true => evAnd D C (.cons c2 cs) ls h1
    | .bl false => .ok (.bl false) h1
    | _ => .bad := by
  rw [evAnd] <;> rfl
theorem evOr_two {C : String → List T → Hh → R T} {c c2 : CE} {cs : CEs} {ls : Ls} {h : Hh} : evOr D C (.cons c (.cons c2 cs)) ls h = (evE D C c ls h).bd fun x h1 => match x with
    | .bl false => evOr D C (.cons c2 cs) ls h1
    | .bl true => .ok (.bl true) h1
    | _ => .bad := by
  rw [evOr] <;> rfl
theorem one_rd {c : CE} {m : Ls → Hh → R T} (hm : ∀ ls h, m ls h = (evE D (callN D n) c ls h).bd fun x h1 => .ok x h1) {σ : L2.St} {H : Hp} : (∀ {Q : VK}, rd X.K X.mg m σ H Q → M1 D n X c σ H Q) ∧ ∀ {Q : Bool → Hp → Prop}, rdT X.K X.mg m σ H Q → M1T D n X c σ H Q := by
  refine ⟨fun {Q} ⟨ρ, ls, h, t, h', g, rs, e, k⟩ => ?_, fun {Q} ⟨ρ, ls, h, t, h', g, rs, e, k⟩ => ?_⟩
  · rw [hm] at e
    obtain ⟨x, h1, e1, e⟩ := R.bd_eq_ok e
    cases e
    exact ⟨ρ, ls, h, _, _, g, rs, e1, k⟩
  · rw [hm] at e
    obtain ⟨x, h1, e1, e⟩ := R.bd_eq_ok e
    cases e
    exact ⟨ρ, ls, h, _, _, g, rs, e1, k⟩
theorem px_and1 {c : CE} {e : Expr} {pos : Pos} (p : PE X e (M1 D n X c)) (t : PT X e (M1T D n X c)) : PE X (.BoolOp .And [e] pos) (MAnd D n X (.cons c .nil)) ∧ PW X (.BoolOp .And [e] pos) (MAndT D n X (.cons c .nil)) :=
  ⟨(pe_one p).imp fun σ H Q q => (one_rd fun _ _ => evAnd_one).1 q, (pw_and1 t).imp fun σ H Q q => (one_rd fun _ _ => evAnd_one).2 q⟩
theorem px_or1 {c : CE} {e : Expr} {pos : Pos} (p : PE X e (M1 D n X c)) (t : PT X e (M1T D n X c)) : PE X (.BoolOp .Or [e] pos) (MOr D n X (.cons c .nil)) ∧ PW X (.BoolOp .Or [e] pos) (MOrT D n X (.cons c .nil)) :=
  ⟨(pe_one p).imp fun σ H Q q => (one_rd fun _ _ => evOr_one).1 q, (pw_or1 t).imp fun σ H Q q => (one_rd fun _ _ => evOr_one).2 q⟩
theorem px_and {c c2 : CE} {cs : CEs} {e e2 : Expr} {es : List Expr} {pos : Pos} (p : PE X e (M1 D n X c)) (t : PT X e (M1T D n X c)) (pr : PE X (.BoolOp .And (e2 :: es) pos) (MAnd D n X (.cons c2 cs))) (tr : PW X (.BoolOp .And (e2 :: es) pos) (MAndT D n X (.cons c2 cs))) :
    PE X (.BoolOp .And (e :: e2 :: es) pos) (MAnd D n X (.cons c (.cons c2 cs))) ∧ PW X (.BoolOp .And (e :: e2 :: es) pos) (MAndT D n X (.cons c (.cons c2 cs))) := by
  refine ⟨(pe_and p pr).imp fun σ H Q ⟨ρ, ls, h, x, h', g, rs, e, k⟩ => ?_, (pw_and t tr).imp fun σ H Q ⟨ρ, ls, h, x, h', g, rs, e, k⟩ => ?_⟩
  · rw [evAnd_two] at e
    obtain ⟨x, h1, e1, e'⟩ := R.bd_eq_ok e
    clear e
    split at e'
    · exact ⟨ρ, ls, h, _, h1, g, rs, e1, fun ρ1 H1 v1 E1 G1 r1 => by cases r1; exact ⟨true, rfl, iteT ⟨ρ1, ls, h1, _, h', G1, rs.ext E1, e', k.mono E1⟩⟩⟩
    · cases e'
      exact ⟨ρ, ls, h, _, _, g, rs, e1, fun ρ1 H1 v1 E1 G1 r1 => by cases r1; exact ⟨false, rfl, iteF (k _ _ _ E1 G1 (.bl _))⟩⟩
    · cases e'
  · rw [evAnd_two] at e
    obtain ⟨x, h1, e1, e'⟩ := R.bd_eq_ok e
    clear e
    split at e'
    · exact ⟨ρ, ls, h, _, h1, g, rs, e1, fun ρ1 H1 E1 G1 => iteT ⟨ρ1, ls, h1, _, h', G1, rs.ext E1, e', fun ρ2 H2 E2 G2 => k _ _ (E1.trans E2) G2⟩⟩
    · cases e'
      exact ⟨ρ, ls, h, _, _, g, rs, e1, fun ρ1 H1 E1 G1 => iteF (k _ _ E1 G1)⟩
    · cases e'
theorem px_or {c c2 : CE} {cs : CEs} {e e2 : Expr} {es : List Expr} {pos : Pos} (p : PE X e (M1 D n X c)) (t : PT X e (M1T D n X c)) (pr : PE X (.BoolOp .Or (e2 :: es) pos) (MOr D n X (.cons c2 cs))) (tr : PW X (.BoolOp .Or (e2 :: es) pos) (MOrT D n X (.cons c2 cs))) :
    PE X (.BoolOp .Or (e :: e2 :: es) pos) (MOr D n X (.cons c (.cons c2 cs))) ∧ PW X (.BoolOp .Or (e :: e2 :: es) pos) (MOrT D n X (.cons c (.cons c2 cs))) := by
  refine ⟨(pe_or p pr).imp fun σ H Q ⟨ρ, ls, h, x, h', g, rs, e, k⟩ => ?_, (pw_or t tr).imp fun σ H Q ⟨ρ, ls, h, x, h', g, rs, e, k⟩ => ?_⟩
  · rw [evOr_two] at e
    obtain ⟨x, h1, e1, e'⟩ := R.bd_eq_ok e
    clear e
    split at e'
    · exact ⟨ρ, ls, h, _, h1, g, rs, e1, fun ρ1 H1 v1 E1 G1 r1 => by cases r1; exact ⟨false, rfl, iteF ⟨ρ1, ls, h1, _, h', G1, rs.ext E1, e', k.mono E1⟩⟩⟩
    · cases e'
      exact ⟨ρ, ls, h, _, _, g, rs, e1, fun ρ1 H1 v1 E1 G1 r1 => by cases r1; exact ⟨true, rfl, iteT (k _ _ _ E1 G1 (.bl _))⟩⟩
    · cases e'
  · rw [evOr_two] at e
    obtain ⟨x, h1, e1, e'⟩ := R.bd_eq_ok e
    clear e
    split at e'
    · exact ⟨ρ, ls, h, _, h1, g, rs, e1, fun ρ1 H1 E1 G1 => iteF ⟨ρ1, ls, h1, _, h', G1, rs.ext E1, e', fun ρ2 H2 E2 G2 => k _ _ (E1.trans E2) G2⟩⟩
    · cases e'
      exact ⟨ρ, ls, h, _, _, g, rs, e1, fun ρ1 H1 E1 G1 => iteT (k _ _ E1 G1)⟩
    · cases e'
/-! ### a thing that was laid and not yet ours -/
theorem Wk.poke {ρ : List Addr} {H : Hp} {p : Addr} {o u : HO} (hp : H p = some u) (h1 : ∀ xs, u ≠ .tup xs) (h2 : ∀ q w, u ≠ .frz q w) : Wk ρ H ρ (upd H p o) := ⟨fun _ _ q => q, fun a xs q => by
  rw [upd_ne fun z => by rw [z, hp] at q; exact h1 xs (Option.some.inj q)]
  exact q, fun a q w e => by
  rw [upd_ne fun z => by rw [z, hp] at e; exact h2 q w (Option.some.inj e)]
  exact e⟩
theorem G.poke {K : PySem.W.Frag} {mg : Str → Option Value} {ρ : List Addr} {H : Hp} {h : Hh} {p : Addr} {o u : HO} (g : G K mg ρ H h) (hn : p ∉ ρ) (hp : H p = some u) (h1 : ∀ xs, u ≠ .tup xs) (h2 : ∀ q w, u ≠ .frz q w) : G K mg ρ (upd H p o) h where
  len := g.len
  nd := g.nd
  ob := fun m a q e1 e2 => (g.ob m a q e1 e2).wk (Wk.poke hp h1 h2) (upd_ne fun z => hn (z ▸ List.mem_of_getElem? e1))
/-- from the state in which p was free: others came, now p is ours -/
theorem Ext.into {ρ ρ2 : List Addr} {H H2 : Hp} {p : Addr} {o u w : HO} (hp : H p = none) (e : Ext ρ (upd H p u) ρ2 H2) (hn : p ∉ ρ2) : Ext ρ H (ρ2 ++ [p]) (upd H2 p o) where
  pre := e.pre.trans (List.prefix_append _ _)
  new := fun a ha => by
    rcases List.mem_append.mp ha with q | q
    · rcases e.new a q with z | z
      · exact .inl z
      · have hne : a ≠ p := fun y => by rw [y, upd_same] at z; cases z
        rw [upd_ne hne] at z
        exact .inr z
    · rw [List.mem_singleton.mp q]
      exact .inr hp
  keep := fun a q ea hm => by
    have hne : a ≠ p := ne_of_none ea hp
    rw [upd_ne hne]
    exact e.keep a q (by rw [upd_ne hne]; exact ea) hm
  tup := fun a xs ea => by
    have hne : a ≠ p := ne_of_none ea hp
    rw [upd_ne hne]
    exact e.tup a xs (by rw [upd_ne hne]; exact ea)
  frz := fun a q z ea => by
    have hne : a ≠ p := ne_of_none ea hp
    rw [upd_ne hne]
    exact e.frz a q z (by rw [upd_ne hne]; exact ea)
theorem Ext.out {ρ ρ2 : List Addr} {H H2 : Hp} {p : Addr} {u : HO} (hp : H p = none) (hm : p ∉ ρ) (e : Ext ρ (upd H p u) ρ2 H2) : p ∉ ρ2 ∧ H2 p = some u := by
  refine ⟨fun h => ?_, e.keep p u upd_same hm⟩
  rcases e.new p h with z | z
  · exact hm z
  · rw [upd_same] at z
    cases z
/-! ### displays of dicts -/
noncomputable def trsOf (D : Tbl) (n : Nat) (X : Cx) : CKs → List (TE × TE)
  | .nil => []
  | .cons k v r => (M1 D n X k, M1 D n X v) :: trsOf D n X r
theorem pairs_rd : ∀ (ps : CKs) {σ : L2.St} {ρ : List Addr} {H : Hp} {ls : Ls} {h h' : Hh} {xs ys : List T} {Q : List (V × V) → Hp → Prop}, G X.K X.mg ρ H h → RS X.K X.mg ρ H ls σ → evKV D (callN D n) ps ls h = .ok (xs, ys) h' →
    (∀ ρ' H' vs ws, Ext ρ H ρ' H' → G X.K X.mg ρ' H' h' → RTs X.K X.mg ρ' H' xs vs → RTs X.K X.mg ρ' H' ys ws → vs.length = ws.length → Q (vs.zip ws) H') → tPairs (trsOf D n X ps) σ H Q
  | .nil, σ, ρ, H, ls, h, h', xs, ys, Q, g, rs, e, k => by
    unfold evKV at e
    cases e
    exact k ρ H [] [] Ext.refl g .nil .nil rfl
  | .cons a b r, σ, ρ, H, ls, h, h', xs, ys, Q, g, rs, e, k => by
    unfold evKV at e
    obtain ⟨x, h1, e1, e⟩ := R.bd_eq_ok e
    obtain ⟨y, h2, e2, e⟩ := R.bd_eq_ok e
    obtain ⟨p, h3, e3, e⟩ := R.bd_eq_ok e
    cases e
    refine ⟨ρ, ls, h, x, h1, g, rs, e1, fun ρ1 H1 v1 E1 G1 r1 => ⟨ρ1, ls, h1, y, h2, G1, rs.ext E1, e2, fun ρ2 H2 v2 E2 G2 r2 => ?_⟩⟩
    exact pairs_rd r G2 (rs.ext (E1.trans E2)) (xs := p.1) (ys := p.2) e3 fun ρ3 H3 vs ws E3 G3 rv rw' hl => k ρ3 H3 (v1 :: vs) (v2 :: ws) (E1.trans (E2.trans E3)) G3 (.cons (r1.ext (E2.trans E3)) rv) (.cons (r2.ext E3) rw') (by simp [hl])
theorem keysT_ok {K : PySem.W.Frag} {mg : Str → Option Value} {ρ : List Addr} {H : Hp} : ∀ {xs : List T} {ks : List KT} {vs : List V}, keysT xs = some ks → RTs K mg ρ H xs vs → vs = ks.map fun k => kV k.key
  | [], ks, _, e, .nil => by cases e; rfl
  | x :: xs, ks, _, e, .cons a b => by
    unfold keysT at e
    split at e
    · rename_i k0 ek
      cases q : keysT xs with
      | none => rw [q] at e; cases e
      | some ks2 =>
        rw [q] at e
        cases e
        rw [T.kt_ok ek a, keysT_ok q b]
        rfl
    · cases e
theorem mergeKT_ok {K : PySem.W.Frag} {mg : Str → Option Value} {ρ : List Addr} {H : Hp} : ∀ {ks : List KT} {ys : List T} {ws : List V} {acc kvs : List (KT × T)} {qs : List (Key × V)}, mergeKT acc ks ys = some kvs → RTs K mg ρ H ys ws → RKV K mg ρ H acc qs →
    RKV K mg ρ H kvs (mergeK qs ((ks.map KT.key).zip ws)) ∧ ks.length = ws.length
  | [], [], _, acc, kvs, qs, e, .nil, r => by
    cases e
    exact ⟨r, rfl⟩
  | k :: ks, y :: ys, _, acc, kvs, qs, e, .cons (v := w) (vs := ws) a b, r => by
    obtain ⟨h1, h2⟩ := mergeKT_ok (ks := ks) (acc := putKT acc k y) (qs := putK qs k.key w) e b (r.put k a)
    exact ⟨h1, by simp [h2]⟩
theorem zip_keys : ∀ (ks : List KT) (ws : List V), ks.length = ws.length → (ks.map fun k => kV k.key).zip ws = ((ks.map KT.key).zip ws).map fun kv => (kV kv.1, kv.2)
  | [], [], _ => rfl
  | k :: ks, w :: ws, h => by
    rw [List.map_cons, List.map_cons, List.zip_cons_cons, List.zip_cons_cons, List.map_cons, zip_keys ks ws (by simpa using h)]
theorem px_dic0 {pos : Pos} : PE X (.Dict [] [] pos) (M1 D n X (.dic .nil)) := pe_dnewK.imp fun σ H Q ⟨ρ, ls, h, t, h', g, rs, e, k⟩ => by
  unfold evE evKV at e
  cases e
  exact fun p hp => k _ _ _ (Ext.alloc hp) (g.newD hp .nil) (RT.last g)
theorem px_dic {ps : CKs} {ks : List (Option Expr)} {vs : List Expr} {pos : Pos} (pp : PPs X pos ks vs (trsOf D n X ps)) (h1 : ks.all (·.isSome) = true) (h2 : ks.length = vs.length) (h3 : ks ≠ []) (h4 : ks.length ≤ 15) (hz : ∀ ls h p h', evKV D (callN D n) ps ls h = .ok p h' → p.1.length = ks.length) :
    PE X (.Dict ks vs pos) (M1 D n X (.dic ps)) := (pe_disp pp h1 h2 h3 h4).imp fun σ H Q ⟨ρ, ls, h, t, h', g, rs, e, k⟩ => by
  unfold evE at e
  obtain ⟨⟨xs, ys⟩, h5, e1, e⟩ := R.bd_eq_ok e
  split at e
  · rename_i kk ek
    split at e
    · rename_i kvs em
      cases e
      intro p hp
      have E0 : Ext ρ H ρ (upd H p (.dK [])) := Ext.fresh hp
      refine pairs_rd ps (g.fresh hp) (rs.ext E0) e1 fun ρ2 H2 us ws E2 G2 ru rw' hl => ?_
      obtain ⟨hn, hs⟩ := Ext.out hp (g.not_mem hp) E2
      have eu := keysT_ok ek ru
      subst eu
      obtain ⟨rk, hk⟩ := mergeKT_ok em rw' (qs := []) .nil
      refine ⟨hs, (kk.map KT.key).zip ws, zip_keys kk ws hk, ?_, ?_⟩
      · rw [List.length_zip, List.length_map, hk, Nat.min_self]
        have z := hz _ _ _ _ e1
        have z2 := ru.length
        have z3 := rw'.length
        rw [List.length_map] at z2 hl
        have z' : xs.length = ks.length := z
        omega
      · have hw := Wk.poke (ρ := ρ2) (o := .dK (mergeK [] ((kk.map KT.key).zip ws))) hs (by intro xs z; cases z) (by intro q w z; cases z)
        have G3 : G X.K X.mg ρ2 (upd H2 p (.dK (mergeK [] ((kk.map KT.key).zip ws)))) h5 := G2.poke hn hs (by intro xs z; cases z) (by intro q w z; cases z)
        exact k _ _ _ (Ext.into (w := .dK []) hp E2 hn) (G3.add hn (.dK upd_same (rk.wk hw))) (RT.last G2)
    · cases e
  · cases e
end
end MP

set_option Elab.async false
set_option linter.all false
set_option maxRecDepth 100000
/-! MiniPy, part I: calls, built-ins, isinstance, methods, ranges as values -/
namespace MP
open PySem PySem.Spec PyProof.Rows L2
theorem RTs.paired {K : PySem.W.Frag} {mg : Str → Option Value} {ρ : List Addr} {H : Hp} : ∀ {xs : List T} {vs : List V}, RTs K mg ρ H xs vs → Paired (RT K mg ρ H) xs vs
  | _, _, .nil => .nil
  | _, _, .cons a b => .cons a b.paired
theorem RTs.of_paired {K : PySem.W.Frag} {mg : Str → Option Value} {ρ : List Addr} {H : Hp} : ∀ {xs : List T} {vs : List V}, Paired (RT K mg ρ H) xs vs → RTs K mg ρ H xs vs
  | _, _, .nil => .nil
  | _, _, .cons a b => .cons a (RTs.of_paired b)
theorem paired_app {α β : Type} {F : α → β → Prop} : ∀ {a c : List α} {b d : List β}, Paired F a b → Paired F c d → Paired F (a ++ c) (b ++ d)
  | _, _, _, _, .nil, s => s
  | _, _, _, _, .cons r t, s => .cons r (paired_app t s)
theorem look_paired {α β : Type} {F : α → β → Prop} (p : String) : ∀ (ks : List String) {a : List α} {b : List β} {x : α}, Paired F a b → (ks.zip a).lookup p = some x → ∃ y, (ks.zip b).lookup p = some y ∧ F x y
  | [], _, _, _, _, e => by simp at e
  | k :: ks, _, _, _, .nil, e => by simp at e
  | k :: ks, _, _, x, .cons (a := a0) (b := b0) r t, e => by
    rw [List.zip_cons_cons, List.lookup_cons] at e ⊢
    split at e
    · cases e
      exact ⟨_, rfl, r⟩
    · exact look_paired p ks t e
theorem mapM_paired {α β : Type} {F : α → β → Prop} (ks : List String) {a : List α} {b : List β} (r : Paired F a b) : ∀ (ps : List String) {zs : List α}, (ps.mapM fun p => (ks.zip a).lookup p) = some zs → ∃ ws, (ps.mapM fun p => (ks.zip b).lookup p) = some ws ∧ Paired F zs ws
  | [], zs, e => by
    cases e
    exact ⟨[], rfl, .nil⟩
  | p :: ps, zs, e => by
    rw [List.mapM_cons] at e ⊢
    cases q : (ks.zip a).lookup p with
    | none => rw [q] at e; cases e
    | some x =>
      rw [q] at e
      obtain ⟨y, hy, hf⟩ := look_paired p ks r q
      rw [hy]
      cases q2 : (ps.mapM fun p => (ks.zip a).lookup p) with
      | none => rw [q2] at e; cases e
      | some zs2 =>
        rw [q2] at e
        cases e
        obtain ⟨ws, hw, hp⟩ := mapM_paired ks r ps q2
        rw [hw]
        exact ⟨y :: ws, rfl, .cons hf hp⟩
theorem ordK_paired {α β : Type} {F : α → β → Prop} {ps : List String} {n : Nat} {a : List α} {b : List β} {ks : List String} {c : List α} {d : List β} {zs : List α} (r : Paired F a b) (r2 : Paired F c d) (e : ordK ps n a ks c = some zs) : ∃ ws, ordK ps n b ks d = some ws ∧ Paired F zs ws := by
  unfold ordK at e ⊢
  rw [← Paired.length r, ← Paired.length r2]
  split at e
  · rename_i hc
    rw [if_pos hc]
    cases q : ((ps.drop n).mapM fun p => (ks.zip c).lookup p) with
    | none => rw [q] at e; cases e
    | some xs =>
      rw [q] at e
      cases e
      obtain ⟨ws, hw, hp⟩ := mapM_paired ks r2 (ps.drop n) q
      rw [hw]
      exact ⟨_, rfl, paired_app r hp⟩
  · cases e
theorem vals_paired : ∀ {vs : List V} {us : List Value}, Vals vs us → Paired RelV vs us := fun h => h
section
variable {D : Tbl} {n : Nat} {X : Cx} {raw sc : Scope} {N : List Str}
theorem callN_len {f : String} {fd : FD} {xs : List T} {h h' : Hh} {t : T} (hf : D.fn f = some fd) (e : callN D n f xs h = .ok t h') : xs.length = fd.ps.length := by
  cases n with
  | zero => cases e
  | succ m =>
    unfold callN at e
    rw [hf] at e
    dsimp only at e
    split at e
    · rename_i hl
      exact hl
    · cases e
theorem XO.gl (o : XO D n X raw sc N) {x : Str} (h : gloB sc x = true) : Gl X x := by
  show X.env.scope.names.lookup x = _
  rw [o.esc]
  exact gloB_ok h
theorem px_call {f : String} {cs : CEs} {es : List Expr} {p pos : Pos} (o : XO D n X raw sc N) (hg : gloB sc (Str.ofString f) = true) (hk : okName (Str.ofString f) = true) (hs : es.all noStar = true) (h0 : es = [] → cs = .nil) (pa : PA X es (MA D n X cs)) :
    PE X (.Call (.Name (Str.ofString f) p) es [] pos) (M1 D n X (.call f cs)) := by
  refine ⟨fun pins s σ H Q I q => ?_⟩
  obtain ⟨ρ, ls, h, t, h', g, rs, e, k⟩ := q
  unfold evE at e
  obtain ⟨xs, h1, e1, e2⟩ := R.bd_eq_ok e
  cases hf : D.fn f with
  | none =>
    cases n with
    | zero => cases e2
    | succ m =>
      unfold callN at e2
      rw [hf] at e2
      cases e2
  | some fd =>
    obtain ⟨fa, fdata, F, hm, kp, bd, _⟩ := o.fns f fd hf
    have hl := callN_len hf e2
    refine wpAny_Call_Name_kw (ld_glob I (o.gl hg) hm ?_ (okName_ok hk).1)
    cases es with
    | nil =>
      cases h0 rfl
      unfold evEs at e1
      cases e1
      refine PySem.W.callWith_K0 I.kIn kp (run_g (vs := []) (ws := []) F o.gd o.room I (bd s [] I.kIn (by rw [List.length_map, ← hl]; rfl)) .nil ⟨by rw [← hl]; rfl, ρ, h, [], t, h', g, .nil, e2, k⟩)
    | cons a r =>
      rw [List.all_cons, Bool.and_eq_true] at hs
      refine PySem.W.callWith_K (h₀ := X.base) I.ok.mod.kin kp (thn (pa.run pos pins s σ H (fun vs H1 => spf X.K X.mg fd.ps.length (callN D n f) vs H1 Q E0) I ⟨ρ, ls, h, xs, h1, g, rs, e1, fun ρ1 H1 vs E1 G1 r1 => ⟨by rw [← r1.length]; exact hl, ρ1, h1, xs, t, h', G1, r1, e2, k.mono E1⟩⟩) fun us s1 ⟨vs, H1, I1, rv, q1⟩ => ⟨I1.kIn, ?_⟩) (star_cons hs.1) (star_any _ _ _ hs.2)
      have hlen : (us ++ []).length = (fd.ps.map Str.ofString).length := by rw [List.append_nil, List.length_map, ← rv.length]; exact q1.1
      have bb := bd s1 us I1.kIn hlen
      rw [List.append_nil] at bb
      exact run_g F o.gd o.room I1 bb rv q1
/-! keywords -/
theorem kw_all (pos : Pos) (env : Env) : ∀ (ks : List String) (kws : List Keyword), kws.map (·.arg) = ks.map (fun k => some (Str.ofString k)) → (backToKw pos (keywordEach kws env)).all (·.1.isSome) = true ∧ (backToKw pos (keywordEach kws env)).filterMap (·.1) = ks.map Str.ofString ∧ (backToKw pos (keywordEach kws env)).any (·.1.isNone) = false
  | [], [], _ => ⟨rfl, rfl, rfl⟩
  | [], _ :: _, h => by simp at h
  | k :: ks, [], h => by simp at h
  | k :: ks, ⟨nm, v, p⟩ :: kws, h => by
    rw [List.map_cons, List.map_cons, List.cons.injEq] at h
    obtain ⟨h1, h2⟩ := h
    dsimp only at h1
    subst h1
    obtain ⟨a, b, c⟩ := kw_all pos env ks kws h2
    unfold backToKw at a b c ⊢
    simp only [keywordEach, List.map_cons, List.all_cons, List.any_cons, List.filterMap_cons, Option.isSome_some, Option.isNone_some, Bool.true_and, Bool.false_or]
    exact ⟨a, by rw [b], c⟩
theorem px_callK {f : String} {cs vs : CEs} {ks : List String} {es : List Expr} {kws : List Keyword} {p pos : Pos} (o : XO D n X raw sc N) (hg : gloB sc (Str.ofString f) = true) (hk : okName (Str.ofString f) = true) (hs : es.all noStar = true) (h0 : es = [] → cs = .nil)
    (hkw : (f, es.length, ks) ∈ D.kw) (hn : kws.map (·.arg) = ks.map fun k => some (Str.ofString k)) (hlen : ∀ ls h xs h', evEs D (callN D n) cs ls h = .ok xs h' → xs.length = es.length) (pa : PA X es (MA D n X cs)) (pk : PK X kws (MA D n X vs)) :
    PE X (.Call (.Name (Str.ofString f) p) es kws pos) (M1 D n X (.callK f cs ks vs)) := by
  refine ⟨fun pins s σ H Q I q => ?_⟩
  obtain ⟨ρ, ls, h, t, h', g, rs, e, k⟩ := q
  unfold evE at e
  obtain ⟨xs, h1, e1, e2⟩ := R.bd_eq_ok e
  obtain ⟨ys, h2, e3, e4⟩ := R.bd_eq_ok e2
  clear e e2
  split at e4
  · rename_i fd hf
    split at e4
    · rename_i zs ez
      obtain ⟨fa, fdata, F, hm, kp, bd, bk⟩ := o.fns f fd hf
      have hl := callN_len hf e4
      have hx := hlen _ _ _ _ e1
      rw [hx] at ez
      have kb := bk _ _ hkw
      refine wpAny_Call_Name_kw (ld_glob I (o.gl hg) hm ?_ (okName_ok hk).1)
      have fin : ∀ {ρ1 H1 s1 vs us}, Inv X pins σ H1 s1 → Ext ρ H ρ1 H1 → G X.K X.mg ρ1 H1 h1 → RTs X.K X.mg ρ1 H1 xs vs → Vals vs us → wpAny (model X.prog X.w) X.A (evalAll ((backToKw pos (keywordEach kws X.env)).map (·.2))) (fun ws s2 => X.K.In s2.heap ∧ wpAny (model X.prog X.w) X.A (call (.ref fa) ([] ++ us) (((backToKw pos (keywordEach kws X.env)).filterMap (·.1)).zip ws)) (EP X pins σ Q) X.xe s2) X.xe s1 := fun {ρ1 H1 s1 vs us} I1 E1 G1 r1 rv => by
        refine thn (pk.run pos pins s1 σ H1 (fun wv H2 => ∃ ρ2, Ext ρ1 H1 ρ2 H2 ∧ G X.K X.mg ρ2 H2 h2 ∧ RTs X.K X.mg ρ2 H2 ys wv) I1 ⟨ρ1, ls, h1, ys, h2, G1, rs.ext E1, e3, fun ρ2 H2 wv E2 G2 r2 => ⟨ρ2, E2, G2, r2⟩⟩) fun ws s2 ⟨wv, H2, I2, rw', ρ2, E2, G2, r2⟩ => ⟨I2.kIn, ?_⟩
        obtain ⟨zv, hz1, hz2⟩ := ordK_paired (r1.ext E2).paired r2.paired ez
        obtain ⟨zu, hz3, hz4⟩ := ordK_paired (vals_paired rv) (vals_paired rw') hz1
        rw [(kw_all pos X.env ks kws hn).2.1]
        have rz := RTs.of_paired hz2
        exact run_g F o.gd o.room I2 (kb s2 us ws zu I2.kIn hz3) hz4 ⟨by rw [← rz.length]; exact hl, ρ2, h2, zs, t, h', G2, rz, e4, k.mono (E1.trans E2)⟩
      cases es with
      | nil =>
        cases h0 rfl
        unfold evEs at e1
        cases e1
        exact PySem.W.callWith_KW0 (h₀ := X.base) I.ok.mod.kin kp (kw_all pos X.env ks kws hn).1 (fin I Ext.refl g .nil .nil) (by rw [(kw_all pos X.env ks kws hn).2.2]; rfl)
      | cons a r =>
        have hs' := hs
        rw [List.all_cons, Bool.and_eq_true] at hs
        refine PySem.W.callWith_KW (h₀ := X.base) I.ok.mod.kin kp (kw_all pos X.env ks kws hn).1 (thn (pa.run pos pins s σ H (fun vs H1 => ∃ ρ1, Ext ρ H ρ1 H1 ∧ G X.K X.mg ρ1 H1 h1 ∧ RTs X.K X.mg ρ1 H1 xs vs) I ⟨ρ, ls, h, xs, h1, g, rs, e1, fun ρ1 H1 vs E1 G1 r1 => ⟨ρ1, E1, G1, r1⟩⟩) fun us s1 ⟨vs, H1, I1, rv, ρ1, E1, G1, r1⟩ => fin I1 E1 G1 r1 rv) (by rw [star_any _ _ _ hs', (kw_all pos X.env ks kws hn).2.2]; rfl) (star_cons hs.1)
    · cases e4
  · cases e4
end
end MP

set_option Elab.async false
set_option linter.all false
set_option maxRecDepth 100000
/-! MiniPy, part J: built-ins, isinstance, methods, what is walked -/
namespace MP
open PySem PySem.Spec PyProof.Rows L2
theorem boot_blt (b : Blt) : bootBuiltins (Str.ofString b.x) = some b.f := by cases b <;> decide +kernel
theorem ty_sub : ∀ t ∈ tyNames, t ∈ ["len", "list", "tuple", "sorted", "all", "any", "sum", "max", "min", "int", "repr", "str", "abs", "bool", "isinstance", "range", "enumerate", "zip", "set", "reversed", "dict"] := by decide
theorem boot_tys : ∀ t ∈ tyNames, bootBuiltins (Str.ofString t) = some (.type t) := by decide +kernel
theorem kit_all : ∀ nm ∈ ["NoneType", "bool", "int", "str", "tuple", "list", "dict"], ∀ t ∈ tyNames, kitB nm t = some (isiT1 nm t) := by decide +kernel
section
variable {D : Tbl} {n : Nat} {X : Cx} {raw sc : Scope} {N : List Str}
theorem px_blt {b : Blt} {cs : CEs} {a : Expr} {es : List Expr} {p pos : Pos} (o : XO D n X raw sc N) (hg : gloB sc (Str.ofString b.x) = true) (hk : okName (Str.ofString b.x) = true) (hs : (a :: es).all noStar = true) (pa : PA X (a :: es) (MA D n X cs)) :
    PE X (.Call (.Name (Str.ofString b.x) p) (a :: es) [] pos) (M1 D n X (.blt b cs)) := by
  have cr := cr_blt (X := X) b o.calm o.hu o.gd
  have hb := boot_blt b
  have hm : X.mg (Str.ofString b.x) = none := o.blt b.x (by cases b <;> simp [Blt.x])
  rw [List.all_cons, Bool.and_eq_true] at hs
  have conv : ∀ σ H Q, M1 D n X (.blt b cs) σ H Q → tCB (rC X.K X.mg (bltT b)) (MA D n X cs) σ H Q := fun σ H Q ⟨ρ, ls, h, t, h', g, rs, e, k⟩ => by
    unfold evE at e
    obtain ⟨xs, h1, e1, e2⟩ := R.bd_eq_ok e
    exact ⟨ρ, ls, h, xs, h1, g, rs, e1, fun ρ1 H1 vs E1 G1 r1 => ⟨ρ1, h1, xs, t, h', G1, r1, e2, k.mono E1⟩⟩
  have e1 := star_cons (es := es) (env := X.env) hs.1
  have e2 := star_any pos X.env es hs.2
  cases b <;> first
    | exact (pe_callB cr (o.gl hg) hm hb pa (okName_ok hk).2.2 (okName_ok hk).1 e1 e2).imp conv
    | exact (pe_callTy cr (o.gl hg) hm hb pa (okName_ok hk).2.2 (okName_ok hk).1 e1 e2).imp conv
/-! ### isinstance -/
theorem typeN_ok {K : PySem.W.Frag} {mg : Str → Option Value} {ρ : List Addr} {H : Hp} {h : Hh} {x : T} {v : V} {nm : String} (g : G K mg ρ H h) (r : RT K mg ρ H x v) (e : typeN h x = some nm) : TyX K H v (.type nm) ∧ nm ∈ ["NoneType", "bool", "int", "str", "tuple", "list", "dict"] := by
  cases r with
  | non => cases e; exact ⟨.base .non, by simp⟩
  | bl b => cases e; exact ⟨.base (.bl b), by simp⟩
  | int b => cases e; exact ⟨.base (.int b), by simp⟩
  | str b => cases e; exact ⟨.base (.str b), by simp⟩
  | tup t _ =>
    cases e
    rcases t with t | ⟨o, its, m, h1, h2, _⟩
    · exact ⟨.base (.tup t), by simp⟩
    · exact ⟨.kTuple h1 h2, by simp⟩
  | fz t _ =>
    cases e
    rcases t with ⟨o, t⟩ | ⟨o, its, m, h1, h2, _⟩
    · exact ⟨.base (.frz t), by simp⟩
    · exact ⟨.kList h1 h2, by simp⟩
  | ref q =>
    dsimp only [typeN] at e
    split at e
    · rename_i xs eq
      cases e
      obtain ⟨vs, m1, _⟩ := g.mutL q (xs := xs) (by unfold mutL; rw [eq])
      exact ⟨.base (.lst m1), by simp⟩
    · rename_i kvs eq
      cases e
      obtain ⟨qs, m1, _⟩ := g.dK q eq
      exact ⟨.base (.dK m1), by simp⟩
    · cases e
  | fn q => cases e
theorem pe_ty {t : String} {p : Pos} (o : XO D n X raw sc N) (ht : t ∈ tyNames) (hg : gloB sc (Str.ofString t) = true) (hk : okName (Str.ofString t) = true) : PE X (.Name (Str.ofString t) p) (tC (.ty t)) :=
  pe_bltn (o.gl hg) (o.blt t (ty_sub t ht)) (boot_tys t ht) rfl (okName_ok hk).2.2 (okName_ok hk).1
theorem px_isi1 {a : CE} {t : String} {a' : Expr} {p p2 pos : Pos} (o : XO D n X raw sc N) (hg : gloB sc "isinstance" = true) (hk : okName "isinstance" = true) (hs : noStar a' = true) (ht : t ∈ tyNames) (hg2 : gloB sc (Str.ofString t) = true) (hk2 : okName (Str.ofString t) = true) (pa : PE X a' (M1 D n X a)) :
    PE X (.Call (.Name "isinstance" p) [a', .Name (Str.ofString t) p2] [] pos) (M1 D n X (.isiT a [t])) := by
  have hm : X.mg "isinstance" = none := o.blt "isinstance" (by simp)
  refine (pe_callB call_isi (o.gl hg) hm PyProof.Rows.boot_isinstance (pa_cons pa (pa_cons (pe_ty o ht hg2 hk2) pa_nil rfl) (star_cons hs)) (okName_ok hk).2.2 (okName_ok hk).1 (star_cons hs) rfl).imp fun σ H Q ⟨ρ, ls, h, t', h', g, rs, e, k⟩ => ?_
  unfold evE at e
  obtain ⟨x, h1, e1, e2⟩ := R.bd_eq_ok e
  clear e
  split at e2
  · rename_i nm en
    cases e2
    refine ⟨ρ, ls, h, x, _, g, rs, e1, fun ρ1 H1 v1 E1 G1 r1 => ?_⟩
    obtain ⟨ty, hn⟩ := typeN_ok G1 r1 en
    refine ⟨v1, .ty t, .type nm, .type t, isiT1 nm t, rfl, .ty t, ty, kit_ty (kit_all nm hn t ht), ?_⟩
    have z := k _ _ _ E1 G1 (.bl _)
    simpa using z
  · cases e2
def tTys (ts : List String) : TA := fun _ H Q => Q (ts.map V.ty) H
theorem pa_tys (o : XO D n X raw sc N) : ∀ (ts : List String) (es : List Expr), ts.length = es.length → ((ts.zip es).all fun p => isNameE p.1 sc p.2) = true → (∀ t ∈ ts, t ∈ tyNames) → PA X es (tTys ts)
  | [], [], _, _, _ => pa_nil
  | t :: ts, e :: es, hl, h, hm => by
    rw [List.zip_cons_cons, List.all_cons, Bool.and_eq_true] at h
    have h1 : isNameE t sc e = true := h.1
    unfold isNameE at h1
    split at h1
    · rename_i x p
      rw [Bool.and_eq_true, Bool.and_eq_true, decide_eq_true_eq] at h1
      obtain ⟨⟨rfl, hg⟩, hk⟩ := h1
      exact (pa_cons (pe_ty o (hm t List.mem_cons_self) hg hk) (pa_tys o ts es (by simpa using hl) h.2 fun t h => hm t (List.mem_cons_of_mem _ h)) rfl).imp fun σ H Q q => q
    · cases h1
theorem clsV_tys : ∀ ts : List String, Paired ClsV (ts.map V.ty) (ts.map Value.type)
  | [] => .nil
  | t :: ts => .cons (.ty t) (clsV_tys ts)
theorem kitAny_tys {K : PySem.W.Frag} {nm : String} (hn : nm ∈ ["NoneType", "bool", "int", "str", "tuple", "list", "dict"]) : ∀ ts : List String, (∀ t ∈ ts, t ∈ tyNames) → PySem.W.kitAny K (.type nm) (ts.map Value.type) = some (ts.any (isiT1 nm))
  | [], _ => rfl
  | t :: ts, h => by
    rw [List.map_cons]
    refine kitAny_cons (kit_ty (kit_all nm hn t (h t List.mem_cons_self))) (fun e => ?_) (fun e => ?_)
    · rw [kitAny_tys hn ts fun t h' => h t (List.mem_cons_of_mem _ h'), List.any_cons, e]
      rfl
    · rw [List.any_cons, e]
      rfl
theorem px_isiT {a : CE} {ts : List String} {a' : Expr} {es : List Expr} {j : Nat} {p p2 pos : Pos} (o : XO D n X raw sc N) (hg : gloB sc "isinstance" = true) (hk : okName "isinstance" = true) (hs : noStar a' = true) (ht : ∀ t ∈ ts, t ∈ tyNames) (hl : ts.length = es.length)
    (hz : ((ts.zip es).all fun p => isNameE p.1 sc p.2) = true) (h100 : ts.length ≤ 100) (pa : PE X a' (M1 D n X a)) : PE X (.Call (.Name "isinstance" p) [a', .Tuple es j p2] [] pos) (M1 D n X (.isiT a ts)) := by
  have hm : X.mg "isinstance" = none := o.blt "isinstance" (by simp)
  refine (pe_callB call_isiT (o.gl hg) hm PyProof.Rows.boot_isinstance (pa_cons pa (pa_cons (pe_tup (pa_tys o ts es hl hz ht)) pa_nil rfl) (star_cons hs)) (okName_ok hk).2.2 (okName_ok hk).1 (star_cons hs) rfl).imp fun σ H Q ⟨ρ, ls, h, t', h', g, rs, e, k⟩ => ?_
  unfold evE at e
  obtain ⟨x, h1, e1, e2⟩ := R.bd_eq_ok e
  clear e
  split at e2
  · rename_i nm en
    cases e2
    refine ⟨ρ, ls, h, x, _, g, rs, e1, fun ρ1 H1 v1 E1 G1 r1 => ⟨by rw [List.length_map]; exact line_le (by omega), fun q hq => ?_⟩⟩
    have E2 : Ext ρ1 H1 ρ1 (upd H1 q (.tup (ts.map V.ty))) := Ext.fresh hq
    obtain ⟨ty, hn⟩ := typeN_ok (G1.fresh hq) (r1.ext E2) en
    exact ⟨v1, q, ts.map V.ty, .type nm, ts.map Value.type, _, rfl, upd_same, clsV_tys ts, ty, kitAny_tys hn ts ht, k _ _ _ (E1.trans E2) (G1.fresh hq) (.bl _)⟩
  · cases e2
/-! ### methods -/
def Mth.id (m : Mth) : String := m.ty ++ "." ++ m.x
def rM (K : PySem.W.Frag) (mg : Str → Option Value) (m : Mth) : V → List V → Hp → VK → Prop := fun x vs H Q =>
  ∃ ρ h tx ts t h', G K mg ρ H h ∧ RT K mg ρ H tx x ∧ RTs K mg ρ H ts vs ∧ mthT m tx ts h = .ok t h' ∧ Kn K mg ρ H h' t Q
theorem ixN_i {m : Nat} {i : Int} {k : Nat} (h : ixN m i = some k) : seqIndex? i m = some k ∧ k < m := ⟨(ixN_seq h).1, (ixN_seq h).2.1⟩
theorem mt_all (m : Mth) (id : String) (hid : id = match m with | .append => "list.append" | .extend => "list.extend" | .pop => "list.pop" | .get => "dict.get" | .index => "list.index") (hu : X.A.units + 1 < cLine) : MtR X id (rM X.K X.mg m) := by
  intro pins s σ H x vs v us Q I rx rv hq
  obtain ⟨ρ, h, tx, ts, t, h', g, r1, r2, e, k⟩ := hq
  subst hid
  unfold mthT at e
  split at e
  · rename_i a y
    cases r1 with
    | ref p1 =>
      obtain ⟨w, rfl, ry⟩ := r2.one
      split at e
      · rename_i xs ex
        split at e
        · rename_i hl
          cases e
          obtain ⟨ws, m1, q1⟩ := g.mutL p1 ex
          exact mt_append pins s σ H _ _ v us Q I rx rv ⟨_, ws, w, rfl, rfl, m1, line_lt (by rw [← q1.length]; exact hl), k.setL g p1 (q1.append (.cons ry .nil)) .non⟩
        · cases e
      · cases e
  · rename_i a b
    cases r1 with
    | ref p1 =>
      obtain ⟨w, rfl, ry⟩ := r2.one
      cases ry with
      | ref p2 =>
        split at e
        · rename_i xs ys ex ey
          split at e
          · rename_i hl
            cases e
            obtain ⟨ws, m1, q1⟩ := g.mutL p1 ex
            obtain ⟨zs, m2, q2⟩ := g.mutL p2 ey
            exact mt_extend pins s σ H _ _ v us Q I rx rv ⟨_, _, ws, zs, rfl, rfl, m1, m2, line_le (by rw [← q1.length, ← q2.length]; exact hl), k.setL g p1 (q1.append q2) .non⟩
          · cases e
        · cases e
  · rename_i a
    cases r1 with
    | ref p1 =>
      cases r2
      split at e
      · rename_i xs ex
        split at e
        · rename_i y ey
          cases e
          obtain ⟨ws, m1, q1⟩ := g.mutL p1 ex
          obtain ⟨w, hw, ry⟩ := q1.get ey
          rw [q1.length] at hw
          exact mt_pop pins s σ H _ _ v us Q I rx rv ⟨_, ws, w, rfl, rfl, m1, hw, k.setL g p1 q1.dropLast ry⟩
        · cases e
      · cases e
  · rename_i a i
    cases r1 with
    | ref p1 =>
      obtain ⟨w, rfl, ry⟩ := r2.one
      cases ry
      split at e
      · rename_i xs ex
        split at e
        · rename_i kx ek
          split at e
          · rename_i y ey
            split at e
            · rename_i hb
              cases e
              obtain ⟨ws, m1, q1⟩ := g.mutL p1 ex
              obtain ⟨w, hw, ry⟩ := q1.get ey
              rw [q1.length] at ek
              exact mt_popAt pins s σ H _ _ v us Q I rx rv ⟨_, ws, i, kx, w, rfl, rfl, m1, by omega, by omega, (ixN_i ek).1, hw, k.setL g p1 (q1.eraseIdx kx) ry⟩
            · cases e
          · cases e
        · cases e
      · cases e
  · rename_i a y
    cases r1 with
    | ref p1 =>
      obtain ⟨w, rfl, ry⟩ := r2.one
      split at e
      · rename_i kvs kk ek et
        cases e
        obtain ⟨qs, m1, q1⟩ := g.dK p1 ek
        have ev := T.kt_ok et ry
        subst ev
        cases rx
        obtain ⟨u0, rfl, ru⟩ := rv.one
        refine d_get1 hu I (DGet.k m1) ru fun w' s' I' rw' => ⟨_, H, I', rw', ?_⟩
        obtain ⟨l1, l2⟩ := q1.look kk
        cases z : lookK kvs kk with
        | none =>
          rw [z] at k
          rw [l2 z]
          exact k.now g .non
        | some x0 =>
          rw [z] at k
          obtain ⟨v0, hv, rr⟩ := l1 x0 z
          rw [hv]
          exact k.now g rr
      · cases e
  · rename_i a y dd
    cases r1 with
    | ref p1 =>
      obtain ⟨w, w2, rfl, ry, rd⟩ := r2.two
      split at e
      · rename_i kvs kk ek et
        cases e
        obtain ⟨qs, m1, q1⟩ := g.dK p1 ek
        have ev := T.kt_ok et ry
        subst ev
        cases rx
        obtain ⟨u0, u1, rfl, ru, ru1⟩ := vals2 rv
        refine d_get2 hu I (DGet.k m1) ru ru1 fun w' s' I' rw' => ⟨_, H, I', rw', ?_⟩
        obtain ⟨l1, l2⟩ := q1.look kk
        cases z : lookK kvs kk with
        | none =>
          rw [z] at k
          rw [l2 z]
          exact k.now g rd
        | some x0 =>
          rw [z] at k
          obtain ⟨v0, hv, rr⟩ := l1 x0 z
          rw [hv]
          exact k.now g rr
      · cases e
  · cases e
theorem tyV_of {K : PySem.W.Frag} {mg : Str → Option Value} {ρ : List Addr} {H : Hp} {h : Hh} {x : T} {v : V} {m : Mth} (g : G K mg ρ H h) (r : RT K mg ρ H x v) (e : typeN h x = some m.ty) : tyV K m.ty v H := by
  have ht : m.ty = "list" ∨ m.ty = "dict" := by cases m <;> simp [Mth.ty]
  cases r with
  | non => rcases ht with z | z <;> rw [z] at e <;> simp [typeN] at e
  | bl b => rcases ht with z | z <;> rw [z] at e <;> simp [typeN] at e
  | int b => rcases ht with z | z <;> rw [z] at e <;> simp [typeN] at e
  | str b => rcases ht with z | z <;> rw [z] at e <;> simp [typeN] at e
  | tup t _ => rcases ht with z | z <;> rw [z] at e <;> simp [typeN] at e
  | fn q => cases e
  | fz t _ =>
    rcases ht with z | z
    · rw [z]
      exact .inl ⟨rfl, _, t.sq⟩
    · rw [z] at e
      simp [typeN] at e
  | ref q =>
    dsimp only [typeN] at e
    split at e
    · rename_i xs eq
      obtain ⟨vs, m1, _⟩ := g.mutL q (xs := xs) (by unfold mutL; rw [eq])
      rw [← Option.some.inj e]
      exact .inl ⟨rfl, _, SqL.of m1⟩
    · rename_i kvs eq
      obtain ⟨qs, m1, _⟩ := g.dK q eq
      rw [← Option.some.inj e]
      exact .inr (.inr (.inl ⟨rfl, .inl ⟨_, m1⟩⟩))
    · cases e
theorem px_mth {m : Mth} {c : CE} {cs : CEs} {c' : Expr} {es : List Expr} {ap cp : Pos} (o : XO D n X raw sc N) (h0 : noCall0 c' = true) (hl : (ap.endLine == cp.line) = true) (hs : es.all noStar = true) (h20 : es.length < 20) (hnil : es = [] → cs = .nil) (pc : PE X c' (M1 D n X c)) (pa : PA X es (MA D n X cs)) :
    PE X (.Call (.Attribute c' (Str.ofString m.x) ap) es [] cp) (M1 D n X (.mth m c cs)) := by
  have hu : X.A.units + 1 < cLine := by have := o.hu; omega
  have conv : ∀ σ H Q, M1 D n X (.mth m c cs) σ H Q → tBM X.K m.ty (rM X.K X.mg m) (M1 D n X c) (MA D n X cs) σ H Q := fun σ H Q ⟨ρ, ls, h, t, h', g, rs, e, k⟩ => by
    unfold evE at e
    obtain ⟨x, h1, e1, e2⟩ := R.bd_eq_ok e
    clear e
    split at e2
    · rename_i ht
      obtain ⟨xs, h2, e3, e4⟩ := R.bd_eq_ok e2
      exact ⟨ρ, ls, h, x, h1, g, rs, e1, fun ρ1 H1 v1 E1 G1 r1 => ⟨tyV_of G1 r1 ht, ρ1, ls, h1, xs, h2, G1, rs.ext E1, e3, fun ρ2 H2 vs E2 G2 r2 => ⟨ρ2, h2, x, xs, t, h', G2, r1.ext E2, r2, e4, k.mono (E1.trans E2)⟩⟩⟩
    · cases e2
  have conv0 : cs = .nil → ∀ σ H Q, M1 D n X (.mth m c cs) σ H Q → tBM0 X.K m.ty (rM X.K X.mg m) (M1 D n X c) σ H Q := fun hc σ H Q ⟨ρ, ls, h, t, h', g, rs, e, k⟩ => by
    subst hc
    unfold evE at e
    obtain ⟨x, h1, e1, e2⟩ := R.bd_eq_ok e
    clear e
    split at e2
    · rename_i ht
      unfold evEs at e2
      exact ⟨ρ, ls, h, x, h1, g, rs, e1, fun ρ1 H1 v1 E1 G1 r1 => ⟨tyV_of G1 r1 ht, ρ1, h1, x, [], t, h', G1, r1, .nil, e2, k.mono E1⟩⟩
    · cases e2
  cases es with
  | nil =>
    have cv := conv0 (hnil rfl)
    cases m with
    | append => exact (pe_bm0 PySem.F.plainAttrs_list PySem.F.slot_list_append PySem.F.type_list_append (mt_all .append _ rfl hu) pc (base_of h0) hl).imp cv
    | extend => exact (pe_bm0 PySem.F.plainAttrs_list PySem.F.slot_list_extend PySem.F.type_list_extend (mt_all .extend _ rfl hu) pc (base_of h0) hl).imp cv
    | pop => exact (pe_bm0 PySem.F.plainAttrs_list PySem.F.slot_list_pop PySem.F.type_list_pop (mt_all .pop _ rfl hu) pc (base_of h0) hl).imp cv
    | index => exact (pe_bm0 PySem.F.plainAttrs_list PySem.F.slot_list_index PySem.F.type_list_index (mt_all .index _ rfl hu) pc (base_of h0) hl).imp cv
    | get => exact (pe_bm0 PySem.F.plainAttrs_dict PySem.F.slot_dict_get PySem.F.type_dict_get (mt_all .get _ rfl hu) pc (base_of h0) hl).imp cv
  | cons a r =>
    have hs' := hs
    rw [List.all_cons, Bool.and_eq_true] at hs
    have s1 := star_cons (es := r) (env := X.env) hs.1
    have s2 := star_any cp X.env r hs.2
    have fw := few_of (pos := cp) (env := X.env) hs' h20
    cases m with
    | append => exact (pe_bm PySem.F.plainAttrs_list PySem.F.slot_list_append PySem.F.type_list_append (mt_all .append _ rfl hu) pc pa (base_of h0) fw hl s1 s2).imp conv
    | extend => exact (pe_bm PySem.F.plainAttrs_list PySem.F.slot_list_extend PySem.F.type_list_extend (mt_all .extend _ rfl hu) pc pa (base_of h0) fw hl s1 s2).imp conv
    | pop => exact (pe_bm PySem.F.plainAttrs_list PySem.F.slot_list_pop PySem.F.type_list_pop (mt_all .pop _ rfl hu) pc pa (base_of h0) fw hl s1 s2).imp conv
    | index => exact (pe_bm PySem.F.plainAttrs_list PySem.F.slot_list_index PySem.F.type_list_index (mt_all .index _ rfl hu) pc pa (base_of h0) fw hl s1 s2).imp conv
    | get => exact (pe_bm PySem.F.plainAttrs_dict PySem.F.slot_dict_get PySem.F.type_dict_get (mt_all .get _ rfl hu) pc pa (base_of h0) fw hl s1 s2).imp conv
end
end MP

set_option Elab.async false
set_option linter.all false
set_option maxRecDepth 100000
/-! MiniPy, part S: sorted(set(a list of ints)) -/
namespace MP
open PySem PySem.Spec PyProof.Rows L2
/-- the empty set, as the model makes it -/
abbrev noSetO (w : World) : Obj := { cls := .type "set", dict := none, data := .set #[] 0 (.fresh 0 0 (!w.params.followText "set-order")) }
abbrev atSet (w : World) (s : Shared) : Shared := { s with heap := s.heap.push (noSetO w) }
section
variable {P : Program} {w : World} {A : Around} {E : Value → Shared → Prop} {s : Shared}
set_option maxHeartbeats 3200000 in
theorem call_setL {l : Addr} {us : Array Value} (ns : List Int) {Q : Value → Shared → Prop} (hd : A.handled = none) (hl : s.heap.IsList l us) (hi : IntsAre us.toList ns) (hz : ns.length + 1 < scanBound)
    (h : ∀ (g : Heap) (tk c : Nat), SetR w g s.heap.objs.size (fun j => decide (j ∈ ns)) c → c ≤ ns.length → (∀ b o, s.heap.get? b = some o → g.get? b = some o) → Q (.ref s.heap.objs.size) { s with heap := g, toks := tk }) :
    wpAny (model P w) A (call (.type "set") [.ref l]) Q E s := by
  have sz : us.size = ns.length := by simpa using hi.length
  obtain ⟨mc, mt, mro⟩ := F.called_set.mro
  have c1 := F.called_set.made
  have c2 := F.called_set.sub
  have c3 := F.called_set.notType
  have c4 := F.called_set.canCreate
  have c5 := F.typeCall_set_1 (Value.ref l)
  apply wpAny_call
  apply codeAny_of_tree
  show wpAny _ _ (callAny (Value.type "set") _) _ _ _
  apply wpAny_pure
  refine ⟨Code.quiet_builtin _ (by decide +kernel), codeAny_builtin F.entry_type_call ?_⟩
  rw [Around.under_plain (weight_type_call_type "set" [Value.ref l] []) rfl]
  repeat (any_goals (first | wp_step | assumption))
  have mk : codeAny (model P w) _ _ _ _ := code_set_led1 (P := P) (w := w) (A := A.in1) (s := s) (Value.ref l) (E := E) (Q₁ := fun u z => u = Value.ref s.heap.objs.size ∧ z = atSet w s) ⟨rfl, rfl⟩
  refine codeAny_mono mk fun r z hr => ?_
  match r, hr with
  | .error e, hr => exact hr
  | .ok .next, hr => exact hr.elim
  | .ok .brk, hr => exact hr.elim
  | .ok .cont, hr => exact hr.elim
  | .ok (.ret u), hr =>
    obtain ⟨rfl, rfl⟩ := hr
    have at0 : (atSet w s).heap.get? s.heap.objs.size = some (noSetO w) := Heap.get?_push_size _ rfl
    have ty0 : Shared.TypeIs (atSet w s) (.ref s.heap.objs.size) "set" := ⟨_, at0, rfl⟩
    have i1 := F.called_set.init.lookup
    have i2 := F.called_set.init.bind (Value.ref s.heap.objs.size)
    repeat (any_goals (first | wp_step | assumption))
    have go : codeAny (model P w) _ _ _ _ := codeAny_call_builtin (A := A.in1) (s := atSet w s) (R := wants (fun r z => r = Value.none ∧ ∃ (g : Heap) (tk c : Nat), z = { s with heap := g, toks := tk } ∧ SetR w g s.heap.objs.size (fun j => decide (j ∈ ns)) c ∧ c ≤ ns.length ∧ ∀ b o, s.heap.get? b = some o → g.get? b = some o) E)
      F.called_set.init.plain F.entry_set_init (check_set_init_1 (a := .ref l) ty0 ?_)
    · refine codeAny_mono go fun r z hr => ?_
      match r, hr with
      | .error e, hr => exact hr
      | .ok .next, hr => exact hr.elim
      | .ok .brk, hr => exact hr.elim
      | .ok .cont, hr => exact hr.elim
      | .ok (.ret u), hr =>
        obtain ⟨rfl, g, tk, c, rfl, q1, q2, q3⟩ := hr
        repeat (any_goals (first | wp_step | assumption))
        exact h g tk c q1 q2 q3
    · obtain ⟨⟨lc, ld, lq, ls⟩, lo, e1, nn, e2⟩ := hl
      dsimp only at e1 e2
      subst e1 e2
      have lo2 : (atSet w s).heap.get? l = some { cls := .type "list", dict := ld, data := .seq us nn, slots := ls } := Heap.get?_push_of_some _ lo
      have k1 := F.sub_list_set
      have k2 := F.sub_list_frozenset
      have k3 : (Value.type "list" == Value.type "dict") = false := by decide
      have isl : (atSet w s).heap.IsList l us := ⟨_, lo2, rfl, nn, rfl⟩
      unfold Builtin.«set.__init__» noKeywords Builtin.Frozenset.updateFrom
      generalize hp : pyIter = pI
      wp_walk
      subst hp
      apply wpAny_pyIter_list isl
      apply wpAny_bind
      apply wpAny_runValue
      have ll : l < s.heap.objs.size := Heap.lt_size lo
      have siz : (atSet w s).heap.objs.size = s.heap.objs.size + 1 := Heap.size_push ..
      have n1 : l ≠ (atSet w s).heap.objs.size := by
        rw [siz]
        exact Nat.ne_of_lt (Nat.lt_succ_of_lt ll)
      have n2 : s.heap.objs.size ∉ [(atSet w s).heap.objs.size, l] := by
        rw [siz]
        intro z
        rcases List.mem_cons.mp z with z | z
        · exact absurd z (Nat.ne_of_lt (Nat.lt_succ_self _))
        · exact absurd (List.mem_singleton.mp z) (Nat.ne_of_gt ll)
      have vals : ∀ (i : Nat) (v : Value), us[i]? = some v → ∃ k t, ns[i]? = some k ∧ v = .int k t := fun i v hv => by
        have il : i < ns.length := by rw [← sz]; exact (Array.getElem?_eq_some_iff.mp hv).1
        obtain ⟨t, e⟩ := PyProof.Rows.IntsAre.int_at hi i v (by simpa using hv)
        refine ⟨ns[i], t, List.getElem?_eq_getElem il, ?_⟩
        rw [e]
        simp [List.getElem?_eq_getElem il]
      have W := (Walks.list (prog := P) (w := w) (A := A.in1.in1.in1) (by simp [hd]) _ l n1 us).toS
      refine set_update_ints W s.heap.objs.size n2 ns sz hz vals (us.size - 0) 0 _ (by omega) (Nat.zero_le _) ⟨⟨_, Heap.get?_push_size _ rfl, rfl, rfl⟩, isl.push _⟩ ⟨0, Nat.le_refl 0, setR_new_at (Heap.get?_push_of_some _ at0)⟩ ?_
      intro z c mv cl rr
      obtain ⟨g, g2, d2, t2, o2⟩ := z
      obtain rfl : g2 = s.gens := mv.gens
      obtain rfl : d2 = s.drawn := mv.drawn
      obtain rfl : o2 = s.os := mv.os
      show wpAny _ _ _ _ _ _
      apply wpAny_pure
      show wpAny _ _ (ret Value.none) _ _ _
      apply wpAny_pure
      refine ⟨rfl, g, t2, c, rfl, rr, by omega, fun b o e => ?_⟩
      have bl : b < s.heap.objs.size := Heap.lt_size e
      refine mv.heap b o ?_ (Heap.get?_push_of_some _ (Heap.get?_push_of_some _ e))
      rw [siz]
      intro z
      rcases List.mem_cons.mp z with z | z
      · exact absurd z (Nat.ne_of_lt bl)
      · exact absurd (List.mem_singleton.mp z) (Nat.ne_of_lt (Nat.lt_succ_of_lt bl))
end
section
variable {X : Cx}
def rSetL (K : PySem.W.Frag) (w : World) : List V → Hp → VK → Prop := fun xs H Q => ∃ (l : Addr) (ns : List Int), xs = [V.ref l] ∧ SqL K H l (ns.map V.int) ∧ ns.length < 64 ∧
  ∀ p c, H p = none → c ≤ ns.length → Q (.ref p) (upd H p (SetO w p (fun j => decide (j ∈ ns)) c))
theorem cr_setL (hc : X.calm = true) : CallR X (.type "set") (rSetL X.K X.w) := by
  intro pins s σ H xs us Q I r h
  obtain ⟨l, ns, rfl, hs, hl, q⟩ := h
  rw [Vals.ref1 r]
  obtain ⟨its, rv, pl, _⟩ := I.list hs
  have il : s.heap.IsList l its.toArray := by
    obtain ⟨o, n, e, h1, h2, h3⟩ := pl
    exact ⟨o, e, h1, n, h3⟩
  refine call_setL ns (I.ok.hd hc) il (ints_of_vals rv) (by unfold scanBound; omega) fun g tk c R hc k => ?_
  exact ⟨.ref _, _, I.laid (t' := tk) k (Nat.le_refl _) (setO_new R), rfl, q _ c (I.hok.fresh (Nat.le_refl _)) hc⟩
end

/-! ### the ints, each once, in order -/
theorem insU_mem {k j : Int} : ∀ l : List Int, j ∈ insU k l ↔ j = k ∨ j ∈ l
  | [] => by simp [insU]
  | i :: r => by
    unfold insU
    split
    · simp
    · split
      · rename_i e
        subst e
        simp
      · rw [List.mem_cons, insU_mem r, List.mem_cons]
        constructor
        · rintro (h | h | h)
          · exact .inr (.inl h)
          · exact .inl h
          · exact .inr (.inr h)
        · rintro (h | h | h)
          · exact .inr (.inl h)
          · exact .inl h
          · exact .inr (.inr h)
theorem insU_lt {k : Int} : ∀ l : List Int, l.Pairwise (· < ·) → (insU k l).Pairwise (· < ·)
  | [], _ => by simp [insU]
  | i :: r, h => by
    obtain ⟨h1, h2⟩ := List.pairwise_cons.mp h
    unfold insU
    split
    · rename_i e
      refine List.pairwise_cons.mpr ⟨fun y hy => ?_, h⟩
      rcases List.mem_cons.mp hy with z | z
      · rw [z]; exact e
      · have := h1 y z; omega
    · split
      · exact h
      · refine List.pairwise_cons.mpr ⟨fun y hy => ?_, insU_lt r h2⟩
        rcases (insU_mem r).mp hy with z | z
        · rw [z]; omega
        · exact h1 y z
theorem sdd_mem {j : Int} : ∀ l : List Int, j ∈ sdd l ↔ j ∈ l
  | [] => by simp [sdd]
  | i :: r => by
    show j ∈ insU i (sdd r) ↔ _
    rw [insU_mem, sdd_mem r, List.mem_cons]
theorem sdd_lt : ∀ l : List Int, (sdd l).Pairwise (· < ·)
  | [] => by simp [sdd]
  | i :: r => insU_lt _ (sdd_lt r)
theorem lt_ext : ∀ {a b : List Int}, a.Pairwise (· < ·) → b.Pairwise (· < ·) → (∀ k, k ∈ a ↔ k ∈ b) → a = b
  | [], [], _, _, _ => rfl
  | [], y :: b, _, _, h => absurd ((h y).mpr List.mem_cons_self) (by simp)
  | x :: a, [], _, _, h => absurd ((h x).mp List.mem_cons_self) (by simp)
  | x :: a, y :: b, ha, hb, h => by
    obtain ⟨a1, a2⟩ := List.pairwise_cons.mp ha
    obtain ⟨b1, b2⟩ := List.pairwise_cons.mp hb
    have e : x = y := by
      rcases List.mem_cons.mp ((h x).mp List.mem_cons_self) with z | z
      · exact z
      · rcases List.mem_cons.mp ((h y).mpr List.mem_cons_self) with z2 | z2
        · exact z2.symm
        · have := a1 y z2
          have := b1 x z
          omega
    subst e
    rw [lt_ext a2 b2 fun k => ?_]
    constructor
    · intro m
      rcases List.mem_cons.mp ((h k).mp (List.mem_cons_of_mem _ m)) with z | z
      · have := a1 k m
        omega
      · exact z
    · intro m
      rcases List.mem_cons.mp ((h k).mpr (List.mem_cons_of_mem _ m)) with z | z
      · have := b1 k m
        omega
      · exact z
theorem rts_int {K : PySem.W.Frag} {mg : Str → Option Value} {ρ : List Addr} {H : Hp} : ∀ ns : List Int, RTs K mg ρ H (ns.map T.int) (ns.map V.int)
  | [] => .nil
  | n :: ns => .cons (.int n) (rts_int ns)
section
variable {D : Tbl} {n : Nat} {X : Cx} {raw sc : Scope} {N : List Str}
theorem px_sset {c : CE} {a : Expr} {p p2 pos pos2 : Pos} (o : XO D n X raw sc N) (hg : gloB sc "sorted" = true) (hg2 : gloB sc "set" = true) (hs : noStar a = true) (pa : PE X a (M1 D n X c)) :
    PE X (.Call (.Name "sorted" p) [.Call (.Name "set" p2) [a] [] pos2] [] pos) (M1 D n X (.sset c)) := by
  have hm : X.mg "sorted" = none := o.blt "sorted" (by simp)
  have hm2 : X.mg "set" = none := o.blt "set" (by simp)
  have q1 := pe_callTy (x := "set") (p := p2) (pos := pos2) (cr_setL o.calm) (o.gl hg2) hm2 PyProof.Rows.boot_set (pa_cons pa pa_nil (by cases a <;> first | rfl | cases hs)) (by decide) (by decide) (star_cons hs) rfl
  have q2 := pe_callB (x := "sorted") (p := p) (pos := pos) (cr_sortedSet o.calm) (o.gl hg) hm (by decide +kernel) (pa_cons q1 pa_nil) (by decide) (by decide) rfl rfl
  refine q2.imp fun σ H Q ⟨ρ, ls, h, t, h', g, rs, e, k⟩ => ?_
  unfold evE at e
  obtain ⟨x, h1, e1, e2⟩ := R.bd_eq_ok e
  refine ⟨ρ, ls, h, x, h1, g, rs, e1, fun ρ1 H1 v E1 G1 r1 => ?_⟩
  unfold ssetT at e2
  cases q : (lsT h1 x).bind intsT with
  | none => rw [q] at e2; cases e2
  | some ns =>
    rw [q] at e2
    dsimp only at e2
    split at e2
    case isFalse => cases e2
    case isTrue h64 =>
      cases y : lsT h1 x with
      | none => rw [y] at q; cases q
      | some xs =>
        rw [y] at q
        have q' : intsT xs = some ns := q
        obtain ⟨a0, vs, ev, sq, rv⟩ := G1.lsT r1 y
        have ei := RTs.of_ints q' rv
        subst ei
        refine ⟨a0, ns, by rw [ev], sq, h64, fun p c hp hc => ?_⟩
        have G2 := G1.fresh (o := SetO X.w p (fun j => decide (j ∈ ns)) c) hp
        have E2 : Ext ρ1 H1 ρ1 (upd H1 p (SetO X.w p (fun j => decide (j ∈ ns)) c)) := Ext.fresh hp
        refine ⟨p, _, c, rfl, upd_same, by omega, fun ms p2 m1 m2 m3 hp2 => ?_⟩
        have em : ms = sdd ns := lt_ext m1 (sdd_lt ns) fun j => by rw [m2, sdd_mem, decide_eq_true_eq]
        subst em
        unfold newL at e2
        split at e2
        case isFalse => cases e2
        case isTrue =>
          cases e2
          have r3 : RTs X.K X.mg ρ1 (upd H1 p (SetO X.w p (fun j => decide (j ∈ ns)) c)) ((sdd ns).map T.int) ((sdd ns).map V.int) := rts_int _
          exact k _ _ _ ((E1.trans E2).trans (Ext.alloc hp2)) (G2.newL hp2 r3) (RT.last G2)
end
end MP

set_option Elab.async false
set_option linter.all false
set_option maxRecDepth 100000
/-! MiniPy, part K: what is walked, targets, comprehensions -/
namespace MP
open PySem PySem.Spec PyProof.Rows L2
structure ItOk (K : PySem.W.Frag) (mg : Str → Option Value) (ρ1 : List Addr) (H1 : Hp) (J : It) (xs : List T) (w : Wt) : Prop where
  all : ∀ ρ H h, Ext ρ1 H1 ρ H → G K mg ρ H h → wtOk w h = true → (∀ i x, xs[i]? = some x → J.go i H ∧ ∀ v H', J.yld i H v H' → Ext ρ H ρ H' ∧ G K mg ρ H' h ∧ RT K mg ρ H' x v) ∧ ∀ i, xs.length ≤ i → J.stop i H
def rdI (K : PySem.W.Frag) (mg : Str → Option Value) (m : Ls → Hh → R (List T × Wt)) : TI := fun σ H Q =>
  ∃ ρ ls h xs w h', G K mg ρ H h ∧ RS K mg ρ H ls σ ∧ m ls h = .ok (xs, w) h' ∧ ∀ ρ' H' J, Ext ρ H ρ' H' → G K mg ρ' H' h' → ItOk K mg ρ' H' J xs w → Q J H'
theorem wtOk_mem {w : Wt} {h : Hh} (e : wtOk w h = true) {t : T} {xs : List T} (hm : (t, xs) ∈ w) : lsT h t = some xs := by
  unfold wtOk at e
  exact @of_decide_eq_true _ (Classical.propDecidable _) e (t, xs) hm
section
variable {K : PySem.W.Frag} {mg : Str → Option Value} {ρ : List Addr} {H : Hp} {h : Hh}
theorem RTs.ge {xs : List T} {us : List V} {i : Nat} (r : RTs K mg ρ H xs us) (e : xs.length ≤ i) : us.length ≤ i := by rw [← r.length]; exact e
theorem it_list {x : T} {a : Addr} {xs : List T} (r : RT K mg ρ H x (.ref a)) : ItOk K mg ρ H (Itl K a) xs [(x, xs)] := ⟨fun ρ2 H2 h2 E G2 hw => by
  obtain ⟨b, vs, eb, s1, q1⟩ := G2.lsT (r.ext E) (wtOk_mem hw List.mem_cons_self)
  cases eb
  refine ⟨fun i y hy => ?_, fun i hi => ⟨vs, s1, q1.ge hi⟩⟩
  obtain ⟨v, hv, rv⟩ := q1.get hy
  refine ⟨⟨vs, v, s1, hv⟩, fun u H' ⟨e1, e2⟩ => ?_⟩
  subst e1
  have := e2 vs s1
  rw [hv] at this
  cases this
  exact ⟨Ext.refl, G2, rv⟩⟩
theorem it_tup {xs : List T} {a : Addr} {vs : List V} (t : TupAt K H a vs) (r : RTs K mg ρ H xs vs) : ItOk K mg ρ H (Itt K a) xs [] := ⟨fun ρ2 H2 h2 E G2 hw => by
  have s1 := (t.ext E).sq
  have q1 := r.ext E
  refine ⟨fun i y hy => ?_, fun i hi => ⟨vs, s1, q1.ge hi⟩⟩
  obtain ⟨v, hv, rv⟩ := q1.get hy
  refine ⟨⟨vs, v, s1, hv⟩, fun u H' ⟨e1, e2⟩ => ?_⟩
  subst e1
  have := e2 vs s1
  rw [hv] at this
  cases this
  exact ⟨Ext.refl, G2, rv⟩⟩
theorem rangeT_get {a b : Int} {i : Nat} {x : T} (e : (rangeT a b)[i]? = some x) : i < (b - a).toNat ∧ x = .int (a + (i : Nat)) := by
  unfold rangeT at e
  rw [List.getElem?_map] at e
  cases q : (List.range (b - a).toNat)[i]? with
  | none => rw [q] at e; cases e
  | some j =>
    rw [q] at e
    cases e
    obtain ⟨h1, h2⟩ := List.getElem?_eq_some_iff.mp q
    rw [List.getElem_range] at h2
    subst h2
    exact ⟨by simpa using h1, rfl⟩
theorem rangeT_len (a b : Int) : (rangeT a b).length = (b - a).toNat := by simp [rangeT]
theorem it_range {a b : Int} : ItOk K mg ρ H (Itr a (b - a).toNat) (rangeT a b) [] := ⟨fun ρ2 H2 h2 E G2 hw => by
  refine ⟨fun i y hy => ?_, fun i hi => by rw [rangeT_len] at hi; exact hi⟩
  obtain ⟨h1, rfl⟩ := rangeT_get hy
  exact ⟨h1, fun v H' ⟨e1, e2⟩ => by subst e1; subst e2; exact ⟨Ext.refl, G2, .int _⟩⟩⟩
theorem rangeC_get {a c : Int} {m i : Nat} {x : T} (e : (rangeC a c m)[i]? = some x) : i < m ∧ x = .int (a + (i : Nat) * c) := by
  unfold rangeC at e
  rw [List.getElem?_map] at e
  cases q : (List.range m)[i]? with
  | none => rw [q] at e; cases e
  | some j =>
    rw [q] at e
    cases e
    obtain ⟨h1, h2⟩ := List.getElem?_eq_some_iff.mp q
    rw [List.getElem_range] at h2
    subst h2
    exact ⟨by simpa using h1, rfl⟩
theorem it_rangeC {a c : Int} {m : Nat} : ItOk K mg ρ H (Itc a c m) (rangeC a c m) [] := ⟨fun ρ2 H2 h2 E G2 hw => by
  refine ⟨fun i y hy => ?_, fun i hi => by
    rw [show (rangeC a c m).length = m by simp [rangeC]] at hi
    exact hi⟩
  obtain ⟨h1, rfl⟩ := rangeC_get hy
  exact ⟨h1, fun v H' ⟨e1, e2⟩ => by subst e1; subst e2; exact ⟨Ext.refl, G2, .int _⟩⟩⟩
theorem enumT_get : ∀ {xs : List T} {k i : Nat} {y : T}, (enumT k xs)[i]? = some y → ∃ x, xs[i]? = some x ∧ y = .tup [.int (k + i : Nat), x]
  | [], _, _, _, e => by simp [enumT] at e
  | x :: xs, k, 0, y, e => by
    simp [enumT] at e
    subst e
    exact ⟨x, rfl, rfl⟩
  | x :: xs, k, i + 1, y, e => by
    simp only [enumT, List.getElem?_cons_succ] at e
    obtain ⟨z, h1, h2⟩ := enumT_get e
    refine ⟨z, by simpa using h1, ?_⟩
    rw [h2, show k + 1 + i = k + (i + 1) by omega]
theorem enumT_len : ∀ (xs : List T) (k : Nat), (enumT k xs).length = xs.length
  | [], _ => rfl
  | x :: xs, k => by simp [enumT, enumT_len xs]
theorem it_enum {x : T} {a : Addr} {xs : List T} (r : RT K mg ρ H x (.ref a)) : ItOk K mg ρ H (Ite K a) (enumT 0 xs) [(x, xs)] := ⟨fun ρ2 H2 h2 E G2 hw => by
  obtain ⟨b, vs, eb, s1, q1⟩ := G2.lsT (r.ext E) (wtOk_mem hw List.mem_cons_self)
  cases eb
  refine ⟨fun i y hy => ?_, fun i hi => ⟨vs, s1, q1.ge (by rw [enumT_len] at hi; exact hi)⟩⟩
  obtain ⟨z, hz, rfl⟩ := enumT_get hy
  obtain ⟨v, hv, rv⟩ := q1.get hz
  refine ⟨⟨vs, v, s1, hv⟩, fun u H' ⟨Tp, x0, e1, e2, e3, e4⟩ => ?_⟩
  subst e1
  subst e3
  have := e4 vs s1
  rw [hv] at this
  cases this
  have E3 : Ext ρ2 H2 ρ2 (upd H2 Tp (.tup [.int (i : Nat), v])) := Ext.fresh e2
  refine ⟨E3, G2.fresh e2, .tup (.inl upd_same) (.cons ?_ (.cons (rv.ext E3) .nil))⟩
  rw [Nat.zero_add]
  exact .int _⟩
theorem zipT_get : ∀ {xs ys : List T} {i : Nat} {y : T}, (zipT xs ys)[i]? = some y → ∃ a b, xs[i]? = some a ∧ ys[i]? = some b ∧ y = .tup [a, b]
  | [], _, _, _, e => by simp [zipT] at e
  | _ :: _, [], _, _, e => by simp [zipT] at e
  | x :: xs, z :: ys, 0, y, e => by
    simp [zipT] at e
    subst e
    exact ⟨x, z, rfl, rfl, rfl⟩
  | x :: xs, z :: ys, i + 1, y, e => by
    simp only [zipT, List.getElem?_cons_succ] at e
    obtain ⟨a, b, h1, h2, h3⟩ := zipT_get e
    exact ⟨a, b, by simpa using h1, by simpa using h2, h3⟩
theorem zipT_len : ∀ (xs ys : List T), (zipT xs ys).length = min xs.length ys.length
  | [], _ => by simp [zipT]
  | _ :: _, [] => by simp [zipT]
  | x :: xs, y :: ys => by simp only [zipT, List.length_cons, zipT_len xs ys]; omega
theorem it_zip {x y : T} {a b : Addr} {xs ys : List T} (r : RT K mg ρ H x (.ref a)) (r2 : RT K mg ρ H y (.ref b)) : ItOk K mg ρ H (Itz K a b) (zipT xs ys) [(x, xs), (y, ys)] := ⟨fun ρ2 H2 h2 E G2 hw => by
  obtain ⟨a', vs, ea, s1, q1⟩ := G2.lsT (r.ext E) (wtOk_mem hw List.mem_cons_self)
  obtain ⟨b', ws, eb, s2, q2⟩ := G2.lsT (r2.ext E) (wtOk_mem hw (List.mem_cons_of_mem _ List.mem_cons_self))
  cases ea
  cases eb
  refine ⟨fun i y hy => ?_, fun i hi => ⟨vs, ws, s1, s2, ?_⟩⟩
  · obtain ⟨z, z2, hz, hz2, rfl⟩ := zipT_get hy
    obtain ⟨v, hv, rv⟩ := q1.get hz
    obtain ⟨v2, hv2, rv2⟩ := q2.get hz2
    refine ⟨⟨vs, ws, v, v2, s1, s2, hv, hv2⟩, fun u H' ⟨Tp, x0, y0, e1, e2, e3, e4, e5⟩ => ?_⟩
    subst e1
    subst e3
    have t1 := e4 vs s1
    rw [hv] at t1
    cases t1
    have t2 := e5 ws s2
    rw [hv2] at t2
    cases t2
    have E3 : Ext ρ2 H2 ρ2 (upd H2 Tp (.tup [v, v2])) := Ext.fresh e2
    exact ⟨E3, G2.fresh e2, .tup (.inl upd_same) (.cons (rv.ext E3) (.cons (rv2.ext E3) .nil))⟩
  · rw [zipT_len] at hi
    have l1 := q1.length
    have l2 := q2.length
    omega⟩
theorem it_zipT {a b : Addr} {xs ys : List T} {vs ws : List V} (t : TupAt K H a vs) (r : RTs K mg ρ H xs vs) (t2 : TupAt K H b ws) (r2 : RTs K mg ρ H ys ws) : ItOk K mg ρ H (RZ.ItzT K a b) (zipT xs ys) [] := ⟨fun ρ2 H2 h2 E G2 hw => by
  have s1 := (t.ext E).sq
  have q1 := r.ext E
  have s2 := (t2.ext E).sq
  have q2 := r2.ext E
  refine ⟨fun i y hy => ?_, fun i hi => ⟨vs, ws, s1, s2, ?_⟩⟩
  · obtain ⟨z, z2, hz, hz2, rfl⟩ := zipT_get hy
    obtain ⟨v, hv, rv⟩ := q1.get hz
    obtain ⟨v2, hv2, rv2⟩ := q2.get hz2
    refine ⟨⟨vs, ws, v, v2, s1, s2, hv, hv2⟩, fun u H' ⟨Tp, x0, y0, e1, e2, e3, e4, e5⟩ => ?_⟩
    subst e1
    subst e3
    have t1 := e4 vs s1
    rw [hv] at t1
    cases t1
    have t2 := e5 ws s2
    rw [hv2] at t2
    cases t2
    have E3 : Ext ρ2 H2 ρ2 (upd H2 Tp (.tup [v, v2])) := Ext.fresh e2
    exact ⟨E3, G2.fresh e2, .tup (.inl upd_same) (.cons (rv.ext E3) (.cons (rv2.ext E3) .nil))⟩
  · rw [zipT_len] at hi
    have l1 := q1.length
    have l2 := q2.length
    omega⟩
theorem RT.tupInv {xs : List T} {v : V} (r : RT K mg ρ H (.tup xs) v) : ∃ a vs, v = .ref a ∧ TupAt K H a vs ∧ RTs K mg ρ H xs vs := by
  cases r with
  | tup t r => exact ⟨_, _, rfl, t, r⟩
end
section
variable {D : Tbl} {n : Nat} {X : Cx} {raw sc : Scope} {N : List Str} {tg : Expr}
abbrev MI (D : Tbl) (n : Nat) (X : Cx) (c : CI) : TI := rdI X.K X.mg (evI D (callN D n) c)
theorem pi_val {c : CE} {e : Expr} (p : PE X e (M1 D n X c)) : PI X tg e (MI D n X (.val c)) := by
  refine ⟨fun pins s σ H Q I q => ?_⟩
  obtain ⟨ρ, ls, h, xs, w, h', g, rs, e, k⟩ := q
  unfold evI at e
  obtain ⟨x, h1, e1, e2⟩ := R.bd_eq_ok e
  clear e
  split at e2
  · cases e2
    refine (pi_tup p).run pins s σ H Q I ⟨ρ, ls, h, _, _, g, rs, e1, fun ρ1 H1 v1 E1 G1 r1 => ?_⟩
    obtain ⟨a, vs, rfl, t, q1⟩ := r1.tupInv
    exact ⟨a, rfl, ⟨vs, t.sq⟩, k _ _ _ E1 G1 (it_tup t q1)⟩
  · split at e2
    · rename_i xs' ex
      cases e2
      refine (pi_list p).run pins s σ H Q I ⟨ρ, ls, h, _, _, g, rs, e1, fun ρ1 H1 v1 E1 G1 r1 => ?_⟩
      obtain ⟨a, vs, rfl, s1, q1⟩ := G1.lsT r1 ex
      exact ⟨a, rfl, ⟨vs, s1⟩, k _ _ _ E1 G1 (it_list r1)⟩
    · cases e2
theorem rg_ok {a b : Int} (h : rgOk a b = true) : -(2 ^ 62) ≤ a ∧ a < 2 ^ 62 ∧ -(2 ^ 62) ≤ b ∧ b < 2 ^ 62 := by
  unfold rgOk at h
  simp only [Bool.and_eq_true, decide_eq_true_eq] at h
  exact ⟨h.1.1.1, h.1.1.2, h.1.2, h.2⟩
theorem pi_rng1 {c : CE} {e : Expr} {p pos : Pos} (o : XO D n X raw sc N) (hg : gloB sc "range" = true) (hs : noStar e = true) (pa : PE X e (M1 D n X c)) : PI X tg (.Call (.Name "range" p) [e] [] pos) (MI D n X (.rng1 c)) :=
  (pi_range1 (o.gl hg) (o.blt "range" (by simp)) (px_cons hs pa px_nil) (star_cons hs)).imp fun σ H Q ⟨ρ, ls, h, xs, w, h', g, rs, e, k⟩ => by
    unfold evI at e
    obtain ⟨x, h1, e1, e2⟩ := R.bd_eq_ok e
    clear e
    split at e2
    · rename_i i
      split at e2
      · rename_i hr
        have ea : evEs D (callN D n) (.cons c .nil) ls h = .ok [.int i] h1 := by simp only [evEs, e1, R.bd_ok]
        cases e2
        refine ⟨ρ, ls, h, _, _, g, rs, ea, fun ρ1 H1 vs E1 G1 r1 => ?_⟩
        · obtain ⟨v, rfl, r2⟩ := r1.one
          cases r2
          have hb := rg_ok hr
          refine ⟨i, rfl, hb.2.2.1, hb.2.2.2, ?_⟩
          have z := k _ _ _ E1 G1 (it_range (a := 0) (b := i))
          rw [Int.sub_zero] at z
          exact z
      · cases e2
    · cases e2
theorem pi_rng2 {c c2 : CE} {e e2 : Expr} {p pos : Pos} (o : XO D n X raw sc N) (hg : gloB sc "range" = true) (hs : noStar e = true) (hs2 : noStar e2 = true) (pa : PE X e (M1 D n X c)) (pb : PE X e2 (M1 D n X c2)) : PI X tg (.Call (.Name "range" p) [e, e2] [] pos) (MI D n X (.rng2 c c2)) :=
  (pi_range2 (o.gl hg) (o.blt "range" (by simp)) (px_cons hs pa (px_cons hs2 pb px_nil)) (by rw [star_cons hs, star_cons hs2]; rfl) (star_cons hs2)).imp fun σ H Q ⟨ρ, ls, h, xs, w, h', g, rs, e, k⟩ => by
    unfold evI at e
    obtain ⟨x, h1, e1, e2⟩ := R.bd_eq_ok e
    obtain ⟨y, h2, e3, e4⟩ := R.bd_eq_ok e2
    clear e e2
    split at e4
    · rename_i i j
      split at e4
      · rename_i hr
        have ea : evEs D (callN D n) (.cons c (.cons c2 .nil)) ls h = .ok [.int i, .int j] h2 := by simp only [evEs, e1, e3, R.bd_ok]
        cases e4
        refine ⟨ρ, ls, h, _, _, g, rs, ea, fun ρ1 H1 vs E1 G1 r1 => ?_⟩
        · obtain ⟨v, v2, rfl, r2, r3⟩ := r1.two
          cases r2
          cases r3
          exact ⟨i, j, rfl, rg_ok hr, k _ _ _ E1 G1 it_range⟩
      · cases e4
    · cases e4
theorem pi_rng3 {c c2 c3 : CE} {e e2 e3 : Expr} {p pos : Pos} (o : XO D n X raw sc N) (hg : gloB sc "range" = true) (hs : noStar e = true) (hs2 : noStar e2 = true) (hs3 : noStar e3 = true) (pa : PE X e (M1 D n X c)) (pb : PE X e2 (M1 D n X c2)) (pc : PE X e3 (M1 D n X c3)) :
    PI X tg (.Call (.Name "range" p) [e, e2, e3] [] pos) (MI D n X (.rng3 c c2 c3)) :=
  (pi_range3 (o.gl hg) (o.blt "range" (by simp)) (px_cons hs pa (px_cons hs2 pb (px_cons hs3 pc px_nil))) (star_cons hs) (star_any _ _ _ (by rw [List.all_cons, List.all_cons, hs2, hs3]; rfl))).imp fun σ H Q ⟨ρ, ls, h, xs, w, h', g, rs, e, k⟩ => by
    unfold evI at e
    obtain ⟨x, h1, e1, e2⟩ := R.bd_eq_ok e
    obtain ⟨y, h2, e3, e4⟩ := R.bd_eq_ok e2
    obtain ⟨z, h3, e5, e6⟩ := R.bd_eq_ok e4
    clear e e2 e4
    split at e6
    · rename_i i j
      split at e6
      · rename_i hr
        have ea : evEs D (callN D n) (.cons c (.cons c2 (.cons c3 .nil))) ls h = .ok [.int i, .int j, .int (-1)] h3 := by simp only [evEs, e1, e3, e5, R.bd_ok]
        cases e6
        refine ⟨ρ, ls, h, _, _, g, rs, ea, fun ρ1 H1 vs E1 G1 r1 => ?_⟩
        · cases r1 with
          | cons r2 r1 =>
            obtain ⟨v, v2, rfl, r3, r4⟩ := r1.two
            cases r2
            cases r3
            cases r4
            have hb := rg_ok hr
            exact ⟨i, j, -1, _, rfl, RgC.neg hb.1 hb.2.1 hb.2.2.1 hb.2.2.2, k _ _ _ E1 G1 it_rangeC⟩
      · cases e6
    · cases e6
theorem pi_enu {c : CE} {e : Expr} {p pos tpos : Pos} {elts : List Expr} {kk : Nat} (o : XO D n X raw sc N) (hg : gloB sc "enumerate" = true) (hs : noStar e = true) (pa : PE X e (M1 D n X c)) : PI X (.Tuple elts kk tpos) (.Call (.Name "enumerate" p) [e] [] pos) (MI D n X (.enum c)) :=
  (pi_enum (o.gl hg) (o.blt "enumerate" (by simp)) (px_cons hs pa px_nil) (star_cons hs)).imp fun σ H Q ⟨ρ, ls, h, xs, w, h', g, rs, e, k⟩ => by
    unfold evI at e
    obtain ⟨x, h1, e1, e2⟩ := R.bd_eq_ok e
    clear e
    split at e2
    · rename_i ys ey
      have ea : evEs D (callN D n) (.cons c .nil) ls h = .ok [x] h1 := by simp only [evEs, e1, R.bd_ok]
      cases e2
      refine ⟨ρ, ls, h, _, _, g, rs, ea, fun ρ1 H1 vs E1 G1 r1 => ?_⟩
      · obtain ⟨v, rfl, r2⟩ := r1.one
        obtain ⟨a, us, rfl, s1, q1⟩ := G1.lsT r2 ey
        exact ⟨a, us, rfl, s1, k _ _ _ E1 G1 (it_enum r2)⟩
    · cases e2
theorem pi_zp {c c2 : CE} {e e2 : Expr} {p pos tpos : Pos} {elts : List Expr} {kk : Nat} (o : XO D n X raw sc N) (hg : gloB sc "zip" = true) (hs : noStar e = true) (hs2 : noStar e2 = true) (pa : PE X e (M1 D n X c)) (pb : PE X e2 (M1 D n X c2)) :
    PI X (.Tuple elts kk tpos) (.Call (.Name "zip" p) [e, e2] [] pos) (MI D n X (.zip c c2)) :=
  (RZ.pi_zipA (o.gl hg) (o.blt "zip" (by simp)) (px_cons hs pa (px_cons hs2 pb px_nil)) (star_cons hs) (star_any _ _ _ (by rw [List.all_cons, hs2]; rfl))).imp fun σ H Q ⟨ρ, ls, h, xs, w, h', g, rs, e, k⟩ => by
    unfold evI at e
    obtain ⟨x, h1, e1, e2⟩ := R.bd_eq_ok e
    obtain ⟨y, h2, e3, e4⟩ := R.bd_eq_ok e2
    clear e e2
    have ea : evEs D (callN D n) (.cons c (.cons c2 .nil)) ls h = .ok [x, y] h2 := by simp only [evEs, e1, e3, R.bd_ok]
    split at e4
    · cases e4
      refine ⟨ρ, ls, h, _, _, g, rs, ea, fun ρ1 H1 vs E1 G1 r1 => ?_⟩
      obtain ⟨v, v2, rfl, r2, r3⟩ := r1.two
      obtain ⟨a, us, rfl, s1, q1⟩ := r2.tupInv
      obtain ⟨b, ws, rfl, s2, q2⟩ := r3.tupInv
      exact ⟨a, b, us, ws, rfl, .inr ⟨s1.sq, s2.sq, k _ _ _ E1 G1 (it_zipT s1 q1 s2 q2)⟩⟩
    · split at e4
      · rename_i xs1 ys1 ex ey
        cases e4
        refine ⟨ρ, ls, h, _, _, g, rs, ea, fun ρ1 H1 vs E1 G1 r1 => ?_⟩
        obtain ⟨v, v2, rfl, r2, r3⟩ := r1.two
        obtain ⟨a, us, rfl, s1, q1⟩ := G1.lsT r2 ex
        obtain ⟨b, ws, rfl, s2, q2⟩ := G1.lsT r3 ey
        exact ⟨a, b, us, ws, rfl, .inl ⟨s1, s2, k _ _ _ E1 G1 (it_zip r2 r3)⟩⟩
      · cases e4
/-! ranges as lists, as tuples -/
theorem rts_range {K : PySem.W.Frag} {mg : Str → Option Value} {ρ : List Addr} {H : Hp} (a b : Int) : RTs K mg ρ H (rangeT a b) (rgV a b) := by
  unfold rangeT rgV
  generalize List.range (b - a).toNat = l
  induction l with
  | nil => exact .nil
  | cons x l ih => exact .cons (.int _) ih
def rdR (K : PySem.W.Frag) (mg : Str → Option Value) (m : Ls → Hh → R (List T × Wt)) : L2.St → Hp → (Int → Int → Hp → Prop) → Prop := fun σ H Q =>
  ∃ ρ ls h a b w h', G K mg ρ H h ∧ RS K mg ρ H ls σ ∧ m ls h = .ok (rangeT a b, w) h' ∧ rgOk a b = true ∧ ∀ ρ' H', Ext ρ H ρ' H' → G K mg ρ' H' h' → Q a b H'
def isR : CI → Bool
  | .rng1 _ => true
  | .rng2 _ _ => true
  | _ => false
theorem prg1 {c : CE} {e : Expr} {p pos : Pos} (o : XO D n X raw sc N) (hg : gloB sc "range" = true) (hs : noStar e = true) (pa : PE X e (M1 D n X c)) : ∃ te, PRg X (.Call (.Name "range" p) [e] [] pos) te ∧ ∀ σ H Q, (∃ ρ ls h xs w h', G X.K X.mg ρ H h ∧ RS X.K X.mg ρ H ls σ ∧ evI D (callN D n) (.rng1 c) ls h = .ok (xs, w) h' ∧
    ∀ a b, xs = rangeT a b → rgOk a b = true → ∀ ρ' H', Ext ρ H ρ' H' → G X.K X.mg ρ' H' h' → Q a b H') → te σ H Q :=
  ⟨_, prg_1 (o.gl hg) (o.blt "range" (by simp)) pa (star_cons hs), fun σ H Q ⟨ρ, ls, h, xs, w, h', g, rs, e, k⟩ => by
    unfold evI at e
    obtain ⟨x, h1, e1, e2⟩ := R.bd_eq_ok e
    clear e
    split at e2
    · split at e2
      · rename_i hr
        cases e2
        exact ⟨ρ, ls, h, _, _, g, rs, e1, fun ρ1 H1 v1 E1 G1 r1 => by cases r1; exact ⟨_, rfl, k 0 _ rfl hr _ _ E1 G1⟩⟩
      · cases e2
    · cases e2⟩
theorem prg2 {c c2 : CE} {e e2 : Expr} {p pos : Pos} (o : XO D n X raw sc N) (hg : gloB sc "range" = true) (hs : noStar e = true) (hs2 : noStar e2 = true) (pa : PE X e (M1 D n X c)) (pb : PE X e2 (M1 D n X c2)) : ∃ te, PRg X (.Call (.Name "range" p) [e, e2] [] pos) te ∧
    ∀ σ H Q, (∃ ρ ls h xs w h', G X.K X.mg ρ H h ∧ RS X.K X.mg ρ H ls σ ∧ evI D (callN D n) (.rng2 c c2) ls h = .ok (xs, w) h' ∧ ∀ a b, xs = rangeT a b → rgOk a b = true → ∀ ρ' H', Ext ρ H ρ' H' → G X.K X.mg ρ' H' h' → Q a b H') → te σ H Q :=
  ⟨_, prg_2 (o.gl hg) (o.blt "range" (by simp)) pa pb (star_cons hs) (star_cons hs2) (star_any _ _ _ (by rw [List.all_cons, hs2]; rfl)), fun σ H Q ⟨ρ, ls, h, xs, w, h', g, rs, e, k⟩ => by
    unfold evI at e
    obtain ⟨x, h1, e1, e2⟩ := R.bd_eq_ok e
    obtain ⟨y, h2, e3, e4⟩ := R.bd_eq_ok e2
    clear e e2
    split at e4
    · split at e4
      · rename_i hr
        cases e4
        exact ⟨ρ, ls, h, _, _, g, rs, e1, fun ρ1 H1 v1 E1 G1 r1 => ⟨ρ1, ls, h1, _, _, G1, rs.ext E1, e3, fun ρ2 H2 v2 E2 G2 r2 => by
          cases r1
          cases r2
          exact ⟨_, _, rfl, rfl, k _ _ rfl hr _ _ (E1.trans E2) G2⟩⟩⟩
      · cases e4
    · cases e4⟩
theorem px_rng {it : CI} {r : Expr} {p pos : Pos} (o : XO D n X raw sc N) (hs : noStar r = true) (hp : ∃ te, PRg X r te ∧ ∀ σ H Q, (∃ ρ ls h xs w h', G X.K X.mg ρ H h ∧ RS X.K X.mg ρ H ls σ ∧ evI D (callN D n) it ls h = .ok (xs, w) h' ∧ ∀ a b, xs = rangeT a b → rgOk a b = true → ∀ ρ' H', Ext ρ H ρ' H' → G X.K X.mg ρ' H' h' → Q a b H') → te σ H Q) :
    (gloB sc "list" = true → PE X (.Call (.Name "list" p) [r] [] pos) (M1 D n X (.rngL it))) ∧ (gloB sc "tuple" = true → PE X (.Call (.Name "tuple" p) [r] [] pos) (M1 D n X (.rngT it))) := by
  obtain ⟨te, hr, hc⟩ := hp
  refine ⟨fun hg => (pe_listRg o.calm (o.gl hg) (o.blt "list" (by simp)) hr (star_cons hs)).imp fun σ H Q ⟨ρ, ls, h, t, h', g, rs, e, k⟩ => ?_, fun hg => (pe_tupRg o.calm (o.gl hg) (o.blt "tuple" (by simp)) hr (star_cons hs)).imp fun σ H Q ⟨ρ, ls, h, t, h', g, rs, e, k⟩ => ?_⟩
  · unfold evE at e
    obtain ⟨⟨xs, w⟩, h1, e1, e2⟩ := R.bd_eq_ok e
    obtain ⟨hl, rfl, rfl⟩ := newL_ok e2
    refine hc σ H _ ⟨ρ, ls, h, xs, w, h1, g, rs, e1, fun a b ex hb ρ1 H1 E1 G1 => ?_⟩
    subst ex
    have z := rg_ok hb
    rw [rangeT_len] at hl
    exact ⟨⟨z.1, z.2.1, z.2.2.1, z.2.2.2, hl⟩, fun q hq => (k.mono E1).lst G1 (rts_range a b) hq⟩
  · unfold evE at e
    obtain ⟨⟨xs, w⟩, h1, e1, e2⟩ := R.bd_eq_ok e
    obtain ⟨hl, rfl, rfl⟩ := newT_ok e2
    refine hc σ H _ ⟨ρ, ls, h, xs, w, _, g, rs, e1, fun a b ex hb ρ1 H1 E1 G1 => ?_⟩
    subst ex
    have z := rg_ok hb
    rw [rangeT_len] at hl
    exact ⟨⟨z.1, z.2.1, z.2.2.1, z.2.2.2, hl⟩, fun q hq => (k.mono E1).tup G1 (rts_range a b) hq⟩
/-! ### targets -/
abbrev MG (D : Tbl) (n : Nat) (X : Cx) (t : Tg) : TG := rdG X.K X.mg t.vars (evG D (callN D n) t)
abbrev MGs (D : Tbl) (n : Nat) (X : Cx) (t : Tgs) : TGs := rdGs X.K X.mg t.vars (evGs D (callN D n) t)
theorem XO.st (o : XO D n X raw sc N) {x : Str} (h : (locB raw x || celB raw x) = true) : L2.Loc X.env.scope x ∧ (X.fn x = true ∨ X.env.scope.names.lookup x = some .local) := by
  rw [o.esc]
  rw [Bool.or_eq_true] at h
  rcases h with h | h
  · have e := o.rw_ x _ (by decide) (locB_ok h)
    exact ⟨.inl e, .inr e⟩
  · have e := o.rw_ x _ (by decide) (celB_ok h)
    exact ⟨.inr e, .inl (o.fn x (celB_ok h))⟩
theorem pg_var {i : Nat} {x : Str} {p : Pos} (o : XO D n X raw sc N) (hi : N[i]? = some x) (hl : (locB raw x || celB raw x) = true) : PG X (.Name x p) (MG D n X (.var i)) := by
  obtain ⟨h1, h2⟩ := o.st hl
  refine (pg_name (by rw [o.eN]; exact o.nd) (by rw [o.eN]; exact hi) h1 h2).imp fun v σ H Q ⟨ρ, ls, h, t, l', h', g, rs, rt, e, k⟩ => ?_
  unfold evG at e
  split at e
  · rename_i hl
    cases e
    exact k _ _ _ Ext.refl g (rs.set hl rt) fun vs hv => wipe_set (hv i (by simp [Tg.vars]))
  · cases e
theorem pg_tupl {ts : Tgs} {es : List Expr} {j : Nat} {p : Pos} (o : XO D n X raw sc N) (pp : PGs X es (MGs D n X ts)) (h1 : (assignEach es X.env).length = es.length) (h2 : (assignEach es X.env).findIdx? (·.1) = none) (hlen : ∀ xs ls h l' h', evGs D (callN D n) ts xs ls h = .ok l' h' → xs.length = es.length) :
    PG X (.Tuple es j p) (MG D n X (.tup ts)) :=
  (pg_tup o.calm pp h1 h2).imp fun v σ H Q ⟨ρ, ls, h, t, l', h', g, rs, rt, e, k⟩ => by
    unfold evG at e
    split at e
    · rename_i xs
      obtain ⟨a, vs, rfl, s1, q1⟩ := rt.tupAt
      exact ⟨a, vs, rfl, s1, by rw [← q1.length]; exact hlen _ _ _ _ _ e, ρ, ls, h, xs, l', h', g, rs, q1, e, fun ρ2 H2 σ2 E2 G2 S2 ho => k _ _ _ E2 G2 S2 fun vs hv => ho vs (by simpa [Tg.vars] using hv)⟩
    · cases e
theorem pg_item {a i : CE} {a' i' : Expr} {p : Pos} (o : XO D n X raw sc N) (hs : noSlice i' = true) (pa : PE X a' (M1 D n X a)) (pb : PE X i' (M1 D n X i))
    (hsb : ∀ v, assign (.Subscript a' i' p) X.env v = (do
      let ov ← holding [v] (eval a' X.env)
      let iv ← holding [v, ov] (eval i' X.env)
      standAt p
      holding [v, ov, iv] (setItem ov iv v)
      release [v, ov, iv] [])) : PG X (.Subscript a' i' p) (MG D n X (.sub a i)) :=
  (pg_sub pa pb (set_all (by have := o.hu; omega)) hsb).imp fun v σ H Q ⟨ρ, ls, h, t, l', h', g, rs, rt, e, k⟩ => by
    unfold evG at e
    obtain ⟨x, h1, e1, e2⟩ := R.bd_eq_ok e
    obtain ⟨y, h2, e3, e4⟩ := R.bd_eq_ok e2
    obtain ⟨u, h3, e5, e6⟩ := R.bd_eq_ok e4
    cases e6
    exact ⟨ρ, ls, h, x, h1, g, rs, e1, fun ρ1 H1 v1 E1 G1 r1 => ⟨ρ1, ls, h1, y, h2, G1, rs.ext E1, e3, fun ρ2 H2 v2 E2 G2 r2 => ⟨ρ2, h2, x, y, t, _, G2, r1.ext E2, r2, rt.ext (E1.trans E2), e5, fun ρ3 H3 E3 G3 => k _ _ _ (E1.trans (E2.trans E3)) G3 (rs.ext (E1.trans (E2.trans E3))) Only1.refl⟩⟩⟩
theorem pgs_n : PGs X [] (MGs D n X .nil) := pgs_nil.imp fun v σ H Q ⟨ρ, ls, h, t, l', h', g, rs, rt, e, k⟩ => by
  cases t with
  | nil =>
    simp only [evGs] at e
    cases e
    cases rt
    exact ⟨rfl, k _ _ _ Ext.refl g rs Only1.refl⟩
  | cons a b =>
    simp only [evGs] at e
    cases e
theorem each_cons {e : Expr} {es : List Expr} {env : Env} (h : noStar e = true) : (assignEach (e :: es) env).map (·.2) = assign e env :: (assignEach es env).map (·.2) := by
  cases e <;> first | rfl | cases h
theorem each_len {env : Env} : ∀ es : List Expr, es.all noStar = true → (assignEach es env).length = es.length ∧ (assignEach es env).findIdx? (·.1) = none
  | [], _ => ⟨rfl, rfl⟩
  | e :: es, h => by
    rw [List.all_cons, Bool.and_eq_true] at h
    obtain ⟨a, b⟩ := each_len (env := env) es h.2
    have z : assignEach (e :: es) env = (false, assign e env) :: assignEach es env := by
      cases e <;> first | rfl | (cases h.1; done)
    rw [z, List.findIdx?_cons]
    exact ⟨by rw [List.length_cons, List.length_cons, a], by rw [b]; rfl⟩
theorem pgs_c {t : Tg} {ts : Tgs} {e : Expr} {es : List Expr} (hs : noStar e = true) (p : PG X e (MG D n X t)) (q : PGs X es (MGs D n X ts)) : PGs X (e :: es) (MGs D n X (.cons t ts)) :=
  (pgs_cons p q (each_cons hs)).imp fun v σ H Q ⟨ρ, ls, h, t, l', h', g, rs, rt, e, k⟩ => by
    cases t with
    | nil =>
      simp only [evGs] at e
      cases e
    | cons a b =>
      simp only [evGs] at e
      obtain ⟨l1, h1, e1, e2⟩ := R.bd_eq_ok e
      cases rt with
      | cons r1 r2 =>
        exact ⟨_, _, rfl, ρ, ls, h, a, l1, h1, g, rs, r1, e1, fun ρ1 H1 σ1 E1 G1 S1 ho1 => ⟨ρ1, l1, h1, b, l', h', G1, S1, r2.ext E1, e2, fun ρ2 H2 σ2 E2 G2 S2 ho2 => k _ _ _ (E1.trans E2) G2 S2 fun vs hv => by
          simp only [Tgs.vars, List.mem_append] at hv
          rw [ho2 vs fun i hi => hv i (.inr hi), ho1 vs fun i hi => hv i (.inl hi)]⟩⟩
/-! ### comprehensions -/
theorem relS_keep {scope sc : Scope} {x : Str} {k : NameKind} (hk : k ≠ .free) (h : scope.names.lookup x = some k) : (relS scope sc).names.lookup x = some k := lookup_relS_keep hk h
theorem XO.blk (o : XO D n X raw sc N) {scope : Scope} (hk : scope.kind = .function) (s : Shared) (H : Hp) (C : Addr) (cl : List (Str × Addr)) (fp : List Addr) : XO D n (X.blk s H scope (compEnvC scope cl C X.env) fp) scope (relS scope sc) N where
  esc := by
    show relS scope X.env.scope = _
    rw [o.esc]
  eN := o.eN
  nd := o.nd
  calm := o.calm
  room := o.room
  gd := o.gd
  kd := hk
  rw_ := fun x k hk h => relS_keep hk h
  fn := fun x h => by
    show (scope.names.lookup x == some NameKind.cell) = true
    rw [h]
    rfl
  pas := PassesOwn.never
  fns := o.fns
  gls := o.gls
  blt := o.blt
end
end MP

set_option Elab.async false
set_option linter.all false
set_option maxRecDepth 100000
/-! MiniPy, part L: comprehensions -/
namespace MP
open PySem PySem.Spec PyProof.Rows L2
section
variable {D : Tbl} {n : Nat} {X : Cx} {raw sc : Scope} {N : List Str}
theorem Ext.poke {ρ ρ' : List Addr} {H H' : Hp} {p : Addr} {o u : HO} (e : Ext ρ H ρ' H') (hp : H p = none) (hu : H' p = some u) (h1 : ∀ xs, u ≠ .tup xs) (h2 : ∀ q w, u ≠ .frz q w) : Ext ρ H ρ' (upd H' p o) where
  pre := e.pre
  new := e.new
  keep := fun a q ea hm => by
    rw [upd_ne (ne_of_none ea hp)]
    exact e.keep a q ea hm
  tup := fun a xs ea => by
    rw [upd_ne (ne_of_none ea hp)]
    exact e.tup a xs ea
  frz := fun a q z ea => by
    rw [upd_ne (ne_of_none ea hp)]
    exact e.frz a q z ea
theorem Ext.addp {ρ ρ' : List Addr} {H H' : Hp} {p : Addr} (e : Ext ρ H ρ' H') (hp : H p = none) : Ext ρ H (ρ' ++ [p]) H' where
  pre := e.pre.trans (List.prefix_append _ _)
  new := fun a ha => by
    rcases List.mem_append.mp ha with q | q
    · exact e.new a q
    · rw [List.mem_singleton.mp q]
      exact .inr hp
  keep := e.keep
  tup := e.tup
  frz := e.frz
theorem Ext.offp {ρ ρ' : List Addr} {H H' : Hp} {p : Addr} {u : HO} (e : Ext ρ H ρ' H') (hm : p ∉ ρ) (hu : H p = some u) : p ∉ ρ' ∧ H' p = some u := by
  refine ⟨fun h => ?_, e.keep p u hu hm⟩
  rcases e.new p h with z | z
  · exact hm z
  · rw [hu] at z
    cases z
abbrev MC (D : Tbl) (n : Nat) (X : Cx) (c : CO) : TT := rdT X.K X.mg (evC D (callN D n) c)
theorem comp_rd {own : List Nat} {tg : Tg} {it : CI} {c : CO} {elt : CE} {σ : L2.St} {H : Hp} {Q : VK} (hv : ∀ i ∈ tg.vars, i ∈ own) (q : M1 D n X (.comp own tg it c elt) σ H Q) :
    tLc (MI D n X it) (MG D n X tg) (MC D n X c) (M1 D n X elt) own σ H Q := by
  obtain ⟨ρ, ls, h, t, h', g, rs, e, k⟩ := q
  unfold evE at e
  obtain ⟨⟨xs, w⟩, h1, e1, e2⟩ := R.bd_eq_ok e
  clear e
  refine ⟨ρ, ls, h, xs, w, h1, g, rs, e1, fun ρ1 H1 J E1 G1 IO Dd hD => ?_⟩
  let RUN := fun (ys : List T) (acc : List T) (hh : Hh) => evComp w (fun x l hh => evG D (callN D n) tg x l hh) (fun l hh => evC D (callN D n) c l hh) (fun l hh => evE D (callN D n) elt l hh) (wipeL ls own) ys acc hh
  refine ⟨fun i m H2 => ∃ ρ2 h2 acc av, Ext ρ1 H1 ρ2 H2 ∧ G X.K X.mg ρ2 H2 h2 ∧ Dd ∉ ρ2 ∧ H2 Dd = some (.lst av) ∧ RTs X.K X.mg ρ2 H2 acc av ∧ m = xs.length - i ∧ i ≤ xs.length ∧ RUN (xs.drop i) acc h2 = .ok t h',
    ⟨xs.length, ρ1, h1, [], [], Ext.fresh hD, G1.fresh hD, G1.not_mem hD, upd_same, .nil, by omega, Nat.zero_le _, e2⟩, ?_⟩
  rintro i m H2 ⟨ρ2, h2, acc, av, E2, G2, hn, hDd, ra, rfl, hi, er⟩
  by_cases hlt : i < xs.length
  · -- a turn
    have hx : xs[i]? = some xs[i] := List.getElem?_eq_getElem hlt
    have hdrop : xs.drop i = xs[i] :: xs.drop (i + 1) := List.drop_eq_getElem_cons hlt
    generalize xs[i] = x at hx hdrop
    have er' : RUN (x :: xs.drop (i + 1)) acc h2 = .ok t h' := by rw [← hdrop]; exact er
    have er2 : (if wtOk w h2 = true then (evG D (callN D n) tg x (wipeL ls own) h2).bd fun ls1 h1 => (evC D (callN D n) c ls1 h1).bd fun b h2 => match b with
      | .bl true => (evE D (callN D n) elt ls1 h2).bd fun y h3 => if acc.length < 16777216 then RUN (xs.drop (i + 1)) (acc ++ [y]) h3 else .bad
      | .bl false => RUN (xs.drop (i + 1)) acc h2
      | _ => .bad
      else .bad) = R.ok t h' := er'
    split at er2
    · rename_i hw
      obtain ⟨l1, h3, e3, e4⟩ := R.bd_eq_ok er2
      obtain ⟨b, h4, e5, e6⟩ := R.bd_eq_ok e4
      obtain ⟨hgo, hyl⟩ := (IO.all ρ2 H2 h2 E2 G2 hw).1 i x hx
      refine .inr ⟨hgo, fun H' => ∃ ρ' h2' acc' av', Ext ρ1 H1 ρ' H' ∧ G X.K X.mg ρ' H' h2' ∧ Dd ∉ ρ' ∧ H' Dd = some (.lst av') ∧ RTs X.K X.mg ρ' H' acc' av' ∧ RUN (xs.drop (i + 1)) acc' h2' = .ok t h',
        fun H' ⟨ρ', h2', acc', av', a1, a2, a3, a4, a5, a6⟩ => ⟨xs.length - (i + 1), by omega, ρ', h2', acc', av', a1, a2, a3, a4, a5, rfl, hlt, a6⟩, fun v H' hy => ?_⟩
      obtain ⟨E3, G3, rv⟩ := hyl v H' hy
      obtain ⟨hn3, hD3⟩ := E3.offp hn hDd
      refine ⟨ρ2, wipeL ls own, h2, x, l1, h3, G3, (rs.ext (E1.trans (E2.trans E3))).wipe own, rv, e3, fun ρ4 H4 σ4 E4 G4 S4 ho => ⟨?_, ?_⟩⟩
      · rw [ho own hv, wipe_wipe]
      obtain ⟨hn4, hD4⟩ := E4.offp hn3 hD3
      obtain ⟨bb, hbb⟩ : ∃ bb, b = .bl bb := by
        cases b with
        | bl bb => exact ⟨bb, rfl⟩
        | _ => cases e6
      subst hbb
      refine ⟨ρ4, l1, h3, bb, h4, G4, S4, e5, fun ρ5 H5 E5 G5 => ?_⟩
      obtain ⟨hn5, hD5⟩ := E5.offp hn4 hD4
      have E35 := E3.trans (E4.trans E5)
      cases bb with
      | false => exact iteF ⟨ρ5, h4, acc, av, E2.trans E35, G5, hn5, hD5, ra.ext E35, e6⟩
      | true =>
        obtain ⟨y, h6, e7, e8⟩ := R.bd_eq_ok e6
        split at e8
        · rename_i hlen
          refine iteT ⟨ρ5, l1, h4, y, h6, G5, S4.ext E5, e7, fun ρ6 H6 yv E6 G6 ry => ?_⟩
          obtain ⟨hn6, hD6⟩ := E6.offp hn5 hD5
          have E36 := E35.trans E6
          have ra6 := ra.ext E36
          have hw6 := Wk.poke (ρ := ρ6) (o := .lst (av ++ [yv])) hD6 (by intro xs z; cases z) (by intro q w z; cases z)
          exact ⟨av, hD6, line_lt (by rw [← ra.length]; exact hlen), ρ6, h6, acc ++ [y], av ++ [yv], (E2.trans E36).poke hD hD6 (by intro xs z; cases z) (by intro q w z; cases z), G6.poke hn6 hD6 (by intro xs z; cases z) (by intro q w z; cases z), hn6, upd_same,
            (ra6.append (.cons ry .nil)).wk hw6, e8⟩
        · cases e8
    · cases er2
  · -- the end
    have hd : xs.drop i = [] := List.drop_eq_nil_of_le (by omega)
    have er' : RUN [] acc h2 = .ok t h' := by rw [← hd]; exact er
    have er2 : (if wtOk w h2 = true then R.ok (T.ref h2.length) (h2 ++ [.lst acc]) else .bad) = R.ok t h' := er'
    split at er2
    · rename_i hw
      cases er2
      refine .inl ⟨(IO.all ρ2 H2 h2 E2 G2 hw).2 i (by omega), ?_⟩
      exact k _ _ _ (E1.trans (E2.addp hD)) (G2.add hn (.lst hDd ra)) (RT.last G2)
    · cases er2
theorem pts_no : PTs X [] (MC D n X .no) := ⟨fun pins s σ H Q I q => by
  obtain ⟨ρ, ls, h, b, h', g, rs, e, k⟩ := q
  unfold evC at e
  cases e
  exact pts_nil.run pins s σ H Q I (k _ _ Ext.refl g)⟩
theorem pts_so {c : CE} {e : Expr} (p : PT X e (M1T D n X c)) : PTs X [e] (MC D n X (.so c)) := ⟨fun pins s σ H Q I q => by
  obtain ⟨ρ, ls, h, b, h', g, rs, e, k⟩ := q
  unfold evC at e
  exact (pts_one p).run pins s σ H Q I ⟨ρ, ls, h, b, h', g, rs, e, k⟩⟩
def ownOf (N : List Str) (own : List Nat) : List (Str × Nat) := own.map fun i => (N.getD i "", i)
theorem ownOf_snd (N : List Str) (own : List Nat) : (ownOf N own).map (·.2) = own := by
  unfold ownOf
  rw [List.map_map]
  exact List.map_id _
/-- what a comprehension's parts are -/
structure LcOk (D : Tbl) (n : Nat) (X : Cx) (sc : Scope) (N : List Str) (own : List Nat) (tg : Tg) (it : CI) (c : CO) (elt : CE) (tg' it' elt' : Expr) (ifs : List Expr) (scope : Scope) : Prop where
  blk : BlkOk X.N X.env.scope scope (ownOf N own)
  vars : ∀ i ∈ tg.vars, i ∈ own
  set : noSet it' = true
  pi : PI X tg' it' (MI D n X it)
  pg : ∀ (s : Shared) (H : Hp) (C : Addr) (cl : List (Str × Addr)) (fp : List Addr), PG (X.blk s H scope (compEnvC scope cl C X.env) fp) tg' (MG D n X tg)
  pt : ∀ (s : Shared) (H : Hp) (C : Addr) (cl : List (Str × Addr)) (fp : List Addr), PTs (X.blk s H scope (compEnvC scope cl C X.env) fp) ifs (MC D n X c)
  pe : ∀ (s : Shared) (H : Hp) (C : Addr) (cl : List (Str × Addr)) (fp : List Addr), PE (X.blk s H scope (compEnvC scope cl C X.env) fp) elt' (M1 D n X elt)
theorem px_comp {own : List Nat} {tg : Tg} {it : CI} {c : CO} {elt : CE} {tg' it' elt' : Expr} {ifs : List Expr} {scope : Scope} {pos : Pos} (o : XO D n X raw sc N) (l : LcOk D n X sc N own tg it c elt tg' it' elt' ifs scope) :
    PE X (.ListComp elt' [⟨tg', it', ifs, 0⟩] scope pos) (M1 D n X (.comp own tg it c elt)) := by
  have hN : X.N.Nodup := by rw [o.eN]; exact o.nd
  refine (pe_lc o.calm hN l.pi l.blk l.pg l.pt l.pe (set_of l.set)).imp fun σ H Q q => ?_
  rw [ownOf_snd]
  exact comp_rd l.vars q
end
end MP

set_option Elab.async false
set_option linter.all false
set_option maxRecDepth 100000
/-! MiniPy, part M: statements -/
namespace MP
open PySem PySem.Spec PyProof.Rows L2
theorem swn_tg {tg e : Expr} {env : Env} (h : isTupE tg = false) (h2 : isListE tg = false) : swappedStores [tg] e env = pure none := by
  cases tg <;> first | rfl | (cases h; done) | (cases h2; done)
theorem swn_e {tg e : Expr} {env : Env} (h : isTupE e = false) : swappedStores [tg] e env = pure none := by
  cases e <;> first | (cases h; done) | (cases tg <;> rfl)
theorem blk_fn {env : Env} (hk : env.scope.kind = .function) : env.blockKind = .function := by
  unfold Env.blockKind
  rw [hk]
  rfl
theorem noStar_any {a : Expr} (h : noStar a = true) : (match a with | .Starred .. => true | _ => false) = false := by
  cases a <;> first | rfl | cases h
theorem swn_long {ts vs : List Expr} {k k2 : Nat} {p p2 : Pos} {env : Env} (h : ts.length ≠ 2) (h3 : ts.length ≠ 3) : swappedStores [.Tuple ts k p] (.Tuple vs k2 p2) env = pure none := by
  unfold swappedStores
  have : (!(ts.length == 2 || ts.length == 3)) = true := by simp [h, h3]
  simp only [this, Bool.true_or, if_true]
theorem sw2_some {x y : Str} {px py pt pt2 : Pos} {kt k2 : Nat} {a b : Expr} {env : Env} (hk : env.scope.kind = .function) (hx : env.scope.names.lookup x = some .local) (hy : env.scope.names.lookup y = some .local) (hl : (py.line == px.line) = true) (hxy : x ≠ y) (ha : noStar a = true) (hb : noStar b = true)
    (hf : (foldedForSure 8 a && foldedForSure 8 b) = false) (hc : (constantsAlone 8 a && constantsAlone 8 b) = false) : swappedStores [.Tuple [.Name x px, .Name y py] kt pt] (.Tuple [a, b] k2 pt2) env = pure (some [x, y]) := by
  have kx : env.kindOf x = some .local := hx
  have ky : env.kindOf y = some .local := hy
  have hne : (y == x) = false := beq_eq_false_iff_ne.mpr (Ne.symm hxy)
  have hne2 : (x == y) = false := beq_eq_false_iff_ne.mpr hxy
  unfold swappedStores
  simp only [blk_fn hk, List.length_cons, List.length_nil, List.any_cons, List.any_nil, List.all_cons, List.all_nil, List.filterMap_cons, List.filterMap_nil, kx, ky, List.head?_cons, Option.map_some, Option.getD_some, Expr.pos, hl, Bool.and_true, hf, hc]
  simp [List.eraseDups_cons, hne, hne2]
  intro h
  exfalso
  rcases h with h | h
  · cases a <;> first | (cases h; done) | (cases ha; done)
  · cases b <;> first | (cases h; done) | (cases hb; done)
theorem sw2_none {x y : Str} {px py pt pt2 : Pos} {kt k2 : Nat} {a b : Expr} {env : Env} (ha : noStar a = true) (hb : noStar b = true)
    (h : (match env.scope.names.lookup x with | some .local => true | _ => false) = false ∨ (match env.scope.names.lookup y with | some .local => true | _ => false) = false ∨ (foldedForSure 8 a && foldedForSure 8 b) = true) : swappedStores [.Tuple [.Name x px, .Name y py] kt pt] (.Tuple [a, b] k2 pt2) env = pure none := by
  unfold swappedStores
  simp only [List.length_cons, List.length_nil, List.any_cons, List.any_nil, List.all_cons, List.all_nil, List.filterMap_cons, List.filterMap_nil, List.head?_cons, Option.map_some, Option.getD_some, Expr.pos, Bool.and_true]
  rcases h with h | h | h
  · have kx : (env.kindOf x == some NameKind.local) = false := by
      show (env.scope.names.lookup x == some NameKind.local) = false
      split at h
      · cases h
      · rename_i hn
        exact beq_eq_false_iff_ne.mpr hn
    simp only [kx, Bool.false_and]
    split
    · rfl
    · split
      · rfl
      · simp
        intros
        exfalso
        by_cases hc : env.kindOf y = some NameKind.local ∧ py.line = px.line <;> simp_all
  · have ky : (env.kindOf y == some NameKind.local) = false := by
      show (env.scope.names.lookup y == some NameKind.local) = false
      split at h
      · cases h
      · rename_i hn
        exact beq_eq_false_iff_ne.mpr hn
    simp only [ky, Bool.false_and]
    split
    · rfl
    · split
      · rfl
      · simp
        intros
        exfalso
        by_cases hc : env.kindOf x = some NameKind.local <;> simp_all
  · simp only [h]
    split
    · rfl
    · split
      · rfl
      · split
        · rfl
        · simp
theorem sw3_some {x y z : Str} {px py pz pt pt2 : Pos} {kt k2 : Nat} {a b c : Expr} {env : Env} (hk : env.scope.kind = .function) (hx : env.scope.names.lookup x = some .local) (hy : env.scope.names.lookup y = some .local) (hz : env.scope.names.lookup z = some .local)
    (hl : (py.line == px.line) = true) (hl2 : (pz.line == px.line) = true) (hxy : x ≠ y) (hxz : x ≠ z) (hyz : y ≠ z) (ha : noStar a = true) (hb : noStar b = true) (hc' : noStar c = true)
    (hf : (foldedForSure 8 a && (foldedForSure 8 b && foldedForSure 8 c)) = false) (hc : (constantsAlone 8 a && (constantsAlone 8 b && constantsAlone 8 c)) = false) : swappedStores [.Tuple [.Name x px, .Name y py, .Name z pz] kt pt] (.Tuple [a, b, c] k2 pt2) env = pure (some [x, y, z]) := by
  have kx : env.kindOf x = some .local := hx
  have ky : env.kindOf y = some .local := hy
  have kz : env.kindOf z = some .local := hz
  have n1 : (y == x) = false := beq_eq_false_iff_ne.mpr (Ne.symm hxy)
  have n2 : (z == x) = false := beq_eq_false_iff_ne.mpr (Ne.symm hxz)
  have n3 : (z == y) = false := beq_eq_false_iff_ne.mpr (Ne.symm hyz)
  unfold swappedStores
  simp only [blk_fn hk, List.length_cons, List.length_nil, List.any_cons, List.any_nil, List.all_cons, List.all_nil, List.filterMap_cons, List.filterMap_nil, kx, ky, kz, List.head?_cons, Option.map_some, Option.getD_some, Expr.pos, hl, hl2, Bool.and_true, hf, hc]
  simp [List.eraseDups_cons, n1, n2, n3]
  intro h
  exfalso
  rcases h with h | h | h
  · cases a <;> first | (cases h; done) | (cases ha; done)
  · cases b <;> first | (cases h; done) | (cases hb; done)
  · cases c <;> first | (cases h; done) | (cases hc'; done)
theorem sw3_none {x y z : Str} {px py pz pt pt2 : Pos} {kt k2 : Nat} {a b c : Expr} {env : Env}
    (h : (match env.scope.names.lookup x with | some .local => true | _ => false) = false ∨ (match env.scope.names.lookup y with | some .local => true | _ => false) = false ∨ (match env.scope.names.lookup z with | some .local => true | _ => false) = false ∨ (foldedForSure 8 a && (foldedForSure 8 b && foldedForSure 8 c)) = true) :
    swappedStores [.Tuple [.Name x px, .Name y py, .Name z pz] kt pt] (.Tuple [a, b, c] k2 pt2) env = pure none := by
  have off : ∀ {w : Str}, (match env.scope.names.lookup w with | some .local => true | _ => false) = false → (env.kindOf w == some NameKind.local) = false := fun {w} h => by
    show (env.scope.names.lookup w == some NameKind.local) = false
    split at h
    · cases h
    · rename_i hn
      exact beq_eq_false_iff_ne.mpr hn
  unfold swappedStores
  simp only [List.length_cons, List.length_nil, List.any_cons, List.any_nil, List.all_cons, List.all_nil, List.filterMap_cons, List.filterMap_nil, List.head?_cons, Option.map_some, Option.getD_some, Expr.pos, Bool.and_true]
  rcases h with h | h | h | h
  · simp only [off h, Bool.false_and]
    split
    · rfl
    · split
      · rfl
      · simp
        intros
        exfalso
        by_cases c1 : env.kindOf y = some NameKind.local ∧ py.line = px.line <;> by_cases c2 : env.kindOf z = some NameKind.local ∧ pz.line = px.line <;> simp_all
  · simp only [off h, Bool.false_and]
    split
    · rfl
    · split
      · rfl
      · simp
        intros
        exfalso
        by_cases c1 : env.kindOf x = some NameKind.local <;> by_cases c2 : env.kindOf z = some NameKind.local ∧ pz.line = px.line <;> simp_all
  · simp only [off h, Bool.false_and]
    split
    · rfl
    · split
      · rfl
      · simp
        intros
        exfalso
        by_cases c1 : env.kindOf x = some NameKind.local <;> by_cases c2 : env.kindOf y = some NameKind.local ∧ py.line = px.line <;> simp_all
  · simp only [h]
    split
    · rfl
    · split
      · rfl
      · split
        · rfl
        · simp
end MP

set_option Elab.async false
set_option linter.all false
set_option maxRecDepth 100000
/-! MiniPy, part N: the check of statements; the whole soundness -/
namespace MP
open PySem PySem.Spec PyProof.Rows L2
/-- a comprehension whose name is stored within it -/
def lcSwap (sc : Scope) (tg e : Expr) : Bool := match e, tg with
  | .ListComp _ _ scope p, .Name y py => locB sc y && (py.line == p.line) && !(scope.names.any fun (n, k) => n == y && (k == .local || k == .cell))
  | _, _ => false
def swpF (sc : Scope) (tg e : Expr) : Bool := noComp e || (match e with | .ListComp .. => true | _ => false) && !lcSwap sc tg e
def swnF (sc : Scope) (tg e : Expr) : Bool := (!isTupE tg && !isListE tg) || !isTupE e || (match tg, e with
  | .Tuple ts _ _, .Tuple vs _ _ => (decide (ts.length ≠ 2) && decide (ts.length ≠ 3)) || (match ts, vs with
    | [.Name x _, .Name y _], [a, b] => noStar a && noStar b && (!locB sc x || !locB sc y || (foldedForSure 8 a && foldedForSure 8 b))
    | [.Name x _, .Name y _, .Name z _], [a, b, c] => !locB sc x || !locB sc y || !locB sc z || (foldedForSure 8 a && (foldedForSure 8 b && foldedForSure 8 c))
    | _, _ => false)
  | _, _ => false)
def par2 (sc : Scope) (tg e : Expr) : Bool := match tg, e with
  | .Tuple [.Name x px, .Name y py] _ _, .Tuple [a, b] _ _ => locB sc x && locB sc y && (py.line == px.line) && !decide (x = y) && noStar a && noStar b && !(foldedForSure 8 a && foldedForSure 8 b) && !(constantsAlone 8 a && constantsAlone 8 b)
  | _, _ => false
def par3 (sc : Scope) (tg e : Expr) : Bool := match tg, e with
  | .Tuple [.Name x px, .Name y py, .Name z pz] _ _, .Tuple [a, b, c] _ _ => locB sc x && locB sc y && locB sc z && (py.line == px.line) && (pz.line == px.line) && !decide (x = y) && !decide (x = z) && !decide (y = z) && noStar a && noStar b && noStar c &&
      !(foldedForSure 8 a && (foldedForSure 8 b && foldedForSure 8 c)) && !(constantsAlone 8 a && (constantsAlone 8 b && constantsAlone 8 c))
  | _, _ => false
mutual
def chkS (D : Tbl) (N : List Str) : CS → (raw sc : Scope) → Stmt → Bool
  | .pass, raw, sc, s => match s with
    | .Pass _ => true
    | .Expr (.Constant (.str _) _ _) _ => true
    | _ => false
  | .expr c, raw, sc, s => match s with
    | .Expr e _ => noComp e && chkE D N c raw sc e
    | _ => false
  | .ret c, raw, sc, s => match s with
    | .Return (some e) _ => chkE D N c raw sc e
    | _ => false
  | .retN, raw, sc, s => match s with
    | .Return none _ => true
    | _ => false
  | .set t c, raw, sc, s => match s with
    | .Assign [tg] e _ => noStar tg && chkG D N t raw sc tg && chkE D N c raw sc e && ((swpF sc tg e && swnF sc tg e) || par2 sc tg e || par3 sc tg e || lcSwap sc tg e)
    | _ => false
  | .aug i op c, raw, sc, s => match s with
    | .AugAssign (.Name x _) o e _ => decide (op.o = o) && decide (N[i]? = some x) && (locB raw x || celB raw x) && okName x && chkE D N c raw sc e
    | _ => false
  | .augS _ _ _ _, _, _, _ => false
  | .iff c a b, raw, sc, s => match s with
    | .If e p q _ => c.tst && chkE D N c raw sc e && chkSs D N a raw sc p && chkSs D N b raw sc q
    | _ => false
  | .for t it body, raw, sc, s => match s with
    | .For tg iter p [] _ => noSet iter && chkI D N it raw sc iter (isTupE tg) && chkG D N t raw sc tg && chkSs D N body raw sc p
    | _ => false
  | .whl c body, raw, sc, s => match s with
    | .While e p [] _ => c.tst && chkE D N c raw sc e && chkSs D N body raw sc p
    | _ => false
  | .brk, raw, sc, s => match s with
    | .Break _ => true
    | _ => false
  | .cnt, raw, sc, s => match s with
    | .Continue _ => true
    | _ => false
  | .never, _, _, _ => true
def chkSs (D : Tbl) (N : List Str) : CSs → (raw sc : Scope) → List Stmt → Bool
  | .nil, raw, sc, ss => match ss with
    | [] => true
    | _ => false
  | .cons c cs, raw, sc, ss => match ss with
    | s :: r => chkS D N c raw sc s && chkSs D N cs raw sc r
    | [] => false
end
section
variable {D : Tbl} {n : Nat} {X : Cx} {raw sc : Scope} {N : List Str}
/-! ### readings of expressions: all together -/
theorem all_and {a b : Bool} (h : (a && b) = true) : a = true ∧ b = true := by rwa [Bool.and_eq_true] at h
theorem chkEs_star : ∀ (cs : CEs) {raw sc : Scope} {es : List Expr}, chkEs D N cs raw sc es = true → es.all noStar = true ∧ (es = [] → cs = .nil)
  | .nil, raw, sc, es, h => by
    unfold chkEs at h
    split at h
    · exact ⟨rfl, fun _ => rfl⟩
    · cases h
  | .cons c cs, raw, sc, es, h => by
    unfold chkEs at h
    split at h
    · rename_i e r
      obtain ⟨h, h3⟩ := all_and h
      obtain ⟨h1, h2⟩ := all_and h
      rw [List.all_cons, h1, (chkEs_star cs h3).1]
      exact ⟨rfl, fun z => nomatch z⟩
    · cases h
theorem evEs_len {C : String → List T → Hh → R T} : ∀ (cs : CEs) {raw sc : Scope} {es : List Expr} {ls : Ls} {h h' : Hh} {xs : List T}, chkEs D N cs raw sc es = true → evEs D C cs ls h = .ok xs h' → xs.length = es.length
  | .nil, raw, sc, es, ls, h, h', xs, hc, e => by
    unfold chkEs at hc
    unfold evEs at e
    cases e
    split at hc
    · rfl
    · cases hc
  | .cons c cs, raw, sc, es, ls, h, h', xs, hc, e => by
    unfold chkEs at hc
    unfold evEs at e
    obtain ⟨x, h1, e1, e2⟩ := R.bd_eq_ok e
    obtain ⟨ys, h2, e3, e4⟩ := R.bd_eq_ok e2
    cases e4
    split at hc
    · rename_i e' r
      obtain ⟨_, h3⟩ := all_and hc
      rw [List.length_cons, List.length_cons, evEs_len cs h3 e3]
    · cases hc
theorem evKV_len {C : String → List T → Hh → R T} : ∀ (cs : CKs) {raw sc : Scope} {ks : List (Option Expr)} {vs : List Expr} {ls : Ls} {h h' : Hh} {p : List T × List T}, chkKV D N cs raw sc ks vs = true → evKV D C cs ls h = .ok p h' → p.1.length = ks.length
  | .nil, raw, sc, ks, vs, ls, h, h', p, hc, e => by
    unfold chkKV at hc
    unfold evKV at e
    cases e
    split at hc
    · rfl
    · cases hc
  | .cons k v r, raw, sc, ks, vs, ls, h, h', p, hc, e => by
    unfold chkKV at hc
    unfold evKV at e
    obtain ⟨x, h1, e1, e2⟩ := R.bd_eq_ok e
    obtain ⟨y, h2, e3, e4⟩ := R.bd_eq_ok e2
    obtain ⟨q, h3, e5, e6⟩ := R.bd_eq_ok e4
    cases e6
    split at hc
    · obtain ⟨_, h4⟩ := all_and hc
      show (x :: q.1).length = _
      rw [List.length_cons, List.length_cons, evKV_len r h4 e5]
    · cases hc
theorem evGs_len {C : String → List T → Hh → R T} : ∀ (cs : Tgs) {raw sc : Scope} {es : List Expr} {ls l' : Ls} {h h' : Hh} {xs : List T}, chkGs D N cs raw sc es = true → evGs D C cs xs ls h = .ok l' h' → xs.length = es.length
  | .nil, raw, sc, es, ls, l', h, h', xs, hc, e => by
    unfold chkGs at hc
    cases xs with
    | nil =>
      split at hc
      · rfl
      · cases hc
    | cons a b =>
      simp only [evGs] at e
      cases e
  | .cons c cs, raw, sc, es, ls, l', h, h', xs, hc, e => by
    unfold chkGs at hc
    cases xs with
    | nil =>
      simp only [evGs] at e
      cases e
    | cons a b =>
      simp only [evGs] at e
      obtain ⟨l1, h1, e1, e2⟩ := R.bd_eq_ok e
      split at hc
      · obtain ⟨_, h3⟩ := all_and hc
        rw [List.length_cons, List.length_cons, evGs_len cs h3 e2]
      · cases hc
theorem chkGs_star : ∀ (cs : Tgs) {raw sc : Scope} {es : List Expr}, chkGs D N cs raw sc es = true → es.all noStar = true
  | .nil, raw, sc, es, h => by
    unfold chkGs at h
    split at h
    · rfl
    · cases h
  | .cons c cs, raw, sc, es, h => by
    unfold chkGs at h
    split at h
    · obtain ⟨h, h3⟩ := all_and h
      obtain ⟨h1, h2⟩ := all_and h
      rw [List.all_cons, h1, chkGs_star cs h3]
      rfl
    · cases h
theorem sub_assign {o i : Expr} {p : Pos} {env : Env} (h : noSlice i = true) : ∀ v, assign (.Subscript o i p) env v = (do
      let ov ← holding [v] (eval o env)
      let iv ← holding [v, ov] (eval i env)
      standAt p
      holding [v, ov, iv] (setItem ov iv v)
      release [v, ov, iv] []) := by
  intro v
  cases i <;> first | rfl | cases h
theorem chkKV_len : ∀ (cs : CKs) {raw sc : Scope} {ks : List (Option Expr)} {vs : List Expr}, chkKV D N cs raw sc ks vs = true → ks.all (·.isSome) = true ∧ ks.length = vs.length ∧ (ks = [] → cs = .nil)
  | .nil, raw, sc, ks, vs, h => by
    unfold chkKV at h
    split at h
    · exact ⟨rfl, rfl, fun _ => rfl⟩
    · cases h
  | .cons k v r, raw, sc, ks, vs, h => by
    unfold chkKV at h
    split at h
    · obtain ⟨_, h3⟩ := all_and h
      obtain ⟨a, b, _⟩ := chkKV_len r h3
      rw [List.all_cons, a, List.length_cons, List.length_cons, b]
      exact ⟨rfl, rfl, fun z => nomatch z⟩
    · cases h
theorem chkKW_names : ∀ (cs : CEs) {raw sc : Scope} {ks : List String} {kws : List Keyword}, chkKW D N cs raw sc ks kws = true → kws.map (·.arg) = ks.map fun k => some (Str.ofString k)
  | .nil, raw, sc, ks, kws, h => by
    unfold chkKW at h
    split at h
    · rfl
    · cases h
  | .cons c cs, raw, sc, ks, kws, h => by
    unfold chkKW at h
    split at h
    · obtain ⟨h, h3⟩ := all_and h
      obtain ⟨h1, h2⟩ := all_and h
      rw [List.map_cons, List.map_cons, chkKW_names cs h3]
      rw [decide_eq_true_eq] at h1
      rw [← h1]
    · cases h
end
end MP

set_option Elab.async false
set_option linter.all false
set_option maxRecDepth 100000
/-! MiniPy, part O: every checked expression is read by the evaluator -/
namespace MP
open PySem PySem.Spec PyProof.Rows L2
def Snd (D : Tbl) (n : Nat) (X : Cx) (c : CE) (e : Expr) : Prop := PE X e (M1 D n X c) ∧ (c.tst = true → PT X e (M1T D n X c))
section
variable {D : Tbl} {n : Nat} {N : List Str}
theorem snd_pe {X : Cx} {c : CE} {e : Expr} (p : PE X e (M1 D n X c)) (he : ∀ whole, isTrue e X.env whole = (do let v ← whole; standAt e.pos; holding [v] (truthy v))) : Snd D n X c e := ⟨p, fun _ => pt_of p he⟩
set_option maxHeartbeats 1000000 in
mutual
theorem sE : ∀ (c : CE) {raw sc : Scope} {e : Expr} {X : Cx}, chkE D N c raw sc e = true → XO D n X raw sc N → Snd D n X c e
  | .var i, raw, sc, e, X, h, o => by
    unfold chkE at h
    split at h
    · obtain ⟨h, h3⟩ := all_and h
      obtain ⟨h1, h2⟩ := all_and h
      exact snd_pe (px_var o (of_decide_eq_true h1) h2 h3) fun _ => rfl
    · cases h
  | .int i, raw, sc, e, X, h, o => by
    unfold chkE at h
    split at h
    · cases of_decide_eq_true h
      exact snd_pe px_int fun _ => rfl
    · cases h
  | .bl i, raw, sc, e, X, h, o => by
    unfold chkE at h
    split at h
    · cases of_decide_eq_true h
      exact snd_pe px_bl fun _ => rfl
    · cases h
  | .non, raw, sc, e, X, h, o => by
    unfold chkE at h
    split at h
    · exact snd_pe px_non fun _ => rfl
    · cases h
  | .str x, raw, sc, e, X, h, o => by
    unfold chkE at h
    split at h
    · cases of_decide_eq_true h
      exact snd_pe px_str fun _ => rfl
    · cases h
  | .glob x, raw, sc, e, X, h, o => by
    unfold chkE at h
    split at h
    · obtain ⟨h, h4⟩ := all_and h
      obtain ⟨h, h3⟩ := all_and h
      obtain ⟨h1, h2⟩ := all_and h
      cases of_decide_eq_true h1
      exact snd_pe (px_glob o h2 h3) fun _ => rfl
    · cases h
  | .bin op a b, raw, sc, e, X, h, o => by
    unfold chkE at h
    split at h
    · obtain ⟨h, h3⟩ := all_and h
      obtain ⟨h1, h2⟩ := all_and h
      cases of_decide_eq_true h1
      exact snd_pe (px_bin (sE a h2 o).1 (sE b h3 o).1) fun _ => rfl
    · cases h
  | .neg a, raw, sc, e, X, h, o => by
    unfold chkE at h
    split at h
    · exact snd_pe (px_neg (sE a h o).1) fun _ => rfl
    · cases h
  | .inv a, raw, sc, e, X, h, o => by
    unfold chkE at h
    split at h
    · exact snd_pe (px_inv (sE a h o).1) fun _ => rfl
    · cases h
  | .not a, raw, sc, e, X, h, o => by
    unfold chkE at h
    split at h
    · obtain ⟨h1, h2⟩ := all_and h
      have p := px_not (pos := by assumption) (sE a h2 o).1 ((sE a h2 o).2 h1)
      exact ⟨p.1, fun _ => p.2⟩
    · cases h
  | .cmp op a b, raw, sc, e, X, h, o => by
    unfold chkE at h
    split at h
    · obtain ⟨h, h4⟩ := all_and h
      obtain ⟨h, h3⟩ := all_and h
      obtain ⟨h1, h2⟩ := all_and h
      cases of_decide_eq_true h1
      have p := px_cmp (op := op) (pos := by assumption) o h2 (sE a h3 o).1 (sE b h4 o).1
      exact ⟨p.1, fun _ => p.2⟩
    · cases h
  | .chn op op2 a b c, raw, sc, e, X, h, o => by
    unfold chkE at h
    split at h
    · obtain ⟨h, h6⟩ := all_and h
      obtain ⟨h, h5⟩ := all_and h
      obtain ⟨h, h4⟩ := all_and h
      obtain ⟨h, h3⟩ := all_and h
      obtain ⟨h1, h2⟩ := all_and h
      cases of_decide_eq_true h1
      cases of_decide_eq_true h2
      have p := px_chn (op := op) (op' := op2) (pos := by assumption) o h3 (sE a h4 o).1 (sE b h5 o).1 (sE c h6 o).1
      exact ⟨p.1, fun _ => p.2⟩
    · cases h
  | .isN a, raw, sc, e, X, h, o => by
    unfold chkE at h
    split at h
    · exact ⟨(px_isN (sE a h o).1).1, fun _ => (px_isN (sE a h o).1).2⟩
    · cases h
  | .isnN a, raw, sc, e, X, h, o => by
    unfold chkE at h
    split at h
    · exact ⟨(px_isnN (sE a h o).1).1, fun _ => (px_isnN (sE a h o).1).2⟩
    · cases h
  | .and es, raw, sc, e, X, h, o => by
    unfold chkE at h
    split at h
    · rename_i es' pos
      obtain ⟨p, t⟩ := (sT es h o pos).1
      refine ⟨p.imp fun σ H Q ⟨ρ, ls, hh, t', h', g, rs, e, k⟩ => ⟨ρ, ls, hh, t', h', g, rs, by simpa only [evE] using e, k⟩, fun _ => t.pt.imp fun σ H Q ⟨ρ, ls, hh, t', h', g, rs, e, k⟩ => ⟨ρ, ls, hh, t', h', g, rs, by simpa only [evE] using e, k⟩⟩
    · cases h
  | .or es, raw, sc, e, X, h, o => by
    unfold chkE at h
    split at h
    · rename_i es' pos
      obtain ⟨p, t⟩ := (sT es h o pos).2
      refine ⟨p.imp fun σ H Q ⟨ρ, ls, hh, t', h', g, rs, e, k⟩ => ⟨ρ, ls, hh, t', h', g, rs, by simpa only [evE] using e, k⟩, fun _ => t.pt.imp fun σ H Q ⟨ρ, ls, hh, t', h', g, rs, e, k⟩ => ⟨ρ, ls, hh, t', h', g, rs, by simpa only [evE] using e, k⟩⟩
    · cases h
  | .ite c a b, raw, sc, e, X, h, o => by
    unfold chkE at h
    split at h
    · obtain ⟨h, h4⟩ := all_and h
      obtain ⟨h, h3⟩ := all_and h
      obtain ⟨h1, h2⟩ := all_and h
      exact ⟨px_ite ((sE c h2 o).2 h1) (sE a h3 o).1 (sE b h4 o).1, fun z => nomatch z⟩
    · cases h
  | .tup es, raw, sc, e, X, h, o => by
    unfold chkE at h
    split at h
    · exact snd_pe (px_tup (sEs es h o)) fun _ => rfl
    · cases h
  | .lst es, raw, sc, e, X, h, o => by
    unfold chkE at h
    split at h
    · exact snd_pe (px_lst (sEs es h o)) fun _ => rfl
    · cases h
  | .dic ps, raw, sc, e, X, h, o => by
    unfold chkE at h
    split at h
    · rename_i ks vs pos
      obtain ⟨h1, h2⟩ := all_and h
      obtain ⟨a, b, c⟩ := chkKV_len ps h1
      by_cases hk : ks = []
      · subst hk
        cases c rfl
        have hv : vs = [] := List.eq_nil_of_length_eq_zero b.symm
        subst hv
        exact snd_pe px_dic0 fun _ => rfl
      · exact snd_pe (px_dic (sKV ps h1 o pos) a b hk (of_decide_eq_true h2) fun _ _ _ _ e => evKV_len ps h1 e) fun _ => rfl
    · cases h
  | .idx a i, raw, sc, e, X, h, o => by
    unfold chkE at h
    split at h
    · obtain ⟨h, h3⟩ := all_and h
      obtain ⟨h1, h2⟩ := all_and h
      exact snd_pe (px_idx o h1 (sE a h2 o).1 (sE i h3 o).1) fun _ => rfl
    · cases h
  | .slc a lo hi, raw, sc, e, X, h, o => by
    unfold chkE at h
    split at h
    · obtain ⟨h, h3⟩ := all_and h
      obtain ⟨h1, h2⟩ := all_and h
      exact snd_pe (px_slc (sE a h1 o).1 (sO lo h2 o) (sO hi h3 o)) fun _ => rfl
    · cases h
  | .rev a, raw, sc, e, X, h, o => by
    unfold chkE at h
    split at h
    · exact snd_pe (px_rev (sE a h o).1) fun _ => rfl
    · cases h
  | .call f as, raw, sc, e, X, h, o => by
    unfold chkE at h
    split at h
    · obtain ⟨h, h5⟩ := all_and h
      obtain ⟨h, h4⟩ := all_and h
      obtain ⟨h, h3⟩ := all_and h
      obtain ⟨h1, h2⟩ := all_and h
      cases of_decide_eq_true h1
      obtain ⟨a, b⟩ := chkEs_star as h5
      exact snd_pe (px_call o h2 h3 a b (sEs as h5 o)) fun _ => rfl
    · cases h
  | .callK f as ks vs, raw, sc, e, X, h, o => by
    unfold chkE at h
    split at h
    · obtain ⟨h, h7⟩ := all_and h
      obtain ⟨h, h6⟩ := all_and h
      obtain ⟨h, h5⟩ := all_and h
      obtain ⟨h, h4⟩ := all_and h
      obtain ⟨h, h3⟩ := all_and h
      obtain ⟨h1, h2⟩ := all_and h
      cases of_decide_eq_true h1
      obtain ⟨a, b⟩ := chkEs_star as h6
      exact snd_pe (px_callK o h2 h3 a b (of_decide_eq_true h5) (chkKW_names vs h7) (fun _ _ _ _ e => evEs_len as h6 e) (sEs as h6 o) (sKW vs h7 o)) fun _ => rfl
    · cases h
  | .blt b as, raw, sc, e, X, h, o => by
    unfold chkE at h
    split at h
    · obtain ⟨h, h4⟩ := all_and h
      obtain ⟨h, h3⟩ := all_and h
      obtain ⟨h1, h2⟩ := all_and h
      cases of_decide_eq_true h1
      exact snd_pe (px_blt o h2 h3 (chkEs_star as h4).1 (sEs as h4 o)) fun _ => rfl
    · cases h
  | .sset a, raw, sc, e, X, h, o => by
    unfold chkE at h
    split at h
    · obtain ⟨h, h8⟩ := all_and h
      obtain ⟨h, h7⟩ := all_and h
      obtain ⟨h, h6⟩ := all_and h
      obtain ⟨h, h5⟩ := all_and h
      obtain ⟨h, h4⟩ := all_and h
      obtain ⟨h, h3⟩ := all_and h
      obtain ⟨h1, h2⟩ := all_and h
      cases of_decide_eq_true h1
      cases of_decide_eq_true h4
      exact snd_pe (px_sset o h2 h5 h7 (sE a h8 o).1) fun _ => rfl
    · cases h
  | .isiT a ts, raw, sc, e, X, h, o => by
    unfold chkE at h
    split at h
    · rename_i x p a' t' pos
      obtain ⟨h, h7⟩ := all_and h
      obtain ⟨h, h6⟩ := all_and h
      obtain ⟨h, h5⟩ := all_and h
      obtain ⟨h, h4⟩ := all_and h
      obtain ⟨h, h3⟩ := all_and h
      obtain ⟨h1, h2⟩ := all_and h
      cases of_decide_eq_true h1
      have hall : ∀ t ∈ ts, t ∈ tyNames := fun t ht => by
        have z := List.all_eq_true.mp h5 t ht
        simpa using z
      obtain ⟨hs, h100⟩ := all_and h4
      split at h7
      · obtain ⟨h7, h10⟩ := all_and h7
        obtain ⟨h8, h9⟩ := all_and h7
        cases of_decide_eq_true h8
        exact snd_pe (px_isi1 o h2 h3 hs (hall _ List.mem_cons_self) h9 h10 (sE a h6 o).1) fun _ => rfl
      · obtain ⟨h7, h10⟩ := all_and h7
        obtain ⟨h8, h9⟩ := all_and h7
        exact snd_pe (px_isiT o h2 h3 hs hall (of_decide_eq_true h9) h10 (of_decide_eq_true h100) (sE a h6 o).1) fun _ => rfl
      · cases h7
    · cases h
  | .mth m c cs, raw, sc, e, X, h, o => by
    unfold chkE at h
    split at h
    · obtain ⟨h, h6⟩ := all_and h
      obtain ⟨h, h5⟩ := all_and h
      obtain ⟨h, h4⟩ := all_and h
      obtain ⟨h, h3⟩ := all_and h
      obtain ⟨h1, h2⟩ := all_and h
      cases of_decide_eq_true h1
      obtain ⟨a, b⟩ := chkEs_star cs h6
      exact snd_pe (px_mth o h2 h3 a (of_decide_eq_true h4) b (sE c h5 o).1 (sEs cs h6 o)) fun _ => rfl
    · cases h
  | .rngL it, raw, sc, e, X, h, o => by
    unfold chkE at h
    split at h
    · obtain ⟨h, h5⟩ := all_and h
      obtain ⟨h, h4⟩ := all_and h
      obtain ⟨h, h3⟩ := all_and h
      obtain ⟨h1, h2⟩ := all_and h
      cases of_decide_eq_true h1
      exact snd_pe ((px_rng o h4 (sR it h5 o)).1 h2) fun _ => rfl
    · cases h
  | .rngT it, raw, sc, e, X, h, o => by
    unfold chkE at h
    split at h
    · obtain ⟨h, h5⟩ := all_and h
      obtain ⟨h, h4⟩ := all_and h
      obtain ⟨h, h3⟩ := all_and h
      obtain ⟨h1, h2⟩ := all_and h
      cases of_decide_eq_true h1
      exact snd_pe ((px_rng o h4 (sR it h5 o)).2 h2) fun _ => rfl
    · cases h
  | .comp own tg it c elt, raw, sc, e, X, h, o => by
    unfold chkE at h
    split at h
    · obtain ⟨h, h8⟩ := all_and h
      obtain ⟨h, h7⟩ := all_and h
      obtain ⟨h, h6⟩ := all_and h
      obtain ⟨h, h5⟩ := all_and h
      obtain ⟨h, h4⟩ := all_and h
      obtain ⟨h, h3⟩ := all_and h
      obtain ⟨h1, h2⟩ := all_and h
      have bk := blkOk_by h1
      have ob := fun s H C cl fp => o.blk bk.kind s H C cl fp
      refine snd_pe (px_comp o ⟨by rw [o.eN, o.esc]; exact bk, fun i hi => ?_, h4, sI it h5 o, fun s H C cl fp => sG tg h6 (ob s H C cl fp), fun s H C cl fp => sC c h7 (ob s H C cl fp), fun s H C cl fp => (sE elt h8 (ob s H C cl fp)).1⟩) fun _ => rfl
      have z := List.all_eq_true.mp h3 i hi
      simpa using z
    · cases h
theorem sEs : ∀ (cs : CEs) {raw sc : Scope} {es : List Expr} {X : Cx}, chkEs D N cs raw sc es = true → XO D n X raw sc N → PA X es (MA D n X cs)
  | .nil, raw, sc, es, X, h, o => by
    unfold chkEs at h
    split at h
    · exact px_nil
    · cases h
  | .cons c cs, raw, sc, es, X, h, o => by
    unfold chkEs at h
    split at h
    · obtain ⟨h, h3⟩ := all_and h
      obtain ⟨h1, h2⟩ := all_and h
      exact px_cons h1 (sE c h2 o).1 (sEs cs h3 o)
    · cases h
theorem sT : ∀ (cs : CEs) {raw sc : Scope} {es : List Expr} {X : Cx}, chkT D N cs raw sc es = true → XO D n X raw sc N → ∀ pos, (PE X (.BoolOp .And es pos) (MAnd D n X cs) ∧ PW X (.BoolOp .And es pos) (MAndT D n X cs)) ∧ (PE X (.BoolOp .Or es pos) (MOr D n X cs) ∧ PW X (.BoolOp .Or es pos) (MOrT D n X cs))
  | .nil, raw, sc, es, X, h, o, pos => by
    unfold chkT at h
    cases h
  | .cons c .nil, raw, sc, es, X, h, o, pos => by
    unfold chkT at h
    split at h
    · obtain ⟨h1, h2⟩ := all_and h
      have s := sE c h2 o
      exact ⟨px_and1 s.1 (s.2 h1), px_or1 s.1 (s.2 h1)⟩
    · obtain ⟨h, h3⟩ := all_and h
      unfold chkT at h3
      cases h3
    · cases h
  | .cons c (.cons c2 cs), raw, sc, es, X, h, o, pos => by
    unfold chkT at h
    split at h
    · rename_i hh
      cases hh
    · obtain ⟨h, h3⟩ := all_and h
      obtain ⟨h1, h2⟩ := all_and h
      have s := sE c h2 o
      have r := sT (.cons c2 cs) h3 o pos
      exact ⟨px_and s.1 (s.2 h1) r.1.1 r.1.2, px_or s.1 (s.2 h1) r.2.1 r.2.2⟩
    · cases h
theorem sKV : ∀ (cs : CKs) {raw sc : Scope} {ks : List (Option Expr)} {vs : List Expr} {X : Cx}, chkKV D N cs raw sc ks vs = true → XO D n X raw sc N → ∀ pos, PPs X pos ks vs (trsOf D n X cs)
  | .nil, raw, sc, ks, vs, X, h, o, pos => by
    unfold chkKV at h
    split at h
    · exact pps_nil
    · cases h
  | .cons k v r, raw, sc, ks, vs, X, h, o, pos => by
    unfold chkKV at h
    split at h
    · obtain ⟨h, h3⟩ := all_and h
      obtain ⟨h1, h2⟩ := all_and h
      exact pps_cons (sE k h1 o).1 (sE v h2 o).1 (sKV r h3 o pos)
    · cases h
theorem sKW : ∀ (cs : CEs) {raw sc : Scope} {ks : List String} {kws : List Keyword} {X : Cx}, chkKW D N cs raw sc ks kws = true → XO D n X raw sc N → PK X kws (MA D n X cs)
  | .nil, raw, sc, ks, kws, X, h, o => by
    unfold chkKW at h
    split at h
    · exact ⟨fun pos pins s σ H Q I ⟨ρ, ls, hh, t, h', g, rs, e, k⟩ => by
        unfold evEs at e
        cases e
        exact pk_nil.run pos pins s σ H Q I (k _ _ _ Ext.refl g .nil)⟩
    · cases h
  | .cons c cs, raw, sc, ks, kws, X, h, o => by
    unfold chkKW at h
    split at h
    · obtain ⟨h, h3⟩ := all_and h
      obtain ⟨h1, h2⟩ := all_and h
      exact ⟨fun pos pins s σ H Q I ⟨ρ, ls, hh, t, h', g, rs, e, k⟩ => by
        unfold evEs at e
        obtain ⟨x, h1, e1, e2⟩ := R.bd_eq_ok e
        obtain ⟨xs, h2, e3, e4⟩ := R.bd_eq_ok e2
        cases e4
        exact (pk_cons (sE c h2 o).1 (sKW cs h3 o)).run pos pins s σ H Q I ⟨ρ, ls, hh, x, h1, g, rs, e1, fun ρ1 H1 v1 E1 G1 r1 => ⟨ρ1, ls, h1, xs, _, G1, rs.ext E1, e3, fun ρ2 H2 v2 E2 G2 r2 => k _ _ _ (E1.trans E2) G2 (.cons (r1.ext E2) r2)⟩⟩⟩
    · cases h
theorem sO : ∀ (c : CO) {raw sc : Scope} {e : Option Expr} {X : Cx}, chkO D N c raw sc e = true → XO D n X raw sc N → PO X e (rdO X.K X.mg (evO D (callN D n) c))
  | .no, raw, sc, e, X, h, o => by
    unfold chkO at h
    split at h
    · exact px_no
    · cases h
  | .so c, raw, sc, e, X, h, o => by
    unfold chkO at h
    split at h
    · exact px_so (sE c h o).1
    · cases h
theorem sC : ∀ (c : CO) {raw sc : Scope} {e : List Expr} {X : Cx}, chkC D N c raw sc e = true → XO D n X raw sc N → PTs X e (MC D n X c)
  | .no, raw, sc, e, X, h, o => by
    unfold chkC at h
    split at h
    · exact pts_no
    · cases h
  | .so c, raw, sc, e, X, h, o => by
    unfold chkC at h
    split at h
    · obtain ⟨h1, h2⟩ := all_and h
      exact pts_so ((sE c h2 o).2 h1)
    · cases h
theorem sR : ∀ (c : CI) {raw sc : Scope} {e : Expr} {X : Cx}, chkR D N c raw sc e = true → XO D n X raw sc N → ∃ te, PRg X e te ∧ ∀ σ H Q, (∃ ρ ls h xs w h', G X.K X.mg ρ H h ∧ RS X.K X.mg ρ H ls σ ∧ evI D (callN D n) c ls h = .ok (xs, w) h' ∧ ∀ a b, xs = rangeT a b → rgOk a b = true → ∀ ρ' H', Ext ρ H ρ' H' → G X.K X.mg ρ' H' h' → Q a b H') → te σ H Q
  | .rng1 a, raw, sc, e, X, h, o => by
    unfold chkR at h
    split at h
    · obtain ⟨h, h5⟩ := all_and h
      obtain ⟨h, h4⟩ := all_and h
      obtain ⟨h, h3⟩ := all_and h
      obtain ⟨h1, h2⟩ := all_and h
      cases of_decide_eq_true h1
      exact prg1 o h2 h4 (sE a h5 o).1
    · cases h
  | .rng2 a b, raw, sc, e, X, h, o => by
    unfold chkR at h
    split at h
    · obtain ⟨h, h7⟩ := all_and h
      obtain ⟨h, h6⟩ := all_and h
      obtain ⟨h, h5⟩ := all_and h
      obtain ⟨h, h4⟩ := all_and h
      obtain ⟨h, h3⟩ := all_and h
      obtain ⟨h1, h2⟩ := all_and h
      cases of_decide_eq_true h1
      exact prg2 o h2 h4 h5 (sE a h6 o).1 (sE b h7 o).1
    · cases h
  | .val _, raw, sc, e, X, h, o => by unfold chkR at h; cases h
  | .rng3 _ _ _, raw, sc, e, X, h, o => by unfold chkR at h; cases h
  | .enum _, raw, sc, e, X, h, o => by unfold chkR at h; cases h
  | .zip _ _, raw, sc, e, X, h, o => by unfold chkR at h; cases h
theorem sI : ∀ (c : CI) {raw sc : Scope} {tg e : Expr} {X : Cx}, chkI D N c raw sc e (isTupE tg) = true → XO D n X raw sc N → PI X tg e (MI D n X c)
  | .val a, raw, sc, tg, e, X, h, o => by
    unfold chkI at h
    exact pi_val (sE a h o).1
  | .rng1 a, raw, sc, tg, e, X, h, o => by
    unfold chkI at h
    split at h
    · obtain ⟨h, h5⟩ := all_and h
      obtain ⟨h, h4⟩ := all_and h
      obtain ⟨h, h3⟩ := all_and h
      obtain ⟨h1, h2⟩ := all_and h
      cases of_decide_eq_true h1
      exact pi_rng1 o h2 h4 (sE a h5 o).1
    · cases h
  | .rng2 a b, raw, sc, tg, e, X, h, o => by
    unfold chkI at h
    split at h
    · obtain ⟨h, h7⟩ := all_and h
      obtain ⟨h, h6⟩ := all_and h
      obtain ⟨h, h5⟩ := all_and h
      obtain ⟨h, h4⟩ := all_and h
      obtain ⟨h, h3⟩ := all_and h
      obtain ⟨h1, h2⟩ := all_and h
      cases of_decide_eq_true h1
      exact pi_rng2 o h2 h4 h5 (sE a h6 o).1 (sE b h7 o).1
    · cases h
  | .rng3 a b c, raw, sc, tg, e, X, h, o => by
    unfold chkI at h
    split at h
    · obtain ⟨h, h9⟩ := all_and h
      obtain ⟨h, h8⟩ := all_and h
      obtain ⟨h, h7⟩ := all_and h
      obtain ⟨h, h6⟩ := all_and h
      obtain ⟨h, h5⟩ := all_and h
      obtain ⟨h, h4⟩ := all_and h
      obtain ⟨h, h3⟩ := all_and h
      obtain ⟨h1, h2⟩ := all_and h
      cases of_decide_eq_true h1
      exact pi_rng3 o h2 h4 h5 h6 (sE a h7 o).1 (sE b h8 o).1 (sE c h9 o).1
    · cases h
  | .enum a, raw, sc, tg, e, X, h, o => by
    unfold chkI at h
    obtain ⟨ht, h⟩ := all_and h
    split at h
    · obtain ⟨h, h5⟩ := all_and h
      obtain ⟨h, h4⟩ := all_and h
      obtain ⟨h, h3⟩ := all_and h
      obtain ⟨h1, h2⟩ := all_and h
      cases of_decide_eq_true h1
      cases tg <;> first | (cases ht; done) | exact pi_enu o h2 h4 (sE a h5 o).1
    · cases h
  | .zip a b, raw, sc, tg, e, X, h, o => by
    unfold chkI at h
    obtain ⟨ht, h⟩ := all_and h
    split at h
    · obtain ⟨h, h7⟩ := all_and h
      obtain ⟨h, h6⟩ := all_and h
      obtain ⟨h, h5⟩ := all_and h
      obtain ⟨h, h4⟩ := all_and h
      obtain ⟨h, h3⟩ := all_and h
      obtain ⟨h1, h2⟩ := all_and h
      cases of_decide_eq_true h1
      cases tg <;> first | (cases ht; done) | exact pi_zp o h2 h4 h5 (sE a h6 o).1 (sE b h7 o).1
    · cases h
theorem sG : ∀ (t : Tg) {raw sc : Scope} {e : Expr} {X : Cx}, chkG D N t raw sc e = true → XO D n X raw sc N → PG X e (MG D n X t)
  | .var i, raw, sc, e, X, h, o => by
    unfold chkG at h
    split at h
    · obtain ⟨h, h3⟩ := all_and h
      obtain ⟨h1, h2⟩ := all_and h
      exact pg_var o (of_decide_eq_true h1) h2
    · cases h
  | .tup ts, raw, sc, e, X, h, o => by
    unfold chkG at h
    split at h
    · have hst := chkGs_star ts h
      exact pg_tupl o (sGs ts h o) (each_len _ hst).1 (each_len _ hst).2 fun _ _ _ _ _ e => evGs_len ts h e
    · cases h
  | .sub a i, raw, sc, e, X, h, o => by
    unfold chkG at h
    split at h
    · obtain ⟨h, h3⟩ := all_and h
      obtain ⟨h1, h2⟩ := all_and h
      exact pg_item o h1 (sE a h2 o).1 (sE i h3 o).1 (sub_assign h1)
    · cases h
theorem sGs : ∀ (t : Tgs) {raw sc : Scope} {e : List Expr} {X : Cx}, chkGs D N t raw sc e = true → XO D n X raw sc N → PGs X e (MGs D n X t)
  | .nil, raw, sc, e, X, h, o => by
    unfold chkGs at h
    split at h
    · exact pgs_n
    · cases h
  | .cons t ts, raw, sc, e, X, h, o => by
    unfold chkGs at h
    split at h
    · obtain ⟨h, h3⟩ := all_and h
      obtain ⟨h1, h2⟩ := all_and h
      exact pgs_c h1 (sG t h2 o) (sGs ts h3 o)
    · cases h
end
end
end MP

set_option Elab.async false
set_option linter.all false
set_option maxRecDepth 100000
/-! MiniPy, part P: statements -/
namespace MP
open PySem PySem.Spec PyProof.Rows L2
section
variable {D : Tbl} {n : Nat} {X : Cx} {raw sc : Scope} {N : List Str}
abbrev MS (D : Tbl) (n : Nat) (X : Cx) (c : CS) : TS := rdS X.K X.mg (evS D (callN D n) c)
abbrev MSs (D : Tbl) (n : Nat) (X : Cx) (c : CSs) : TS := rdS X.K X.mg (evSs D (callN D n) c)
theorem not_t {b : Bool} (h : (!b) = true) : b = false := by cases b <;> first | rfl | cases h
theorem lc_of_swap {tg e : Expr} (h : lcSwap sc tg e = true) : ∃ elt gs scope p y py, e = .ListComp elt gs scope p ∧ tg = .Name y py ∧ locB sc y = true ∧ (py.line == p.line) = true ∧ (scope.names.any fun (n, k) => n == y && (k == .local || k == .cell)) = false := by
  unfold lcSwap at h
  split at h
  · obtain ⟨h, h3⟩ := all_and h
    obtain ⟨h1, h2⟩ := all_and h
    exact ⟨_, _, _, _, _, _, rfl, rfl, h1, h2, not_t h3⟩
  · cases h
theorem swp_ok {tg e : Expr} {l : Nat} (o : XO D n X raw sc N) (h : swpF sc tg e = true) : swapsWith e (some tg) l X.env = pure false := by
  unfold swpF at h
  rw [Bool.or_eq_true] at h
  rcases h with h | h
  · exact swap_of h
  · obtain ⟨h1, h2⟩ := all_and h
    split at h1
    · rename_i elt gs scope p
      have hb : X.env.blockKind = .function := blk_fn (by rw [o.esc]; exact o.kd)
      cases tg <;> first
        | rfl
        | (rename_i y py
           have h3 := not_t h2
           unfold lcSwap at h3
           unfold swapsWith
           have ky : (X.env.kindOf y == some NameKind.local) = locB sc y := by
             show (X.env.scope.names.lookup y == some NameKind.local) = _
             rw [o.esc]
             unfold locB
             split
             · rename_i e
               rw [e]
               rfl
             · rename_i hn
               exact beq_eq_false_iff_ne.mpr hn
           simp only [hb, ky, Expr.pos]
           have z : (ScopeKind.function == ScopeKind.function) = true := rfl
           rw [z, Bool.true_and]
           exact congrArg pure h3)
    · cases h1
theorem swn_ok {tg e : Expr} (o : XO D n X raw sc N) (h : swnF sc tg e = true) : swappedStores [tg] e X.env = pure none := by
  have lk : ∀ {w : Str}, locB sc w = false → (match X.env.scope.names.lookup w with | some .local => true | _ => false) = false := fun {w} h => by
    rw [o.esc]
    exact h
  unfold swnF at h
  rw [Bool.or_eq_true, Bool.or_eq_true] at h
  rcases h with (h | h) | h
  · obtain ⟨h1, h2⟩ := all_and h
    exact swn_tg (not_t h1) (not_t h2)
  · exact swn_e (not_t h)
  · split at h
    · rename_i ts k p vs k2 p2
      rw [Bool.or_eq_true] at h
      rcases h with h | h
      · obtain ⟨h1, h2⟩ := all_and h
        exact swn_long (of_decide_eq_true h1) (of_decide_eq_true h2)
      · split at h
        · obtain ⟨h, h3⟩ := all_and h
          obtain ⟨h1, h2⟩ := all_and h
          rw [Bool.or_eq_true, Bool.or_eq_true] at h3
          refine sw2_none h1 h2 ?_
          rcases h3 with (h3 | h3) | h3
          · exact .inl (lk (not_t h3))
          · exact .inr (.inl (lk (not_t h3)))
          · exact .inr (.inr h3)
        · rw [Bool.or_eq_true, Bool.or_eq_true, Bool.or_eq_true] at h
          refine sw3_none ?_
          rcases h with ((h | h) | h) | h
          · exact .inl (lk (not_t h))
          · exact .inr (.inl (lk (not_t h)))
          · exact .inr (.inr (.inl (lk (not_t h))))
          · exact .inr (.inr (.inr h))
        · cases h
    · cases h
theorem endF_mono {K : PySem.W.Frag} {mg : Str → Option Value} {ρ : List Addr} {H : Hp} {D1 D2 : Ends} {l : Ls} {f : Fl} (e : endF K mg ρ H D1 l f) (h1 : ∀ σ H, D1.nx σ H → D2.nx σ H) (h2 : ∀ σ H, D1.bk σ H → D2.bk σ H) (h3 : ∀ σ H, D1.ct σ H → D2.ct σ H) (h4 : ∀ v H, D1.rt v H → D2.rt v H) : endF K mg ρ H D2 l f := by
  cases f with
  | nx => exact fun σ r => h1 _ _ (e σ r)
  | bk => exact fun σ r => h2 _ _ (e σ r)
  | ct => exact fun σ r => h3 _ _ (e σ r)
  | rt t => exact fun v r => h4 _ _ (e v r)
theorem pz_expr {c : CE} {e : Expr} {pos : Pos} (hn : noComp e = true) (p : PE X e (M1 D n X c)) : PS X (.Expr e pos) (MS D n X (.expr c)) :=
  (ps_expr p (swap_of hn)).imp fun E σ H ⟨ρ, ls, h, f, l', h', g, rs, e, k⟩ => by
    unfold evS at e
    obtain ⟨x, h1, e1, e2⟩ := R.bd_eq_ok e
    cases e2
    exact ⟨ρ, ls, h, x, _, g, rs, e1, fun ρ1 H1 v1 E1 G1 r1 => k _ _ E1 G1 σ (rs.ext E1)⟩
theorem pz_ret {c : CE} {e : Expr} {pos : Pos} (p : PE X e (M1 D n X c)) : PS X (.Return (some e) pos) (MS D n X (.ret c)) :=
  (ps_ret p).imp fun E σ H ⟨ρ, ls, h, f, l', h', g, rs, e, k⟩ => by
    unfold evS at e
    obtain ⟨x, h1, e1, e2⟩ := R.bd_eq_ok e
    cases e2
    exact ⟨ρ, ls, h, x, _, g, rs, e1, fun ρ1 H1 v1 E1 G1 r1 => k _ _ E1 G1 v1 r1⟩
theorem pz_retN {pos : Pos} : PS X (.Return none pos) (MS D n X .retN) :=
  ps_retN.imp fun E σ H ⟨ρ, ls, h, f, l', h', g, rs, e, k⟩ => by
    unfold evS at e
    cases e
    exact k _ _ Ext.refl g .non .non
theorem pz_nx {st : Stmt} {c : CS} (p : PS X st tNext) (hc : ∀ ls h, evS D (callN D n) c ls h = .ok (.nx, ls) h) : PS X st (MS D n X c) :=
  p.imp fun E σ H ⟨ρ, ls, h, f, l', h', g, rs, e, k⟩ => by
    rw [hc] at e
    cases e
    exact k _ _ Ext.refl g σ rs
theorem pz_brk {pos : Pos} : PS X (.Break pos) (MS D n X .brk) :=
  ps_break.imp fun E σ H ⟨ρ, ls, h, f, l', h', g, rs, e, k⟩ => by
    unfold evS at e
    cases e
    exact k _ _ Ext.refl g σ rs
theorem pz_cnt {pos : Pos} : PS X (.Continue pos) (MS D n X .cnt) :=
  ps_continue.imp fun E σ H ⟨ρ, ls, h, f, l', h', g, rs, e, k⟩ => by
    unfold evS at e
    cases e
    exact k _ _ Ext.refl g σ rs
theorem pz_never {st : Stmt} : PS X st (MS D n X .never) :=
  ps_never.imp fun E σ H ⟨ρ, ls, h, f, l', h', g, rs, e, k⟩ => by
    unfold evS at e
    cases e
theorem pz_set {t : Tg} {c : CE} {tg e : Expr} {pos : Pos} (o : XO D n X raw sc N) (hst : noStar tg = true) (h1 : swpF sc tg e = true) (h2 : swnF sc tg e = true) (p : PE X e (M1 D n X c)) (q : PG X tg (MG D n X t)) : PS X (.Assign [tg] e pos) (MS D n X (.set t c)) :=
  (ps_asg p q (swp_ok o h1) (swn_ok o h2) (each_cons hst)).imp fun E σ H ⟨ρ, ls, h, f, l', h', g, rs, e, k⟩ => by
    unfold evS at e
    obtain ⟨x, h1, e1, e2⟩ := R.bd_eq_ok e
    obtain ⟨l, h2, e3, e4⟩ := R.bd_eq_ok e2
    cases e4
    exact ⟨ρ, ls, h, x, h1, g, rs, e1, fun ρ1 H1 v1 E1 G1 r1 => ⟨ρ1, ls, h1, x, _, _, G1, rs.ext E1, r1, e3, fun ρ2 H2 σ2 E2 G2 S2 _ => k _ _ (E1.trans E2) G2 σ2 S2⟩⟩
theorem pz_setLc {i : Nat} {own : List Nat} {tg : Tg} {it : CI} {c : CO} {elt : CE} {tg' it' elt' : Expr} {ifs : List Expr} {scope : Scope} {y : Str} {py pos spos : Pos} (o : XO D n X raw sc N) (hi : N[i]? = some y) (hl : locB sc y = true) (h2 : (py.line == pos.line) = true)
    (h3 : (scope.names.any fun (n, k) => n == y && (k == .local || k == .cell)) = false) (l : LcOk D n X sc N own tg it c elt tg' it' elt' ifs scope) :
    PS X (.Assign [.Name y py] (.ListComp elt' [⟨tg', it', ifs, 0⟩] scope pos) spos) (MS D n X (.set (.var i) (.comp own tg it c elt))) := by
  have hN : X.N.Nodup := by rw [o.eN]; exact o.nd
  have hy : X.env.scope.names.lookup y = some .local := by rw [o.esc]; exact locB_ok hl
  refine (ps_setLc o.calm hN (by rw [o.eN]; exact hi) hy (sw_true (by rw [o.esc]; exact o.kd) hy h2 h3) l.pi l.blk l.pg l.pt l.pe (set_of l.set)).imp fun E σ H ⟨ρ, ls, h, f, l', h', g, rs, e, k⟩ => ?_
  unfold evS at e
  obtain ⟨x, h1, e1, e2⟩ := R.bd_eq_ok e
  obtain ⟨l2, h2, e3, e4⟩ := R.bd_eq_ok e2
  cases e4
  unfold evG at e3
  split at e3
  · rename_i hlt
    cases e3
    show tLc _ _ _ _ _ σ H _
    rw [ownOf_snd]
    exact comp_rd l.vars ⟨ρ, ls, h, x, _, g, rs, e1, fun ρ1 H1 v1 E1 G1 r1 => k _ _ E1 G1 _ ((rs.ext E1).set hlt r1)⟩
  · cases e3
theorem evG_var {i : Nat} {x : T} {ls l : Ls} {h h' : Hh} (e : evG D (callN D n) (.var i) x ls h = .ok l h') : i < ls.length ∧ l = ls.set i (some x) ∧ h' = h := by
  unfold evG at e
  split at e
  · rename_i hl
    cases e
    exact ⟨hl, rfl, rfl⟩
  · cases e
theorem pz_par2 {i j : Nat} {cs : CEs} {x y : Str} {a b : Expr} {px py pt pt2 pos : Pos} {kt k2 : Nat} (o : XO D n X raw sc N) (hi : N[i]? = some x) (hj : N[j]? = some y) (hx : locB sc x = true) (hy : locB sc y = true) (hl : (py.line == px.line) = true) (hxy : x ≠ y) (ha : noStar a = true) (hb : noStar b = true)
    (hf : (foldedForSure 8 a && foldedForSure 8 b) = false) (hc : (constantsAlone 8 a && constantsAlone 8 b) = false) (p : PA X [a, b] (MA D n X cs)) :
    PS X (.Assign [.Tuple [.Name x px, .Name y py] kt pt] (.Tuple [a, b] k2 pt2) pos) (MS D n X (.set (.tup (.cons (.var i) (.cons (.var j) .nil))) (.tup cs))) := by
  have hij : i ≠ j := fun z => hxy (by rw [z, hj] at hi; exact (Option.some.inj hi).symm)
  have lx : X.env.scope.names.lookup x = some .local := by rw [o.esc]; exact locB_ok hx
  have ly : X.env.scope.names.lookup y = some .local := by rw [o.esc]; exact locB_ok hy
  refine (ps_par o.calm (by rw [o.eN]; exact o.nd) (by rw [o.eN]; exact hi) (by rw [o.eN]; exact hj) hij lx ly p (sw2_some (by rw [o.esc]; exact o.kd) lx ly hl hxy ha hb hf hc)).imp fun E σ H ⟨ρ, ls, h, f, l', h', g, rs, e, k⟩ => ?_
  unfold evS at e
  obtain ⟨x, h1, e1, e2⟩ := R.bd_eq_ok e
  obtain ⟨l2, h2, e3, e4⟩ := R.bd_eq_ok e2
  cases e4
  unfold evE at e1
  obtain ⟨xs, h3, e5, e6⟩ := R.bd_eq_ok e1
  obtain ⟨_, rfl, rfl⟩ := newT_ok e6
  unfold evG at e3
  refine ⟨ρ, ls, h, xs, _, g, rs, e5, fun ρ1 H1 vs E1 G1 r1 => ?_⟩
  cases r1 with
  | nil => simp only [evGs] at e3; cases e3
  | cons r1 rr =>
    cases rr with
    | nil =>
      simp only [evGs] at e3
      obtain ⟨l1, h4, e7, e8⟩ := R.bd_eq_ok e3
      cases e8
    | cons r2 rr =>
      cases rr with
      | nil =>
        simp only [evGs] at e3
        obtain ⟨l1, h4, e7, e8⟩ := R.bd_eq_ok e3
        obtain ⟨l3, h5, e9, e10⟩ := R.bd_eq_ok e8
        cases e10
        obtain ⟨b1, rfl, rfl⟩ := evG_var e7
        obtain ⟨b2, rfl, rfl⟩ := evG_var e9
        exact ⟨_, _, rfl, k _ _ E1 G1 _ (((rs.ext E1).set b1 r1).set b2 r2)⟩
      | cons r3 rr =>
        simp only [evGs] at e3
        obtain ⟨l1, h4, e7, e8⟩ := R.bd_eq_ok e3
        obtain ⟨l3, h5, e9, e10⟩ := R.bd_eq_ok e8
        cases e10
theorem pz_par3 {i j m : Nat} {cs : CEs} {x y z : Str} {a b c : Expr} {px py pz pt pt2 pos : Pos} {kt k2 : Nat} (o : XO D n X raw sc N) (hi : N[i]? = some x) (hj : N[j]? = some y) (hm : N[m]? = some z) (hx : locB sc x = true) (hy : locB sc y = true) (hz : locB sc z = true) (hl : (py.line == px.line) = true) (hl2 : (pz.line == px.line) = true)
    (hxy : x ≠ y) (hxz : x ≠ z) (hyz : y ≠ z) (ha : noStar a = true) (hb : noStar b = true) (hc' : noStar c = true) (hf : (foldedForSure 8 a && (foldedForSure 8 b && foldedForSure 8 c)) = false) (hc : (constantsAlone 8 a && (constantsAlone 8 b && constantsAlone 8 c)) = false) (p : PA X [a, b, c] (MA D n X cs)) :
    PS X (.Assign [.Tuple [.Name x px, .Name y py, .Name z pz] kt pt] (.Tuple [a, b, c] k2 pt2) pos) (MS D n X (.set (.tup (.cons (.var i) (.cons (.var j) (.cons (.var m) .nil)))) (.tup cs))) := by
  have hij : i ≠ j := fun z => hxy (by rw [z, hj] at hi; exact (Option.some.inj hi).symm)
  have him : i ≠ m := fun z => hxz (by rw [z, hm] at hi; exact (Option.some.inj hi).symm)
  have hjm : j ≠ m := fun z => hyz (by rw [z, hm] at hj; exact (Option.some.inj hj).symm)
  have lx : X.env.scope.names.lookup x = some .local := by rw [o.esc]; exact locB_ok hx
  have ly : X.env.scope.names.lookup y = some .local := by rw [o.esc]; exact locB_ok hy
  have lz : X.env.scope.names.lookup z = some .local := by rw [o.esc]; exact locB_ok hz
  refine (ps_par3 o.calm (by rw [o.eN]; exact o.nd) (by rw [o.eN]; exact hi) (by rw [o.eN]; exact hj) (by rw [o.eN]; exact hm) hij him hjm lx ly lz p (sw3_some (by rw [o.esc]; exact o.kd) lx ly lz hl hl2 hxy hxz hyz ha hb hc' hf hc)).imp fun E σ H ⟨ρ, ls, h, f, l', h', g, rs, e, k⟩ => ?_
  unfold evS at e
  obtain ⟨x, h1, e1, e2⟩ := R.bd_eq_ok e
  obtain ⟨l2, h2, e3, e4⟩ := R.bd_eq_ok e2
  cases e4
  unfold evE at e1
  obtain ⟨xs, h3, e5, e6⟩ := R.bd_eq_ok e1
  obtain ⟨_, rfl, rfl⟩ := newT_ok e6
  unfold evG at e3
  refine ⟨ρ, ls, h, xs, _, g, rs, e5, fun ρ1 H1 vs E1 G1 r1 => ?_⟩
  cases r1 with
  | nil => simp only [evGs] at e3; cases e3
  | cons r1 rr =>
    simp only [evGs] at e3
    obtain ⟨l1, h4, e7, e8⟩ := R.bd_eq_ok e3
    cases rr with
    | nil => simp only [evGs] at e8; cases e8
    | cons r2 rr =>
      simp only [evGs] at e8
      obtain ⟨l3, h5, e9, e10⟩ := R.bd_eq_ok e8
      cases rr with
      | nil => simp only [evGs] at e10; cases e10
      | cons r3 rr =>
        simp only [evGs] at e10
        obtain ⟨l4, h6, e11, e12⟩ := R.bd_eq_ok e10
        cases rr with
        | cons r4 rr => simp only [evGs] at e12; cases e12
        | nil =>
          simp only [evGs] at e12
          cases e12
          obtain ⟨b1, rfl, rfl⟩ := evG_var e7
          obtain ⟨b2, rfl, rfl⟩ := evG_var e9
          obtain ⟨b3, rfl, rfl⟩ := evG_var e11
          exact ⟨_, _, _, rfl, k _ _ E1 G1 _ ((((rs.ext E1).set b1 r1).set b2 r2).set b3 r3)⟩
def ipA (op : Bop) : TIp := fun x y H Q => ∃ i j k, x = .int i ∧ y = .int j ∧ Q (.int k) H ∧ ((op = .add ∧ k = i + j) ∨ (op = .sub ∧ k = i - j))
theorem ip_all (op : Bop) : PIp X op.o (ipA op) := by
  intro pins s σ H x y v u Q I r1 r2 h
  obtain ⟨i, j, k, e1, e2, q, h⟩ := h
  rcases h with ⟨rfl, rfl⟩ | ⟨rfl, rfl⟩
  · exact ip_add pins s σ H x y v u Q I r1 r2 ⟨i, j, e1, e2, q⟩
  · exact ip_sub pins s σ H x y v u Q I r1 r2 ⟨i, j, e1, e2, q⟩
theorem pz_aug {i : Nat} {op : Bop} {c : CE} {x : Str} {e : Expr} {p pos : Pos} (o : XO D n X raw sc N) (hi : N[i]? = some x) (hl : (locB raw x || celB raw x) = true) (pe : PE X e (M1 D n X c)) : PS X (.AugAssign (.Name x p) op.o e pos) (MS D n X (.aug i op c)) := by
  obtain ⟨h1, h2⟩ := o.st hl
  refine (ps_aug (by rw [o.eN]; exact o.nd) (by rw [o.eN]; exact hi) h1 pe (ip_all op) h2).imp fun E σ H ⟨ρ, ls, h, f, l', h', g, rs, e, k⟩ => ?_
  unfold evS at e
  split at e
  · rename_i t0 et
    obtain ⟨v0, hv, rv⟩ := rs.get i _ et
    have hlt : i < ls.length := (List.getElem?_eq_some_iff.mp et).1
    obtain ⟨y, h3, e1, e2⟩ := R.bd_eq_ok e
    clear e
    refine ⟨v0, hv, ρ, ls, h, y, h3, g, rs, e1, fun ρ1 H1 v1 E1 G1 r1 => ?_⟩
    split at e2
    · rename_i a b
      cases rv
      cases r1
      cases op <;> dsimp only at e2 <;> first
        | (cases e2; exact ⟨_, _, _, rfl, rfl, k _ _ E1 G1 _ ((rs.ext E1).set hlt (.int _)), .inl ⟨rfl, rfl⟩⟩)
        | (cases e2; exact ⟨_, _, _, rfl, rfl, k _ _ E1 G1 _ ((rs.ext E1).set hlt (.int _)), .inr ⟨rfl, rfl⟩⟩)
        | (cases e2; done)
    · cases e2
  · cases e
theorem pz_if {c : CE} {a b : CSs} {e : Expr} {p q : List Stmt} {pos : Pos} (tc : PT X e (M1T D n X c)) (pa : PSs X p (MSs D n X a)) (pb : PSs X q (MSs D n X b)) : PS X (.If e p q pos) (MS D n X (.iff c a b)) :=
  (ps_if tc pa pb).imp fun E σ H ⟨ρ, ls, h, f, l', h', g, rs, e, k⟩ => by
    unfold evS at e
    obtain ⟨x, h1, e1, e2⟩ := R.bd_eq_ok e
    clear e
    split at e2
    · exact ⟨ρ, ls, h, true, h1, g, rs, e1, fun ρ1 H1 E1 G1 => iteT ⟨ρ1, ls, h1, f, l', h', G1, rs.ext E1, e2, fun ρ2 H2 E2 G2 => k _ _ (E1.trans E2) G2⟩⟩
    · exact ⟨ρ, ls, h, false, h1, g, rs, e1, fun ρ1 H1 E1 G1 => iteF ⟨ρ1, ls, h1, f, l', h', G1, rs.ext E1, e2, fun ρ2 H2 E2 G2 => k _ _ (E1.trans E2) G2⟩⟩
    · cases e2
theorem pzs_nil : PSs X [] (MSs D n X .nil) := pss_nil.imp fun E σ H ⟨ρ, ls, h, f, l', h', g, rs, e, k⟩ => by
  unfold evSs at e
  cases e
  exact k _ _ Ext.refl g σ rs
theorem pzs_cons {c : CS} {cs : CSs} {s : Stmt} {ss : List Stmt} (p : PS X s (MS D n X c)) (q : PSs X ss (MSs D n X cs)) : PSs X (s :: ss) (MSs D n X (.cons c cs)) :=
  (pss_cons p q).imp fun E σ H ⟨ρ, ls, h, f, l', h', g, rs, e, k⟩ => by
    unfold evSs at e
    obtain ⟨⟨f1, l1⟩, h1, e1, e2⟩ := R.bd_eq_ok e
    clear e
    refine ⟨ρ, ls, h, f1, l1, h1, g, rs, e1, fun ρ1 H1 E1 G1 => ?_⟩
    cases f1 with
    | nx => exact fun σ1 r1 => ⟨ρ1, l1, h1, f, l', h', G1, r1, e2, fun ρ2 H2 E2 G2 => k _ _ (E1.trans E2) G2⟩
    | bk => cases e2; exact k _ _ E1 G1
    | ct => cases e2; exact k _ _ E1 G1
    | rt t => cases e2; exact k _ _ E1 G1
theorem pz_for {t : Tg} {it : CI} {body : CSs} {tg iter : Expr} {p : List Stmt} {pos : Pos} (o : XO D n X raw sc N) (hs : noSet iter = true) (pi : PI X tg iter (MI D n X it)) (pg : PG X tg (MG D n X t)) (pb : PSs X p (MSs D n X body)) : PS X (.For tg iter p [] pos) (MS D n X (.for t it body)) := by
  refine (ps_for o.pas o.calm pi pg pb (set_of hs)).imp fun E σ H ⟨ρ, ls, h, f, l', h', g, rs, e, k⟩ => ?_
  unfold evS at e
  obtain ⟨⟨xs, w⟩, h1, e1, e2⟩ := R.bd_eq_ok e
  clear e
  let RUN := fun (ys : List T) (l : Ls) (hh : Hh) => evFor w (fun x l hh => evG D (callN D n) t x l hh) (fun l hh => evSs D (callN D n) body l hh) ys l hh
  refine ⟨ρ, ls, h, xs, w, h1, g, rs, e1, fun ρ1 H1 J E1 G1 IO => ⟨fun i m σ2 H2 => ∃ ρ2 l2 h2, Ext ρ1 H1 ρ2 H2 ∧ G X.K X.mg ρ2 H2 h2 ∧ RS X.K X.mg ρ2 H2 l2 σ2 ∧ m = xs.length - i ∧ i ≤ xs.length ∧ RUN (xs.drop i) l2 h2 = .ok (f, l') h', ⟨xs.length, ρ1, ls, h1, Ext.refl, G1, rs.ext E1, by omega, Nat.zero_le _, e2⟩, ?_⟩⟩
  rintro i m σ2 H2 ⟨ρ2, l2, h2, E2, G2, S2, rfl, hi, er⟩
  by_cases hlt : i < xs.length
  · have hx : xs[i]? = some xs[i] := List.getElem?_eq_getElem hlt
    have hdrop : xs.drop i = xs[i] :: xs.drop (i + 1) := List.drop_eq_getElem_cons hlt
    generalize xs[i] = x at hx hdrop
    have er' : RUN (x :: xs.drop (i + 1)) l2 h2 = .ok (f, l') h' := by rw [← hdrop]; exact er
    have er2 : (if wtOk w h2 = true then (evG D (callN D n) t x l2 h2).bd fun ls1 h1 => (evSs D (callN D n) body ls1 h1).bd fun p h2 => match p.1 with
      | .nx => RUN (xs.drop (i + 1)) p.2 h2
      | .ct => RUN (xs.drop (i + 1)) p.2 h2
      | .bk => .ok (.nx, p.2) h2
      | .rt t => .ok (.rt t, p.2) h2
      else .bad) = R.ok (f, l') h' := er'
    split at er2
    · rename_i hw
      obtain ⟨l3, h3, e3, e4⟩ := R.bd_eq_ok er2
      obtain ⟨⟨f1, l4⟩, h4, e5, e6⟩ := R.bd_eq_ok e4
      obtain ⟨hgo, hyl⟩ := (IO.all ρ2 H2 h2 E2 G2 hw).1 i x hx
      refine .inr ⟨hgo, fun σ' H' => ∃ ρ' l'' h'', Ext ρ1 H1 ρ' H' ∧ G X.K X.mg ρ' H' h'' ∧ RS X.K X.mg ρ' H' l'' σ' ∧ RUN (xs.drop (i + 1)) l'' h'' = .ok (f, l') h', fun σ' H' ⟨ρ', l'', h'', a1, a2, a3, a4⟩ => ⟨xs.length - (i + 1), by omega, ρ', l'', h'', a1, a2, a3, rfl, hlt, a4⟩, fun v H' hy => ?_⟩
      obtain ⟨E3, G3, rv⟩ := hyl v H' hy
      refine ⟨ρ2, l2, h2, x, l3, h3, G3, S2.ext E3, rv, e3, fun ρ4 H4 σ4 E4 G4 S4 _ => ⟨ρ4, l3, h3, f1, l4, h4, G4, S4, e5, fun ρ5 H5 E5 G5 => ?_⟩⟩
      have EE := E2.trans (E3.trans (E4.trans E5))
      cases f1 with
      | nx => exact fun σ5 S5 => ⟨ρ5, l4, h4, EE, G5, S5, e6⟩
      | ct => exact fun σ5 S5 => ⟨ρ5, l4, h4, EE, G5, S5, e6⟩
      | bk => cases e6; exact k _ _ (E1.trans EE) G5
      | rt u => cases e6; exact k _ _ (E1.trans EE) G5
    · cases er2
  · have hd : xs.drop i = [] := List.drop_eq_nil_of_le (by omega)
    have er' : RUN [] l2 h2 = .ok (f, l') h' := by rw [← hd]; exact er
    have er2 : (if wtOk w h2 = true then R.ok (Fl.nx, l2) h2 else .bad) = R.ok (f, l') h' := er'
    split at er2
    · rename_i hw
      cases er2
      exact .inl ⟨(IO.all ρ2 H2 _ E2 G2 hw).2 i (by omega), k _ _ (E1.trans E2) G2 σ2 S2⟩
    · cases er2
theorem whileW_ok {c : Ls → Hh → R T} {body : Ls → Hh → R (Fl × Ls)} {ls : Ls} {h h' : Hh} {r : Fl × Ls} (e : whileW c body ls h = .ok r h') : ∃ m, whileN c body m ls h = .ok r h' := by
  unfold whileW at e
  split at e
  · exact ⟨_, e⟩
  · cases e
theorem pz_while {c : CE} {body : CSs} {e : Expr} {p : List Stmt} {pos : Pos} (o : XO D n X raw sc N) (tc : PT X e (M1T D n X c)) (pb : PSs X p (MSs D n X body)) : PS X (.While e p [] pos) (MS D n X (.whl c body)) := by
  refine (ps_while o.pas tc pb).imp fun E σ H ⟨ρ, ls, h, f, l', h', g, rs, e, k⟩ => ?_
  unfold evS at e
  obtain ⟨m0, e0⟩ := whileW_ok e
  refine ⟨fun m σ2 H2 => ∃ ρ2 l2 h2, Ext ρ H ρ2 H2 ∧ G X.K X.mg ρ2 H2 h2 ∧ RS X.K X.mg ρ2 H2 l2 σ2 ∧ whileN (fun l hh => evE D (callN D n) c l hh) (fun l hh => evSs D (callN D n) body l hh) m l2 h2 = .ok (f, l') h', ⟨m0, ρ, ls, h, Ext.refl, g, rs, e0⟩, ?_⟩
  rintro m σ2 H2 ⟨ρ2, l2, h2, E2, G2, S2, er⟩
  cases m with
  | zero => cases er
  | succ m =>
    unfold whileN at er
    obtain ⟨x, h3, e1, e2⟩ := R.bd_eq_ok er
    clear er
    split at e2
    · cases e2
      exact ⟨ρ2, _, _, false, _, G2, S2, e1, fun ρ3 H3 E3 G3 => iteF (k _ _ (E2.trans E3) G3 σ2 (S2.ext E3))⟩
    · obtain ⟨⟨f1, l4⟩, h4, e5, e6⟩ := R.bd_eq_ok e2
      refine ⟨ρ2, l2, h2, true, h3, G2, S2, e1, fun ρ3 H3 E3 G3 => iteT ⟨fun σ' H' => ∃ ρ' l'' h'', Ext ρ H ρ' H' ∧ G X.K X.mg ρ' H' h'' ∧ RS X.K X.mg ρ' H' l'' σ' ∧ whileN (fun l hh => evE D (callN D n) c l hh) (fun l hh => evSs D (callN D n) body l hh) m l'' h'' = .ok (f, l') h', fun σ' H' q => ⟨m, Nat.lt_succ_self m, q⟩, ρ3, l2, h3, f1, l4, h4, G3, S2.ext E3, e5, fun ρ5 H5 E5 G5 => ?_⟩⟩
      have EE := E2.trans (E3.trans E5)
      cases f1 with
      | nx => exact fun σ5 S5 => ⟨ρ5, l4, h4, EE, G5, S5, e6⟩
      | ct => exact fun σ5 S5 => ⟨ρ5, l4, h4, EE, G5, S5, e6⟩
      | bk => cases e6; exact k _ _ EE G5
      | rt u => cases e6; exact k _ _ EE G5
    · cases e2
end
end MP

set_option Elab.async false
set_option linter.all false
set_option maxRecDepth 100000
/-! MiniPy, part Q: blocks, defs, the law's end -/
namespace MP
open PySem PySem.Spec PyProof.Rows L2
section
variable {D : Tbl} {n : Nat} {N : List Str}
theorem inv_tup {c : CE} {raw sc : Scope} {es : List Expr} {k : Nat} {p : Pos} (h : chkE D N c raw sc (.Tuple es k p) = true) : ∃ cs, c = .tup cs ∧ chkEs D N cs raw sc es = true := by
  cases c <;> first
    | (unfold chkE at h; exact ⟨_, rfl, h⟩)
    | (unfold chkE at h; cases h; done)
theorem inv_comp {c : CE} {raw sc : Scope} {elt : Expr} {gs : List Comprehension} {scope : Scope} {p : Pos} (h : chkE D N c raw sc (.ListComp elt gs scope p) = true) : ∃ own tg it cn el, c = .comp own tg it cn el := by
  cases c <;> first
    | (exact ⟨_, _, _, _, _, rfl⟩)
    | (unfold chkE at h; cases h; done)
theorem inv_gvar {t : Tg} {raw sc : Scope} {x : Str} {p : Pos} (h : chkG D N t raw sc (.Name x p) = true) : ∃ i, t = .var i ∧ N[i]? = some x := by
  cases t <;> unfold chkG at h
  · obtain ⟨h, h3⟩ := all_and h
    obtain ⟨h1, h2⟩ := all_and h
    exact ⟨_, rfl, of_decide_eq_true h1⟩
  · cases h
  · cases h
theorem inv_gtup {t : Tg} {raw sc : Scope} {es : List Expr} {k : Nat} {p : Pos} (h : chkG D N t raw sc (.Tuple es k p) = true) : ∃ ts, t = .tup ts ∧ chkGs D N ts raw sc es = true := by
  cases t <;> unfold chkG at h
  · cases h
  · exact ⟨_, rfl, h⟩
  · cases h
theorem inv_gs {ts : Tgs} {raw sc : Scope} {e : Expr} {es : List Expr} (h : chkGs D N ts raw sc (e :: es) = true) : ∃ t ts', ts = .cons t ts' ∧ chkG D N t raw sc e = true ∧ chkGs D N ts' raw sc es = true := by
  cases ts <;> unfold chkGs at h
  · cases h
  · obtain ⟨h, h3⟩ := all_and h
    obtain ⟨h1, h2⟩ := all_and h
    exact ⟨_, _, rfl, h2, h3⟩
theorem inv_gs0 {ts : Tgs} {raw sc : Scope} (h : chkGs D N ts raw sc [] = true) : ts = .nil := by
  cases ts <;> unfold chkGs at h
  · rfl
  · cases h
theorem sSet {t : Tg} {c : CE} {raw sc : Scope} {tg e : Expr} {pos : Pos} {X : Cx} (o : XO D n X raw sc N) (h1 : noStar tg = true) (h2 : chkG D N t raw sc tg = true) (h3 : chkE D N c raw sc e = true)
    (h4 : ((swpF sc tg e && swnF sc tg e) || par2 sc tg e || par3 sc tg e || lcSwap sc tg e) = true) : PS X (.Assign [tg] e pos) (MS D n X (.set t c)) := by
  rw [Bool.or_eq_true, Bool.or_eq_true, Bool.or_eq_true] at h4
  rcases h4 with ((h4 | h4) | h4) | h4
  · obtain ⟨a, b⟩ := all_and h4
    exact pz_set o h1 a b (sE c h3 o).1 (sG t h2 o)
  · unfold par2 at h4
    split at h4
    · obtain ⟨h4, g8⟩ := all_and h4
      obtain ⟨h4, g7⟩ := all_and h4
      obtain ⟨h4, g6⟩ := all_and h4
      obtain ⟨h4, g5⟩ := all_and h4
      obtain ⟨h4, g4⟩ := all_and h4
      obtain ⟨h4, g3⟩ := all_and h4
      obtain ⟨g1, g2⟩ := all_and h4
      obtain ⟨cs, rfl, hc⟩ := inv_tup h3
      obtain ⟨ts, rfl, ht⟩ := inv_gtup h2
      obtain ⟨t1, ts1, rfl, k1, ht⟩ := inv_gs ht
      obtain ⟨t2, ts2, rfl, k2, ht⟩ := inv_gs ht
      cases inv_gs0 ht
      obtain ⟨i, rfl, hi⟩ := inv_gvar k1
      obtain ⟨j, rfl, hj⟩ := inv_gvar k2
      exact pz_par2 o hi hj g1 g2 g3 (of_decide_eq_false (not_t g4)) g5 g6 (not_t g7) (not_t g8) (sEs cs hc o)
    · cases h4
  · unfold par3 at h4
    split at h4
    · obtain ⟨h4, g13⟩ := all_and h4
      obtain ⟨h4, g12⟩ := all_and h4
      obtain ⟨h4, g11⟩ := all_and h4
      obtain ⟨h4, g10⟩ := all_and h4
      obtain ⟨h4, g9⟩ := all_and h4
      obtain ⟨h4, g8⟩ := all_and h4
      obtain ⟨h4, g7⟩ := all_and h4
      obtain ⟨h4, g6⟩ := all_and h4
      obtain ⟨h4, g5⟩ := all_and h4
      obtain ⟨h4, g4⟩ := all_and h4
      obtain ⟨h4, g3⟩ := all_and h4
      obtain ⟨g1, g2⟩ := all_and h4
      obtain ⟨cs, rfl, hc⟩ := inv_tup h3
      obtain ⟨ts, rfl, ht⟩ := inv_gtup h2
      obtain ⟨t1, ts1, rfl, k1, ht⟩ := inv_gs ht
      obtain ⟨t2, ts2, rfl, k2, ht⟩ := inv_gs ht
      obtain ⟨t3, ts3, rfl, k3, ht⟩ := inv_gs ht
      cases inv_gs0 ht
      obtain ⟨i, rfl, hi⟩ := inv_gvar k1
      obtain ⟨j, rfl, hj⟩ := inv_gvar k2
      obtain ⟨m, rfl, hm⟩ := inv_gvar k3
      exact pz_par3 o hi hj hm g1 g2 g3 g4 g5 (of_decide_eq_false (not_t g6)) (of_decide_eq_false (not_t g7)) (of_decide_eq_false (not_t g8)) g9 g10 g11 (not_t g12) (not_t g13) (sEs cs hc o)
    · cases h4
  · obtain ⟨elt, gs, scope, p, y, py, rfl, rfl, b1, b2, b3⟩ := lc_of_swap h4
    obtain ⟨i, rfl, hi⟩ := inv_gvar h2
    obtain ⟨own, tg, it, cn, el, rfl⟩ := inv_comp h3
    unfold chkE at h3
    split at h3
    · rename_i heq
      cases heq
      obtain ⟨h, h8⟩ := all_and h3
      obtain ⟨h, h7⟩ := all_and h
      obtain ⟨h, h6⟩ := all_and h
      obtain ⟨h, h5⟩ := all_and h
      obtain ⟨h, h4'⟩ := all_and h
      obtain ⟨h, h3'⟩ := all_and h
      obtain ⟨h1', h2'⟩ := all_and h
      have bk := blkOk_by h1'
      have ob := fun s H C cl fp => o.blk bk.kind s H C cl fp
      refine pz_setLc o hi b1 b2 b3 ⟨by rw [o.eN, o.esc]; exact bk, fun i hi => ?_, h4', sI it h5 o, fun s H C cl fp => sG tg h6 (ob s H C cl fp), fun s H C cl fp => sC cn h7 (ob s H C cl fp), fun s H C cl fp => (sE el h8 (ob s H C cl fp)).1⟩
      have z := List.all_eq_true.mp h3' i hi
      simpa using z
    · cases h3
mutual
theorem sS : ∀ (c : CS) {raw sc : Scope} {s : Stmt} {X : Cx}, chkS D N c raw sc s = true → XO D n X raw sc N → PS X s (MS D n X c)
  | .pass, raw, sc, s, X, h, o => by
    unfold chkS at h
    split at h
    · exact pz_nx ps_pass fun _ _ => by simp only [evS]
    · exact pz_nx ps_doc fun _ _ => by simp only [evS]
    · cases h
  | .expr c, raw, sc, s, X, h, o => by
    unfold chkS at h
    split at h
    · obtain ⟨h1, h2⟩ := all_and h
      exact pz_expr h1 (sE c h2 o).1
    · cases h
  | .ret c, raw, sc, s, X, h, o => by
    unfold chkS at h
    split at h
    · exact pz_ret (sE c h o).1
    · cases h
  | .retN, raw, sc, s, X, h, o => by
    unfold chkS at h
    split at h
    · exact pz_retN
    · cases h
  | .set t c, raw, sc, s, X, h, o => by
    unfold chkS at h
    split at h
    · obtain ⟨h, h4⟩ := all_and h
      obtain ⟨h, h3⟩ := all_and h
      obtain ⟨h1, h2⟩ := all_and h
      exact sSet o h1 h2 h3 h4
    · cases h
  | .aug i op c, raw, sc, s, X, h, o => by
    unfold chkS at h
    split at h
    · obtain ⟨h, h5⟩ := all_and h
      obtain ⟨h, h4⟩ := all_and h
      obtain ⟨h, h3⟩ := all_and h
      obtain ⟨h1, h2⟩ := all_and h
      cases of_decide_eq_true h1
      exact pz_aug o (of_decide_eq_true h2) h3 (sE c h5 o).1
    · cases h
  | .augS _ _ _ _, raw, sc, s, X, h, o => by
    unfold chkS at h
    cases h
  | .iff c a b, raw, sc, s, X, h, o => by
    unfold chkS at h
    split at h
    · obtain ⟨h, h4⟩ := all_and h
      obtain ⟨h, h3⟩ := all_and h
      obtain ⟨h1, h2⟩ := all_and h
      exact pz_if ((sE c h2 o).2 h1) (sSs a h3 o) (sSs b h4 o)
    · cases h
  | .for t it body, raw, sc, s, X, h, o => by
    unfold chkS at h
    split at h
    · obtain ⟨h, h4⟩ := all_and h
      obtain ⟨h, h3⟩ := all_and h
      obtain ⟨h1, h2⟩ := all_and h
      exact pz_for o h1 (sI it h2 o) (sG t h3 o) (sSs body h4 o)
    · cases h
  | .whl c body, raw, sc, s, X, h, o => by
    unfold chkS at h
    split at h
    · obtain ⟨h, h3⟩ := all_and h
      obtain ⟨h1, h2⟩ := all_and h
      exact pz_while o ((sE c h2 o).2 h1) (sSs body h3 o)
    · cases h
  | .brk, raw, sc, s, X, h, o => by
    unfold chkS at h
    split at h
    · exact pz_brk
    · cases h
  | .cnt, raw, sc, s, X, h, o => by
    unfold chkS at h
    split at h
    · exact pz_cnt
    · cases h
  | .never, raw, sc, s, X, h, o => pz_never
theorem sSs : ∀ (c : CSs) {raw sc : Scope} {s : List Stmt} {X : Cx}, chkSs D N c raw sc s = true → XO D n X raw sc N → PSs X s (MSs D n X c)
  | .nil, raw, sc, s, X, h, o => by
    unfold chkSs at h
    split at h
    · exact pzs_nil
    · cases h
  | .cons c cs, raw, sc, s, X, h, o => by
    unfold chkSs at h
    split at h
    · obtain ⟨h1, h2⟩ := all_and h
      exact pzs_cons (sS c h1 o) (sSs cs h2 o)
    · cases h
end
end
/-! ### defs -/
section
variable {P : Program} {w : World} {K : PySem.W.Frag} {mg : Str → Option Value} {base : Heap}
theorem fnG_of {x qual : Str} {st : Stmt} {f : Addr} {fd : FuncData} {N ps : List Str} {k : Nat} {sp : Sp} (F : Fun K x qual st f fd) (S : FnScope N ps (defScope st)) (len : ∀ vs H Q E, sp vs H Q E → vs.length = ps.length)
    (hbody : ∀ (cdv : Value) (A : Around) (fr : List Env) (s : Shared) (H : Hp) (vs : List V) (Q : VK), A.guards = some [] → Room k (A.deeper (envOfC qual (defScope st) s.heap.objs.size f cdv)) → sp vs H Q E0 →
      ∃ t, PSs (cxOf CX0 P w K mg base N qual (defScope st) f cdv A fr s H E0).nox (defBody st) t ∧ t { nx := fun _ H' => Q .non H', rt := Q } (L2.start N vs) H) : FnG P w K mg base (k + 1) f fd ps sp := by
  obtain ⟨oc, od, kV, doc, pm, an, cdv, ct, osl, rfl, lk, hcd⟩ := F.ex
  constructor
  · exact len
  intro A fr s H args us vs Q gd room env0 bnd rel hsp
  have kin : K.In s.heap := env0.mod.kin.keeps fun b q e => (env0.bs b q e).1
  have nl : s.heap.NoLimit := env0.mod.nolimit.keeps fun b q e => (env0.bs b q e).1
  have par : ∀ y ∈ ps.zip us, (defScope st).names.lookup y.1 = some .local ∨ ((defScope st).names.lookup y.1 = some .cell ∧ ((cellsFrom (s.heap.objs.size + 1) (defScope st).names []).lookup y.1).isSome = true) := by
    rintro ⟨nm, v⟩ hy
    refine (S.par nm (List.of_mem_zip hy).1).imp id fun q => ⟨q, PySem.W.cellsFrom_some _ _ _ (.inl q)⟩
  refine codeAny_call_function room.depth (kin _ _ lk) rfl S.co S.gen rfl (PySem.W.codeRec_of kin hcd) (bnd _ _ _ _ (wpAny_newFunctionEnv_cells S.kind par fun env he s1 y => ?_))
  subst he
  obtain ⟨t, ht, hq⟩ := hbody cdv A fr s H vs Q gd (room.deeper _) hsp
  have I := inv_start (CX := CX0) (P := P) (mg := mg) (base := base) (E := E0) S room.hd env0 (len _ _ _ _ hsp) rel y
  refine ⟨nl.keeps y.toInCall.keep, codeAny_func (wpAny_mono (ht.nox.run [] s1 (L2.start N vs) H _ I hq) (fun fl s' hs => ?_) fun e s' hs => hs)⟩
  match fl, hs with
  | .ret u, ⟨v, σ', H', J, rv, q⟩ => exact ⟨v, H', J.os, J.bare, J.base, J.hok, rv, q⟩
  | .next, ⟨σ', H', J, q⟩ => exact ⟨.non, H', J.os, J.bare, J.base, J.hok, rfl, q⟩
  | .brk, ⟨_, _, _, q⟩ => exact q.elim
  | .cont, ⟨_, _, _, q⟩ => exact q.elim
/-- a def of the table and its text -/
structure DefAt (K : PySem.W.Frag) (mg : Str → Option Value) (D : Tbl) (f : String) (fd : FD) : Prop where
  ex : ∃ (st : Stmt) (fa : Addr) (fdata : FuncData), Fun K (Str.ofString f) (Str.ofString f) st fa fdata ∧ mg (Str.ofString f) = some (.ref fa) ∧ FnScope (fd.N.map Str.ofString) (fd.ps.map Str.ofString) (defScope st) ∧
    chkSs D (fd.N.map Str.ofString) fd.body (defScope st) (defScope st) (defBody st) = true ∧ Binds K fdata (fd.ps.map Str.ofString) [] ∧ ∀ m ks, (f, m, ks) ∈ D.kw → KBd K fdata fd.ps m ks
theorem fin_ok {r : R (Fl × Ls)} {t : T} {h : Hh} (e : fin r = .ok t h) : (∃ l, r = .ok (.rt t, l) h) ∨ (∃ l, r = .ok (.nx, l) h ∧ t = .non) := by
  unfold fin at e
  split at e
  · cases e
    exact .inl ⟨_, rfl⟩
  · cases e
    exact .inr ⟨_, rfl, rfl⟩
  · cases e
  · cases e
theorem rs_start {ρ : List Addr} {H : Hp} {fd : FD} {ts : List T} {vs : List V} (r : RTs K mg ρ H ts vs) (hl : ts.length ≤ fd.N.length) : RS K mg ρ H (startL fd ts) (L2.start (fd.N.map Str.ofString) vs) := by
  have hlen := r.length
  refine ⟨?_, fun i t e => ?_⟩
  · unfold startL L2.start
    simp only [List.length_append, List.length_map, List.length_replicate]
    omega
  · unfold startL at e
    by_cases hi : i < ts.length
    · rw [List.getElem?_append_left (by simpa using hi), List.getElem?_map] at e
      cases q : ts[i]? with
      | none => rw [q] at e; cases e
      | some t0 =>
        rw [q] at e
        cases e
        obtain ⟨v, hv, rv⟩ := r.get q
        refine ⟨v, ?_, rv⟩
        unfold L2.start
        rw [List.getElem?_append_left (by rw [List.length_map, ← hlen]; exact hi), List.getElem?_map, hv]
        rfl
    · rw [List.getElem?_append_right (by simpa using Nat.le_of_not_lt hi)] at e
      rw [List.getElem?_replicate] at e
      split at e <;> cases e
/-- a def keeps its promise at one depth more than those that it calls -/
theorem def_step {D : Tbl} (hgl : ∀ x t, D.gl x = some t → ∃ u v, mg (Str.ofString x) = some u ∧ RelV v u ∧ ∀ ρ H, RT K mg ρ H t v)
    (hb : ∀ x, x ∈ ["len", "list", "tuple", "sorted", "all", "any", "sum", "max", "min", "int", "repr", "str", "abs", "bool", "isinstance", "range", "enumerate", "zip", "set", "reversed", "dict"] → mg (Str.ofString x) = none) {n : Nat}
    (ih : ∀ (f : String) (fd : FD), D.fn f = some fd → ∃ fa fdata, FnG P w K mg base n fa fdata (fd.ps.map Str.ofString) (spf K mg fd.ps.length (callN D n f)) ∧ mg (Str.ofString f) = some (.ref fa) ∧ PySem.W.keepIn K (.ref fa) = true ∧ Binds K fdata (fd.ps.map Str.ofString) [] ∧ ∀ m ks, (f, m, ks) ∈ D.kw → KBd K fdata fd.ps m ks)
    {f : String} {fd : FD} (hf : D.fn f = some fd) {st : Stmt} {fa : Addr} {fdata : FuncData} (F : Fun K (Str.ofString f) (Str.ofString f) st fa fdata) (S : FnScope (fd.N.map Str.ofString) (fd.ps.map Str.ofString) (defScope st))
    (hc : chkSs D (fd.N.map Str.ofString) fd.body (defScope st) (defScope st) (defBody st) = true) : FnG P w K mg base (n + 1) fa fdata (fd.ps.map Str.ofString) (spf K mg fd.ps.length (callN D (n + 1) f)) := by
  refine fnG_of F S (fun vs H Q E h => by rw [List.length_map]; exact h.1) (fun cdv A fr s H vs Q gd room hsp => ?_)
  obtain ⟨hlen, ρ, h, ts, t, h', g, rs, e, k⟩ := hsp
  have o : XO D n (cxOf CX0 P w K mg base (fd.N.map Str.ofString) (Str.ofString f) (defScope st) fa cdv A fr s H E0).nox (defScope st) (defScope st) (fd.N.map Str.ofString) := ⟨rfl, rfl, S.nd, rfl, room, gd, S.kind, fun _ _ _ h => h, fun _ _ => rfl, PassesOwn.never, ih, hgl, hb⟩
  refine ⟨_, sSs fd.body hc o, ?_⟩
  unfold callN at e
  rw [hf] at e
  dsimp only at e
  split at e
  · rename_i hl
    have hNl : ts.length ≤ fd.N.length := by
      have z := S.pre
      have z2 := congrArg List.length z
      rw [List.length_take, List.length_map, List.length_map] at z2
      omega
    rcases fin_ok e with ⟨l, e2⟩ | ⟨l, e2, rfl⟩
    · exact ⟨ρ, startL fd ts, h, .rt t, l, h', g, rs_start rs hNl, e2, fun ρ1 H1 E1 G1 v r => k _ _ _ E1 G1 r⟩
    · exact ⟨ρ, startL fd ts, h, .nx, l, h', g, rs_start rs hNl, e2, fun ρ1 H1 E1 G1 σ r => k _ _ _ E1 G1 .non⟩
  · cases e
/-- all defs of the table keep their promises, whatever the depth -/
theorem all_defs {D : Tbl} (hd : ∀ f fd, D.fn f = some fd → DefAt K mg D f fd) (hgl : ∀ x t, D.gl x = some t → ∃ u v, mg (Str.ofString x) = some u ∧ RelV v u ∧ ∀ ρ H, RT K mg ρ H t v)
    (hb : ∀ x, x ∈ ["len", "list", "tuple", "sorted", "all", "any", "sum", "max", "min", "int", "repr", "str", "abs", "bool", "isinstance", "range", "enumerate", "zip", "set", "reversed", "dict"] → mg (Str.ofString x) = none) :
    ∀ (n : Nat) (f : String) (fd : FD), D.fn f = some fd → ∃ fa fdata, FnG P w K mg base n fa fdata (fd.ps.map Str.ofString) (spf K mg fd.ps.length (callN D n f)) ∧ mg (Str.ofString f) = some (.ref fa) ∧ PySem.W.keepIn K (.ref fa) = true ∧ Binds K fdata (fd.ps.map Str.ofString) [] ∧ ∀ m ks, (f, m, ks) ∈ D.kw → KBd K fdata fd.ps m ks := by
  intro n
  induction n with
  | zero =>
    intro f fd hf
    obtain ⟨st, fa, fdata, F, hm, S, hc, bd, bk⟩ := (hd f fd hf).ex
    refine ⟨fa, fdata, ⟨fun vs H Q E h => by rw [List.length_map]; exact h.1, fun A fr s H args us vs Q gd room env0 bnd rel hsp => ?_⟩, hm, F.kp, bd, bk⟩
    obtain ⟨_, ρ, h, ts, t, h', g, rs, e, k⟩ := hsp
    cases e
  | succ n ih =>
    intro f fd hf
    obtain ⟨st, fa, fdata, F, hm, S, hc, bd, bk⟩ := (hd f fd hf).ex
    exact ⟨fa, fdata, def_step hgl hb ih hf F S hc, hm, F.kp, bd, bk⟩
end
end MP

set_option Elab.async false
set_option linter.all false
set_option maxRecDepth 100000
/-! MiniPy, part R: the law's end -/
namespace MP
open PySem PySem.Spec PyProof.Rows L2
/-- the heap in which the script alone is known, unless it is an object of the module -/
def scriptH (K : PySem.W.Frag) (a : Addr) (ob : Obj) (ns : List Int) : Hp := fun b => if b = a ∧ (K.lookup a).isNone = true then some (.frz ob (.lst (ns.map V.int))) else none
theorem scriptH_none {K : PySem.W.Frag} {a : Addr} {ob : Obj} {ns : List Int} {b : Addr} (h : b ≠ a) : scriptH K a ob ns b = none := if_neg fun z => h z.1
theorem scriptH_some {K : PySem.W.Frag} {a : Addr} {ob : Obj} {ns : List Int} {b : Addr} {u : HO} (h : scriptH K a ob ns b = some u) : b = a ∧ K.lookup a = none ∧ u = .frz ob (.lst (ns.map V.int)) := by
  unfold scriptH at h
  split at h
  · rename_i hc
    cases h
    exact ⟨hc.1, Option.isNone_iff_eq_none.mp hc.2, rfl⟩
  · cases h
theorem law_go {P : Program} {w : World} {K : PySem.W.Frag} {mg mb : Str → Option Value} {k : Nat} {fa a : Addr} {fd : FuncData} {x : Str} {sp : Sp} {s1 : Shared} {vs : List Value} {ns : List Int}
    (KX : K.In s1.heap) (hns : s1.heap.Ns mainGlobals mg) (hb : s1.heap.Ns builtinsNs mb) (hbb : ∀ x : Str, x ≠ "__name__" → mb x = bootBuiltins x) (hlim : s1.heap.NoLimit) (hgen : s1.gens = #[])
    (ha : s1.heap.get? a = some { cls := .type "list", data := .seq vs.toArray }) (hi : IntsAre vs ns) (hl : ns.length ≤ sizeLine) (hr : Room k callerA)
    (F : ∀ base : Heap, K.In base → base.Ns mainGlobals mg → FnG P w K mg base k fa fd [x] sp) (hbind : BindsTo s1 fd ⟨[.ref a], []⟩ [(x, .ref a)])
    (hsp : ∀ H : Hp, FzAt K H a (ns.map V.int) → sp [.ref a] H (fun v _ => v = .bl true) E0) :
    codeAny (model P w) callerA (.call (.ref fa) ⟨[.ref a], []⟩) (fun r s' => r = .ok (.ret (.bool true)) ∧ OldK s1.heap s'.heap ∧ s'.os = s1.os ∧ AllBare s'.gens) s1 := by
  have rel : Vals (ns.map V.int) vs := vals_ints hi
  have zl : vs.length = ns.length := hi.length
  let ob : Obj := { cls := .type "list", data := .seq vs.toArray }
  let H : Hp := scriptH K a ob ns
  have hh : ∀ {b : Addr} {o : Obj}, s1.heap.get? b = some o → H b = none → (hidT s1.heap H).get? b = some o := fun e z => hidT_get e z
  have notdict : ∀ {b : Addr} {o : Obj} {es : Array DictEntry} {ep : Nat}, s1.heap.get? b = some o → o.data = .dict es ep → H b = none := fun {b o es ep} e d => scriptH_none fun z => by
    rw [z, ha] at e
    cases e
    cases d
  have nsk : ∀ {b : Addr} {m : Str → Option Value}, s1.heap.Ns b m → (hidT s1.heap H).Ns b m := fun {b m} ⟨o, es, ep, e, d, r⟩ => ⟨o, es, ep, hh e (notdict e d), d, r⟩
  have kb : K.In (hidT s1.heap H) := fun b o e => hh (KX b o e) (by
    cases q : H b with
    | none => rfl
    | some u =>
      obtain ⟨rfl, z, _⟩ := scriptH_some q
      rw [z] at e
      cases e)
  have hok : HOk P w H s1.heap := fun b u q => by
    obtain ⟨rfl, z, rfl⟩ := scriptH_some q
    exact ⟨ha, by rw [List.length_map]; exact hl, vs, 0, rel, ha⟩
  have md : Mod K mg (hidT s1.heap H) := ⟨kb, nsk hns, ⟨mb, nsk hb, hbb⟩, let ⟨mc, h1, h2⟩ := hlim; ⟨mc, nsk h1, h2⟩⟩
  have env0 : Env0 P w K mg (hidT s1.heap H) callerA [] s1 H := ⟨rfl, md, fun b o e => of_hidT e, Nat.le_of_eq (hidT_size _ _), trivial, fun b z => (by cases z), hok, .of_eq hgen⟩
  have fz : FzAt K H a (ns.map V.int) := by
    cases q : K.lookup a with
    | none => exact .inl ⟨ob, if_pos ⟨rfl, by rw [q]; rfl⟩⟩
    | some o =>
      have e := KX a o q
      rw [ha] at e
      cases e
      exact .inr ⟨_, vs.toArray, _, q, rfl, fun _ => rfl, rfl, by rw [List.size_toArray, zl]; exact hl, by simpa using rel⟩
  have run := (F _ kb (nsk hns)).run callerA [] s1 H ⟨[.ref a], []⟩ [.ref a] [.ref a] (fun v _ => v = .bl true) rfl hr env0 hbind (.cons rfl .nil) (hsp H fz)
  refine codeAny_mono run fun r s' h => ?_
  match r, h with
  | .error _, h => exact h.elim
  | .ok .next, h => exact h.elim
  | .ok .brk, h => exact h.elim
  | .ok .cont, h => exact h.elim
  | .ok (.ret u), ⟨v, H', os, bare, un, hok', rv, q⟩ =>
    have q' : v = .bl true := q
    subst q'
    obtain rfl : u = Value.bool true := rv
    refine ⟨rfl, OldK.of_keep fun b o e => ?_, os, bare⟩
    cases z : H b with
    | none => exact un.keep b o e z (fun y => nomatch y) (fun y => nomatch y)
    | some u =>
      obtain ⟨rfl, _, rfl⟩ := scriptH_some z
      obtain ⟨e2, _⟩ := hok' b _ (un.frzs b ob _ z)
      rw [ha] at e
      cases e
      exact e2
/-- the script as our value -/
def scr (ns : List Int) : T := .fz (ns.map T.int)
theorem rts_ints {K : PySem.W.Frag} {mg : Str → Option Value} {ρ : List Addr} {H : Hp} : ∀ ns : List Int, RTs K mg ρ H (ns.map T.int) (ns.map V.int)
  | [] => .nil
  | n :: ns => .cons (.int n) (rts_ints ns)
/-- what the head leaves, from the evaluator's answer -/
theorem walk_mp {l : PySem.W.OpenLaw} {m k : Nat} {q : Program} {loose : List Str} {XP : (Str → Option Value) → Heap → Prop} {YP : World → Heap → Prop} {d : DefRec} {K : Params → PySem.W.Frag} {x : String} {D : Tbl} {fd : FD} {f : String}
    (hn : l.most = some m) (hn2 : m ≤ sizeLine) (hdf : d.params.defaults = []) (hr : Room (k + 1) callerA) (hY : ∀ (w : World) (h : Heap), YP w h → (K w.params).In h) (hname : d.name = Str.ofString f) (hfd : D.fn f = some fd) (hps : fd.ps = [x])
    (hD : ∀ (w : World) (mg : Str → Option Value) (h : Heap), (K w.params).In h → h.Ns mainGlobals mg →
      (∀ f fd, D.fn f = some fd → DefAt (K w.params) mg D f fd) ∧ (∀ x t, D.gl x = some t → ∃ u v, mg (Str.ofString x) = some u ∧ RelV v u ∧ ∀ ρ H, RT (K w.params) mg ρ H t v) ∧
      (∀ x, x ∈ ["len", "list", "tuple", "sorted", "all", "any", "sum", "max", "min", "int", "repr", "str", "abs", "bool", "isinstance", "range", "enumerate", "zip", "set", "reversed", "dict"] → mg (Str.ofString x) = none))
    (hlaw : ∀ ns : List Int, ns.length ≤ m → ∃ h', callN D (k + 1) f [scr ns] [] = .ok (.bl true) h') :
    PySem.W.WalkO q loose XP YP l.row.toRowW d [] (fun f vs => PySem.call f vs) := by
  refine Att.attach_call hn hdf fun w s0 s1 mg mb fa o pm cd doc a vs ns G0 Y ho hd hcd hmg hobj hints hlen hg => ?_
  have KX := hY w _ Y
  obtain ⟨h1, h2, h3⟩ := hD w mg _ KX G0.T.g
  -- the law's own def
  obtain ⟨st, fa', fdata, F, hm, S, hc, bd, bk⟩ := (h1 f fd hfd).ex
  have efa : fa' = fa := by
    rw [hname] at hmg
    rw [hm] at hmg
    cases hmg
    rfl
  subst efa
  have ox : (fd.ps.map Str.ofString) = [Str.ofString x] := by rw [hps]; rfl
  refine law_go (x := Str.ofString x) (fd := fdata) (sp := spf (K w.params) mg 1 (callN D (k + 1) f)) KX G0.T.g G0.T.b G0.T.builtins G0.T.nolimit hg hobj hints (Nat.le_trans hlen hn2) hr (fun base kb nb => ?_) ?_ (fun H hf => ?_)
  · have z := def_step (P := l.prog) (w := w) (base := base) h2 h3 (all_defs (P := l.prog) (w := w) (base := base) h1 h2 h3 k) hfd F S hc
    rw [hps] at z
    exact z
  · have z := bd s1 [.ref a] KX (by rw [hps]; rfl)
    rw [hps] at z
    exact z
  · obtain ⟨h', e⟩ := hlaw ns hlen
    exact ⟨rfl, [], [], [scr ns], .bl true, h', ⟨rfl, List.nodup_nil, fun n a o e => by simp at e⟩, .cons (.fz hf (rts_ints ns)) .nil, e, fun ρ' H' v E G r => by cases r; rfl⟩
end MP

set_option Elab.async false
set_option linter.all false
set_option maxRecDepth 100000
/-! MiniPy, part T: a law's own table of defs -/
namespace MP
open PySem PySem.Spec PyProof.Rows L2
inductive AllP {α : Type} (P : String → α → Prop) : List (String × α) → Prop
  | nil : AllP P []
  | cons {f : String} {x : α} {l : List (String × α)} : P f x → AllP P l → AllP P ((f, x) :: l)
theorem AllP.look {α : Type} {P : String → α → Prop} {f : String} {x : α} : ∀ {l : List (String × α)}, AllP P l → l.lookup f = some x → P f x
  | _, .nil, e => by cases e
  | _, .cons (f := g) (l := l) h t, e => by
    rw [List.lookup_cons] at e
    split at e
    · rename_i q
      cases e
      rw [eq_of_beq q]
      exact h
    · exact t.look e
inductive AllN (P : String → Prop) : List String → Prop
  | nil : AllN P []
  | cons {f : String} {l : List String} : P f → AllN P l → AllN P (f :: l)
theorem AllN.mem {P : String → Prop} {f : String} : ∀ {l : List String}, AllN P l → f ∈ l → P f
  | _, .nil, e => by simp at e
  | _, .cons h t, e => by
    rcases List.mem_cons.mp e with z | z
    · rw [z]; exact h
    · exact t.mem z
def tblOf (fs : List (String × FD)) (gs : List (String × T)) (kw : List (String × Nat × List String)) : Tbl := ⟨fun f => fs.lookup f, fun x => gs.lookup x, kw⟩
theorem kw_no {f : String} {kw : List (String × Nat × List String)} (h : (kw.all fun k => !decide (k.1 = f)) = true) {P : Prop} {m : Nat} {ks : List String} (e : (f, m, ks) ∈ kw) : P := by
  have := List.all_eq_true.mp h _ e
  simp at this
section
variable {K : PySem.W.Frag} {h : Heap} {mg : Str → Option Value} {D : Tbl}
/-- keywords, in words of the model -/
def KwOk (fd : FuncData) (ps : List String) (n : Nat) (ks : List String) : Prop := ∀ us ws zs : List Value, us.length = n → ws.length = ks.length → ordK ps n us ks ws = some zs →
  bindArgs fd ⟨us, (ks.map Str.ofString).zip ws⟩ = pure ((ps.map Str.ofString).zip zs)
theorem KwOk.bd {fd : FuncData} {ps : List String} {n : Nat} {ks : List String} (o : KwOk fd ps n ks) : KBd K fd ps n ks := fun s us ws zs _ e => by
  have e2 := e
  unfold ordK at e
  split at e
  · rename_i c
    exact .of_eq (o us ws zs c.2.1 c.2.2.symm e2)
  · cases e
abbrev fnT (f : String) (st : Stmt) (kV doc pm : Value) (an : Option Addr) (cdv ct : Value) : FuncData := PySem.W.fnOf (Str.ofString f) (Str.ofString f) (defArgs st) (defBody st) (defScope st) .none kV doc pm an cdv ct
theorem DefAt.mk1 {f : String} {fd : FD} {st : Stmt} {fa : Addr} {oc : Value} {od an : Option Addr} {osl : Array (Option Value)} {kV doc pm cdv ct : Value} (X : K.In h) (G : h.Ns mainGlobals mg)
    (S : FnScope (fd.N.map Str.ofString) (fd.ps.map Str.ofString) (defScope st)) (hc : chkSs D (fd.N.map Str.ofString) fd.body (defScope st) (defScope st) (defBody st) = true)
    (hb : ∀ (kV doc pm : Value) (an : Option Addr) (cdv ct : Value) (us : List Value), us.length = (fd.ps.map Str.ofString).length → bindArgs (fnT f st kV doc pm an cdv ct) ⟨us, []⟩ = pure ((fd.ps.map Str.ofString).zip us))
    (hk : ∀ (kV doc pm : Value) (an : Option Addr) (cdv ct : Value), ∀ m ks, (f, m, ks) ∈ D.kw → KwOk (fnT f st kV doc pm an cdv ct) fd.ps m ks)
    (a : PySem.W.nsIn K mainGlobals (Str.ofString f) = some (some (.ref fa))) (l : K.lookup fa = some ⟨oc, od, .func (PySem.W.fnOf (Str.ofString f) (Str.ofString f) (defArgs st) (defBody st) (defScope st) .none kV doc pm an cdv ct), osl⟩)
    (c : PySem.W.codeIn K cdv (Str.ofString f) = true) (k : PySem.W.keepIn K (.ref fa) = true) : DefAt K mg D f fd :=
  have F := fun_mk (st := st) l c k
  ⟨st, fa, _, F, PySem.W.mg_of X G a, S, hc, F.binds hb, fun m ks hm => (hk kV doc pm an cdv ct m ks hm).bd⟩
abbrev GlAt (K : PySem.W.Frag) (mg : Str → Option Value) (x : String) (t : T) : Prop := ∃ u v, mg (Str.ofString x) = some u ∧ RelV v u ∧ ∀ ρ H, RT K mg ρ H t v
theorem GlAt.int {x : String} {i : Int} {k : Tok} (X : K.In h) (G : h.Ns mainGlobals mg) (a : PySem.W.nsIn K mainGlobals (Str.ofString x) = some (some (.int i k))) : GlAt K mg x (.int i) :=
  ⟨_, .int i, PySem.W.mg_of X G a, ⟨k, rfl⟩, fun _ _ => .int i⟩
theorem GlAt.fn {x : String} {fa : Addr} (X : K.In h) (G : h.Ns mainGlobals mg) (a : PySem.W.nsIn K mainGlobals (Str.ofString x) = some (some (.ref fa))) : GlAt K mg x (.fn x) :=
  ⟨_, .ref fa, PySem.W.mg_of X G a, rfl, fun _ _ => .fn (PySem.W.mg_of X G a)⟩
abbrev bltNames : List String := ["len", "list", "tuple", "sorted", "all", "any", "sum", "max", "min", "int", "repr", "str", "abs", "bool", "isinstance", "range", "enumerate", "zip", "set", "reversed", "dict"]
theorem all_tbl {fs : List (String × FD)} {gs : List (String × T)} {kw : List (String × Nat × List String)} (X : K.In h) (G : h.Ns mainGlobals mg) (h1 : AllP (DefAt K mg (tblOf fs gs kw)) fs) (h2 : AllP (GlAt K mg) gs)
    (h3 : AllN (fun x => PySem.W.nsIn K mainGlobals (Str.ofString x) = some none) bltNames) :
    (∀ f fd, (tblOf fs gs kw).fn f = some fd → DefAt K mg (tblOf fs gs kw) f fd) ∧ (∀ x t, (tblOf fs gs kw).gl x = some t → ∃ u v, mg (Str.ofString x) = some u ∧ RelV v u ∧ ∀ ρ H, RT K mg ρ H t v) ∧ (∀ x, x ∈ bltNames → mg (Str.ofString x) = none) :=
  ⟨fun f fd e => h1.look e, fun x t e => h2.look e, fun x hx => PySem.W.mg_none_of X G (h3.mem hx)⟩
end
end MP

set_option Elab.async false
set_option linter.all false
set_option maxRecDepth 100000
/-! MiniPy, part U: reasoning about the evaluator -/
namespace MP
open PySem
def Go {α : Type} (r : R α) (Q : α → Hh → Prop) : Prop := match r with
  | .ok a h => Q a h
  | _ => False
section
variable {α β : Type}
theorem Go_ok (a : α) (h : Hh) (Q : α → Hh → Prop) : Go (.ok a h) Q = Q a h := rfl
theorem Go_bd (r : R α) (f : α → Hh → R β) (Q : β → Hh → Prop) : Go (r.bd f) Q = Go r (fun a h => Go (f a h) Q) := by
  cases r <;> rfl
theorem Go_congr {r r' : R α} {Q : α → Hh → Prop} (h : r = r') : Go r Q = Go r' Q := by rw [h]
theorem Go.mono {r : R α} {Q Q' : α → Hh → Prop} (g : Go r Q) (k : ∀ a h, Q a h → Q' a h) : Go r Q' := by
  cases r with
  | ok a h => exact k a h g
  | exc _ _ _ => exact g
  | bad => exact g
theorem Go.ex {r : R α} {Q : α → Hh → Prop} (g : Go r Q) : ∃ a h, r = .ok a h ∧ Q a h := by
  cases r with
  | ok a h => exact ⟨a, h, rfl, g⟩
  | exc _ _ _ => exact g.elim
  | bad => exact g.elim
theorem Go.of {r : R α} {Q : α → Hh → Prop} {a : α} {h : Hh} (e : r = .ok a h) (q : Q a h) : Go r Q := by
  rw [e]
  exact q
end
/-! ### a call -/
def FlQ (Q : T → Hh → Prop) : Fl × Ls → Hh → Prop := fun p h => match p.1 with
  | .rt t => Q t h
  | .nx => Q .non h
  | _ => False
theorem Go_fin (r : R (Fl × Ls)) (Q : T → Hh → Prop) : Go (fin r) Q = Go r (FlQ Q) := by
  match r with
  | .ok (.nx, l) h => rfl
  | .ok (.rt t, l) h => rfl
  | .ok (.bk, l) h => rfl
  | .ok (.ct, l) h => rfl
  | .exc _ _ _ => rfl
  | .bad => rfl
theorem FlQ_rt (Q : T → Hh → Prop) (t : T) (l : Ls) (h : Hh) : FlQ Q (.rt t, l) h = Q t h := rfl
theorem FlQ_nx (Q : T → Hh → Prop) (l : Ls) (h : Hh) : FlQ Q (.nx, l) h = Q .non h := rfl
theorem callN_go {D : Tbl} {n : Nat} {f : String} {fd : FD} {as : List T} {h : Hh} {Q : T → Hh → Prop} (e : D.fn f = some fd) (l : as.length = fd.ps.length) (g : Go (evSs D (callN D n) fd.body (startL fd as) h) (FlQ Q)) : Go (callN D (n + 1) f as h) Q := by
  unfold callN
  rw [e]
  dsimp only
  rw [if_pos l, Go_fin]
  exact g
theorem wtOk_of {w : Wt} {h : Hh} (e : ∀ p ∈ w, lsT h p.1 = some p.2) : wtOk w h = true := by
  unfold wtOk
  exact @decide_eq_true _ (Classical.propDecidable _) e
/-! ### ways of a text -/
theorem evFor_go {w : Wt} {asg : T → Ls → Hh → R Ls} {body : Ls → Hh → R (Fl × Ls)} {Q : Fl × Ls → Hh → Prop} (J : Nat → Ls → Hh → Prop) (hw : ∀ i l h, J i l h → ∀ p ∈ w, lsT h p.1 = some p.2) :
    ∀ {xs : List T} {ls : Ls} {h : Hh} (k : Nat), J k ls h → (∀ i x l h, xs[i]? = some x → J (k + i) l h → Go (asg x l h) fun l1 h1 => Go (body l1 h1) fun p h2 => match p.1 with
      | .nx => J (k + i + 1) p.2 h2
      | .ct => J (k + i + 1) p.2 h2
      | .bk => Q (.nx, p.2) h2
      | .rt t => Q (.rt t, p.2) h2) → (∀ l h, J (k + xs.length) l h → Q (.nx, l) h) → Go (evFor w asg body xs ls h) Q
  | [], ls, h, k, h0, _, hd => by
    unfold evFor
    have : wtOk w h = true := by
      exact wtOk_of (hw k ls h h0)
    rw [if_pos this, Go_ok]
    exact hd ls h h0
  | x :: xs, ls, h, k, h0, hs, hd => by
    unfold evFor
    have : wtOk w h = true := by
      exact wtOk_of (hw k ls h h0)
    rw [if_pos this, Go_bd]
    refine (hs 0 x ls h rfl h0).mono fun l1 h1 g => ?_
    rw [Go_bd]
    refine g.mono fun p h2 q => ?_
    have go1 : ∀ l h', J (k + 0 + 1) l h' → Go (evFor w asg body xs l h') Q := fun l h' q => evFor_go J hw (k + 0 + 1) q (fun i y l h hi hj => by
      have e : k + 0 + 1 + i = k + (i + 1) := by omega
      rw [e] at hj ⊢
      exact hs (i + 1) y l h hi hj) (fun l h hj => hd l h (by
        have e : k + 0 + 1 + xs.length = k + (x :: xs).length := by
          rw [List.length_cons]
          omega
        rw [e] at hj
        exact hj))
    obtain ⟨f, l2⟩ := p
    cases f with
    | nx => exact go1 l2 h2 q
    | ct => exact go1 l2 h2 q
    | bk => exact q
    | rt t => exact q
theorem for_go {w : Wt} {asg : T → Ls → Hh → R Ls} {body : Ls → Hh → R (Fl × Ls)} {Q : Fl × Ls → Hh → Prop} {xs : List T} {ls : Ls} {h : Hh} (J : Nat → Ls → Hh → Prop) (h0 : J 0 ls h) (hw : ∀ i l h, J i l h → ∀ p ∈ w, lsT h p.1 = some p.2)
    (hs : ∀ i x l h, xs[i]? = some x → J i l h → Go (asg x l h) fun l1 h1 => Go (body l1 h1) fun p h2 => match p.1 with
      | .nx => J (i + 1) p.2 h2
      | .ct => J (i + 1) p.2 h2
      | .bk => Q (.nx, p.2) h2
      | .rt t => Q (.rt t, p.2) h2) (hd : ∀ l h, J xs.length l h → Q (.nx, l) h) : Go (evFor w asg body xs ls h) Q :=
  evFor_go J hw 0 h0 (fun i x l h hi hj => by
    rw [Nat.zero_add] at hj ⊢
    exact hs i x l h hi hj) (fun l h hj => by
    rw [Nat.zero_add] at hj
    exact hd l h hj)
theorem evComp_go {w : Wt} {asg : T → Ls → Hh → R Ls} {c elt : Ls → Hh → R T} {ls : Ls} {Q : T → Hh → Prop} (J : Nat → List T → Hh → Prop) (hw : ∀ i a h, J i a h → ∀ p ∈ w, lsT h p.1 = some p.2) :
    ∀ {xs acc : List T} {h : Hh} (k : Nat), J k acc h → (∀ i x a h, xs[i]? = some x → J (k + i) a h → Go (asg x ls h) fun l1 h1 => Go (c l1 h1) fun b h2 => (b = .bl false ∧ J (k + i + 1) a h2) ∨ (b = .bl true ∧ a.length < 16777216 ∧ Go (elt l1 h2) fun y h3 => J (k + i + 1) (a ++ [y]) h3)) →
      (∀ a h, J (k + xs.length) a h → Q (.ref h.length) (h ++ [.lst a])) → Go (evComp w asg c elt ls xs acc h) Q
  | [], acc, h, k, h0, _, hd => by
    unfold evComp
    have : wtOk w h = true := by
      exact wtOk_of (hw k acc h h0)
    rw [if_pos this, Go_ok]
    exact hd acc h h0
  | x :: xs, acc, h, k, h0, hs, hd => by
    unfold evComp
    have : wtOk w h = true := by
      exact wtOk_of (hw k acc h h0)
    rw [if_pos this, Go_bd]
    refine (hs 0 x acc h rfl h0).mono fun l1 h1 g => ?_
    rw [Go_bd]
    refine g.mono fun b h2 q => ?_
    have go1 : ∀ a h', J (k + 0 + 1) a h' → Go (evComp w asg c elt ls xs a h') Q := fun a h' q => evComp_go J hw (k + 0 + 1) q (fun i y a h hi hj => by
      have e : k + 0 + 1 + i = k + (i + 1) := by omega
      rw [e] at hj ⊢
      exact hs (i + 1) y a h hi hj) (fun a h hj => hd a h (by
        have e : k + 0 + 1 + xs.length = k + (x :: xs).length := by
          rw [List.length_cons]
          omega
        rw [e] at hj
        exact hj))
    rcases q with ⟨rfl, q⟩ | ⟨rfl, hl, q⟩
    · exact go1 acc h2 q
    · dsimp only
      rw [Go_bd]
      refine q.mono fun y h3 r => ?_
      rw [if_pos hl]
      exact go1 _ h3 r
theorem comp_go {w : Wt} {asg : T → Ls → Hh → R Ls} {c elt : Ls → Hh → R T} {ls : Ls} {Q : T → Hh → Prop} {xs : List T} {h : Hh} (J : Nat → List T → Hh → Prop) (h0 : J 0 [] h) (hw : ∀ i a h, J i a h → ∀ p ∈ w, lsT h p.1 = some p.2)
    (hs : ∀ i x a h, xs[i]? = some x → J i a h → Go (asg x ls h) fun l1 h1 => Go (c l1 h1) fun b h2 => (b = .bl false ∧ J (i + 1) a h2) ∨ (b = .bl true ∧ a.length < 16777216 ∧ Go (elt l1 h2) fun y h3 => J (i + 1) (a ++ [y]) h3))
    (hd : ∀ a h, J xs.length a h → Q (.ref h.length) (h ++ [.lst a])) : Go (evComp w asg c elt ls xs [] h) Q :=
  evComp_go J hw 0 h0 (fun i x a h hi hj => by
    rw [Nat.zero_add] at hj ⊢
    exact hs i x a h hi hj) (fun l h hj => by
    rw [Nat.zero_add] at hj
    exact hd l h hj)
theorem whileN_up {c : Ls → Hh → R T} {body : Ls → Hh → R (Fl × Ls)} : ∀ (n : Nat) {ls : Ls} {h : Hh}, whileN c body n ls h ≠ .bad → whileN c body (n + 1) ls h = whileN c body n ls h
  | 0, ls, h, e => absurd rfl e
  | n + 1, ls, h, e => by
    rw [whileN] at e
    rw [whileN]
    rw [show whileN c body (n + 1) ls h = _ from by rw [whileN]]
    cases q : c ls h with
    | ok b h1 =>
      rw [q] at e
      rw [R.bd_ok] at e ⊢
      rw [R.bd_ok]
      match b, e with
      | .bl false, e => rfl
      | .bl true, e =>
        dsimp only at e ⊢
        cases q2 : body ls h1 with
        | ok p h2 =>
          rw [q2] at e
          rw [R.bd_ok] at e ⊢
          rw [R.bd_ok]
          obtain ⟨f, l⟩ := p
          cases f with
          | nx => exact whileN_up n e
          | ct => exact whileN_up n e
          | bk => rfl
          | rt t => rfl
        | exc _ _ _ => rfl
        | bad => rfl
      | .non, e => rfl
      | .int _, e => rfl
      | .str _, e => rfl
      | .tup _, e => rfl
      | .fz _, e => rfl
      | .ref _, e => rfl
      | .fn _, e => rfl
    | exc _ _ _ => rfl
    | bad => rfl
theorem whileN_le {c : Ls → Hh → R T} {body : Ls → Hh → R (Fl × Ls)} {ls : Ls} {h : Hh} (n : Nat) (e : whileN c body n ls h ≠ .bad) : ∀ k, whileN c body (n + k) ls h = whileN c body n ls h
  | 0 => rfl
  | k + 1 => by
    have ih := whileN_le n e k
    rw [← Nat.add_assoc, whileN_up (n + k) (by rw [ih]; exact e), ih]
theorem whileW_eq {c : Ls → Hh → R T} {body : Ls → Hh → R (Fl × Ls)} {ls : Ls} {h : Hh} (n : Nat) (e : whileN c body n ls h ≠ .bad) : whileW c body ls h = whileN c body n ls h := by
  unfold whileW
  have x : ∃ n, whileN c body n ls h ≠ .bad := ⟨n, e⟩
  rw [dif_pos x]
  have y := x.choose_spec
  rcases Nat.le_total n x.choose with z | z
  · obtain ⟨k, ek⟩ := Nat.exists_eq_add_of_le z
    rw [ek]
    exact whileN_le n e k
  · obtain ⟨k, ek⟩ := Nat.exists_eq_add_of_le z
    have := whileN_le x.choose y k
    rw [← ek] at this
    exact this.symm
theorem while_go {c : Ls → Hh → R T} {body : Ls → Hh → R (Fl × Ls)} {Q : Fl × Ls → Hh → Prop} (J : Nat → Ls → Hh → Prop)
    (hs : ∀ m l h, J m l h → Go (c l h) fun b h1 => (b = .bl false ∧ Q (.nx, l) h1) ∨ (b = .bl true ∧ Go (body l h1) fun p h2 => match p.1 with
      | .nx => ∃ k, k < m ∧ J k p.2 h2
      | .ct => ∃ k, k < m ∧ J k p.2 h2
      | .bk => Q (.nx, p.2) h2
      | .rt t => Q (.rt t, p.2) h2)) {m : Nat} {ls : Ls} {h : Hh} (h0 : J m ls h) : Go (whileW c body ls h) Q := by
  have key : ∀ m ls h, J m ls h → ∃ n, Go (whileN c body n ls h) Q := by
    intro m
    induction m using Nat.strongRecOn with
    | _ m ih =>
      intro ls h hj
      obtain ⟨b, h1, e1, q⟩ := (hs m ls h hj).ex
      rcases q with ⟨rfl, q⟩ | ⟨rfl, q⟩
      · refine ⟨1, ?_⟩
        rw [whileN, e1]
        exact q
      · obtain ⟨⟨f, l2⟩, h2, e2, q⟩ := q.ex
        cases f with
        | nx =>
          obtain ⟨k, hk, hj2⟩ := q
          obtain ⟨n, g⟩ := ih k hk l2 h2 hj2
          refine ⟨n + 1, ?_⟩
          rw [whileN, e1, R.bd_ok]
          dsimp only
          rw [e2]
          exact g
        | ct =>
          obtain ⟨k, hk, hj2⟩ := q
          obtain ⟨n, g⟩ := ih k hk l2 h2 hj2
          refine ⟨n + 1, ?_⟩
          rw [whileN, e1, R.bd_ok]
          dsimp only
          rw [e2]
          exact g
        | bk =>
          refine ⟨1, ?_⟩
          rw [whileN, e1, R.bd_ok]
          dsimp only
          rw [e2]
          exact q
        | rt t =>
          refine ⟨1, ?_⟩
          rw [whileN, e1, R.bd_ok]
          dsimp only
          rw [e2]
          exact q
  obtain ⟨n, g⟩ := key m ls h h0
  have ne : whileN c body n ls h ≠ .bad := fun z => by
    rw [z] at g
    exact g
  rw [whileW_eq n ne]
  exact g

/-! ### heaps -/
/-- but for the objects of S, what stood stands -/
structure Keep (S : List Nat) (h h' : Hh) : Prop where
  le : h.length ≤ h'.length
  at_ : ∀ n o, n ∉ S → h[n]? = some o → h'[n]? = some o
section
variable {S S' : List Nat} {h h' h1 h2 : Hh}
theorem Keep.refl : Keep S h h := ⟨Nat.le_refl _, fun _ _ _ e => e⟩
theorem Keep.trans (a : Keep S h h1) (b : Keep S h1 h2) : Keep S h h2 := ⟨Nat.le_trans a.le b.le, fun n o hn e => b.at_ n o hn (a.at_ n o hn e)⟩
theorem Keep.sub (a : Keep S h h1) (b : ∀ n ∈ S, n ∈ S') : Keep S' h h1 := ⟨a.le, fun n o hn e => a.at_ n o (fun z => hn (b n z)) e⟩
theorem Keep.nil (a : Keep [] h h1) : Keep S h h1 := a.sub fun _ z => by simp at z
theorem Keep.app (o : List O) : Keep S h (h ++ o) := ⟨by simp, fun n u _ e => by
  have := (List.getElem?_eq_some_iff.mp e).1
  rw [List.getElem?_append_left this]
  exact e⟩
theorem Keep.set {n : Nat} {o : O} (hn : n ∈ S) : Keep S h (h.set n o) := ⟨by simp, fun m u hm e => by
  rw [List.getElem?_set_ne fun z : n = m => hm (z ▸ hn)]
  exact e⟩
/-- an object that came after may be changed -/
theorem Keep.fresh {n : Nat} {o : O} (a : Keep S h h1) (hn : h.length ≤ n) : Keep S h (h1.set n o) := ⟨by simpa using a.le, fun m u hm e => by
  have := (List.getElem?_eq_some_iff.mp e).1
  rw [List.getElem?_set_ne (by omega)]
  exact a.at_ m u hm e⟩
theorem Keep.lst {n : Nat} {xs : List T} (a : Keep S h h1) (hn : n ∉ S) (e : h[n]? = some (.lst xs)) : h1[n]? = some (.lst xs) := a.at_ n _ hn e
end
end MP

set_option Elab.async false
set_option linter.all false
set_option maxRecDepth 100000
/-! MiniPy, part V: the evaluator by rewriting; what is behind stands in an instance, which simp leaves alone -/
namespace MP
open PySem L2
class Po (α : Type) where
  q : α → Hh → Prop
def Gx {α : Type} (r : R α) [P : Po α] : Prop := Go r P.q
class Two where
  a : Prop
  b : Prop
def IfX (b : Bool) [P : Two] : Prop := (b = true → P.a) ∧ (b = false → P.b)
theorem ifx_t {p q : Prop} : (IfX true (P := ⟨p, q⟩)) = p := propext ⟨fun h => h.1 rfl, fun h => ⟨fun _ => h, fun z => (by cases z)⟩⟩
theorem ifx_f {p q : Prop} : (IfX false (P := ⟨p, q⟩)) = q := propext ⟨fun h => h.2 rfl, fun h => ⟨fun z => (by cases z), fun _ => h⟩⟩
theorem ifx_n {b : Bool} {p q : Prop} : (IfX (!b) (P := ⟨p, q⟩)) = IfX b (P := ⟨q, p⟩) := by
  cases b
  · exact ifx_t.trans ifx_f.symm
  · exact ifx_f.trans ifx_t.symm
theorem ifx_dt {r p q : Prop} [Decidable r] (h : r) (g : p) : IfX (decide r) (P := ⟨p, q⟩) := by
  rw [decide_eq_true h, ifx_t]
  exact g
theorem ifx_df {r p q : Prop} [Decidable r] (h : ¬r) (g : q) : IfX (decide r) (P := ⟨p, q⟩) := by
  rw [decide_eq_false h, ifx_f]
  exact g
theorem ifx_by {r p q : Prop} [Decidable r] (h1 : r → p) (h2 : ¬r → q) : IfX (decide r) (P := ⟨p, q⟩) := ⟨fun z => h1 (of_decide_eq_true z), fun z => h2 (of_decide_eq_false z)⟩
theorem ifx_cs {b : Bool} {p q : Prop} (h1 : b = true → p) (h2 : b = false → q) : IfX b (P := ⟨p, q⟩) := ⟨h1, h2⟩
section
variable {α β : Type}
theorem gx_ok (a : α) (h : Hh) (Q : α → Hh → Prop) : (Gx (.ok a h) (P := ⟨Q⟩)) = Q a h := propext ⟨fun q => q, fun q => q⟩
theorem gx_bd (r : R α) (f : α → Hh → R β) (Q : β → Hh → Prop) : (Gx (r.bd f) (P := ⟨Q⟩)) = Gx r (P := ⟨fun a h => Gx (f a h) (P := ⟨Q⟩)⟩) := Go_bd r f Q
theorem gx_mono {r : R α} {Q Q' : α → Hh → Prop} (g : Gx r (P := ⟨Q⟩)) (k : ∀ a h, Q a h → Q' a h) : Gx r (P := ⟨Q'⟩) := Go.mono g k
theorem gx_ex {r : R α} {Q : α → Hh → Prop} (g : Gx r (P := ⟨Q⟩)) : ∃ a h, r = .ok a h ∧ Q a h := Go.ex g
theorem gx_of {r : R α} {Q : α → Hh → Prop} {a : α} {h : Hh} (e : r = .ok a h) (q : Q a h) : Gx r (P := ⟨Q⟩) := Go.of e q
end
/-! ### the evaluator's own branches, named -/
def lkR (o : Option (Option T)) (h : Hh) : R T := match o with
  | some (some t) => .ok t h
  | _ => .bad
def negR (x : T) (h : Hh) : R T := match x with
  | .int i => .ok (.int (-i)) h
  | _ => .bad
def notR (x : T) (h : Hh) : R T := match x with
  | .bl b => .ok (.bl (!b)) h
  | _ => .bad
def cndR {α : Type} (x : T) (r1 r2 : R α) : R α := match x with
  | .bl true => r1
  | .bl false => r2
  | _ => .bad
def isiR (ts : List String) (x : T) (h : Hh) : R T := match typeN h x with
  | some n => .ok (.bl (ts.any (isiT1 n))) h
  | none => .bad
def oiR (x : T) (h : Hh) : R (Option Int) := match x with
  | .int i => .ok (some i) h
  | _ => .bad
def r1R (x : T) (h : Hh) : R (List T × Wt) := match x with
  | .int i => if rgOk 0 i = true then .ok (rangeT 0 i, []) h else .bad
  | _ => .bad
def r2R (x y : T) (h : Hh) : R (List T × Wt) := match x, y with
  | .int i, .int j => if rgOk i j = true then .ok (rangeT i j, []) h else .bad
  | _, _ => .bad
def valR (x : T) (h : Hh) : R (List T × Wt) := match x with
  | .tup xs => .ok (xs, []) h
  | x => match lsT h x with
    | some xs => .ok (xs, [(x, xs)]) h
    | none => .bad
def enumR (x : T) (h : Hh) : R (List T × Wt) := match lsT h x with
  | some xs => .ok (enumT 0 xs, [(x, xs)]) h
  | none => .bad
def dicR (p : List T × List T) (h : Hh) : R T := match keysT p.1 with
  | some ks => match mergeKT [] ks p.2 with
    | some kvs => .ok (.ref h.length) (h ++ [.dK kvs])
    | none => .bad
  | none => .bad
def optR {α : Type} (o : Option α) (h : Hh) : R α := match o with
  | some v => .ok v h
  | none => .bad
def obR (o : Option Bool) (h : Hh) : R T := match o with
  | some v => .ok (.bl v) h
  | none => .bad
def finR (p : Fl × Ls) (h : Hh) : R T := match p.1 with
  | .rt t => .ok t h
  | .nx => .ok .non h
  | _ => .bad
noncomputable def seqR (D : Tbl) (C : String → List T → Hh → R T) (ss : CSs) (p : Fl × Ls) (h : Hh) : R (Fl × Ls) := match p.1 with
  | .nx => evSs D C ss p.2 h
  | f => .ok (f, p.2) h
noncomputable def mthR (D : Tbl) (C : String → List T → Hh → R T) (m : Mth) (as : CEs) (ls : Ls) (x : T) (h : Hh) : R T := if typeN h x = some m.ty then (evEs D C as ls h).bd fun ys h2 => mthT m x ys h2 else .bad
noncomputable def kwR (D : Tbl) (C : String → List T → Hh → R T) (f : String) (xs ys : List T) (ks : List String) (h : Hh) : R T := match D.fn f with
  | some fd => match ordK fd.ps xs.length xs ks ys with
    | some zs => C f zs h
    | none => .bad
  | none => .bad
noncomputable def compR (D : Tbl) (C : String → List T → Hh → R T) (own : List Nat) (tg : Tg) (c : CO) (elt : CE) (ls : Ls) (p : List T × Wt) (h : Hh) : R T :=
  evComp p.2 (fun x l hh => evG D C tg x l hh) (fun l hh => evC D C c l hh) (fun l hh => evE D C elt l hh) (wipeL ls own) p.1 [] h
noncomputable def forR (D : Tbl) (C : String → List T → Hh → R T) (t : Tg) (body : CSs) (ls : Ls) (p : List T × Wt) (h : Hh) : R (Fl × Ls) := evFor p.2 (fun x l hh => evG D C t x l hh) (fun l hh => evSs D C body l hh) p.1 ls h
noncomputable def whlR (D : Tbl) (C : String → List T → Hh → R T) (c : CE) (body : CSs) (ls : Ls) (h : Hh) : R (Fl × Ls) := whileW (fun l hh => evE D C c l hh) (fun l hh => evSs D C body l hh) ls h
def augR (op : Bop) (i : Nat) (ls : Ls) (x y : T) (h : Hh) : R (Fl × Ls) := match x, y with
  | .int a, .int b => match op with
    | .add => .ok (.nx, ls.set i (some (.int (a + b)))) h
    | .sub => .ok (.nx, ls.set i (some (.int (a - b)))) h
    | _ => .bad
  | _, _ => .bad
noncomputable def augO (D : Tbl) (C : String → List T → Hh → R T) (op : Bop) (i : Nat) (e : CE) (ls : Ls) (h : Hh) (o : Option (Option T)) : R (Fl × Ls) := match o with
  | some (some x) => (evE D C e ls h).bd fun y h1 => augR op i ls x y h1
  | _ => .bad
noncomputable def gtupR (D : Tbl) (C : String → List T → Hh → R T) (ts : Tgs) (x : T) (ls : Ls) (h : Hh) : R Ls := match x with
  | .tup xs => evGs D C ts xs ls h
  | _ => .bad
section
variable {D : Tbl} {C : String → List T → Hh → R T} {ls : Ls} {h : Hh}

theorem x_var {i : Nat} {Q : T → Hh → Prop} : (Gx (evE D C (.var i) ls h) (P := ⟨Q⟩)) = Gx (lkR ls[i]? h) (P := ⟨Q⟩) := propext ⟨fun q => q, fun q => q⟩
theorem x_int {i : Int} {Q : T → Hh → Prop} : (Gx (evE D C (.int i) ls h) (P := ⟨Q⟩)) = Q (.int i) h := propext ⟨fun q => q, fun q => q⟩
theorem x_bl {i : Bool} {Q : T → Hh → Prop} : (Gx (evE D C (.bl i) ls h) (P := ⟨Q⟩)) = Q (.bl i) h := propext ⟨fun q => q, fun q => q⟩
theorem x_non  {Q : T → Hh → Prop} : (Gx (evE D C .non ls h) (P := ⟨Q⟩)) = Q .non h := propext ⟨fun q => q, fun q => q⟩
theorem x_str {x : String} {Q : T → Hh → Prop} : (Gx (evE D C (.str x) ls h) (P := ⟨Q⟩)) = Q (.str (Str.ofString x)) h := propext ⟨fun q => q, fun q => q⟩
theorem x_bin {op : Bop} {a b : CE} {Q : T → Hh → Prop} : (Gx (evE D C (.bin op a b) ls h) (P := ⟨Q⟩)) = Gx (evE D C a ls h) (P := ⟨fun x h1 => Gx (evE D C b ls h1) (P := ⟨fun y h2 => Gx (binT op x y h2) (P := ⟨Q⟩)⟩)⟩) := by simp only [Gx, evE, evEs, evKV, evO, evC, evI, evG, evGs, Go_bd, Go_ok] <;> rfl
theorem x_cmp {op : Cop} {a b : CE} {Q : T → Hh → Prop} : (Gx (evE D C (.cmp op a b) ls h) (P := ⟨Q⟩)) = Gx (evE D C a ls h) (P := ⟨fun x h1 => Gx (evE D C b ls h1) (P := ⟨fun y h2 => Gx (cmpT op x y h2) (P := ⟨Q⟩)⟩)⟩) := by simp only [Gx, evE, evEs, evKV, evO, evC, evI, evG, evGs, Go_bd, Go_ok] <;> rfl
theorem x_idx {a b : CE} {Q : T → Hh → Prop} : (Gx (evE D C (.idx a b) ls h) (P := ⟨Q⟩)) = Gx (evE D C a ls h) (P := ⟨fun x h1 => Gx (evE D C b ls h1) (P := ⟨fun y h2 => Gx (idxT x y h2) (P := ⟨Q⟩)⟩)⟩) := by simp only [Gx, evE, evEs, evKV, evO, evC, evI, evG, evGs, Go_bd, Go_ok] <;> rfl
theorem x_neg {a : CE} {Q : T → Hh → Prop} : (Gx (evE D C (.neg a) ls h) (P := ⟨Q⟩)) = Gx (evE D C a ls h) (P := ⟨fun x h1 => Gx (negR x h1) (P := ⟨Q⟩)⟩) := by simp only [Gx, evE, evEs, evKV, evO, evC, evI, evG, evGs, Go_bd, Go_ok] <;> rfl
theorem x_not {a : CE} {Q : T → Hh → Prop} : (Gx (evE D C (.not a) ls h) (P := ⟨Q⟩)) = Gx (evE D C a ls h) (P := ⟨fun x h1 => Gx (notR x h1) (P := ⟨Q⟩)⟩) := by simp only [Gx, evE, evEs, evKV, evO, evC, evI, evG, evGs, Go_bd, Go_ok] <;> rfl
theorem x_isN {a : CE} {Q : T → Hh → Prop} : (Gx (evE D C (.isN a) ls h) (P := ⟨Q⟩)) = Gx (evE D C a ls h) (P := ⟨fun x h1 => Q (.bl x.isNone) h1⟩) := by simp only [Gx, evE, evEs, evKV, evO, evC, evI, evG, evGs, Go_bd, Go_ok] <;> rfl
theorem x_isnN {a : CE} {Q : T → Hh → Prop} : (Gx (evE D C (.isnN a) ls h) (P := ⟨Q⟩)) = Gx (evE D C a ls h) (P := ⟨fun x h1 => Q (.bl (!x.isNone)) h1⟩) := by simp only [Gx, evE, evEs, evKV, evO, evC, evI, evG, evGs, Go_bd, Go_ok] <;> rfl
theorem x_rev {a : CE} {Q : T → Hh → Prop} : (Gx (evE D C (.rev a) ls h) (P := ⟨Q⟩)) = Gx (evE D C a ls h) (P := ⟨fun x h1 => Gx (revT x h1) (P := ⟨Q⟩)⟩) := by simp only [Gx, evE, evEs, evKV, evO, evC, evI, evG, evGs, Go_bd, Go_ok] <;> rfl
theorem x_sset {a : CE} {Q : T → Hh → Prop} : (Gx (evE D C (.sset a) ls h) (P := ⟨Q⟩)) = Gx (evE D C a ls h) (P := ⟨fun x h1 => Gx (ssetT h1 x) (P := ⟨Q⟩)⟩) := by simp only [Gx, evE, evEs, evKV, evO, evC, evI, evG, evGs, Go_bd, Go_ok] <;> rfl
theorem x_isiT {a : CE} {ts : List String} {Q : T → Hh → Prop} : (Gx (evE D C (.isiT a ts) ls h) (P := ⟨Q⟩)) = Gx (evE D C a ls h) (P := ⟨fun x h1 => Gx (isiR ts x h1) (P := ⟨Q⟩)⟩) := by simp only [Gx, evE, evEs, evKV, evO, evC, evI, evG, evGs, Go_bd, Go_ok] <;> rfl
theorem x_chn {op op2 : Cop} {a b c : CE} {Q : T → Hh → Prop} : (Gx (evE D C (.chn op op2 a b c) ls h) (P := ⟨Q⟩)) = Gx (evE D C a ls h) (P := ⟨fun x h1 => Gx (evE D C b ls h1) (P := ⟨fun y h2 => Gx (cmpT op x y h2) (P := ⟨fun z h3 => Gx (cndR z ((evE D C c ls h3).bd fun u h4 => cmpT op2 y u h4) (.ok (.bl false) h3)) (P := ⟨Q⟩)⟩)⟩)⟩) := by
  simp only [Gx, evE, Go_bd]
  rfl
theorem x_ite {c a b : CE} {Q : T → Hh → Prop} : (Gx (evE D C (.ite c a b) ls h) (P := ⟨Q⟩)) = Gx (evE D C c ls h) (P := ⟨fun z h1 => Gx (cndR z (evE D C a ls h1) (evE D C b ls h1)) (P := ⟨Q⟩)⟩) := by simp only [Gx, evE, evEs, evKV, evO, evC, evI, evG, evGs, Go_bd, Go_ok] <;> rfl
theorem x_and {es : CEs} {Q : T → Hh → Prop} : (Gx (evE D C (.and es) ls h) (P := ⟨Q⟩)) = Gx (evAnd D C es ls h) (P := ⟨Q⟩) := propext ⟨fun q => q, fun q => q⟩
theorem x_or {es : CEs} {Q : T → Hh → Prop} : (Gx (evE D C (.or es) ls h) (P := ⟨Q⟩)) = Gx (evOr D C es ls h) (P := ⟨Q⟩) := propext ⟨fun q => q, fun q => q⟩
theorem x_and1 {e : CE} {Q : T → Hh → Prop} : (Gx (evAnd D C (.cons e .nil) ls h) (P := ⟨Q⟩)) = Gx (evE D C e ls h) (P := ⟨Q⟩) := by
  simp only [Gx, evAnd, Go_bd, Go_ok]
theorem x_or1 {e : CE} {Q : T → Hh → Prop} : (Gx (evOr D C (.cons e .nil) ls h) (P := ⟨Q⟩)) = Gx (evE D C e ls h) (P := ⟨Q⟩) := by
  simp only [Gx, evOr, Go_bd, Go_ok]
theorem x_and2 {e e2 : CE} {es : CEs} {Q : T → Hh → Prop} : (Gx (evAnd D C (.cons e (.cons e2 es)) ls h) (P := ⟨Q⟩)) = Gx (evE D C e ls h) (P := ⟨fun z h1 => Gx (cndR z (evAnd D C (.cons e2 es) ls h1) (.ok (.bl false) h1)) (P := ⟨Q⟩)⟩) := by
  rw [evAnd]
  simp only [Gx, Go_bd]
  rfl
theorem x_or2 {e e2 : CE} {es : CEs} {Q : T → Hh → Prop} : (Gx (evOr D C (.cons e (.cons e2 es)) ls h) (P := ⟨Q⟩)) = Gx (evE D C e ls h) (P := ⟨fun z h1 => Gx (cndR z (.ok (.bl true) h1) (evOr D C (.cons e2 es) ls h1)) (P := ⟨Q⟩)⟩) := by
  rw [evOr]
  simp only [Gx, Go_bd]
  congr 1
  funext z h1
  match z with
  | .bl true => rfl
  | .bl false => rfl
  | .non => rfl
  | .int _ => rfl
  | .str _ => rfl
  | .tup _ => rfl
  | .fz _ => rfl
  | .ref _ => rfl
  | .fn _ => rfl
theorem x_tup {es : CEs} {Q : T → Hh → Prop} : (Gx (evE D C (.tup es) ls h) (P := ⟨Q⟩)) = Gx (evEs D C es ls h) (P := ⟨fun xs h1 => Gx (newT h1 xs) (P := ⟨Q⟩)⟩) := by simp only [Gx, evE, evEs, evKV, evO, evC, evI, evG, evGs, Go_bd, Go_ok] <;> rfl
theorem x_lst {es : CEs} {Q : T → Hh → Prop} : (Gx (evE D C (.lst es) ls h) (P := ⟨Q⟩)) = Gx (evEs D C es ls h) (P := ⟨fun xs h1 => Gx (newL h1 xs) (P := ⟨Q⟩)⟩) := by simp only [Gx, evE, evEs, evKV, evO, evC, evI, evG, evGs, Go_bd, Go_ok] <;> rfl
theorem x_dic {ps : CKs} {Q : T → Hh → Prop} : (Gx (evE D C (.dic ps) ls h) (P := ⟨Q⟩)) = Gx (evKV D C ps ls h) (P := ⟨fun p h1 => Gx (dicR p h1) (P := ⟨Q⟩)⟩) := by simp only [Gx, evE, evEs, evKV, evO, evC, evI, evG, evGs, Go_bd, Go_ok] <;> rfl
theorem x_slc {a : CE} {lo hi : CO} {Q : T → Hh → Prop} : (Gx (evE D C (.slc a lo hi) ls h) (P := ⟨Q⟩)) = Gx (evE D C a ls h) (P := ⟨fun x h1 => Gx (evO D C lo ls h1) (P := ⟨fun l h2 => Gx (evO D C hi ls h2) (P := ⟨fun u h3 => Gx (slcT x l u h3) (P := ⟨Q⟩)⟩)⟩)⟩) := by simp only [Gx, evE, evEs, evKV, evO, evC, evI, evG, evGs, Go_bd, Go_ok] <;> rfl
theorem x_call {f : String} {es : CEs} {Q : T → Hh → Prop} : (Gx (evE D C (.call f es) ls h) (P := ⟨Q⟩)) = Gx (evEs D C es ls h) (P := ⟨fun xs h1 => Gx (C f xs h1) (P := ⟨Q⟩)⟩) := by simp only [Gx, evE, evEs, evKV, evO, evC, evI, evG, evGs, Go_bd, Go_ok] <;> rfl
theorem x_callK {f : String} {es vs : CEs} {ks : List String} {Q : T → Hh → Prop} : (Gx (evE D C (.callK f es ks vs) ls h) (P := ⟨Q⟩)) = Gx (evEs D C es ls h) (P := ⟨fun xs h1 => Gx (evEs D C vs ls h1) (P := ⟨fun ys h2 => Gx (kwR D C f xs ys ks h2) (P := ⟨Q⟩)⟩)⟩) := by simp only [Gx, evE, evEs, evKV, evO, evC, evI, evG, evGs, Go_bd, Go_ok] <;> rfl
theorem x_blt {b : Blt} {es : CEs} {Q : T → Hh → Prop} : (Gx (evE D C (.blt b es) ls h) (P := ⟨Q⟩)) = Gx (evEs D C es ls h) (P := ⟨fun xs h1 => Gx (bltT b xs h1) (P := ⟨Q⟩)⟩) := by simp only [Gx, evE, evEs, evKV, evO, evC, evI, evG, evGs, Go_bd, Go_ok] <;> rfl
theorem x_mth {m : Mth} {o : CE} {es : CEs} {Q : T → Hh → Prop} : (Gx (evE D C (.mth m o es) ls h) (P := ⟨Q⟩)) = Gx (evE D C o ls h) (P := ⟨fun x h1 => Gx (mthR D C m es ls x h1) (P := ⟨Q⟩)⟩) := by simp only [Gx, evE, evEs, evKV, evO, evC, evI, evG, evGs, Go_bd, Go_ok] <;> rfl
theorem x_rngL {it : CI} {Q : T → Hh → Prop} : (Gx (evE D C (.rngL it) ls h) (P := ⟨Q⟩)) = Gx (evI D C it ls h) (P := ⟨fun p h1 => Gx (newL h1 p.1) (P := ⟨Q⟩)⟩) := by simp only [Gx, evE, evEs, evKV, evO, evC, evI, evG, evGs, Go_bd, Go_ok] <;> rfl
theorem x_rngT {it : CI} {Q : T → Hh → Prop} : (Gx (evE D C (.rngT it) ls h) (P := ⟨Q⟩)) = Gx (evI D C it ls h) (P := ⟨fun p h1 => Gx (newT h1 p.1) (P := ⟨Q⟩)⟩) := by simp only [Gx, evE, evEs, evKV, evO, evC, evI, evG, evGs, Go_bd, Go_ok] <;> rfl
theorem x_comp {own : List Nat} {tg : Tg} {it : CI} {c : CO} {elt : CE} {Q : T → Hh → Prop} : (Gx (evE D C (.comp own tg it c elt) ls h) (P := ⟨Q⟩)) = Gx (evI D C it ls h) (P := ⟨fun p h1 => Gx (compR D C own tg c elt ls p h1) (P := ⟨Q⟩)⟩) := by simp only [Gx, evE, evEs, evKV, evO, evC, evI, evG, evGs, Go_bd, Go_ok] <;> rfl
theorem x_enil  {Q : List T → Hh → Prop} : (Gx (evEs D C .nil ls h) (P := ⟨Q⟩)) = Q [] h := propext ⟨fun q => q, fun q => q⟩
theorem x_econs {e : CE} {es : CEs} {Q : List T → Hh → Prop} : (Gx (evEs D C (.cons e es) ls h) (P := ⟨Q⟩)) = Gx (evE D C e ls h) (P := ⟨fun x h1 => Gx (evEs D C es ls h1) (P := ⟨fun xs h2 => Q (x :: xs) h2⟩)⟩) := by simp only [Gx, evE, evEs, evKV, evO, evC, evI, evG, evGs, Go_bd, Go_ok] <;> rfl
theorem x_kv0  {Q : (List T × List T) → Hh → Prop} : (Gx (evKV D C .nil ls h) (P := ⟨Q⟩)) = Q ([], []) h := propext ⟨fun q => q, fun q => q⟩
theorem x_kv {k e : CE} {r : CKs} {Q : (List T × List T) → Hh → Prop} : (Gx (evKV D C (.cons k e r) ls h) (P := ⟨Q⟩)) = Gx (evE D C k ls h) (P := ⟨fun x h1 => Gx (evE D C e ls h1) (P := ⟨fun y h2 => Gx (evKV D C r ls h2) (P := ⟨fun p h3 => Q (x :: p.1, y :: p.2) h3⟩)⟩)⟩) := by simp only [Gx, evE, evEs, evKV, evO, evC, evI, evG, evGs, Go_bd, Go_ok] <;> rfl
theorem x_ono  {Q : Option Int → Hh → Prop} : (Gx (evO D C .no ls h) (P := ⟨Q⟩)) = Q none h := propext ⟨fun q => q, fun q => q⟩
theorem x_oso {e : CE} {Q : Option Int → Hh → Prop} : (Gx (evO D C (.so e) ls h) (P := ⟨Q⟩)) = Gx (evE D C e ls h) (P := ⟨fun x h1 => Gx (oiR x h1) (P := ⟨Q⟩)⟩) := by simp only [Gx, evE, evEs, evKV, evO, evC, evI, evG, evGs, Go_bd, Go_ok] <;> rfl
theorem x_cno  {Q : T → Hh → Prop} : (Gx (evC D C .no ls h) (P := ⟨Q⟩)) = Q (.bl true) h := propext ⟨fun q => q, fun q => q⟩
theorem x_cso {e : CE} {Q : T → Hh → Prop} : (Gx (evC D C (.so e) ls h) (P := ⟨Q⟩)) = Gx (evE D C e ls h) (P := ⟨Q⟩) := propext ⟨fun q => q, fun q => q⟩
theorem x_val {e : CE} {Q : (List T × Wt) → Hh → Prop} : (Gx (evI D C (.val e) ls h) (P := ⟨Q⟩)) = Gx (evE D C e ls h) (P := ⟨fun x h1 => Gx (valR x h1) (P := ⟨Q⟩)⟩) := by simp only [Gx, evE, evEs, evKV, evO, evC, evI, evG, evGs, Go_bd, Go_ok] <;> rfl
theorem x_rng1 {a : CE} {Q : (List T × Wt) → Hh → Prop} : (Gx (evI D C (.rng1 a) ls h) (P := ⟨Q⟩)) = Gx (evE D C a ls h) (P := ⟨fun x h1 => Gx (r1R x h1) (P := ⟨Q⟩)⟩) := by simp only [Gx, evE, evEs, evKV, evO, evC, evI, evG, evGs, Go_bd, Go_ok] <;> rfl
theorem x_rng2 {a b : CE} {Q : (List T × Wt) → Hh → Prop} : (Gx (evI D C (.rng2 a b) ls h) (P := ⟨Q⟩)) = Gx (evE D C a ls h) (P := ⟨fun x h1 => Gx (evE D C b ls h1) (P := ⟨fun y h2 => Gx (r2R x y h2) (P := ⟨Q⟩)⟩)⟩) := by simp only [Gx, evE, evEs, evKV, evO, evC, evI, evG, evGs, Go_bd, Go_ok] <;> rfl
theorem x_enum {e : CE} {Q : (List T × Wt) → Hh → Prop} : (Gx (evI D C (.enum e) ls h) (P := ⟨Q⟩)) = Gx (evE D C e ls h) (P := ⟨fun x h1 => Gx (enumR x h1) (P := ⟨Q⟩)⟩) := by simp only [Gx, evE, evEs, evKV, evO, evC, evI, evG, evGs, Go_bd, Go_ok] <;> rfl
theorem x_gvar {i : Nat} {x : T} {Q : Ls → Hh → Prop} : (Gx (evG D C (.var i) x ls h) (P := ⟨Q⟩)) = (i < ls.length ∧ Q (ls.set i (some x)) h) := by
  simp only [Gx, evG]
  by_cases hi : i < ls.length
  · rw [if_pos hi, Go_ok]
    exact propext ⟨fun q => ⟨hi, q⟩, fun q => q.2⟩
  · rw [if_neg hi]
    exact propext ⟨fun q => q.elim, fun q => absurd q.1 hi⟩
theorem x_gtup {ts : Tgs} {x : T} {Q : Ls → Hh → Prop} : (Gx (evG D C (.tup ts) x ls h) (P := ⟨Q⟩)) = Gx (gtupR D C ts x ls h) (P := ⟨Q⟩) := propext ⟨fun q => q, fun q => q⟩
theorem x_gtupR {ts : Tgs} {xs : List T} {Q : Ls → Hh → Prop} : (Gx (gtupR D C ts (.tup xs) ls h) (P := ⟨Q⟩)) = Gx (evGs D C ts xs ls h) (P := ⟨Q⟩) := propext ⟨fun q => q, fun q => q⟩
theorem x_gsub {o i : CE} {x : T} {Q : Ls → Hh → Prop} : (Gx (evG D C (.sub o i) x ls h) (P := ⟨Q⟩)) = Gx (evE D C o ls h) (P := ⟨fun p h1 => Gx (evE D C i ls h1) (P := ⟨fun y h2 => Gx (setT p y x h2) (P := ⟨fun _ h3 => Q ls h3⟩)⟩)⟩) := by simp only [Gx, evE, evEs, evKV, evO, evC, evI, evG, evGs, Go_bd, Go_ok] <;> rfl
theorem x_gnil  {Q : Ls → Hh → Prop} : (Gx (evGs D C .nil [] ls h) (P := ⟨Q⟩)) = Q ls h := propext ⟨fun q => q, fun q => q⟩
theorem x_gcons {t : Tg} {ts : Tgs} {x : T} {xs : List T} {Q : Ls → Hh → Prop} : (Gx (evGs D C (.cons t ts) (x :: xs) ls h) (P := ⟨Q⟩)) = Gx (evG D C t x ls h) (P := ⟨fun l1 h1 => Gx (evGs D C ts xs l1 h1) (P := ⟨Q⟩)⟩) := by
  simp only [Gx, evGs, Go_bd]
theorem x_snil  {Q : (Fl × Ls) → Hh → Prop} : (Gx (evSs D C .nil ls h) (P := ⟨Q⟩)) = Q (.nx, ls) h := propext ⟨fun q => q, fun q => q⟩
theorem x_scons {s : CS} {ss : CSs} {Q : (Fl × Ls) → Hh → Prop} : (Gx (evSs D C (.cons s ss) ls h) (P := ⟨Q⟩)) = Gx (evS D C s ls h) (P := ⟨fun p h1 => Gx (seqR D C ss p h1) (P := ⟨Q⟩)⟩) := by
  rw [evSs]
  exact gx_bd _ _ _
theorem x_pass  {Q : (Fl × Ls) → Hh → Prop} : (Gx (evS D C .pass ls h) (P := ⟨Q⟩)) = Q (.nx, ls) h := propext ⟨fun q => q, fun q => q⟩
theorem x_expr {e : CE} {Q : (Fl × Ls) → Hh → Prop} : (Gx (evS D C (.expr e) ls h) (P := ⟨Q⟩)) = Gx (evE D C e ls h) (P := ⟨fun _ h1 => Q (.nx, ls) h1⟩) := by simp only [Gx, evS, Go_bd, Go_ok] <;> rfl
theorem x_ret {e : CE} {Q : (Fl × Ls) → Hh → Prop} : (Gx (evS D C (.ret e) ls h) (P := ⟨Q⟩)) = Gx (evE D C e ls h) (P := ⟨fun x h1 => Q (.rt x, ls) h1⟩) := by simp only [Gx, evS, Go_bd, Go_ok] <;> rfl
theorem x_retN  {Q : (Fl × Ls) → Hh → Prop} : (Gx (evS D C .retN ls h) (P := ⟨Q⟩)) = Q (.rt .non, ls) h := propext ⟨fun q => q, fun q => q⟩
theorem x_set {t : Tg} {e : CE} {Q : (Fl × Ls) → Hh → Prop} : (Gx (evS D C (.set t e) ls h) (P := ⟨Q⟩)) = Gx (evE D C e ls h) (P := ⟨fun x h1 => Gx (evG D C t x ls h1) (P := ⟨fun l h2 => Q (.nx, l) h2⟩)⟩) := by simp only [Gx, evS, Go_bd, Go_ok] <;> rfl
theorem x_aug {i : Nat} {op : Bop} {e : CE} {Q : (Fl × Ls) → Hh → Prop} : (Gx (evS D C (.aug i op e) ls h) (P := ⟨Q⟩)) = Gx (augO D C op i e ls h ls[i]?) (P := ⟨Q⟩) := propext ⟨fun q => q, fun q => q⟩
theorem x_augO {i : Nat} {op : Bop} {e : CE} {x : T} {Q : (Fl × Ls) → Hh → Prop} : (Gx (augO D C op i e ls h (some (some x))) (P := ⟨Q⟩)) = Gx (evE D C e ls h) (P := ⟨fun y h1 => Gx (augR op i ls x y h1) (P := ⟨Q⟩)⟩) := gx_bd _ _ _
theorem x_augA {i : Nat} {a b : Int} {Q : (Fl × Ls) → Hh → Prop} : (Gx (augR .add i ls (.int a) (.int b) h) (P := ⟨Q⟩)) = Q (.nx, ls.set i (some (.int (a + b)))) h := propext ⟨fun q => q, fun q => q⟩
theorem x_augS {i : Nat} {a b : Int} {Q : (Fl × Ls) → Hh → Prop} : (Gx (augR .sub i ls (.int a) (.int b) h) (P := ⟨Q⟩)) = Q (.nx, ls.set i (some (.int (a - b)))) h := propext ⟨fun q => q, fun q => q⟩
theorem x_iff {c : CE} {a b : CSs} {Q : (Fl × Ls) → Hh → Prop} : (Gx (evS D C (.iff c a b) ls h) (P := ⟨Q⟩)) = Gx (evE D C c ls h) (P := ⟨fun z h1 => Gx (cndR z (evSs D C a ls h1) (evSs D C b ls h1)) (P := ⟨Q⟩)⟩) := by simp only [Gx, evS, Go_bd, Go_ok] <;> rfl
theorem x_for {t : Tg} {it : CI} {body : CSs} {Q : (Fl × Ls) → Hh → Prop} : (Gx (evS D C (.for t it body) ls h) (P := ⟨Q⟩)) = Gx (evI D C it ls h) (P := ⟨fun p h1 => Gx (forR D C t body ls p h1) (P := ⟨Q⟩)⟩) := by simp only [Gx, evS, Go_bd, Go_ok] <;> rfl
theorem x_whl {c : CE} {body : CSs} {Q : (Fl × Ls) → Hh → Prop} : (Gx (evS D C (.whl c body) ls h) (P := ⟨Q⟩)) = Gx (whlR D C c body ls h) (P := ⟨Q⟩) := propext ⟨fun q => q, fun q => q⟩
theorem x_brk  {Q : (Fl × Ls) → Hh → Prop} : (Gx (evS D C .brk ls h) (P := ⟨Q⟩)) = Q (.bk, ls) h := propext ⟨fun q => q, fun q => q⟩
theorem x_cnt  {Q : (Fl × Ls) → Hh → Prop} : (Gx (evS D C .cnt ls h) (P := ⟨Q⟩)) = Q (.ct, ls) h := propext ⟨fun q => q, fun q => q⟩
theorem x_seqN {ss : CSs} {l : Ls} {Q : (Fl × Ls) → Hh → Prop} : (Gx (seqR D C ss (.nx, l) h) (P := ⟨Q⟩)) = Gx (evSs D C ss l h) (P := ⟨Q⟩) := propext ⟨fun q => q, fun q => q⟩
theorem x_seqR {ss : CSs} {l : Ls} {t : T} {Q : (Fl × Ls) → Hh → Prop} : (Gx (seqR D C ss (.rt t, l) h) (P := ⟨Q⟩)) = Q (.rt t, l) h := propext ⟨fun q => q, fun q => q⟩
theorem x_seqB {ss : CSs} {l : Ls} {Q : (Fl × Ls) → Hh → Prop} : (Gx (seqR D C ss (.bk, l) h) (P := ⟨Q⟩)) = Q (.bk, l) h := propext ⟨fun q => q, fun q => q⟩
theorem x_seqC {ss : CSs} {l : Ls} {Q : (Fl × Ls) → Hh → Prop} : (Gx (seqR D C ss (.ct, l) h) (P := ⟨Q⟩)) = Q (.ct, l) h := propext ⟨fun q => q, fun q => q⟩
theorem x_finR {l : Ls} {t : T} {Q : T → Hh → Prop} : (Gx (finR (.rt t, l) h) (P := ⟨Q⟩)) = Q t h := propext ⟨fun q => q, fun q => q⟩
theorem x_finN {l : Ls} {Q : T → Hh → Prop} : (Gx (finR (.nx, l) h) (P := ⟨Q⟩)) = Q .non h := propext ⟨fun q => q, fun q => q⟩
theorem x_lk {t : T} {Q : T → Hh → Prop} : (Gx (lkR (some (some t)) h) (P := ⟨Q⟩)) = Q t h := propext ⟨fun q => q, fun q => q⟩
theorem x_negR {i : Int} {Q : T → Hh → Prop} : (Gx (negR (.int i) h) (P := ⟨Q⟩)) = Q (.int (-i)) h := propext ⟨fun q => q, fun q => q⟩
theorem x_notR {i : Bool} {Q : T → Hh → Prop} : (Gx (notR (.bl i) h) (P := ⟨Q⟩)) = Q (.bl (!i)) h := propext ⟨fun q => q, fun q => q⟩
theorem x_cnd {α : Type} {b : Bool} {r1 r2 : R α} {Q : α → Hh → Prop} : (Gx (cndR (.bl b) r1 r2) (P := ⟨Q⟩)) = IfX b (P := ⟨Gx r1 (P := ⟨Q⟩), Gx r2 (P := ⟨Q⟩)⟩) := by
  cases b
  · exact ifx_f.symm
  · exact ifx_t.symm
theorem x_oiR {i : Int} {Q : Option Int → Hh → Prop} : (Gx (oiR (.int i) h) (P := ⟨Q⟩)) = Q (some i) h := propext ⟨fun q => q, fun q => q⟩
theorem x_opt {α : Type} {v : α} {Q : α → Hh → Prop} : (Gx (optR (some v) h) (P := ⟨Q⟩)) = Q v h := propext ⟨fun q => q, fun q => q⟩
theorem x_ob {v : Bool} {Q : T → Hh → Prop} : (Gx (obR (some v) h) (P := ⟨Q⟩)) = Q (.bl v) h := propext ⟨fun q => q, fun q => q⟩
theorem x_r1 {i : Int} {Q : (List T × Wt) → Hh → Prop} : (Gx (r1R (.int i) h) (P := ⟨Q⟩)) = (rgOk 0 i = true ∧ Q (rangeT 0 i, []) h) := by
  simp only [Gx, r1R]
  by_cases hc : rgOk 0 i = true
  · rw [if_pos hc]
    exact propext ⟨fun q => ⟨hc, q⟩, fun q => q.2⟩
  · rw [if_neg hc]
    exact propext ⟨fun q => q.elim, fun q => absurd q.1 hc⟩
theorem x_r2 {i j : Int} {Q : (List T × Wt) → Hh → Prop} : (Gx (r2R (.int i) (.int j) h) (P := ⟨Q⟩)) = (rgOk i j = true ∧ Q (rangeT i j, []) h) := by
  simp only [Gx, r2R]
  by_cases hc : rgOk i j = true
  · rw [if_pos hc]
    exact propext ⟨fun q => ⟨hc, q⟩, fun q => q.2⟩
  · rw [if_neg hc]
    exact propext ⟨fun q => q.elim, fun q => absurd q.1 hc⟩
theorem x_valT {xs : List T} {Q : (List T × Wt) → Hh → Prop} : (Gx (valR (.tup xs) h) (P := ⟨Q⟩)) = Q (xs, []) h := propext ⟨fun q => q, fun q => q⟩
theorem x_valF {xs : List T} {Q : (List T × Wt) → Hh → Prop} : (Gx (valR (.fz xs) h) (P := ⟨Q⟩)) = Q (xs, [(.fz xs, xs)]) h := propext ⟨fun q => q, fun q => q⟩
/-- an object that must be a list, a dict -/
def lstX {α : Type} (o : Option O) (f : List T → R α) : R α := match o with
  | some (.lst xs) => f xs
  | _ => .bad
def dkX {α : Type} (o : Option O) (f : List (KT × T) → R α) : R α := match o with
  | some (.dK xs) => f xs
  | _ => .bad
theorem x_lst' {α : Type} {xs : List T} {f : List T → R α} {Q : α → Hh → Prop} : (Gx (lstX (some (.lst xs)) f) (P := ⟨Q⟩)) = Gx (f xs) (P := ⟨Q⟩) := propext ⟨fun q => q, fun q => q⟩
theorem x_dk' {α : Type} {xs : List (KT × T)} {f : List (KT × T) → R α} {Q : α → Hh → Prop} : (Gx (dkX (some (.dK xs)) f) (P := ⟨Q⟩)) = Gx (f xs) (P := ⟨Q⟩) := propext ⟨fun q => q, fun q => q⟩
theorem lstX_eq {α : Type} (r : Nat) (f : List T → R α) : lstX h[r]? f = match mutL h r with | some xs => f xs | none => .bad := by
  unfold lstX mutL
  cases h[r]? with
  | none => rfl
  | some o => cases o <;> rfl

theorem x_valL {r : Nat} {Q : (List T × Wt) → Hh → Prop} : (Gx (valR (.ref r) h) (P := ⟨Q⟩)) = Gx (lstX h[r]? fun xs => .ok (xs, [(.ref r, xs)]) h) (P := ⟨Q⟩) := by
  congr 1
  unfold valR lsT mutL lstX
  try dsimp only
  cases h[r]? with
  | none => rfl
  | some o => cases o <;> rfl
theorem x_enumL {r : Nat} {Q : (List T × Wt) → Hh → Prop} : (Gx (enumR (.ref r) h) (P := ⟨Q⟩)) = Gx (lstX h[r]? fun xs => .ok (enumT 0 xs, [(.ref r, xs)]) h) (P := ⟨Q⟩) := by
  congr 1
  unfold enumR lsT mutL lstX
  try dsimp only
  cases h[r]? with
  | none => rfl
  | some o => cases o <;> rfl
noncomputable def mthO (D : Tbl) (C : String → List T → Hh → R T) (m : Mth) (as : CEs) (ls : Ls) (r : Nat) (h : Hh) (o : Option O) : R T :=
  if (match o with | some (.lst _) => some "list" | some (.dK _) => some "dict" | none => none) = some m.ty then (evEs D C as ls h).bd fun ys h2 => mthT m (.ref r) ys h2 else .bad
theorem x_mthL {m : Mth} {as : CEs} {r : Nat} {Q : T → Hh → Prop} : (Gx (mthR D C m as ls (.ref r) h) (P := ⟨Q⟩)) = Gx (mthO D C m as ls r h h[r]?) (P := ⟨Q⟩) := propext ⟨fun q => q, fun q => q⟩
theorem x_mth_append {as : CEs} {r : Nat} {xs : List T} {Q : T → Hh → Prop} : (Gx (mthO D C .append as ls r h (some (.lst xs))) (P := ⟨Q⟩)) = Gx (evEs D C as ls h) (P := ⟨fun ys h2 => Gx (mthT .append (.ref r) ys h2) (P := ⟨Q⟩)⟩) := by
  unfold mthO
  rw [if_pos (show some "list" = some Mth.append.ty from rfl)]
  exact gx_bd _ _ _
theorem x_mth_extend {as : CEs} {r : Nat} {xs : List T} {Q : T → Hh → Prop} : (Gx (mthO D C .extend as ls r h (some (.lst xs))) (P := ⟨Q⟩)) = Gx (evEs D C as ls h) (P := ⟨fun ys h2 => Gx (mthT .extend (.ref r) ys h2) (P := ⟨Q⟩)⟩) := by
  unfold mthO
  rw [if_pos (show some "list" = some Mth.extend.ty from rfl)]
  exact gx_bd _ _ _
theorem x_mth_pop {as : CEs} {r : Nat} {xs : List T} {Q : T → Hh → Prop} : (Gx (mthO D C .pop as ls r h (some (.lst xs))) (P := ⟨Q⟩)) = Gx (evEs D C as ls h) (P := ⟨fun ys h2 => Gx (mthT .pop (.ref r) ys h2) (P := ⟨Q⟩)⟩) := by
  unfold mthO
  rw [if_pos (show some "list" = some Mth.pop.ty from rfl)]
  exact gx_bd _ _ _
theorem x_mth_get {as : CEs} {r : Nat} {xs : List (KT × T)} {Q : T → Hh → Prop} : (Gx (mthO D C .get as ls r h (some (.dK xs))) (P := ⟨Q⟩)) = Gx (evEs D C as ls h) (P := ⟨fun ys h2 => Gx (mthT .get (.ref r) ys h2) (P := ⟨Q⟩)⟩) := by
  unfold mthO
  rw [if_pos (show some "dict" = some Mth.get.ty from rfl)]
  exact gx_bd _ _ _
theorem x_newT {xs : List T} {Q : T → Hh → Prop} : (Gx (newT h xs) (P := ⟨Q⟩)) = (xs.length ≤ 16777216 ∧ Q (.tup xs) h) := by
  simp only [Gx, newT]
  by_cases hc : xs.length ≤ 16777216
  · rw [if_pos hc]
    exact propext ⟨fun q => ⟨hc, q⟩, fun q => q.2⟩
  · rw [if_neg hc]
    exact propext ⟨fun q => q.elim, fun q => absurd q.1 hc⟩
theorem x_newL {xs : List T} {Q : T → Hh → Prop} : (Gx (newL h xs) (P := ⟨Q⟩)) = (xs.length ≤ 16777216 ∧ Q (.ref h.length) (h ++ [.lst xs])) := by
  simp only [Gx, newL]
  by_cases hc : xs.length ≤ 16777216
  · rw [if_pos hc]
    exact propext ⟨fun q => ⟨hc, q⟩, fun q => q.2⟩
  · rw [if_neg hc]
    exact propext ⟨fun q => q.elim, fun q => absurd q.1 hc⟩
theorem x_dicR {ts vs : List T} {Q : T → Hh → Prop} : (Gx (dicR (ts, vs) h) (P := ⟨Q⟩)) = Gx (optR ((keysT ts).bind fun ks => mergeKT [] ks vs) h) (P := ⟨fun kvs h1 => Q (.ref h1.length) (h1 ++ [.dK kvs])⟩) := by
  simp only [Gx, dicR]
  cases keysT ts with
  | none => rfl
  | some ks =>
    dsimp only [Option.bind]
    cases mergeKT [] ks vs <;> rfl
theorem x_add {i j : Int} {Q : T → Hh → Prop} : (Gx (binT .add (.int i) (.int j) h) (P := ⟨Q⟩)) = Q (.int (i + j)) h := propext ⟨fun q => q, fun q => q⟩
theorem x_sub {i j : Int} {Q : T → Hh → Prop} : (Gx (binT .sub (.int i) (.int j) h) (P := ⟨Q⟩)) = Q (.int (i - j)) h := propext ⟨fun q => q, fun q => q⟩
theorem x_mul {i j : Int} {Q : T → Hh → Prop} : (Gx (binT .mul (.int i) (.int j) h) (P := ⟨Q⟩)) = (CMulB i j = true ∧ Q (.int (i * j)) h) := by
  simp only [Gx, binT, intOp]
  by_cases hc : CMulB i j = true
  · rw [if_pos hc]
    exact propext ⟨fun q => ⟨hc, q⟩, fun q => q.2⟩
  · rw [if_neg hc]
    exact propext ⟨fun q => q.elim, fun q => absurd q.1 hc⟩
theorem x_fdiv {i j : Int} {Q : T → Hh → Prop} : (Gx (binT .fdiv (.int i) (.int j) h) (P := ⟨Q⟩)) = (CDivB i j = true ∧ Q (.int (i / j)) h) := by
  simp only [Gx, binT, intOp]
  by_cases hc : CDivB i j = true
  · rw [if_pos hc]
    exact propext ⟨fun q => ⟨hc, q⟩, fun q => q.2⟩
  · rw [if_neg hc]
    exact propext ⟨fun q => q.elim, fun q => absurd q.1 hc⟩
theorem x_mod {i j : Int} {Q : T → Hh → Prop} : (Gx (binT .mod (.int i) (.int j) h) (P := ⟨Q⟩)) = (0 < j ∧ Q (.int (i % j)) h) := by
  simp only [Gx, binT, intOp]
  by_cases hc : 0 < j
  · rw [if_pos hc]
    exact propext ⟨fun q => ⟨hc, q⟩, fun q => q.2⟩
  · rw [if_neg hc]
    exact propext ⟨fun q => q.elim, fun q => absurd q.1 hc⟩
theorem x_pow {i j : Int} {Q : T → Hh → Prop} : (Gx (binT .pow (.int i) (.int j) h) (P := ⟨Q⟩)) = (CPowB i j = true ∧ Q (.int (i ^ j.toNat)) h) := by
  simp only [Gx, binT, intOp]
  by_cases hc : CPowB i j = true
  · rw [if_pos hc]
    exact propext ⟨fun q => ⟨hc, q⟩, fun q => q.2⟩
  · rw [if_neg hc]
    exact propext ⟨fun q => q.elim, fun q => absurd q.1 hc⟩
theorem x_tadd {xs ys : List T} {Q : T → Hh → Prop} : (Gx (binT .add (.tup xs) (.tup ys) h) (P := ⟨Q⟩)) = ((xs ++ ys).length ≤ 16777216 ∧ Q (.tup (xs ++ ys)) h) := by
  simp only [Gx, binT, newT]
  by_cases hc : (xs ++ ys).length ≤ 16777216
  · rw [if_pos hc]
    exact propext ⟨fun q => ⟨hc, q⟩, fun q => q.2⟩
  · rw [if_neg hc]
    exact propext ⟨fun q => q.elim, fun q => absurd q.1 hc⟩
theorem x_ladd {a b : Nat} {Q : T → Hh → Prop} : (Gx (binT .add (.ref a) (.ref b) h) (P := ⟨Q⟩)) = Gx (lstX h[a]? fun xs => lstX h[b]? fun ys => newL h (xs ++ ys)) (P := ⟨Q⟩) := by
  congr 1
  unfold binT mutL lstX
  dsimp only
  cases h[a]? with
  | none => rfl
  | some o =>
    cases o with
    | dK _ => rfl
    | lst xs =>
      cases h[b]? with
      | none => rfl
      | some u => cases u <;> rfl
theorem x_lt {i j : Int} {Q : T → Hh → Prop} : (Gx (cmpT .lt (.int i) (.int j) h) (P := ⟨Q⟩)) = Q (.bl (decide (i < j))) h := propext ⟨fun q => q, fun q => q⟩
theorem x_le {i j : Int} {Q : T → Hh → Prop} : (Gx (cmpT .le (.int i) (.int j) h) (P := ⟨Q⟩)) = Q (.bl (decide (i ≤ j))) h := propext ⟨fun q => q, fun q => q⟩
theorem x_gt {i j : Int} {Q : T → Hh → Prop} : (Gx (cmpT .gt (.int i) (.int j) h) (P := ⟨Q⟩)) = Q (.bl (decide (j < i))) h := propext ⟨fun q => q, fun q => q⟩
theorem x_ge {i j : Int} {Q : T → Hh → Prop} : (Gx (cmpT .ge (.int i) (.int j) h) (P := ⟨Q⟩)) = Q (.bl (decide (j ≤ i))) h := propext ⟨fun q => q, fun q => q⟩
theorem x_eq {x y : T} {Q : T → Hh → Prop} : (Gx (cmpT .eq x y h) (P := ⟨Q⟩)) = Gx (obR (eqT h x y) h) (P := ⟨Q⟩) := by
  simp only [Gx, cmpT]
  cases eqT h x y <;> rfl
theorem x_ne {x y : T} {Q : T → Hh → Prop} : (Gx (cmpT .ne x y h) (P := ⟨Q⟩)) = Gx (obR ((eqT h x y).map not) h) (P := ⟨Q⟩) := by
  simp only [Gx, cmpT]
  cases eqT h x y <;> rfl
theorem x_inn {x y : T} {Q : T → Hh → Prop} : (Gx (cmpT .inn x y h) (P := ⟨Q⟩)) = Gx (obR (inO x y h) h) (P := ⟨Q⟩) := by
  simp only [Gx, cmpT]
  cases inO x y h <;> rfl
theorem x_nin {x y : T} {Q : T → Hh → Prop} : (Gx (cmpT .nin x y h) (P := ⟨Q⟩)) = Gx (obR ((inO x y h).map not) h) (P := ⟨Q⟩) := by
  simp only [Gx, cmpT]
  cases inO x y h <;> rfl
theorem x_tix {xs : List T} {k : Int} {Q : T → Hh → Prop} : (Gx (idxT (.tup xs) (.int k) h) (P := ⟨Q⟩)) = Gx (optR (atI xs k) h) (P := ⟨Q⟩) := by
  simp only [Gx, idxT]
  cases atI xs k <;> rfl
def ixX (o : Option O) (i : T) (h : Hh) : R T := match o, i with
  | some (.lst xs), .int k => optR (atI xs k) h
  | some (.dK kvs), i => optR (i.kt.bind fun k => lookK kvs k) h
  | _, _ => .bad
theorem x_rix {r : Nat} {i : T} {Q : T → Hh → Prop} : (Gx (idxT (.ref r) i h) (P := ⟨Q⟩)) = Gx (ixX h[r]? i h) (P := ⟨Q⟩) := by
  congr 1
  unfold idxT ixX
  dsimp only
  cases h[r]? with
  | none => cases i <;> rfl
  | some o =>
    cases o with
    | lst xs =>
      cases i with
      | int k => dsimp only; cases atI xs k <;> rfl
      | _ => rfl
    | dK kvs =>
      dsimp only
      cases i.kt with
      | none => cases i <;> rfl
      | some k =>
        dsimp only [Option.bind]
        cases lookK kvs k <;> cases i <;> rfl
theorem x_ixL {xs : List T} {k : Int} {Q : T → Hh → Prop} : (Gx (ixX (some (.lst xs)) (.int k) h) (P := ⟨Q⟩)) = Gx (optR (atI xs k) h) (P := ⟨Q⟩) := propext ⟨fun q => q, fun q => q⟩
theorem x_ixD {xs : List (KT × T)} {i : T} {Q : T → Hh → Prop} : (Gx (ixX (some (.dK xs)) i h) (P := ⟨Q⟩)) = Gx (optR (i.kt.bind fun k => lookK xs k) h) (P := ⟨Q⟩) := by
  cases i <;> rfl
def stX (r : Nat) (o : Option O) (i v : T) (h : Hh) : R Unit := match o, i with
  | some (.lst xs), .int k => match ixN xs.length k with
    | some j => .ok () (h.set r (.lst (xs.set j v)))
    | none => .bad
  | some (.dK kvs), i => match i.kt with
    | some k => if kvs.length < 16777216 then .ok () (h.set r (.dK (putKT kvs k v))) else .bad
    | none => .bad
  | _, _ => .bad
theorem x_setD {r : Nat} {x v : T} {Q : Unit → Hh → Prop} : (Gx (setT (.ref r) x v h) (P := ⟨Q⟩)) = Gx (stX r h[r]? x v h) (P := ⟨Q⟩) := propext ⟨fun q => q, fun q => q⟩
theorem x_stD {r : Nat} {kvs : List (KT × T)} {x : Str} {v : T} {Q : Unit → Hh → Prop} : (Gx (stX r (some (.dK kvs)) (.str x) v h) (P := ⟨Q⟩)) = (kvs.length < 16777216 ∧ Q () (h.set r (.dK (putKT kvs (.ks x) v)))) := by
  simp only [Gx, stX, T.kt]
  by_cases hc : kvs.length < 16777216
  · rw [if_pos hc]
    exact propext ⟨fun q => ⟨hc, q⟩, fun q => q.2⟩
  · rw [if_neg hc]
    exact propext ⟨fun q => q.elim, fun q => absurd q.1 hc⟩
theorem x_stL {r : Nat} {xs : List T} {k : Int} {v : T} {Q : Unit → Hh → Prop} : (Gx (stX r (some (.lst xs)) (.int k) v h) (P := ⟨Q⟩)) = Gx (optR (ixN xs.length k) h) (P := ⟨fun j h1 => Q () (h1.set r (.lst (xs.set j v)))⟩) := by
  simp only [Gx, stX]
  cases ixN xs.length k <;> rfl
theorem x_app {r : Nat} {x : T} {Q : T → Hh → Prop} : (Gx (mthT .append (.ref r) [x] h) (P := ⟨Q⟩)) = Gx (lstX h[r]? fun xs => if xs.length < 16777216 then .ok .non (h.set r (.lst (xs ++ [x]))) else .bad) (P := ⟨Q⟩) := by
  congr 1
  unfold mthT mutL lstX
  try dsimp only
  cases h[r]? with
  | none => rfl
  | some o => cases o <;> rfl
theorem x_if {α : Type} {c : Prop} [Decidable c] {r : R α} {Q : α → Hh → Prop} : (Gx (if c then r else .bad) (P := ⟨Q⟩)) = (c ∧ Gx r (P := ⟨Q⟩)) := by
  by_cases hc : c
  · rw [if_pos hc]
    exact propext ⟨fun q => ⟨hc, q⟩, fun q => q.2⟩
  · rw [if_neg hc]
    exact propext ⟨fun q => q.elim, fun q => absurd q.1 hc⟩
theorem x_ext {r m : Nat} {Q : T → Hh → Prop} : (Gx (mthT .extend (.ref r) [.ref m] h) (P := ⟨Q⟩)) = Gx (lstX h[r]? fun xs => lstX h[m]? fun ys => if xs.length + ys.length ≤ 16777216 then .ok .non (h.set r (.lst (xs ++ ys))) else .bad) (P := ⟨Q⟩) := by
  congr 1
  unfold mthT mutL lstX
  dsimp only
  cases h[r]? with
  | none => rfl
  | some o =>
    cases o with
    | dK _ => rfl
    | lst xs =>
      cases h[m]? with
      | none => rfl
      | some u => cases u <;> rfl
theorem x_pop {r : Nat} {Q : T → Hh → Prop} : (Gx (mthT .pop (.ref r) [] h) (P := ⟨Q⟩)) = Gx (lstX h[r]? fun xs => (optR xs[xs.length - 1]? h).bd fun y h1 => .ok y (h1.set r (.lst xs.dropLast))) (P := ⟨Q⟩) := by
  congr 1
  unfold mthT mutL lstX
  dsimp only
  cases h[r]? with
  | none => rfl
  | some o =>
    cases o with
    | dK _ => rfl
    | lst xs =>
      dsimp only
      cases xs[xs.length - 1]? <;> rfl
theorem x_lenT {xs : List T} {Q : T → Hh → Prop} : (Gx (bltT .len [.tup xs] h) (P := ⟨Q⟩)) = Q (.int xs.length) h := propext ⟨fun q => q, fun q => q⟩
def lenX (o : Option O) (h : Hh) : R T := match o with
  | some (.lst xs) => .ok (.int xs.length) h
  | some (.dK xs) => .ok (.int xs.length) h
  | none => .bad
theorem x_lenR {r : Nat} {Q : T → Hh → Prop} : (Gx (bltT .len [.ref r] h) (P := ⟨Q⟩)) = Gx (lenX h[r]? h) (P := ⟨Q⟩) := propext ⟨fun q => q, fun q => q⟩
theorem x_lenL {xs : List T} {Q : T → Hh → Prop} : (Gx (lenX (some (.lst xs)) h) (P := ⟨Q⟩)) = Q (.int xs.length) h := propext ⟨fun q => q, fun q => q⟩
theorem x_listT {xs : List T} {Q : T → Hh → Prop} : (Gx (bltT .list [.tup xs] h) (P := ⟨Q⟩)) = Gx (newL h xs) (P := ⟨Q⟩) := propext ⟨fun q => q, fun q => q⟩
theorem x_listL {r : Nat} {Q : T → Hh → Prop} : (Gx (bltT .list [.ref r] h) (P := ⟨Q⟩)) = Gx (lstX h[r]? fun xs => newL h xs) (P := ⟨Q⟩) := by
  congr 1
  unfold bltT seqOf lsT mutL lstX
  try dsimp only
  cases h[r]? with
  | none => rfl
  | some o => cases o <;> rfl
theorem x_tupL {r : Nat} {Q : T → Hh → Prop} : (Gx (bltT .tuple [.ref r] h) (P := ⟨Q⟩)) = Gx (lstX h[r]? fun xs => .ok (.tup xs) h) (P := ⟨Q⟩) := by
  congr 1
  unfold bltT lsT mutL lstX
  try dsimp only
  cases h[r]? with
  | none => rfl
  | some o => cases o <;> rfl
theorem x_tupT {xs : List T} {Q : T → Hh → Prop} : (Gx (bltT .tuple [.tup xs] h) (P := ⟨Q⟩)) = Q (.tup xs) h := propext ⟨fun q => q, fun q => q⟩
theorem x_sortT {xs : List T} {Q : T → Hh → Prop} : (Gx (bltT .sorted [.tup xs] h) (P := ⟨Q⟩)) = Gx ((optR (sortT h xs) h).bd fun ys h1 => newL h1 ys) (P := ⟨Q⟩) := by
  congr 1
  unfold bltT seqOf
  dsimp only
  cases sortT h xs <;> rfl
theorem x_sortL {r : Nat} {Q : T → Hh → Prop} : (Gx (bltT .sorted [.ref r] h) (P := ⟨Q⟩)) = Gx (lstX h[r]? fun xs => (optR (sortT h xs) h).bd fun ys h1 => newL h1 ys) (P := ⟨Q⟩) := by
  congr 1
  unfold bltT seqOf lsT mutL lstX
  dsimp only
  cases h[r]? with
  | none => rfl
  | some o =>
    cases o with
    | dK _ => rfl
    | lst xs =>
      dsimp only
      cases sortT h xs <;> rfl
theorem x_all {r : Nat} {Q : T → Hh → Prop} : (Gx (bltT .all [.ref r] h) (P := ⟨Q⟩)) = Gx (lstX h[r]? fun xs => (optR (boolsT xs) h).bd fun bs h1 => .ok (.bl (bs.all id)) h1) (P := ⟨Q⟩) := by
  congr 1
  unfold bltT lsT mutL lstX
  dsimp only
  cases h[r]? with
  | none => rfl
  | some o =>
    cases o with
    | dK _ => rfl
    | lst xs =>
      dsimp only [Option.bind]
      cases boolsT xs <;> rfl
theorem x_any {r : Nat} {Q : T → Hh → Prop} : (Gx (bltT .any [.ref r] h) (P := ⟨Q⟩)) = Gx (lstX h[r]? fun xs => (optR (boolsT xs) h).bd fun bs h1 => .ok (.bl (bs.any id)) h1) (P := ⟨Q⟩) := by
  congr 1
  unfold bltT lsT mutL lstX
  dsimp only
  cases h[r]? with
  | none => rfl
  | some o =>
    cases o with
    | dK _ => rfl
    | lst xs =>
      dsimp only [Option.bind]
      cases boolsT xs <;> rfl
theorem x_sum {r : Nat} {Q : T → Hh → Prop} : (Gx (bltT .sum [.ref r] h) (P := ⟨Q⟩)) = Gx (lstX h[r]? fun xs => (optR (intsT xs) h).bd fun bs h1 => .ok (.int bs.sum) h1) (P := ⟨Q⟩) := by
  congr 1
  unfold bltT lsT mutL lstX
  dsimp only
  cases h[r]? with
  | none => rfl
  | some o =>
    cases o with
    | dK _ => rfl
    | lst xs =>
      dsimp only [Option.bind]
      cases intsT xs <;> rfl
theorem x_max2 {i j : Int} {Q : T → Hh → Prop} : (Gx (bltT .max [.int i, .int j] h) (P := ⟨Q⟩)) = Q (.int (if j > i then j else i)) h := propext ⟨fun q => q, fun q => q⟩
theorem x_min2 {i j : Int} {Q : T → Hh → Prop} : (Gx (bltT .min [.int i, .int j] h) (P := ⟨Q⟩)) = Q (.int (if j < i then j else i)) h := propext ⟨fun q => q, fun q => q⟩
theorem x_toint {i : Int} {Q : T → Hh → Prop} : (Gx (bltT .int [.int i] h) (P := ⟨Q⟩)) = Q (.int i) h := propext ⟨fun q => q, fun q => q⟩
def repX (o : Option PyData) (h : Hh) : R T := match o with
  | some d => if (decide (d.shown.length ≤ 16777216) && d.showable && decide (d.depth ≤ 60)) = true then .ok (.str d.shown) h else .bad
  | none => .bad
theorem x_repr {x : T} {Q : T → Hh → Prop} : (Gx (bltT .repr [x] h) (P := ⟨Q⟩)) = Gx (repX (dat h x) h) (P := ⟨Q⟩) := propext ⟨fun q => q, fun q => q⟩
theorem x_rep {d : PyData} {Q : T → Hh → Prop} : (Gx (repX (some d) h) (P := ⟨Q⟩)) = ((decide (d.shown.length ≤ 16777216) && d.showable && decide (d.depth ≤ 60)) = true ∧ Q (.str d.shown) h) := by
  simp only [Gx, repX]
  by_cases hc : (decide (d.shown.length ≤ 16777216) && d.showable && decide (d.depth ≤ 60)) = true
  · rw [if_pos hc]
    exact propext ⟨fun q => ⟨hc, q⟩, fun q => q.2⟩
  · rw [if_neg hc]
    exact propext ⟨fun q => q.elim, fun q => absurd q.1 hc⟩
theorem x_slcT {xs : List T} {lo hi : Option Int} {Q : T → Hh → Prop} : (Gx (slcT (.tup xs) lo hi h) (P := ⟨Q⟩)) = Q (.tup (cutT xs lo hi)) h := propext ⟨fun q => q, fun q => q⟩
theorem x_slcF {xs : List T} {lo hi : Option Int} {Q : T → Hh → Prop} : (Gx (slcT (.fz xs) lo hi h) (P := ⟨Q⟩)) = Gx (newL h (cutT xs lo hi)) (P := ⟨Q⟩) := propext ⟨fun q => q, fun q => q⟩
theorem x_slcL {r : Nat} {lo hi : Option Int} {Q : T → Hh → Prop} : (Gx (slcT (.ref r) lo hi h) (P := ⟨Q⟩)) = Gx (lstX h[r]? fun xs => newL h (cutT xs lo hi)) (P := ⟨Q⟩) := by
  congr 1
  unfold slcT lsT mutL lstX
  try dsimp only
  cases h[r]? with
  | none => rfl
  | some o => cases o <;> rfl
theorem x_revL {r : Nat} {Q : T → Hh → Prop} : (Gx (revT (.ref r) h) (P := ⟨Q⟩)) = Gx (lstX h[r]? fun xs => newL h xs.reverse) (P := ⟨Q⟩) := by
  congr 1
  unfold revT lsT mutL lstX
  try dsimp only
  cases h[r]? with
  | none => rfl
  | some o => cases o <;> rfl
theorem x_ssetL {r : Nat} {Q : T → Hh → Prop} : (Gx (ssetT h (.ref r)) (P := ⟨Q⟩)) = Gx (lstX h[r]? fun xs => (optR (intsT xs) h).bd fun ns h1 => if ns.length < 64 then newL h1 ((sdd ns).map T.int) else .bad) (P := ⟨Q⟩) := by
  congr 1
  unfold ssetT lsT mutL lstX
  dsimp only
  cases h[r]? with
  | none => rfl
  | some o =>
    cases o with
    | dK _ => rfl
    | lst xs =>
      dsimp only [Option.bind]
      cases intsT xs <;> rfl
theorem x_isi_int {i : Int} {ts : List String} {Q : T → Hh → Prop} : (Gx (isiR ts (.int i) h) (P := ⟨Q⟩)) = Q (.bl (ts.any (isiT1 "int"))) h := propext ⟨fun q => q, fun q => q⟩
theorem x_isi_bool {i : Bool} {ts : List String} {Q : T → Hh → Prop} : (Gx (isiR ts (.bl i) h) (P := ⟨Q⟩)) = Q (.bl (ts.any (isiT1 "bool"))) h := propext ⟨fun q => q, fun q => q⟩
theorem x_isi_NoneType  {ts : List String} {Q : T → Hh → Prop} : (Gx (isiR ts (.non) h) (P := ⟨Q⟩)) = Q (.bl (ts.any (isiT1 "NoneType"))) h := propext ⟨fun q => q, fun q => q⟩
theorem x_isi_str {i : Str} {ts : List String} {Q : T → Hh → Prop} : (Gx (isiR ts (.str i) h) (P := ⟨Q⟩)) = Q (.bl (ts.any (isiT1 "str"))) h := propext ⟨fun q => q, fun q => q⟩
theorem x_isi_tuple {i : List T} {ts : List String} {Q : T → Hh → Prop} : (Gx (isiR ts (.tup i) h) (P := ⟨Q⟩)) = Q (.bl (ts.any (isiT1 "tuple"))) h := propext ⟨fun q => q, fun q => q⟩
theorem x_isi_list {i : List T} {ts : List String} {Q : T → Hh → Prop} : (Gx (isiR ts (.fz i) h) (P := ⟨Q⟩)) = Q (.bl (ts.any (isiT1 "list"))) h := propext ⟨fun q => q, fun q => q⟩
end
theorem ty_NoneType_int : isiT1 "NoneType" "int" = false := by decide +kernel
theorem ty_NoneType_bool : isiT1 "NoneType" "bool" = false := by decide +kernel
theorem ty_NoneType_str : isiT1 "NoneType" "str" = false := by decide +kernel
theorem ty_NoneType_list : isiT1 "NoneType" "list" = false := by decide +kernel
theorem ty_NoneType_tuple : isiT1 "NoneType" "tuple" = false := by decide +kernel
theorem ty_NoneType_dict : isiT1 "NoneType" "dict" = false := by decide +kernel
theorem ty_int_int : isiT1 "int" "int" = true := by decide +kernel
theorem ty_int_bool : isiT1 "int" "bool" = false := by decide +kernel
theorem ty_int_str : isiT1 "int" "str" = false := by decide +kernel
theorem ty_int_list : isiT1 "int" "list" = false := by decide +kernel
theorem ty_int_tuple : isiT1 "int" "tuple" = false := by decide +kernel
theorem ty_int_dict : isiT1 "int" "dict" = false := by decide +kernel
theorem ty_bool_int : isiT1 "bool" "int" = true := by decide +kernel
theorem ty_bool_bool : isiT1 "bool" "bool" = true := by decide +kernel
theorem ty_bool_str : isiT1 "bool" "str" = false := by decide +kernel
theorem ty_bool_list : isiT1 "bool" "list" = false := by decide +kernel
theorem ty_bool_tuple : isiT1 "bool" "tuple" = false := by decide +kernel
theorem ty_bool_dict : isiT1 "bool" "dict" = false := by decide +kernel
theorem ty_str_int : isiT1 "str" "int" = false := by decide +kernel
theorem ty_str_bool : isiT1 "str" "bool" = false := by decide +kernel
theorem ty_str_str : isiT1 "str" "str" = true := by decide +kernel
theorem ty_str_list : isiT1 "str" "list" = false := by decide +kernel
theorem ty_str_tuple : isiT1 "str" "tuple" = false := by decide +kernel
theorem ty_str_dict : isiT1 "str" "dict" = false := by decide +kernel
theorem ty_tuple_int : isiT1 "tuple" "int" = false := by decide +kernel
theorem ty_tuple_bool : isiT1 "tuple" "bool" = false := by decide +kernel
theorem ty_tuple_str : isiT1 "tuple" "str" = false := by decide +kernel
theorem ty_tuple_list : isiT1 "tuple" "list" = false := by decide +kernel
theorem ty_tuple_tuple : isiT1 "tuple" "tuple" = true := by decide +kernel
theorem ty_tuple_dict : isiT1 "tuple" "dict" = false := by decide +kernel
theorem ty_list_int : isiT1 "list" "int" = false := by decide +kernel
theorem ty_list_bool : isiT1 "list" "bool" = false := by decide +kernel
theorem ty_list_str : isiT1 "list" "str" = false := by decide +kernel
theorem ty_list_list : isiT1 "list" "list" = true := by decide +kernel
theorem ty_list_tuple : isiT1 "list" "tuple" = false := by decide +kernel
theorem ty_list_dict : isiT1 "list" "dict" = false := by decide +kernel
theorem ty_dict_int : isiT1 "dict" "int" = false := by decide +kernel
theorem ty_dict_bool : isiT1 "dict" "bool" = false := by decide +kernel
theorem ty_dict_str : isiT1 "dict" "str" = false := by decide +kernel
theorem ty_dict_list : isiT1 "dict" "list" = false := by decide +kernel
theorem ty_dict_tuple : isiT1 "dict" "tuple" = false := by decide +kernel
theorem ty_dict_dict : isiT1 "dict" "dict" = true := by decide +kernel
theorem at_0 {α : Type} {a : α} {l : List α} : atI (a :: l) 0 = some a := by
  unfold atI
  have : ixN (a :: l).length 0 = some 0 := by
    unfold ixN
    simp
  rw [this]
  rfl
theorem atI_some {α : Type} {l : List α} {k : Int} {j : Nat} (e : k = j) {a : α} (h : l[j]? = some a) : atI l k = some a := by
  have hj := (List.getElem?_eq_some_iff.mp h).1
  unfold atI
  have : ixN l.length k = some j := by
    unfold ixN
    subst e
    simp
    omega
  rw [this]
  exact h
theorem at_1 {α : Type} {a b : α} {l : List α} : atI (a :: b :: l) 1 = some b := atI_some (j := 1) rfl rfl
theorem at_2 {α : Type} {a b c : α} {l : List α} : atI (a :: b :: c :: l) 2 = some c := atI_some (j := 2) rfl rfl
theorem at_3 {α : Type} {a b c d : α} {l : List α} : atI (a :: b :: c :: d :: l) 3 = some d := atI_some (j := 3) rfl rfl
theorem at_4 {α : Type} {a b c d e : α} {l : List α} : atI (a :: b :: c :: d :: e :: l) 4 = some e := atI_some (j := 4) rfl rfl
theorem call_gx {D : Tbl} {n : Nat} {f : String} {ps N : List String} {body : CSs} {as : List T} {h : Hh} {Q : T → Hh → Prop} (e : D.fn f = some ⟨ps, N, body⟩) (l : as.length = ps.length)
    (g : Gx (evSs D (callN D n) body (as.map some ++ List.replicate (N.length - as.length) none) h) (P := ⟨fun p h => Gx (finR p h) (P := ⟨Q⟩)⟩)) : Gx (callN D (n + 1) f as h) (P := ⟨Q⟩) := by
  unfold callN
  rw [e]
  dsimp only
  rw [if_pos l]
  show Go _ _
  rw [Go_fin]
  refine Go.mono g fun p h1 q => ?_
  obtain ⟨f, l⟩ := p
  cases f <;> exact q
end MP

set_option Elab.async false
set_option linter.all false
set_option maxRecDepth 100000
/-! MiniPy, part W: data without objects -/
namespace MP
open PySem L2
abbrev pdat (t : T) : Option PyData := T.dat (fun _ => none) t
abbrev pdats (t : List T) : Option (List PyData) := T.dats (fun _ => none) t
mutual
theorem pdat_any (f : Nat → Option PyData) : ∀ (t : T) (d : PyData), pdat t = some d → T.dat f t = some d
  | .non, d, e => e
  | .bl b, d, e => e
  | .int i, d, e => e
  | .str x, d, e => e
  | .tup xs, d, e => by
    unfold pdat T.dat at e
    cases q : pdats xs with
    | none => rw [show T.dats (fun _ => none) xs = none from q] at e; cases e
    | some ds =>
      rw [show T.dats (fun _ => none) xs = some ds from q] at e
      unfold T.dat
      rw [pdats_any f xs ds q]
      exact e
  | .fz xs, d, e => by
    unfold pdat T.dat at e
    cases q : pdats xs with
    | none => rw [show T.dats (fun _ => none) xs = none from q] at e; cases e
    | some ds =>
      rw [show T.dats (fun _ => none) xs = some ds from q] at e
      unfold T.dat
      rw [pdats_any f xs ds q]
      exact e
  | .ref n, d, e => by cases e
  | .fn n, d, e => by cases e
theorem pdats_any (f : Nat → Option PyData) : ∀ (t : List T) (d : List PyData), pdats t = some d → T.dats f t = some d
  | [], d, e => e
  | x :: xs, d, e => by
    unfold pdats T.dats at e
    cases q : pdat x with
    | none => rw [show T.dat (fun _ => none) x = none from q] at e; cases e
    | some dx =>
      rw [show T.dat (fun _ => none) x = some dx from q] at e
      cases q2 : pdats xs with
      | none => rw [show T.dats (fun _ => none) xs = none from q2] at e; cases e
      | some ds =>
        rw [show T.dats (fun _ => none) xs = some ds from q2] at e
        unfold T.dats
        rw [pdat_any f x dx q, pdats_any f xs ds q2]
        exact e
end
section
variable {h : Hh}
theorem dat_p {t : T} {d : PyData} (e : pdat t = some d) : dat h t = some d := pdat_any _ t d e
theorem dats_p {t : List T} {d : List PyData} (e : pdats t = some d) : dats h t = some d := pdats_any _ t d e
theorem dat_l {r : Nat} {xs : List T} {ds : List PyData} (e : h[r]? = some (.lst xs)) (p : pdats xs = some ds) : dat h (.ref r) = some (.list ds) := by
  show refD (11 + 1) h r = _
  unfold refD
  rw [e]
  dsimp only
  rw [pdats_any _ xs ds p]
  rfl
theorem pdats_map {α : Type} (enc : α → T) (key : α → PyData) : ∀ (L : List α), (∀ a ∈ L, pdat (enc a) = some (key a)) → pdats (L.map enc) = some (L.map key)
  | [], _ => rfl
  | a :: L, hp => by
    show T.dats _ (enc a :: L.map enc) = _
    unfold T.dats
    rw [show T.dat (fun _ => none) (enc a) = some (key a) from hp a List.mem_cons_self, show T.dats (fun _ => none) (L.map enc) = some (L.map key) from pdats_map enc key L fun b hb => hp b (List.mem_cons_of_mem _ hb)]
    rfl
theorem pdat_tup {xs : List T} {ds : List PyData} (e : pdats xs = some ds) : pdat (.tup xs) = some (.tuple ds) := by
  show T.dat _ _ = _
  unfold T.dat
  rw [show T.dats (fun _ => none) xs = some ds from e]
  rfl
theorem pdats_ints (L : List Int) : pdats (L.map T.int) = some (L.map PyData.int) := pdats_map T.int PyData.int L fun _ _ => rfl
theorem eqT_of {x y : T} {d e : PyData} (h1 : dat h x = some d) (h2 : dat h y = some e) (s1 : SeqAt.shaped d = true) (s2 : SeqAt.shaped e = true) : eqT h x y = some (PyData.eqv d e) := by
  unfold eqT
  rw [h1, h2]
  dsimp only
  rw [s1, s2]
  rfl
theorem inT_of {x : T} {ys : List T} {d : PyData} {ds : List PyData} (h1 : dat h x = some d) (h2 : dats h ys = some ds) (s1 : SeqAt.shaped d = true) (s2 : SeqAt.shaped (.list ds) = true) : inT h x ys = some (ds.any fun z => PyData.eqv z d) := by
  unfold inT
  rw [h1, h2]
  dsimp only
  rw [s1, s2]
  rfl
theorem canLay_map {α : Type} (key : α → PyData) : ∀ (L : List α), (∀ a ∈ L, (key a).canLay0 = true) → PyData.canLayAll0 (L.map key) = true
  | [], _ => rfl
  | a :: L, hp => by
    show ((key a).canLay0 && PyData.canLayAll0 (L.map key)) = true
    rw [hp a List.mem_cons_self, canLay_map key L fun b hb => hp b (List.mem_cons_of_mem _ hb)]
    rfl
theorem depth_map {α : Type} (key : α → PyData) (n : Nat) : ∀ (L : List α), (∀ a ∈ L, (key a).depth ≤ n) → PyData.depthAll (L.map key) ≤ n
  | [], _ => Nat.zero_le _
  | a :: L, hp => by
    show max (key a).depth (PyData.depthAll (L.map key)) ≤ n
    have h1 := hp a List.mem_cons_self
    have h2 := depth_map key n L fun b hb => hp b (List.mem_cons_of_mem _ hb)
    omega
theorem shaped_of {d : PyData} (h1 : d.canLay0 = true) (h2 : d.depth ≤ 64) : SeqAt.shaped d = true := by
  unfold SeqAt.shaped
  rw [h1, decide_eq_true h2]
  rfl
theorem shaped_l {α : Type} (key : α → PyData) (L : List α) (h1 : ∀ a ∈ L, (key a).canLay0 = true) (h2 : ∀ a ∈ L, (key a).depth ≤ 63) : SeqAt.shaped (.list (L.map key)) = true :=
  shaped_of (canLay_map key L h1) (by
    show PyData.depthAll _ + 1 ≤ 64
    have := depth_map key 63 L h2
    omega)
theorem shaped_t {α : Type} (key : α → PyData) (L : List α) (h1 : ∀ a ∈ L, (key a).canLay0 = true) (h2 : ∀ a ∈ L, (key a).depth ≤ 63) : SeqAt.shaped (.tuple (L.map key)) = true :=
  shaped_of (canLay_map key L h1) (by
    show PyData.depthAll _ + 1 ≤ 64
    have := depth_map key 63 L h2
    omega)
theorem shaped_ints (L : List Int) : SeqAt.shaped (.list (L.map PyData.int)) = true := shaped_l PyData.int L (fun _ _ => rfl) (fun _ _ => Nat.zero_le _)
theorem eqv_ints : ∀ L M : List Int, PyData.eqvAll (L.map PyData.int) (M.map PyData.int) = decide (L = M)
  | [], [] => rfl
  | [], _ :: _ => rfl
  | _ :: _, [] => rfl
  | a :: L, b :: M => by
    show ((a == b) && PyData.eqvAll (L.map PyData.int) (M.map PyData.int)) = _
    rw [eqv_ints L M]
    by_cases e : a = b
    · subst e
      simp
    · have : (a == b) = false := beq_eq_false_iff_ne.mpr e
      rw [this]
      simp [e]
theorem any_ints (x : Int) : ∀ L : List Int, ((L.map PyData.int).any fun z => PyData.eqv z (.int x)) = decide (x ∈ L)
  | [] => by simp
  | a :: L => by
    rw [List.map_cons, List.any_cons, any_ints x L]
    show ((a == x) || _) = _
    by_cases e : a = x
    · subst e
      simp
    · have : (a == x) = false := beq_eq_false_iff_ne.mpr e
      rw [this]
      have e' : ¬ x = a := fun z => e z.symm
      simp [e']
/-- a list of ints against the empty one -/
theorem eqT_empty {α : Type} {r k : Nat} {enc : α → T} {key : α → PyData} {L : List α} (e1 : h[r]? = some (.lst (L.map enc))) (e2 : h[k]? = some (.lst [])) (hp : ∀ a ∈ L, pdat (enc a) = some (key a)) (h1 : ∀ a ∈ L, (key a).canLay0 = true) (h2 : ∀ a ∈ L, (key a).depth ≤ 63) :
    eqT h (.ref r) (.ref k) = some L.isEmpty := by
  rw [eqT_of (dat_l e1 (pdats_map enc key L hp)) (dat_l e2 rfl) (shaped_l key L h1 h2) rfl]
  cases L <;> rfl
theorem eqT_ints0 {r k : Nat} {L : List Int} (e1 : h[r]? = some (.lst (L.map T.int))) (e2 : h[k]? = some (.lst [])) : eqT h (.ref r) (.ref k) = some L.isEmpty := eqT_empty e1 e2 (fun _ _ => rfl) (fun _ _ => rfl) (fun _ _ => Nat.zero_le _)
theorem inO_ints {r : Nat} {L : List Int} {x : Int} (e : h[r]? = some (.lst (L.map T.int))) : inO (.int x) (.ref r) h = some (decide (x ∈ L)) := by
  unfold inO
  dsimp only
  rw [e]
  dsimp only
  rw [inT_of (dat_p (d := .int x) rfl) (dats_p (pdats_ints L)) rfl (shaped_ints L), any_ints]
theorem inO_intt {L : List Int} {x : Int} : inO (.int x) (.tup (L.map T.int)) h = some (decide (x ∈ L)) := by
  unfold inO
  dsimp only
  have : ((T.int x).flat && (L.map T.int).all T.flat) = true := by
    simp [T.flat]
  rw [if_pos this, inT_of (dat_p (d := .int x) rfl) (dats_p (pdats_ints L)) rfl (shaped_ints L), any_ints]
theorem intsT_map : ∀ L : List Int, intsT (L.map T.int) = some L
  | [] => rfl
  | a :: L => by
    show (intsT (L.map T.int)).map (a :: ·) = _
    rw [intsT_map L]
    rfl
theorem boolsT_map : ∀ L : List Bool, boolsT (L.map T.bl) = some L
  | [] => rfl
  | a :: L => by
    show (boolsT (L.map T.bl)).map (a :: ·) = _
    rw [boolsT_map L]
    rfl
/-! ### sorting -/
theorem dataLe_trans {β : Type} (k : β → PyData) (a b c : β) (h1 : W.dataLe false k a b = true) (h2 : W.dataLe false k b c = true) : W.dataLe false k a c = true :=
  (PySem.W.sortLe_total _ _ _).trans a b c h1 h2
theorem dataLe_tot {β : Type} (k : β → PyData) (a b : β) : (W.dataLe false k a b || W.dataLe false k b a) = true := by
  rw [Bool.or_eq_true]
  exact (PySem.W.sortLe_total _ _ _).total a b
theorem zip_maps {α β γ : Type} (f : α → β) (g : α → γ) : ∀ L : List α, (L.map f).zip (L.map g) = L.map fun a => (f a, g a)
  | [] => rfl
  | a :: L => by
    rw [List.map_cons, List.map_cons, List.zip_cons_cons, zip_maps f g L]
    rfl
/-- sorted, by the key -/
def srt {α : Type} (key : α → PyData) (L : List α) : List α := L.mergeSort (W.dataLe false key)
theorem sortT_map {α : Type} {enc : α → T} {key : α → PyData} {L : List α} (hp : ∀ a ∈ L, pdat (enc a) = some (key a)) (hs : sortable (L.map key) = true) (hl : L.length ≤ 16777216) : sortT h (L.map enc) = some ((srt key L).map enc) := by
  unfold sortT
  rw [dats_p (pdats_map enc key L hp)]
  dsimp only
  rw [if_pos ⟨hs, by rw [List.length_map]; exact hl⟩, zip_maps]
  unfold sortP srt
  rw [← List.map_mergeSort (r := W.dataLe false key) (s := W.dataLe false fun p : T × PyData => p.2) (f := fun a => (enc a, key a)) (fun a _ b _ => rfl), List.map_map]
  rfl
theorem srt_perm {α : Type} (key : α → PyData) (L : List α) : (srt key L).Perm L := List.mergeSort_perm _ _
theorem srt_pw {α : Type} (key : α → PyData) (L : List α) : (srt key L).Pairwise fun a b => W.dataLe false key a b = true :=
  List.pairwise_mergeSort (fun a b c => dataLe_trans key a b c) (fun a b => dataLe_tot key a b) L
theorem srt_srt {α : Type} (key : α → PyData) (L : List α) : srt key (srt key L) = srt key L := List.mergeSort_of_pairwise (srt_pw key L)
theorem srt_len {α : Type} (key : α → PyData) (L : List α) : (srt key L).length = L.length := (srt_perm key L).length_eq
theorem srt_mem {α : Type} (key : α → PyData) {L : List α} {a : α} : a ∈ srt key L ↔ a ∈ L := (srt_perm key L).mem_iff
theorem sortable_of {ds : List PyData} (h1 : ∀ d ∈ ds, ∀ e ∈ ds, W.alike d e = true) (h2 : (∀ d ∈ ds, (match d with | .tuple (_ :: _) => true | _ => false) = true) ∨ ∀ d ∈ ds, (match d with | .none => false | .tuple _ => false | _ => true) = true) (h3 : ∀ d ∈ ds, d.depth ≤ 60) : sortable ds = true := by
  unfold sortable
  simp only [Bool.and_eq_true, Bool.or_eq_true, List.all_eq_true, decide_eq_true_eq]
  exact ⟨⟨h1, h2⟩, h3⟩
theorem sortable_ints (L : List Int) : sortable (L.map PyData.int) = true := by
  refine sortable_of (fun d hd e he => ?_) (.inr fun d hd => ?_) (fun d hd => ?_)
  · obtain ⟨i, _, rfl⟩ := List.mem_map.mp hd
    obtain ⟨j, _, rfl⟩ := List.mem_map.mp he
    simp [W.alike]
  · obtain ⟨i, _, rfl⟩ := List.mem_map.mp hd
    rfl
  · obtain ⟨i, _, rfl⟩ := List.mem_map.mp hd
    exact Nat.zero_le _
theorem srt_ints_le (L : List Int) : (srt PyData.int L).Pairwise (· ≤ ·) := by
  refine (srt_pw PyData.int L).imp fun {a b} e => ?_
  have z := W.dataLe_int (fun i : Int => i)
  rw [show W.dataLe false PyData.int = _ from z] at e
  exact of_decide_eq_true e
theorem sortT_ints {L : List Int} (hl : L.length ≤ 16777216) : sortT h (L.map T.int) = some ((srt PyData.int L).map T.int) := sortT_map (fun _ _ => rfl) (sortable_ints L) hl
end
end MP
namespace MP
open PySem L2
theorem eqT_int {h : Hh} {i j : Int} : eqT h (.int i) (.int j) = some (decide (i = j)) := by
  rw [eqT_of (d := .int i) (e := .int j) rfl rfl rfl rfl]
  rfl
theorem nat_2 : ((2 : Nat) : Int) = 2 := rfl
theorem nat_3 : ((3 : Nat) : Int) = 3 := rfl
theorem nat_0 : ((0 : Nat) : Int) = 0 := rfl
theorem nat_1 : ((1 : Nat) : Int) = 1 := rfl
theorem nat_4 : ((4 : Nat) : Int) = 4 := rfl
theorem nat_5 : ((5 : Nat) : Int) = 5 := rfl
theorem nat_6 : ((6 : Nat) : Int) = 6 := rfl
end MP

set_option Elab.async false
set_option linter.all false
set_option maxRecDepth 100000
/-! MiniPy, part X: loops, comprehensions -/
namespace MP
open PySem L2
section
variable {D : Tbl} {C : String → List T → Hh → R T} {ls : Ls} {h : Hh} {Q : T → Hh → Prop}
theorem take_succ {α : Type} {xs : List α} {i : Nat} {x : α} (e : xs[i]? = some x) : xs.take (i + 1) = xs.take i ++ [x] := by
  rw [List.take_add_one, e]
  rfl
/-- behind a loop's body -/
def LoopK (J : Ls → Hh → Prop) (Q : Fl × Ls → Hh → Prop) : Fl × Ls → Hh → Prop := fun p h => match p.1 with
  | .nx => J p.2 h
  | .ct => J p.2 h
  | .bk => Q (.nx, p.2) h
  | .rt t => Q (.rt t, p.2) h
section
variable {J : Ls → Hh → Prop} {Q : Fl × Ls → Hh → Prop} {l : Ls} {t : T}
theorem x_loopN : LoopK J Q (.nx, l) h = J l h := propext ⟨fun q => q, fun q => q⟩
theorem x_loopC : LoopK J Q (.ct, l) h = J l h := propext ⟨fun q => q, fun q => q⟩
theorem x_loopB : LoopK J Q (.bk, l) h = Q (.nx, l) h := propext ⟨fun q => q, fun q => q⟩
theorem x_loopR : LoopK J Q (.rt t, l) h = Q (.rt t, l) h := propext ⟨fun q => q, fun q => q⟩
theorem gx_for {t : Tg} {body : CSs} {xs : List T} {w : Wt} (J : Nat → Ls → Hh → Prop) (h0 : J 0 ls h) (hw : ∀ i l h, J i l h → ∀ p ∈ w, lsT h p.1 = some p.2)
    (hs : ∀ i x l h, xs[i]? = some x → J i l h → Gx (evG D C t x l h) (P := ⟨fun l1 h1 => Gx (evSs D C body l1 h1) (P := ⟨LoopK (J (i + 1)) Q⟩)⟩)) (hd : ∀ l h, J xs.length l h → Q (.nx, l) h) : Gx (forR D C t body ls (xs, w) h) (P := ⟨Q⟩) := by
  refine for_go J h0 hw (fun i x l h hi hj => ?_) hd
  refine Go.mono (hs i x l h hi hj) fun l1 h1 g => Go.mono g fun p h2 q => ?_
  obtain ⟨f, l⟩ := p
  cases f <;> exact q
def WhlK (J : Nat → Ls → Hh → Prop) (m : Nat) : Ls → Hh → Prop := fun l h => ∃ k, k < m ∧ J k l h
theorem gx_whl {c : CE} {body : CSs} (J : Nat → Ls → Hh → Prop) (m : Nat) (h0 : J m ls h) (hs : ∀ m l h, J m l h → Gx (evE D C c l h) (P := ⟨fun b h1 => Gx (cndR b (.ok true h1) (.ok false h1)) (P := ⟨fun b h1 => IfX b (P := ⟨Gx (evSs D C body l h1) (P := ⟨LoopK (WhlK J m) Q⟩), Q (.nx, l) h1⟩)⟩)⟩)) :
    Gx (whlR D C c body ls h) (P := ⟨Q⟩) := by
  refine while_go J (fun m l h hj => ?_) h0
  refine Go.mono (hs m l h hj) fun b h1 g => ?_
  match b, g with
  | .bl true, g =>
    refine .inr ⟨rfl, Go.mono (g.1 rfl) fun p h2 q => ?_⟩
    obtain ⟨f, l⟩ := p
    cases f <;> exact q
  | .bl false, g => exact .inl ⟨rfl, g.2 rfl⟩
  | .non, g => exact g.elim
  | .int _, g => exact g.elim
  | .str _, g => exact g.elim
  | .tup _, g => exact g.elim
  | .fz _, g => exact g.elim
  | .ref _, g => exact g.elim
  | .fn _, g => exact g.elim
end
theorem gx_comp {own : List Nat} {tg : Tg} {c : CO} {elt : CE} {xs : List T} {w : Wt} (J : Nat → List T → Hh → Prop) (h0 : J 0 [] h) (hw : ∀ i a h, J i a h → ∀ p ∈ w, lsT h p.1 = some p.2)
    (hs : ∀ i x a h, xs[i]? = some x → J i a h → Gx (evG D C tg x (wipeL ls own) h) (P := ⟨fun l1 h1 => Gx (evC D C c l1 h1) (P := ⟨fun b h2 => Gx (cndR b (.ok true h2) (.ok false h2)) (P := ⟨fun b h2 => IfX b (P := ⟨a.length < 16777216 ∧ Gx (evE D C elt l1 h2) (P := ⟨fun y h3 => J (i + 1) (a ++ [y]) h3⟩), J (i + 1) a h2⟩)⟩)⟩)⟩))
    (hd : ∀ a h, J xs.length a h → Q (.ref h.length) (h ++ [.lst a])) : Gx (compR D C own tg c elt ls (xs, w) h) (P := ⟨Q⟩) := by
  refine comp_go J h0 hw (fun i x a h hi hj => ?_) hd
  refine Go.mono (hs i x a h hi hj) fun l1 h1 g => Go.mono g fun b h2 g => ?_
  match b, g with
  | .bl true, g => exact .inr ⟨rfl, (g.1 rfl).1, (g.1 rfl).2⟩
  | .bl false, g => exact .inl ⟨rfl, g.2 rfl⟩
  | .non, g => exact g.elim
  | .int _, g => exact g.elim
  | .str _, g => exact g.elim
  | .tup _, g => exact g.elim
  | .fz _, g => exact g.elim
  | .ref _, g => exact g.elim
  | .fn _, g => exact g.elim
theorem comp_map {own : List Nat} {tg : Tg} {elt : CE} {xs : List T} {w : Wt} (f : T → T) (J : Hh → Prop) (h0 : J h) (hl : xs.length ≤ 16777216) (hw : ∀ h, J h → ∀ p ∈ w, lsT h p.1 = some p.2)
    (hs : ∀ x h, x ∈ xs → J h → Gx (evG D C tg x (wipeL ls own) h) (P := ⟨fun l1 h1 => Gx (evE D C elt l1 h1) (P := ⟨fun y h3 => y = f x ∧ J h3⟩)⟩)) (hd : ∀ h, J h → Q (.ref h.length) (h ++ [.lst (xs.map f)])) : Gx (compR D C own tg .no elt ls (xs, w) h) (P := ⟨Q⟩) := by
  refine gx_comp (fun i a h => a = (xs.take i).map f ∧ J h) ⟨rfl, h0⟩ (fun i a h hj => hw h hj.2) (fun i x a h hi hj => ?_) (fun a h hj => ?_)
  · refine gx_mono (hs x h (List.mem_of_getElem? hi) hj.2) fun l1 h1 g => ?_
    rw [x_cno, x_cnd, ifx_t, gx_ok, ifx_t]
    refine ⟨?_, gx_mono g fun y h3 q => ⟨?_, q.2⟩⟩
    · have := (List.getElem?_eq_some_iff.mp hi).1
      rw [hj.1, List.length_map, List.length_take]
      omega
    · rw [take_succ hi, List.map_append, hj.1, q.1]
      rfl
  · rw [hj.1, List.take_of_length_le (Nat.le_refl _)]
    exact hd h hj.2
theorem comp_filter {own : List Nat} {tg : Tg} {c elt : CE} {xs : List T} {w : Wt} (f : T → T) (p : T → Bool) (J : Hh → Prop) (h0 : J h) (hl : xs.length ≤ 16777216) (hw : ∀ h, J h → ∀ p ∈ w, lsT h p.1 = some p.2)
    (hs : ∀ x h, x ∈ xs → J h → Gx (evG D C tg x (wipeL ls own) h) (P := ⟨fun l1 h1 => Gx (evE D C c l1 h1) (P := ⟨fun b h2 => b = .bl (p x) ∧ J h2 ∧ (p x = true → Gx (evE D C elt l1 h2) (P := ⟨fun y h3 => y = f x ∧ J h3⟩))⟩)⟩))
    (hd : ∀ h, J h → Q (.ref h.length) (h ++ [.lst ((xs.filter p).map f)])) : Gx (compR D C own tg (.so c) elt ls (xs, w) h) (P := ⟨Q⟩) := by
  refine gx_comp (fun i a h => a = ((xs.take i).filter p).map f ∧ J h) ⟨rfl, h0⟩ (fun i a h hj => hw h hj.2) (fun i x a h hi hj => ?_) (fun a h hj => ?_)
  · refine gx_mono (hs x h (List.mem_of_getElem? hi) hj.2) fun l1 h1 g => ?_
    rw [x_cso]
    refine gx_mono g fun b h2 q => ?_
    obtain ⟨rfl, j2, g2⟩ := q
    have hlen : a.length < 16777216 := by
      have := (List.getElem?_eq_some_iff.mp hi).1
      have h1 := List.length_filter_le p (xs.take i)
      have : (xs.take i).length = i := by rw [List.length_take]; omega
      rw [hj.1, List.length_map]
      omega
    rw [x_cnd]
    cases z : p x with
    | true =>
      rw [ifx_t, gx_ok, ifx_t]
      refine ⟨hlen, gx_mono (g2 z) fun y h3 q => ⟨?_, q.2⟩⟩
      rw [take_succ hi, List.filter_append, List.map_append, hj.1, q.1]
      simp [z]
    | false =>
      rw [ifx_f, gx_ok, ifx_f]
      refine ⟨?_, j2⟩
      rw [take_succ hi, List.filter_append, List.map_append, hj.1]
      simp [z]
  · rw [hj.1, List.take_of_length_le (Nat.le_refl _)]
    exact hd h hj.2
end
theorem at_end {h : Hh} {o : O} : (h ++ [o])[h.length]? = some o := by simp
theorem at_old {h : Hh} {o u : O} {r : Nat} (e : h[r]? = some u) : (h ++ [o])[r]? = some u := by
  rw [List.getElem?_append_left (List.getElem?_eq_some_iff.mp e).1]
  exact e
theorem at_set {h : Hh} {o u : O} {r : Nat} (e : h[r]? = some u) : (h.set r o)[r]? = some o := List.getElem?_set_self (List.getElem?_eq_some_iff.mp e).1
theorem at_setn {h : Hh} {o u : O} {r k : Nat} (e : h[r]? = some u) (ne : k ≠ r) : (h.set k o)[r]? = some u := by
  rw [List.getElem?_set_ne ne]
  exact e
theorem lt_of_at {h : Hh} {u : O} {r : Nat} (e : h[r]? = some u) : r < h.length := (List.getElem?_eq_some_iff.mp e).1
theorem bools_t {α : Type} (L : List α) : boolsT (L.map fun _ => T.bl true) = some (L.map fun _ => true) := by
  have z := boolsT_map (L.map fun _ => true)
  rw [List.map_map] at z
  exact z
theorem all_t {α : Type} (L : List α) : (L.map fun _ => true).all id = true := by simp
end MP
namespace MP
open PySem L2
theorem at_end1 {h : Hh} {a b : O} : (h ++ [a] ++ [b])[h.length]? = some a := at_old at_end
theorem at_end2 {h : Hh} {a b c : O} : (h ++ [a] ++ [b] ++ [c])[h.length]? = some a := at_old at_end1
theorem at_end3 {h : Hh} {a b c d : O} : (h ++ [a] ++ [b] ++ [c] ++ [d])[h.length]? = some a := at_old at_end2
mutual
theorem eqv_refl : ∀ d : PyData, d.canLay0 = true → PyData.eqv d d = true
  | .none, _ => rfl
  | .bool b, _ => beq_self_eq_true b
  | .int i, _ => beq_self_eq_true i
  | .str x, _ => beq_self_eq_true x
  | .list xs, h => eqvAll_refl xs h
  | .tuple xs, h => eqvAll_refl xs h
  | .dict _, h => by cases h
theorem eqvAll_refl : ∀ d : List PyData, PyData.canLayAll0 d = true → PyData.eqvAll d d = true
  | [], _ => rfl
  | x :: xs, h => by
    obtain ⟨h1, h2⟩ := Bool.and_eq_true_iff.mp (show (x.canLay0 && PyData.canLayAll0 xs) = true from h)
    show (PyData.eqv x x && PyData.eqvAll xs xs) = true
    rw [eqv_refl x h1, eqvAll_refl xs h2]
    rfl
end
theorem eqT_same {h : Hh} {x y : T} {d : PyData} (h1 : dat h x = some d) (h2 : dat h y = some d) (s : SeqAt.shaped d = true) : eqT h x y = some true := by
  rw [eqT_of h1 h2 s s, eqv_refl d (SeqAt.canLay_of_shaped s)]
end MP
namespace MP
theorem insU_len (k : Int) : ∀ l : List Int, (insU k l).length ≤ l.length + 1
  | [] => Nat.le_refl _
  | j :: r => by
    unfold insU
    split
    · simp
    · split
      · simp
      · have := insU_len k r
        simp only [List.length_cons]
        omega
theorem sdd_len : ∀ l : List Int, (sdd l).length ≤ l.length
  | [] => Nat.le_refl _
  | j :: r => by
    have h1 := insU_len j (sdd r)
    have h2 := sdd_len r
    show (insU j (sdd r)).length ≤ r.length + 1
    omega
end MP

set_option Elab.async false
set_option linter.all false
set_option maxRecDepth 100000
/-! MiniPy, part Y: the laws' deck of drawn figures -/
namespace MP
open PySem L2
theorem cmulL {i j : Int} (h : -18446744073709551616 < i ∧ i < 18446744073709551616) : CMulB i j = true := by
  unfold CMulB
  simp
  omega
theorem cmulR {i j : Int} (h : -18446744073709551616 < j ∧ j < 18446744073709551616) : CMulB i j = true := by
  unfold CMulB
  simp
  omega
theorem cdiv_ok {i j : Int} (h : 0 < j ∧ j < 1073741824) : CDivB i j = true := by
  unfold CDivB
  simp
  omega
theorem cpow_ok {i j : Int} (h : (0 ≤ j ∧ j ≤ 1000000) ∧ i.natAbs < 2 ^ 64) : CPowB i j = true := by
  unfold CPowB
  simp
  omega
theorem rgOk_of {i j : Int} (h : (0 ≤ i + 1000000 ∧ i < 1000000) ∧ 0 ≤ j + 1000000 ∧ j < 1000000) : rgOk i j = true := by
  unfold rgOk
  simp
  omega
theorem cutT_map {α β : Type} (f : α → β) (L : List α) (lo hi : Option Int) : cutT (L.map f) lo hi = (cutT L lo hi).map f := by
  unfold cutT
  simp [List.map_take, List.map_drop]
theorem cutT_len {α : Type} (L : List α) (lo hi : Option Int) : (cutT L lo hi).length ≤ L.length := by
  unfold cutT
  simp
  omega
/-- the deck's dict -/
def dk (c : Nat) (m t : Int) : List (KT × T) := [(.ks (Str.ofString "cells"), .ref c), (.ks (Str.ofString "mixed"), .int m), (.ks (Str.ofString "turn"), .int t)]
section
variable {c : Nat} {m t u : Int}
theorem dk_c : ((T.str (Str.ofString "cells")).kt.bind fun k => lookK (dk c m t) k) = some (.ref c) := Eq.trans rfl rfl
theorem dk_m : ((T.str (Str.ofString "mixed")).kt.bind fun k => lookK (dk c m t) k) = some (.int m) := Eq.trans rfl rfl
theorem dk_t : ((T.str (Str.ofString "turn")).kt.bind fun k => lookK (dk c m t) k) = some (.int t) := Eq.trans rfl rfl
theorem dk_put : putKT (dk c m t) (.ks (Str.ofString "turn")) (.int u) = dk c m u := Eq.trans rfl rfl
theorem dk_len : (dk c m t).length = 3 := Eq.trans rfl rfl
theorem dk_new : ((keysT [.str (Str.ofString "cells"), .str (Str.ofString "mixed"), .str (Str.ofString "turn")]).bind fun ks => mergeKT [] ks [.ref c, .int m, .int t]) = some (dk c m t) := Eq.trans rfl rfl
end
structure Deck (h : Hh) (r c : Nat) : Prop where
  ex : ∃ (L : List Int) (m t : Int), h[r]? = some (.dK (dk c m t)) ∧ h[c]? = some (.lst (L.map T.int)) ∧ L.length ≤ 63
  ne : r ≠ c
theorem Deck.keep {h h' : Hh} {r c : Nat} (d : Deck h r c) (k : Keep [] h h') : Deck h' r c := by
  obtain ⟨L, m, t, h1, h2, h3⟩ := d.ex
  exact ⟨⟨L, m, t, k.at_ r _ (by simp) h1, k.at_ c _ (by simp) h2, h3⟩, d.ne⟩
theorem Deck.r_lt {h : Hh} {r c : Nat} (d : Deck h r c) : r < h.length := by
  obtain ⟨L, m, t, h1, h2, _⟩ := d.ex
  exact lt_of_at h1
theorem Deck.c_lt {h : Hh} {r c : Nat} (d : Deck h r c) : c < h.length := by
  obtain ⟨L, m, t, h1, h2, _⟩ := d.ex
  exact lt_of_at h2
/-- fresh objects are none of the deck's -/
theorem Deck.not_in {h : Hh} {r c k : Nat} (d : Deck h r c) (hk : h.length ≤ k) : k ∉ [r, c] := by
  have := d.r_lt
  have := d.c_lt
  simp
  omega
theorem Keep.fr {h h1 : Hh} {S : List Nat} {n : Nat} {o : O} (a : Keep S h h1) (hn : n ∈ S) : Keep S h (h1.set n o) := a.trans (.set hn)
theorem Keep.lstS {S : List Nat} {h h1 : Hh} {n : Nat} {o : O} (a : Keep S h h1) (hn : n ∉ S) (e : h[n]? = some o) : h1[n]? = some o := a.at_ n _ hn e
end MP

set_option Elab.async false
set_option linter.all false
set_option maxRecDepth 100000
/-! MiniPy: the compact text of the law's defs, as mp.py printed it -/
namespace K59
open PySem MP

def topS (i : Nat) : Stmt := PySem.Challenge.pw_manydeep_k59_kinds_and_where_they_lead.main.body.getD i (.Pass ⟨0, 0, 0, 0⟩)
@[reducible] def y_is_integer : CSs := (.cons (.ret (.and (.cons (.isiT (.var 0) ["int"]) (.cons (.not (.isiT (.var 0) ["bool"])) .nil)))) .nil)
def d_is_integer : FD := { ps := ["thing"], N := ["thing"], body := y_is_integer }
@[reducible] def y_is_between : CSs := (.cons (.ret (.and (.cons (.call "is_integer" (.cons (.var 0) .nil)) (.cons (.chn .le .le (.var 1) (.var 0) (.var 2)) .nil)))) .nil)
def d_is_between : FD := { ps := ["thing", "least", "most"], N := ["thing", "least", "most"], body := y_is_between }
@[reducible] def y_is_tie : CSs := (.cons (.iff (.or (.cons (.not (.isiT (.var 1) ["tuple"])) (.cons (.cmp .ne (.blt .len (.cons (.var 1) .nil)) (.int 3)) (.cons (.not (.call "is_between" (.cons (.idx (.var 1) (.int 2)) (.cons (.int 0) (.cons (.bin .sub (.glob "KINDS") (.int 1)) .nil))))) .nil)))) (.cons (.ret (.bl false)) .nil) .nil) (.cons (.ret (.and (.cons (.call "is_between" (.cons (.idx (.var 1) (.int 0)) (.cons (.int 0) (.cons (.bin .sub (.var 0) (.int 1)) .nil)))) (.cons (.call "is_between" (.cons (.idx (.var 1) (.int 1)) (.cons (.int 0) (.cons (.bin .sub (.var 0) (.int 1)) .nil)))) (.cons (.cmp .ne (.idx (.var 1) (.int 0)) (.idx (.var 1) (.int 1))) .nil))))) .nil))
def d_is_tie : FD := { ps := ["places", "thing"], N := ["places", "thing"], body := y_is_tie }
@[reducible] def y_is_web_value : CSs := (.cons (.iff (.or (.cons (.not (.isiT (.var 0) ["tuple"])) (.cons (.cmp .ne (.blt .len (.cons (.var 0) .nil)) (.int 2)) (.cons (.not (.call "is_integer" (.cons (.idx (.var 0) (.int 0)) .nil))) (.cons (.cmp .lt (.idx (.var 0) (.int 0)) (.int 1)) .nil))))) (.cons (.ret (.bl false)) .nil) .nil) (.cons (.iff (.or (.cons (.not (.isiT (.idx (.var 0) (.int 1)) ["tuple"])) (.cons (.not (.blt .all (.cons (.comp [1] (.var 1) (.val (.idx (.var 0) (.int 1))) .no (.call "is_tie" (.cons (.idx (.var 0) (.int 0)) (.cons (.var 1) .nil)))) .nil))) .nil))) (.cons (.ret (.bl false)) .nil) .nil) (.cons (.ret (.cmp .eq (.blt .list (.cons (.idx (.var 0) (.int 1)) .nil)) (.blt .sorted (.cons (.idx (.var 0) (.int 1)) .nil)))) .nil)))
def d_is_web_value : FD := { ps := ["thing"], N := ["thing", "tie"], body := y_is_web_value }
@[reducible] def y_has_kinds_below : CSs := (.cons (.ret (.blt .all (.cons (.comp [2] (.var 2) (.val (.idx (.var 0) (.int 1))) .no (.cmp .lt (.idx (.var 2) (.int 2)) (.var 1))) .nil))) .nil)
def d_has_kinds_below : FD := { ps := ["web", "many"], N := ["web", "many", "tie"], body := y_has_kinds_below }
@[reducible] def y_is_growth_value : CSs := (.cons (.ret (.and (.cons (.call "is_web_value" (.cons (.var 0) .nil)) (.cons (.cmp .ge (.idx (.var 0) (.int 0)) (.int 2)) .nil)))) .nil)
def d_is_growth_value : FD := { ps := ["thing"], N := ["thing"], body := y_is_growth_value }
@[reducible] def y_is_book_value : CSs := (.cons (.iff (.or (.cons (.not (.isiT (.var 0) ["tuple"])) (.cons (.not (.chn .le .le (.int 1) (.blt .len (.cons (.var 0) .nil)) (.glob "KINDS"))) .nil))) (.cons (.ret (.bl false)) .nil) .nil) (.cons (.ret (.blt .all (.cons (.comp [1] (.var 1) (.val (.var 0)) .no (.and (.cons (.call "is_growth_value" (.cons (.var 1) .nil)) (.cons (.call "has_kinds_below" (.cons (.var 1) (.cons (.blt .len (.cons (.var 0) .nil)) .nil))) .nil)))) .nil))) .nil))
def d_is_book_value : FD := { ps := ["thing"], N := ["thing", "growth"], body := y_is_book_value }
@[reducible] def y_is_garden_value : CSs := (.cons (.iff (.or (.cons (.not (.isiT (.var 0) ["tuple"])) (.cons (.cmp .ne (.blt .len (.cons (.var 0) .nil)) (.int 2)) (.cons (.not (.call "is_web_value" (.cons (.idx (.var 0) (.int 0)) .nil))) (.cons (.not (.call "is_book_value" (.cons (.idx (.var 0) (.int 1)) .nil))) .nil))))) (.cons (.ret (.bl false)) .nil) .nil) (.cons (.ret (.call "has_kinds_below" (.cons (.idx (.var 0) (.int 0)) (.cons (.blt .len (.cons (.idx (.var 0) (.int 1)) .nil)) .nil)))) .nil))
def d_is_garden_value : FD := { ps := ["thing"], N := ["thing"], body := y_is_garden_value }
@[reducible] def y_need_book : CSs := (.cons (.iff (.not (.call "is_book_value" (.cons (.var 0) .nil))) (.cons .never .nil) .nil) .nil)
def d_need_book : FD := { ps := ["book"], N := ["book"], body := y_need_book }
@[reducible] def y_need_garden : CSs := (.cons (.iff (.not (.call "is_garden_value" (.cons (.var 0) .nil))) (.cons .never .nil) .nil) .nil)
def d_need_garden : FD := { ps := ["garden"], N := ["garden"], body := y_need_garden }
@[reducible] def y_kinds_led_to : CSs := (.cons (.set (.tup (.cons (.var 2) (.cons (.var 3) .nil))) (.tup (.cons (.lst .nil) (.cons (.lst (.cons (.var 1) .nil)) .nil)))) (.cons (.whl (.cmp .ne (.var 3) (.lst .nil)) (.cons (.for (.tup (.cons (.var 4) (.cons (.var 5) (.cons (.var 6) .nil)))) (.val (.idx (.idx (.var 0) (.mth .pop (.var 3) .nil)) (.int 1))) (.cons (.iff (.cmp .nin (.var 6) (.var 2)) (.cons (.expr (.mth .append (.var 2) (.cons (.var 6) .nil))) (.cons (.expr (.mth .append (.var 3) (.cons (.var 6) .nil))) .nil)) .nil) .nil)) .nil)) (.cons (.ret (.blt .sorted (.cons (.var 2) .nil))) .nil)))
def d_kinds_led_to : FD := { ps := ["book", "kind"], N := ["book", "kind", "found", "waiting", "tail", "head", "other"], body := y_kinds_led_to }
@[reducible] def y_leads : CSs := (.cons (.expr (.call "need_book" (.cons (.var 0) .nil))) (.cons (.for (.var 3) (.val (.tup (.cons (.var 1) (.cons (.var 2) .nil)))) (.cons (.iff (.not (.call "is_between" (.cons (.var 3) (.cons (.int 0) (.cons (.bin .sub (.blt .len (.cons (.var 0) .nil)) (.int 1)) .nil))))) (.cons .never .nil) .nil) .nil)) (.cons (.ret (.cmp .inn (.var 2) (.call "kinds_led_to" (.cons (.var 0) (.cons (.var 1) .nil))))) .nil)))
def d_leads : FD := { ps := ["book", "c", "d"], N := ["book", "c", "d", "kind"], body := y_leads }
@[reducible] def y_kinds_of : CSs := (.cons (.expr (.call "need_garden" (.cons (.var 0) .nil))) (.cons (.set (.tup (.cons (.var 2) (.cons (.var 3) .nil))) (.var 0)) (.cons (.set (.var 1) (.lst .nil)) (.cons (.for (.tup (.cons (.var 4) (.cons (.var 5) (.cons (.var 6) .nil)))) (.val (.idx (.var 2) (.int 1))) (.cons (.expr (.mth .extend (.var 1) (.cons (.bin .add (.lst (.cons (.var 6) .nil)) (.call "kinds_led_to" (.cons (.var 3) (.cons (.var 6) .nil)))) .nil))) .nil)) (.cons (.ret (.blt .tuple (.cons (.sset (.var 1)) .nil))) .nil)))))
def d_kinds_of : FD := { ps := ["garden"], N := ["garden", "found", "start", "book", "tail", "head", "kind"], body := y_kinds_of }
@[reducible] def y__law_deck : CSs := (.cons (.set (.var 1) (.int 10893591)) (.cons (.for (.var 2) (.val (.slc (.var 0) .no (.so (.int 63)))) (.cons (.set (.var 1) (.bin .mod (.blt .int (.cons (.bin .add (.bin .add (.bin .mul (.var 1) (.int 40014)) (.bin .mod (.blt .int (.cons (.var 2) .nil)) (.int 2147483077))) (.int 59)) .nil)) (.int 2147483579))) .nil)) (.cons (.ret (.dic (.cons (.str "cells") (.rev (.comp [2] (.var 2) (.val (.slc (.var 0) .no (.so (.int 63)))) .no (.blt .int (.cons (.var 2) .nil)))) (.cons (.str "mixed") (.var 1) (.cons (.str "turn") (.int 0) .nil))))) .nil)))
def d__law_deck : FD := { ps := ["_law_script"], N := ["_law_script", "_law_mixed", "_law_cell"], body := y__law_deck }
@[reducible] def y__law_draw : CSs := (.cons (.set (.sub (.var 0) (.str "turn")) (.bin .add (.idx (.var 0) (.str "turn")) (.int 1))) (.cons (.set (.var 2) (.bin .add (.idx (.var 0) (.str "mixed")) (.bin .mul (.int 54287) (.idx (.var 0) (.str "turn"))))) (.cons (.iff (.cmp .ne (.idx (.var 0) (.str "cells")) (.lst .nil)) (.cons (.set (.var 3) (.mth .pop (.idx (.var 0) (.str "cells")) .nil)) (.cons (.iff (.cmp .ge (.var 3) (.bin .pow (.int 10) (.int 18))) (.cons (.expr (.mth .append (.idx (.var 0) (.str "cells")) (.cons (.bin .fdiv (.var 3) (.blt .max (.cons (.int 2) (.cons (.var 1) .nil)))) .nil))) (.cons (.ret (.bin .mod (.blt .int (.cons (.var 3) .nil)) (.var 1))) .nil)) .nil) (.cons (.set (.var 2) (.bin .add (.var 2) (.bin .mod (.blt .int (.cons (.var 3) .nil)) (.int 2147483077)))) .nil))) .nil) (.cons (.set (.var 2) (.bin .mod (.blt .int (.cons (.bin .add (.bin .mul (.var 2) (.int 48271)) (.int 59)) .nil)) (.int 2147483629))) (.cons (.set (.var 2) (.bin .mod (.blt .int (.cons (.bin .add (.bin .add (.bin .mul (.var 2) (.var 2)) (.bin .mul (.int 59509) (.idx (.var 0) (.str "turn")))) (.int 59)) .nil)) (.int 2147483579))) (.cons (.set (.var 2) (.bin .mod (.blt .int (.cons (.bin .mul (.var 2) (.int 40014)) .nil)) (.int 2147483477))) (.cons (.ret (.bin .mod (.blt .int (.cons (.bin .fdiv (.var 2) (.int 64)) .nil)) (.var 1))) .nil)))))))
def d__law_draw : FD := { ps := ["_law_deck_here", "_law_below"], N := ["_law_deck_here", "_law_below", "_law_figure", "_law_cell"], body := y__law_draw }
@[reducible] def y__law_pick : CSs := (.cons (.ret (.idx (.var 1) (.call "_law_draw" (.cons (.var 0) (.cons (.blt .len (.cons (.var 1) .nil)) .nil))))) .nil)
def d__law_pick : FD := { ps := ["_law_deck_here", "_law_some"], N := ["_law_deck_here", "_law_some"], body := y__law_pick }
@[reducible] def y__law_book : CSs := (.cons (.set (.tup (.cons (.var 2) (.cons (.var 3) .nil))) (.tup (.cons (.call "_law_draw" (.cons (.var 0) (.cons (.int 7) .nil))) (.cons (.call "_law_pick" (.cons (.var 0) (.cons (.lst (.cons (.lst (.cons (.int 0) (.cons (.int 1) (.cons (.int 2) .nil)))) (.cons (.lst (.cons (.int 2) (.cons (.int 1) (.cons (.int 0) .nil)))) (.cons (.lst (.cons (.int 1) (.cons (.int 2) (.cons (.int 0) .nil)))) (.cons (.lst (.cons (.int 0) (.cons (.int 2) (.cons (.int 1) .nil)))) .nil))))) .nil))) .nil)))) (.cons (.set (.tup (.cons (.var 3) (.cons (.var 4) .nil))) (.tup (.cons (.comp [6] (.var 6) (.val (.var 3)) (.so (.cmp .lt (.var 6) (.var 1))) (.var 6)) (.cons (.comp [6] (.var 6) (.rng1 (.var 1)) .no (.lst .nil)) .nil)))) (.cons (.for (.tup (.cons (.var 5) (.cons (.var 6) .nil))) (.enum (.var 3)) (.cons (.set (.var 7) (.idx (.var 4) (.var 6))) (.cons (.set (.var 8) (.slc (.var 3) (.so (.bin .add (.var 5) (.int 1))) .no)) (.cons (.iff (.cmp .lt (.var 2) (.int 2)) (.cons (.expr (.mth .extend (.var 7) (.cons (.comp [10] (.var 10) (.rng1 (.call "_law_draw" (.cons (.var 0) (.cons (.int 4) .nil)))) .no (.call "_law_draw" (.cons (.var 0) (.cons (.var 1) .nil)))) .nil))) .nil) .nil) (.cons (.iff (.and (.cons (.cmp .inn (.var 2) (.tup (.cons (.int 2) (.cons (.int 3) (.cons (.int 4) .nil))))) (.cons (.cmp .ne (.var 8) (.lst .nil)) .nil))) (.cons (.expr (.mth .extend (.var 7) (.cons (.comp [10] (.var 10) (.rng1 (.bin .add (.int 1) (.call "_law_draw" (.cons (.var 0) (.cons (.int 3) .nil))))) .no (.call "_law_pick" (.cons (.var 0) (.cons (.var 8) .nil)))) .nil))) .nil) .nil) (.cons (.iff (.and (.cons (.cmp .inn (.var 2) (.tup (.cons (.int 2) (.cons (.int 3) .nil)))) (.cons (.cmp .gt (.call "_law_draw" (.cons (.var 0) (.cons (.int 6) .nil))) (.int 0)) .nil))) (.cons (.expr (.mth .append (.var 7) (.cons (.var 6) .nil))) .nil) .nil) (.cons (.iff (.cmp .gt (.var 2) (.int 4)) (.cons (.expr (.mth .append (.var 7) (.cons (.idx (.var 3) (.bin .mod (.blt .int (.cons (.bin .add (.var 5) (.int 1)) .nil)) (.blt .len (.cons (.var 3) .nil)))) .nil))) (.cons (.iff (.and (.cons (.cmp .eq (.var 2) (.int 6)) (.cons (.cmp .eq (.call "_law_draw" (.cons (.var 0) (.cons (.int 3) .nil))) (.int 0)) .nil))) (.cons (.expr (.mth .append (.var 7) (.cons (.call "_law_draw" (.cons (.var 0) (.cons (.var 1) .nil))) .nil))) .nil) .nil) .nil)) .nil) .nil))))))) (.cons (.ret (.blt .tuple (.cons (.comp [9] (.var 9) (.val (.var 4)) .no (.call "_law_with_kinds" (.cons (.var 0) (.cons (.var 9) .nil)))) .nil))) .nil))))
def d__law_book : FD := { ps := ["_law_deck_here", "_law_k"], N := ["_law_deck_here", "_law_k", "_law_way", "_law_order", "_law_found", "_law_at", "_law_c", "_law_some", "_law_later", "_law_kinds_here", "_law_go"], body := y__law_book }
@[reducible] def y__law_with_kinds : CSs := (.cons (.set (.tup (.cons (.var 3) (.cons (.var 4) .nil))) (.tup (.cons (.bin .add (.int 2) (.call "_law_draw" (.cons (.var 0) (.cons (.int 5) .nil)))) (.cons (.lst .nil) .nil)))) (.cons (.for (.var 2) (.val (.var 1)) (.cons (.set (.var 5) (.call "_law_draw" (.cons (.var 0) (.cons (.var 3) .nil)))) (.cons (.expr (.mth .append (.var 4) (.cons (.tup (.cons (.var 5) (.cons (.bin .mod (.blt .int (.cons (.bin .add (.bin .add (.var 5) (.int 1)) (.call "_law_draw" (.cons (.var 0) (.cons (.bin .sub (.var 3) (.int 1)) .nil)))) .nil)) (.var 3)) (.cons (.var 2) .nil)))) .nil))) .nil))) (.cons (.ret (.tup (.cons (.var 3) (.cons (.blt .tuple (.cons (.blt .sorted (.cons (.var 4) .nil)) .nil)) .nil)))) .nil)))
def d__law_with_kinds : FD := { ps := ["_law_deck_here", "_law_kinds_here"], N := ["_law_deck_here", "_law_kinds_here", "_law_c", "_law_n", "_law_found", "_law_a"], body := y__law_with_kinds }
@[reducible] def y__law_garden : CSs := (.cons (.set (.var 1) (.call "_law_pick" (.cons (.var 0) (.cons (.lst (.cons (.int 3) (.cons (.int 2) (.cons (.int 3) (.cons (.int 3) (.cons (.int 1) .nil)))))) .nil)))) (.cons (.set (.var 2) (.comp [3] (.var 3) (.rng1 (.call "_law_pick" (.cons (.var 0) (.cons (.lst (.cons (.int 1) (.cons (.int 2) (.cons (.int 1) (.cons (.int 3) (.cons (.int 0) (.cons (.int 5) .nil))))))) .nil)))) .no (.call "_law_draw" (.cons (.var 0) (.cons (.var 1) .nil))))) (.cons (.ret (.tup (.cons (.call "_law_with_kinds" (.cons (.var 0) (.cons (.var 2) .nil))) (.cons (.call "_law_book" (.cons (.var 0) (.cons (.var 1) .nil))) .nil)))) .nil)))
def d__law_garden : FD := { ps := ["_law_deck_here"], N := ["_law_deck_here", "_law_k", "_law_kinds_here", "_law_go"], body := y__law_garden }
@[reducible] def y__law_reach : CSs := (.cons (.set (.var 1) (.comp [5] (.var 5) (.val (.var 0)) .no (.comp [8, 9, 7] (.tup (.cons (.var 8) (.cons (.var 9) (.cons (.var 7) .nil)))) (.val (.idx (.var 5) (.int 1))) .no (.var 7)))) (.cons (.for (.var 2) (.rng1 (.int 3)) (.cons (.set (.var 3) (.lst .nil)) (.cons (.for (.var 4) (.val (.var 1)) (.cons (.set (.var 6) (.blt .list (.cons (.var 4) .nil))) (.cons (.for (.var 7) (.val (.var 4)) (.cons (.expr (.mth .extend (.var 6) (.cons (.idx (.var 1) (.var 7)) .nil))) .nil)) (.cons (.expr (.mth .append (.var 3) (.cons (.comp [7] (.var 7) (.rng1 (.blt .len (.cons (.var 0) .nil))) (.so (.cmp .inn (.var 7) (.var 6))) (.var 7)) .nil))) .nil)))) (.cons (.set (.var 1) (.var 3)) .nil)))) (.cons (.ret (.var 1)) .nil)))
def d__law_reach : FD := { ps := ["_law_book_here"], N := ["_law_book_here", "_law_found", "_law_go", "_law_longer", "_law_row", "_law_growth", "_law_more", "_law_c", "_law_a", "_law_b"], body := y__law_reach }
@[reducible] def y__law_kinds : CSs := (.cons (.set (.tup (.cons (.var 3) (.cons (.var 4) .nil))) (.tup (.cons (.call "_law_reach" (.cons (.idx (.var 0) (.int 1)) .nil)) (.cons (.comp [5, 6, 2] (.tup (.cons (.var 5) (.cons (.var 6) (.cons (.var 2) .nil)))) (.val (.idx (.idx (.var 0) (.int 0)) (.int 1))) .no (.var 2)) .nil)))) (.cons (.set (.var 1) (.blt .list (.cons (.var 4) .nil))) (.cons (.for (.var 2) (.val (.var 4)) (.cons (.expr (.mth .extend (.var 1) (.cons (.idx (.var 3) (.var 2)) .nil))) .nil)) (.cons (.ret (.blt .tuple (.cons (.comp [2] (.var 2) (.rng1 (.blt .len (.cons (.idx (.var 0) (.int 1)) .nil))) (.so (.cmp .inn (.var 2) (.var 1))) (.var 2)) .nil))) .nil))))
def d__law_kinds : FD := { ps := ["_law_garden_here"], N := ["_law_garden_here", "_law_more", "_law_c", "_law_reach_here", "_law_found", "_law_a", "_law_b"], body := y__law_kinds }
@[reducible] def y_law : CSs := (.cons (.set (.var 1) (.call "_law_deck" (.cons (.var 0) .nil))) (.cons (.for (.var 2) (.rng1 (.int 4)) (.cons (.set (.var 3) (.call "_law_garden" (.cons (.var 1) .nil))) (.cons (.set (.var 4) (.ite (.cmp .eq (.call "_law_draw" (.cons (.var 1) (.cons (.int 2) .nil))) (.int 0)) (.call "kinds_of" (.cons (.var 3) .nil)) (.callK "kinds_of" .nil ["garden"] (.cons (.var 3) .nil)))) (.cons (.iff (.cmp .ne (.blt .repr (.cons (.var 4) .nil)) (.blt .repr (.cons (.call "_law_kinds" (.cons (.var 3) .nil)) .nil))) (.cons (.ret (.bl false)) .nil) .nil) (.cons (.set (.tup (.cons (.var 6) (.cons (.var 7) .nil))) (.tup (.cons (.idx (.var 3) (.int 1)) (.cons (.call "_law_reach" (.cons (.idx (.var 3) (.int 1)) .nil)) .nil)))) (.cons (.for (.var 5) (.rng1 (.blt .len (.cons (.var 6) .nil))) (.cons (.for (.var 8) (.rng1 (.blt .len (.cons (.var 6) .nil))) (.cons (.set (.var 4) (.ite (.cmp .eq (.call "_law_draw" (.cons (.var 1) (.cons (.int 2) .nil))) (.int 0)) (.call "leads" (.cons (.var 6) (.cons (.var 5) (.cons (.var 8) .nil)))) (.callK "leads" .nil ["d", "c", "book"] (.cons (.var 8) (.cons (.var 5) (.cons (.var 6) .nil)))))) (.cons (.iff (.cmp .ne (.blt .repr (.cons (.var 4) .nil)) (.blt .repr (.cons (.cmp .inn (.var 8) (.idx (.var 7) (.var 5))) .nil))) (.cons (.ret (.bl false)) .nil) .nil) .nil))) .nil)) .nil)))))) (.cons (.ret (.bl true)) .nil)))
def d_law : FD := { ps := ["_law_script"], N := ["_law_script", "_law_deck_here", "_law_go", "_law_garden_here", "_law_told", "_law_c", "_law_book_here", "_law_reach_here", "_law_d"], body := y_law }
def fs : List (String × FD) := [("is_integer", d_is_integer), ("is_between", d_is_between), ("is_tie", d_is_tie), ("is_web_value", d_is_web_value), ("has_kinds_below", d_has_kinds_below), ("is_growth_value", d_is_growth_value), ("is_book_value", d_is_book_value), ("is_garden_value", d_is_garden_value), ("need_book", d_need_book), ("need_garden", d_need_garden), ("kinds_led_to", d_kinds_led_to), ("leads", d_leads), ("kinds_of", d_kinds_of), ("_law_deck", d__law_deck), ("_law_draw", d__law_draw), ("_law_pick", d__law_pick), ("_law_book", d__law_book), ("_law_with_kinds", d__law_with_kinds), ("_law_garden", d__law_garden), ("_law_reach", d__law_reach), ("_law_kinds", d__law_kinds), ("law", d_law)]
def gs : List (String × T) := [("KINDS", .int 3)]
def kw : List (String × Nat × List String) := [("leads", 0, ["d", "c", "book"]), ("kinds_of", 0, ["garden"])]
abbrev D : Tbl := tblOf fs gs kw
theorem gg_KINDS {C : String → List T → Hh → R T} {ls : Ls} {h : Hh} {Q : T → Hh → Prop} : (Gx (evE D C (.glob "KINDS") ls h) (P := ⟨Q⟩)) = Q (.int 3) h := propext ⟨fun q => q, fun q => q⟩
theorem f_is_integer : D.fn "is_integer" = some d_is_integer := rfl
theorem s_is_integer : L2.FnScope (d_is_integer.N.map Str.ofString) (d_is_integer.ps.map Str.ofString) (L2.defScope (topS 7)) := ⟨rfl, rfl, rfl, by decide +kernel, rfl, by decide +kernel, by decide +kernel⟩
theorem c_is_integer : chkSs D (d_is_integer.N.map Str.ofString) d_is_integer.body (L2.defScope (topS 7)) (L2.defScope (topS 7)) (L2.defBody (topS 7)) = true := by decide +kernel
theorem b_is_integer : ∀ (kV doc pm : Value) (an : Option Addr) (cdv ct : Value) (us : List Value), us.length = (d_is_integer.ps.map Str.ofString).length → bindArgs (fnT "is_integer" (topS 7) kV doc pm an cdv ct) ⟨us, []⟩ = pure ((d_is_integer.ps.map Str.ofString).zip us) := fun _ _ _ _ _ _ us hl => match us, hl with | [_], _ => rfl
theorem k_is_integer : ∀ (kV doc pm : Value) (an : Option Addr) (cdv ct : Value), ∀ m ks, ("is_integer", m, ks) ∈ D.kw → KwOk (fnT "is_integer" (topS 7) kV doc pm an cdv ct) d_is_integer.ps m ks := by
  intro kV doc pm an cdv ct m ks h
  exact kw_no (by decide +kernel) h
theorem f_is_between : D.fn "is_between" = some d_is_between := rfl
theorem s_is_between : L2.FnScope (d_is_between.N.map Str.ofString) (d_is_between.ps.map Str.ofString) (L2.defScope (topS 8)) := ⟨rfl, rfl, rfl, by decide +kernel, rfl, by decide +kernel, by decide +kernel⟩
theorem c_is_between : chkSs D (d_is_between.N.map Str.ofString) d_is_between.body (L2.defScope (topS 8)) (L2.defScope (topS 8)) (L2.defBody (topS 8)) = true := by decide +kernel
theorem b_is_between : ∀ (kV doc pm : Value) (an : Option Addr) (cdv ct : Value) (us : List Value), us.length = (d_is_between.ps.map Str.ofString).length → bindArgs (fnT "is_between" (topS 8) kV doc pm an cdv ct) ⟨us, []⟩ = pure ((d_is_between.ps.map Str.ofString).zip us) := fun _ _ _ _ _ _ us hl => match us, hl with | [_, _, _], _ => rfl
theorem k_is_between : ∀ (kV doc pm : Value) (an : Option Addr) (cdv ct : Value), ∀ m ks, ("is_between", m, ks) ∈ D.kw → KwOk (fnT "is_between" (topS 8) kV doc pm an cdv ct) d_is_between.ps m ks := by
  intro kV doc pm an cdv ct m ks h
  exact kw_no (by decide +kernel) h
theorem f_is_tie : D.fn "is_tie" = some d_is_tie := rfl
theorem s_is_tie : L2.FnScope (d_is_tie.N.map Str.ofString) (d_is_tie.ps.map Str.ofString) (L2.defScope (topS 9)) := ⟨rfl, rfl, rfl, by decide +kernel, rfl, by decide +kernel, by decide +kernel⟩
theorem c_is_tie : chkSs D (d_is_tie.N.map Str.ofString) d_is_tie.body (L2.defScope (topS 9)) (L2.defScope (topS 9)) (L2.defBody (topS 9)) = true := by decide +kernel
theorem b_is_tie : ∀ (kV doc pm : Value) (an : Option Addr) (cdv ct : Value) (us : List Value), us.length = (d_is_tie.ps.map Str.ofString).length → bindArgs (fnT "is_tie" (topS 9) kV doc pm an cdv ct) ⟨us, []⟩ = pure ((d_is_tie.ps.map Str.ofString).zip us) := fun _ _ _ _ _ _ us hl => match us, hl with | [_, _], _ => rfl
theorem k_is_tie : ∀ (kV doc pm : Value) (an : Option Addr) (cdv ct : Value), ∀ m ks, ("is_tie", m, ks) ∈ D.kw → KwOk (fnT "is_tie" (topS 9) kV doc pm an cdv ct) d_is_tie.ps m ks := by
  intro kV doc pm an cdv ct m ks h
  exact kw_no (by decide +kernel) h
theorem f_is_web_value : D.fn "is_web_value" = some d_is_web_value := rfl
theorem s_is_web_value : L2.FnScope (d_is_web_value.N.map Str.ofString) (d_is_web_value.ps.map Str.ofString) (L2.defScope (topS 10)) := ⟨rfl, rfl, rfl, by decide +kernel, rfl, by decide +kernel, by decide +kernel⟩
theorem c_is_web_value : chkSs D (d_is_web_value.N.map Str.ofString) d_is_web_value.body (L2.defScope (topS 10)) (L2.defScope (topS 10)) (L2.defBody (topS 10)) = true := by decide +kernel
theorem b_is_web_value : ∀ (kV doc pm : Value) (an : Option Addr) (cdv ct : Value) (us : List Value), us.length = (d_is_web_value.ps.map Str.ofString).length → bindArgs (fnT "is_web_value" (topS 10) kV doc pm an cdv ct) ⟨us, []⟩ = pure ((d_is_web_value.ps.map Str.ofString).zip us) := fun _ _ _ _ _ _ us hl => match us, hl with | [_], _ => rfl
theorem k_is_web_value : ∀ (kV doc pm : Value) (an : Option Addr) (cdv ct : Value), ∀ m ks, ("is_web_value", m, ks) ∈ D.kw → KwOk (fnT "is_web_value" (topS 10) kV doc pm an cdv ct) d_is_web_value.ps m ks := by
  intro kV doc pm an cdv ct m ks h
  exact kw_no (by decide +kernel) h
theorem f_has_kinds_below : D.fn "has_kinds_below" = some d_has_kinds_below := rfl
theorem s_has_kinds_below : L2.FnScope (d_has_kinds_below.N.map Str.ofString) (d_has_kinds_below.ps.map Str.ofString) (L2.defScope (topS 11)) := ⟨rfl, rfl, rfl, by decide +kernel, rfl, by decide +kernel, by decide +kernel⟩
theorem c_has_kinds_below : chkSs D (d_has_kinds_below.N.map Str.ofString) d_has_kinds_below.body (L2.defScope (topS 11)) (L2.defScope (topS 11)) (L2.defBody (topS 11)) = true := by decide +kernel
theorem b_has_kinds_below : ∀ (kV doc pm : Value) (an : Option Addr) (cdv ct : Value) (us : List Value), us.length = (d_has_kinds_below.ps.map Str.ofString).length → bindArgs (fnT "has_kinds_below" (topS 11) kV doc pm an cdv ct) ⟨us, []⟩ = pure ((d_has_kinds_below.ps.map Str.ofString).zip us) := fun _ _ _ _ _ _ us hl => match us, hl with | [_, _], _ => rfl
theorem k_has_kinds_below : ∀ (kV doc pm : Value) (an : Option Addr) (cdv ct : Value), ∀ m ks, ("has_kinds_below", m, ks) ∈ D.kw → KwOk (fnT "has_kinds_below" (topS 11) kV doc pm an cdv ct) d_has_kinds_below.ps m ks := by
  intro kV doc pm an cdv ct m ks h
  exact kw_no (by decide +kernel) h
theorem f_is_growth_value : D.fn "is_growth_value" = some d_is_growth_value := rfl
theorem s_is_growth_value : L2.FnScope (d_is_growth_value.N.map Str.ofString) (d_is_growth_value.ps.map Str.ofString) (L2.defScope (topS 12)) := ⟨rfl, rfl, rfl, by decide +kernel, rfl, by decide +kernel, by decide +kernel⟩
theorem c_is_growth_value : chkSs D (d_is_growth_value.N.map Str.ofString) d_is_growth_value.body (L2.defScope (topS 12)) (L2.defScope (topS 12)) (L2.defBody (topS 12)) = true := by decide +kernel
theorem b_is_growth_value : ∀ (kV doc pm : Value) (an : Option Addr) (cdv ct : Value) (us : List Value), us.length = (d_is_growth_value.ps.map Str.ofString).length → bindArgs (fnT "is_growth_value" (topS 12) kV doc pm an cdv ct) ⟨us, []⟩ = pure ((d_is_growth_value.ps.map Str.ofString).zip us) := fun _ _ _ _ _ _ us hl => match us, hl with | [_], _ => rfl
theorem k_is_growth_value : ∀ (kV doc pm : Value) (an : Option Addr) (cdv ct : Value), ∀ m ks, ("is_growth_value", m, ks) ∈ D.kw → KwOk (fnT "is_growth_value" (topS 12) kV doc pm an cdv ct) d_is_growth_value.ps m ks := by
  intro kV doc pm an cdv ct m ks h
  exact kw_no (by decide +kernel) h
theorem f_is_book_value : D.fn "is_book_value" = some d_is_book_value := rfl
theorem s_is_book_value : L2.FnScope (d_is_book_value.N.map Str.ofString) (d_is_book_value.ps.map Str.ofString) (L2.defScope (topS 13)) := ⟨rfl, rfl, rfl, by decide +kernel, rfl, by decide +kernel, by decide +kernel⟩
theorem c_is_book_value : chkSs D (d_is_book_value.N.map Str.ofString) d_is_book_value.body (L2.defScope (topS 13)) (L2.defScope (topS 13)) (L2.defBody (topS 13)) = true := by decide +kernel
theorem b_is_book_value : ∀ (kV doc pm : Value) (an : Option Addr) (cdv ct : Value) (us : List Value), us.length = (d_is_book_value.ps.map Str.ofString).length → bindArgs (fnT "is_book_value" (topS 13) kV doc pm an cdv ct) ⟨us, []⟩ = pure ((d_is_book_value.ps.map Str.ofString).zip us) := fun _ _ _ _ _ _ us hl => match us, hl with | [_], _ => rfl
theorem k_is_book_value : ∀ (kV doc pm : Value) (an : Option Addr) (cdv ct : Value), ∀ m ks, ("is_book_value", m, ks) ∈ D.kw → KwOk (fnT "is_book_value" (topS 13) kV doc pm an cdv ct) d_is_book_value.ps m ks := by
  intro kV doc pm an cdv ct m ks h
  exact kw_no (by decide +kernel) h
theorem f_is_garden_value : D.fn "is_garden_value" = some d_is_garden_value := rfl
theorem s_is_garden_value : L2.FnScope (d_is_garden_value.N.map Str.ofString) (d_is_garden_value.ps.map Str.ofString) (L2.defScope (topS 14)) := ⟨rfl, rfl, rfl, by decide +kernel, rfl, by decide +kernel, by decide +kernel⟩
theorem c_is_garden_value : chkSs D (d_is_garden_value.N.map Str.ofString) d_is_garden_value.body (L2.defScope (topS 14)) (L2.defScope (topS 14)) (L2.defBody (topS 14)) = true := by decide +kernel
theorem b_is_garden_value : ∀ (kV doc pm : Value) (an : Option Addr) (cdv ct : Value) (us : List Value), us.length = (d_is_garden_value.ps.map Str.ofString).length → bindArgs (fnT "is_garden_value" (topS 14) kV doc pm an cdv ct) ⟨us, []⟩ = pure ((d_is_garden_value.ps.map Str.ofString).zip us) := fun _ _ _ _ _ _ us hl => match us, hl with | [_], _ => rfl
theorem k_is_garden_value : ∀ (kV doc pm : Value) (an : Option Addr) (cdv ct : Value), ∀ m ks, ("is_garden_value", m, ks) ∈ D.kw → KwOk (fnT "is_garden_value" (topS 14) kV doc pm an cdv ct) d_is_garden_value.ps m ks := by
  intro kV doc pm an cdv ct m ks h
  exact kw_no (by decide +kernel) h
theorem f_need_book : D.fn "need_book" = some d_need_book := rfl
theorem s_need_book : L2.FnScope (d_need_book.N.map Str.ofString) (d_need_book.ps.map Str.ofString) (L2.defScope (topS 15)) := ⟨rfl, rfl, rfl, by decide +kernel, rfl, by decide +kernel, by decide +kernel⟩
theorem c_need_book : chkSs D (d_need_book.N.map Str.ofString) d_need_book.body (L2.defScope (topS 15)) (L2.defScope (topS 15)) (L2.defBody (topS 15)) = true := by decide +kernel
theorem b_need_book : ∀ (kV doc pm : Value) (an : Option Addr) (cdv ct : Value) (us : List Value), us.length = (d_need_book.ps.map Str.ofString).length → bindArgs (fnT "need_book" (topS 15) kV doc pm an cdv ct) ⟨us, []⟩ = pure ((d_need_book.ps.map Str.ofString).zip us) := fun _ _ _ _ _ _ us hl => match us, hl with | [_], _ => rfl
theorem k_need_book : ∀ (kV doc pm : Value) (an : Option Addr) (cdv ct : Value), ∀ m ks, ("need_book", m, ks) ∈ D.kw → KwOk (fnT "need_book" (topS 15) kV doc pm an cdv ct) d_need_book.ps m ks := by
  intro kV doc pm an cdv ct m ks h
  exact kw_no (by decide +kernel) h
theorem f_need_garden : D.fn "need_garden" = some d_need_garden := rfl
theorem s_need_garden : L2.FnScope (d_need_garden.N.map Str.ofString) (d_need_garden.ps.map Str.ofString) (L2.defScope (topS 16)) := ⟨rfl, rfl, rfl, by decide +kernel, rfl, by decide +kernel, by decide +kernel⟩
theorem c_need_garden : chkSs D (d_need_garden.N.map Str.ofString) d_need_garden.body (L2.defScope (topS 16)) (L2.defScope (topS 16)) (L2.defBody (topS 16)) = true := by decide +kernel
theorem b_need_garden : ∀ (kV doc pm : Value) (an : Option Addr) (cdv ct : Value) (us : List Value), us.length = (d_need_garden.ps.map Str.ofString).length → bindArgs (fnT "need_garden" (topS 16) kV doc pm an cdv ct) ⟨us, []⟩ = pure ((d_need_garden.ps.map Str.ofString).zip us) := fun _ _ _ _ _ _ us hl => match us, hl with | [_], _ => rfl
theorem k_need_garden : ∀ (kV doc pm : Value) (an : Option Addr) (cdv ct : Value), ∀ m ks, ("need_garden", m, ks) ∈ D.kw → KwOk (fnT "need_garden" (topS 16) kV doc pm an cdv ct) d_need_garden.ps m ks := by
  intro kV doc pm an cdv ct m ks h
  exact kw_no (by decide +kernel) h
theorem f_kinds_led_to : D.fn "kinds_led_to" = some d_kinds_led_to := rfl
theorem s_kinds_led_to : L2.FnScope (d_kinds_led_to.N.map Str.ofString) (d_kinds_led_to.ps.map Str.ofString) (L2.defScope (topS 18)) := ⟨rfl, rfl, rfl, by decide +kernel, rfl, by decide +kernel, by decide +kernel⟩
theorem c_kinds_led_to : chkSs D (d_kinds_led_to.N.map Str.ofString) d_kinds_led_to.body (L2.defScope (topS 18)) (L2.defScope (topS 18)) (L2.defBody (topS 18)) = true := by decide +kernel
theorem b_kinds_led_to : ∀ (kV doc pm : Value) (an : Option Addr) (cdv ct : Value) (us : List Value), us.length = (d_kinds_led_to.ps.map Str.ofString).length → bindArgs (fnT "kinds_led_to" (topS 18) kV doc pm an cdv ct) ⟨us, []⟩ = pure ((d_kinds_led_to.ps.map Str.ofString).zip us) := fun _ _ _ _ _ _ us hl => match us, hl with | [_, _], _ => rfl
theorem k_kinds_led_to : ∀ (kV doc pm : Value) (an : Option Addr) (cdv ct : Value), ∀ m ks, ("kinds_led_to", m, ks) ∈ D.kw → KwOk (fnT "kinds_led_to" (topS 18) kV doc pm an cdv ct) d_kinds_led_to.ps m ks := by
  intro kV doc pm an cdv ct m ks h
  exact kw_no (by decide +kernel) h
theorem f_leads : D.fn "leads" = some d_leads := rfl
theorem s_leads : L2.FnScope (d_leads.N.map Str.ofString) (d_leads.ps.map Str.ofString) (L2.defScope (topS 19)) := ⟨rfl, rfl, rfl, by decide +kernel, rfl, by decide +kernel, by decide +kernel⟩
theorem c_leads : chkSs D (d_leads.N.map Str.ofString) d_leads.body (L2.defScope (topS 19)) (L2.defScope (topS 19)) (L2.defBody (topS 19)) = true := by decide +kernel
theorem b_leads : ∀ (kV doc pm : Value) (an : Option Addr) (cdv ct : Value) (us : List Value), us.length = (d_leads.ps.map Str.ofString).length → bindArgs (fnT "leads" (topS 19) kV doc pm an cdv ct) ⟨us, []⟩ = pure ((d_leads.ps.map Str.ofString).zip us) := fun _ _ _ _ _ _ us hl => match us, hl with | [_, _, _], _ => rfl
theorem k_leads : ∀ (kV doc pm : Value) (an : Option Addr) (cdv ct : Value), ∀ m ks, ("leads", m, ks) ∈ D.kw → KwOk (fnT "leads" (topS 19) kV doc pm an cdv ct) d_leads.ps m ks := by
  intro kV doc pm an cdv ct m ks h
  rcases List.mem_cons.mp h with h | h
  · obtain ⟨rfl, rfl⟩ := Prod.mk.inj (congrArg Prod.snd h)
    intro us ws zs h1 h2 e
    match us, ws, h1, h2 with
    | [], [b0, b1, b2], _, _ =>
      have e2 : some [b2, b1, b0] = some zs := e
      cases e2
      rfl
  rcases List.mem_cons.mp h with h | h
  · exact absurd (congrArg Prod.fst h) (show ¬ ("leads" : String) = "kinds_of" by decide +kernel)
  exact absurd h List.not_mem_nil
theorem f_kinds_of : D.fn "kinds_of" = some d_kinds_of := rfl
theorem s_kinds_of : L2.FnScope (d_kinds_of.N.map Str.ofString) (d_kinds_of.ps.map Str.ofString) (L2.defScope (topS 20)) := ⟨rfl, rfl, rfl, by decide +kernel, rfl, by decide +kernel, by decide +kernel⟩
theorem c_kinds_of : chkSs D (d_kinds_of.N.map Str.ofString) d_kinds_of.body (L2.defScope (topS 20)) (L2.defScope (topS 20)) (L2.defBody (topS 20)) = true := by decide +kernel
theorem b_kinds_of : ∀ (kV doc pm : Value) (an : Option Addr) (cdv ct : Value) (us : List Value), us.length = (d_kinds_of.ps.map Str.ofString).length → bindArgs (fnT "kinds_of" (topS 20) kV doc pm an cdv ct) ⟨us, []⟩ = pure ((d_kinds_of.ps.map Str.ofString).zip us) := fun _ _ _ _ _ _ us hl => match us, hl with | [_], _ => rfl
theorem k_kinds_of : ∀ (kV doc pm : Value) (an : Option Addr) (cdv ct : Value), ∀ m ks, ("kinds_of", m, ks) ∈ D.kw → KwOk (fnT "kinds_of" (topS 20) kV doc pm an cdv ct) d_kinds_of.ps m ks := by
  intro kV doc pm an cdv ct m ks h
  rcases List.mem_cons.mp h with h | h
  · exact absurd (congrArg Prod.fst h) (show ¬ ("kinds_of" : String) = "leads" by decide +kernel)
  rcases List.mem_cons.mp h with h | h
  · obtain ⟨rfl, rfl⟩ := Prod.mk.inj (congrArg Prod.snd h)
    intro us ws zs h1 h2 e
    match us, ws, h1, h2 with
    | [], [b0], _, _ =>
      have e2 : some [b0] = some zs := e
      cases e2
      rfl
  exact absurd h List.not_mem_nil
theorem f__law_deck : D.fn "_law_deck" = some d__law_deck := rfl
theorem s__law_deck : L2.FnScope (d__law_deck.N.map Str.ofString) (d__law_deck.ps.map Str.ofString) (L2.defScope (topS 22)) := ⟨rfl, rfl, rfl, by decide +kernel, rfl, by decide +kernel, by decide +kernel⟩
theorem c__law_deck : chkSs D (d__law_deck.N.map Str.ofString) d__law_deck.body (L2.defScope (topS 22)) (L2.defScope (topS 22)) (L2.defBody (topS 22)) = true := by decide +kernel
theorem b__law_deck : ∀ (kV doc pm : Value) (an : Option Addr) (cdv ct : Value) (us : List Value), us.length = (d__law_deck.ps.map Str.ofString).length → bindArgs (fnT "_law_deck" (topS 22) kV doc pm an cdv ct) ⟨us, []⟩ = pure ((d__law_deck.ps.map Str.ofString).zip us) := fun _ _ _ _ _ _ us hl => match us, hl with | [_], _ => rfl
theorem k__law_deck : ∀ (kV doc pm : Value) (an : Option Addr) (cdv ct : Value), ∀ m ks, ("_law_deck", m, ks) ∈ D.kw → KwOk (fnT "_law_deck" (topS 22) kV doc pm an cdv ct) d__law_deck.ps m ks := by
  intro kV doc pm an cdv ct m ks h
  exact kw_no (by decide +kernel) h
theorem f__law_draw : D.fn "_law_draw" = some d__law_draw := rfl
theorem s__law_draw : L2.FnScope (d__law_draw.N.map Str.ofString) (d__law_draw.ps.map Str.ofString) (L2.defScope (topS 23)) := ⟨rfl, rfl, rfl, by decide +kernel, rfl, by decide +kernel, by decide +kernel⟩
theorem c__law_draw : chkSs D (d__law_draw.N.map Str.ofString) d__law_draw.body (L2.defScope (topS 23)) (L2.defScope (topS 23)) (L2.defBody (topS 23)) = true := by decide +kernel
theorem b__law_draw : ∀ (kV doc pm : Value) (an : Option Addr) (cdv ct : Value) (us : List Value), us.length = (d__law_draw.ps.map Str.ofString).length → bindArgs (fnT "_law_draw" (topS 23) kV doc pm an cdv ct) ⟨us, []⟩ = pure ((d__law_draw.ps.map Str.ofString).zip us) := fun _ _ _ _ _ _ us hl => match us, hl with | [_, _], _ => rfl
theorem k__law_draw : ∀ (kV doc pm : Value) (an : Option Addr) (cdv ct : Value), ∀ m ks, ("_law_draw", m, ks) ∈ D.kw → KwOk (fnT "_law_draw" (topS 23) kV doc pm an cdv ct) d__law_draw.ps m ks := by
  intro kV doc pm an cdv ct m ks h
  exact kw_no (by decide +kernel) h
theorem f__law_pick : D.fn "_law_pick" = some d__law_pick := rfl
theorem s__law_pick : L2.FnScope (d__law_pick.N.map Str.ofString) (d__law_pick.ps.map Str.ofString) (L2.defScope (topS 24)) := ⟨rfl, rfl, rfl, by decide +kernel, rfl, by decide +kernel, by decide +kernel⟩
theorem c__law_pick : chkSs D (d__law_pick.N.map Str.ofString) d__law_pick.body (L2.defScope (topS 24)) (L2.defScope (topS 24)) (L2.defBody (topS 24)) = true := by decide +kernel
theorem b__law_pick : ∀ (kV doc pm : Value) (an : Option Addr) (cdv ct : Value) (us : List Value), us.length = (d__law_pick.ps.map Str.ofString).length → bindArgs (fnT "_law_pick" (topS 24) kV doc pm an cdv ct) ⟨us, []⟩ = pure ((d__law_pick.ps.map Str.ofString).zip us) := fun _ _ _ _ _ _ us hl => match us, hl with | [_, _], _ => rfl
theorem k__law_pick : ∀ (kV doc pm : Value) (an : Option Addr) (cdv ct : Value), ∀ m ks, ("_law_pick", m, ks) ∈ D.kw → KwOk (fnT "_law_pick" (topS 24) kV doc pm an cdv ct) d__law_pick.ps m ks := by
  intro kV doc pm an cdv ct m ks h
  exact kw_no (by decide +kernel) h
theorem f__law_book : D.fn "_law_book" = some d__law_book := rfl
theorem s__law_book : L2.FnScope (d__law_book.N.map Str.ofString) (d__law_book.ps.map Str.ofString) (L2.defScope (topS 25)) := ⟨rfl, rfl, rfl, by decide +kernel, rfl, by decide +kernel, by decide +kernel⟩
theorem c__law_book : chkSs D (d__law_book.N.map Str.ofString) d__law_book.body (L2.defScope (topS 25)) (L2.defScope (topS 25)) (L2.defBody (topS 25)) = true := by decide +kernel
theorem b__law_book : ∀ (kV doc pm : Value) (an : Option Addr) (cdv ct : Value) (us : List Value), us.length = (d__law_book.ps.map Str.ofString).length → bindArgs (fnT "_law_book" (topS 25) kV doc pm an cdv ct) ⟨us, []⟩ = pure ((d__law_book.ps.map Str.ofString).zip us) := fun _ _ _ _ _ _ us hl => match us, hl with | [_, _], _ => rfl
theorem k__law_book : ∀ (kV doc pm : Value) (an : Option Addr) (cdv ct : Value), ∀ m ks, ("_law_book", m, ks) ∈ D.kw → KwOk (fnT "_law_book" (topS 25) kV doc pm an cdv ct) d__law_book.ps m ks := by
  intro kV doc pm an cdv ct m ks h
  exact kw_no (by decide +kernel) h
theorem f__law_with_kinds : D.fn "_law_with_kinds" = some d__law_with_kinds := rfl
theorem s__law_with_kinds : L2.FnScope (d__law_with_kinds.N.map Str.ofString) (d__law_with_kinds.ps.map Str.ofString) (L2.defScope (topS 26)) := ⟨rfl, rfl, rfl, by decide +kernel, rfl, by decide +kernel, by decide +kernel⟩
theorem c__law_with_kinds : chkSs D (d__law_with_kinds.N.map Str.ofString) d__law_with_kinds.body (L2.defScope (topS 26)) (L2.defScope (topS 26)) (L2.defBody (topS 26)) = true := by decide +kernel
theorem b__law_with_kinds : ∀ (kV doc pm : Value) (an : Option Addr) (cdv ct : Value) (us : List Value), us.length = (d__law_with_kinds.ps.map Str.ofString).length → bindArgs (fnT "_law_with_kinds" (topS 26) kV doc pm an cdv ct) ⟨us, []⟩ = pure ((d__law_with_kinds.ps.map Str.ofString).zip us) := fun _ _ _ _ _ _ us hl => match us, hl with | [_, _], _ => rfl
theorem k__law_with_kinds : ∀ (kV doc pm : Value) (an : Option Addr) (cdv ct : Value), ∀ m ks, ("_law_with_kinds", m, ks) ∈ D.kw → KwOk (fnT "_law_with_kinds" (topS 26) kV doc pm an cdv ct) d__law_with_kinds.ps m ks := by
  intro kV doc pm an cdv ct m ks h
  exact kw_no (by decide +kernel) h
theorem f__law_garden : D.fn "_law_garden" = some d__law_garden := rfl
theorem s__law_garden : L2.FnScope (d__law_garden.N.map Str.ofString) (d__law_garden.ps.map Str.ofString) (L2.defScope (topS 27)) := ⟨rfl, rfl, rfl, by decide +kernel, rfl, by decide +kernel, by decide +kernel⟩
theorem c__law_garden : chkSs D (d__law_garden.N.map Str.ofString) d__law_garden.body (L2.defScope (topS 27)) (L2.defScope (topS 27)) (L2.defBody (topS 27)) = true := by decide +kernel
theorem b__law_garden : ∀ (kV doc pm : Value) (an : Option Addr) (cdv ct : Value) (us : List Value), us.length = (d__law_garden.ps.map Str.ofString).length → bindArgs (fnT "_law_garden" (topS 27) kV doc pm an cdv ct) ⟨us, []⟩ = pure ((d__law_garden.ps.map Str.ofString).zip us) := fun _ _ _ _ _ _ us hl => match us, hl with | [_], _ => rfl
theorem k__law_garden : ∀ (kV doc pm : Value) (an : Option Addr) (cdv ct : Value), ∀ m ks, ("_law_garden", m, ks) ∈ D.kw → KwOk (fnT "_law_garden" (topS 27) kV doc pm an cdv ct) d__law_garden.ps m ks := by
  intro kV doc pm an cdv ct m ks h
  exact kw_no (by decide +kernel) h
theorem f__law_reach : D.fn "_law_reach" = some d__law_reach := rfl
theorem s__law_reach : L2.FnScope (d__law_reach.N.map Str.ofString) (d__law_reach.ps.map Str.ofString) (L2.defScope (topS 28)) := ⟨rfl, rfl, rfl, by decide +kernel, rfl, by decide +kernel, by decide +kernel⟩
theorem c__law_reach : chkSs D (d__law_reach.N.map Str.ofString) d__law_reach.body (L2.defScope (topS 28)) (L2.defScope (topS 28)) (L2.defBody (topS 28)) = true := by decide +kernel
theorem b__law_reach : ∀ (kV doc pm : Value) (an : Option Addr) (cdv ct : Value) (us : List Value), us.length = (d__law_reach.ps.map Str.ofString).length → bindArgs (fnT "_law_reach" (topS 28) kV doc pm an cdv ct) ⟨us, []⟩ = pure ((d__law_reach.ps.map Str.ofString).zip us) := fun _ _ _ _ _ _ us hl => match us, hl with | [_], _ => rfl
theorem k__law_reach : ∀ (kV doc pm : Value) (an : Option Addr) (cdv ct : Value), ∀ m ks, ("_law_reach", m, ks) ∈ D.kw → KwOk (fnT "_law_reach" (topS 28) kV doc pm an cdv ct) d__law_reach.ps m ks := by
  intro kV doc pm an cdv ct m ks h
  exact kw_no (by decide +kernel) h
theorem f__law_kinds : D.fn "_law_kinds" = some d__law_kinds := rfl
theorem s__law_kinds : L2.FnScope (d__law_kinds.N.map Str.ofString) (d__law_kinds.ps.map Str.ofString) (L2.defScope (topS 29)) := ⟨rfl, rfl, rfl, by decide +kernel, rfl, by decide +kernel, by decide +kernel⟩
theorem c__law_kinds : chkSs D (d__law_kinds.N.map Str.ofString) d__law_kinds.body (L2.defScope (topS 29)) (L2.defScope (topS 29)) (L2.defBody (topS 29)) = true := by decide +kernel
theorem b__law_kinds : ∀ (kV doc pm : Value) (an : Option Addr) (cdv ct : Value) (us : List Value), us.length = (d__law_kinds.ps.map Str.ofString).length → bindArgs (fnT "_law_kinds" (topS 29) kV doc pm an cdv ct) ⟨us, []⟩ = pure ((d__law_kinds.ps.map Str.ofString).zip us) := fun _ _ _ _ _ _ us hl => match us, hl with | [_], _ => rfl
theorem k__law_kinds : ∀ (kV doc pm : Value) (an : Option Addr) (cdv ct : Value), ∀ m ks, ("_law_kinds", m, ks) ∈ D.kw → KwOk (fnT "_law_kinds" (topS 29) kV doc pm an cdv ct) d__law_kinds.ps m ks := by
  intro kV doc pm an cdv ct m ks h
  exact kw_no (by decide +kernel) h
theorem f_law : D.fn "law" = some d_law := rfl
theorem s_law : L2.FnScope (d_law.N.map Str.ofString) (d_law.ps.map Str.ofString) (L2.defScope (topS 30)) := ⟨rfl, rfl, rfl, by decide +kernel, rfl, by decide +kernel, by decide +kernel⟩
theorem c_law : chkSs D (d_law.N.map Str.ofString) d_law.body (L2.defScope (topS 30)) (L2.defScope (topS 30)) (L2.defBody (topS 30)) = true := by decide +kernel
theorem b_law : ∀ (kV doc pm : Value) (an : Option Addr) (cdv ct : Value) (us : List Value), us.length = (d_law.ps.map Str.ofString).length → bindArgs (fnT "law" (topS 30) kV doc pm an cdv ct) ⟨us, []⟩ = pure ((d_law.ps.map Str.ofString).zip us) := fun _ _ _ _ _ _ us hl => match us, hl with | [_], _ => rfl
theorem k_law : ∀ (kV doc pm : Value) (an : Option Addr) (cdv ct : Value), ∀ m ks, ("law", m, ks) ∈ D.kw → KwOk (fnT "law" (topS 30) kV doc pm an cdv ct) d_law.ps m ks := by
  intro kV doc pm an cdv ct m ks h
  exact kw_no (by decide +kernel) h
end K59

set_option Elab.async false
set_option linter.all false
set_option maxRecDepth 100000
namespace K59
open PySem MP L2
/-! ### values -/
abbrev Tie := Int × Int × Int
def tieT (t : Tie) : T := .tup [.int t.1, .int t.2.1, .int t.2.2]
def tieD (t : Tie) : PyData := .tuple [.int t.1, .int t.2.1, .int t.2.2]
def webT (w : Int × List Tie) : T := .tup [.int w.1, .tup (w.2.map tieT)]
abbrev Book := List (Int × List Tie)
def bookT (B : Book) : T := .tup (B.map webT)
def gardenT (w : Int × List Tie) (B : Book) : T := .tup [webT w, bookT B]
/-- kinds below k -/
def GoodTie (n k : Int) (t : Tie) : Prop := (0 ≤ t.1 ∧ t.1 < n) ∧ (0 ≤ t.2.1 ∧ t.2.1 < n) ∧ t.1 ≠ t.2.1 ∧ 0 ≤ t.2.2 ∧ t.2.2 < k
structure GoodWeb (k : Int) (w : Int × List Tie) : Prop where
  n1 : 2 ≤ w.1
  tie : ∀ t ∈ w.2, GoodTie w.1 k t
  srt : srt tieD w.2 = w.2
  len : w.2.length ≤ 40
structure GoodBook (B : Book) : Prop where
  l1 : 1 ≤ B.length
  l3 : B.length ≤ 3
  web : ∀ w ∈ B, GoodWeb B.length w
theorem sortable_ties (L : List Tie) : sortable (L.map tieD) = true := by
  refine sortable_of (fun d hd e he => ?_) (.inl fun d hd => ?_) (fun d hd => ?_)
  · obtain ⟨i, _, rfl⟩ := List.mem_map.mp hd
    obtain ⟨j, _, rfl⟩ := List.mem_map.mp he
    simp [W.alike, W.alikeAll, tieD]
  · obtain ⟨i, _, rfl⟩ := List.mem_map.mp hd
    rfl
  · obtain ⟨i, _, rfl⟩ := List.mem_map.mp hd
    show (1 : Nat) ≤ 60
    decide
theorem tie_dat (t : Tie) : pdat (tieT t) = some (tieD t) := rfl
section
variable {Q : T → Hh → Prop} {h : Hh} {n : Nat}
theorem g_isint {i : Int} (q : Q (.bl true) h) : Gx (callN D (n + 1) "is_integer" [.int i] h) (P := ⟨Q⟩) := by
  refine call_gx f_is_integer rfl ?_
  simp only [↓x_var, ↓x_int, ↓x_bl, ↓x_non, ↓x_str, ↓x_bin, ↓x_cmp, ↓x_idx, ↓x_neg, ↓x_not, ↓x_isN, ↓x_isnN, ↓x_rev, ↓x_sset, ↓x_isiT, ↓x_chn, ↓x_ite, ↓x_and, ↓x_or, ↓x_and1, ↓x_or1, ↓x_and2, ↓x_or2, ↓x_tup, ↓x_lst, ↓x_dic, ↓x_slc, ↓x_call, ↓x_callK, ↓x_blt, ↓x_mth, ↓x_rngL, ↓x_rngT, ↓x_comp, ↓x_enil, ↓x_econs, ↓x_kv0, ↓x_kv, ↓x_ono, ↓x_oso, ↓x_cno, ↓x_cso, ↓x_val, ↓x_rng1, ↓x_rng2, ↓x_enum, ↓x_gvar, ↓x_gtup, ↓x_gtupR, ↓x_gsub, ↓x_gnil, ↓x_gcons, ↓x_snil, ↓x_scons, ↓x_pass, ↓x_expr, ↓x_ret, ↓x_retN, ↓x_set, ↓x_aug, ↓x_augO, ↓x_augA, ↓x_augS, ↓x_iff, ↓x_for, ↓x_whl, ↓x_brk, ↓x_cnt, ↓x_seqN, ↓x_seqR, ↓x_seqB, ↓x_seqC, ↓x_finR, ↓x_finN, ↓x_lk, ↓x_negR, ↓x_notR, ↓x_cnd, ↓x_oiR, ↓x_opt, ↓x_ob, ↓x_r1, ↓x_r2, ↓x_valT, ↓x_valF, ↓x_lst', ↓x_dk', ↓x_valL, ↓x_enumL, ↓x_mthL, ↓x_mth_append, ↓x_mth_extend, ↓x_mth_pop, ↓x_mth_get, ↓x_newT, ↓x_newL, ↓x_dicR, ↓x_add, ↓x_sub, ↓x_mul, ↓x_fdiv, ↓x_mod, ↓x_pow, ↓x_tadd, ↓x_ladd, ↓x_lt, ↓x_le, ↓x_gt, ↓x_ge, ↓x_eq, ↓x_ne, ↓x_inn, ↓x_nin, ↓x_tix, ↓x_rix, ↓x_ixL, ↓x_ixD, ↓x_setD, ↓x_stD, ↓x_stL, ↓x_app, ↓x_if, ↓x_ext, ↓x_pop, ↓x_lenT, ↓x_lenR, ↓x_lenL, ↓x_listT, ↓x_listL, ↓x_tupL, ↓x_tupT, ↓x_sortT, ↓x_sortL, ↓x_all, ↓x_any, ↓x_sum, ↓x_max2, ↓x_min2, ↓x_toint, ↓x_repr, ↓x_rep, ↓x_slcT, ↓x_slcF, ↓x_slcL, ↓x_revL, ↓x_ssetL, ↓x_isi_int, ↓x_isi_bool, ↓x_isi_NoneType, ↓x_isi_str, ↓x_isi_tuple, ↓x_isi_list, ↓gx_bd, ↓gx_ok, ↓x_loopN, ↓x_loopC, ↓x_loopB, ↓x_loopR, ty_NoneType_int, ty_NoneType_bool, ty_NoneType_str, ty_NoneType_list, ty_NoneType_tuple, ty_NoneType_dict, ty_int_int, ty_int_bool, ty_int_str, ty_int_list, ty_int_tuple, ty_int_dict, ty_bool_int, ty_bool_bool, ty_bool_str, ty_bool_list, ty_bool_tuple, ty_bool_dict, ty_str_int, ty_str_bool, ty_str_str, ty_str_list, ty_str_tuple, ty_str_dict, ty_tuple_int, ty_tuple_bool, ty_tuple_str, ty_tuple_list, ty_tuple_tuple, ty_tuple_dict, ty_list_int, ty_list_bool, ty_list_str, ty_list_list, ty_list_tuple, ty_list_dict, ty_dict_int, ty_dict_bool, ty_dict_str, ty_dict_list, ty_dict_tuple, ty_dict_dict, at_0, at_1, at_2, at_3, at_4, nat_0, nat_1, nat_2, nat_3, nat_4, nat_5, nat_6, at_end, at_end1, at_end2, at_end3, bools_t, all_t, Nat.reduceLT, Nat.reduceLeDiff, Int.reduceLT, Int.reduceLE, Int.reduceAdd, Int.reduceSub, Int.reduceMul, Int.reducePow, Int.reduceToNat, Int.reduceNeg, ifx_t, ifx_f, ifx_n, gx_ok, eqT_int, List.getElem?_cons_zero, List.getElem?_cons_succ, List.set_cons_zero, List.set_cons_succ, List.map_cons, List.map_nil, List.nil_append, List.cons_append, List.replicate_succ, List.replicate_zero, List.length_cons, List.length_nil, List.any_cons, List.any_nil, Nat.reduceAdd, Nat.reduceSub, Bool.or_false, Bool.or_true, Bool.false_or, Bool.true_or, Bool.not_true, Bool.not_false, Option.map_some, Option.bind_some, decide_true, decide_false, true_and, and_true, wipeL, ↓gg_KINDS]
  exact q
theorem isint {i : Int} : callN D (n + 1) "is_integer" [.int i] h = .ok (.bl true) h := by
  obtain ⟨a, h1, e, rfl, rfl⟩ := gx_ex (g_isint (n := n) (i := i) (h := h) (Q := fun a h1 => a = .bl true ∧ h1 = h) ⟨rfl, rfl⟩)
  exact e
theorem g_btw {i a b : Int} (hb : a ≤ i ∧ i ≤ b) (q : Q (.bl true) h) : Gx (callN D (n + 2) "is_between" [.int i, .int a, .int b] h) (P := ⟨Q⟩) := by
  refine call_gx f_is_between rfl ?_
  simp only [↓x_var, ↓x_int, ↓x_bl, ↓x_non, ↓x_str, ↓x_bin, ↓x_cmp, ↓x_idx, ↓x_neg, ↓x_not, ↓x_isN, ↓x_isnN, ↓x_rev, ↓x_sset, ↓x_isiT, ↓x_chn, ↓x_ite, ↓x_and, ↓x_or, ↓x_and1, ↓x_or1, ↓x_and2, ↓x_or2, ↓x_tup, ↓x_lst, ↓x_dic, ↓x_slc, ↓x_call, ↓x_callK, ↓x_blt, ↓x_mth, ↓x_rngL, ↓x_rngT, ↓x_comp, ↓x_enil, ↓x_econs, ↓x_kv0, ↓x_kv, ↓x_ono, ↓x_oso, ↓x_cno, ↓x_cso, ↓x_val, ↓x_rng1, ↓x_rng2, ↓x_enum, ↓x_gvar, ↓x_gtup, ↓x_gtupR, ↓x_gsub, ↓x_gnil, ↓x_gcons, ↓x_snil, ↓x_scons, ↓x_pass, ↓x_expr, ↓x_ret, ↓x_retN, ↓x_set, ↓x_aug, ↓x_augO, ↓x_augA, ↓x_augS, ↓x_iff, ↓x_for, ↓x_whl, ↓x_brk, ↓x_cnt, ↓x_seqN, ↓x_seqR, ↓x_seqB, ↓x_seqC, ↓x_finR, ↓x_finN, ↓x_lk, ↓x_negR, ↓x_notR, ↓x_cnd, ↓x_oiR, ↓x_opt, ↓x_ob, ↓x_r1, ↓x_r2, ↓x_valT, ↓x_valF, ↓x_lst', ↓x_dk', ↓x_valL, ↓x_enumL, ↓x_mthL, ↓x_mth_append, ↓x_mth_extend, ↓x_mth_pop, ↓x_mth_get, ↓x_newT, ↓x_newL, ↓x_dicR, ↓x_add, ↓x_sub, ↓x_mul, ↓x_fdiv, ↓x_mod, ↓x_pow, ↓x_tadd, ↓x_ladd, ↓x_lt, ↓x_le, ↓x_gt, ↓x_ge, ↓x_eq, ↓x_ne, ↓x_inn, ↓x_nin, ↓x_tix, ↓x_rix, ↓x_ixL, ↓x_ixD, ↓x_setD, ↓x_stD, ↓x_stL, ↓x_app, ↓x_if, ↓x_ext, ↓x_pop, ↓x_lenT, ↓x_lenR, ↓x_lenL, ↓x_listT, ↓x_listL, ↓x_tupL, ↓x_tupT, ↓x_sortT, ↓x_sortL, ↓x_all, ↓x_any, ↓x_sum, ↓x_max2, ↓x_min2, ↓x_toint, ↓x_repr, ↓x_rep, ↓x_slcT, ↓x_slcF, ↓x_slcL, ↓x_revL, ↓x_ssetL, ↓x_isi_int, ↓x_isi_bool, ↓x_isi_NoneType, ↓x_isi_str, ↓x_isi_tuple, ↓x_isi_list, ↓gx_bd, ↓gx_ok, ↓x_loopN, ↓x_loopC, ↓x_loopB, ↓x_loopR, ty_NoneType_int, ty_NoneType_bool, ty_NoneType_str, ty_NoneType_list, ty_NoneType_tuple, ty_NoneType_dict, ty_int_int, ty_int_bool, ty_int_str, ty_int_list, ty_int_tuple, ty_int_dict, ty_bool_int, ty_bool_bool, ty_bool_str, ty_bool_list, ty_bool_tuple, ty_bool_dict, ty_str_int, ty_str_bool, ty_str_str, ty_str_list, ty_str_tuple, ty_str_dict, ty_tuple_int, ty_tuple_bool, ty_tuple_str, ty_tuple_list, ty_tuple_tuple, ty_tuple_dict, ty_list_int, ty_list_bool, ty_list_str, ty_list_list, ty_list_tuple, ty_list_dict, ty_dict_int, ty_dict_bool, ty_dict_str, ty_dict_list, ty_dict_tuple, ty_dict_dict, at_0, at_1, at_2, at_3, at_4, nat_0, nat_1, nat_2, nat_3, nat_4, nat_5, nat_6, at_end, at_end1, at_end2, at_end3, bools_t, all_t, Nat.reduceLT, Nat.reduceLeDiff, Int.reduceLT, Int.reduceLE, Int.reduceAdd, Int.reduceSub, Int.reduceMul, Int.reducePow, Int.reduceToNat, Int.reduceNeg, ifx_t, ifx_f, ifx_n, gx_ok, eqT_int, List.getElem?_cons_zero, List.getElem?_cons_succ, List.set_cons_zero, List.set_cons_succ, List.map_cons, List.map_nil, List.nil_append, List.cons_append, List.replicate_succ, List.replicate_zero, List.length_cons, List.length_nil, List.any_cons, List.any_nil, Nat.reduceAdd, Nat.reduceSub, Bool.or_false, Bool.or_true, Bool.false_or, Bool.true_or, Bool.not_true, Bool.not_false, Option.map_some, Option.bind_some, decide_true, decide_false, true_and, and_true, wipeL, ↓gg_KINDS, isint, hb.1, hb.2]
  exact q
theorem btw {i a b : Int} (hb : a ≤ i ∧ i ≤ b) : callN D (n + 2) "is_between" [.int i, .int a, .int b] h = .ok (.bl true) h := by
  obtain ⟨x, h1, e, rfl, rfl⟩ := gx_ex (g_btw (n := n) (h := h) hb (Q := fun a h1 => a = .bl true ∧ h1 = h) ⟨rfl, rfl⟩)
  exact e
theorem g_tie {m : Int} {t : Tie} (g : GoodTie m 3 t) (q : Q (.bl true) h) : Gx (callN D (n + 3) "is_tie" [.int m, tieT t] h) (P := ⟨Q⟩) := by
  obtain ⟨a, b, c⟩ := t
  obtain ⟨h1, h2, h3, h4⟩ := g
  dsimp only at h1 h2 h3 h4
  unfold tieT
  refine call_gx f_is_tie rfl ?_
  simp only [↓x_var, ↓x_int, ↓x_bl, ↓x_non, ↓x_str, ↓x_bin, ↓x_cmp, ↓x_idx, ↓x_neg, ↓x_not, ↓x_isN, ↓x_isnN, ↓x_rev, ↓x_sset, ↓x_isiT, ↓x_chn, ↓x_ite, ↓x_and, ↓x_or, ↓x_and1, ↓x_or1, ↓x_and2, ↓x_or2, ↓x_tup, ↓x_lst, ↓x_dic, ↓x_slc, ↓x_call, ↓x_callK, ↓x_blt, ↓x_mth, ↓x_rngL, ↓x_rngT, ↓x_comp, ↓x_enil, ↓x_econs, ↓x_kv0, ↓x_kv, ↓x_ono, ↓x_oso, ↓x_cno, ↓x_cso, ↓x_val, ↓x_rng1, ↓x_rng2, ↓x_enum, ↓x_gvar, ↓x_gtup, ↓x_gtupR, ↓x_gsub, ↓x_gnil, ↓x_gcons, ↓x_snil, ↓x_scons, ↓x_pass, ↓x_expr, ↓x_ret, ↓x_retN, ↓x_set, ↓x_aug, ↓x_augO, ↓x_augA, ↓x_augS, ↓x_iff, ↓x_for, ↓x_whl, ↓x_brk, ↓x_cnt, ↓x_seqN, ↓x_seqR, ↓x_seqB, ↓x_seqC, ↓x_finR, ↓x_finN, ↓x_lk, ↓x_negR, ↓x_notR, ↓x_cnd, ↓x_oiR, ↓x_opt, ↓x_ob, ↓x_r1, ↓x_r2, ↓x_valT, ↓x_valF, ↓x_lst', ↓x_dk', ↓x_valL, ↓x_enumL, ↓x_mthL, ↓x_mth_append, ↓x_mth_extend, ↓x_mth_pop, ↓x_mth_get, ↓x_newT, ↓x_newL, ↓x_dicR, ↓x_add, ↓x_sub, ↓x_mul, ↓x_fdiv, ↓x_mod, ↓x_pow, ↓x_tadd, ↓x_ladd, ↓x_lt, ↓x_le, ↓x_gt, ↓x_ge, ↓x_eq, ↓x_ne, ↓x_inn, ↓x_nin, ↓x_tix, ↓x_rix, ↓x_ixL, ↓x_ixD, ↓x_setD, ↓x_stD, ↓x_stL, ↓x_app, ↓x_if, ↓x_ext, ↓x_pop, ↓x_lenT, ↓x_lenR, ↓x_lenL, ↓x_listT, ↓x_listL, ↓x_tupL, ↓x_tupT, ↓x_sortT, ↓x_sortL, ↓x_all, ↓x_any, ↓x_sum, ↓x_max2, ↓x_min2, ↓x_toint, ↓x_repr, ↓x_rep, ↓x_slcT, ↓x_slcF, ↓x_slcL, ↓x_revL, ↓x_ssetL, ↓x_isi_int, ↓x_isi_bool, ↓x_isi_NoneType, ↓x_isi_str, ↓x_isi_tuple, ↓x_isi_list, ↓gx_bd, ↓gx_ok, ↓x_loopN, ↓x_loopC, ↓x_loopB, ↓x_loopR, ty_NoneType_int, ty_NoneType_bool, ty_NoneType_str, ty_NoneType_list, ty_NoneType_tuple, ty_NoneType_dict, ty_int_int, ty_int_bool, ty_int_str, ty_int_list, ty_int_tuple, ty_int_dict, ty_bool_int, ty_bool_bool, ty_bool_str, ty_bool_list, ty_bool_tuple, ty_bool_dict, ty_str_int, ty_str_bool, ty_str_str, ty_str_list, ty_str_tuple, ty_str_dict, ty_tuple_int, ty_tuple_bool, ty_tuple_str, ty_tuple_list, ty_tuple_tuple, ty_tuple_dict, ty_list_int, ty_list_bool, ty_list_str, ty_list_list, ty_list_tuple, ty_list_dict, ty_dict_int, ty_dict_bool, ty_dict_str, ty_dict_list, ty_dict_tuple, ty_dict_dict, at_0, at_1, at_2, at_3, at_4, nat_0, nat_1, nat_2, nat_3, nat_4, nat_5, nat_6, at_end, at_end1, at_end2, at_end3, bools_t, all_t, Nat.reduceLT, Nat.reduceLeDiff, Int.reduceLT, Int.reduceLE, Int.reduceAdd, Int.reduceSub, Int.reduceMul, Int.reducePow, Int.reduceToNat, Int.reduceNeg, ifx_t, ifx_f, ifx_n, gx_ok, eqT_int, List.getElem?_cons_zero, List.getElem?_cons_succ, List.set_cons_zero, List.set_cons_succ, List.map_cons, List.map_nil, List.nil_append, List.cons_append, List.replicate_succ, List.replicate_zero, List.length_cons, List.length_nil, List.any_cons, List.any_nil, Nat.reduceAdd, Nat.reduceSub, Bool.or_false, Bool.or_true, Bool.false_or, Bool.true_or, Bool.not_true, Bool.not_false, Option.map_some, Option.bind_some, decide_true, decide_false, true_and, and_true, wipeL, ↓gg_KINDS, btw (show 0 ≤ a ∧ a ≤ m - 1 by omega), btw (show 0 ≤ b ∧ b ≤ m - 1 by omega), btw (show 0 ≤ c ∧ c ≤ 2 by omega), h3]
  exact q
theorem tie {m : Int} {t : Tie} (g : GoodTie m 3 t) : callN D (n + 3) "is_tie" [.int m, tieT t] h = .ok (.bl true) h := by
  obtain ⟨x, h1, e, rfl, rfl⟩ := gx_ex (g_tie (n := n) (h := h) g (Q := fun a h1 => a = .bl true ∧ h1 = h) ⟨rfl, rfl⟩)
  exact e
theorem GoodTie.up {m k : Int} {t : Tie} (g : GoodTie m k t) (h : k ≤ 3) : GoodTie m 3 t := ⟨g.1, g.2.1, g.2.2.1, g.2.2.2.1, by have := g.2.2.2.2; omega⟩
theorem g_web {w : Int × List Tie} {k : Int} (g : GoodWeb k w) (k3 : k ≤ 3) (q : ∀ h', Keep [] h h' → Q (.bl true) h') : Gx (callN D (n + 4) "is_web_value" [webT w] h) (P := ⟨Q⟩) := by
  obtain ⟨m, L⟩ := w
  have n1 := g.n1
  have gt := g.tie
  have gs := g.srt
  have gl := g.len
  dsimp only at n1 gt gs gl
  unfold webT
  refine call_gx f_is_web_value rfl ?_
  simp only [↓x_var, ↓x_int, ↓x_bl, ↓x_non, ↓x_str, ↓x_bin, ↓x_cmp, ↓x_idx, ↓x_neg, ↓x_not, ↓x_isN, ↓x_isnN, ↓x_rev, ↓x_sset, ↓x_isiT, ↓x_chn, ↓x_ite, ↓x_and, ↓x_or, ↓x_and1, ↓x_or1, ↓x_and2, ↓x_or2, ↓x_tup, ↓x_lst, ↓x_dic, ↓x_slc, ↓x_call, ↓x_callK, ↓x_blt, ↓x_mth, ↓x_rngL, ↓x_rngT, ↓x_comp, ↓x_enil, ↓x_econs, ↓x_kv0, ↓x_kv, ↓x_ono, ↓x_oso, ↓x_cno, ↓x_cso, ↓x_val, ↓x_rng1, ↓x_rng2, ↓x_enum, ↓x_gvar, ↓x_gtup, ↓x_gtupR, ↓x_gsub, ↓x_gnil, ↓x_gcons, ↓x_snil, ↓x_scons, ↓x_pass, ↓x_expr, ↓x_ret, ↓x_retN, ↓x_set, ↓x_aug, ↓x_augO, ↓x_augA, ↓x_augS, ↓x_iff, ↓x_for, ↓x_whl, ↓x_brk, ↓x_cnt, ↓x_seqN, ↓x_seqR, ↓x_seqB, ↓x_seqC, ↓x_finR, ↓x_finN, ↓x_lk, ↓x_negR, ↓x_notR, ↓x_cnd, ↓x_oiR, ↓x_opt, ↓x_ob, ↓x_r1, ↓x_r2, ↓x_valT, ↓x_valF, ↓x_lst', ↓x_dk', ↓x_valL, ↓x_enumL, ↓x_mthL, ↓x_mth_append, ↓x_mth_extend, ↓x_mth_pop, ↓x_mth_get, ↓x_newT, ↓x_newL, ↓x_dicR, ↓x_add, ↓x_sub, ↓x_mul, ↓x_fdiv, ↓x_mod, ↓x_pow, ↓x_tadd, ↓x_ladd, ↓x_lt, ↓x_le, ↓x_gt, ↓x_ge, ↓x_eq, ↓x_ne, ↓x_inn, ↓x_nin, ↓x_tix, ↓x_rix, ↓x_ixL, ↓x_ixD, ↓x_setD, ↓x_stD, ↓x_stL, ↓x_app, ↓x_if, ↓x_ext, ↓x_pop, ↓x_lenT, ↓x_lenR, ↓x_lenL, ↓x_listT, ↓x_listL, ↓x_tupL, ↓x_tupT, ↓x_sortT, ↓x_sortL, ↓x_all, ↓x_any, ↓x_sum, ↓x_max2, ↓x_min2, ↓x_toint, ↓x_repr, ↓x_rep, ↓x_slcT, ↓x_slcF, ↓x_slcL, ↓x_revL, ↓x_ssetL, ↓x_isi_int, ↓x_isi_bool, ↓x_isi_NoneType, ↓x_isi_str, ↓x_isi_tuple, ↓x_isi_list, ↓gx_bd, ↓gx_ok, ↓x_loopN, ↓x_loopC, ↓x_loopB, ↓x_loopR, ty_NoneType_int, ty_NoneType_bool, ty_NoneType_str, ty_NoneType_list, ty_NoneType_tuple, ty_NoneType_dict, ty_int_int, ty_int_bool, ty_int_str, ty_int_list, ty_int_tuple, ty_int_dict, ty_bool_int, ty_bool_bool, ty_bool_str, ty_bool_list, ty_bool_tuple, ty_bool_dict, ty_str_int, ty_str_bool, ty_str_str, ty_str_list, ty_str_tuple, ty_str_dict, ty_tuple_int, ty_tuple_bool, ty_tuple_str, ty_tuple_list, ty_tuple_tuple, ty_tuple_dict, ty_list_int, ty_list_bool, ty_list_str, ty_list_list, ty_list_tuple, ty_list_dict, ty_dict_int, ty_dict_bool, ty_dict_str, ty_dict_list, ty_dict_tuple, ty_dict_dict, at_0, at_1, at_2, at_3, at_4, nat_0, nat_1, nat_2, nat_3, nat_4, nat_5, nat_6, at_end, at_end1, at_end2, at_end3, bools_t, all_t, Nat.reduceLT, Nat.reduceLeDiff, Int.reduceLT, Int.reduceLE, Int.reduceAdd, Int.reduceSub, Int.reduceMul, Int.reducePow, Int.reduceToNat, Int.reduceNeg, ifx_t, ifx_f, ifx_n, gx_ok, eqT_int, List.getElem?_cons_zero, List.getElem?_cons_succ, List.set_cons_zero, List.set_cons_succ, List.map_cons, List.map_nil, List.nil_append, List.cons_append, List.replicate_succ, List.replicate_zero, List.length_cons, List.length_nil, List.any_cons, List.any_nil, Nat.reduceAdd, Nat.reduceSub, Bool.or_false, Bool.or_true, Bool.false_or, Bool.true_or, Bool.not_true, Bool.not_false, Option.map_some, Option.bind_some, decide_true, decide_false, true_and, and_true, wipeL, ↓gg_KINDS, isint, show ¬ m < 1 by omega]
  refine comp_map (fun _ => .bl true) (fun h' => h' = h) rfl (by simp; omega) (fun _ _ p hp => by simp at hp) (fun x h1 hx hj => ?_) (fun h1 hj => ?_)
  · subst hj
    obtain ⟨t, ht, rfl⟩ := List.mem_map.mp hx
    simp only [↓x_var, ↓x_int, ↓x_bl, ↓x_non, ↓x_str, ↓x_bin, ↓x_cmp, ↓x_idx, ↓x_neg, ↓x_not, ↓x_isN, ↓x_isnN, ↓x_rev, ↓x_sset, ↓x_isiT, ↓x_chn, ↓x_ite, ↓x_and, ↓x_or, ↓x_and1, ↓x_or1, ↓x_and2, ↓x_or2, ↓x_tup, ↓x_lst, ↓x_dic, ↓x_slc, ↓x_call, ↓x_callK, ↓x_blt, ↓x_mth, ↓x_rngL, ↓x_rngT, ↓x_comp, ↓x_enil, ↓x_econs, ↓x_kv0, ↓x_kv, ↓x_ono, ↓x_oso, ↓x_cno, ↓x_cso, ↓x_val, ↓x_rng1, ↓x_rng2, ↓x_enum, ↓x_gvar, ↓x_gtup, ↓x_gtupR, ↓x_gsub, ↓x_gnil, ↓x_gcons, ↓x_snil, ↓x_scons, ↓x_pass, ↓x_expr, ↓x_ret, ↓x_retN, ↓x_set, ↓x_aug, ↓x_augO, ↓x_augA, ↓x_augS, ↓x_iff, ↓x_for, ↓x_whl, ↓x_brk, ↓x_cnt, ↓x_seqN, ↓x_seqR, ↓x_seqB, ↓x_seqC, ↓x_finR, ↓x_finN, ↓x_lk, ↓x_negR, ↓x_notR, ↓x_cnd, ↓x_oiR, ↓x_opt, ↓x_ob, ↓x_r1, ↓x_r2, ↓x_valT, ↓x_valF, ↓x_lst', ↓x_dk', ↓x_valL, ↓x_enumL, ↓x_mthL, ↓x_mth_append, ↓x_mth_extend, ↓x_mth_pop, ↓x_mth_get, ↓x_newT, ↓x_newL, ↓x_dicR, ↓x_add, ↓x_sub, ↓x_mul, ↓x_fdiv, ↓x_mod, ↓x_pow, ↓x_tadd, ↓x_ladd, ↓x_lt, ↓x_le, ↓x_gt, ↓x_ge, ↓x_eq, ↓x_ne, ↓x_inn, ↓x_nin, ↓x_tix, ↓x_rix, ↓x_ixL, ↓x_ixD, ↓x_setD, ↓x_stD, ↓x_stL, ↓x_app, ↓x_if, ↓x_ext, ↓x_pop, ↓x_lenT, ↓x_lenR, ↓x_lenL, ↓x_listT, ↓x_listL, ↓x_tupL, ↓x_tupT, ↓x_sortT, ↓x_sortL, ↓x_all, ↓x_any, ↓x_sum, ↓x_max2, ↓x_min2, ↓x_toint, ↓x_repr, ↓x_rep, ↓x_slcT, ↓x_slcF, ↓x_slcL, ↓x_revL, ↓x_ssetL, ↓x_isi_int, ↓x_isi_bool, ↓x_isi_NoneType, ↓x_isi_str, ↓x_isi_tuple, ↓x_isi_list, ↓gx_bd, ↓gx_ok, ↓x_loopN, ↓x_loopC, ↓x_loopB, ↓x_loopR, ty_NoneType_int, ty_NoneType_bool, ty_NoneType_str, ty_NoneType_list, ty_NoneType_tuple, ty_NoneType_dict, ty_int_int, ty_int_bool, ty_int_str, ty_int_list, ty_int_tuple, ty_int_dict, ty_bool_int, ty_bool_bool, ty_bool_str, ty_bool_list, ty_bool_tuple, ty_bool_dict, ty_str_int, ty_str_bool, ty_str_str, ty_str_list, ty_str_tuple, ty_str_dict, ty_tuple_int, ty_tuple_bool, ty_tuple_str, ty_tuple_list, ty_tuple_tuple, ty_tuple_dict, ty_list_int, ty_list_bool, ty_list_str, ty_list_list, ty_list_tuple, ty_list_dict, ty_dict_int, ty_dict_bool, ty_dict_str, ty_dict_list, ty_dict_tuple, ty_dict_dict, at_0, at_1, at_2, at_3, at_4, nat_0, nat_1, nat_2, nat_3, nat_4, nat_5, nat_6, at_end, at_end1, at_end2, at_end3, bools_t, all_t, Nat.reduceLT, Nat.reduceLeDiff, Int.reduceLT, Int.reduceLE, Int.reduceAdd, Int.reduceSub, Int.reduceMul, Int.reducePow, Int.reduceToNat, Int.reduceNeg, ifx_t, ifx_f, ifx_n, gx_ok, eqT_int, List.getElem?_cons_zero, List.getElem?_cons_succ, List.set_cons_zero, List.set_cons_succ, List.map_cons, List.map_nil, List.nil_append, List.cons_append, List.replicate_succ, List.replicate_zero, List.length_cons, List.length_nil, List.any_cons, List.any_nil, Nat.reduceAdd, Nat.reduceSub, Bool.or_false, Bool.or_true, Bool.false_or, Bool.true_or, Bool.not_true, Bool.not_false, Option.map_some, Option.bind_some, decide_true, decide_false, true_and, and_true, wipeL, ↓gg_KINDS, tie ((gt t ht).up k3)]
  · subst hj
    have st : ∀ h, sortT h (L.map tieT) = some (L.map tieT) := fun h => by
      rw [sortT_map (enc := tieT) (key := tieD) (fun _ _ => rfl) (sortable_ties L) (by omega), gs]
    have l1 : (L.map tieT).length ≤ 16777216 := by rw [List.length_map]; omega
    simp only [↓x_var, ↓x_int, ↓x_bl, ↓x_non, ↓x_str, ↓x_bin, ↓x_cmp, ↓x_idx, ↓x_neg, ↓x_not, ↓x_isN, ↓x_isnN, ↓x_rev, ↓x_sset, ↓x_isiT, ↓x_chn, ↓x_ite, ↓x_and, ↓x_or, ↓x_and1, ↓x_or1, ↓x_and2, ↓x_or2, ↓x_tup, ↓x_lst, ↓x_dic, ↓x_slc, ↓x_call, ↓x_callK, ↓x_blt, ↓x_mth, ↓x_rngL, ↓x_rngT, ↓x_comp, ↓x_enil, ↓x_econs, ↓x_kv0, ↓x_kv, ↓x_ono, ↓x_oso, ↓x_cno, ↓x_cso, ↓x_val, ↓x_rng1, ↓x_rng2, ↓x_enum, ↓x_gvar, ↓x_gtup, ↓x_gtupR, ↓x_gsub, ↓x_gnil, ↓x_gcons, ↓x_snil, ↓x_scons, ↓x_pass, ↓x_expr, ↓x_ret, ↓x_retN, ↓x_set, ↓x_aug, ↓x_augO, ↓x_augA, ↓x_augS, ↓x_iff, ↓x_for, ↓x_whl, ↓x_brk, ↓x_cnt, ↓x_seqN, ↓x_seqR, ↓x_seqB, ↓x_seqC, ↓x_finR, ↓x_finN, ↓x_lk, ↓x_negR, ↓x_notR, ↓x_cnd, ↓x_oiR, ↓x_opt, ↓x_ob, ↓x_r1, ↓x_r2, ↓x_valT, ↓x_valF, ↓x_lst', ↓x_dk', ↓x_valL, ↓x_enumL, ↓x_mthL, ↓x_mth_append, ↓x_mth_extend, ↓x_mth_pop, ↓x_mth_get, ↓x_newT, ↓x_newL, ↓x_dicR, ↓x_add, ↓x_sub, ↓x_mul, ↓x_fdiv, ↓x_mod, ↓x_pow, ↓x_tadd, ↓x_ladd, ↓x_lt, ↓x_le, ↓x_gt, ↓x_ge, ↓x_eq, ↓x_ne, ↓x_inn, ↓x_nin, ↓x_tix, ↓x_rix, ↓x_ixL, ↓x_ixD, ↓x_setD, ↓x_stD, ↓x_stL, ↓x_app, ↓x_if, ↓x_ext, ↓x_pop, ↓x_lenT, ↓x_lenR, ↓x_lenL, ↓x_listT, ↓x_listL, ↓x_tupL, ↓x_tupT, ↓x_sortT, ↓x_sortL, ↓x_all, ↓x_any, ↓x_sum, ↓x_max2, ↓x_min2, ↓x_toint, ↓x_repr, ↓x_rep, ↓x_slcT, ↓x_slcF, ↓x_slcL, ↓x_revL, ↓x_ssetL, ↓x_isi_int, ↓x_isi_bool, ↓x_isi_NoneType, ↓x_isi_str, ↓x_isi_tuple, ↓x_isi_list, ↓gx_bd, ↓gx_ok, ↓x_loopN, ↓x_loopC, ↓x_loopB, ↓x_loopR, ty_NoneType_int, ty_NoneType_bool, ty_NoneType_str, ty_NoneType_list, ty_NoneType_tuple, ty_NoneType_dict, ty_int_int, ty_int_bool, ty_int_str, ty_int_list, ty_int_tuple, ty_int_dict, ty_bool_int, ty_bool_bool, ty_bool_str, ty_bool_list, ty_bool_tuple, ty_bool_dict, ty_str_int, ty_str_bool, ty_str_str, ty_str_list, ty_str_tuple, ty_str_dict, ty_tuple_int, ty_tuple_bool, ty_tuple_str, ty_tuple_list, ty_tuple_tuple, ty_tuple_dict, ty_list_int, ty_list_bool, ty_list_str, ty_list_list, ty_list_tuple, ty_list_dict, ty_dict_int, ty_dict_bool, ty_dict_str, ty_dict_list, ty_dict_tuple, ty_dict_dict, at_0, at_1, at_2, at_3, at_4, nat_0, nat_1, nat_2, nat_3, nat_4, nat_5, nat_6, at_end, at_end1, at_end2, at_end3, bools_t, all_t, Nat.reduceLT, Nat.reduceLeDiff, Int.reduceLT, Int.reduceLE, Int.reduceAdd, Int.reduceSub, Int.reduceMul, Int.reducePow, Int.reduceToNat, Int.reduceNeg, ifx_t, ifx_f, ifx_n, gx_ok, eqT_int, List.getElem?_cons_zero, List.getElem?_cons_succ, List.set_cons_zero, List.set_cons_succ, List.map_cons, List.map_nil, List.nil_append, List.cons_append, List.replicate_succ, List.replicate_zero, List.length_cons, List.length_nil, List.any_cons, List.any_nil, Nat.reduceAdd, Nat.reduceSub, Bool.or_false, Bool.or_true, Bool.false_or, Bool.true_or, Bool.not_true, Bool.not_false, Option.map_some, Option.bind_some, decide_true, decide_false, true_and, and_true, wipeL, ↓gg_KINDS, st, l1]
    rw [eqT_same (d := .list (L.map tieD)) (dat_l at_end1 (pdats_map tieT tieD L fun _ _ => rfl)) (dat_l at_end (pdats_map tieT tieD L fun _ _ => rfl)) (shaped_l tieD L (fun _ _ => rfl) (fun _ _ => by show (1 : Nat) ≤ 63; decide))]
    simp only [↓x_var, ↓x_int, ↓x_bl, ↓x_non, ↓x_str, ↓x_bin, ↓x_cmp, ↓x_idx, ↓x_neg, ↓x_not, ↓x_isN, ↓x_isnN, ↓x_rev, ↓x_sset, ↓x_isiT, ↓x_chn, ↓x_ite, ↓x_and, ↓x_or, ↓x_and1, ↓x_or1, ↓x_and2, ↓x_or2, ↓x_tup, ↓x_lst, ↓x_dic, ↓x_slc, ↓x_call, ↓x_callK, ↓x_blt, ↓x_mth, ↓x_rngL, ↓x_rngT, ↓x_comp, ↓x_enil, ↓x_econs, ↓x_kv0, ↓x_kv, ↓x_ono, ↓x_oso, ↓x_cno, ↓x_cso, ↓x_val, ↓x_rng1, ↓x_rng2, ↓x_enum, ↓x_gvar, ↓x_gtup, ↓x_gtupR, ↓x_gsub, ↓x_gnil, ↓x_gcons, ↓x_snil, ↓x_scons, ↓x_pass, ↓x_expr, ↓x_ret, ↓x_retN, ↓x_set, ↓x_aug, ↓x_augO, ↓x_augA, ↓x_augS, ↓x_iff, ↓x_for, ↓x_whl, ↓x_brk, ↓x_cnt, ↓x_seqN, ↓x_seqR, ↓x_seqB, ↓x_seqC, ↓x_finR, ↓x_finN, ↓x_lk, ↓x_negR, ↓x_notR, ↓x_cnd, ↓x_oiR, ↓x_opt, ↓x_ob, ↓x_r1, ↓x_r2, ↓x_valT, ↓x_valF, ↓x_lst', ↓x_dk', ↓x_valL, ↓x_enumL, ↓x_mthL, ↓x_mth_append, ↓x_mth_extend, ↓x_mth_pop, ↓x_mth_get, ↓x_newT, ↓x_newL, ↓x_dicR, ↓x_add, ↓x_sub, ↓x_mul, ↓x_fdiv, ↓x_mod, ↓x_pow, ↓x_tadd, ↓x_ladd, ↓x_lt, ↓x_le, ↓x_gt, ↓x_ge, ↓x_eq, ↓x_ne, ↓x_inn, ↓x_nin, ↓x_tix, ↓x_rix, ↓x_ixL, ↓x_ixD, ↓x_setD, ↓x_stD, ↓x_stL, ↓x_app, ↓x_if, ↓x_ext, ↓x_pop, ↓x_lenT, ↓x_lenR, ↓x_lenL, ↓x_listT, ↓x_listL, ↓x_tupL, ↓x_tupT, ↓x_sortT, ↓x_sortL, ↓x_all, ↓x_any, ↓x_sum, ↓x_max2, ↓x_min2, ↓x_toint, ↓x_repr, ↓x_rep, ↓x_slcT, ↓x_slcF, ↓x_slcL, ↓x_revL, ↓x_ssetL, ↓x_isi_int, ↓x_isi_bool, ↓x_isi_NoneType, ↓x_isi_str, ↓x_isi_tuple, ↓x_isi_list, ↓gx_bd, ↓gx_ok, ↓x_loopN, ↓x_loopC, ↓x_loopB, ↓x_loopR, ty_NoneType_int, ty_NoneType_bool, ty_NoneType_str, ty_NoneType_list, ty_NoneType_tuple, ty_NoneType_dict, ty_int_int, ty_int_bool, ty_int_str, ty_int_list, ty_int_tuple, ty_int_dict, ty_bool_int, ty_bool_bool, ty_bool_str, ty_bool_list, ty_bool_tuple, ty_bool_dict, ty_str_int, ty_str_bool, ty_str_str, ty_str_list, ty_str_tuple, ty_str_dict, ty_tuple_int, ty_tuple_bool, ty_tuple_str, ty_tuple_list, ty_tuple_tuple, ty_tuple_dict, ty_list_int, ty_list_bool, ty_list_str, ty_list_list, ty_list_tuple, ty_list_dict, ty_dict_int, ty_dict_bool, ty_dict_str, ty_dict_list, ty_dict_tuple, ty_dict_dict, at_0, at_1, at_2, at_3, at_4, nat_0, nat_1, nat_2, nat_3, nat_4, nat_5, nat_6, at_end, at_end1, at_end2, at_end3, bools_t, all_t, Nat.reduceLT, Nat.reduceLeDiff, Int.reduceLT, Int.reduceLE, Int.reduceAdd, Int.reduceSub, Int.reduceMul, Int.reducePow, Int.reduceToNat, Int.reduceNeg, ifx_t, ifx_f, ifx_n, gx_ok, eqT_int, List.getElem?_cons_zero, List.getElem?_cons_succ, List.set_cons_zero, List.set_cons_succ, List.map_cons, List.map_nil, List.nil_append, List.cons_append, List.replicate_succ, List.replicate_zero, List.length_cons, List.length_nil, List.any_cons, List.any_nil, Nat.reduceAdd, Nat.reduceSub, Bool.or_false, Bool.or_true, Bool.false_or, Bool.true_or, Bool.not_true, Bool.not_false, Option.map_some, Option.bind_some, decide_true, decide_false, true_and, and_true, wipeL, ↓gg_KINDS]
    exact q _ (((Keep.app _).trans (Keep.app _)).trans (Keep.app _))
theorem web {w : Int × List Tie} {k : Int} (g : GoodWeb k w) (k3 : k ≤ 3) : ∃ h', callN D (n + 4) "is_web_value" [webT w] h = .ok (.bl true) h' ∧ Keep [] h h' := by
  obtain ⟨x, h1, e, rfl, k⟩ := gx_ex (g_web (n := n) (h := h) g k3 (Q := fun a h1 => a = .bl true ∧ Keep [] h h1) fun h' k => ⟨rfl, k⟩)
  exact ⟨h1, e, k⟩
theorem g_growth {w : Int × List Tie} {k : Int} (g : GoodWeb k w) (k3 : k ≤ 3) (q : ∀ h', Keep [] h h' → Q (.bl true) h') : Gx (callN D (n + 5) "is_growth_value" [webT w] h) (P := ⟨Q⟩) := by
  refine call_gx f_is_growth_value rfl ?_
  obtain ⟨h1, e, kp⟩ := web (n := n) (h := h) g k3
  simp only [↓x_var, ↓x_int, ↓x_bl, ↓x_non, ↓x_str, ↓x_bin, ↓x_cmp, ↓x_idx, ↓x_neg, ↓x_not, ↓x_isN, ↓x_isnN, ↓x_rev, ↓x_sset, ↓x_isiT, ↓x_chn, ↓x_ite, ↓x_and, ↓x_or, ↓x_and1, ↓x_or1, ↓x_and2, ↓x_or2, ↓x_tup, ↓x_lst, ↓x_dic, ↓x_slc, ↓x_call, ↓x_callK, ↓x_blt, ↓x_mth, ↓x_rngL, ↓x_rngT, ↓x_comp, ↓x_enil, ↓x_econs, ↓x_kv0, ↓x_kv, ↓x_ono, ↓x_oso, ↓x_cno, ↓x_cso, ↓x_val, ↓x_rng1, ↓x_rng2, ↓x_enum, ↓x_gvar, ↓x_gtup, ↓x_gtupR, ↓x_gsub, ↓x_gnil, ↓x_gcons, ↓x_snil, ↓x_scons, ↓x_pass, ↓x_expr, ↓x_ret, ↓x_retN, ↓x_set, ↓x_aug, ↓x_augO, ↓x_augA, ↓x_augS, ↓x_iff, ↓x_for, ↓x_whl, ↓x_brk, ↓x_cnt, ↓x_seqN, ↓x_seqR, ↓x_seqB, ↓x_seqC, ↓x_finR, ↓x_finN, ↓x_lk, ↓x_negR, ↓x_notR, ↓x_cnd, ↓x_oiR, ↓x_opt, ↓x_ob, ↓x_r1, ↓x_r2, ↓x_valT, ↓x_valF, ↓x_lst', ↓x_dk', ↓x_valL, ↓x_enumL, ↓x_mthL, ↓x_mth_append, ↓x_mth_extend, ↓x_mth_pop, ↓x_mth_get, ↓x_newT, ↓x_newL, ↓x_dicR, ↓x_add, ↓x_sub, ↓x_mul, ↓x_fdiv, ↓x_mod, ↓x_pow, ↓x_tadd, ↓x_ladd, ↓x_lt, ↓x_le, ↓x_gt, ↓x_ge, ↓x_eq, ↓x_ne, ↓x_inn, ↓x_nin, ↓x_tix, ↓x_rix, ↓x_ixL, ↓x_ixD, ↓x_setD, ↓x_stD, ↓x_stL, ↓x_app, ↓x_if, ↓x_ext, ↓x_pop, ↓x_lenT, ↓x_lenR, ↓x_lenL, ↓x_listT, ↓x_listL, ↓x_tupL, ↓x_tupT, ↓x_sortT, ↓x_sortL, ↓x_all, ↓x_any, ↓x_sum, ↓x_max2, ↓x_min2, ↓x_toint, ↓x_repr, ↓x_rep, ↓x_slcT, ↓x_slcF, ↓x_slcL, ↓x_revL, ↓x_ssetL, ↓x_isi_int, ↓x_isi_bool, ↓x_isi_NoneType, ↓x_isi_str, ↓x_isi_tuple, ↓x_isi_list, ↓gx_bd, ↓gx_ok, ↓x_loopN, ↓x_loopC, ↓x_loopB, ↓x_loopR, ty_NoneType_int, ty_NoneType_bool, ty_NoneType_str, ty_NoneType_list, ty_NoneType_tuple, ty_NoneType_dict, ty_int_int, ty_int_bool, ty_int_str, ty_int_list, ty_int_tuple, ty_int_dict, ty_bool_int, ty_bool_bool, ty_bool_str, ty_bool_list, ty_bool_tuple, ty_bool_dict, ty_str_int, ty_str_bool, ty_str_str, ty_str_list, ty_str_tuple, ty_str_dict, ty_tuple_int, ty_tuple_bool, ty_tuple_str, ty_tuple_list, ty_tuple_tuple, ty_tuple_dict, ty_list_int, ty_list_bool, ty_list_str, ty_list_list, ty_list_tuple, ty_list_dict, ty_dict_int, ty_dict_bool, ty_dict_str, ty_dict_list, ty_dict_tuple, ty_dict_dict, at_0, at_1, at_2, at_3, at_4, nat_0, nat_1, nat_2, nat_3, nat_4, nat_5, nat_6, at_end, at_end1, at_end2, at_end3, bools_t, all_t, Nat.reduceLT, Nat.reduceLeDiff, Int.reduceLT, Int.reduceLE, Int.reduceAdd, Int.reduceSub, Int.reduceMul, Int.reducePow, Int.reduceToNat, Int.reduceNeg, ifx_t, ifx_f, ifx_n, gx_ok, eqT_int, List.getElem?_cons_zero, List.getElem?_cons_succ, List.set_cons_zero, List.set_cons_succ, List.map_cons, List.map_nil, List.nil_append, List.cons_append, List.replicate_succ, List.replicate_zero, List.length_cons, List.length_nil, List.any_cons, List.any_nil, Nat.reduceAdd, Nat.reduceSub, Bool.or_false, Bool.or_true, Bool.false_or, Bool.true_or, Bool.not_true, Bool.not_false, Option.map_some, Option.bind_some, decide_true, decide_false, true_and, and_true, wipeL, ↓gg_KINDS, e]
  unfold webT
  simp only [↓x_var, ↓x_int, ↓x_bl, ↓x_non, ↓x_str, ↓x_bin, ↓x_cmp, ↓x_idx, ↓x_neg, ↓x_not, ↓x_isN, ↓x_isnN, ↓x_rev, ↓x_sset, ↓x_isiT, ↓x_chn, ↓x_ite, ↓x_and, ↓x_or, ↓x_and1, ↓x_or1, ↓x_and2, ↓x_or2, ↓x_tup, ↓x_lst, ↓x_dic, ↓x_slc, ↓x_call, ↓x_callK, ↓x_blt, ↓x_mth, ↓x_rngL, ↓x_rngT, ↓x_comp, ↓x_enil, ↓x_econs, ↓x_kv0, ↓x_kv, ↓x_ono, ↓x_oso, ↓x_cno, ↓x_cso, ↓x_val, ↓x_rng1, ↓x_rng2, ↓x_enum, ↓x_gvar, ↓x_gtup, ↓x_gtupR, ↓x_gsub, ↓x_gnil, ↓x_gcons, ↓x_snil, ↓x_scons, ↓x_pass, ↓x_expr, ↓x_ret, ↓x_retN, ↓x_set, ↓x_aug, ↓x_augO, ↓x_augA, ↓x_augS, ↓x_iff, ↓x_for, ↓x_whl, ↓x_brk, ↓x_cnt, ↓x_seqN, ↓x_seqR, ↓x_seqB, ↓x_seqC, ↓x_finR, ↓x_finN, ↓x_lk, ↓x_negR, ↓x_notR, ↓x_cnd, ↓x_oiR, ↓x_opt, ↓x_ob, ↓x_r1, ↓x_r2, ↓x_valT, ↓x_valF, ↓x_lst', ↓x_dk', ↓x_valL, ↓x_enumL, ↓x_mthL, ↓x_mth_append, ↓x_mth_extend, ↓x_mth_pop, ↓x_mth_get, ↓x_newT, ↓x_newL, ↓x_dicR, ↓x_add, ↓x_sub, ↓x_mul, ↓x_fdiv, ↓x_mod, ↓x_pow, ↓x_tadd, ↓x_ladd, ↓x_lt, ↓x_le, ↓x_gt, ↓x_ge, ↓x_eq, ↓x_ne, ↓x_inn, ↓x_nin, ↓x_tix, ↓x_rix, ↓x_ixL, ↓x_ixD, ↓x_setD, ↓x_stD, ↓x_stL, ↓x_app, ↓x_if, ↓x_ext, ↓x_pop, ↓x_lenT, ↓x_lenR, ↓x_lenL, ↓x_listT, ↓x_listL, ↓x_tupL, ↓x_tupT, ↓x_sortT, ↓x_sortL, ↓x_all, ↓x_any, ↓x_sum, ↓x_max2, ↓x_min2, ↓x_toint, ↓x_repr, ↓x_rep, ↓x_slcT, ↓x_slcF, ↓x_slcL, ↓x_revL, ↓x_ssetL, ↓x_isi_int, ↓x_isi_bool, ↓x_isi_NoneType, ↓x_isi_str, ↓x_isi_tuple, ↓x_isi_list, ↓gx_bd, ↓gx_ok, ↓x_loopN, ↓x_loopC, ↓x_loopB, ↓x_loopR, ty_NoneType_int, ty_NoneType_bool, ty_NoneType_str, ty_NoneType_list, ty_NoneType_tuple, ty_NoneType_dict, ty_int_int, ty_int_bool, ty_int_str, ty_int_list, ty_int_tuple, ty_int_dict, ty_bool_int, ty_bool_bool, ty_bool_str, ty_bool_list, ty_bool_tuple, ty_bool_dict, ty_str_int, ty_str_bool, ty_str_str, ty_str_list, ty_str_tuple, ty_str_dict, ty_tuple_int, ty_tuple_bool, ty_tuple_str, ty_tuple_list, ty_tuple_tuple, ty_tuple_dict, ty_list_int, ty_list_bool, ty_list_str, ty_list_list, ty_list_tuple, ty_list_dict, ty_dict_int, ty_dict_bool, ty_dict_str, ty_dict_list, ty_dict_tuple, ty_dict_dict, at_0, at_1, at_2, at_3, at_4, nat_0, nat_1, nat_2, nat_3, nat_4, nat_5, nat_6, at_end, at_end1, at_end2, at_end3, bools_t, all_t, Nat.reduceLT, Nat.reduceLeDiff, Int.reduceLT, Int.reduceLE, Int.reduceAdd, Int.reduceSub, Int.reduceMul, Int.reducePow, Int.reduceToNat, Int.reduceNeg, ifx_t, ifx_f, ifx_n, gx_ok, eqT_int, List.getElem?_cons_zero, List.getElem?_cons_succ, List.set_cons_zero, List.set_cons_succ, List.map_cons, List.map_nil, List.nil_append, List.cons_append, List.replicate_succ, List.replicate_zero, List.length_cons, List.length_nil, List.any_cons, List.any_nil, Nat.reduceAdd, Nat.reduceSub, Bool.or_false, Bool.or_true, Bool.false_or, Bool.true_or, Bool.not_true, Bool.not_false, Option.map_some, Option.bind_some, decide_true, decide_false, true_and, and_true, wipeL, ↓gg_KINDS, g.n1, show (2 : Int) ≤ w.1 from g.n1]
  exact q _ kp
theorem growth {w : Int × List Tie} {k : Int} (g : GoodWeb k w) (k3 : k ≤ 3) : ∃ h', callN D (n + 5) "is_growth_value" [webT w] h = .ok (.bl true) h' ∧ Keep [] h h' := by
  obtain ⟨x, h1, e, rfl, k⟩ := gx_ex (g_growth (n := n) (h := h) g k3 (Q := fun a h1 => a = .bl true ∧ Keep [] h h1) fun h' k => ⟨rfl, k⟩)
  exact ⟨h1, e, k⟩
theorem g_below {w : Int × List Tie} {k : Int} (g : GoodWeb k w) (q : ∀ h', Keep [] h h' → Q (.bl true) h') : Gx (callN D (n + 1) "has_kinds_below" [webT w, .int k] h) (P := ⟨Q⟩) := by
  refine call_gx f_has_kinds_below rfl ?_
  have gl := g.len
  unfold webT
  simp only [↓x_var, ↓x_int, ↓x_bl, ↓x_non, ↓x_str, ↓x_bin, ↓x_cmp, ↓x_idx, ↓x_neg, ↓x_not, ↓x_isN, ↓x_isnN, ↓x_rev, ↓x_sset, ↓x_isiT, ↓x_chn, ↓x_ite, ↓x_and, ↓x_or, ↓x_and1, ↓x_or1, ↓x_and2, ↓x_or2, ↓x_tup, ↓x_lst, ↓x_dic, ↓x_slc, ↓x_call, ↓x_callK, ↓x_blt, ↓x_mth, ↓x_rngL, ↓x_rngT, ↓x_comp, ↓x_enil, ↓x_econs, ↓x_kv0, ↓x_kv, ↓x_ono, ↓x_oso, ↓x_cno, ↓x_cso, ↓x_val, ↓x_rng1, ↓x_rng2, ↓x_enum, ↓x_gvar, ↓x_gtup, ↓x_gtupR, ↓x_gsub, ↓x_gnil, ↓x_gcons, ↓x_snil, ↓x_scons, ↓x_pass, ↓x_expr, ↓x_ret, ↓x_retN, ↓x_set, ↓x_aug, ↓x_augO, ↓x_augA, ↓x_augS, ↓x_iff, ↓x_for, ↓x_whl, ↓x_brk, ↓x_cnt, ↓x_seqN, ↓x_seqR, ↓x_seqB, ↓x_seqC, ↓x_finR, ↓x_finN, ↓x_lk, ↓x_negR, ↓x_notR, ↓x_cnd, ↓x_oiR, ↓x_opt, ↓x_ob, ↓x_r1, ↓x_r2, ↓x_valT, ↓x_valF, ↓x_lst', ↓x_dk', ↓x_valL, ↓x_enumL, ↓x_mthL, ↓x_mth_append, ↓x_mth_extend, ↓x_mth_pop, ↓x_mth_get, ↓x_newT, ↓x_newL, ↓x_dicR, ↓x_add, ↓x_sub, ↓x_mul, ↓x_fdiv, ↓x_mod, ↓x_pow, ↓x_tadd, ↓x_ladd, ↓x_lt, ↓x_le, ↓x_gt, ↓x_ge, ↓x_eq, ↓x_ne, ↓x_inn, ↓x_nin, ↓x_tix, ↓x_rix, ↓x_ixL, ↓x_ixD, ↓x_setD, ↓x_stD, ↓x_stL, ↓x_app, ↓x_if, ↓x_ext, ↓x_pop, ↓x_lenT, ↓x_lenR, ↓x_lenL, ↓x_listT, ↓x_listL, ↓x_tupL, ↓x_tupT, ↓x_sortT, ↓x_sortL, ↓x_all, ↓x_any, ↓x_sum, ↓x_max2, ↓x_min2, ↓x_toint, ↓x_repr, ↓x_rep, ↓x_slcT, ↓x_slcF, ↓x_slcL, ↓x_revL, ↓x_ssetL, ↓x_isi_int, ↓x_isi_bool, ↓x_isi_NoneType, ↓x_isi_str, ↓x_isi_tuple, ↓x_isi_list, ↓gx_bd, ↓gx_ok, ↓x_loopN, ↓x_loopC, ↓x_loopB, ↓x_loopR, ty_NoneType_int, ty_NoneType_bool, ty_NoneType_str, ty_NoneType_list, ty_NoneType_tuple, ty_NoneType_dict, ty_int_int, ty_int_bool, ty_int_str, ty_int_list, ty_int_tuple, ty_int_dict, ty_bool_int, ty_bool_bool, ty_bool_str, ty_bool_list, ty_bool_tuple, ty_bool_dict, ty_str_int, ty_str_bool, ty_str_str, ty_str_list, ty_str_tuple, ty_str_dict, ty_tuple_int, ty_tuple_bool, ty_tuple_str, ty_tuple_list, ty_tuple_tuple, ty_tuple_dict, ty_list_int, ty_list_bool, ty_list_str, ty_list_list, ty_list_tuple, ty_list_dict, ty_dict_int, ty_dict_bool, ty_dict_str, ty_dict_list, ty_dict_tuple, ty_dict_dict, at_0, at_1, at_2, at_3, at_4, nat_0, nat_1, nat_2, nat_3, nat_4, nat_5, nat_6, at_end, at_end1, at_end2, at_end3, bools_t, all_t, Nat.reduceLT, Nat.reduceLeDiff, Int.reduceLT, Int.reduceLE, Int.reduceAdd, Int.reduceSub, Int.reduceMul, Int.reducePow, Int.reduceToNat, Int.reduceNeg, ifx_t, ifx_f, ifx_n, gx_ok, eqT_int, List.getElem?_cons_zero, List.getElem?_cons_succ, List.set_cons_zero, List.set_cons_succ, List.map_cons, List.map_nil, List.nil_append, List.cons_append, List.replicate_succ, List.replicate_zero, List.length_cons, List.length_nil, List.any_cons, List.any_nil, Nat.reduceAdd, Nat.reduceSub, Bool.or_false, Bool.or_true, Bool.false_or, Bool.true_or, Bool.not_true, Bool.not_false, Option.map_some, Option.bind_some, decide_true, decide_false, true_and, and_true, wipeL, ↓gg_KINDS]
  refine comp_map (fun _ => .bl true) (fun h' => h' = h) rfl (by simp; omega) (fun _ _ p hp => by simp at hp) (fun x h1 hx hj => ?_) (fun h1 hj => ?_)
  · subst hj
    obtain ⟨t, ht, rfl⟩ := List.mem_map.mp hx
    unfold tieT
    simp only [↓x_var, ↓x_int, ↓x_bl, ↓x_non, ↓x_str, ↓x_bin, ↓x_cmp, ↓x_idx, ↓x_neg, ↓x_not, ↓x_isN, ↓x_isnN, ↓x_rev, ↓x_sset, ↓x_isiT, ↓x_chn, ↓x_ite, ↓x_and, ↓x_or, ↓x_and1, ↓x_or1, ↓x_and2, ↓x_or2, ↓x_tup, ↓x_lst, ↓x_dic, ↓x_slc, ↓x_call, ↓x_callK, ↓x_blt, ↓x_mth, ↓x_rngL, ↓x_rngT, ↓x_comp, ↓x_enil, ↓x_econs, ↓x_kv0, ↓x_kv, ↓x_ono, ↓x_oso, ↓x_cno, ↓x_cso, ↓x_val, ↓x_rng1, ↓x_rng2, ↓x_enum, ↓x_gvar, ↓x_gtup, ↓x_gtupR, ↓x_gsub, ↓x_gnil, ↓x_gcons, ↓x_snil, ↓x_scons, ↓x_pass, ↓x_expr, ↓x_ret, ↓x_retN, ↓x_set, ↓x_aug, ↓x_augO, ↓x_augA, ↓x_augS, ↓x_iff, ↓x_for, ↓x_whl, ↓x_brk, ↓x_cnt, ↓x_seqN, ↓x_seqR, ↓x_seqB, ↓x_seqC, ↓x_finR, ↓x_finN, ↓x_lk, ↓x_negR, ↓x_notR, ↓x_cnd, ↓x_oiR, ↓x_opt, ↓x_ob, ↓x_r1, ↓x_r2, ↓x_valT, ↓x_valF, ↓x_lst', ↓x_dk', ↓x_valL, ↓x_enumL, ↓x_mthL, ↓x_mth_append, ↓x_mth_extend, ↓x_mth_pop, ↓x_mth_get, ↓x_newT, ↓x_newL, ↓x_dicR, ↓x_add, ↓x_sub, ↓x_mul, ↓x_fdiv, ↓x_mod, ↓x_pow, ↓x_tadd, ↓x_ladd, ↓x_lt, ↓x_le, ↓x_gt, ↓x_ge, ↓x_eq, ↓x_ne, ↓x_inn, ↓x_nin, ↓x_tix, ↓x_rix, ↓x_ixL, ↓x_ixD, ↓x_setD, ↓x_stD, ↓x_stL, ↓x_app, ↓x_if, ↓x_ext, ↓x_pop, ↓x_lenT, ↓x_lenR, ↓x_lenL, ↓x_listT, ↓x_listL, ↓x_tupL, ↓x_tupT, ↓x_sortT, ↓x_sortL, ↓x_all, ↓x_any, ↓x_sum, ↓x_max2, ↓x_min2, ↓x_toint, ↓x_repr, ↓x_rep, ↓x_slcT, ↓x_slcF, ↓x_slcL, ↓x_revL, ↓x_ssetL, ↓x_isi_int, ↓x_isi_bool, ↓x_isi_NoneType, ↓x_isi_str, ↓x_isi_tuple, ↓x_isi_list, ↓gx_bd, ↓gx_ok, ↓x_loopN, ↓x_loopC, ↓x_loopB, ↓x_loopR, ty_NoneType_int, ty_NoneType_bool, ty_NoneType_str, ty_NoneType_list, ty_NoneType_tuple, ty_NoneType_dict, ty_int_int, ty_int_bool, ty_int_str, ty_int_list, ty_int_tuple, ty_int_dict, ty_bool_int, ty_bool_bool, ty_bool_str, ty_bool_list, ty_bool_tuple, ty_bool_dict, ty_str_int, ty_str_bool, ty_str_str, ty_str_list, ty_str_tuple, ty_str_dict, ty_tuple_int, ty_tuple_bool, ty_tuple_str, ty_tuple_list, ty_tuple_tuple, ty_tuple_dict, ty_list_int, ty_list_bool, ty_list_str, ty_list_list, ty_list_tuple, ty_list_dict, ty_dict_int, ty_dict_bool, ty_dict_str, ty_dict_list, ty_dict_tuple, ty_dict_dict, at_0, at_1, at_2, at_3, at_4, nat_0, nat_1, nat_2, nat_3, nat_4, nat_5, nat_6, at_end, at_end1, at_end2, at_end3, bools_t, all_t, Nat.reduceLT, Nat.reduceLeDiff, Int.reduceLT, Int.reduceLE, Int.reduceAdd, Int.reduceSub, Int.reduceMul, Int.reducePow, Int.reduceToNat, Int.reduceNeg, ifx_t, ifx_f, ifx_n, gx_ok, eqT_int, List.getElem?_cons_zero, List.getElem?_cons_succ, List.set_cons_zero, List.set_cons_succ, List.map_cons, List.map_nil, List.nil_append, List.cons_append, List.replicate_succ, List.replicate_zero, List.length_cons, List.length_nil, List.any_cons, List.any_nil, Nat.reduceAdd, Nat.reduceSub, Bool.or_false, Bool.or_true, Bool.false_or, Bool.true_or, Bool.not_true, Bool.not_false, Option.map_some, Option.bind_some, decide_true, decide_false, true_and, and_true, wipeL, ↓gg_KINDS, (g.tie t ht).2.2.2.2]
  · subst hj
    simp only [↓x_var, ↓x_int, ↓x_bl, ↓x_non, ↓x_str, ↓x_bin, ↓x_cmp, ↓x_idx, ↓x_neg, ↓x_not, ↓x_isN, ↓x_isnN, ↓x_rev, ↓x_sset, ↓x_isiT, ↓x_chn, ↓x_ite, ↓x_and, ↓x_or, ↓x_and1, ↓x_or1, ↓x_and2, ↓x_or2, ↓x_tup, ↓x_lst, ↓x_dic, ↓x_slc, ↓x_call, ↓x_callK, ↓x_blt, ↓x_mth, ↓x_rngL, ↓x_rngT, ↓x_comp, ↓x_enil, ↓x_econs, ↓x_kv0, ↓x_kv, ↓x_ono, ↓x_oso, ↓x_cno, ↓x_cso, ↓x_val, ↓x_rng1, ↓x_rng2, ↓x_enum, ↓x_gvar, ↓x_gtup, ↓x_gtupR, ↓x_gsub, ↓x_gnil, ↓x_gcons, ↓x_snil, ↓x_scons, ↓x_pass, ↓x_expr, ↓x_ret, ↓x_retN, ↓x_set, ↓x_aug, ↓x_augO, ↓x_augA, ↓x_augS, ↓x_iff, ↓x_for, ↓x_whl, ↓x_brk, ↓x_cnt, ↓x_seqN, ↓x_seqR, ↓x_seqB, ↓x_seqC, ↓x_finR, ↓x_finN, ↓x_lk, ↓x_negR, ↓x_notR, ↓x_cnd, ↓x_oiR, ↓x_opt, ↓x_ob, ↓x_r1, ↓x_r2, ↓x_valT, ↓x_valF, ↓x_lst', ↓x_dk', ↓x_valL, ↓x_enumL, ↓x_mthL, ↓x_mth_append, ↓x_mth_extend, ↓x_mth_pop, ↓x_mth_get, ↓x_newT, ↓x_newL, ↓x_dicR, ↓x_add, ↓x_sub, ↓x_mul, ↓x_fdiv, ↓x_mod, ↓x_pow, ↓x_tadd, ↓x_ladd, ↓x_lt, ↓x_le, ↓x_gt, ↓x_ge, ↓x_eq, ↓x_ne, ↓x_inn, ↓x_nin, ↓x_tix, ↓x_rix, ↓x_ixL, ↓x_ixD, ↓x_setD, ↓x_stD, ↓x_stL, ↓x_app, ↓x_if, ↓x_ext, ↓x_pop, ↓x_lenT, ↓x_lenR, ↓x_lenL, ↓x_listT, ↓x_listL, ↓x_tupL, ↓x_tupT, ↓x_sortT, ↓x_sortL, ↓x_all, ↓x_any, ↓x_sum, ↓x_max2, ↓x_min2, ↓x_toint, ↓x_repr, ↓x_rep, ↓x_slcT, ↓x_slcF, ↓x_slcL, ↓x_revL, ↓x_ssetL, ↓x_isi_int, ↓x_isi_bool, ↓x_isi_NoneType, ↓x_isi_str, ↓x_isi_tuple, ↓x_isi_list, ↓gx_bd, ↓gx_ok, ↓x_loopN, ↓x_loopC, ↓x_loopB, ↓x_loopR, ty_NoneType_int, ty_NoneType_bool, ty_NoneType_str, ty_NoneType_list, ty_NoneType_tuple, ty_NoneType_dict, ty_int_int, ty_int_bool, ty_int_str, ty_int_list, ty_int_tuple, ty_int_dict, ty_bool_int, ty_bool_bool, ty_bool_str, ty_bool_list, ty_bool_tuple, ty_bool_dict, ty_str_int, ty_str_bool, ty_str_str, ty_str_list, ty_str_tuple, ty_str_dict, ty_tuple_int, ty_tuple_bool, ty_tuple_str, ty_tuple_list, ty_tuple_tuple, ty_tuple_dict, ty_list_int, ty_list_bool, ty_list_str, ty_list_list, ty_list_tuple, ty_list_dict, ty_dict_int, ty_dict_bool, ty_dict_str, ty_dict_list, ty_dict_tuple, ty_dict_dict, at_0, at_1, at_2, at_3, at_4, nat_0, nat_1, nat_2, nat_3, nat_4, nat_5, nat_6, at_end, at_end1, at_end2, at_end3, bools_t, all_t, Nat.reduceLT, Nat.reduceLeDiff, Int.reduceLT, Int.reduceLE, Int.reduceAdd, Int.reduceSub, Int.reduceMul, Int.reducePow, Int.reduceToNat, Int.reduceNeg, ifx_t, ifx_f, ifx_n, gx_ok, eqT_int, List.getElem?_cons_zero, List.getElem?_cons_succ, List.set_cons_zero, List.set_cons_succ, List.map_cons, List.map_nil, List.nil_append, List.cons_append, List.replicate_succ, List.replicate_zero, List.length_cons, List.length_nil, List.any_cons, List.any_nil, Nat.reduceAdd, Nat.reduceSub, Bool.or_false, Bool.or_true, Bool.false_or, Bool.true_or, Bool.not_true, Bool.not_false, Option.map_some, Option.bind_some, decide_true, decide_false, true_and, and_true, wipeL, ↓gg_KINDS]
    exact q _ (Keep.app _)
theorem below {w : Int × List Tie} {k : Int} (g : GoodWeb k w) : ∃ h', callN D (n + 1) "has_kinds_below" [webT w, .int k] h = .ok (.bl true) h' ∧ Keep [] h h' := by
  obtain ⟨x, h1, e, rfl, k⟩ := gx_ex (g_below (n := n) (h := h) g (Q := fun a h1 => a = .bl true ∧ Keep [] h h1) fun h' k => ⟨rfl, k⟩)
  exact ⟨h1, e, k⟩
theorem g_book {B : Book} (g : GoodBook B) (q : ∀ h', Keep [] h h' → Q (.bl true) h') : Gx (callN D (n + 6) "is_book_value" [bookT B] h) (P := ⟨Q⟩) := by
  have l1 := g.l1
  have l3 := g.l3
  refine call_gx f_is_book_value rfl ?_
  unfold bookT
  simp only [↓x_var, ↓x_int, ↓x_bl, ↓x_non, ↓x_str, ↓x_bin, ↓x_cmp, ↓x_idx, ↓x_neg, ↓x_not, ↓x_isN, ↓x_isnN, ↓x_rev, ↓x_sset, ↓x_isiT, ↓x_chn, ↓x_ite, ↓x_and, ↓x_or, ↓x_and1, ↓x_or1, ↓x_and2, ↓x_or2, ↓x_tup, ↓x_lst, ↓x_dic, ↓x_slc, ↓x_call, ↓x_callK, ↓x_blt, ↓x_mth, ↓x_rngL, ↓x_rngT, ↓x_comp, ↓x_enil, ↓x_econs, ↓x_kv0, ↓x_kv, ↓x_ono, ↓x_oso, ↓x_cno, ↓x_cso, ↓x_val, ↓x_rng1, ↓x_rng2, ↓x_enum, ↓x_gvar, ↓x_gtup, ↓x_gtupR, ↓x_gsub, ↓x_gnil, ↓x_gcons, ↓x_snil, ↓x_scons, ↓x_pass, ↓x_expr, ↓x_ret, ↓x_retN, ↓x_set, ↓x_aug, ↓x_augO, ↓x_augA, ↓x_augS, ↓x_iff, ↓x_for, ↓x_whl, ↓x_brk, ↓x_cnt, ↓x_seqN, ↓x_seqR, ↓x_seqB, ↓x_seqC, ↓x_finR, ↓x_finN, ↓x_lk, ↓x_negR, ↓x_notR, ↓x_cnd, ↓x_oiR, ↓x_opt, ↓x_ob, ↓x_r1, ↓x_r2, ↓x_valT, ↓x_valF, ↓x_lst', ↓x_dk', ↓x_valL, ↓x_enumL, ↓x_mthL, ↓x_mth_append, ↓x_mth_extend, ↓x_mth_pop, ↓x_mth_get, ↓x_newT, ↓x_newL, ↓x_dicR, ↓x_add, ↓x_sub, ↓x_mul, ↓x_fdiv, ↓x_mod, ↓x_pow, ↓x_tadd, ↓x_ladd, ↓x_lt, ↓x_le, ↓x_gt, ↓x_ge, ↓x_eq, ↓x_ne, ↓x_inn, ↓x_nin, ↓x_tix, ↓x_rix, ↓x_ixL, ↓x_ixD, ↓x_setD, ↓x_stD, ↓x_stL, ↓x_app, ↓x_if, ↓x_ext, ↓x_pop, ↓x_lenT, ↓x_lenR, ↓x_lenL, ↓x_listT, ↓x_listL, ↓x_tupL, ↓x_tupT, ↓x_sortT, ↓x_sortL, ↓x_all, ↓x_any, ↓x_sum, ↓x_max2, ↓x_min2, ↓x_toint, ↓x_repr, ↓x_rep, ↓x_slcT, ↓x_slcF, ↓x_slcL, ↓x_revL, ↓x_ssetL, ↓x_isi_int, ↓x_isi_bool, ↓x_isi_NoneType, ↓x_isi_str, ↓x_isi_tuple, ↓x_isi_list, ↓gx_bd, ↓gx_ok, ↓x_loopN, ↓x_loopC, ↓x_loopB, ↓x_loopR, ty_NoneType_int, ty_NoneType_bool, ty_NoneType_str, ty_NoneType_list, ty_NoneType_tuple, ty_NoneType_dict, ty_int_int, ty_int_bool, ty_int_str, ty_int_list, ty_int_tuple, ty_int_dict, ty_bool_int, ty_bool_bool, ty_bool_str, ty_bool_list, ty_bool_tuple, ty_bool_dict, ty_str_int, ty_str_bool, ty_str_str, ty_str_list, ty_str_tuple, ty_str_dict, ty_tuple_int, ty_tuple_bool, ty_tuple_str, ty_tuple_list, ty_tuple_tuple, ty_tuple_dict, ty_list_int, ty_list_bool, ty_list_str, ty_list_list, ty_list_tuple, ty_list_dict, ty_dict_int, ty_dict_bool, ty_dict_str, ty_dict_list, ty_dict_tuple, ty_dict_dict, at_0, at_1, at_2, at_3, at_4, nat_0, nat_1, nat_2, nat_3, nat_4, nat_5, nat_6, at_end, at_end1, at_end2, at_end3, bools_t, all_t, Nat.reduceLT, Nat.reduceLeDiff, Int.reduceLT, Int.reduceLE, Int.reduceAdd, Int.reduceSub, Int.reduceMul, Int.reducePow, Int.reduceToNat, Int.reduceNeg, ifx_t, ifx_f, ifx_n, gx_ok, eqT_int, List.getElem?_cons_zero, List.getElem?_cons_succ, List.set_cons_zero, List.set_cons_succ, List.map_cons, List.map_nil, List.nil_append, List.cons_append, List.replicate_succ, List.replicate_zero, List.length_cons, List.length_nil, List.any_cons, List.any_nil, Nat.reduceAdd, Nat.reduceSub, Bool.or_false, Bool.or_true, Bool.false_or, Bool.true_or, Bool.not_true, Bool.not_false, Option.map_some, Option.bind_some, decide_true, decide_false, true_and, and_true, wipeL, ↓gg_KINDS, List.length_map, show (1 : Int) ≤ (B.length : Int) by omega, show (B.length : Int) ≤ 3 by omega]
  refine comp_map (fun _ => .bl true) (fun h' => Keep [] h h') .refl (by simp; omega) (fun _ _ p hp => by simp at hp) (fun x h1 hx hj => ?_) (fun h1 hj => ?_)
  · obtain ⟨w, hw, rfl⟩ := List.mem_map.mp hx
    obtain ⟨h2, e2, k2⟩ := growth (n := n) (h := h1) (g.web w hw) (by omega)
    obtain ⟨h3, e3, k3⟩ := below (n := n + 4) (h := h2) (g.web w hw)
    simp only [↓x_var, ↓x_int, ↓x_bl, ↓x_non, ↓x_str, ↓x_bin, ↓x_cmp, ↓x_idx, ↓x_neg, ↓x_not, ↓x_isN, ↓x_isnN, ↓x_rev, ↓x_sset, ↓x_isiT, ↓x_chn, ↓x_ite, ↓x_and, ↓x_or, ↓x_and1, ↓x_or1, ↓x_and2, ↓x_or2, ↓x_tup, ↓x_lst, ↓x_dic, ↓x_slc, ↓x_call, ↓x_callK, ↓x_blt, ↓x_mth, ↓x_rngL, ↓x_rngT, ↓x_comp, ↓x_enil, ↓x_econs, ↓x_kv0, ↓x_kv, ↓x_ono, ↓x_oso, ↓x_cno, ↓x_cso, ↓x_val, ↓x_rng1, ↓x_rng2, ↓x_enum, ↓x_gvar, ↓x_gtup, ↓x_gtupR, ↓x_gsub, ↓x_gnil, ↓x_gcons, ↓x_snil, ↓x_scons, ↓x_pass, ↓x_expr, ↓x_ret, ↓x_retN, ↓x_set, ↓x_aug, ↓x_augO, ↓x_augA, ↓x_augS, ↓x_iff, ↓x_for, ↓x_whl, ↓x_brk, ↓x_cnt, ↓x_seqN, ↓x_seqR, ↓x_seqB, ↓x_seqC, ↓x_finR, ↓x_finN, ↓x_lk, ↓x_negR, ↓x_notR, ↓x_cnd, ↓x_oiR, ↓x_opt, ↓x_ob, ↓x_r1, ↓x_r2, ↓x_valT, ↓x_valF, ↓x_lst', ↓x_dk', ↓x_valL, ↓x_enumL, ↓x_mthL, ↓x_mth_append, ↓x_mth_extend, ↓x_mth_pop, ↓x_mth_get, ↓x_newT, ↓x_newL, ↓x_dicR, ↓x_add, ↓x_sub, ↓x_mul, ↓x_fdiv, ↓x_mod, ↓x_pow, ↓x_tadd, ↓x_ladd, ↓x_lt, ↓x_le, ↓x_gt, ↓x_ge, ↓x_eq, ↓x_ne, ↓x_inn, ↓x_nin, ↓x_tix, ↓x_rix, ↓x_ixL, ↓x_ixD, ↓x_setD, ↓x_stD, ↓x_stL, ↓x_app, ↓x_if, ↓x_ext, ↓x_pop, ↓x_lenT, ↓x_lenR, ↓x_lenL, ↓x_listT, ↓x_listL, ↓x_tupL, ↓x_tupT, ↓x_sortT, ↓x_sortL, ↓x_all, ↓x_any, ↓x_sum, ↓x_max2, ↓x_min2, ↓x_toint, ↓x_repr, ↓x_rep, ↓x_slcT, ↓x_slcF, ↓x_slcL, ↓x_revL, ↓x_ssetL, ↓x_isi_int, ↓x_isi_bool, ↓x_isi_NoneType, ↓x_isi_str, ↓x_isi_tuple, ↓x_isi_list, ↓gx_bd, ↓gx_ok, ↓x_loopN, ↓x_loopC, ↓x_loopB, ↓x_loopR, ty_NoneType_int, ty_NoneType_bool, ty_NoneType_str, ty_NoneType_list, ty_NoneType_tuple, ty_NoneType_dict, ty_int_int, ty_int_bool, ty_int_str, ty_int_list, ty_int_tuple, ty_int_dict, ty_bool_int, ty_bool_bool, ty_bool_str, ty_bool_list, ty_bool_tuple, ty_bool_dict, ty_str_int, ty_str_bool, ty_str_str, ty_str_list, ty_str_tuple, ty_str_dict, ty_tuple_int, ty_tuple_bool, ty_tuple_str, ty_tuple_list, ty_tuple_tuple, ty_tuple_dict, ty_list_int, ty_list_bool, ty_list_str, ty_list_list, ty_list_tuple, ty_list_dict, ty_dict_int, ty_dict_bool, ty_dict_str, ty_dict_list, ty_dict_tuple, ty_dict_dict, at_0, at_1, at_2, at_3, at_4, nat_0, nat_1, nat_2, nat_3, nat_4, nat_5, nat_6, at_end, at_end1, at_end2, at_end3, bools_t, all_t, Nat.reduceLT, Nat.reduceLeDiff, Int.reduceLT, Int.reduceLE, Int.reduceAdd, Int.reduceSub, Int.reduceMul, Int.reducePow, Int.reduceToNat, Int.reduceNeg, ifx_t, ifx_f, ifx_n, gx_ok, eqT_int, List.getElem?_cons_zero, List.getElem?_cons_succ, List.set_cons_zero, List.set_cons_succ, List.map_cons, List.map_nil, List.nil_append, List.cons_append, List.replicate_succ, List.replicate_zero, List.length_cons, List.length_nil, List.any_cons, List.any_nil, Nat.reduceAdd, Nat.reduceSub, Bool.or_false, Bool.or_true, Bool.false_or, Bool.true_or, Bool.not_true, Bool.not_false, Option.map_some, Option.bind_some, decide_true, decide_false, true_and, and_true, wipeL, ↓gg_KINDS, e2, e3, List.length_map]
    exact (hj.trans k2).trans k3
  · simp only [↓x_var, ↓x_int, ↓x_bl, ↓x_non, ↓x_str, ↓x_bin, ↓x_cmp, ↓x_idx, ↓x_neg, ↓x_not, ↓x_isN, ↓x_isnN, ↓x_rev, ↓x_sset, ↓x_isiT, ↓x_chn, ↓x_ite, ↓x_and, ↓x_or, ↓x_and1, ↓x_or1, ↓x_and2, ↓x_or2, ↓x_tup, ↓x_lst, ↓x_dic, ↓x_slc, ↓x_call, ↓x_callK, ↓x_blt, ↓x_mth, ↓x_rngL, ↓x_rngT, ↓x_comp, ↓x_enil, ↓x_econs, ↓x_kv0, ↓x_kv, ↓x_ono, ↓x_oso, ↓x_cno, ↓x_cso, ↓x_val, ↓x_rng1, ↓x_rng2, ↓x_enum, ↓x_gvar, ↓x_gtup, ↓x_gtupR, ↓x_gsub, ↓x_gnil, ↓x_gcons, ↓x_snil, ↓x_scons, ↓x_pass, ↓x_expr, ↓x_ret, ↓x_retN, ↓x_set, ↓x_aug, ↓x_augO, ↓x_augA, ↓x_augS, ↓x_iff, ↓x_for, ↓x_whl, ↓x_brk, ↓x_cnt, ↓x_seqN, ↓x_seqR, ↓x_seqB, ↓x_seqC, ↓x_finR, ↓x_finN, ↓x_lk, ↓x_negR, ↓x_notR, ↓x_cnd, ↓x_oiR, ↓x_opt, ↓x_ob, ↓x_r1, ↓x_r2, ↓x_valT, ↓x_valF, ↓x_lst', ↓x_dk', ↓x_valL, ↓x_enumL, ↓x_mthL, ↓x_mth_append, ↓x_mth_extend, ↓x_mth_pop, ↓x_mth_get, ↓x_newT, ↓x_newL, ↓x_dicR, ↓x_add, ↓x_sub, ↓x_mul, ↓x_fdiv, ↓x_mod, ↓x_pow, ↓x_tadd, ↓x_ladd, ↓x_lt, ↓x_le, ↓x_gt, ↓x_ge, ↓x_eq, ↓x_ne, ↓x_inn, ↓x_nin, ↓x_tix, ↓x_rix, ↓x_ixL, ↓x_ixD, ↓x_setD, ↓x_stD, ↓x_stL, ↓x_app, ↓x_if, ↓x_ext, ↓x_pop, ↓x_lenT, ↓x_lenR, ↓x_lenL, ↓x_listT, ↓x_listL, ↓x_tupL, ↓x_tupT, ↓x_sortT, ↓x_sortL, ↓x_all, ↓x_any, ↓x_sum, ↓x_max2, ↓x_min2, ↓x_toint, ↓x_repr, ↓x_rep, ↓x_slcT, ↓x_slcF, ↓x_slcL, ↓x_revL, ↓x_ssetL, ↓x_isi_int, ↓x_isi_bool, ↓x_isi_NoneType, ↓x_isi_str, ↓x_isi_tuple, ↓x_isi_list, ↓gx_bd, ↓gx_ok, ↓x_loopN, ↓x_loopC, ↓x_loopB, ↓x_loopR, ty_NoneType_int, ty_NoneType_bool, ty_NoneType_str, ty_NoneType_list, ty_NoneType_tuple, ty_NoneType_dict, ty_int_int, ty_int_bool, ty_int_str, ty_int_list, ty_int_tuple, ty_int_dict, ty_bool_int, ty_bool_bool, ty_bool_str, ty_bool_list, ty_bool_tuple, ty_bool_dict, ty_str_int, ty_str_bool, ty_str_str, ty_str_list, ty_str_tuple, ty_str_dict, ty_tuple_int, ty_tuple_bool, ty_tuple_str, ty_tuple_list, ty_tuple_tuple, ty_tuple_dict, ty_list_int, ty_list_bool, ty_list_str, ty_list_list, ty_list_tuple, ty_list_dict, ty_dict_int, ty_dict_bool, ty_dict_str, ty_dict_list, ty_dict_tuple, ty_dict_dict, at_0, at_1, at_2, at_3, at_4, nat_0, nat_1, nat_2, nat_3, nat_4, nat_5, nat_6, at_end, at_end1, at_end2, at_end3, bools_t, all_t, Nat.reduceLT, Nat.reduceLeDiff, Int.reduceLT, Int.reduceLE, Int.reduceAdd, Int.reduceSub, Int.reduceMul, Int.reducePow, Int.reduceToNat, Int.reduceNeg, ifx_t, ifx_f, ifx_n, gx_ok, eqT_int, List.getElem?_cons_zero, List.getElem?_cons_succ, List.set_cons_zero, List.set_cons_succ, List.map_cons, List.map_nil, List.nil_append, List.cons_append, List.replicate_succ, List.replicate_zero, List.length_cons, List.length_nil, List.any_cons, List.any_nil, Nat.reduceAdd, Nat.reduceSub, Bool.or_false, Bool.or_true, Bool.false_or, Bool.true_or, Bool.not_true, Bool.not_false, Option.map_some, Option.bind_some, decide_true, decide_false, true_and, and_true, wipeL, ↓gg_KINDS]
    exact q _ (hj.trans (Keep.app _))
theorem book {B : Book} (g : GoodBook B) : ∃ h', callN D (n + 6) "is_book_value" [bookT B] h = .ok (.bl true) h' ∧ Keep [] h h' := by
  obtain ⟨x, h1, e, rfl, k⟩ := gx_ex (g_book (n := n) (h := h) g (Q := fun a h1 => a = .bl true ∧ Keep [] h h1) fun h' k => ⟨rfl, k⟩)
  exact ⟨h1, e, k⟩
theorem g_garden {w : Int × List Tie} {B : Book} (g1 : GoodWeb B.length w) (g : GoodBook B) (q : ∀ h', Keep [] h h' → Q (.bl true) h') : Gx (callN D (n + 7) "is_garden_value" [gardenT w B] h) (P := ⟨Q⟩) := by
  have l3 := g.l3
  refine call_gx f_is_garden_value rfl ?_
  unfold gardenT
  obtain ⟨h2, e2, k2⟩ := web (n := n + 2) (h := h) g1 (by omega)
  obtain ⟨h3, e3, k3⟩ := book (n := n) (h := h2) g
  obtain ⟨h4, e4, k4⟩ := below (n := n + 5) (h := h3) g1
  simp only [↓x_var, ↓x_int, ↓x_bl, ↓x_non, ↓x_str, ↓x_bin, ↓x_cmp, ↓x_idx, ↓x_neg, ↓x_not, ↓x_isN, ↓x_isnN, ↓x_rev, ↓x_sset, ↓x_isiT, ↓x_chn, ↓x_ite, ↓x_and, ↓x_or, ↓x_and1, ↓x_or1, ↓x_and2, ↓x_or2, ↓x_tup, ↓x_lst, ↓x_dic, ↓x_slc, ↓x_call, ↓x_callK, ↓x_blt, ↓x_mth, ↓x_rngL, ↓x_rngT, ↓x_comp, ↓x_enil, ↓x_econs, ↓x_kv0, ↓x_kv, ↓x_ono, ↓x_oso, ↓x_cno, ↓x_cso, ↓x_val, ↓x_rng1, ↓x_rng2, ↓x_enum, ↓x_gvar, ↓x_gtup, ↓x_gtupR, ↓x_gsub, ↓x_gnil, ↓x_gcons, ↓x_snil, ↓x_scons, ↓x_pass, ↓x_expr, ↓x_ret, ↓x_retN, ↓x_set, ↓x_aug, ↓x_augO, ↓x_augA, ↓x_augS, ↓x_iff, ↓x_for, ↓x_whl, ↓x_brk, ↓x_cnt, ↓x_seqN, ↓x_seqR, ↓x_seqB, ↓x_seqC, ↓x_finR, ↓x_finN, ↓x_lk, ↓x_negR, ↓x_notR, ↓x_cnd, ↓x_oiR, ↓x_opt, ↓x_ob, ↓x_r1, ↓x_r2, ↓x_valT, ↓x_valF, ↓x_lst', ↓x_dk', ↓x_valL, ↓x_enumL, ↓x_mthL, ↓x_mth_append, ↓x_mth_extend, ↓x_mth_pop, ↓x_mth_get, ↓x_newT, ↓x_newL, ↓x_dicR, ↓x_add, ↓x_sub, ↓x_mul, ↓x_fdiv, ↓x_mod, ↓x_pow, ↓x_tadd, ↓x_ladd, ↓x_lt, ↓x_le, ↓x_gt, ↓x_ge, ↓x_eq, ↓x_ne, ↓x_inn, ↓x_nin, ↓x_tix, ↓x_rix, ↓x_ixL, ↓x_ixD, ↓x_setD, ↓x_stD, ↓x_stL, ↓x_app, ↓x_if, ↓x_ext, ↓x_pop, ↓x_lenT, ↓x_lenR, ↓x_lenL, ↓x_listT, ↓x_listL, ↓x_tupL, ↓x_tupT, ↓x_sortT, ↓x_sortL, ↓x_all, ↓x_any, ↓x_sum, ↓x_max2, ↓x_min2, ↓x_toint, ↓x_repr, ↓x_rep, ↓x_slcT, ↓x_slcF, ↓x_slcL, ↓x_revL, ↓x_ssetL, ↓x_isi_int, ↓x_isi_bool, ↓x_isi_NoneType, ↓x_isi_str, ↓x_isi_tuple, ↓x_isi_list, ↓gx_bd, ↓gx_ok, ↓x_loopN, ↓x_loopC, ↓x_loopB, ↓x_loopR, ty_NoneType_int, ty_NoneType_bool, ty_NoneType_str, ty_NoneType_list, ty_NoneType_tuple, ty_NoneType_dict, ty_int_int, ty_int_bool, ty_int_str, ty_int_list, ty_int_tuple, ty_int_dict, ty_bool_int, ty_bool_bool, ty_bool_str, ty_bool_list, ty_bool_tuple, ty_bool_dict, ty_str_int, ty_str_bool, ty_str_str, ty_str_list, ty_str_tuple, ty_str_dict, ty_tuple_int, ty_tuple_bool, ty_tuple_str, ty_tuple_list, ty_tuple_tuple, ty_tuple_dict, ty_list_int, ty_list_bool, ty_list_str, ty_list_list, ty_list_tuple, ty_list_dict, ty_dict_int, ty_dict_bool, ty_dict_str, ty_dict_list, ty_dict_tuple, ty_dict_dict, at_0, at_1, at_2, at_3, at_4, nat_0, nat_1, nat_2, nat_3, nat_4, nat_5, nat_6, at_end, at_end1, at_end2, at_end3, bools_t, all_t, Nat.reduceLT, Nat.reduceLeDiff, Int.reduceLT, Int.reduceLE, Int.reduceAdd, Int.reduceSub, Int.reduceMul, Int.reducePow, Int.reduceToNat, Int.reduceNeg, ifx_t, ifx_f, ifx_n, gx_ok, eqT_int, List.getElem?_cons_zero, List.getElem?_cons_succ, List.set_cons_zero, List.set_cons_succ, List.map_cons, List.map_nil, List.nil_append, List.cons_append, List.replicate_succ, List.replicate_zero, List.length_cons, List.length_nil, List.any_cons, List.any_nil, Nat.reduceAdd, Nat.reduceSub, Bool.or_false, Bool.or_true, Bool.false_or, Bool.true_or, Bool.not_true, Bool.not_false, Option.map_some, Option.bind_some, decide_true, decide_false, true_and, and_true, wipeL, ↓gg_KINDS, e2, e3]
  unfold bookT
  simp only [↓x_var, ↓x_int, ↓x_bl, ↓x_non, ↓x_str, ↓x_bin, ↓x_cmp, ↓x_idx, ↓x_neg, ↓x_not, ↓x_isN, ↓x_isnN, ↓x_rev, ↓x_sset, ↓x_isiT, ↓x_chn, ↓x_ite, ↓x_and, ↓x_or, ↓x_and1, ↓x_or1, ↓x_and2, ↓x_or2, ↓x_tup, ↓x_lst, ↓x_dic, ↓x_slc, ↓x_call, ↓x_callK, ↓x_blt, ↓x_mth, ↓x_rngL, ↓x_rngT, ↓x_comp, ↓x_enil, ↓x_econs, ↓x_kv0, ↓x_kv, ↓x_ono, ↓x_oso, ↓x_cno, ↓x_cso, ↓x_val, ↓x_rng1, ↓x_rng2, ↓x_enum, ↓x_gvar, ↓x_gtup, ↓x_gtupR, ↓x_gsub, ↓x_gnil, ↓x_gcons, ↓x_snil, ↓x_scons, ↓x_pass, ↓x_expr, ↓x_ret, ↓x_retN, ↓x_set, ↓x_aug, ↓x_augO, ↓x_augA, ↓x_augS, ↓x_iff, ↓x_for, ↓x_whl, ↓x_brk, ↓x_cnt, ↓x_seqN, ↓x_seqR, ↓x_seqB, ↓x_seqC, ↓x_finR, ↓x_finN, ↓x_lk, ↓x_negR, ↓x_notR, ↓x_cnd, ↓x_oiR, ↓x_opt, ↓x_ob, ↓x_r1, ↓x_r2, ↓x_valT, ↓x_valF, ↓x_lst', ↓x_dk', ↓x_valL, ↓x_enumL, ↓x_mthL, ↓x_mth_append, ↓x_mth_extend, ↓x_mth_pop, ↓x_mth_get, ↓x_newT, ↓x_newL, ↓x_dicR, ↓x_add, ↓x_sub, ↓x_mul, ↓x_fdiv, ↓x_mod, ↓x_pow, ↓x_tadd, ↓x_ladd, ↓x_lt, ↓x_le, ↓x_gt, ↓x_ge, ↓x_eq, ↓x_ne, ↓x_inn, ↓x_nin, ↓x_tix, ↓x_rix, ↓x_ixL, ↓x_ixD, ↓x_setD, ↓x_stD, ↓x_stL, ↓x_app, ↓x_if, ↓x_ext, ↓x_pop, ↓x_lenT, ↓x_lenR, ↓x_lenL, ↓x_listT, ↓x_listL, ↓x_tupL, ↓x_tupT, ↓x_sortT, ↓x_sortL, ↓x_all, ↓x_any, ↓x_sum, ↓x_max2, ↓x_min2, ↓x_toint, ↓x_repr, ↓x_rep, ↓x_slcT, ↓x_slcF, ↓x_slcL, ↓x_revL, ↓x_ssetL, ↓x_isi_int, ↓x_isi_bool, ↓x_isi_NoneType, ↓x_isi_str, ↓x_isi_tuple, ↓x_isi_list, ↓gx_bd, ↓gx_ok, ↓x_loopN, ↓x_loopC, ↓x_loopB, ↓x_loopR, ty_NoneType_int, ty_NoneType_bool, ty_NoneType_str, ty_NoneType_list, ty_NoneType_tuple, ty_NoneType_dict, ty_int_int, ty_int_bool, ty_int_str, ty_int_list, ty_int_tuple, ty_int_dict, ty_bool_int, ty_bool_bool, ty_bool_str, ty_bool_list, ty_bool_tuple, ty_bool_dict, ty_str_int, ty_str_bool, ty_str_str, ty_str_list, ty_str_tuple, ty_str_dict, ty_tuple_int, ty_tuple_bool, ty_tuple_str, ty_tuple_list, ty_tuple_tuple, ty_tuple_dict, ty_list_int, ty_list_bool, ty_list_str, ty_list_list, ty_list_tuple, ty_list_dict, ty_dict_int, ty_dict_bool, ty_dict_str, ty_dict_list, ty_dict_tuple, ty_dict_dict, at_0, at_1, at_2, at_3, at_4, nat_0, nat_1, nat_2, nat_3, nat_4, nat_5, nat_6, at_end, at_end1, at_end2, at_end3, bools_t, all_t, Nat.reduceLT, Nat.reduceLeDiff, Int.reduceLT, Int.reduceLE, Int.reduceAdd, Int.reduceSub, Int.reduceMul, Int.reducePow, Int.reduceToNat, Int.reduceNeg, ifx_t, ifx_f, ifx_n, gx_ok, eqT_int, List.getElem?_cons_zero, List.getElem?_cons_succ, List.set_cons_zero, List.set_cons_succ, List.map_cons, List.map_nil, List.nil_append, List.cons_append, List.replicate_succ, List.replicate_zero, List.length_cons, List.length_nil, List.any_cons, List.any_nil, Nat.reduceAdd, Nat.reduceSub, Bool.or_false, Bool.or_true, Bool.false_or, Bool.true_or, Bool.not_true, Bool.not_false, Option.map_some, Option.bind_some, decide_true, decide_false, true_and, and_true, wipeL, ↓gg_KINDS, e4, List.length_map]
  exact q _ ((k2.trans k3).trans k4)
theorem garden {w : Int × List Tie} {B : Book} (g1 : GoodWeb B.length w) (g : GoodBook B) : ∃ h', callN D (n + 7) "is_garden_value" [gardenT w B] h = .ok (.bl true) h' ∧ Keep [] h h' := by
  obtain ⟨x, h1, e, rfl, k⟩ := gx_ex (g_garden (n := n) (h := h) g1 g (Q := fun a h1 => a = .bl true ∧ Keep [] h h1) fun h' k => ⟨rfl, k⟩)
  exact ⟨h1, e, k⟩
theorem need_book {B : Book} (g : GoodBook B) : ∃ h', callN D (n + 7) "need_book" [bookT B] h = .ok .non h' ∧ Keep [] h h' := by
  obtain ⟨h2, e2, k2⟩ := book (n := n) (h := h) g
  have z : Gx (callN D (n + 7) "need_book" [bookT B] h) (P := ⟨fun a h1 => a = .non ∧ h1 = h2⟩) := by
    refine call_gx f_need_book rfl ?_
    simp only [↓x_var, ↓x_int, ↓x_bl, ↓x_non, ↓x_str, ↓x_bin, ↓x_cmp, ↓x_idx, ↓x_neg, ↓x_not, ↓x_isN, ↓x_isnN, ↓x_rev, ↓x_sset, ↓x_isiT, ↓x_chn, ↓x_ite, ↓x_and, ↓x_or, ↓x_and1, ↓x_or1, ↓x_and2, ↓x_or2, ↓x_tup, ↓x_lst, ↓x_dic, ↓x_slc, ↓x_call, ↓x_callK, ↓x_blt, ↓x_mth, ↓x_rngL, ↓x_rngT, ↓x_comp, ↓x_enil, ↓x_econs, ↓x_kv0, ↓x_kv, ↓x_ono, ↓x_oso, ↓x_cno, ↓x_cso, ↓x_val, ↓x_rng1, ↓x_rng2, ↓x_enum, ↓x_gvar, ↓x_gtup, ↓x_gtupR, ↓x_gsub, ↓x_gnil, ↓x_gcons, ↓x_snil, ↓x_scons, ↓x_pass, ↓x_expr, ↓x_ret, ↓x_retN, ↓x_set, ↓x_aug, ↓x_augO, ↓x_augA, ↓x_augS, ↓x_iff, ↓x_for, ↓x_whl, ↓x_brk, ↓x_cnt, ↓x_seqN, ↓x_seqR, ↓x_seqB, ↓x_seqC, ↓x_finR, ↓x_finN, ↓x_lk, ↓x_negR, ↓x_notR, ↓x_cnd, ↓x_oiR, ↓x_opt, ↓x_ob, ↓x_r1, ↓x_r2, ↓x_valT, ↓x_valF, ↓x_lst', ↓x_dk', ↓x_valL, ↓x_enumL, ↓x_mthL, ↓x_mth_append, ↓x_mth_extend, ↓x_mth_pop, ↓x_mth_get, ↓x_newT, ↓x_newL, ↓x_dicR, ↓x_add, ↓x_sub, ↓x_mul, ↓x_fdiv, ↓x_mod, ↓x_pow, ↓x_tadd, ↓x_ladd, ↓x_lt, ↓x_le, ↓x_gt, ↓x_ge, ↓x_eq, ↓x_ne, ↓x_inn, ↓x_nin, ↓x_tix, ↓x_rix, ↓x_ixL, ↓x_ixD, ↓x_setD, ↓x_stD, ↓x_stL, ↓x_app, ↓x_if, ↓x_ext, ↓x_pop, ↓x_lenT, ↓x_lenR, ↓x_lenL, ↓x_listT, ↓x_listL, ↓x_tupL, ↓x_tupT, ↓x_sortT, ↓x_sortL, ↓x_all, ↓x_any, ↓x_sum, ↓x_max2, ↓x_min2, ↓x_toint, ↓x_repr, ↓x_rep, ↓x_slcT, ↓x_slcF, ↓x_slcL, ↓x_revL, ↓x_ssetL, ↓x_isi_int, ↓x_isi_bool, ↓x_isi_NoneType, ↓x_isi_str, ↓x_isi_tuple, ↓x_isi_list, ↓gx_bd, ↓gx_ok, ↓x_loopN, ↓x_loopC, ↓x_loopB, ↓x_loopR, ty_NoneType_int, ty_NoneType_bool, ty_NoneType_str, ty_NoneType_list, ty_NoneType_tuple, ty_NoneType_dict, ty_int_int, ty_int_bool, ty_int_str, ty_int_list, ty_int_tuple, ty_int_dict, ty_bool_int, ty_bool_bool, ty_bool_str, ty_bool_list, ty_bool_tuple, ty_bool_dict, ty_str_int, ty_str_bool, ty_str_str, ty_str_list, ty_str_tuple, ty_str_dict, ty_tuple_int, ty_tuple_bool, ty_tuple_str, ty_tuple_list, ty_tuple_tuple, ty_tuple_dict, ty_list_int, ty_list_bool, ty_list_str, ty_list_list, ty_list_tuple, ty_list_dict, ty_dict_int, ty_dict_bool, ty_dict_str, ty_dict_list, ty_dict_tuple, ty_dict_dict, at_0, at_1, at_2, at_3, at_4, nat_0, nat_1, nat_2, nat_3, nat_4, nat_5, nat_6, at_end, at_end1, at_end2, at_end3, bools_t, all_t, Nat.reduceLT, Nat.reduceLeDiff, Int.reduceLT, Int.reduceLE, Int.reduceAdd, Int.reduceSub, Int.reduceMul, Int.reducePow, Int.reduceToNat, Int.reduceNeg, ifx_t, ifx_f, ifx_n, gx_ok, eqT_int, List.getElem?_cons_zero, List.getElem?_cons_succ, List.set_cons_zero, List.set_cons_succ, List.map_cons, List.map_nil, List.nil_append, List.cons_append, List.replicate_succ, List.replicate_zero, List.length_cons, List.length_nil, List.any_cons, List.any_nil, Nat.reduceAdd, Nat.reduceSub, Bool.or_false, Bool.or_true, Bool.false_or, Bool.true_or, Bool.not_true, Bool.not_false, Option.map_some, Option.bind_some, decide_true, decide_false, true_and, and_true, wipeL, ↓gg_KINDS, e2]
  obtain ⟨x, h1, e, rfl, rfl⟩ := gx_ex z
  exact ⟨_, e, k2⟩
theorem need_garden {w : Int × List Tie} {B : Book} (g1 : GoodWeb B.length w) (g : GoodBook B) : ∃ h', callN D (n + 8) "need_garden" [gardenT w B] h = .ok .non h' ∧ Keep [] h h' := by
  obtain ⟨h2, e2, k2⟩ := garden (n := n) (h := h) g1 g
  have z : Gx (callN D (n + 8) "need_garden" [gardenT w B] h) (P := ⟨fun a h1 => a = .non ∧ h1 = h2⟩) := by
    refine call_gx f_need_garden rfl ?_
    simp only [↓x_var, ↓x_int, ↓x_bl, ↓x_non, ↓x_str, ↓x_bin, ↓x_cmp, ↓x_idx, ↓x_neg, ↓x_not, ↓x_isN, ↓x_isnN, ↓x_rev, ↓x_sset, ↓x_isiT, ↓x_chn, ↓x_ite, ↓x_and, ↓x_or, ↓x_and1, ↓x_or1, ↓x_and2, ↓x_or2, ↓x_tup, ↓x_lst, ↓x_dic, ↓x_slc, ↓x_call, ↓x_callK, ↓x_blt, ↓x_mth, ↓x_rngL, ↓x_rngT, ↓x_comp, ↓x_enil, ↓x_econs, ↓x_kv0, ↓x_kv, ↓x_ono, ↓x_oso, ↓x_cno, ↓x_cso, ↓x_val, ↓x_rng1, ↓x_rng2, ↓x_enum, ↓x_gvar, ↓x_gtup, ↓x_gtupR, ↓x_gsub, ↓x_gnil, ↓x_gcons, ↓x_snil, ↓x_scons, ↓x_pass, ↓x_expr, ↓x_ret, ↓x_retN, ↓x_set, ↓x_aug, ↓x_augO, ↓x_augA, ↓x_augS, ↓x_iff, ↓x_for, ↓x_whl, ↓x_brk, ↓x_cnt, ↓x_seqN, ↓x_seqR, ↓x_seqB, ↓x_seqC, ↓x_finR, ↓x_finN, ↓x_lk, ↓x_negR, ↓x_notR, ↓x_cnd, ↓x_oiR, ↓x_opt, ↓x_ob, ↓x_r1, ↓x_r2, ↓x_valT, ↓x_valF, ↓x_lst', ↓x_dk', ↓x_valL, ↓x_enumL, ↓x_mthL, ↓x_mth_append, ↓x_mth_extend, ↓x_mth_pop, ↓x_mth_get, ↓x_newT, ↓x_newL, ↓x_dicR, ↓x_add, ↓x_sub, ↓x_mul, ↓x_fdiv, ↓x_mod, ↓x_pow, ↓x_tadd, ↓x_ladd, ↓x_lt, ↓x_le, ↓x_gt, ↓x_ge, ↓x_eq, ↓x_ne, ↓x_inn, ↓x_nin, ↓x_tix, ↓x_rix, ↓x_ixL, ↓x_ixD, ↓x_setD, ↓x_stD, ↓x_stL, ↓x_app, ↓x_if, ↓x_ext, ↓x_pop, ↓x_lenT, ↓x_lenR, ↓x_lenL, ↓x_listT, ↓x_listL, ↓x_tupL, ↓x_tupT, ↓x_sortT, ↓x_sortL, ↓x_all, ↓x_any, ↓x_sum, ↓x_max2, ↓x_min2, ↓x_toint, ↓x_repr, ↓x_rep, ↓x_slcT, ↓x_slcF, ↓x_slcL, ↓x_revL, ↓x_ssetL, ↓x_isi_int, ↓x_isi_bool, ↓x_isi_NoneType, ↓x_isi_str, ↓x_isi_tuple, ↓x_isi_list, ↓gx_bd, ↓gx_ok, ↓x_loopN, ↓x_loopC, ↓x_loopB, ↓x_loopR, ty_NoneType_int, ty_NoneType_bool, ty_NoneType_str, ty_NoneType_list, ty_NoneType_tuple, ty_NoneType_dict, ty_int_int, ty_int_bool, ty_int_str, ty_int_list, ty_int_tuple, ty_int_dict, ty_bool_int, ty_bool_bool, ty_bool_str, ty_bool_list, ty_bool_tuple, ty_bool_dict, ty_str_int, ty_str_bool, ty_str_str, ty_str_list, ty_str_tuple, ty_str_dict, ty_tuple_int, ty_tuple_bool, ty_tuple_str, ty_tuple_list, ty_tuple_tuple, ty_tuple_dict, ty_list_int, ty_list_bool, ty_list_str, ty_list_list, ty_list_tuple, ty_list_dict, ty_dict_int, ty_dict_bool, ty_dict_str, ty_dict_list, ty_dict_tuple, ty_dict_dict, at_0, at_1, at_2, at_3, at_4, nat_0, nat_1, nat_2, nat_3, nat_4, nat_5, nat_6, at_end, at_end1, at_end2, at_end3, bools_t, all_t, Nat.reduceLT, Nat.reduceLeDiff, Int.reduceLT, Int.reduceLE, Int.reduceAdd, Int.reduceSub, Int.reduceMul, Int.reducePow, Int.reduceToNat, Int.reduceNeg, ifx_t, ifx_f, ifx_n, gx_ok, eqT_int, List.getElem?_cons_zero, List.getElem?_cons_succ, List.set_cons_zero, List.set_cons_succ, List.map_cons, List.map_nil, List.nil_append, List.cons_append, List.replicate_succ, List.replicate_zero, List.length_cons, List.length_nil, List.any_cons, List.any_nil, Nat.reduceAdd, Nat.reduceSub, Bool.or_false, Bool.or_true, Bool.false_or, Bool.true_or, Bool.not_true, Bool.not_false, Option.map_some, Option.bind_some, decide_true, decide_false, true_and, and_true, wipeL, ↓gg_KINDS, e2]
  obtain ⟨x, h1, e, rfl, rfl⟩ := gx_ex z
  exact ⟨_, e, k2⟩
end
end K59


set_option Elab.async false
set_option linter.all false
set_option maxRecDepth 100000
namespace K59
open PySem MP L2
def kindsOf (w : Int × List Tie) : List Int := w.2.map fun t => t.2.2
def kindsAt (B : Book) (c : Int) : List Int := match B[c.toNat]? with
  | some w => kindsOf w
  | none => []
inductive Rch (B : Book) : Int → Int → Prop
  | one {c d : Int} : d ∈ kindsAt B c → Rch B c d
  | more {c d e : Int} : Rch B c d → e ∈ kindsAt B d → Rch B c e
theorem Rch.trans {B : Book} {c d e : Int} (a : Rch B c d) (b : Rch B d e) : Rch B c e := by
  induction b with
  | one h => exact .more a h
  | more _ h ih => exact .more ih h
theorem kindsAt_lt {B : Book} (g : GoodBook B) {c d : Int} (h : d ∈ kindsAt B c) : 0 ≤ d ∧ d < B.length := by
  unfold kindsAt at h
  split at h
  · rename_i w e
    obtain ⟨t, ht, rfl⟩ := List.mem_map.mp h
    exact ((g.web w (List.mem_of_getElem? e)).tie t ht).2.2.2
  · cases h
theorem Rch.lt {B : Book} (g : GoodBook B) {c d : Int} (h : Rch B c d) : 0 ≤ d ∧ d < B.length := by
  cases h with
  | one h => exact kindsAt_lt g h
  | more _ h => exact kindsAt_lt g h
theorem book_at {B : Book} {c : Int} (h : 0 ≤ c ∧ c < B.length) : ∃ w, B[c.toNat]? = some w ∧ w ∈ B ∧ atI (B.map webT) c = some (webT w) ∧ kindsAt B c = kindsOf w := by
  have hl : c.toNat < B.length := by omega
  refine ⟨B[c.toNat], List.getElem?_eq_getElem hl, List.getElem_mem hl, atI_some (j := c.toNat) (by omega) ?_, ?_⟩
  · rw [List.getElem?_map, List.getElem?_eq_getElem hl]
    rfl
  · unfold kindsAt
    rw [List.getElem?_eq_getElem hl]
theorem nat_len : ∀ (l E : List Nat), l.Nodup → (∀ x ∈ l, x ∈ E) → l.length ≤ E.length
  | [], _, _, _ => Nat.zero_le _
  | x :: l, E, hn, h => by
    obtain ⟨n1, n2⟩ := List.nodup_cons.mp hn
    have hx := h x List.mem_cons_self
    have ih := nat_len l (E.erase x) n2 fun y hy => (List.mem_erase_of_ne fun e : y = x => n1 (by rw [← e]; exact hy)).mpr (h y (List.mem_cons_of_mem _ hy))
    have e := List.length_erase_of_mem hx
    have := List.length_pos_of_mem hx
    rw [List.length_cons]
    omega
/-- few ints -/
theorem nodup_le {n : Nat} : ∀ (l : List Int), l.Nodup → (∀ x ∈ l, 0 ≤ x ∧ x < n) → l.length ≤ n := by
  intro l hn h
  have h1 : (l.map Int.toNat).Nodup := by
    rw [List.nodup_iff_pairwise_ne, List.pairwise_map]
    refine List.Pairwise.imp_of_mem ?_ (List.nodup_iff_pairwise_ne.mp hn)
    intro a b ha hb hne e
    have := h a ha
    have := h b hb
    omega
  have h2 : ∀ x ∈ l.map Int.toNat, x ∈ List.range n := fun x hx => by
    obtain ⟨y, hy, rfl⟩ := List.mem_map.mp hx
    have := h y hy
    exact List.mem_range.mpr (by omega)
  have := nat_len _ _ h1 h2
  simpa using this
structure LInv (B : Book) (c : Int) (fd wt : List Int) : Prop where
  nd : fd.Nodup
  rch : ∀ x ∈ fd, Rch B c x
  wok : ∀ x ∈ wt, x = c ∨ x ∈ fd
  cl : ∀ x, (x = c ∨ x ∈ fd) → x ∉ wt → ∀ d ∈ kindsAt B x, d ∈ fd
/-- while x's ties are walked -/
structure MInv (B : Book) (c x : Int) (ds : List Int) (fd wt : List Int) : Prop where
  nd : fd.Nodup
  rch : ∀ x ∈ fd, Rch B c x
  wok : ∀ x ∈ wt, x = c ∨ x ∈ fd
  xk : x = c ∨ x ∈ fd
  done : ∀ d ∈ ds, d ∈ fd
  cl : ∀ y, (y = c ∨ y ∈ fd) → y ∉ wt → y = x ∨ ∀ d ∈ kindsAt B y, d ∈ fd
theorem MInv.start {B : Book} {c x : Int} {fd wt : List Int} (L : LInv B c fd (wt ++ [x])) : MInv B c x [] fd wt where
  nd := L.nd
  rch := L.rch
  wok := fun y hy => L.wok y (List.mem_append_left _ hy)
  xk := L.wok x (by simp)
  done := fun _ h => by cases h
  cl := fun y hy hn => by
    by_cases e : y = x
    · exact .inl e
    · exact .inr (L.cl y hy (by simp [hn, e]))
theorem MInv.end_ {B : Book} {c x : Int} {fd wt : List Int} (M : MInv B c x (kindsAt B x) fd wt) : LInv B c fd wt where
  nd := M.nd
  rch := M.rch
  wok := M.wok
  cl := fun y hy hn d hd => by
    rcases M.cl y hy hn with e | e
    · subst e
      exact M.done d hd
    · exact e d hd
theorem MInv.old {B : Book} {c x d : Int} {ds fd wt : List Int} (M : MInv B c x ds fd wt) (h : d ∈ fd) : MInv B c x (ds ++ [d]) fd wt where
  nd := M.nd
  rch := M.rch
  wok := M.wok
  xk := M.xk
  done := fun y hy => by
    rcases List.mem_append.mp hy with z | z
    · exact M.done y z
    · rw [List.mem_singleton.mp z]
      exact h
  cl := M.cl
theorem MInv.new {B : Book} {c x d : Int} {ds fd wt : List Int} (M : MInv B c x ds fd wt) (h : d ∉ fd) (hd : d ∈ kindsAt B x) : MInv B c x (ds ++ [d]) (fd ++ [d]) (wt ++ [d]) where
  nd := List.nodup_append.mpr ⟨M.nd, by simp, fun a ha b hb e => h (by rw [List.mem_singleton.mp hb] at e; exact e ▸ ha)⟩
  rch := fun y hy => by
    rcases List.mem_append.mp hy with z | z
    · exact M.rch y z
    · rw [List.mem_singleton.mp z]
      rcases M.xk with e | e
      · rw [e] at hd
        exact .one hd
      · exact .more (M.rch x e) hd
  wok := fun y hy => by
    rcases List.mem_append.mp hy with z | z
    · rcases M.wok y z with e | e
      · exact .inl e
      · exact .inr (List.mem_append_left _ e)
    · exact .inr (List.mem_append_right _ z)
  xk := M.xk.imp id (List.mem_append_left _)
  done := fun y hy => by
    rcases List.mem_append.mp hy with z | z
    · exact List.mem_append_left _ (M.done y z)
    · exact List.mem_append_right _ z
  cl := fun y hy hn => by
    have n1 : y ∉ wt := fun z => hn (List.mem_append_left _ z)
    have n2 : y ≠ d := fun z => hn (List.mem_append_right _ (List.mem_singleton.mpr z))
    have hy2 : y = c ∨ y ∈ fd := hy.imp id fun z => by
      rcases List.mem_append.mp z with q | q
      · exact q
      · exact absurd (List.mem_singleton.mp q) n2
    exact (M.cl y hy2 n1).imp id fun z d hd => List.mem_append_left _ (z d hd)
theorem LInv.fin {B : Book} {c : Int} {fd : List Int} (L : LInv B c fd []) (d : Int) : d ∈ fd ↔ Rch B c d := by
  constructor
  · exact L.rch d
  · intro h
    induction h with
    | one h => exact L.cl c (.inl rfl) (by simp) _ h
    | more _ h ih => exact L.cl _ (.inr ih) (by simp) _ h
section
variable {Q : T → Hh → Prop} {h : Hh} {n : Nat}
theorem last_app {α : Type} {l : List α} {a : α} : (l ++ [a])[(l ++ [a]).length - 1]? = some a := by simp
structure St (h0 : Hh) (f w : Nat) (fd wt : List Int) (h : Hh) : Prop where
  f0 : h0.length ≤ f
  w0 : h0.length ≤ w
  ne : f ≠ w
  hf : h[f]? = some (.lst (fd.map T.int))
  hw : h[w]? = some (.lst (wt.map T.int))
  kp : Keep [] h0 h
set_option maxHeartbeats 1000000 in
theorem g_led {B : Book} {c : Int} (g : GoodBook B) (hc : 0 ≤ c ∧ c < B.length) (q : ∀ (h' : Hh) (r : Nat) (xs : List Int), h'[r]? = some (.lst (xs.map T.int)) → xs.Pairwise (· < ·) → (∀ d, d ∈ xs ↔ Rch B c d) → Keep [] h h' → h.length ≤ r → Q (.ref r) h') :
    Gx (callN D (n + 1) "kinds_led_to" [bookT B, .int c] h) (P := ⟨Q⟩) := by
  have l3 := g.l3
  refine call_gx f_kinds_led_to rfl ?_
  unfold bookT
  simp only [↓x_var, ↓x_int, ↓x_bl, ↓x_non, ↓x_str, ↓x_bin, ↓x_cmp, ↓x_idx, ↓x_neg, ↓x_not, ↓x_isN, ↓x_isnN, ↓x_rev, ↓x_sset, ↓x_isiT, ↓x_chn, ↓x_ite, ↓x_and, ↓x_or, ↓x_and1, ↓x_or1, ↓x_and2, ↓x_or2, ↓x_tup, ↓x_lst, ↓x_dic, ↓x_slc, ↓x_call, ↓x_callK, ↓x_blt, ↓x_mth, ↓x_rngL, ↓x_rngT, ↓x_comp, ↓x_enil, ↓x_econs, ↓x_kv0, ↓x_kv, ↓x_ono, ↓x_oso, ↓x_cno, ↓x_cso, ↓x_val, ↓x_rng1, ↓x_rng2, ↓x_enum, ↓x_gvar, ↓x_gtup, ↓x_gtupR, ↓x_gsub, ↓x_gnil, ↓x_gcons, ↓x_snil, ↓x_scons, ↓x_pass, ↓x_expr, ↓x_ret, ↓x_retN, ↓x_set, ↓x_aug, ↓x_augO, ↓x_augA, ↓x_augS, ↓x_iff, ↓x_for, ↓x_whl, ↓x_brk, ↓x_cnt, ↓x_seqN, ↓x_seqR, ↓x_seqB, ↓x_seqC, ↓x_finR, ↓x_finN, ↓x_lk, ↓x_negR, ↓x_notR, ↓x_cnd, ↓x_oiR, ↓x_opt, ↓x_ob, ↓x_r1, ↓x_r2, ↓x_valT, ↓x_valF, ↓x_lst', ↓x_dk', ↓x_valL, ↓x_enumL, ↓x_mthL, ↓x_mth_append, ↓x_mth_extend, ↓x_mth_pop, ↓x_mth_get, ↓x_newT, ↓x_newL, ↓x_dicR, ↓x_add, ↓x_sub, ↓x_mul, ↓x_fdiv, ↓x_mod, ↓x_pow, ↓x_tadd, ↓x_ladd, ↓x_lt, ↓x_le, ↓x_gt, ↓x_ge, ↓x_eq, ↓x_ne, ↓x_inn, ↓x_nin, ↓x_tix, ↓x_rix, ↓x_ixL, ↓x_ixD, ↓x_setD, ↓x_stD, ↓x_stL, ↓x_app, ↓x_if, ↓x_ext, ↓x_pop, ↓x_lenT, ↓x_lenR, ↓x_lenL, ↓x_listT, ↓x_listL, ↓x_tupL, ↓x_tupT, ↓x_sortT, ↓x_sortL, ↓x_all, ↓x_any, ↓x_sum, ↓x_max2, ↓x_min2, ↓x_toint, ↓x_repr, ↓x_rep, ↓x_slcT, ↓x_slcF, ↓x_slcL, ↓x_revL, ↓x_ssetL, ↓x_isi_int, ↓x_isi_bool, ↓x_isi_NoneType, ↓x_isi_str, ↓x_isi_tuple, ↓x_isi_list, ↓gx_bd, ↓gx_ok, ↓x_loopN, ↓x_loopC, ↓x_loopB, ↓x_loopR, ty_NoneType_int, ty_NoneType_bool, ty_NoneType_str, ty_NoneType_list, ty_NoneType_tuple, ty_NoneType_dict, ty_int_int, ty_int_bool, ty_int_str, ty_int_list, ty_int_tuple, ty_int_dict, ty_bool_int, ty_bool_bool, ty_bool_str, ty_bool_list, ty_bool_tuple, ty_bool_dict, ty_str_int, ty_str_bool, ty_str_str, ty_str_list, ty_str_tuple, ty_str_dict, ty_tuple_int, ty_tuple_bool, ty_tuple_str, ty_tuple_list, ty_tuple_tuple, ty_tuple_dict, ty_list_int, ty_list_bool, ty_list_str, ty_list_list, ty_list_tuple, ty_list_dict, ty_dict_int, ty_dict_bool, ty_dict_str, ty_dict_list, ty_dict_tuple, ty_dict_dict, at_0, at_1, at_2, at_3, at_4, nat_0, nat_1, nat_2, nat_3, nat_4, nat_5, nat_6, at_end, at_end1, at_end2, at_end3, bools_t, all_t, Nat.reduceLT, Nat.reduceLeDiff, Int.reduceLT, Int.reduceLE, Int.reduceAdd, Int.reduceSub, Int.reduceMul, Int.reducePow, Int.reduceToNat, Int.reduceNeg, ifx_t, ifx_f, ifx_n, gx_ok, eqT_int, List.getElem?_cons_zero, List.getElem?_cons_succ, List.set_cons_zero, List.set_cons_succ, List.map_cons, List.map_nil, List.nil_append, List.cons_append, List.replicate_succ, List.replicate_zero, List.length_cons, List.length_nil, List.any_cons, List.any_nil, Nat.reduceAdd, Nat.reduceSub, Bool.or_false, Bool.or_true, Bool.false_or, Bool.true_or, Bool.not_true, Bool.not_false, Option.map_some, Option.bind_some, decide_true, decide_false, true_and, and_true, wipeL, ↓gg_KINDS, Nat.zero_le, show (1 : Nat) ≤ 16777216 by decide]
  refine gx_whl (fun m l h1 => ∃ f w fd wt a b d, l = [some (.tup (B.map webT)), some (.int c), some (.ref f), some (.ref w), a, b, d] ∧ St h f w fd wt h1 ∧ LInv B c fd wt ∧ m = 2 * (3 - fd.length) + wt.length ∧ m ≤ 7) 7 ⟨h.length, (h ++ [O.lst []]).length, [], [c], none, none, none, ?_, ?_, ?_, rfl, Nat.le_refl _⟩ ?_
  · rfl
  · exact ⟨Nat.le_refl _, by simp, by simp, at_end1, at_end, (Keep.app _).trans (Keep.app _)⟩
  · exact ⟨List.nodup_nil, fun _ h => (by cases h), fun x hx => .inl (List.mem_singleton.mp hx), fun x hx hn => by
      rcases hx with e | e
      · exact absurd (List.mem_singleton.mpr e) hn
      · cases e⟩
  · rintro m l h1 ⟨f, w, fd, wt, a, b, d, rfl, S, L, em, em7⟩
    have fle : fd.length ≤ 3 := Nat.le_trans (nodup_le (n := B.length) fd L.nd fun x hx => (L.rch x hx).lt g) l3
    rcases List.eq_nil_or_concat wt with rfl | ⟨ws, x, rfl⟩
    · simp only [↓x_var, ↓x_int, ↓x_bl, ↓x_non, ↓x_str, ↓x_bin, ↓x_cmp, ↓x_idx, ↓x_neg, ↓x_not, ↓x_isN, ↓x_isnN, ↓x_rev, ↓x_sset, ↓x_isiT, ↓x_chn, ↓x_ite, ↓x_and, ↓x_or, ↓x_and1, ↓x_or1, ↓x_and2, ↓x_or2, ↓x_tup, ↓x_lst, ↓x_dic, ↓x_slc, ↓x_call, ↓x_callK, ↓x_blt, ↓x_mth, ↓x_rngL, ↓x_rngT, ↓x_comp, ↓x_enil, ↓x_econs, ↓x_kv0, ↓x_kv, ↓x_ono, ↓x_oso, ↓x_cno, ↓x_cso, ↓x_val, ↓x_rng1, ↓x_rng2, ↓x_enum, ↓x_gvar, ↓x_gtup, ↓x_gtupR, ↓x_gsub, ↓x_gnil, ↓x_gcons, ↓x_snil, ↓x_scons, ↓x_pass, ↓x_expr, ↓x_ret, ↓x_retN, ↓x_set, ↓x_aug, ↓x_augO, ↓x_augA, ↓x_augS, ↓x_iff, ↓x_for, ↓x_whl, ↓x_brk, ↓x_cnt, ↓x_seqN, ↓x_seqR, ↓x_seqB, ↓x_seqC, ↓x_finR, ↓x_finN, ↓x_lk, ↓x_negR, ↓x_notR, ↓x_cnd, ↓x_oiR, ↓x_opt, ↓x_ob, ↓x_r1, ↓x_r2, ↓x_valT, ↓x_valF, ↓x_lst', ↓x_dk', ↓x_valL, ↓x_enumL, ↓x_mthL, ↓x_mth_append, ↓x_mth_extend, ↓x_mth_pop, ↓x_mth_get, ↓x_newT, ↓x_newL, ↓x_dicR, ↓x_add, ↓x_sub, ↓x_mul, ↓x_fdiv, ↓x_mod, ↓x_pow, ↓x_tadd, ↓x_ladd, ↓x_lt, ↓x_le, ↓x_gt, ↓x_ge, ↓x_eq, ↓x_ne, ↓x_inn, ↓x_nin, ↓x_tix, ↓x_rix, ↓x_ixL, ↓x_ixD, ↓x_setD, ↓x_stD, ↓x_stL, ↓x_app, ↓x_if, ↓x_ext, ↓x_pop, ↓x_lenT, ↓x_lenR, ↓x_lenL, ↓x_listT, ↓x_listL, ↓x_tupL, ↓x_tupT, ↓x_sortT, ↓x_sortL, ↓x_all, ↓x_any, ↓x_sum, ↓x_max2, ↓x_min2, ↓x_toint, ↓x_repr, ↓x_rep, ↓x_slcT, ↓x_slcF, ↓x_slcL, ↓x_revL, ↓x_ssetL, ↓x_isi_int, ↓x_isi_bool, ↓x_isi_NoneType, ↓x_isi_str, ↓x_isi_tuple, ↓x_isi_list, ↓gx_bd, ↓gx_ok, ↓x_loopN, ↓x_loopC, ↓x_loopB, ↓x_loopR, ty_NoneType_int, ty_NoneType_bool, ty_NoneType_str, ty_NoneType_list, ty_NoneType_tuple, ty_NoneType_dict, ty_int_int, ty_int_bool, ty_int_str, ty_int_list, ty_int_tuple, ty_int_dict, ty_bool_int, ty_bool_bool, ty_bool_str, ty_bool_list, ty_bool_tuple, ty_bool_dict, ty_str_int, ty_str_bool, ty_str_str, ty_str_list, ty_str_tuple, ty_str_dict, ty_tuple_int, ty_tuple_bool, ty_tuple_str, ty_tuple_list, ty_tuple_tuple, ty_tuple_dict, ty_list_int, ty_list_bool, ty_list_str, ty_list_list, ty_list_tuple, ty_list_dict, ty_dict_int, ty_dict_bool, ty_dict_str, ty_dict_list, ty_dict_tuple, ty_dict_dict, at_0, at_1, at_2, at_3, at_4, nat_0, nat_1, nat_2, nat_3, nat_4, nat_5, nat_6, at_end, at_end1, at_end2, at_end3, bools_t, all_t, Nat.reduceLT, Nat.reduceLeDiff, Int.reduceLT, Int.reduceLE, Int.reduceAdd, Int.reduceSub, Int.reduceMul, Int.reducePow, Int.reduceToNat, Int.reduceNeg, ifx_t, ifx_f, ifx_n, gx_ok, eqT_int, List.getElem?_cons_zero, List.getElem?_cons_succ, List.set_cons_zero, List.set_cons_succ, List.map_cons, List.map_nil, List.nil_append, List.cons_append, List.replicate_succ, List.replicate_zero, List.length_cons, List.length_nil, List.any_cons, List.any_nil, Nat.reduceAdd, Nat.reduceSub, Bool.or_false, Bool.or_true, Bool.false_or, Bool.true_or, Bool.not_true, Bool.not_false, Option.map_some, Option.bind_some, decide_true, decide_false, true_and, and_true, wipeL, ↓gg_KINDS, Nat.zero_le, eqT_ints0 (at_old (o := .lst []) S.hw) at_end, List.isEmpty_nil, at_old (o := .lst []) S.hf, fun hh => sortT_ints (h := hh) (L := fd) (by omega), List.length_map, srt_len, show fd.length ≤ 16777216 by omega]
      refine q _ _ (srt PyData.int fd) at_end ?_ (fun d => by rw [srt_mem]; exact L.fin d) ((S.kp.trans (Keep.app _)).trans (Keep.app _)) ?_
      · have p1 := srt_ints_le fd
        have p2 : (srt PyData.int fd).Nodup := (srt_perm _ _).nodup_iff.mpr L.nd
        exact (p1.and p2).imp fun {a b} z => by have := z.1; have := z.2; omega
      · have := S.kp.le
        simp
        omega
    · rw [List.concat_eq_append] at S L em
      have hx : 0 ≤ x ∧ x < B.length := by
        rcases L.wok x (by simp) with e | e
        · rw [e]; exact hc
        · exact (L.rch x e).lt g
      obtain ⟨wv, e1, e2, e3, e4⟩ := book_at hx
      have hw1 : (h1 ++ [O.lst []])[w]? = some (.lst (ws.map T.int ++ [.int x])) := at_old (by rw [S.hw, List.map_append]; rfl)
      have gw := g.web wv e2
      simp only [↓x_var, ↓x_int, ↓x_bl, ↓x_non, ↓x_str, ↓x_bin, ↓x_cmp, ↓x_idx, ↓x_neg, ↓x_not, ↓x_isN, ↓x_isnN, ↓x_rev, ↓x_sset, ↓x_isiT, ↓x_chn, ↓x_ite, ↓x_and, ↓x_or, ↓x_and1, ↓x_or1, ↓x_and2, ↓x_or2, ↓x_tup, ↓x_lst, ↓x_dic, ↓x_slc, ↓x_call, ↓x_callK, ↓x_blt, ↓x_mth, ↓x_rngL, ↓x_rngT, ↓x_comp, ↓x_enil, ↓x_econs, ↓x_kv0, ↓x_kv, ↓x_ono, ↓x_oso, ↓x_cno, ↓x_cso, ↓x_val, ↓x_rng1, ↓x_rng2, ↓x_enum, ↓x_gvar, ↓x_gtup, ↓x_gtupR, ↓x_gsub, ↓x_gnil, ↓x_gcons, ↓x_snil, ↓x_scons, ↓x_pass, ↓x_expr, ↓x_ret, ↓x_retN, ↓x_set, ↓x_aug, ↓x_augO, ↓x_augA, ↓x_augS, ↓x_iff, ↓x_for, ↓x_whl, ↓x_brk, ↓x_cnt, ↓x_seqN, ↓x_seqR, ↓x_seqB, ↓x_seqC, ↓x_finR, ↓x_finN, ↓x_lk, ↓x_negR, ↓x_notR, ↓x_cnd, ↓x_oiR, ↓x_opt, ↓x_ob, ↓x_r1, ↓x_r2, ↓x_valT, ↓x_valF, ↓x_lst', ↓x_dk', ↓x_valL, ↓x_enumL, ↓x_mthL, ↓x_mth_append, ↓x_mth_extend, ↓x_mth_pop, ↓x_mth_get, ↓x_newT, ↓x_newL, ↓x_dicR, ↓x_add, ↓x_sub, ↓x_mul, ↓x_fdiv, ↓x_mod, ↓x_pow, ↓x_tadd, ↓x_ladd, ↓x_lt, ↓x_le, ↓x_gt, ↓x_ge, ↓x_eq, ↓x_ne, ↓x_inn, ↓x_nin, ↓x_tix, ↓x_rix, ↓x_ixL, ↓x_ixD, ↓x_setD, ↓x_stD, ↓x_stL, ↓x_app, ↓x_if, ↓x_ext, ↓x_pop, ↓x_lenT, ↓x_lenR, ↓x_lenL, ↓x_listT, ↓x_listL, ↓x_tupL, ↓x_tupT, ↓x_sortT, ↓x_sortL, ↓x_all, ↓x_any, ↓x_sum, ↓x_max2, ↓x_min2, ↓x_toint, ↓x_repr, ↓x_rep, ↓x_slcT, ↓x_slcF, ↓x_slcL, ↓x_revL, ↓x_ssetL, ↓x_isi_int, ↓x_isi_bool, ↓x_isi_NoneType, ↓x_isi_str, ↓x_isi_tuple, ↓x_isi_list, ↓gx_bd, ↓gx_ok, ↓x_loopN, ↓x_loopC, ↓x_loopB, ↓x_loopR, ty_NoneType_int, ty_NoneType_bool, ty_NoneType_str, ty_NoneType_list, ty_NoneType_tuple, ty_NoneType_dict, ty_int_int, ty_int_bool, ty_int_str, ty_int_list, ty_int_tuple, ty_int_dict, ty_bool_int, ty_bool_bool, ty_bool_str, ty_bool_list, ty_bool_tuple, ty_bool_dict, ty_str_int, ty_str_bool, ty_str_str, ty_str_list, ty_str_tuple, ty_str_dict, ty_tuple_int, ty_tuple_bool, ty_tuple_str, ty_tuple_list, ty_tuple_tuple, ty_tuple_dict, ty_list_int, ty_list_bool, ty_list_str, ty_list_list, ty_list_tuple, ty_list_dict, ty_dict_int, ty_dict_bool, ty_dict_str, ty_dict_list, ty_dict_tuple, ty_dict_dict, at_0, at_1, at_2, at_3, at_4, nat_0, nat_1, nat_2, nat_3, nat_4, nat_5, nat_6, at_end, at_end1, at_end2, at_end3, bools_t, all_t, Nat.reduceLT, Nat.reduceLeDiff, Int.reduceLT, Int.reduceLE, Int.reduceAdd, Int.reduceSub, Int.reduceMul, Int.reducePow, Int.reduceToNat, Int.reduceNeg, ifx_t, ifx_f, ifx_n, gx_ok, eqT_int, List.getElem?_cons_zero, List.getElem?_cons_succ, List.set_cons_zero, List.set_cons_succ, List.map_cons, List.map_nil, List.nil_append, List.cons_append, List.replicate_succ, List.replicate_zero, List.length_cons, List.length_nil, List.any_cons, List.any_nil, Nat.reduceAdd, Nat.reduceSub, Bool.or_false, Bool.or_true, Bool.false_or, Bool.true_or, Bool.not_true, Bool.not_false, Option.map_some, Option.bind_some, decide_true, decide_false, true_and, and_true, wipeL, ↓gg_KINDS, Nat.zero_le, List.concat_eq_append, eqT_ints0 (at_old (o := .lst []) S.hw) at_end, show (ws ++ [x]).isEmpty = false by simp, hw1, last_app, List.dropLast_concat, e3, webT]
      refine gx_for (fun i l h2 => ∃ fd2 ws2 a b d, l = [some (.tup (B.map webT)), some (.int c), some (.ref f), some (.ref w), a, b, d] ∧ St h f w fd2 ws2 h2 ∧ MInv B c x ((kindsOf wv).take i) fd2 ws2 ∧ 2 * (3 - fd2.length) + ws2.length < m) ⟨fd, ws, a, b, d, rfl, ?_, MInv.start L, ?_⟩ (fun _ _ _ _ p hp => by simp at hp) ?_ ?_
      · exact ⟨S.f0, S.w0, S.ne, at_setn (at_old S.hf) S.ne.symm, at_set hw1, (S.kp.trans (Keep.app _)).fresh S.w0⟩
      · rw [em, List.length_append, List.length_singleton]
        omega
      · rintro i y l h2 hy ⟨fd2, ws2, a, b, d, rfl, S2, M, hm⟩
        rw [List.getElem?_map] at hy
        obtain ⟨t, ht, rfl⟩ := Option.map_eq_some_iff.mp hy
        have hk : (kindsOf wv)[i]? = some t.2.2 := by
          unfold kindsOf
          rw [List.getElem?_map, ht]
          rfl
        have fle2 : fd2.length ≤ 3 := Nat.le_trans (nodup_le (n := B.length) fd2 M.nd fun x hx => (M.rch x hx).lt g) l3
        have hin : t.2.2 ∈ kindsAt B x := by rw [e4]; exact List.mem_of_getElem? hk
        by_cases hd : t.2.2 ∈ fd2
        · simp only [↓x_var, ↓x_int, ↓x_bl, ↓x_non, ↓x_str, ↓x_bin, ↓x_cmp, ↓x_idx, ↓x_neg, ↓x_not, ↓x_isN, ↓x_isnN, ↓x_rev, ↓x_sset, ↓x_isiT, ↓x_chn, ↓x_ite, ↓x_and, ↓x_or, ↓x_and1, ↓x_or1, ↓x_and2, ↓x_or2, ↓x_tup, ↓x_lst, ↓x_dic, ↓x_slc, ↓x_call, ↓x_callK, ↓x_blt, ↓x_mth, ↓x_rngL, ↓x_rngT, ↓x_comp, ↓x_enil, ↓x_econs, ↓x_kv0, ↓x_kv, ↓x_ono, ↓x_oso, ↓x_cno, ↓x_cso, ↓x_val, ↓x_rng1, ↓x_rng2, ↓x_enum, ↓x_gvar, ↓x_gtup, ↓x_gtupR, ↓x_gsub, ↓x_gnil, ↓x_gcons, ↓x_snil, ↓x_scons, ↓x_pass, ↓x_expr, ↓x_ret, ↓x_retN, ↓x_set, ↓x_aug, ↓x_augO, ↓x_augA, ↓x_augS, ↓x_iff, ↓x_for, ↓x_whl, ↓x_brk, ↓x_cnt, ↓x_seqN, ↓x_seqR, ↓x_seqB, ↓x_seqC, ↓x_finR, ↓x_finN, ↓x_lk, ↓x_negR, ↓x_notR, ↓x_cnd, ↓x_oiR, ↓x_opt, ↓x_ob, ↓x_r1, ↓x_r2, ↓x_valT, ↓x_valF, ↓x_lst', ↓x_dk', ↓x_valL, ↓x_enumL, ↓x_mthL, ↓x_mth_append, ↓x_mth_extend, ↓x_mth_pop, ↓x_mth_get, ↓x_newT, ↓x_newL, ↓x_dicR, ↓x_add, ↓x_sub, ↓x_mul, ↓x_fdiv, ↓x_mod, ↓x_pow, ↓x_tadd, ↓x_ladd, ↓x_lt, ↓x_le, ↓x_gt, ↓x_ge, ↓x_eq, ↓x_ne, ↓x_inn, ↓x_nin, ↓x_tix, ↓x_rix, ↓x_ixL, ↓x_ixD, ↓x_setD, ↓x_stD, ↓x_stL, ↓x_app, ↓x_if, ↓x_ext, ↓x_pop, ↓x_lenT, ↓x_lenR, ↓x_lenL, ↓x_listT, ↓x_listL, ↓x_tupL, ↓x_tupT, ↓x_sortT, ↓x_sortL, ↓x_all, ↓x_any, ↓x_sum, ↓x_max2, ↓x_min2, ↓x_toint, ↓x_repr, ↓x_rep, ↓x_slcT, ↓x_slcF, ↓x_slcL, ↓x_revL, ↓x_ssetL, ↓x_isi_int, ↓x_isi_bool, ↓x_isi_NoneType, ↓x_isi_str, ↓x_isi_tuple, ↓x_isi_list, ↓gx_bd, ↓gx_ok, ↓x_loopN, ↓x_loopC, ↓x_loopB, ↓x_loopR, ty_NoneType_int, ty_NoneType_bool, ty_NoneType_str, ty_NoneType_list, ty_NoneType_tuple, ty_NoneType_dict, ty_int_int, ty_int_bool, ty_int_str, ty_int_list, ty_int_tuple, ty_int_dict, ty_bool_int, ty_bool_bool, ty_bool_str, ty_bool_list, ty_bool_tuple, ty_bool_dict, ty_str_int, ty_str_bool, ty_str_str, ty_str_list, ty_str_tuple, ty_str_dict, ty_tuple_int, ty_tuple_bool, ty_tuple_str, ty_tuple_list, ty_tuple_tuple, ty_tuple_dict, ty_list_int, ty_list_bool, ty_list_str, ty_list_list, ty_list_tuple, ty_list_dict, ty_dict_int, ty_dict_bool, ty_dict_str, ty_dict_list, ty_dict_tuple, ty_dict_dict, at_0, at_1, at_2, at_3, at_4, nat_0, nat_1, nat_2, nat_3, nat_4, nat_5, nat_6, at_end, at_end1, at_end2, at_end3, bools_t, all_t, Nat.reduceLT, Nat.reduceLeDiff, Int.reduceLT, Int.reduceLE, Int.reduceAdd, Int.reduceSub, Int.reduceMul, Int.reducePow, Int.reduceToNat, Int.reduceNeg, ifx_t, ifx_f, ifx_n, gx_ok, eqT_int, List.getElem?_cons_zero, List.getElem?_cons_succ, List.set_cons_zero, List.set_cons_succ, List.map_cons, List.map_nil, List.nil_append, List.cons_append, List.replicate_succ, List.replicate_zero, List.length_cons, List.length_nil, List.any_cons, List.any_nil, Nat.reduceAdd, Nat.reduceSub, Bool.or_false, Bool.or_true, Bool.false_or, Bool.true_or, Bool.not_true, Bool.not_false, Option.map_some, Option.bind_some, decide_true, decide_false, true_and, and_true, wipeL, ↓gg_KINDS, tieT, inO_ints S2.hf, hd]
          refine ⟨fd2, ws2, _, _, _, rfl, S2, ?_, hm⟩
          rw [take_succ hk]
          exact M.old hd
        · have M2 := M.new hd hin
          have fle3 : (fd2 ++ [t.2.2]).length ≤ 3 := Nat.le_trans (nodup_le (n := B.length) _ M2.nd fun x hx => (M2.rch x hx).lt g) l3
          rw [List.length_append, List.length_singleton] at fle3
          simp only [↓x_var, ↓x_int, ↓x_bl, ↓x_non, ↓x_str, ↓x_bin, ↓x_cmp, ↓x_idx, ↓x_neg, ↓x_not, ↓x_isN, ↓x_isnN, ↓x_rev, ↓x_sset, ↓x_isiT, ↓x_chn, ↓x_ite, ↓x_and, ↓x_or, ↓x_and1, ↓x_or1, ↓x_and2, ↓x_or2, ↓x_tup, ↓x_lst, ↓x_dic, ↓x_slc, ↓x_call, ↓x_callK, ↓x_blt, ↓x_mth, ↓x_rngL, ↓x_rngT, ↓x_comp, ↓x_enil, ↓x_econs, ↓x_kv0, ↓x_kv, ↓x_ono, ↓x_oso, ↓x_cno, ↓x_cso, ↓x_val, ↓x_rng1, ↓x_rng2, ↓x_enum, ↓x_gvar, ↓x_gtup, ↓x_gtupR, ↓x_gsub, ↓x_gnil, ↓x_gcons, ↓x_snil, ↓x_scons, ↓x_pass, ↓x_expr, ↓x_ret, ↓x_retN, ↓x_set, ↓x_aug, ↓x_augO, ↓x_augA, ↓x_augS, ↓x_iff, ↓x_for, ↓x_whl, ↓x_brk, ↓x_cnt, ↓x_seqN, ↓x_seqR, ↓x_seqB, ↓x_seqC, ↓x_finR, ↓x_finN, ↓x_lk, ↓x_negR, ↓x_notR, ↓x_cnd, ↓x_oiR, ↓x_opt, ↓x_ob, ↓x_r1, ↓x_r2, ↓x_valT, ↓x_valF, ↓x_lst', ↓x_dk', ↓x_valL, ↓x_enumL, ↓x_mthL, ↓x_mth_append, ↓x_mth_extend, ↓x_mth_pop, ↓x_mth_get, ↓x_newT, ↓x_newL, ↓x_dicR, ↓x_add, ↓x_sub, ↓x_mul, ↓x_fdiv, ↓x_mod, ↓x_pow, ↓x_tadd, ↓x_ladd, ↓x_lt, ↓x_le, ↓x_gt, ↓x_ge, ↓x_eq, ↓x_ne, ↓x_inn, ↓x_nin, ↓x_tix, ↓x_rix, ↓x_ixL, ↓x_ixD, ↓x_setD, ↓x_stD, ↓x_stL, ↓x_app, ↓x_if, ↓x_ext, ↓x_pop, ↓x_lenT, ↓x_lenR, ↓x_lenL, ↓x_listT, ↓x_listL, ↓x_tupL, ↓x_tupT, ↓x_sortT, ↓x_sortL, ↓x_all, ↓x_any, ↓x_sum, ↓x_max2, ↓x_min2, ↓x_toint, ↓x_repr, ↓x_rep, ↓x_slcT, ↓x_slcF, ↓x_slcL, ↓x_revL, ↓x_ssetL, ↓x_isi_int, ↓x_isi_bool, ↓x_isi_NoneType, ↓x_isi_str, ↓x_isi_tuple, ↓x_isi_list, ↓gx_bd, ↓gx_ok, ↓x_loopN, ↓x_loopC, ↓x_loopB, ↓x_loopR, ty_NoneType_int, ty_NoneType_bool, ty_NoneType_str, ty_NoneType_list, ty_NoneType_tuple, ty_NoneType_dict, ty_int_int, ty_int_bool, ty_int_str, ty_int_list, ty_int_tuple, ty_int_dict, ty_bool_int, ty_bool_bool, ty_bool_str, ty_bool_list, ty_bool_tuple, ty_bool_dict, ty_str_int, ty_str_bool, ty_str_str, ty_str_list, ty_str_tuple, ty_str_dict, ty_tuple_int, ty_tuple_bool, ty_tuple_str, ty_tuple_list, ty_tuple_tuple, ty_tuple_dict, ty_list_int, ty_list_bool, ty_list_str, ty_list_list, ty_list_tuple, ty_list_dict, ty_dict_int, ty_dict_bool, ty_dict_str, ty_dict_list, ty_dict_tuple, ty_dict_dict, at_0, at_1, at_2, at_3, at_4, nat_0, nat_1, nat_2, nat_3, nat_4, nat_5, nat_6, at_end, at_end1, at_end2, at_end3, bools_t, all_t, Nat.reduceLT, Nat.reduceLeDiff, Int.reduceLT, Int.reduceLE, Int.reduceAdd, Int.reduceSub, Int.reduceMul, Int.reducePow, Int.reduceToNat, Int.reduceNeg, ifx_t, ifx_f, ifx_n, gx_ok, eqT_int, List.getElem?_cons_zero, List.getElem?_cons_succ, List.set_cons_zero, List.set_cons_succ, List.map_cons, List.map_nil, List.nil_append, List.cons_append, List.replicate_succ, List.replicate_zero, List.length_cons, List.length_nil, List.any_cons, List.any_nil, Nat.reduceAdd, Nat.reduceSub, Bool.or_false, Bool.or_true, Bool.false_or, Bool.true_or, Bool.not_true, Bool.not_false, Option.map_some, Option.bind_some, decide_true, decide_false, true_and, and_true, wipeL, ↓gg_KINDS, tieT, inO_ints S2.hf, hd, S2.hf, ↓x_if, fun o => at_setn (o := o) S2.hw S2.ne, List.length_map, show fd2.length < 16777216 by omega, show ws2.length < 16777216 by omega]
          refine ⟨fd2 ++ [t.2.2], ws2 ++ [t.2.2], _, _, _, rfl, ?_, ?_, ?_⟩
          · refine ⟨S2.f0, S2.w0, S2.ne, at_setn ?_ S2.ne.symm, ?_, (S2.kp.fresh S2.f0).fresh S2.w0⟩
            · rw [List.map_append]
              exact at_set S2.hf
            · rw [List.map_append]
              exact at_set (at_setn S2.hw S2.ne)
          · rw [take_succ hk]
            exact M2
          · simp only [List.length_append, List.length_singleton]
            omega
      · rintro l h2 ⟨fd2, ws2, a, b, d, rfl, S2, M, hm⟩
        simp only [↓x_var, ↓x_int, ↓x_bl, ↓x_non, ↓x_str, ↓x_bin, ↓x_cmp, ↓x_idx, ↓x_neg, ↓x_not, ↓x_isN, ↓x_isnN, ↓x_rev, ↓x_sset, ↓x_isiT, ↓x_chn, ↓x_ite, ↓x_and, ↓x_or, ↓x_and1, ↓x_or1, ↓x_and2, ↓x_or2, ↓x_tup, ↓x_lst, ↓x_dic, ↓x_slc, ↓x_call, ↓x_callK, ↓x_blt, ↓x_mth, ↓x_rngL, ↓x_rngT, ↓x_comp, ↓x_enil, ↓x_econs, ↓x_kv0, ↓x_kv, ↓x_ono, ↓x_oso, ↓x_cno, ↓x_cso, ↓x_val, ↓x_rng1, ↓x_rng2, ↓x_enum, ↓x_gvar, ↓x_gtup, ↓x_gtupR, ↓x_gsub, ↓x_gnil, ↓x_gcons, ↓x_snil, ↓x_scons, ↓x_pass, ↓x_expr, ↓x_ret, ↓x_retN, ↓x_set, ↓x_aug, ↓x_augO, ↓x_augA, ↓x_augS, ↓x_iff, ↓x_for, ↓x_whl, ↓x_brk, ↓x_cnt, ↓x_seqN, ↓x_seqR, ↓x_seqB, ↓x_seqC, ↓x_finR, ↓x_finN, ↓x_lk, ↓x_negR, ↓x_notR, ↓x_cnd, ↓x_oiR, ↓x_opt, ↓x_ob, ↓x_r1, ↓x_r2, ↓x_valT, ↓x_valF, ↓x_lst', ↓x_dk', ↓x_valL, ↓x_enumL, ↓x_mthL, ↓x_mth_append, ↓x_mth_extend, ↓x_mth_pop, ↓x_mth_get, ↓x_newT, ↓x_newL, ↓x_dicR, ↓x_add, ↓x_sub, ↓x_mul, ↓x_fdiv, ↓x_mod, ↓x_pow, ↓x_tadd, ↓x_ladd, ↓x_lt, ↓x_le, ↓x_gt, ↓x_ge, ↓x_eq, ↓x_ne, ↓x_inn, ↓x_nin, ↓x_tix, ↓x_rix, ↓x_ixL, ↓x_ixD, ↓x_setD, ↓x_stD, ↓x_stL, ↓x_app, ↓x_if, ↓x_ext, ↓x_pop, ↓x_lenT, ↓x_lenR, ↓x_lenL, ↓x_listT, ↓x_listL, ↓x_tupL, ↓x_tupT, ↓x_sortT, ↓x_sortL, ↓x_all, ↓x_any, ↓x_sum, ↓x_max2, ↓x_min2, ↓x_toint, ↓x_repr, ↓x_rep, ↓x_slcT, ↓x_slcF, ↓x_slcL, ↓x_revL, ↓x_ssetL, ↓x_isi_int, ↓x_isi_bool, ↓x_isi_NoneType, ↓x_isi_str, ↓x_isi_tuple, ↓x_isi_list, ↓gx_bd, ↓gx_ok, ↓x_loopN, ↓x_loopC, ↓x_loopB, ↓x_loopR, ty_NoneType_int, ty_NoneType_bool, ty_NoneType_str, ty_NoneType_list, ty_NoneType_tuple, ty_NoneType_dict, ty_int_int, ty_int_bool, ty_int_str, ty_int_list, ty_int_tuple, ty_int_dict, ty_bool_int, ty_bool_bool, ty_bool_str, ty_bool_list, ty_bool_tuple, ty_bool_dict, ty_str_int, ty_str_bool, ty_str_str, ty_str_list, ty_str_tuple, ty_str_dict, ty_tuple_int, ty_tuple_bool, ty_tuple_str, ty_tuple_list, ty_tuple_tuple, ty_tuple_dict, ty_list_int, ty_list_bool, ty_list_str, ty_list_list, ty_list_tuple, ty_list_dict, ty_dict_int, ty_dict_bool, ty_dict_str, ty_dict_list, ty_dict_tuple, ty_dict_dict, at_0, at_1, at_2, at_3, at_4, nat_0, nat_1, nat_2, nat_3, nat_4, nat_5, nat_6, at_end, at_end1, at_end2, at_end3, bools_t, all_t, Nat.reduceLT, Nat.reduceLeDiff, Int.reduceLT, Int.reduceLE, Int.reduceAdd, Int.reduceSub, Int.reduceMul, Int.reducePow, Int.reduceToNat, Int.reduceNeg, ifx_t, ifx_f, ifx_n, gx_ok, eqT_int, List.getElem?_cons_zero, List.getElem?_cons_succ, List.set_cons_zero, List.set_cons_succ, List.map_cons, List.map_nil, List.nil_append, List.cons_append, List.replicate_succ, List.replicate_zero, List.length_cons, List.length_nil, List.any_cons, List.any_nil, Nat.reduceAdd, Nat.reduceSub, Bool.or_false, Bool.or_true, Bool.false_or, Bool.true_or, Bool.not_true, Bool.not_false, Option.map_some, Option.bind_some, decide_true, decide_false, true_and, and_true, wipeL, ↓gg_KINDS]
        refine ⟨_, hm, f, w, fd2, ws2, a, b, d, rfl, S2, ?_, rfl, by omega⟩
        rw [List.length_map, ← (show (kindsOf wv).length = wv.2.length from List.length_map _), List.take_length, ← e4] at M
        exact M.end_
theorem led {B : Book} {c : Int} (g : GoodBook B) (hc : 0 ≤ c ∧ c < B.length) : ∃ (h' : Hh) (r : Nat) (xs : List Int), callN D (n + 1) "kinds_led_to" [bookT B, .int c] h = .ok (.ref r) h' ∧ h'[r]? = some (.lst (xs.map T.int)) ∧ xs.Pairwise (· < ·) ∧ (∀ d, d ∈ xs ↔ Rch B c d) ∧ Keep [] h h' ∧ h.length ≤ r := by
  obtain ⟨x, h1, e, r, xs, rfl, q⟩ := gx_ex (g_led (n := n) (h := h) g hc (Q := fun a h1 => ∃ (r : Nat) (xs : List Int), a = .ref r ∧ h1[r]? = some (.lst (xs.map T.int)) ∧ xs.Pairwise (· < ·) ∧ (∀ d, d ∈ xs ↔ Rch B c d) ∧ Keep [] h h1 ∧ h.length ≤ r) fun h' r xs q1 q2 q3 q4 q5 => ⟨r, xs, rfl, q1, q2, q3, q4, q5⟩)
  exact ⟨h1, r, xs, e, q⟩
theorem pw_nodup {l : List Int} (h : l.Pairwise (· < ·)) : l.Nodup := h.imp fun {a b} z => by omega
theorem leads {B : Book} {c d : Int} (g : GoodBook B) (hc : 0 ≤ c ∧ c < B.length) (hd : 0 ≤ d ∧ d < B.length) : ∃ (h' : Hh) (b : Bool), callN D (n + 8) "leads" [bookT B, .int c, .int d] h = .ok (.bl b) h' ∧ (b = true ↔ Rch B c d) ∧ Keep [] h h' := by
  obtain ⟨h2, e2, k2⟩ := need_book (n := n) (h := h) g
  obtain ⟨h3, r, xs, e3, e4, e5, e6, e7, e8⟩ := led (n := n + 6) (h := h2) g hc
  have z : Gx (callN D (n + 8) "leads" [bookT B, .int c, .int d] h) (P := ⟨fun a h1 => a = .bl (decide (d ∈ xs)) ∧ h1 = h3⟩) := by
    refine call_gx f_leads rfl ?_
    simp only [↓x_var, ↓x_int, ↓x_bl, ↓x_non, ↓x_str, ↓x_bin, ↓x_cmp, ↓x_idx, ↓x_neg, ↓x_not, ↓x_isN, ↓x_isnN, ↓x_rev, ↓x_sset, ↓x_isiT, ↓x_chn, ↓x_ite, ↓x_and, ↓x_or, ↓x_and1, ↓x_or1, ↓x_and2, ↓x_or2, ↓x_tup, ↓x_lst, ↓x_dic, ↓x_slc, ↓x_call, ↓x_callK, ↓x_blt, ↓x_mth, ↓x_rngL, ↓x_rngT, ↓x_comp, ↓x_enil, ↓x_econs, ↓x_kv0, ↓x_kv, ↓x_ono, ↓x_oso, ↓x_cno, ↓x_cso, ↓x_val, ↓x_rng1, ↓x_rng2, ↓x_enum, ↓x_gvar, ↓x_gtup, ↓x_gtupR, ↓x_gsub, ↓x_gnil, ↓x_gcons, ↓x_snil, ↓x_scons, ↓x_pass, ↓x_expr, ↓x_ret, ↓x_retN, ↓x_set, ↓x_aug, ↓x_augO, ↓x_augA, ↓x_augS, ↓x_iff, ↓x_for, ↓x_whl, ↓x_brk, ↓x_cnt, ↓x_seqN, ↓x_seqR, ↓x_seqB, ↓x_seqC, ↓x_finR, ↓x_finN, ↓x_lk, ↓x_negR, ↓x_notR, ↓x_cnd, ↓x_oiR, ↓x_opt, ↓x_ob, ↓x_r1, ↓x_r2, ↓x_valT, ↓x_valF, ↓x_lst', ↓x_dk', ↓x_valL, ↓x_enumL, ↓x_mthL, ↓x_mth_append, ↓x_mth_extend, ↓x_mth_pop, ↓x_mth_get, ↓x_newT, ↓x_newL, ↓x_dicR, ↓x_add, ↓x_sub, ↓x_mul, ↓x_fdiv, ↓x_mod, ↓x_pow, ↓x_tadd, ↓x_ladd, ↓x_lt, ↓x_le, ↓x_gt, ↓x_ge, ↓x_eq, ↓x_ne, ↓x_inn, ↓x_nin, ↓x_tix, ↓x_rix, ↓x_ixL, ↓x_ixD, ↓x_setD, ↓x_stD, ↓x_stL, ↓x_app, ↓x_if, ↓x_ext, ↓x_pop, ↓x_lenT, ↓x_lenR, ↓x_lenL, ↓x_listT, ↓x_listL, ↓x_tupL, ↓x_tupT, ↓x_sortT, ↓x_sortL, ↓x_all, ↓x_any, ↓x_sum, ↓x_max2, ↓x_min2, ↓x_toint, ↓x_repr, ↓x_rep, ↓x_slcT, ↓x_slcF, ↓x_slcL, ↓x_revL, ↓x_ssetL, ↓x_isi_int, ↓x_isi_bool, ↓x_isi_NoneType, ↓x_isi_str, ↓x_isi_tuple, ↓x_isi_list, ↓gx_bd, ↓gx_ok, ↓x_loopN, ↓x_loopC, ↓x_loopB, ↓x_loopR, ty_NoneType_int, ty_NoneType_bool, ty_NoneType_str, ty_NoneType_list, ty_NoneType_tuple, ty_NoneType_dict, ty_int_int, ty_int_bool, ty_int_str, ty_int_list, ty_int_tuple, ty_int_dict, ty_bool_int, ty_bool_bool, ty_bool_str, ty_bool_list, ty_bool_tuple, ty_bool_dict, ty_str_int, ty_str_bool, ty_str_str, ty_str_list, ty_str_tuple, ty_str_dict, ty_tuple_int, ty_tuple_bool, ty_tuple_str, ty_tuple_list, ty_tuple_tuple, ty_tuple_dict, ty_list_int, ty_list_bool, ty_list_str, ty_list_list, ty_list_tuple, ty_list_dict, ty_dict_int, ty_dict_bool, ty_dict_str, ty_dict_list, ty_dict_tuple, ty_dict_dict, at_0, at_1, at_2, at_3, at_4, nat_0, nat_1, nat_2, nat_3, nat_4, nat_5, nat_6, at_end, at_end1, at_end2, at_end3, bools_t, all_t, Nat.reduceLT, Nat.reduceLeDiff, Int.reduceLT, Int.reduceLE, Int.reduceAdd, Int.reduceSub, Int.reduceMul, Int.reducePow, Int.reduceToNat, Int.reduceNeg, ifx_t, ifx_f, ifx_n, gx_ok, eqT_int, List.getElem?_cons_zero, List.getElem?_cons_succ, List.set_cons_zero, List.set_cons_succ, List.map_cons, List.map_nil, List.nil_append, List.cons_append, List.replicate_succ, List.replicate_zero, List.length_cons, List.length_nil, List.any_cons, List.any_nil, Nat.reduceAdd, Nat.reduceSub, Bool.or_false, Bool.or_true, Bool.false_or, Bool.true_or, Bool.not_true, Bool.not_false, Option.map_some, Option.bind_some, decide_true, decide_false, true_and, and_true, wipeL, ↓gg_KINDS, e2, Nat.reduceLeDiff, show (2 : Nat) ≤ 16777216 by decide]
    refine gx_for (fun i l h1 => ∃ k, l = [some (bookT B), some (.int c), some (.int d), k] ∧ h1 = h2) ⟨_, rfl, rfl⟩ (fun _ _ _ _ p hp => by simp at hp) ?_ ?_
    · rintro i x l h1 hx ⟨k, rfl, rfl⟩
      have hx2 : ∃ y, x = .int y ∧ 0 ≤ y ∧ y ≤ (B.length : Int) - 1 := by
        have := List.mem_of_getElem? hx
        simp only [List.mem_cons, List.not_mem_nil, or_false] at this
        rcases this with e | e
        · exact ⟨c, e, by omega⟩
        · exact ⟨d, e, by omega⟩
      obtain ⟨y, rfl, hy⟩ := hx2
      simp only [↓x_var, ↓x_int, ↓x_bl, ↓x_non, ↓x_str, ↓x_bin, ↓x_cmp, ↓x_idx, ↓x_neg, ↓x_not, ↓x_isN, ↓x_isnN, ↓x_rev, ↓x_sset, ↓x_isiT, ↓x_chn, ↓x_ite, ↓x_and, ↓x_or, ↓x_and1, ↓x_or1, ↓x_and2, ↓x_or2, ↓x_tup, ↓x_lst, ↓x_dic, ↓x_slc, ↓x_call, ↓x_callK, ↓x_blt, ↓x_mth, ↓x_rngL, ↓x_rngT, ↓x_comp, ↓x_enil, ↓x_econs, ↓x_kv0, ↓x_kv, ↓x_ono, ↓x_oso, ↓x_cno, ↓x_cso, ↓x_val, ↓x_rng1, ↓x_rng2, ↓x_enum, ↓x_gvar, ↓x_gtup, ↓x_gtupR, ↓x_gsub, ↓x_gnil, ↓x_gcons, ↓x_snil, ↓x_scons, ↓x_pass, ↓x_expr, ↓x_ret, ↓x_retN, ↓x_set, ↓x_aug, ↓x_augO, ↓x_augA, ↓x_augS, ↓x_iff, ↓x_for, ↓x_whl, ↓x_brk, ↓x_cnt, ↓x_seqN, ↓x_seqR, ↓x_seqB, ↓x_seqC, ↓x_finR, ↓x_finN, ↓x_lk, ↓x_negR, ↓x_notR, ↓x_cnd, ↓x_oiR, ↓x_opt, ↓x_ob, ↓x_r1, ↓x_r2, ↓x_valT, ↓x_valF, ↓x_lst', ↓x_dk', ↓x_valL, ↓x_enumL, ↓x_mthL, ↓x_mth_append, ↓x_mth_extend, ↓x_mth_pop, ↓x_mth_get, ↓x_newT, ↓x_newL, ↓x_dicR, ↓x_add, ↓x_sub, ↓x_mul, ↓x_fdiv, ↓x_mod, ↓x_pow, ↓x_tadd, ↓x_ladd, ↓x_lt, ↓x_le, ↓x_gt, ↓x_ge, ↓x_eq, ↓x_ne, ↓x_inn, ↓x_nin, ↓x_tix, ↓x_rix, ↓x_ixL, ↓x_ixD, ↓x_setD, ↓x_stD, ↓x_stL, ↓x_app, ↓x_if, ↓x_ext, ↓x_pop, ↓x_lenT, ↓x_lenR, ↓x_lenL, ↓x_listT, ↓x_listL, ↓x_tupL, ↓x_tupT, ↓x_sortT, ↓x_sortL, ↓x_all, ↓x_any, ↓x_sum, ↓x_max2, ↓x_min2, ↓x_toint, ↓x_repr, ↓x_rep, ↓x_slcT, ↓x_slcF, ↓x_slcL, ↓x_revL, ↓x_ssetL, ↓x_isi_int, ↓x_isi_bool, ↓x_isi_NoneType, ↓x_isi_str, ↓x_isi_tuple, ↓x_isi_list, ↓gx_bd, ↓gx_ok, ↓x_loopN, ↓x_loopC, ↓x_loopB, ↓x_loopR, ty_NoneType_int, ty_NoneType_bool, ty_NoneType_str, ty_NoneType_list, ty_NoneType_tuple, ty_NoneType_dict, ty_int_int, ty_int_bool, ty_int_str, ty_int_list, ty_int_tuple, ty_int_dict, ty_bool_int, ty_bool_bool, ty_bool_str, ty_bool_list, ty_bool_tuple, ty_bool_dict, ty_str_int, ty_str_bool, ty_str_str, ty_str_list, ty_str_tuple, ty_str_dict, ty_tuple_int, ty_tuple_bool, ty_tuple_str, ty_tuple_list, ty_tuple_tuple, ty_tuple_dict, ty_list_int, ty_list_bool, ty_list_str, ty_list_list, ty_list_tuple, ty_list_dict, ty_dict_int, ty_dict_bool, ty_dict_str, ty_dict_list, ty_dict_tuple, ty_dict_dict, at_0, at_1, at_2, at_3, at_4, nat_0, nat_1, nat_2, nat_3, nat_4, nat_5, nat_6, at_end, at_end1, at_end2, at_end3, bools_t, all_t, Nat.reduceLT, Nat.reduceLeDiff, Int.reduceLT, Int.reduceLE, Int.reduceAdd, Int.reduceSub, Int.reduceMul, Int.reducePow, Int.reduceToNat, Int.reduceNeg, ifx_t, ifx_f, ifx_n, gx_ok, eqT_int, List.getElem?_cons_zero, List.getElem?_cons_succ, List.set_cons_zero, List.set_cons_succ, List.map_cons, List.map_nil, List.nil_append, List.cons_append, List.replicate_succ, List.replicate_zero, List.length_cons, List.length_nil, List.any_cons, List.any_nil, Nat.reduceAdd, Nat.reduceSub, Bool.or_false, Bool.or_true, Bool.false_or, Bool.true_or, Bool.not_true, Bool.not_false, Option.map_some, Option.bind_some, decide_true, decide_false, true_and, and_true, wipeL, ↓gg_KINDS, bookT, btw hy, List.length_map]
      exact ⟨_, rfl⟩
    · rintro l h1 ⟨k, rfl, rfl⟩
      simp only [↓x_var, ↓x_int, ↓x_bl, ↓x_non, ↓x_str, ↓x_bin, ↓x_cmp, ↓x_idx, ↓x_neg, ↓x_not, ↓x_isN, ↓x_isnN, ↓x_rev, ↓x_sset, ↓x_isiT, ↓x_chn, ↓x_ite, ↓x_and, ↓x_or, ↓x_and1, ↓x_or1, ↓x_and2, ↓x_or2, ↓x_tup, ↓x_lst, ↓x_dic, ↓x_slc, ↓x_call, ↓x_callK, ↓x_blt, ↓x_mth, ↓x_rngL, ↓x_rngT, ↓x_comp, ↓x_enil, ↓x_econs, ↓x_kv0, ↓x_kv, ↓x_ono, ↓x_oso, ↓x_cno, ↓x_cso, ↓x_val, ↓x_rng1, ↓x_rng2, ↓x_enum, ↓x_gvar, ↓x_gtup, ↓x_gtupR, ↓x_gsub, ↓x_gnil, ↓x_gcons, ↓x_snil, ↓x_scons, ↓x_pass, ↓x_expr, ↓x_ret, ↓x_retN, ↓x_set, ↓x_aug, ↓x_augO, ↓x_augA, ↓x_augS, ↓x_iff, ↓x_for, ↓x_whl, ↓x_brk, ↓x_cnt, ↓x_seqN, ↓x_seqR, ↓x_seqB, ↓x_seqC, ↓x_finR, ↓x_finN, ↓x_lk, ↓x_negR, ↓x_notR, ↓x_cnd, ↓x_oiR, ↓x_opt, ↓x_ob, ↓x_r1, ↓x_r2, ↓x_valT, ↓x_valF, ↓x_lst', ↓x_dk', ↓x_valL, ↓x_enumL, ↓x_mthL, ↓x_mth_append, ↓x_mth_extend, ↓x_mth_pop, ↓x_mth_get, ↓x_newT, ↓x_newL, ↓x_dicR, ↓x_add, ↓x_sub, ↓x_mul, ↓x_fdiv, ↓x_mod, ↓x_pow, ↓x_tadd, ↓x_ladd, ↓x_lt, ↓x_le, ↓x_gt, ↓x_ge, ↓x_eq, ↓x_ne, ↓x_inn, ↓x_nin, ↓x_tix, ↓x_rix, ↓x_ixL, ↓x_ixD, ↓x_setD, ↓x_stD, ↓x_stL, ↓x_app, ↓x_if, ↓x_ext, ↓x_pop, ↓x_lenT, ↓x_lenR, ↓x_lenL, ↓x_listT, ↓x_listL, ↓x_tupL, ↓x_tupT, ↓x_sortT, ↓x_sortL, ↓x_all, ↓x_any, ↓x_sum, ↓x_max2, ↓x_min2, ↓x_toint, ↓x_repr, ↓x_rep, ↓x_slcT, ↓x_slcF, ↓x_slcL, ↓x_revL, ↓x_ssetL, ↓x_isi_int, ↓x_isi_bool, ↓x_isi_NoneType, ↓x_isi_str, ↓x_isi_tuple, ↓x_isi_list, ↓gx_bd, ↓gx_ok, ↓x_loopN, ↓x_loopC, ↓x_loopB, ↓x_loopR, ty_NoneType_int, ty_NoneType_bool, ty_NoneType_str, ty_NoneType_list, ty_NoneType_tuple, ty_NoneType_dict, ty_int_int, ty_int_bool, ty_int_str, ty_int_list, ty_int_tuple, ty_int_dict, ty_bool_int, ty_bool_bool, ty_bool_str, ty_bool_list, ty_bool_tuple, ty_bool_dict, ty_str_int, ty_str_bool, ty_str_str, ty_str_list, ty_str_tuple, ty_str_dict, ty_tuple_int, ty_tuple_bool, ty_tuple_str, ty_tuple_list, ty_tuple_tuple, ty_tuple_dict, ty_list_int, ty_list_bool, ty_list_str, ty_list_list, ty_list_tuple, ty_list_dict, ty_dict_int, ty_dict_bool, ty_dict_str, ty_dict_list, ty_dict_tuple, ty_dict_dict, at_0, at_1, at_2, at_3, at_4, nat_0, nat_1, nat_2, nat_3, nat_4, nat_5, nat_6, at_end, at_end1, at_end2, at_end3, bools_t, all_t, Nat.reduceLT, Nat.reduceLeDiff, Int.reduceLT, Int.reduceLE, Int.reduceAdd, Int.reduceSub, Int.reduceMul, Int.reducePow, Int.reduceToNat, Int.reduceNeg, ifx_t, ifx_f, ifx_n, gx_ok, eqT_int, List.getElem?_cons_zero, List.getElem?_cons_succ, List.set_cons_zero, List.set_cons_succ, List.map_cons, List.map_nil, List.nil_append, List.cons_append, List.replicate_succ, List.replicate_zero, List.length_cons, List.length_nil, List.any_cons, List.any_nil, Nat.reduceAdd, Nat.reduceSub, Bool.or_false, Bool.or_true, Bool.false_or, Bool.true_or, Bool.not_true, Bool.not_false, Option.map_some, Option.bind_some, decide_true, decide_false, true_and, and_true, wipeL, ↓gg_KINDS, e3, inO_ints e4]
  obtain ⟨x, h1, e, rfl, rfl⟩ := gx_ex z
  exact ⟨_, _, e, by rw [decide_eq_true_eq]; exact e6 d, k2.trans e7⟩
theorem kinds_of {w : Int × List Tie} {B : Book} (g1 : GoodWeb B.length w) (g : GoodBook B) (hl : w.2.length ≤ 15) : ∃ (h' : Hh) (xs : List Int), callN D (n + 9) "kinds_of" [gardenT w B] h = .ok (.tup (xs.map T.int)) h' ∧ xs.Pairwise (· < ·) ∧ (∀ d, d ∈ xs ↔ ∃ t ∈ w.2, d = t.2.2 ∨ Rch B t.2.2 d) ∧ Keep [] h h' := by
  obtain ⟨h2, e2, k2⟩ := need_garden (n := n) (h := h) g1 g
  have z : Gx (callN D (n + 9) "kinds_of" [gardenT w B] h) (P := ⟨fun a h1 => ∃ xs : List Int, a = .tup (xs.map T.int) ∧ xs.Pairwise (· < ·) ∧ (∀ d, d ∈ xs ↔ ∃ t ∈ w.2, d = t.2.2 ∨ Rch B t.2.2 d) ∧ Keep [] h h1⟩) := by
    refine call_gx f_kinds_of rfl ?_
    simp only [↓x_var, ↓x_int, ↓x_bl, ↓x_non, ↓x_str, ↓x_bin, ↓x_cmp, ↓x_idx, ↓x_neg, ↓x_not, ↓x_isN, ↓x_isnN, ↓x_rev, ↓x_sset, ↓x_isiT, ↓x_chn, ↓x_ite, ↓x_and, ↓x_or, ↓x_and1, ↓x_or1, ↓x_and2, ↓x_or2, ↓x_tup, ↓x_lst, ↓x_dic, ↓x_slc, ↓x_call, ↓x_callK, ↓x_blt, ↓x_mth, ↓x_rngL, ↓x_rngT, ↓x_comp, ↓x_enil, ↓x_econs, ↓x_kv0, ↓x_kv, ↓x_ono, ↓x_oso, ↓x_cno, ↓x_cso, ↓x_val, ↓x_rng1, ↓x_rng2, ↓x_enum, ↓x_gvar, ↓x_gtup, ↓x_gtupR, ↓x_gsub, ↓x_gnil, ↓x_gcons, ↓x_snil, ↓x_scons, ↓x_pass, ↓x_expr, ↓x_ret, ↓x_retN, ↓x_set, ↓x_aug, ↓x_augO, ↓x_augA, ↓x_augS, ↓x_iff, ↓x_for, ↓x_whl, ↓x_brk, ↓x_cnt, ↓x_seqN, ↓x_seqR, ↓x_seqB, ↓x_seqC, ↓x_finR, ↓x_finN, ↓x_lk, ↓x_negR, ↓x_notR, ↓x_cnd, ↓x_oiR, ↓x_opt, ↓x_ob, ↓x_r1, ↓x_r2, ↓x_valT, ↓x_valF, ↓x_lst', ↓x_dk', ↓x_valL, ↓x_enumL, ↓x_mthL, ↓x_mth_append, ↓x_mth_extend, ↓x_mth_pop, ↓x_mth_get, ↓x_newT, ↓x_newL, ↓x_dicR, ↓x_add, ↓x_sub, ↓x_mul, ↓x_fdiv, ↓x_mod, ↓x_pow, ↓x_tadd, ↓x_ladd, ↓x_lt, ↓x_le, ↓x_gt, ↓x_ge, ↓x_eq, ↓x_ne, ↓x_inn, ↓x_nin, ↓x_tix, ↓x_rix, ↓x_ixL, ↓x_ixD, ↓x_setD, ↓x_stD, ↓x_stL, ↓x_app, ↓x_if, ↓x_ext, ↓x_pop, ↓x_lenT, ↓x_lenR, ↓x_lenL, ↓x_listT, ↓x_listL, ↓x_tupL, ↓x_tupT, ↓x_sortT, ↓x_sortL, ↓x_all, ↓x_any, ↓x_sum, ↓x_max2, ↓x_min2, ↓x_toint, ↓x_repr, ↓x_rep, ↓x_slcT, ↓x_slcF, ↓x_slcL, ↓x_revL, ↓x_ssetL, ↓x_isi_int, ↓x_isi_bool, ↓x_isi_NoneType, ↓x_isi_str, ↓x_isi_tuple, ↓x_isi_list, ↓gx_bd, ↓gx_ok, ↓x_loopN, ↓x_loopC, ↓x_loopB, ↓x_loopR, ty_NoneType_int, ty_NoneType_bool, ty_NoneType_str, ty_NoneType_list, ty_NoneType_tuple, ty_NoneType_dict, ty_int_int, ty_int_bool, ty_int_str, ty_int_list, ty_int_tuple, ty_int_dict, ty_bool_int, ty_bool_bool, ty_bool_str, ty_bool_list, ty_bool_tuple, ty_bool_dict, ty_str_int, ty_str_bool, ty_str_str, ty_str_list, ty_str_tuple, ty_str_dict, ty_tuple_int, ty_tuple_bool, ty_tuple_str, ty_tuple_list, ty_tuple_tuple, ty_tuple_dict, ty_list_int, ty_list_bool, ty_list_str, ty_list_list, ty_list_tuple, ty_list_dict, ty_dict_int, ty_dict_bool, ty_dict_str, ty_dict_list, ty_dict_tuple, ty_dict_dict, at_0, at_1, at_2, at_3, at_4, nat_0, nat_1, nat_2, nat_3, nat_4, nat_5, nat_6, at_end, at_end1, at_end2, at_end3, bools_t, all_t, Nat.reduceLT, Nat.reduceLeDiff, Int.reduceLT, Int.reduceLE, Int.reduceAdd, Int.reduceSub, Int.reduceMul, Int.reducePow, Int.reduceToNat, Int.reduceNeg, ifx_t, ifx_f, ifx_n, gx_ok, eqT_int, List.getElem?_cons_zero, List.getElem?_cons_succ, List.set_cons_zero, List.set_cons_succ, List.map_cons, List.map_nil, List.nil_append, List.cons_append, List.replicate_succ, List.replicate_zero, List.length_cons, List.length_nil, List.any_cons, List.any_nil, Nat.reduceAdd, Nat.reduceSub, Bool.or_false, Bool.or_true, Bool.false_or, Bool.true_or, Bool.not_true, Bool.not_false, Option.map_some, Option.bind_some, decide_true, decide_false, true_and, and_true, wipeL, ↓gg_KINDS, e2, Nat.zero_le]
    unfold gardenT
    simp only [↓x_var, ↓x_int, ↓x_bl, ↓x_non, ↓x_str, ↓x_bin, ↓x_cmp, ↓x_idx, ↓x_neg, ↓x_not, ↓x_isN, ↓x_isnN, ↓x_rev, ↓x_sset, ↓x_isiT, ↓x_chn, ↓x_ite, ↓x_and, ↓x_or, ↓x_and1, ↓x_or1, ↓x_and2, ↓x_or2, ↓x_tup, ↓x_lst, ↓x_dic, ↓x_slc, ↓x_call, ↓x_callK, ↓x_blt, ↓x_mth, ↓x_rngL, ↓x_rngT, ↓x_comp, ↓x_enil, ↓x_econs, ↓x_kv0, ↓x_kv, ↓x_ono, ↓x_oso, ↓x_cno, ↓x_cso, ↓x_val, ↓x_rng1, ↓x_rng2, ↓x_enum, ↓x_gvar, ↓x_gtup, ↓x_gtupR, ↓x_gsub, ↓x_gnil, ↓x_gcons, ↓x_snil, ↓x_scons, ↓x_pass, ↓x_expr, ↓x_ret, ↓x_retN, ↓x_set, ↓x_aug, ↓x_augO, ↓x_augA, ↓x_augS, ↓x_iff, ↓x_for, ↓x_whl, ↓x_brk, ↓x_cnt, ↓x_seqN, ↓x_seqR, ↓x_seqB, ↓x_seqC, ↓x_finR, ↓x_finN, ↓x_lk, ↓x_negR, ↓x_notR, ↓x_cnd, ↓x_oiR, ↓x_opt, ↓x_ob, ↓x_r1, ↓x_r2, ↓x_valT, ↓x_valF, ↓x_lst', ↓x_dk', ↓x_valL, ↓x_enumL, ↓x_mthL, ↓x_mth_append, ↓x_mth_extend, ↓x_mth_pop, ↓x_mth_get, ↓x_newT, ↓x_newL, ↓x_dicR, ↓x_add, ↓x_sub, ↓x_mul, ↓x_fdiv, ↓x_mod, ↓x_pow, ↓x_tadd, ↓x_ladd, ↓x_lt, ↓x_le, ↓x_gt, ↓x_ge, ↓x_eq, ↓x_ne, ↓x_inn, ↓x_nin, ↓x_tix, ↓x_rix, ↓x_ixL, ↓x_ixD, ↓x_setD, ↓x_stD, ↓x_stL, ↓x_app, ↓x_if, ↓x_ext, ↓x_pop, ↓x_lenT, ↓x_lenR, ↓x_lenL, ↓x_listT, ↓x_listL, ↓x_tupL, ↓x_tupT, ↓x_sortT, ↓x_sortL, ↓x_all, ↓x_any, ↓x_sum, ↓x_max2, ↓x_min2, ↓x_toint, ↓x_repr, ↓x_rep, ↓x_slcT, ↓x_slcF, ↓x_slcL, ↓x_revL, ↓x_ssetL, ↓x_isi_int, ↓x_isi_bool, ↓x_isi_NoneType, ↓x_isi_str, ↓x_isi_tuple, ↓x_isi_list, ↓gx_bd, ↓gx_ok, ↓x_loopN, ↓x_loopC, ↓x_loopB, ↓x_loopR, ty_NoneType_int, ty_NoneType_bool, ty_NoneType_str, ty_NoneType_list, ty_NoneType_tuple, ty_NoneType_dict, ty_int_int, ty_int_bool, ty_int_str, ty_int_list, ty_int_tuple, ty_int_dict, ty_bool_int, ty_bool_bool, ty_bool_str, ty_bool_list, ty_bool_tuple, ty_bool_dict, ty_str_int, ty_str_bool, ty_str_str, ty_str_list, ty_str_tuple, ty_str_dict, ty_tuple_int, ty_tuple_bool, ty_tuple_str, ty_tuple_list, ty_tuple_tuple, ty_tuple_dict, ty_list_int, ty_list_bool, ty_list_str, ty_list_list, ty_list_tuple, ty_list_dict, ty_dict_int, ty_dict_bool, ty_dict_str, ty_dict_list, ty_dict_tuple, ty_dict_dict, at_0, at_1, at_2, at_3, at_4, nat_0, nat_1, nat_2, nat_3, nat_4, nat_5, nat_6, at_end, at_end1, at_end2, at_end3, bools_t, all_t, Nat.reduceLT, Nat.reduceLeDiff, Int.reduceLT, Int.reduceLE, Int.reduceAdd, Int.reduceSub, Int.reduceMul, Int.reducePow, Int.reduceToNat, Int.reduceNeg, ifx_t, ifx_f, ifx_n, gx_ok, eqT_int, List.getElem?_cons_zero, List.getElem?_cons_succ, List.set_cons_zero, List.set_cons_succ, List.map_cons, List.map_nil, List.nil_append, List.cons_append, List.replicate_succ, List.replicate_zero, List.length_cons, List.length_nil, List.any_cons, List.any_nil, Nat.reduceAdd, Nat.reduceSub, Bool.or_false, Bool.or_true, Bool.false_or, Bool.true_or, Bool.not_true, Bool.not_false, Option.map_some, Option.bind_some, decide_true, decide_false, true_and, and_true, wipeL, ↓gg_KINDS, Nat.zero_le]
    unfold webT
    simp only [↓x_var, ↓x_int, ↓x_bl, ↓x_non, ↓x_str, ↓x_bin, ↓x_cmp, ↓x_idx, ↓x_neg, ↓x_not, ↓x_isN, ↓x_isnN, ↓x_rev, ↓x_sset, ↓x_isiT, ↓x_chn, ↓x_ite, ↓x_and, ↓x_or, ↓x_and1, ↓x_or1, ↓x_and2, ↓x_or2, ↓x_tup, ↓x_lst, ↓x_dic, ↓x_slc, ↓x_call, ↓x_callK, ↓x_blt, ↓x_mth, ↓x_rngL, ↓x_rngT, ↓x_comp, ↓x_enil, ↓x_econs, ↓x_kv0, ↓x_kv, ↓x_ono, ↓x_oso, ↓x_cno, ↓x_cso, ↓x_val, ↓x_rng1, ↓x_rng2, ↓x_enum, ↓x_gvar, ↓x_gtup, ↓x_gtupR, ↓x_gsub, ↓x_gnil, ↓x_gcons, ↓x_snil, ↓x_scons, ↓x_pass, ↓x_expr, ↓x_ret, ↓x_retN, ↓x_set, ↓x_aug, ↓x_augO, ↓x_augA, ↓x_augS, ↓x_iff, ↓x_for, ↓x_whl, ↓x_brk, ↓x_cnt, ↓x_seqN, ↓x_seqR, ↓x_seqB, ↓x_seqC, ↓x_finR, ↓x_finN, ↓x_lk, ↓x_negR, ↓x_notR, ↓x_cnd, ↓x_oiR, ↓x_opt, ↓x_ob, ↓x_r1, ↓x_r2, ↓x_valT, ↓x_valF, ↓x_lst', ↓x_dk', ↓x_valL, ↓x_enumL, ↓x_mthL, ↓x_mth_append, ↓x_mth_extend, ↓x_mth_pop, ↓x_mth_get, ↓x_newT, ↓x_newL, ↓x_dicR, ↓x_add, ↓x_sub, ↓x_mul, ↓x_fdiv, ↓x_mod, ↓x_pow, ↓x_tadd, ↓x_ladd, ↓x_lt, ↓x_le, ↓x_gt, ↓x_ge, ↓x_eq, ↓x_ne, ↓x_inn, ↓x_nin, ↓x_tix, ↓x_rix, ↓x_ixL, ↓x_ixD, ↓x_setD, ↓x_stD, ↓x_stL, ↓x_app, ↓x_if, ↓x_ext, ↓x_pop, ↓x_lenT, ↓x_lenR, ↓x_lenL, ↓x_listT, ↓x_listL, ↓x_tupL, ↓x_tupT, ↓x_sortT, ↓x_sortL, ↓x_all, ↓x_any, ↓x_sum, ↓x_max2, ↓x_min2, ↓x_toint, ↓x_repr, ↓x_rep, ↓x_slcT, ↓x_slcF, ↓x_slcL, ↓x_revL, ↓x_ssetL, ↓x_isi_int, ↓x_isi_bool, ↓x_isi_NoneType, ↓x_isi_str, ↓x_isi_tuple, ↓x_isi_list, ↓gx_bd, ↓gx_ok, ↓x_loopN, ↓x_loopC, ↓x_loopB, ↓x_loopR, ty_NoneType_int, ty_NoneType_bool, ty_NoneType_str, ty_NoneType_list, ty_NoneType_tuple, ty_NoneType_dict, ty_int_int, ty_int_bool, ty_int_str, ty_int_list, ty_int_tuple, ty_int_dict, ty_bool_int, ty_bool_bool, ty_bool_str, ty_bool_list, ty_bool_tuple, ty_bool_dict, ty_str_int, ty_str_bool, ty_str_str, ty_str_list, ty_str_tuple, ty_str_dict, ty_tuple_int, ty_tuple_bool, ty_tuple_str, ty_tuple_list, ty_tuple_tuple, ty_tuple_dict, ty_list_int, ty_list_bool, ty_list_str, ty_list_list, ty_list_tuple, ty_list_dict, ty_dict_int, ty_dict_bool, ty_dict_str, ty_dict_list, ty_dict_tuple, ty_dict_dict, at_0, at_1, at_2, at_3, at_4, nat_0, nat_1, nat_2, nat_3, nat_4, nat_5, nat_6, at_end, at_end1, at_end2, at_end3, bools_t, all_t, Nat.reduceLT, Nat.reduceLeDiff, Int.reduceLT, Int.reduceLE, Int.reduceAdd, Int.reduceSub, Int.reduceMul, Int.reducePow, Int.reduceToNat, Int.reduceNeg, ifx_t, ifx_f, ifx_n, gx_ok, eqT_int, List.getElem?_cons_zero, List.getElem?_cons_succ, List.set_cons_zero, List.set_cons_succ, List.map_cons, List.map_nil, List.nil_append, List.cons_append, List.replicate_succ, List.replicate_zero, List.length_cons, List.length_nil, List.any_cons, List.any_nil, Nat.reduceAdd, Nat.reduceSub, Bool.or_false, Bool.or_true, Bool.false_or, Bool.true_or, Bool.not_true, Bool.not_false, Option.map_some, Option.bind_some, decide_true, decide_false, true_and, and_true, wipeL, ↓gg_KINDS, Nat.zero_le]
    refine gx_for (fun i l h1 => ∃ f fd a b d, l = [some (.tup [.tup [.int w.1, .tup (w.2.map tieT)], bookT B]), some (.ref f), some (.tup [.int w.1, .tup (w.2.map tieT)]), some (bookT B), a, b, d] ∧ h1[f]? = some (.lst (fd.map T.int)) ∧ h2.length ≤ f ∧ Keep [] h2 h1 ∧ fd.length ≤ 4 * i ∧ ∀ d, d ∈ fd ↔ ∃ t ∈ w.2.take i, d = t.2.2 ∨ Rch B t.2.2 d)
      ⟨h2.length, [], _, _, _, rfl, at_end, Nat.le_refl _, .app _, Nat.le_refl _, fun d => by simp⟩ (fun _ _ _ _ p hp => by simp at hp) ?_ ?_
    · rintro i x l h1 hx ⟨f, fd, a, b, d, rfl, hf, f0, kp, fl, hm⟩
      rw [List.getElem?_map] at hx
      obtain ⟨t, ht, rfl⟩ := Option.map_eq_some_iff.mp hx
      have gt := g1.tie t (List.mem_of_getElem? ht)
      have hi := (List.getElem?_eq_some_iff.mp ht).1
      obtain ⟨h3, r, xs, q1, q2, q3, q4, q5, q6⟩ := led (n := n + 7) (h := h1 ++ [.lst [.int t.2.2]]) g gt.2.2.2
      have xl : xs.length ≤ 3 := Nat.le_trans (nodup_le (n := B.length) xs (pw_nodup q3) fun x hx => ((q4 x).mp hx).lt g) g.l3
      have at3 : h3[h1.length]? = some (.lst [.int t.2.2]) := q5.lst (by simp) at_end
      have at4 : h3[f]? = some (.lst (fd.map T.int)) := q5.lst (by simp) (at_old hf)
      simp only [↓x_var, ↓x_int, ↓x_bl, ↓x_non, ↓x_str, ↓x_bin, ↓x_cmp, ↓x_idx, ↓x_neg, ↓x_not, ↓x_isN, ↓x_isnN, ↓x_rev, ↓x_sset, ↓x_isiT, ↓x_chn, ↓x_ite, ↓x_and, ↓x_or, ↓x_and1, ↓x_or1, ↓x_and2, ↓x_or2, ↓x_tup, ↓x_lst, ↓x_dic, ↓x_slc, ↓x_call, ↓x_callK, ↓x_blt, ↓x_mth, ↓x_rngL, ↓x_rngT, ↓x_comp, ↓x_enil, ↓x_econs, ↓x_kv0, ↓x_kv, ↓x_ono, ↓x_oso, ↓x_cno, ↓x_cso, ↓x_val, ↓x_rng1, ↓x_rng2, ↓x_enum, ↓x_gvar, ↓x_gtup, ↓x_gtupR, ↓x_gsub, ↓x_gnil, ↓x_gcons, ↓x_snil, ↓x_scons, ↓x_pass, ↓x_expr, ↓x_ret, ↓x_retN, ↓x_set, ↓x_aug, ↓x_augO, ↓x_augA, ↓x_augS, ↓x_iff, ↓x_for, ↓x_whl, ↓x_brk, ↓x_cnt, ↓x_seqN, ↓x_seqR, ↓x_seqB, ↓x_seqC, ↓x_finR, ↓x_finN, ↓x_lk, ↓x_negR, ↓x_notR, ↓x_cnd, ↓x_oiR, ↓x_opt, ↓x_ob, ↓x_r1, ↓x_r2, ↓x_valT, ↓x_valF, ↓x_lst', ↓x_dk', ↓x_valL, ↓x_enumL, ↓x_mthL, ↓x_mth_append, ↓x_mth_extend, ↓x_mth_pop, ↓x_mth_get, ↓x_newT, ↓x_newL, ↓x_dicR, ↓x_add, ↓x_sub, ↓x_mul, ↓x_fdiv, ↓x_mod, ↓x_pow, ↓x_tadd, ↓x_ladd, ↓x_lt, ↓x_le, ↓x_gt, ↓x_ge, ↓x_eq, ↓x_ne, ↓x_inn, ↓x_nin, ↓x_tix, ↓x_rix, ↓x_ixL, ↓x_ixD, ↓x_setD, ↓x_stD, ↓x_stL, ↓x_app, ↓x_if, ↓x_ext, ↓x_pop, ↓x_lenT, ↓x_lenR, ↓x_lenL, ↓x_listT, ↓x_listL, ↓x_tupL, ↓x_tupT, ↓x_sortT, ↓x_sortL, ↓x_all, ↓x_any, ↓x_sum, ↓x_max2, ↓x_min2, ↓x_toint, ↓x_repr, ↓x_rep, ↓x_slcT, ↓x_slcF, ↓x_slcL, ↓x_revL, ↓x_ssetL, ↓x_isi_int, ↓x_isi_bool, ↓x_isi_NoneType, ↓x_isi_str, ↓x_isi_tuple, ↓x_isi_list, ↓gx_bd, ↓gx_ok, ↓x_loopN, ↓x_loopC, ↓x_loopB, ↓x_loopR, ty_NoneType_int, ty_NoneType_bool, ty_NoneType_str, ty_NoneType_list, ty_NoneType_tuple, ty_NoneType_dict, ty_int_int, ty_int_bool, ty_int_str, ty_int_list, ty_int_tuple, ty_int_dict, ty_bool_int, ty_bool_bool, ty_bool_str, ty_bool_list, ty_bool_tuple, ty_bool_dict, ty_str_int, ty_str_bool, ty_str_str, ty_str_list, ty_str_tuple, ty_str_dict, ty_tuple_int, ty_tuple_bool, ty_tuple_str, ty_tuple_list, ty_tuple_tuple, ty_tuple_dict, ty_list_int, ty_list_bool, ty_list_str, ty_list_list, ty_list_tuple, ty_list_dict, ty_dict_int, ty_dict_bool, ty_dict_str, ty_dict_list, ty_dict_tuple, ty_dict_dict, at_0, at_1, at_2, at_3, at_4, nat_0, nat_1, nat_2, nat_3, nat_4, nat_5, nat_6, at_end, at_end1, at_end2, at_end3, bools_t, all_t, Nat.reduceLT, Nat.reduceLeDiff, Int.reduceLT, Int.reduceLE, Int.reduceAdd, Int.reduceSub, Int.reduceMul, Int.reducePow, Int.reduceToNat, Int.reduceNeg, ifx_t, ifx_f, ifx_n, gx_ok, eqT_int, List.getElem?_cons_zero, List.getElem?_cons_succ, List.set_cons_zero, List.set_cons_succ, List.map_cons, List.map_nil, List.nil_append, List.cons_append, List.replicate_succ, List.replicate_zero, List.length_cons, List.length_nil, List.any_cons, List.any_nil, Nat.reduceAdd, Nat.reduceSub, Bool.or_false, Bool.or_true, Bool.false_or, Bool.true_or, Bool.not_true, Bool.not_false, Option.map_some, Option.bind_some, decide_true, decide_false, true_and, and_true, wipeL, ↓gg_KINDS, tieT, hf, q1, at3, q2, ↓x_if, List.length_map, show (1 : Nat) ≤ 16777216 by decide, show (xs.length + 1) ≤ 16777216 by omega, at_old at4, show fd.length + (xs.length + 1) ≤ 16777216 by omega]
      refine ⟨f, fd ++ t.2.2 :: xs, _, _, _, rfl, ?_, f0, ?_, ?_, ?_⟩
      · rw [List.map_append, List.map_cons]
        exact at_set (at_old at4)
      · exact ((kp.trans (Keep.app _)).trans (q5.trans (Keep.app _))).fresh f0
      · rw [List.length_append, List.length_cons]
        omega
      · intro d
        rw [take_succ ht]
        simp only [List.mem_append, List.mem_cons, hm d, q4 d, List.not_mem_nil, or_false]
        constructor
        · rintro (⟨u, hu, z⟩ | z)
          · exact ⟨u, .inl hu, z⟩
          · exact ⟨t, .inr rfl, z⟩
        · rintro ⟨u, hu | hu, z⟩
          · exact .inl ⟨u, hu, z⟩
          · rw [hu] at z
            exact .inr z
    · rintro l h1 ⟨f, fd, a, b, d, rfl, hf, f0, kp, fl, hm⟩
      rw [List.length_map] at fl hm
      have sl := sdd_len fd
      simp only [↓x_var, ↓x_int, ↓x_bl, ↓x_non, ↓x_str, ↓x_bin, ↓x_cmp, ↓x_idx, ↓x_neg, ↓x_not, ↓x_isN, ↓x_isnN, ↓x_rev, ↓x_sset, ↓x_isiT, ↓x_chn, ↓x_ite, ↓x_and, ↓x_or, ↓x_and1, ↓x_or1, ↓x_and2, ↓x_or2, ↓x_tup, ↓x_lst, ↓x_dic, ↓x_slc, ↓x_call, ↓x_callK, ↓x_blt, ↓x_mth, ↓x_rngL, ↓x_rngT, ↓x_comp, ↓x_enil, ↓x_econs, ↓x_kv0, ↓x_kv, ↓x_ono, ↓x_oso, ↓x_cno, ↓x_cso, ↓x_val, ↓x_rng1, ↓x_rng2, ↓x_enum, ↓x_gvar, ↓x_gtup, ↓x_gtupR, ↓x_gsub, ↓x_gnil, ↓x_gcons, ↓x_snil, ↓x_scons, ↓x_pass, ↓x_expr, ↓x_ret, ↓x_retN, ↓x_set, ↓x_aug, ↓x_augO, ↓x_augA, ↓x_augS, ↓x_iff, ↓x_for, ↓x_whl, ↓x_brk, ↓x_cnt, ↓x_seqN, ↓x_seqR, ↓x_seqB, ↓x_seqC, ↓x_finR, ↓x_finN, ↓x_lk, ↓x_negR, ↓x_notR, ↓x_cnd, ↓x_oiR, ↓x_opt, ↓x_ob, ↓x_r1, ↓x_r2, ↓x_valT, ↓x_valF, ↓x_lst', ↓x_dk', ↓x_valL, ↓x_enumL, ↓x_mthL, ↓x_mth_append, ↓x_mth_extend, ↓x_mth_pop, ↓x_mth_get, ↓x_newT, ↓x_newL, ↓x_dicR, ↓x_add, ↓x_sub, ↓x_mul, ↓x_fdiv, ↓x_mod, ↓x_pow, ↓x_tadd, ↓x_ladd, ↓x_lt, ↓x_le, ↓x_gt, ↓x_ge, ↓x_eq, ↓x_ne, ↓x_inn, ↓x_nin, ↓x_tix, ↓x_rix, ↓x_ixL, ↓x_ixD, ↓x_setD, ↓x_stD, ↓x_stL, ↓x_app, ↓x_if, ↓x_ext, ↓x_pop, ↓x_lenT, ↓x_lenR, ↓x_lenL, ↓x_listT, ↓x_listL, ↓x_tupL, ↓x_tupT, ↓x_sortT, ↓x_sortL, ↓x_all, ↓x_any, ↓x_sum, ↓x_max2, ↓x_min2, ↓x_toint, ↓x_repr, ↓x_rep, ↓x_slcT, ↓x_slcF, ↓x_slcL, ↓x_revL, ↓x_ssetL, ↓x_isi_int, ↓x_isi_bool, ↓x_isi_NoneType, ↓x_isi_str, ↓x_isi_tuple, ↓x_isi_list, ↓gx_bd, ↓gx_ok, ↓x_loopN, ↓x_loopC, ↓x_loopB, ↓x_loopR, ty_NoneType_int, ty_NoneType_bool, ty_NoneType_str, ty_NoneType_list, ty_NoneType_tuple, ty_NoneType_dict, ty_int_int, ty_int_bool, ty_int_str, ty_int_list, ty_int_tuple, ty_int_dict, ty_bool_int, ty_bool_bool, ty_bool_str, ty_bool_list, ty_bool_tuple, ty_bool_dict, ty_str_int, ty_str_bool, ty_str_str, ty_str_list, ty_str_tuple, ty_str_dict, ty_tuple_int, ty_tuple_bool, ty_tuple_str, ty_tuple_list, ty_tuple_tuple, ty_tuple_dict, ty_list_int, ty_list_bool, ty_list_str, ty_list_list, ty_list_tuple, ty_list_dict, ty_dict_int, ty_dict_bool, ty_dict_str, ty_dict_list, ty_dict_tuple, ty_dict_dict, at_0, at_1, at_2, at_3, at_4, nat_0, nat_1, nat_2, nat_3, nat_4, nat_5, nat_6, at_end, at_end1, at_end2, at_end3, bools_t, all_t, Nat.reduceLT, Nat.reduceLeDiff, Int.reduceLT, Int.reduceLE, Int.reduceAdd, Int.reduceSub, Int.reduceMul, Int.reducePow, Int.reduceToNat, Int.reduceNeg, ifx_t, ifx_f, ifx_n, gx_ok, eqT_int, List.getElem?_cons_zero, List.getElem?_cons_succ, List.set_cons_zero, List.set_cons_succ, List.map_cons, List.map_nil, List.nil_append, List.cons_append, List.replicate_succ, List.replicate_zero, List.length_cons, List.length_nil, List.any_cons, List.any_nil, Nat.reduceAdd, Nat.reduceSub, Bool.or_false, Bool.or_true, Bool.false_or, Bool.true_or, Bool.not_true, Bool.not_false, Option.map_some, Option.bind_some, decide_true, decide_false, true_and, and_true, wipeL, ↓gg_KINDS, hf, intsT_map, ↓x_if, List.length_map, show fd.length < 64 by omega, show (sdd fd).length ≤ 16777216 by omega]
      refine ⟨sdd fd, rfl, sdd_lt fd, fun d => ?_, (k2.trans kp).trans (Keep.app _)⟩
      rw [sdd_mem, hm d, List.take_length]
  obtain ⟨x, h1, e, xs, rfl, q⟩ := gx_ex z
  exact ⟨_, _, e, q⟩
end
end K59


set_option Elab.async false
set_option linter.all false
set_option maxRecDepth 100000
namespace K59
open PySem MP L2
section
variable {Q : T → Hh → Prop} {h : Hh} {n : Nat}
theorem deck {ns : List Int} (hl : ns.length ≤ 63) : ∃ (h' : Hh) (r c : Nat), callN D (n + 1) "_law_deck" [scr ns] h = .ok (.ref r) h' ∧ Deck h' r c := by
  have z : Gx (callN D (n + 1) "_law_deck" [scr ns] h) (P := ⟨fun a h1 => ∃ r c, a = .ref r ∧ Deck h1 r c⟩) := by
    refine call_gx f__law_deck rfl ?_
    unfold scr
    have sl := cutT_len ns none (some 63)
    simp only [↓x_var, ↓x_int, ↓x_bl, ↓x_non, ↓x_str, ↓x_bin, ↓x_cmp, ↓x_idx, ↓x_neg, ↓x_not, ↓x_isN, ↓x_isnN, ↓x_rev, ↓x_sset, ↓x_isiT, ↓x_chn, ↓x_ite, ↓x_and, ↓x_or, ↓x_and1, ↓x_or1, ↓x_and2, ↓x_or2, ↓x_tup, ↓x_lst, ↓x_dic, ↓x_slc, ↓x_call, ↓x_callK, ↓x_blt, ↓x_mth, ↓x_rngL, ↓x_rngT, ↓x_comp, ↓x_enil, ↓x_econs, ↓x_kv0, ↓x_kv, ↓x_ono, ↓x_oso, ↓x_cno, ↓x_cso, ↓x_val, ↓x_rng1, ↓x_rng2, ↓x_enum, ↓x_gvar, ↓x_gtup, ↓x_gtupR, ↓x_gsub, ↓x_gnil, ↓x_gcons, ↓x_snil, ↓x_scons, ↓x_pass, ↓x_expr, ↓x_ret, ↓x_retN, ↓x_set, ↓x_aug, ↓x_augO, ↓x_augA, ↓x_augS, ↓x_iff, ↓x_for, ↓x_whl, ↓x_brk, ↓x_cnt, ↓x_seqN, ↓x_seqR, ↓x_seqB, ↓x_seqC, ↓x_finR, ↓x_finN, ↓x_lk, ↓x_negR, ↓x_notR, ↓x_cnd, ↓x_oiR, ↓x_opt, ↓x_ob, ↓x_r1, ↓x_r2, ↓x_valT, ↓x_valF, ↓x_lst', ↓x_dk', ↓x_valL, ↓x_enumL, ↓x_mthL, ↓x_mth_append, ↓x_mth_extend, ↓x_mth_pop, ↓x_mth_get, ↓x_newT, ↓x_newL, ↓x_dicR, ↓x_add, ↓x_sub, ↓x_mul, ↓x_fdiv, ↓x_mod, ↓x_pow, ↓x_tadd, ↓x_ladd, ↓x_lt, ↓x_le, ↓x_gt, ↓x_ge, ↓x_eq, ↓x_ne, ↓x_inn, ↓x_nin, ↓x_tix, ↓x_rix, ↓x_ixL, ↓x_ixD, ↓x_setD, ↓x_stD, ↓x_stL, ↓x_app, ↓x_if, ↓x_ext, ↓x_pop, ↓x_lenT, ↓x_lenR, ↓x_lenL, ↓x_listT, ↓x_listL, ↓x_tupL, ↓x_tupT, ↓x_sortT, ↓x_sortL, ↓x_all, ↓x_any, ↓x_sum, ↓x_max2, ↓x_min2, ↓x_toint, ↓x_repr, ↓x_rep, ↓x_slcT, ↓x_slcF, ↓x_slcL, ↓x_revL, ↓x_ssetL, ↓x_isi_int, ↓x_isi_bool, ↓x_isi_NoneType, ↓x_isi_str, ↓x_isi_tuple, ↓x_isi_list, ↓gx_bd, ↓gx_ok, ↓x_loopN, ↓x_loopC, ↓x_loopB, ↓x_loopR, ty_NoneType_int, ty_NoneType_bool, ty_NoneType_str, ty_NoneType_list, ty_NoneType_tuple, ty_NoneType_dict, ty_int_int, ty_int_bool, ty_int_str, ty_int_list, ty_int_tuple, ty_int_dict, ty_bool_int, ty_bool_bool, ty_bool_str, ty_bool_list, ty_bool_tuple, ty_bool_dict, ty_str_int, ty_str_bool, ty_str_str, ty_str_list, ty_str_tuple, ty_str_dict, ty_tuple_int, ty_tuple_bool, ty_tuple_str, ty_tuple_list, ty_tuple_tuple, ty_tuple_dict, ty_list_int, ty_list_bool, ty_list_str, ty_list_list, ty_list_tuple, ty_list_dict, ty_dict_int, ty_dict_bool, ty_dict_str, ty_dict_list, ty_dict_tuple, ty_dict_dict, at_0, at_1, at_2, at_3, at_4, nat_0, nat_1, nat_2, nat_3, nat_4, nat_5, nat_6, at_end, at_end1, at_end2, at_end3, bools_t, all_t, Nat.reduceLT, Nat.reduceLeDiff, Int.reduceLT, Int.reduceLE, Int.reduceAdd, Int.reduceSub, Int.reduceMul, Int.reducePow, Int.reduceToNat, Int.reduceNeg, ifx_t, ifx_f, ifx_n, gx_ok, eqT_int, List.getElem?_cons_zero, List.getElem?_cons_succ, List.set_cons_zero, List.set_cons_succ, List.map_cons, List.map_nil, List.nil_append, List.cons_append, List.replicate_succ, List.replicate_zero, List.length_cons, List.length_nil, List.any_cons, List.any_nil, Nat.reduceAdd, Nat.reduceSub, Bool.or_false, Bool.or_true, Bool.false_or, Bool.true_or, Bool.not_true, Bool.not_false, Option.map_some, Option.bind_some, decide_true, decide_false, true_and, and_true, wipeL, ↓gg_KINDS, cutT_map, List.length_map, show (cutT ns none (some 63)).length ≤ 16777216 by omega]
    refine gx_for (fun i l h1 => ∃ m x, l = [some (.fz (ns.map T.int)), some (.int m), x] ∧ h1 = h ++ [O.lst ((cutT ns none (some 63)).map T.int)]) ⟨_, _, rfl, rfl⟩ ?_ ?_ ?_
    · rintro i l h1 ⟨m, x, rfl, rfl⟩ p hp
      rw [List.mem_singleton.mp hp]
      show mutL _ _ = _
      unfold mutL
      rw [at_end]
    · rintro i x l h1 hx ⟨m, y, rfl, rfl⟩
      rw [List.getElem?_map] at hx
      obtain ⟨k, hk, rfl⟩ := Option.map_eq_some_iff.mp hx
      simp only [↓x_var, ↓x_int, ↓x_bl, ↓x_non, ↓x_str, ↓x_bin, ↓x_cmp, ↓x_idx, ↓x_neg, ↓x_not, ↓x_isN, ↓x_isnN, ↓x_rev, ↓x_sset, ↓x_isiT, ↓x_chn, ↓x_ite, ↓x_and, ↓x_or, ↓x_and1, ↓x_or1, ↓x_and2, ↓x_or2, ↓x_tup, ↓x_lst, ↓x_dic, ↓x_slc, ↓x_call, ↓x_callK, ↓x_blt, ↓x_mth, ↓x_rngL, ↓x_rngT, ↓x_comp, ↓x_enil, ↓x_econs, ↓x_kv0, ↓x_kv, ↓x_ono, ↓x_oso, ↓x_cno, ↓x_cso, ↓x_val, ↓x_rng1, ↓x_rng2, ↓x_enum, ↓x_gvar, ↓x_gtup, ↓x_gtupR, ↓x_gsub, ↓x_gnil, ↓x_gcons, ↓x_snil, ↓x_scons, ↓x_pass, ↓x_expr, ↓x_ret, ↓x_retN, ↓x_set, ↓x_aug, ↓x_augO, ↓x_augA, ↓x_augS, ↓x_iff, ↓x_for, ↓x_whl, ↓x_brk, ↓x_cnt, ↓x_seqN, ↓x_seqR, ↓x_seqB, ↓x_seqC, ↓x_finR, ↓x_finN, ↓x_lk, ↓x_negR, ↓x_notR, ↓x_cnd, ↓x_oiR, ↓x_opt, ↓x_ob, ↓x_r1, ↓x_r2, ↓x_valT, ↓x_valF, ↓x_lst', ↓x_dk', ↓x_valL, ↓x_enumL, ↓x_mthL, ↓x_mth_append, ↓x_mth_extend, ↓x_mth_pop, ↓x_mth_get, ↓x_newT, ↓x_newL, ↓x_dicR, ↓x_add, ↓x_sub, ↓x_mul, ↓x_fdiv, ↓x_mod, ↓x_pow, ↓x_tadd, ↓x_ladd, ↓x_lt, ↓x_le, ↓x_gt, ↓x_ge, ↓x_eq, ↓x_ne, ↓x_inn, ↓x_nin, ↓x_tix, ↓x_rix, ↓x_ixL, ↓x_ixD, ↓x_setD, ↓x_stD, ↓x_stL, ↓x_app, ↓x_if, ↓x_ext, ↓x_pop, ↓x_lenT, ↓x_lenR, ↓x_lenL, ↓x_listT, ↓x_listL, ↓x_tupL, ↓x_tupT, ↓x_sortT, ↓x_sortL, ↓x_all, ↓x_any, ↓x_sum, ↓x_max2, ↓x_min2, ↓x_toint, ↓x_repr, ↓x_rep, ↓x_slcT, ↓x_slcF, ↓x_slcL, ↓x_revL, ↓x_ssetL, ↓x_isi_int, ↓x_isi_bool, ↓x_isi_NoneType, ↓x_isi_str, ↓x_isi_tuple, ↓x_isi_list, ↓gx_bd, ↓gx_ok, ↓x_loopN, ↓x_loopC, ↓x_loopB, ↓x_loopR, ty_NoneType_int, ty_NoneType_bool, ty_NoneType_str, ty_NoneType_list, ty_NoneType_tuple, ty_NoneType_dict, ty_int_int, ty_int_bool, ty_int_str, ty_int_list, ty_int_tuple, ty_int_dict, ty_bool_int, ty_bool_bool, ty_bool_str, ty_bool_list, ty_bool_tuple, ty_bool_dict, ty_str_int, ty_str_bool, ty_str_str, ty_str_list, ty_str_tuple, ty_str_dict, ty_tuple_int, ty_tuple_bool, ty_tuple_str, ty_tuple_list, ty_tuple_tuple, ty_tuple_dict, ty_list_int, ty_list_bool, ty_list_str, ty_list_list, ty_list_tuple, ty_list_dict, ty_dict_int, ty_dict_bool, ty_dict_str, ty_dict_list, ty_dict_tuple, ty_dict_dict, at_0, at_1, at_2, at_3, at_4, nat_0, nat_1, nat_2, nat_3, nat_4, nat_5, nat_6, at_end, at_end1, at_end2, at_end3, bools_t, all_t, Nat.reduceLT, Nat.reduceLeDiff, Int.reduceLT, Int.reduceLE, Int.reduceAdd, Int.reduceSub, Int.reduceMul, Int.reducePow, Int.reduceToNat, Int.reduceNeg, ifx_t, ifx_f, ifx_n, gx_ok, eqT_int, List.getElem?_cons_zero, List.getElem?_cons_succ, List.set_cons_zero, List.set_cons_succ, List.map_cons, List.map_nil, List.nil_append, List.cons_append, List.replicate_succ, List.replicate_zero, List.length_cons, List.length_nil, List.any_cons, List.any_nil, Nat.reduceAdd, Nat.reduceSub, Bool.or_false, Bool.or_true, Bool.false_or, Bool.true_or, Bool.not_true, Bool.not_false, Option.map_some, Option.bind_some, decide_true, decide_false, true_and, and_true, wipeL, ↓gg_KINDS, cmulR (i := m) (j := 40014) (by decide)]
      exact ⟨_, _, rfl⟩
    · rintro l h1 ⟨m, x, rfl, rfl⟩
      simp only [↓x_var, ↓x_int, ↓x_bl, ↓x_non, ↓x_str, ↓x_bin, ↓x_cmp, ↓x_idx, ↓x_neg, ↓x_not, ↓x_isN, ↓x_isnN, ↓x_rev, ↓x_sset, ↓x_isiT, ↓x_chn, ↓x_ite, ↓x_and, ↓x_or, ↓x_and1, ↓x_or1, ↓x_and2, ↓x_or2, ↓x_tup, ↓x_lst, ↓x_dic, ↓x_slc, ↓x_call, ↓x_callK, ↓x_blt, ↓x_mth, ↓x_rngL, ↓x_rngT, ↓x_comp, ↓x_enil, ↓x_econs, ↓x_kv0, ↓x_kv, ↓x_ono, ↓x_oso, ↓x_cno, ↓x_cso, ↓x_val, ↓x_rng1, ↓x_rng2, ↓x_enum, ↓x_gvar, ↓x_gtup, ↓x_gtupR, ↓x_gsub, ↓x_gnil, ↓x_gcons, ↓x_snil, ↓x_scons, ↓x_pass, ↓x_expr, ↓x_ret, ↓x_retN, ↓x_set, ↓x_aug, ↓x_augO, ↓x_augA, ↓x_augS, ↓x_iff, ↓x_for, ↓x_whl, ↓x_brk, ↓x_cnt, ↓x_seqN, ↓x_seqR, ↓x_seqB, ↓x_seqC, ↓x_finR, ↓x_finN, ↓x_lk, ↓x_negR, ↓x_notR, ↓x_cnd, ↓x_oiR, ↓x_opt, ↓x_ob, ↓x_r1, ↓x_r2, ↓x_valT, ↓x_valF, ↓x_lst', ↓x_dk', ↓x_valL, ↓x_enumL, ↓x_mthL, ↓x_mth_append, ↓x_mth_extend, ↓x_mth_pop, ↓x_mth_get, ↓x_newT, ↓x_newL, ↓x_dicR, ↓x_add, ↓x_sub, ↓x_mul, ↓x_fdiv, ↓x_mod, ↓x_pow, ↓x_tadd, ↓x_ladd, ↓x_lt, ↓x_le, ↓x_gt, ↓x_ge, ↓x_eq, ↓x_ne, ↓x_inn, ↓x_nin, ↓x_tix, ↓x_rix, ↓x_ixL, ↓x_ixD, ↓x_setD, ↓x_stD, ↓x_stL, ↓x_app, ↓x_if, ↓x_ext, ↓x_pop, ↓x_lenT, ↓x_lenR, ↓x_lenL, ↓x_listT, ↓x_listL, ↓x_tupL, ↓x_tupT, ↓x_sortT, ↓x_sortL, ↓x_all, ↓x_any, ↓x_sum, ↓x_max2, ↓x_min2, ↓x_toint, ↓x_repr, ↓x_rep, ↓x_slcT, ↓x_slcF, ↓x_slcL, ↓x_revL, ↓x_ssetL, ↓x_isi_int, ↓x_isi_bool, ↓x_isi_NoneType, ↓x_isi_str, ↓x_isi_tuple, ↓x_isi_list, ↓gx_bd, ↓gx_ok, ↓x_loopN, ↓x_loopC, ↓x_loopB, ↓x_loopR, ty_NoneType_int, ty_NoneType_bool, ty_NoneType_str, ty_NoneType_list, ty_NoneType_tuple, ty_NoneType_dict, ty_int_int, ty_int_bool, ty_int_str, ty_int_list, ty_int_tuple, ty_int_dict, ty_bool_int, ty_bool_bool, ty_bool_str, ty_bool_list, ty_bool_tuple, ty_bool_dict, ty_str_int, ty_str_bool, ty_str_str, ty_str_list, ty_str_tuple, ty_str_dict, ty_tuple_int, ty_tuple_bool, ty_tuple_str, ty_tuple_list, ty_tuple_tuple, ty_tuple_dict, ty_list_int, ty_list_bool, ty_list_str, ty_list_list, ty_list_tuple, ty_list_dict, ty_dict_int, ty_dict_bool, ty_dict_str, ty_dict_list, ty_dict_tuple, ty_dict_dict, at_0, at_1, at_2, at_3, at_4, nat_0, nat_1, nat_2, nat_3, nat_4, nat_5, nat_6, at_end, at_end1, at_end2, at_end3, bools_t, all_t, Nat.reduceLT, Nat.reduceLeDiff, Int.reduceLT, Int.reduceLE, Int.reduceAdd, Int.reduceSub, Int.reduceMul, Int.reducePow, Int.reduceToNat, Int.reduceNeg, ifx_t, ifx_f, ifx_n, gx_ok, eqT_int, List.getElem?_cons_zero, List.getElem?_cons_succ, List.set_cons_zero, List.set_cons_succ, List.map_cons, List.map_nil, List.nil_append, List.cons_append, List.replicate_succ, List.replicate_zero, List.length_cons, List.length_nil, List.any_cons, List.any_nil, Nat.reduceAdd, Nat.reduceSub, Bool.or_false, Bool.or_true, Bool.false_or, Bool.true_or, Bool.not_true, Bool.not_false, Option.map_some, Option.bind_some, decide_true, decide_false, true_and, and_true, wipeL, ↓gg_KINDS, cutT_map, List.length_map, show (cutT ns none (some 63)).length ≤ 16777216 by omega]
      refine comp_map id (fun h1 => h1 = h ++ [O.lst ((cutT ns none (some 63)).map T.int)] ++ [O.lst ((cutT ns none (some 63)).map T.int)]) rfl (by rw [List.length_map]; omega) ?_ ?_ ?_
      · rintro h1 rfl p hp
        rw [List.mem_singleton.mp hp]
        show mutL _ _ = _
        unfold mutL
        rw [at_end]
      · rintro x h1 hx rfl
        obtain ⟨k, hk, rfl⟩ := List.mem_map.mp hx
        simp only [↓x_var, ↓x_int, ↓x_bl, ↓x_non, ↓x_str, ↓x_bin, ↓x_cmp, ↓x_idx, ↓x_neg, ↓x_not, ↓x_isN, ↓x_isnN, ↓x_rev, ↓x_sset, ↓x_isiT, ↓x_chn, ↓x_ite, ↓x_and, ↓x_or, ↓x_and1, ↓x_or1, ↓x_and2, ↓x_or2, ↓x_tup, ↓x_lst, ↓x_dic, ↓x_slc, ↓x_call, ↓x_callK, ↓x_blt, ↓x_mth, ↓x_rngL, ↓x_rngT, ↓x_comp, ↓x_enil, ↓x_econs, ↓x_kv0, ↓x_kv, ↓x_ono, ↓x_oso, ↓x_cno, ↓x_cso, ↓x_val, ↓x_rng1, ↓x_rng2, ↓x_enum, ↓x_gvar, ↓x_gtup, ↓x_gtupR, ↓x_gsub, ↓x_gnil, ↓x_gcons, ↓x_snil, ↓x_scons, ↓x_pass, ↓x_expr, ↓x_ret, ↓x_retN, ↓x_set, ↓x_aug, ↓x_augO, ↓x_augA, ↓x_augS, ↓x_iff, ↓x_for, ↓x_whl, ↓x_brk, ↓x_cnt, ↓x_seqN, ↓x_seqR, ↓x_seqB, ↓x_seqC, ↓x_finR, ↓x_finN, ↓x_lk, ↓x_negR, ↓x_notR, ↓x_cnd, ↓x_oiR, ↓x_opt, ↓x_ob, ↓x_r1, ↓x_r2, ↓x_valT, ↓x_valF, ↓x_lst', ↓x_dk', ↓x_valL, ↓x_enumL, ↓x_mthL, ↓x_mth_append, ↓x_mth_extend, ↓x_mth_pop, ↓x_mth_get, ↓x_newT, ↓x_newL, ↓x_dicR, ↓x_add, ↓x_sub, ↓x_mul, ↓x_fdiv, ↓x_mod, ↓x_pow, ↓x_tadd, ↓x_ladd, ↓x_lt, ↓x_le, ↓x_gt, ↓x_ge, ↓x_eq, ↓x_ne, ↓x_inn, ↓x_nin, ↓x_tix, ↓x_rix, ↓x_ixL, ↓x_ixD, ↓x_setD, ↓x_stD, ↓x_stL, ↓x_app, ↓x_if, ↓x_ext, ↓x_pop, ↓x_lenT, ↓x_lenR, ↓x_lenL, ↓x_listT, ↓x_listL, ↓x_tupL, ↓x_tupT, ↓x_sortT, ↓x_sortL, ↓x_all, ↓x_any, ↓x_sum, ↓x_max2, ↓x_min2, ↓x_toint, ↓x_repr, ↓x_rep, ↓x_slcT, ↓x_slcF, ↓x_slcL, ↓x_revL, ↓x_ssetL, ↓x_isi_int, ↓x_isi_bool, ↓x_isi_NoneType, ↓x_isi_str, ↓x_isi_tuple, ↓x_isi_list, ↓gx_bd, ↓gx_ok, ↓x_loopN, ↓x_loopC, ↓x_loopB, ↓x_loopR, ty_NoneType_int, ty_NoneType_bool, ty_NoneType_str, ty_NoneType_list, ty_NoneType_tuple, ty_NoneType_dict, ty_int_int, ty_int_bool, ty_int_str, ty_int_list, ty_int_tuple, ty_int_dict, ty_bool_int, ty_bool_bool, ty_bool_str, ty_bool_list, ty_bool_tuple, ty_bool_dict, ty_str_int, ty_str_bool, ty_str_str, ty_str_list, ty_str_tuple, ty_str_dict, ty_tuple_int, ty_tuple_bool, ty_tuple_str, ty_tuple_list, ty_tuple_tuple, ty_tuple_dict, ty_list_int, ty_list_bool, ty_list_str, ty_list_list, ty_list_tuple, ty_list_dict, ty_dict_int, ty_dict_bool, ty_dict_str, ty_dict_list, ty_dict_tuple, ty_dict_dict, at_0, at_1, at_2, at_3, at_4, nat_0, nat_1, nat_2, nat_3, nat_4, nat_5, nat_6, at_end, at_end1, at_end2, at_end3, bools_t, all_t, Nat.reduceLT, Nat.reduceLeDiff, Int.reduceLT, Int.reduceLE, Int.reduceAdd, Int.reduceSub, Int.reduceMul, Int.reducePow, Int.reduceToNat, Int.reduceNeg, ifx_t, ifx_f, ifx_n, gx_ok, eqT_int, List.getElem?_cons_zero, List.getElem?_cons_succ, List.set_cons_zero, List.set_cons_succ, List.map_cons, List.map_nil, List.nil_append, List.cons_append, List.replicate_succ, List.replicate_zero, List.length_cons, List.length_nil, List.any_cons, List.any_nil, Nat.reduceAdd, Nat.reduceSub, Bool.or_false, Bool.or_true, Bool.false_or, Bool.true_or, Bool.not_true, Bool.not_false, Option.map_some, Option.bind_some, decide_true, decide_false, true_and, and_true, wipeL, ↓gg_KINDS]
        rfl
      · rintro h1 rfl
        rw [List.map_id]
        simp only [↓x_var, ↓x_int, ↓x_bl, ↓x_non, ↓x_str, ↓x_bin, ↓x_cmp, ↓x_idx, ↓x_neg, ↓x_not, ↓x_isN, ↓x_isnN, ↓x_rev, ↓x_sset, ↓x_isiT, ↓x_chn, ↓x_ite, ↓x_and, ↓x_or, ↓x_and1, ↓x_or1, ↓x_and2, ↓x_or2, ↓x_tup, ↓x_lst, ↓x_dic, ↓x_slc, ↓x_call, ↓x_callK, ↓x_blt, ↓x_mth, ↓x_rngL, ↓x_rngT, ↓x_comp, ↓x_enil, ↓x_econs, ↓x_kv0, ↓x_kv, ↓x_ono, ↓x_oso, ↓x_cno, ↓x_cso, ↓x_val, ↓x_rng1, ↓x_rng2, ↓x_enum, ↓x_gvar, ↓x_gtup, ↓x_gtupR, ↓x_gsub, ↓x_gnil, ↓x_gcons, ↓x_snil, ↓x_scons, ↓x_pass, ↓x_expr, ↓x_ret, ↓x_retN, ↓x_set, ↓x_aug, ↓x_augO, ↓x_augA, ↓x_augS, ↓x_iff, ↓x_for, ↓x_whl, ↓x_brk, ↓x_cnt, ↓x_seqN, ↓x_seqR, ↓x_seqB, ↓x_seqC, ↓x_finR, ↓x_finN, ↓x_lk, ↓x_negR, ↓x_notR, ↓x_cnd, ↓x_oiR, ↓x_opt, ↓x_ob, ↓x_r1, ↓x_r2, ↓x_valT, ↓x_valF, ↓x_lst', ↓x_dk', ↓x_valL, ↓x_enumL, ↓x_mthL, ↓x_mth_append, ↓x_mth_extend, ↓x_mth_pop, ↓x_mth_get, ↓x_newT, ↓x_newL, ↓x_dicR, ↓x_add, ↓x_sub, ↓x_mul, ↓x_fdiv, ↓x_mod, ↓x_pow, ↓x_tadd, ↓x_ladd, ↓x_lt, ↓x_le, ↓x_gt, ↓x_ge, ↓x_eq, ↓x_ne, ↓x_inn, ↓x_nin, ↓x_tix, ↓x_rix, ↓x_ixL, ↓x_ixD, ↓x_setD, ↓x_stD, ↓x_stL, ↓x_app, ↓x_if, ↓x_ext, ↓x_pop, ↓x_lenT, ↓x_lenR, ↓x_lenL, ↓x_listT, ↓x_listL, ↓x_tupL, ↓x_tupT, ↓x_sortT, ↓x_sortL, ↓x_all, ↓x_any, ↓x_sum, ↓x_max2, ↓x_min2, ↓x_toint, ↓x_repr, ↓x_rep, ↓x_slcT, ↓x_slcF, ↓x_slcL, ↓x_revL, ↓x_ssetL, ↓x_isi_int, ↓x_isi_bool, ↓x_isi_NoneType, ↓x_isi_str, ↓x_isi_tuple, ↓x_isi_list, ↓gx_bd, ↓gx_ok, ↓x_loopN, ↓x_loopC, ↓x_loopB, ↓x_loopR, ty_NoneType_int, ty_NoneType_bool, ty_NoneType_str, ty_NoneType_list, ty_NoneType_tuple, ty_NoneType_dict, ty_int_int, ty_int_bool, ty_int_str, ty_int_list, ty_int_tuple, ty_int_dict, ty_bool_int, ty_bool_bool, ty_bool_str, ty_bool_list, ty_bool_tuple, ty_bool_dict, ty_str_int, ty_str_bool, ty_str_str, ty_str_list, ty_str_tuple, ty_str_dict, ty_tuple_int, ty_tuple_bool, ty_tuple_str, ty_tuple_list, ty_tuple_tuple, ty_tuple_dict, ty_list_int, ty_list_bool, ty_list_str, ty_list_list, ty_list_tuple, ty_list_dict, ty_dict_int, ty_dict_bool, ty_dict_str, ty_dict_list, ty_dict_tuple, ty_dict_dict, at_0, at_1, at_2, at_3, at_4, nat_0, nat_1, nat_2, nat_3, nat_4, nat_5, nat_6, at_end, at_end1, at_end2, at_end3, bools_t, all_t, Nat.reduceLT, Nat.reduceLeDiff, Int.reduceLT, Int.reduceLE, Int.reduceAdd, Int.reduceSub, Int.reduceMul, Int.reducePow, Int.reduceToNat, Int.reduceNeg, ifx_t, ifx_f, ifx_n, gx_ok, eqT_int, List.getElem?_cons_zero, List.getElem?_cons_succ, List.set_cons_zero, List.set_cons_succ, List.map_cons, List.map_nil, List.nil_append, List.cons_append, List.replicate_succ, List.replicate_zero, List.length_cons, List.length_nil, List.any_cons, List.any_nil, Nat.reduceAdd, Nat.reduceSub, Bool.or_false, Bool.or_true, Bool.false_or, Bool.true_or, Bool.not_true, Bool.not_false, Option.map_some, Option.bind_some, decide_true, decide_false, true_and, and_true, wipeL, ↓gg_KINDS, List.length_reverse, List.length_map, show (cutT ns none (some 63)).length ≤ 16777216 by omega, MP.dk_new]
        exact ⟨_, _, rfl, ⟨(cutT ns none (some 63)).reverse, _, _, at_end, by rw [List.map_reverse]; exact at_end1, by rw [List.length_reverse]; omega⟩, by simp⟩
  obtain ⟨x, h1, e, r, c, rfl, q⟩ := gx_ex z
  exact ⟨h1, r, c, e, q⟩
set_option maxHeartbeats 1000000 in
theorem draw {r c : Nat} {b : Int} (d : Deck h r c) (hb : 1 ≤ b ∧ b ≤ 1000) : ∃ (h' : Hh) (v : Int), callN D (n + 1) "_law_draw" [.ref r, .int b] h = .ok (.int v) h' ∧ (0 ≤ v ∧ v < b) ∧ Deck h' r c ∧ Keep [r, c] h h' := by
  have z : Gx (callN D (n + 1) "_law_draw" [.ref r, .int b] h) (P := ⟨fun a h1 => ∃ v, a = .int v ∧ (0 ≤ v ∧ v < b) ∧ Deck h1 r c ∧ Keep [r, c] h h1⟩) := by
    obtain ⟨⟨L, m, t, h1, h2, h63⟩, ne⟩ := d
    have m1 := fun t => cmulL (i := 54287) (j := t) (by decide)
    have m2 := fun t => cmulR (i := t) (j := 48271) (by decide)
    have m3 := fun t => cmulR (i := t) (j := 40014) (by decide)
    have m4 := fun t => cmulL (i := 59509) (j := t) (by decide)
    have m5 := fun t u : Int => cmulL (i := t % 2147483629) (j := u) (by omega)
    have md : ∀ v : Int, 0 ≤ v % b ∧ v % b < b := fun v => ⟨Int.emod_nonneg v (by omega), Int.emod_lt_of_pos v (by omega)⟩
    have r1 : ∀ o, (h.set r o)[r]? = some o := fun o => at_set h1
    have c1 : ∀ o, (h.set r o)[c]? = some (.lst (L.map T.int)) := fun o => at_setn h2 ne
    refine call_gx f__law_draw rfl ?_
    rcases List.eq_nil_or_concat L with rfl | ⟨L2, x, rfl⟩
    · simp only [↓x_var, ↓x_int, ↓x_bl, ↓x_non, ↓x_str, ↓x_bin, ↓x_cmp, ↓x_idx, ↓x_neg, ↓x_not, ↓x_isN, ↓x_isnN, ↓x_rev, ↓x_sset, ↓x_isiT, ↓x_chn, ↓x_ite, ↓x_and, ↓x_or, ↓x_and1, ↓x_or1, ↓x_and2, ↓x_or2, ↓x_tup, ↓x_lst, ↓x_dic, ↓x_slc, ↓x_call, ↓x_callK, ↓x_blt, ↓x_mth, ↓x_rngL, ↓x_rngT, ↓x_comp, ↓x_enil, ↓x_econs, ↓x_kv0, ↓x_kv, ↓x_ono, ↓x_oso, ↓x_cno, ↓x_cso, ↓x_val, ↓x_rng1, ↓x_rng2, ↓x_enum, ↓x_gvar, ↓x_gtup, ↓x_gtupR, ↓x_gsub, ↓x_gnil, ↓x_gcons, ↓x_snil, ↓x_scons, ↓x_pass, ↓x_expr, ↓x_ret, ↓x_retN, ↓x_set, ↓x_aug, ↓x_augO, ↓x_augA, ↓x_augS, ↓x_iff, ↓x_for, ↓x_whl, ↓x_brk, ↓x_cnt, ↓x_seqN, ↓x_seqR, ↓x_seqB, ↓x_seqC, ↓x_finR, ↓x_finN, ↓x_lk, ↓x_negR, ↓x_notR, ↓x_cnd, ↓x_oiR, ↓x_opt, ↓x_ob, ↓x_r1, ↓x_r2, ↓x_valT, ↓x_valF, ↓x_lst', ↓x_dk', ↓x_valL, ↓x_enumL, ↓x_mthL, ↓x_mth_append, ↓x_mth_extend, ↓x_mth_pop, ↓x_mth_get, ↓x_newT, ↓x_newL, ↓x_dicR, ↓x_add, ↓x_sub, ↓x_mul, ↓x_fdiv, ↓x_mod, ↓x_pow, ↓x_tadd, ↓x_ladd, ↓x_lt, ↓x_le, ↓x_gt, ↓x_ge, ↓x_eq, ↓x_ne, ↓x_inn, ↓x_nin, ↓x_tix, ↓x_rix, ↓x_ixL, ↓x_ixD, ↓x_setD, ↓x_stD, ↓x_stL, ↓x_app, ↓x_if, ↓x_ext, ↓x_pop, ↓x_lenT, ↓x_lenR, ↓x_lenL, ↓x_listT, ↓x_listL, ↓x_tupL, ↓x_tupT, ↓x_sortT, ↓x_sortL, ↓x_all, ↓x_any, ↓x_sum, ↓x_max2, ↓x_min2, ↓x_toint, ↓x_repr, ↓x_rep, ↓x_slcT, ↓x_slcF, ↓x_slcL, ↓x_revL, ↓x_ssetL, ↓x_isi_int, ↓x_isi_bool, ↓x_isi_NoneType, ↓x_isi_str, ↓x_isi_tuple, ↓x_isi_list, ↓gx_bd, ↓gx_ok, ↓x_loopN, ↓x_loopC, ↓x_loopB, ↓x_loopR, ty_NoneType_int, ty_NoneType_bool, ty_NoneType_str, ty_NoneType_list, ty_NoneType_tuple, ty_NoneType_dict, ty_int_int, ty_int_bool, ty_int_str, ty_int_list, ty_int_tuple, ty_int_dict, ty_bool_int, ty_bool_bool, ty_bool_str, ty_bool_list, ty_bool_tuple, ty_bool_dict, ty_str_int, ty_str_bool, ty_str_str, ty_str_list, ty_str_tuple, ty_str_dict, ty_tuple_int, ty_tuple_bool, ty_tuple_str, ty_tuple_list, ty_tuple_tuple, ty_tuple_dict, ty_list_int, ty_list_bool, ty_list_str, ty_list_list, ty_list_tuple, ty_list_dict, ty_dict_int, ty_dict_bool, ty_dict_str, ty_dict_list, ty_dict_tuple, ty_dict_dict, at_0, at_1, at_2, at_3, at_4, nat_0, nat_1, nat_2, nat_3, nat_4, nat_5, nat_6, at_end, at_end1, at_end2, at_end3, bools_t, all_t, Nat.reduceLT, Nat.reduceLeDiff, Int.reduceLT, Int.reduceLE, Int.reduceAdd, Int.reduceSub, Int.reduceMul, Int.reducePow, Int.reduceToNat, Int.reduceNeg, ifx_t, ifx_f, ifx_n, gx_ok, eqT_int, List.getElem?_cons_zero, List.getElem?_cons_succ, List.set_cons_zero, List.set_cons_succ, List.map_cons, List.map_nil, List.nil_append, List.cons_append, List.replicate_succ, List.replicate_zero, List.length_cons, List.length_nil, List.any_cons, List.any_nil, Nat.reduceAdd, Nat.reduceSub, Bool.or_false, Bool.or_true, Bool.false_or, Bool.true_or, Bool.not_true, Bool.not_false, Option.map_some, Option.bind_some, decide_true, decide_false, true_and, and_true, wipeL, ↓gg_KINDS, h1, dk_t, dk_put, dk_len, r1, dk_m, dk_c, m1, Nat.zero_le, eqT_ints0 (L := []) (at_old (o := .lst []) (c1 _)) at_end, List.isEmpty_nil, m2, m3, m4, m5, at_old (r1 _), show (0 : Int) < b by omega, show CDivB _ 64 = true from cdiv_ok (by decide), Nat.reduceLT]
      exact ⟨_, rfl, md _, ⟨⟨[], m, t + 1, at_old (r1 _), at_old (c1 _), h63⟩, ne⟩, (Keep.set (by simp)).trans (Keep.app _)⟩
    · rw [List.concat_eq_append] at h2 c1 h63
      rw [List.length_append, List.length_singleton] at h63
      have c2 : ∀ o, (h.set r o ++ [O.lst []])[c]? = some (.lst (L2.map T.int ++ [.int x])) := fun o => at_old (by rw [c1, List.map_append]; rfl)
      have c3 : ∀ o u, ((h.set r o ++ [O.lst []]).set c u)[c]? = some u := fun o u => at_set (c2 o)
      have r3 : ∀ o u, ((h.set r o ++ [O.lst []]).set c u)[r]? = some o := fun o u => at_setn (at_old (r1 o)) ne.symm
      have ml : ∀ x : Int, CDivB x (if b > 2 then b else 2) = true := fun x => cdiv_ok (by split <;> omega)
      have ll := lt_of_at h2
      have kp : ∀ o u, Keep [r, c] h ((h.set r o ++ [O.lst []]).set c u) := fun o u => ((Keep.set (by simp)).trans (Keep.app _)).trans (Keep.set (by simp))
      have l2 : L2.length < 16777216 := by omega
      by_cases hx : 1000000000000000000 ≤ x
      · simp only [↓x_var, ↓x_int, ↓x_bl, ↓x_non, ↓x_str, ↓x_bin, ↓x_cmp, ↓x_idx, ↓x_neg, ↓x_not, ↓x_isN, ↓x_isnN, ↓x_rev, ↓x_sset, ↓x_isiT, ↓x_chn, ↓x_ite, ↓x_and, ↓x_or, ↓x_and1, ↓x_or1, ↓x_and2, ↓x_or2, ↓x_tup, ↓x_lst, ↓x_dic, ↓x_slc, ↓x_call, ↓x_callK, ↓x_blt, ↓x_mth, ↓x_rngL, ↓x_rngT, ↓x_comp, ↓x_enil, ↓x_econs, ↓x_kv0, ↓x_kv, ↓x_ono, ↓x_oso, ↓x_cno, ↓x_cso, ↓x_val, ↓x_rng1, ↓x_rng2, ↓x_enum, ↓x_gvar, ↓x_gtup, ↓x_gtupR, ↓x_gsub, ↓x_gnil, ↓x_gcons, ↓x_snil, ↓x_scons, ↓x_pass, ↓x_expr, ↓x_ret, ↓x_retN, ↓x_set, ↓x_aug, ↓x_augO, ↓x_augA, ↓x_augS, ↓x_iff, ↓x_for, ↓x_whl, ↓x_brk, ↓x_cnt, ↓x_seqN, ↓x_seqR, ↓x_seqB, ↓x_seqC, ↓x_finR, ↓x_finN, ↓x_lk, ↓x_negR, ↓x_notR, ↓x_cnd, ↓x_oiR, ↓x_opt, ↓x_ob, ↓x_r1, ↓x_r2, ↓x_valT, ↓x_valF, ↓x_lst', ↓x_dk', ↓x_valL, ↓x_enumL, ↓x_mthL, ↓x_mth_append, ↓x_mth_extend, ↓x_mth_pop, ↓x_mth_get, ↓x_newT, ↓x_newL, ↓x_dicR, ↓x_add, ↓x_sub, ↓x_mul, ↓x_fdiv, ↓x_mod, ↓x_pow, ↓x_tadd, ↓x_ladd, ↓x_lt, ↓x_le, ↓x_gt, ↓x_ge, ↓x_eq, ↓x_ne, ↓x_inn, ↓x_nin, ↓x_tix, ↓x_rix, ↓x_ixL, ↓x_ixD, ↓x_setD, ↓x_stD, ↓x_stL, ↓x_app, ↓x_if, ↓x_ext, ↓x_pop, ↓x_lenT, ↓x_lenR, ↓x_lenL, ↓x_listT, ↓x_listL, ↓x_tupL, ↓x_tupT, ↓x_sortT, ↓x_sortL, ↓x_all, ↓x_any, ↓x_sum, ↓x_max2, ↓x_min2, ↓x_toint, ↓x_repr, ↓x_rep, ↓x_slcT, ↓x_slcF, ↓x_slcL, ↓x_revL, ↓x_ssetL, ↓x_isi_int, ↓x_isi_bool, ↓x_isi_NoneType, ↓x_isi_str, ↓x_isi_tuple, ↓x_isi_list, ↓gx_bd, ↓gx_ok, ↓x_loopN, ↓x_loopC, ↓x_loopB, ↓x_loopR, ty_NoneType_int, ty_NoneType_bool, ty_NoneType_str, ty_NoneType_list, ty_NoneType_tuple, ty_NoneType_dict, ty_int_int, ty_int_bool, ty_int_str, ty_int_list, ty_int_tuple, ty_int_dict, ty_bool_int, ty_bool_bool, ty_bool_str, ty_bool_list, ty_bool_tuple, ty_bool_dict, ty_str_int, ty_str_bool, ty_str_str, ty_str_list, ty_str_tuple, ty_str_dict, ty_tuple_int, ty_tuple_bool, ty_tuple_str, ty_tuple_list, ty_tuple_tuple, ty_tuple_dict, ty_list_int, ty_list_bool, ty_list_str, ty_list_list, ty_list_tuple, ty_list_dict, ty_dict_int, ty_dict_bool, ty_dict_str, ty_dict_list, ty_dict_tuple, ty_dict_dict, at_0, at_1, at_2, at_3, at_4, nat_0, nat_1, nat_2, nat_3, nat_4, nat_5, nat_6, at_end, at_end1, at_end2, at_end3, bools_t, all_t, Nat.reduceLT, Nat.reduceLeDiff, Int.reduceLT, Int.reduceLE, Int.reduceAdd, Int.reduceSub, Int.reduceMul, Int.reducePow, Int.reduceToNat, Int.reduceNeg, ifx_t, ifx_f, ifx_n, gx_ok, eqT_int, List.getElem?_cons_zero, List.getElem?_cons_succ, List.set_cons_zero, List.set_cons_succ, List.map_cons, List.map_nil, List.nil_append, List.cons_append, List.replicate_succ, List.replicate_zero, List.length_cons, List.length_nil, List.any_cons, List.any_nil, Nat.reduceAdd, Nat.reduceSub, Bool.or_false, Bool.or_true, Bool.false_or, Bool.true_or, Bool.not_true, Bool.not_false, Option.map_some, Option.bind_some, decide_true, decide_false, true_and, and_true, wipeL, ↓gg_KINDS, h1, dk_t, dk_put, dk_len, r1, dk_m, dk_c, m1, Nat.zero_le, eqT_ints0 (L := L2 ++ [x]) (at_old (o := .lst []) (c1 _)) at_end, show (L2 ++ [x]).isEmpty = false by simp, at_old (r1 _), c2, last_app, List.dropLast_concat, cpow_ok (i := 10) (j := 18) (by decide), hx, r3, c3, ml, ↓x_if, List.length_map, l2, show (0 : Int) < b by omega]
        refine ⟨_, rfl, md _, ⟨⟨L2 ++ [x / (if b > 2 then b else 2)], m, t + 1, at_setn (r3 _ _) ne.symm, ?_, ?_⟩, ne⟩, (kp _ _).trans (Keep.set (by simp))⟩
        · rw [List.map_append]
          exact at_set (c3 _ _)
        · rw [List.length_append, List.length_singleton]
          exact h63
      · simp only [↓x_var, ↓x_int, ↓x_bl, ↓x_non, ↓x_str, ↓x_bin, ↓x_cmp, ↓x_idx, ↓x_neg, ↓x_not, ↓x_isN, ↓x_isnN, ↓x_rev, ↓x_sset, ↓x_isiT, ↓x_chn, ↓x_ite, ↓x_and, ↓x_or, ↓x_and1, ↓x_or1, ↓x_and2, ↓x_or2, ↓x_tup, ↓x_lst, ↓x_dic, ↓x_slc, ↓x_call, ↓x_callK, ↓x_blt, ↓x_mth, ↓x_rngL, ↓x_rngT, ↓x_comp, ↓x_enil, ↓x_econs, ↓x_kv0, ↓x_kv, ↓x_ono, ↓x_oso, ↓x_cno, ↓x_cso, ↓x_val, ↓x_rng1, ↓x_rng2, ↓x_enum, ↓x_gvar, ↓x_gtup, ↓x_gtupR, ↓x_gsub, ↓x_gnil, ↓x_gcons, ↓x_snil, ↓x_scons, ↓x_pass, ↓x_expr, ↓x_ret, ↓x_retN, ↓x_set, ↓x_aug, ↓x_augO, ↓x_augA, ↓x_augS, ↓x_iff, ↓x_for, ↓x_whl, ↓x_brk, ↓x_cnt, ↓x_seqN, ↓x_seqR, ↓x_seqB, ↓x_seqC, ↓x_finR, ↓x_finN, ↓x_lk, ↓x_negR, ↓x_notR, ↓x_cnd, ↓x_oiR, ↓x_opt, ↓x_ob, ↓x_r1, ↓x_r2, ↓x_valT, ↓x_valF, ↓x_lst', ↓x_dk', ↓x_valL, ↓x_enumL, ↓x_mthL, ↓x_mth_append, ↓x_mth_extend, ↓x_mth_pop, ↓x_mth_get, ↓x_newT, ↓x_newL, ↓x_dicR, ↓x_add, ↓x_sub, ↓x_mul, ↓x_fdiv, ↓x_mod, ↓x_pow, ↓x_tadd, ↓x_ladd, ↓x_lt, ↓x_le, ↓x_gt, ↓x_ge, ↓x_eq, ↓x_ne, ↓x_inn, ↓x_nin, ↓x_tix, ↓x_rix, ↓x_ixL, ↓x_ixD, ↓x_setD, ↓x_stD, ↓x_stL, ↓x_app, ↓x_if, ↓x_ext, ↓x_pop, ↓x_lenT, ↓x_lenR, ↓x_lenL, ↓x_listT, ↓x_listL, ↓x_tupL, ↓x_tupT, ↓x_sortT, ↓x_sortL, ↓x_all, ↓x_any, ↓x_sum, ↓x_max2, ↓x_min2, ↓x_toint, ↓x_repr, ↓x_rep, ↓x_slcT, ↓x_slcF, ↓x_slcL, ↓x_revL, ↓x_ssetL, ↓x_isi_int, ↓x_isi_bool, ↓x_isi_NoneType, ↓x_isi_str, ↓x_isi_tuple, ↓x_isi_list, ↓gx_bd, ↓gx_ok, ↓x_loopN, ↓x_loopC, ↓x_loopB, ↓x_loopR, ty_NoneType_int, ty_NoneType_bool, ty_NoneType_str, ty_NoneType_list, ty_NoneType_tuple, ty_NoneType_dict, ty_int_int, ty_int_bool, ty_int_str, ty_int_list, ty_int_tuple, ty_int_dict, ty_bool_int, ty_bool_bool, ty_bool_str, ty_bool_list, ty_bool_tuple, ty_bool_dict, ty_str_int, ty_str_bool, ty_str_str, ty_str_list, ty_str_tuple, ty_str_dict, ty_tuple_int, ty_tuple_bool, ty_tuple_str, ty_tuple_list, ty_tuple_tuple, ty_tuple_dict, ty_list_int, ty_list_bool, ty_list_str, ty_list_list, ty_list_tuple, ty_list_dict, ty_dict_int, ty_dict_bool, ty_dict_str, ty_dict_list, ty_dict_tuple, ty_dict_dict, at_0, at_1, at_2, at_3, at_4, nat_0, nat_1, nat_2, nat_3, nat_4, nat_5, nat_6, at_end, at_end1, at_end2, at_end3, bools_t, all_t, Nat.reduceLT, Nat.reduceLeDiff, Int.reduceLT, Int.reduceLE, Int.reduceAdd, Int.reduceSub, Int.reduceMul, Int.reducePow, Int.reduceToNat, Int.reduceNeg, ifx_t, ifx_f, ifx_n, gx_ok, eqT_int, List.getElem?_cons_zero, List.getElem?_cons_succ, List.set_cons_zero, List.set_cons_succ, List.map_cons, List.map_nil, List.nil_append, List.cons_append, List.replicate_succ, List.replicate_zero, List.length_cons, List.length_nil, List.any_cons, List.any_nil, Nat.reduceAdd, Nat.reduceSub, Bool.or_false, Bool.or_true, Bool.false_or, Bool.true_or, Bool.not_true, Bool.not_false, Option.map_some, Option.bind_some, decide_true, decide_false, true_and, and_true, wipeL, ↓gg_KINDS, h1, dk_t, dk_put, dk_len, r1, dk_m, dk_c, m1, Nat.zero_le, eqT_ints0 (L := L2 ++ [x]) (at_old (o := .lst []) (c1 _)) at_end, show (L2 ++ [x]).isEmpty = false by simp, at_old (r1 _), c2, last_app, List.dropLast_concat, cpow_ok (i := 10) (j := 18) (by decide), hx, r3, c3, show (0 : Int) < b by omega, m2, m3, m4, m5, show CDivB _ 64 = true from cdiv_ok (by decide)]
        exact ⟨_, rfl, md _, ⟨⟨L2, m, t + 1, r3 _ _, c3 _ _, by omega⟩, ne⟩, kp _ _⟩
  obtain ⟨x, h1, e, v, rfl, q⟩ := gx_ex z
  exact ⟨h1, v, e, q⟩
/-- one of the things of a list -/
theorem pick {r c s : Nat} {xs : List T} (d : Deck h r c) (hs : h[s]? = some (.lst xs)) (hn : s ∉ [r, c]) (hl : 1 ≤ xs.length ∧ xs.length ≤ 1000) : ∃ (h' : Hh) (x : T), callN D (n + 2) "_law_pick" [.ref r, .ref s] h = .ok x h' ∧ x ∈ xs ∧ Deck h' r c ∧ Keep [r, c] h h' := by
  obtain ⟨h1, v, e, hv, d1, k1⟩ := draw (n := n) (h := h) (b := xs.length) d (by omega)
  have hi : v.toNat < xs.length := by omega
  have ea : atI xs v = some xs[v.toNat] := atI_some (j := v.toNat) (by omega) (List.getElem?_eq_getElem hi)
  have z : Gx (callN D (n + 2) "_law_pick" [.ref r, .ref s] h) (P := ⟨fun a h2 => a = xs[v.toNat] ∧ h2 = h1⟩) := by
    refine call_gx f__law_pick rfl ?_
    simp only [↓x_var, ↓x_int, ↓x_bl, ↓x_non, ↓x_str, ↓x_bin, ↓x_cmp, ↓x_idx, ↓x_neg, ↓x_not, ↓x_isN, ↓x_isnN, ↓x_rev, ↓x_sset, ↓x_isiT, ↓x_chn, ↓x_ite, ↓x_and, ↓x_or, ↓x_and1, ↓x_or1, ↓x_and2, ↓x_or2, ↓x_tup, ↓x_lst, ↓x_dic, ↓x_slc, ↓x_call, ↓x_callK, ↓x_blt, ↓x_mth, ↓x_rngL, ↓x_rngT, ↓x_comp, ↓x_enil, ↓x_econs, ↓x_kv0, ↓x_kv, ↓x_ono, ↓x_oso, ↓x_cno, ↓x_cso, ↓x_val, ↓x_rng1, ↓x_rng2, ↓x_enum, ↓x_gvar, ↓x_gtup, ↓x_gtupR, ↓x_gsub, ↓x_gnil, ↓x_gcons, ↓x_snil, ↓x_scons, ↓x_pass, ↓x_expr, ↓x_ret, ↓x_retN, ↓x_set, ↓x_aug, ↓x_augO, ↓x_augA, ↓x_augS, ↓x_iff, ↓x_for, ↓x_whl, ↓x_brk, ↓x_cnt, ↓x_seqN, ↓x_seqR, ↓x_seqB, ↓x_seqC, ↓x_finR, ↓x_finN, ↓x_lk, ↓x_negR, ↓x_notR, ↓x_cnd, ↓x_oiR, ↓x_opt, ↓x_ob, ↓x_r1, ↓x_r2, ↓x_valT, ↓x_valF, ↓x_lst', ↓x_dk', ↓x_valL, ↓x_enumL, ↓x_mthL, ↓x_mth_append, ↓x_mth_extend, ↓x_mth_pop, ↓x_mth_get, ↓x_newT, ↓x_newL, ↓x_dicR, ↓x_add, ↓x_sub, ↓x_mul, ↓x_fdiv, ↓x_mod, ↓x_pow, ↓x_tadd, ↓x_ladd, ↓x_lt, ↓x_le, ↓x_gt, ↓x_ge, ↓x_eq, ↓x_ne, ↓x_inn, ↓x_nin, ↓x_tix, ↓x_rix, ↓x_ixL, ↓x_ixD, ↓x_setD, ↓x_stD, ↓x_stL, ↓x_app, ↓x_if, ↓x_ext, ↓x_pop, ↓x_lenT, ↓x_lenR, ↓x_lenL, ↓x_listT, ↓x_listL, ↓x_tupL, ↓x_tupT, ↓x_sortT, ↓x_sortL, ↓x_all, ↓x_any, ↓x_sum, ↓x_max2, ↓x_min2, ↓x_toint, ↓x_repr, ↓x_rep, ↓x_slcT, ↓x_slcF, ↓x_slcL, ↓x_revL, ↓x_ssetL, ↓x_isi_int, ↓x_isi_bool, ↓x_isi_NoneType, ↓x_isi_str, ↓x_isi_tuple, ↓x_isi_list, ↓gx_bd, ↓gx_ok, ↓x_loopN, ↓x_loopC, ↓x_loopB, ↓x_loopR, ty_NoneType_int, ty_NoneType_bool, ty_NoneType_str, ty_NoneType_list, ty_NoneType_tuple, ty_NoneType_dict, ty_int_int, ty_int_bool, ty_int_str, ty_int_list, ty_int_tuple, ty_int_dict, ty_bool_int, ty_bool_bool, ty_bool_str, ty_bool_list, ty_bool_tuple, ty_bool_dict, ty_str_int, ty_str_bool, ty_str_str, ty_str_list, ty_str_tuple, ty_str_dict, ty_tuple_int, ty_tuple_bool, ty_tuple_str, ty_tuple_list, ty_tuple_tuple, ty_tuple_dict, ty_list_int, ty_list_bool, ty_list_str, ty_list_list, ty_list_tuple, ty_list_dict, ty_dict_int, ty_dict_bool, ty_dict_str, ty_dict_list, ty_dict_tuple, ty_dict_dict, at_0, at_1, at_2, at_3, at_4, nat_0, nat_1, nat_2, nat_3, nat_4, nat_5, nat_6, at_end, at_end1, at_end2, at_end3, bools_t, all_t, Nat.reduceLT, Nat.reduceLeDiff, Int.reduceLT, Int.reduceLE, Int.reduceAdd, Int.reduceSub, Int.reduceMul, Int.reducePow, Int.reduceToNat, Int.reduceNeg, ifx_t, ifx_f, ifx_n, gx_ok, eqT_int, List.getElem?_cons_zero, List.getElem?_cons_succ, List.set_cons_zero, List.set_cons_succ, List.map_cons, List.map_nil, List.nil_append, List.cons_append, List.replicate_succ, List.replicate_zero, List.length_cons, List.length_nil, List.any_cons, List.any_nil, Nat.reduceAdd, Nat.reduceSub, Bool.or_false, Bool.or_true, Bool.false_or, Bool.true_or, Bool.not_true, Bool.not_false, Option.map_some, Option.bind_some, decide_true, decide_false, true_and, and_true, wipeL, ↓gg_KINDS, hs, e, k1.lstS hn hs, ea]
  obtain ⟨x, h2, e2, rfl, rfl⟩ := gx_ex z
  exact ⟨_, _, e2, List.getElem_mem hi, d1, k1⟩
theorem mod_ne {a d m : Int} (ha : 0 ≤ a ∧ a < m) (hd : 0 ≤ d ∧ d < m - 1) : (0 ≤ (a + 1 + d) % m ∧ (a + 1 + d) % m < m) ∧ a ≠ (a + 1 + d) % m := by
  by_cases h : a + 1 + d < m
  · rw [Int.emod_eq_of_lt (by omega) h]
    omega
  · have e : (a + 1 + d) % m = a + 1 + d - m := by
      rw [← Int.sub_emod_right, Int.emod_eq_of_lt (by omega) (by omega)]
    rw [e]
    omega
/-- a web whose ties have the given kinds -/
theorem with_kinds {r c s : Nat} {ks : List Int} {K : Int} (d : Deck h r c) (hs : h[s]? = some (.lst (ks.map T.int))) (hn : s ∉ [r, c]) (hk : ∀ k ∈ ks, 0 ≤ k ∧ k < K) (hl : ks.length ≤ 40) :
    ∃ (h' : Hh) (w : Int × List Tie), callN D (n + 2) "_law_with_kinds" [.ref r, .ref s] h = .ok (webT w) h' ∧ GoodWeb K w ∧ w.2.length = ks.length ∧ Deck h' r c ∧ Keep [r, c] h h' := by
  obtain ⟨h1, v, e, hv, d1, k1⟩ := draw (n := n) (h := h) (b := 5) d (by omega)
  have z : Gx (callN D (n + 2) "_law_with_kinds" [.ref r, .ref s] h) (P := ⟨fun a h2 => ∃ w, a = webT w ∧ GoodWeb K w ∧ w.2.length = ks.length ∧ Deck h2 r c ∧ Keep [r, c] h h2⟩) := by
    refine call_gx f__law_with_kinds rfl ?_
    have nf : h1.length ∉ [r, c] := d1.not_in (Nat.le_refl _)
    have sl := lt_of_at (k1.lstS hn hs)
    simp only [↓x_var, ↓x_int, ↓x_bl, ↓x_non, ↓x_str, ↓x_bin, ↓x_cmp, ↓x_idx, ↓x_neg, ↓x_not, ↓x_isN, ↓x_isnN, ↓x_rev, ↓x_sset, ↓x_isiT, ↓x_chn, ↓x_ite, ↓x_and, ↓x_or, ↓x_and1, ↓x_or1, ↓x_and2, ↓x_or2, ↓x_tup, ↓x_lst, ↓x_dic, ↓x_slc, ↓x_call, ↓x_callK, ↓x_blt, ↓x_mth, ↓x_rngL, ↓x_rngT, ↓x_comp, ↓x_enil, ↓x_econs, ↓x_kv0, ↓x_kv, ↓x_ono, ↓x_oso, ↓x_cno, ↓x_cso, ↓x_val, ↓x_rng1, ↓x_rng2, ↓x_enum, ↓x_gvar, ↓x_gtup, ↓x_gtupR, ↓x_gsub, ↓x_gnil, ↓x_gcons, ↓x_snil, ↓x_scons, ↓x_pass, ↓x_expr, ↓x_ret, ↓x_retN, ↓x_set, ↓x_aug, ↓x_augO, ↓x_augA, ↓x_augS, ↓x_iff, ↓x_for, ↓x_whl, ↓x_brk, ↓x_cnt, ↓x_seqN, ↓x_seqR, ↓x_seqB, ↓x_seqC, ↓x_finR, ↓x_finN, ↓x_lk, ↓x_negR, ↓x_notR, ↓x_cnd, ↓x_oiR, ↓x_opt, ↓x_ob, ↓x_r1, ↓x_r2, ↓x_valT, ↓x_valF, ↓x_lst', ↓x_dk', ↓x_valL, ↓x_enumL, ↓x_mthL, ↓x_mth_append, ↓x_mth_extend, ↓x_mth_pop, ↓x_mth_get, ↓x_newT, ↓x_newL, ↓x_dicR, ↓x_add, ↓x_sub, ↓x_mul, ↓x_fdiv, ↓x_mod, ↓x_pow, ↓x_tadd, ↓x_ladd, ↓x_lt, ↓x_le, ↓x_gt, ↓x_ge, ↓x_eq, ↓x_ne, ↓x_inn, ↓x_nin, ↓x_tix, ↓x_rix, ↓x_ixL, ↓x_ixD, ↓x_setD, ↓x_stD, ↓x_stL, ↓x_app, ↓x_if, ↓x_ext, ↓x_pop, ↓x_lenT, ↓x_lenR, ↓x_lenL, ↓x_listT, ↓x_listL, ↓x_tupL, ↓x_tupT, ↓x_sortT, ↓x_sortL, ↓x_all, ↓x_any, ↓x_sum, ↓x_max2, ↓x_min2, ↓x_toint, ↓x_repr, ↓x_rep, ↓x_slcT, ↓x_slcF, ↓x_slcL, ↓x_revL, ↓x_ssetL, ↓x_isi_int, ↓x_isi_bool, ↓x_isi_NoneType, ↓x_isi_str, ↓x_isi_tuple, ↓x_isi_list, ↓gx_bd, ↓gx_ok, ↓x_loopN, ↓x_loopC, ↓x_loopB, ↓x_loopR, ty_NoneType_int, ty_NoneType_bool, ty_NoneType_str, ty_NoneType_list, ty_NoneType_tuple, ty_NoneType_dict, ty_int_int, ty_int_bool, ty_int_str, ty_int_list, ty_int_tuple, ty_int_dict, ty_bool_int, ty_bool_bool, ty_bool_str, ty_bool_list, ty_bool_tuple, ty_bool_dict, ty_str_int, ty_str_bool, ty_str_str, ty_str_list, ty_str_tuple, ty_str_dict, ty_tuple_int, ty_tuple_bool, ty_tuple_str, ty_tuple_list, ty_tuple_tuple, ty_tuple_dict, ty_list_int, ty_list_bool, ty_list_str, ty_list_list, ty_list_tuple, ty_list_dict, ty_dict_int, ty_dict_bool, ty_dict_str, ty_dict_list, ty_dict_tuple, ty_dict_dict, at_0, at_1, at_2, at_3, at_4, nat_0, nat_1, nat_2, nat_3, nat_4, nat_5, nat_6, at_end, at_end1, at_end2, at_end3, bools_t, all_t, Nat.reduceLT, Nat.reduceLeDiff, Int.reduceLT, Int.reduceLE, Int.reduceAdd, Int.reduceSub, Int.reduceMul, Int.reducePow, Int.reduceToNat, Int.reduceNeg, ifx_t, ifx_f, ifx_n, gx_ok, eqT_int, List.getElem?_cons_zero, List.getElem?_cons_succ, List.set_cons_zero, List.set_cons_succ, List.map_cons, List.map_nil, List.nil_append, List.cons_append, List.replicate_succ, List.replicate_zero, List.length_cons, List.length_nil, List.any_cons, List.any_nil, Nat.reduceAdd, Nat.reduceSub, Bool.or_false, Bool.or_true, Bool.false_or, Bool.true_or, Bool.not_true, Bool.not_false, Option.map_some, Option.bind_some, decide_true, decide_false, true_and, and_true, wipeL, ↓gg_KINDS, e, Nat.zero_le, Nat.reduceLeDiff, show (2 : Nat) ≤ 16777216 by decide, at_old (k1.lstS hn hs)]
    refine gx_for (fun i l h2 => ∃ (L : List Tie) (x y : Option T), l = [some (.ref r), some (.ref s), x, some (.int (2 + v)), some (.ref h1.length), y] ∧ h2[h1.length]? = some (.lst (L.map tieT)) ∧ L.length = i ∧ (∀ t ∈ L, GoodTie (2 + v) K t) ∧ h2[s]? = some (.lst (ks.map T.int)) ∧ Deck h2 r c ∧ Keep [r, c] h h2)
      ⟨[], _, _, rfl, at_end, rfl, fun _ h => (by cases h), at_old (k1.lstS hn hs), d1.keep (.app _), k1.trans (.app _)⟩ ?_ ?_ ?_
    · rintro i l h2 ⟨L, x, y, rfl, q1, q2, q3, q4, q5, q6⟩ p hp
      rw [List.mem_singleton.mp hp]
      show mutL _ _ = _
      unfold mutL
      rw [q4]
    · rintro i x l h2 hx ⟨L, y, z, rfl, q1, q2, q3, q4, q5, q6⟩
      rw [List.getElem?_map] at hx
      obtain ⟨k, hkk, rfl⟩ := Option.map_eq_some_iff.mp hx
      have hi := (List.getElem?_eq_some_iff.mp hkk).1
      have kk := hk k (List.mem_of_getElem? hkk)
      obtain ⟨h3, a, e3, ha, d3, k3⟩ := draw (n := n) (h := h2) (b := 2 + v) q5 (by omega)
      obtain ⟨h4, b, e4, hb, d4, k4⟩ := draw (n := n) (h := h3) (b := 2 + v - 1) d3 (by omega)
      have mn := mod_ne (m := 2 + v) ha hb
      have q1' := k4.lstS nf (k3.lstS nf q1)
      simp only [↓x_var, ↓x_int, ↓x_bl, ↓x_non, ↓x_str, ↓x_bin, ↓x_cmp, ↓x_idx, ↓x_neg, ↓x_not, ↓x_isN, ↓x_isnN, ↓x_rev, ↓x_sset, ↓x_isiT, ↓x_chn, ↓x_ite, ↓x_and, ↓x_or, ↓x_and1, ↓x_or1, ↓x_and2, ↓x_or2, ↓x_tup, ↓x_lst, ↓x_dic, ↓x_slc, ↓x_call, ↓x_callK, ↓x_blt, ↓x_mth, ↓x_rngL, ↓x_rngT, ↓x_comp, ↓x_enil, ↓x_econs, ↓x_kv0, ↓x_kv, ↓x_ono, ↓x_oso, ↓x_cno, ↓x_cso, ↓x_val, ↓x_rng1, ↓x_rng2, ↓x_enum, ↓x_gvar, ↓x_gtup, ↓x_gtupR, ↓x_gsub, ↓x_gnil, ↓x_gcons, ↓x_snil, ↓x_scons, ↓x_pass, ↓x_expr, ↓x_ret, ↓x_retN, ↓x_set, ↓x_aug, ↓x_augO, ↓x_augA, ↓x_augS, ↓x_iff, ↓x_for, ↓x_whl, ↓x_brk, ↓x_cnt, ↓x_seqN, ↓x_seqR, ↓x_seqB, ↓x_seqC, ↓x_finR, ↓x_finN, ↓x_lk, ↓x_negR, ↓x_notR, ↓x_cnd, ↓x_oiR, ↓x_opt, ↓x_ob, ↓x_r1, ↓x_r2, ↓x_valT, ↓x_valF, ↓x_lst', ↓x_dk', ↓x_valL, ↓x_enumL, ↓x_mthL, ↓x_mth_append, ↓x_mth_extend, ↓x_mth_pop, ↓x_mth_get, ↓x_newT, ↓x_newL, ↓x_dicR, ↓x_add, ↓x_sub, ↓x_mul, ↓x_fdiv, ↓x_mod, ↓x_pow, ↓x_tadd, ↓x_ladd, ↓x_lt, ↓x_le, ↓x_gt, ↓x_ge, ↓x_eq, ↓x_ne, ↓x_inn, ↓x_nin, ↓x_tix, ↓x_rix, ↓x_ixL, ↓x_ixD, ↓x_setD, ↓x_stD, ↓x_stL, ↓x_app, ↓x_if, ↓x_ext, ↓x_pop, ↓x_lenT, ↓x_lenR, ↓x_lenL, ↓x_listT, ↓x_listL, ↓x_tupL, ↓x_tupT, ↓x_sortT, ↓x_sortL, ↓x_all, ↓x_any, ↓x_sum, ↓x_max2, ↓x_min2, ↓x_toint, ↓x_repr, ↓x_rep, ↓x_slcT, ↓x_slcF, ↓x_slcL, ↓x_revL, ↓x_ssetL, ↓x_isi_int, ↓x_isi_bool, ↓x_isi_NoneType, ↓x_isi_str, ↓x_isi_tuple, ↓x_isi_list, ↓gx_bd, ↓gx_ok, ↓x_loopN, ↓x_loopC, ↓x_loopB, ↓x_loopR, ty_NoneType_int, ty_NoneType_bool, ty_NoneType_str, ty_NoneType_list, ty_NoneType_tuple, ty_NoneType_dict, ty_int_int, ty_int_bool, ty_int_str, ty_int_list, ty_int_tuple, ty_int_dict, ty_bool_int, ty_bool_bool, ty_bool_str, ty_bool_list, ty_bool_tuple, ty_bool_dict, ty_str_int, ty_str_bool, ty_str_str, ty_str_list, ty_str_tuple, ty_str_dict, ty_tuple_int, ty_tuple_bool, ty_tuple_str, ty_tuple_list, ty_tuple_tuple, ty_tuple_dict, ty_list_int, ty_list_bool, ty_list_str, ty_list_list, ty_list_tuple, ty_list_dict, ty_dict_int, ty_dict_bool, ty_dict_str, ty_dict_list, ty_dict_tuple, ty_dict_dict, at_0, at_1, at_2, at_3, at_4, nat_0, nat_1, nat_2, nat_3, nat_4, nat_5, nat_6, at_end, at_end1, at_end2, at_end3, bools_t, all_t, Nat.reduceLT, Nat.reduceLeDiff, Int.reduceLT, Int.reduceLE, Int.reduceAdd, Int.reduceSub, Int.reduceMul, Int.reducePow, Int.reduceToNat, Int.reduceNeg, ifx_t, ifx_f, ifx_n, gx_ok, eqT_int, List.getElem?_cons_zero, List.getElem?_cons_succ, List.set_cons_zero, List.set_cons_succ, List.map_cons, List.map_nil, List.nil_append, List.cons_append, List.replicate_succ, List.replicate_zero, List.length_cons, List.length_nil, List.any_cons, List.any_nil, Nat.reduceAdd, Nat.reduceSub, Bool.or_false, Bool.or_true, Bool.false_or, Bool.true_or, Bool.not_true, Bool.not_false, Option.map_some, Option.bind_some, decide_true, decide_false, true_and, and_true, wipeL, ↓gg_KINDS, e3, q1, k3.lstS nf q1, e4, q1', ↓x_if, List.length_map, show (0 : Int) < 2 + v by omega, show L.length < 16777216 by omega, Nat.reduceLeDiff, show (3 : Nat) ≤ 16777216 by decide]
      refine ⟨L ++ [(a, (a + 1 + b) % (2 + v), k)], _, _, rfl, ?_, ?_, ?_, ?_, ?_, ?_⟩
      · rw [List.map_append]
        exact at_set q1'
      · rw [List.length_append, List.length_singleton, q2]
      · intro t ht
        rcases List.mem_append.mp ht with z | z
        · exact q3 t z
        · rw [List.mem_singleton.mp z]
          exact ⟨ha, mn.1, mn.2, kk⟩
      · exact at_setn (k4.lstS hn (k3.lstS hn q4)) (by omega)
      · obtain ⟨⟨L1, m1, t1, x1, x2, x3⟩, x4⟩ := d4
        have := d1.r_lt
        have := d1.c_lt
        exact ⟨⟨L1, m1, t1, at_setn x1 (by omega), at_setn x2 (by omega), x3⟩, x4⟩
      · exact ((q6.trans k3).trans k4).fresh (Nat.le_trans k1.le (Nat.le_refl _))
    · rintro l h2 ⟨L, x, y, rfl, q1, q2, q3, q4, q5, q6⟩
      rw [List.length_map] at q2
      have st : sortT h2 (L.map tieT) = some ((srt tieD L).map tieT) := sortT_map (enc := tieT) (key := tieD) (fun _ _ => rfl) (sortable_ties L) (by omega)
      simp only [↓x_var, ↓x_int, ↓x_bl, ↓x_non, ↓x_str, ↓x_bin, ↓x_cmp, ↓x_idx, ↓x_neg, ↓x_not, ↓x_isN, ↓x_isnN, ↓x_rev, ↓x_sset, ↓x_isiT, ↓x_chn, ↓x_ite, ↓x_and, ↓x_or, ↓x_and1, ↓x_or1, ↓x_and2, ↓x_or2, ↓x_tup, ↓x_lst, ↓x_dic, ↓x_slc, ↓x_call, ↓x_callK, ↓x_blt, ↓x_mth, ↓x_rngL, ↓x_rngT, ↓x_comp, ↓x_enil, ↓x_econs, ↓x_kv0, ↓x_kv, ↓x_ono, ↓x_oso, ↓x_cno, ↓x_cso, ↓x_val, ↓x_rng1, ↓x_rng2, ↓x_enum, ↓x_gvar, ↓x_gtup, ↓x_gtupR, ↓x_gsub, ↓x_gnil, ↓x_gcons, ↓x_snil, ↓x_scons, ↓x_pass, ↓x_expr, ↓x_ret, ↓x_retN, ↓x_set, ↓x_aug, ↓x_augO, ↓x_augA, ↓x_augS, ↓x_iff, ↓x_for, ↓x_whl, ↓x_brk, ↓x_cnt, ↓x_seqN, ↓x_seqR, ↓x_seqB, ↓x_seqC, ↓x_finR, ↓x_finN, ↓x_lk, ↓x_negR, ↓x_notR, ↓x_cnd, ↓x_oiR, ↓x_opt, ↓x_ob, ↓x_r1, ↓x_r2, ↓x_valT, ↓x_valF, ↓x_lst', ↓x_dk', ↓x_valL, ↓x_enumL, ↓x_mthL, ↓x_mth_append, ↓x_mth_extend, ↓x_mth_pop, ↓x_mth_get, ↓x_newT, ↓x_newL, ↓x_dicR, ↓x_add, ↓x_sub, ↓x_mul, ↓x_fdiv, ↓x_mod, ↓x_pow, ↓x_tadd, ↓x_ladd, ↓x_lt, ↓x_le, ↓x_gt, ↓x_ge, ↓x_eq, ↓x_ne, ↓x_inn, ↓x_nin, ↓x_tix, ↓x_rix, ↓x_ixL, ↓x_ixD, ↓x_setD, ↓x_stD, ↓x_stL, ↓x_app, ↓x_if, ↓x_ext, ↓x_pop, ↓x_lenT, ↓x_lenR, ↓x_lenL, ↓x_listT, ↓x_listL, ↓x_tupL, ↓x_tupT, ↓x_sortT, ↓x_sortL, ↓x_all, ↓x_any, ↓x_sum, ↓x_max2, ↓x_min2, ↓x_toint, ↓x_repr, ↓x_rep, ↓x_slcT, ↓x_slcF, ↓x_slcL, ↓x_revL, ↓x_ssetL, ↓x_isi_int, ↓x_isi_bool, ↓x_isi_NoneType, ↓x_isi_str, ↓x_isi_tuple, ↓x_isi_list, ↓gx_bd, ↓gx_ok, ↓x_loopN, ↓x_loopC, ↓x_loopB, ↓x_loopR, ty_NoneType_int, ty_NoneType_bool, ty_NoneType_str, ty_NoneType_list, ty_NoneType_tuple, ty_NoneType_dict, ty_int_int, ty_int_bool, ty_int_str, ty_int_list, ty_int_tuple, ty_int_dict, ty_bool_int, ty_bool_bool, ty_bool_str, ty_bool_list, ty_bool_tuple, ty_bool_dict, ty_str_int, ty_str_bool, ty_str_str, ty_str_list, ty_str_tuple, ty_str_dict, ty_tuple_int, ty_tuple_bool, ty_tuple_str, ty_tuple_list, ty_tuple_tuple, ty_tuple_dict, ty_list_int, ty_list_bool, ty_list_str, ty_list_list, ty_list_tuple, ty_list_dict, ty_dict_int, ty_dict_bool, ty_dict_str, ty_dict_list, ty_dict_tuple, ty_dict_dict, at_0, at_1, at_2, at_3, at_4, nat_0, nat_1, nat_2, nat_3, nat_4, nat_5, nat_6, at_end, at_end1, at_end2, at_end3, bools_t, all_t, Nat.reduceLT, Nat.reduceLeDiff, Int.reduceLT, Int.reduceLE, Int.reduceAdd, Int.reduceSub, Int.reduceMul, Int.reducePow, Int.reduceToNat, Int.reduceNeg, ifx_t, ifx_f, ifx_n, gx_ok, eqT_int, List.getElem?_cons_zero, List.getElem?_cons_succ, List.set_cons_zero, List.set_cons_succ, List.map_cons, List.map_nil, List.nil_append, List.cons_append, List.replicate_succ, List.replicate_zero, List.length_cons, List.length_nil, List.any_cons, List.any_nil, Nat.reduceAdd, Nat.reduceSub, Bool.or_false, Bool.or_true, Bool.false_or, Bool.true_or, Bool.not_true, Bool.not_false, Option.map_some, Option.bind_some, decide_true, decide_false, true_and, and_true, wipeL, ↓gg_KINDS, q1, st, List.length_map, srt_len, Nat.reduceLeDiff, show (2 : Nat) ≤ 16777216 by decide, show L.length ≤ 16777216 by omega]
      refine ⟨(2 + v, srt tieD L), rfl, ⟨?_, fun t ht => q3 t ((srt_mem _).mp ht), srt_srt _ _, ?_⟩, ?_, q5.keep (.app _), q6.trans (.app _)⟩
      · show 2 ≤ 2 + v
        omega
      · show (srt tieD L).length ≤ 40
        rw [srt_len]
        omega
      · show (srt tieD L).length = _
        rw [srt_len]
        exact q2
  obtain ⟨x, h2, e2, w, rfl, q⟩ := gx_ex z
  exact ⟨_, w, e2, q⟩
end
end K59


set_option Elab.async false
set_option linter.all false
set_option maxRecDepth 100000
namespace K59
open PySem MP L2
theorem enumT_get : ∀ (xs : List T) (k i : Nat) (y : T), (enumT k xs)[i]? = some y → ∃ x, xs[i]? = some x ∧ y = .tup [.int ((k + i : Nat) : Int), x]
  | [], k, i, y, e => by simp [enumT] at e
  | x :: xs, k, 0, y, e => by
    simp [enumT] at e
    exact ⟨x, rfl, e.symm⟩
  | x :: xs, k, i + 1, y, e => by
    obtain ⟨z, h1, h2⟩ := enumT_get xs (k + 1) i y (by simpa [enumT] using e)
    refine ⟨z, by simpa using h1, ?_⟩
    rw [h2]
    congr 4
    omega
theorem enumT_len : ∀ (xs : List T) (k : Nat), (enumT k xs).length = xs.length
  | [], _ => rfl
  | x :: xs, k => congrArg (· + 1) (enumT_len xs (k + 1))
theorem range_get {b : Int} {i : Nat} {x : T} (h : (rangeT 0 b)[i]? = some x) : x = .int i ∧ (i : Int) < b := by
  unfold rangeT at h
  rw [List.getElem?_map] at h
  obtain ⟨j, hj, rfl⟩ := Option.map_eq_some_iff.mp h
  have hlt := (List.getElem?_eq_some_iff.mp hj).1
  rw [List.getElem?_range (by simpa using hlt)] at hj
  cases hj
  simp at hlt
  exact ⟨by simp, by omega⟩
theorem range_len {b : Int} : (rangeT 0 b).length = b.toNat := by
  unfold rangeT
  simp
/-- the book under way -/
structure Inv (h0 : Hh) (r c : Nat) (k : Int) (o lt fl : Nat) (ord lat : List Int) (rs : List Nat) (N : Nat) (h : Hh) : Prop where
  d : Deck h r c
  kp : Keep [r, c] h0 h
  ho : h[o]? = some (.lst (ord.map T.int))
  hl : h[lt]? = some (.lst (lat.map T.int))
  hf : h[fl]? = some (.lst (rs.map T.ref))
  row : ∀ a ∈ rs, ∃ row : List Int, h[a]? = some (.lst (row.map T.int)) ∧ (∀ x ∈ row, 0 ≤ x ∧ x < k) ∧ row.length ≤ N
structure Fix (h0 : Hh) (r c : Nat) (k : Int) (o lt fl : Nat) (ord lat : List Int) (rs : List Nat) : Prop where
  r0 : r < h0.length
  c0 : c < h0.length
  o0 : h0.length ≤ o
  l0 : h0.length ≤ lt
  f0 : h0.length ≤ fl
  rs0 : ∀ a ∈ rs, h0.length ≤ a
  no : o ∉ rs
  nl : lt ∉ rs
  nf : fl ∉ rs
  ordk : ∀ x ∈ ord, 0 ≤ x ∧ x < k
  latk : ∀ x ∈ lat, 0 ≤ x ∧ x < k
  ordl : ord.length ≤ 3
  latl : lat.length ≤ 3
  rsl : (rs.length : Int) = k
section
variable {h0 h h' : Hh} {r c o lt fl N : Nat} {k : Int} {ord lat : List Int} {rs : List Nat}
theorem Fix.out (F : Fix h0 r c k o lt fl ord lat rs) {a : Nat} (ha : h0.length ≤ a) : a ∉ [r, c] := by
  have := F.r0
  have := F.c0
  simp
  omega
theorem Inv.keep (F : Fix h0 r c k o lt fl ord lat rs) (I : Inv h0 r c k o lt fl ord lat rs N h) (kp : Keep [r, c] h h') (d : Deck h' r c) : Inv h0 r c k o lt fl ord lat rs N h' where
  d := d
  kp := I.kp.trans kp
  ho := kp.lstS (F.out F.o0) I.ho
  hl := kp.lstS (F.out F.l0) I.hl
  hf := kp.lstS (F.out F.f0) I.hf
  row := fun a ha => by
    obtain ⟨row, h1, h2⟩ := I.row a ha
    exact ⟨row, kp.lstS (F.out (F.rs0 a ha)) h1, h2⟩
theorem Inv.le (I : Inv h0 r c k o lt fl ord lat rs N h) {M : Nat} (hm : N ≤ M) : Inv h0 r c k o lt fl ord lat rs M h :=
  ⟨I.d, I.kp, I.ho, I.hl, I.hf, fun a ha => by
    obtain ⟨row, h1, h2, h3⟩ := I.row a ha
    exact ⟨row, h1, h2, by omega⟩⟩
theorem Inv.put (F : Fix h0 r c k o lt fl ord lat rs) (I : Inv h0 r c k o lt fl ord lat rs N h) {a : Nat} {row zs : List Int} (ha : a ∈ rs) (hr : h[a]? = some (.lst (row.map T.int))) (hrl : row.length ≤ N) (hrk : ∀ x ∈ row, 0 ≤ x ∧ x < k) (hz : ∀ x ∈ zs, 0 ≤ x ∧ x < k) :
    Inv h0 r c k o lt fl ord lat rs (N + zs.length) (h.set a (.lst (row.map T.int ++ zs.map T.int))) where
  d := by
    obtain ⟨⟨L, m, t, h1, h2, h3⟩, h4⟩ := I.d
    have := F.rs0 a ha
    have := F.r0
    have := F.c0
    exact ⟨⟨L, m, t, at_setn h1 (by omega), at_setn h2 (by omega), h3⟩, h4⟩
  kp := I.kp.fresh (F.rs0 a ha)
  ho := at_setn I.ho fun e => F.no (e ▸ ha)
  hl := at_setn I.hl fun e => F.nl (e ▸ ha)
  hf := at_setn I.hf fun e => F.nf (e ▸ ha)
  row := fun b hb => by
    by_cases e : a = b
    · subst e
      refine ⟨row ++ zs, by rw [List.map_append]; exact at_set hr, fun x hx => ?_, by rw [List.length_append]; omega⟩
      rcases List.mem_append.mp hx with z | z
      · exact hrk x z
      · exact hz x z
    · obtain ⟨row2, h1, h2, h3⟩ := I.row b hb
      exact ⟨row2, at_setn h1 e, h2, by omega⟩
theorem Inv.app (F : Fix h0 r c k o lt fl ord lat rs) (I : Inv h0 r c k o lt fl ord lat rs N h) (u : List O) : Inv h0 r c k o lt fl ord lat rs N (h ++ u) := I.keep F (.app u) (I.d.keep (.app u))
end
section
variable {h : Hh} {n : Nat}
/-- figures drawn into a new list -/
theorem comp_draw {r c : Nat} {k b : Int} {own : List Nat} {ls : Ls} {g : Nat} {Q : T → Hh → Prop} (d : Deck h r c) (hk : 1 ≤ k ∧ k ≤ 3) (hb : b ≤ 100) (e0 : (wipeL ls own)[0]? = some (some (.ref r))) (e1 : (wipeL ls own)[1]? = some (some (.int k))) (g2 : 2 ≤ g) (gl : g < (wipeL ls own).length)
    (hd : ∀ h' (ys : List Int), (∀ y ∈ ys, 0 ≤ y ∧ y < k) → ys.length = b.toNat → Deck h' r c → Keep [r, c] h h' → Q (.ref h'.length) (h' ++ [.lst (ys.map T.int)])) :
    Gx (compR D (callN D (n + 1)) own (.var g) .no (.call "_law_draw" (.cons (.var 0) (.cons (.var 1) .nil))) ls (rangeT 0 b, []) h) (P := ⟨Q⟩) := by
  refine gx_comp (fun i a h1 => ∃ ys : List Int, a = ys.map T.int ∧ (∀ y ∈ ys, 0 ≤ y ∧ y < k) ∧ ys.length = i ∧ Deck h1 r c ∧ Keep [r, c] h h1) ⟨[], rfl, fun _ h => (by cases h), rfl, d, .refl⟩ (fun _ _ _ _ p hp => by simp at hp) ?_ ?_
  · rintro i x a h1 hx ⟨ys, rfl, q1, q2, q3, q4⟩
    obtain ⟨rfl, hi⟩ := range_get hx
    obtain ⟨h2, v, e, hv, d2, k2⟩ := draw (n := n) (h := h1) (b := k) q3 (by omega)
    have s0 : ((wipeL ls own).set g (some (.int i)))[0]? = some (some (.ref r)) := by rw [List.getElem?_set_ne (by omega)]; exact e0
    have s1 : ((wipeL ls own).set g (some (.int i)))[1]? = some (some (.int k)) := by rw [List.getElem?_set_ne (by omega)]; exact e1
    simp only [↓x_gvar, ↓x_cno, ↓x_cnd, ↓x_call, ↓x_econs, ↓x_enil, ↓x_var, ↓x_lk, s0, s1, e, ↓gx_ok, ifx_t, gl, true_and, List.length_map]
    refine ⟨by omega, ys ++ [v], by rw [List.map_append]; rfl, fun y hy => ?_, by rw [List.length_append, q2]; rfl, d2, q4.trans k2⟩
    rcases List.mem_append.mp hy with z | z
    · exact q1 y z
    · rw [List.mem_singleton.mp z]
      exact hv
  · rintro a h1 ⟨ys, rfl, q1, q2, q3, q4⟩
    rw [range_len] at q2
    exact hd h1 ys q1 q2 q3 q4
theorem comp_pick {r c s : Nat} {lat : List Int} {b : Int} {own : List Nat} {ls : Ls} {g : Nat} {Q : T → Hh → Prop} (d : Deck h r c) (hs : h[s]? = some (.lst (lat.map T.int))) (hn : s ∉ [r, c]) (hl : 1 ≤ lat.length ∧ lat.length ≤ 1000) (hb : b ≤ 100)
    (e0 : (wipeL ls own)[0]? = some (some (.ref r))) (e1 : (wipeL ls own)[8]? = some (some (.ref s))) (g2 : 9 ≤ g) (gl : g < (wipeL ls own).length)
    (hd : ∀ h' (ys : List Int), (∀ y ∈ ys, y ∈ lat) → ys.length = b.toNat → Deck h' r c → Keep [r, c] h h' → Q (.ref h'.length) (h' ++ [.lst (ys.map T.int)])) :
    Gx (compR D (callN D (n + 2)) own (.var g) .no (.call "_law_pick" (.cons (.var 0) (.cons (.var 8) .nil))) ls (rangeT 0 b, []) h) (P := ⟨Q⟩) := by
  refine gx_comp (fun i a h1 => ∃ ys : List Int, a = ys.map T.int ∧ (∀ y ∈ ys, y ∈ lat) ∧ ys.length = i ∧ Deck h1 r c ∧ Keep [r, c] h h1) ⟨[], rfl, fun _ h => (by cases h), rfl, d, .refl⟩ (fun _ _ _ _ p hp => by simp at hp) ?_ ?_
  · rintro i x a h1 hx ⟨ys, rfl, q1, q2, q3, q4⟩
    obtain ⟨rfl, hi⟩ := range_get hx
    obtain ⟨h2, v, e, hv, d2, k2⟩ := pick (n := n) (h := h1) q3 (q4.lstS hn hs) hn (by rw [List.length_map]; exact hl)
    obtain ⟨y, hy, rfl⟩ := List.mem_map.mp hv
    have s0 : ((wipeL ls own).set g (some (.int i)))[0]? = some (some (.ref r)) := by rw [List.getElem?_set_ne (by omega)]; exact e0
    have s1 : ((wipeL ls own).set g (some (.int i)))[8]? = some (some (.ref s)) := by rw [List.getElem?_set_ne (by omega)]; exact e1
    simp only [↓x_gvar, ↓x_cno, ↓x_cnd, ↓x_call, ↓x_econs, ↓x_enil, ↓x_var, ↓x_lk, s0, s1, e, ↓gx_ok, ifx_t, gl, true_and, List.length_map]
    refine ⟨by omega, ys ++ [y], by rw [List.map_append]; rfl, fun z hz => ?_, by rw [List.length_append, q2]; rfl, d2, q4.trans k2⟩
    rcases List.mem_append.mp hz with z | z
    · exact q1 _ z
    · rw [List.mem_singleton.mp z]
      exact hy
  · rintro a h1 ⟨ys, rfl, q1, q2, q3, q4⟩
    rw [range_len] at q2
    exact hd h1 ys q1 q2 q3 q4
abbrev orders : List (List Int) := [[0, 1, 2], [2, 1, 0], [1, 2, 0], [0, 2, 1]]
theorem ord_in {o : List Int} (h : o ∈ orders) : o.length = 3 ∧ ∀ x ∈ o, 0 ≤ x ∧ x < 3 := by
  simp only [List.mem_cons, List.not_mem_nil, or_false] at h
  rcases h with rfl | rfl | rfl | rfl <;> exact ⟨rfl, by decide⟩
set_option maxHeartbeats 4000000 in
theorem mk_book {r c : Nat} {k : Int} (d : Deck h r c) (hk : 1 ≤ k ∧ k ≤ 3) : ∃ (h' : Hh) (B : Book), callN D (n + 3) "_law_book" [.ref r, .int k] h = .ok (bookT B) h' ∧ GoodBook B ∧ (B.length : Int) = k ∧ Deck h' r c ∧ Keep [r, c] h h' := by
  obtain ⟨h1, way, e, hw, d1, k1⟩ := draw (n := n + 1) (h := h) (b := 7) d (by omega)
  have z : Gx (callN D (n + 3) "_law_book" [.ref r, .int k] h) (P := ⟨fun a h2 => ∃ B, a = bookT B ∧ GoodBook B ∧ (B.length : Int) = k ∧ Deck h2 r c ∧ Keep [r, c] h h2⟩) := by
    refine call_gx f__law_book rfl ?_
    have H1 := at_end3 (h := h1) (a := .lst [.int 0, .int 1, .int 2]) (b := .lst [.int 2, .int 1, .int 0]) (c := .lst [.int 1, .int 2, .int 0]) (d := .lst [.int 0, .int 2, .int 1])
    obtain ⟨h2, x, e2, hx, d2, k2⟩ := pick (n := n) (r := r) (c := c) (h := h1 ++ [.lst [.int 0, .int 1, .int 2]] ++ [.lst [.int 2, .int 1, .int 0]] ++ [.lst [.int 1, .int 2, .int 0]] ++ [.lst [.int 0, .int 2, .int 1]] ++ [.lst [.ref h1.length, .ref (h1 ++ [O.lst [.int 0, .int 1, .int 2]]).length, .ref (h1 ++ [O.lst [.int 0, .int 1, .int 2]] ++ [O.lst [.int 2, .int 1, .int 0]]).length, .ref (h1 ++ [O.lst [.int 0, .int 1, .int 2]] ++ [O.lst [.int 2, .int 1, .int 0]] ++ [O.lst [.int 1, .int 2, .int 0]]).length]])
      (d1.keep (((((Keep.app _).trans (.app _)).trans (.app _)).trans (.app _)).trans (.app _))) at_end (d1.not_in (by simp <;> omega)) (by simp)
    have hx2 : ∃ o ord, x = .ref o ∧ h1.length ≤ o ∧ h2[o]? = some (.lst (ord.map T.int)) ∧ ord ∈ orders := by
      simp only [List.mem_cons, List.not_mem_nil, or_false] at hx
      rcases hx with rfl | rfl | rfl | rfl
      · exact ⟨_, [0, 1, 2], rfl, Nat.le_refl _, k2.lstS (d1.not_in (Nat.le_refl _)) (at_old at_end3), by simp⟩
      · exact ⟨_, [2, 1, 0], rfl, by simp, k2.lstS (d1.not_in (by simp)) (at_old at_end2), by simp⟩
      · exact ⟨_, [1, 2, 0], rfl, by simp <;> omega, k2.lstS (d1.not_in (by simp <;> omega)) (at_old at_end1), by simp⟩
      · exact ⟨_, [0, 2, 1], rfl, by simp <;> omega, k2.lstS (d1.not_in (by simp <;> omega)) (at_old at_end), by simp⟩
    obtain ⟨o1, ord1, rfl, ho1, hl1, hm1⟩ := hx2
    obtain ⟨ol, ok⟩ := ord_in hm1
    have fr1 : ∀ o, h1.length ≤ o → o ∉ [r, c] := fun o ho => d1.not_in ho
    have le2 : h1.length ≤ h2.length := Nat.le_trans (by simp <;> omega) k2.le
    have kp2 : Keep [r, c] h h2 := k1.trans ((((((Keep.app _).trans (.app _)).trans (.app _)).trans (.app _)).trans (.app _)).trans k2)
    simp only [↓x_var, ↓x_int, ↓x_bl, ↓x_non, ↓x_str, ↓x_bin, ↓x_cmp, ↓x_idx, ↓x_neg, ↓x_not, ↓x_isN, ↓x_isnN, ↓x_rev, ↓x_sset, ↓x_isiT, ↓x_chn, ↓x_ite, ↓x_and, ↓x_or, ↓x_and1, ↓x_or1, ↓x_and2, ↓x_or2, ↓x_tup, ↓x_lst, ↓x_dic, ↓x_slc, ↓x_call, ↓x_callK, ↓x_blt, ↓x_mth, ↓x_rngL, ↓x_rngT, ↓x_comp, ↓x_enil, ↓x_econs, ↓x_kv0, ↓x_kv, ↓x_ono, ↓x_oso, ↓x_cno, ↓x_cso, ↓x_val, ↓x_rng1, ↓x_rng2, ↓x_enum, ↓x_gvar, ↓x_gtup, ↓x_gtupR, ↓x_gsub, ↓x_gnil, ↓x_gcons, ↓x_snil, ↓x_scons, ↓x_pass, ↓x_expr, ↓x_ret, ↓x_retN, ↓x_set, ↓x_aug, ↓x_augO, ↓x_augA, ↓x_augS, ↓x_iff, ↓x_for, ↓x_whl, ↓x_brk, ↓x_cnt, ↓x_seqN, ↓x_seqR, ↓x_seqB, ↓x_seqC, ↓x_finR, ↓x_finN, ↓x_lk, ↓x_negR, ↓x_notR, ↓x_cnd, ↓x_oiR, ↓x_opt, ↓x_ob, ↓x_r1, ↓x_r2, ↓x_valT, ↓x_valF, ↓x_lst', ↓x_dk', ↓x_valL, ↓x_enumL, ↓x_mthL, ↓x_mth_append, ↓x_mth_extend, ↓x_mth_pop, ↓x_mth_get, ↓x_newT, ↓x_newL, ↓x_dicR, ↓x_add, ↓x_sub, ↓x_mul, ↓x_fdiv, ↓x_mod, ↓x_pow, ↓x_tadd, ↓x_ladd, ↓x_lt, ↓x_le, ↓x_gt, ↓x_ge, ↓x_eq, ↓x_ne, ↓x_inn, ↓x_nin, ↓x_tix, ↓x_rix, ↓x_ixL, ↓x_ixD, ↓x_setD, ↓x_stD, ↓x_stL, ↓x_app, ↓x_if, ↓x_ext, ↓x_pop, ↓x_lenT, ↓x_lenR, ↓x_lenL, ↓x_listT, ↓x_listL, ↓x_tupL, ↓x_tupT, ↓x_sortT, ↓x_sortL, ↓x_all, ↓x_any, ↓x_sum, ↓x_max2, ↓x_min2, ↓x_toint, ↓x_repr, ↓x_rep, ↓x_slcT, ↓x_slcF, ↓x_slcL, ↓x_revL, ↓x_ssetL, ↓x_isi_int, ↓x_isi_bool, ↓x_isi_NoneType, ↓x_isi_str, ↓x_isi_tuple, ↓x_isi_list, ↓gx_bd, ↓gx_ok, ↓x_loopN, ↓x_loopC, ↓x_loopB, ↓x_loopR, ty_NoneType_int, ty_NoneType_bool, ty_NoneType_str, ty_NoneType_list, ty_NoneType_tuple, ty_NoneType_dict, ty_int_int, ty_int_bool, ty_int_str, ty_int_list, ty_int_tuple, ty_int_dict, ty_bool_int, ty_bool_bool, ty_bool_str, ty_bool_list, ty_bool_tuple, ty_bool_dict, ty_str_int, ty_str_bool, ty_str_str, ty_str_list, ty_str_tuple, ty_str_dict, ty_tuple_int, ty_tuple_bool, ty_tuple_str, ty_tuple_list, ty_tuple_tuple, ty_tuple_dict, ty_list_int, ty_list_bool, ty_list_str, ty_list_list, ty_list_tuple, ty_list_dict, ty_dict_int, ty_dict_bool, ty_dict_str, ty_dict_list, ty_dict_tuple, ty_dict_dict, at_0, at_1, at_2, at_3, at_4, nat_0, nat_1, nat_2, nat_3, nat_4, nat_5, nat_6, at_end, at_end1, at_end2, at_end3, bools_t, all_t, Nat.reduceLT, Nat.reduceLeDiff, Int.reduceLT, Int.reduceLE, Int.reduceAdd, Int.reduceSub, Int.reduceMul, Int.reducePow, Int.reduceToNat, Int.reduceNeg, ifx_t, ifx_f, ifx_n, gx_ok, eqT_int, List.getElem?_cons_zero, List.getElem?_cons_succ, List.set_cons_zero, List.set_cons_succ, List.map_cons, List.map_nil, List.nil_append, List.cons_append, List.replicate_succ, List.replicate_zero, List.length_cons, List.length_nil, List.any_cons, List.any_nil, Nat.reduceAdd, Nat.reduceSub, Bool.or_false, Bool.or_true, Bool.false_or, Bool.true_or, Bool.not_true, Bool.not_false, Option.map_some, Option.bind_some, decide_true, decide_false, true_and, and_true, wipeL, ↓gg_KINDS, e, Nat.zero_le, Nat.reduceLeDiff, e2, hl1]
    refine comp_filter id (fun x => match x with | .int i => decide (i < k) | _ => false) (fun h3 => h3 = h2) rfl (by rw [List.length_map, ol]; decide) ?_ ?_ ?_
    · rintro h3 rfl p hp
      rw [List.mem_singleton.mp hp]
      show mutL _ _ = _
      unfold mutL
      rw [hl1]
    · rintro x h3 hx rfl
      obtain ⟨i, hi, rfl⟩ := List.mem_map.mp hx
      simp only [↓x_var, ↓x_int, ↓x_bl, ↓x_non, ↓x_str, ↓x_bin, ↓x_cmp, ↓x_idx, ↓x_neg, ↓x_not, ↓x_isN, ↓x_isnN, ↓x_rev, ↓x_sset, ↓x_isiT, ↓x_chn, ↓x_ite, ↓x_and, ↓x_or, ↓x_and1, ↓x_or1, ↓x_and2, ↓x_or2, ↓x_tup, ↓x_lst, ↓x_dic, ↓x_slc, ↓x_call, ↓x_callK, ↓x_blt, ↓x_mth, ↓x_rngL, ↓x_rngT, ↓x_comp, ↓x_enil, ↓x_econs, ↓x_kv0, ↓x_kv, ↓x_ono, ↓x_oso, ↓x_cno, ↓x_cso, ↓x_val, ↓x_rng1, ↓x_rng2, ↓x_enum, ↓x_gvar, ↓x_gtup, ↓x_gtupR, ↓x_gsub, ↓x_gnil, ↓x_gcons, ↓x_snil, ↓x_scons, ↓x_pass, ↓x_expr, ↓x_ret, ↓x_retN, ↓x_set, ↓x_aug, ↓x_augO, ↓x_augA, ↓x_augS, ↓x_iff, ↓x_for, ↓x_whl, ↓x_brk, ↓x_cnt, ↓x_seqN, ↓x_seqR, ↓x_seqB, ↓x_seqC, ↓x_finR, ↓x_finN, ↓x_lk, ↓x_negR, ↓x_notR, ↓x_cnd, ↓x_oiR, ↓x_opt, ↓x_ob, ↓x_r1, ↓x_r2, ↓x_valT, ↓x_valF, ↓x_lst', ↓x_dk', ↓x_valL, ↓x_enumL, ↓x_mthL, ↓x_mth_append, ↓x_mth_extend, ↓x_mth_pop, ↓x_mth_get, ↓x_newT, ↓x_newL, ↓x_dicR, ↓x_add, ↓x_sub, ↓x_mul, ↓x_fdiv, ↓x_mod, ↓x_pow, ↓x_tadd, ↓x_ladd, ↓x_lt, ↓x_le, ↓x_gt, ↓x_ge, ↓x_eq, ↓x_ne, ↓x_inn, ↓x_nin, ↓x_tix, ↓x_rix, ↓x_ixL, ↓x_ixD, ↓x_setD, ↓x_stD, ↓x_stL, ↓x_app, ↓x_if, ↓x_ext, ↓x_pop, ↓x_lenT, ↓x_lenR, ↓x_lenL, ↓x_listT, ↓x_listL, ↓x_tupL, ↓x_tupT, ↓x_sortT, ↓x_sortL, ↓x_all, ↓x_any, ↓x_sum, ↓x_max2, ↓x_min2, ↓x_toint, ↓x_repr, ↓x_rep, ↓x_slcT, ↓x_slcF, ↓x_slcL, ↓x_revL, ↓x_ssetL, ↓x_isi_int, ↓x_isi_bool, ↓x_isi_NoneType, ↓x_isi_str, ↓x_isi_tuple, ↓x_isi_list, ↓gx_bd, ↓gx_ok, ↓x_loopN, ↓x_loopC, ↓x_loopB, ↓x_loopR, ty_NoneType_int, ty_NoneType_bool, ty_NoneType_str, ty_NoneType_list, ty_NoneType_tuple, ty_NoneType_dict, ty_int_int, ty_int_bool, ty_int_str, ty_int_list, ty_int_tuple, ty_int_dict, ty_bool_int, ty_bool_bool, ty_bool_str, ty_bool_list, ty_bool_tuple, ty_bool_dict, ty_str_int, ty_str_bool, ty_str_str, ty_str_list, ty_str_tuple, ty_str_dict, ty_tuple_int, ty_tuple_bool, ty_tuple_str, ty_tuple_list, ty_tuple_tuple, ty_tuple_dict, ty_list_int, ty_list_bool, ty_list_str, ty_list_list, ty_list_tuple, ty_list_dict, ty_dict_int, ty_dict_bool, ty_dict_str, ty_dict_list, ty_dict_tuple, ty_dict_dict, at_0, at_1, at_2, at_3, at_4, nat_0, nat_1, nat_2, nat_3, nat_4, nat_5, nat_6, at_end, at_end1, at_end2, at_end3, bools_t, all_t, Nat.reduceLT, Nat.reduceLeDiff, Int.reduceLT, Int.reduceLE, Int.reduceAdd, Int.reduceSub, Int.reduceMul, Int.reducePow, Int.reduceToNat, Int.reduceNeg, ifx_t, ifx_f, ifx_n, gx_ok, eqT_int, List.getElem?_cons_zero, List.getElem?_cons_succ, List.set_cons_zero, List.set_cons_succ, List.map_cons, List.map_nil, List.nil_append, List.cons_append, List.replicate_succ, List.replicate_zero, List.length_cons, List.length_nil, List.any_cons, List.any_nil, Nat.reduceAdd, Nat.reduceSub, Bool.or_false, Bool.or_true, Bool.false_or, Bool.true_or, Bool.not_true, Bool.not_false, Option.map_some, Option.bind_some, decide_true, decide_false, true_and, and_true, wipeL, ↓gg_KINDS, id]
      exact fun _ => trivial
    rintro h3 rfl
    have ef : ((ord1.map T.int).filter (fun x => match x with | .int i => decide (i < k) | _ => false)).map id = (ord1.filter fun i => decide (i < k)).map T.int := by
      rw [List.map_id, List.filter_map]
      rfl
    rw [ef]
    have ordk : ∀ x ∈ ord1.filter (fun i => decide (i < k)), 0 ≤ x ∧ x < k := fun x hx => by
      obtain ⟨a, b⟩ := List.mem_filter.mp hx
      exact ⟨(ok x a).1, of_decide_eq_true b⟩
    have ordl : (ord1.filter fun i => decide (i < k)).length ≤ 3 := by
      rw [← ol]
      exact List.length_filter_le _ _
    generalize ord1.filter (fun i => decide (i < k)) = ord at ordk ordl ⊢
    simp only [↓x_var, ↓x_int, ↓x_bl, ↓x_non, ↓x_str, ↓x_bin, ↓x_cmp, ↓x_idx, ↓x_neg, ↓x_not, ↓x_isN, ↓x_isnN, ↓x_rev, ↓x_sset, ↓x_isiT, ↓x_chn, ↓x_ite, ↓x_and, ↓x_or, ↓x_and1, ↓x_or1, ↓x_and2, ↓x_or2, ↓x_tup, ↓x_lst, ↓x_dic, ↓x_slc, ↓x_call, ↓x_callK, ↓x_blt, ↓x_mth, ↓x_rngL, ↓x_rngT, ↓x_comp, ↓x_enil, ↓x_econs, ↓x_kv0, ↓x_kv, ↓x_ono, ↓x_oso, ↓x_cno, ↓x_cso, ↓x_val, ↓x_rng1, ↓x_rng2, ↓x_enum, ↓x_gvar, ↓x_gtup, ↓x_gtupR, ↓x_gsub, ↓x_gnil, ↓x_gcons, ↓x_snil, ↓x_scons, ↓x_pass, ↓x_expr, ↓x_ret, ↓x_retN, ↓x_set, ↓x_aug, ↓x_augO, ↓x_augA, ↓x_augS, ↓x_iff, ↓x_for, ↓x_whl, ↓x_brk, ↓x_cnt, ↓x_seqN, ↓x_seqR, ↓x_seqB, ↓x_seqC, ↓x_finR, ↓x_finN, ↓x_lk, ↓x_negR, ↓x_notR, ↓x_cnd, ↓x_oiR, ↓x_opt, ↓x_ob, ↓x_r1, ↓x_r2, ↓x_valT, ↓x_valF, ↓x_lst', ↓x_dk', ↓x_valL, ↓x_enumL, ↓x_mthL, ↓x_mth_append, ↓x_mth_extend, ↓x_mth_pop, ↓x_mth_get, ↓x_newT, ↓x_newL, ↓x_dicR, ↓x_add, ↓x_sub, ↓x_mul, ↓x_fdiv, ↓x_mod, ↓x_pow, ↓x_tadd, ↓x_ladd, ↓x_lt, ↓x_le, ↓x_gt, ↓x_ge, ↓x_eq, ↓x_ne, ↓x_inn, ↓x_nin, ↓x_tix, ↓x_rix, ↓x_ixL, ↓x_ixD, ↓x_setD, ↓x_stD, ↓x_stL, ↓x_app, ↓x_if, ↓x_ext, ↓x_pop, ↓x_lenT, ↓x_lenR, ↓x_lenL, ↓x_listT, ↓x_listL, ↓x_tupL, ↓x_tupT, ↓x_sortT, ↓x_sortL, ↓x_all, ↓x_any, ↓x_sum, ↓x_max2, ↓x_min2, ↓x_toint, ↓x_repr, ↓x_rep, ↓x_slcT, ↓x_slcF, ↓x_slcL, ↓x_revL, ↓x_ssetL, ↓x_isi_int, ↓x_isi_bool, ↓x_isi_NoneType, ↓x_isi_str, ↓x_isi_tuple, ↓x_isi_list, ↓gx_bd, ↓gx_ok, ↓x_loopN, ↓x_loopC, ↓x_loopB, ↓x_loopR, ty_NoneType_int, ty_NoneType_bool, ty_NoneType_str, ty_NoneType_list, ty_NoneType_tuple, ty_NoneType_dict, ty_int_int, ty_int_bool, ty_int_str, ty_int_list, ty_int_tuple, ty_int_dict, ty_bool_int, ty_bool_bool, ty_bool_str, ty_bool_list, ty_bool_tuple, ty_bool_dict, ty_str_int, ty_str_bool, ty_str_str, ty_str_list, ty_str_tuple, ty_str_dict, ty_tuple_int, ty_tuple_bool, ty_tuple_str, ty_tuple_list, ty_tuple_tuple, ty_tuple_dict, ty_list_int, ty_list_bool, ty_list_str, ty_list_list, ty_list_tuple, ty_list_dict, ty_dict_int, ty_dict_bool, ty_dict_str, ty_dict_list, ty_dict_tuple, ty_dict_dict, at_0, at_1, at_2, at_3, at_4, nat_0, nat_1, nat_2, nat_3, nat_4, nat_5, nat_6, at_end, at_end1, at_end2, at_end3, bools_t, all_t, Nat.reduceLT, Nat.reduceLeDiff, Int.reduceLT, Int.reduceLE, Int.reduceAdd, Int.reduceSub, Int.reduceMul, Int.reducePow, Int.reduceToNat, Int.reduceNeg, ifx_t, ifx_f, ifx_n, gx_ok, eqT_int, List.getElem?_cons_zero, List.getElem?_cons_succ, List.set_cons_zero, List.set_cons_succ, List.map_cons, List.map_nil, List.nil_append, List.cons_append, List.replicate_succ, List.replicate_zero, List.length_cons, List.length_nil, List.any_cons, List.any_nil, Nat.reduceAdd, Nat.reduceSub, Bool.or_false, Bool.or_true, Bool.false_or, Bool.true_or, Bool.not_true, Bool.not_false, Option.map_some, Option.bind_some, decide_true, decide_false, true_and, and_true, wipeL, ↓gg_KINDS, rgOk_of (i := 0) (j := k) (by omega)]
    refine gx_comp (fun i a h4 => ∃ rs : List Nat, a = rs.map T.ref ∧ rs.length = i ∧ rs.Nodup ∧ (∀ b ∈ rs, h3.length < b ∧ b < h4.length ∧ h4[b]? = some (.lst [])) ∧ Keep [] (h3 ++ [O.lst (ord.map T.int)]) h4) ⟨[], rfl, rfl, List.nodup_nil, fun _ h => (by cases h), .refl⟩ (fun _ _ _ _ p hp => by simp at hp) ?_ ?_
    · rintro i x a h4 hx ⟨rs, rfl, q1, q2, q3, q4⟩
      obtain ⟨rfl, hi⟩ := range_get hx
      simp only [↓x_var, ↓x_int, ↓x_bl, ↓x_non, ↓x_str, ↓x_bin, ↓x_cmp, ↓x_idx, ↓x_neg, ↓x_not, ↓x_isN, ↓x_isnN, ↓x_rev, ↓x_sset, ↓x_isiT, ↓x_chn, ↓x_ite, ↓x_and, ↓x_or, ↓x_and1, ↓x_or1, ↓x_and2, ↓x_or2, ↓x_tup, ↓x_lst, ↓x_dic, ↓x_slc, ↓x_call, ↓x_callK, ↓x_blt, ↓x_mth, ↓x_rngL, ↓x_rngT, ↓x_comp, ↓x_enil, ↓x_econs, ↓x_kv0, ↓x_kv, ↓x_ono, ↓x_oso, ↓x_cno, ↓x_cso, ↓x_val, ↓x_rng1, ↓x_rng2, ↓x_enum, ↓x_gvar, ↓x_gtup, ↓x_gtupR, ↓x_gsub, ↓x_gnil, ↓x_gcons, ↓x_snil, ↓x_scons, ↓x_pass, ↓x_expr, ↓x_ret, ↓x_retN, ↓x_set, ↓x_aug, ↓x_augO, ↓x_augA, ↓x_augS, ↓x_iff, ↓x_for, ↓x_whl, ↓x_brk, ↓x_cnt, ↓x_seqN, ↓x_seqR, ↓x_seqB, ↓x_seqC, ↓x_finR, ↓x_finN, ↓x_lk, ↓x_negR, ↓x_notR, ↓x_cnd, ↓x_oiR, ↓x_opt, ↓x_ob, ↓x_r1, ↓x_r2, ↓x_valT, ↓x_valF, ↓x_lst', ↓x_dk', ↓x_valL, ↓x_enumL, ↓x_mthL, ↓x_mth_append, ↓x_mth_extend, ↓x_mth_pop, ↓x_mth_get, ↓x_newT, ↓x_newL, ↓x_dicR, ↓x_add, ↓x_sub, ↓x_mul, ↓x_fdiv, ↓x_mod, ↓x_pow, ↓x_tadd, ↓x_ladd, ↓x_lt, ↓x_le, ↓x_gt, ↓x_ge, ↓x_eq, ↓x_ne, ↓x_inn, ↓x_nin, ↓x_tix, ↓x_rix, ↓x_ixL, ↓x_ixD, ↓x_setD, ↓x_stD, ↓x_stL, ↓x_app, ↓x_if, ↓x_ext, ↓x_pop, ↓x_lenT, ↓x_lenR, ↓x_lenL, ↓x_listT, ↓x_listL, ↓x_tupL, ↓x_tupT, ↓x_sortT, ↓x_sortL, ↓x_all, ↓x_any, ↓x_sum, ↓x_max2, ↓x_min2, ↓x_toint, ↓x_repr, ↓x_rep, ↓x_slcT, ↓x_slcF, ↓x_slcL, ↓x_revL, ↓x_ssetL, ↓x_isi_int, ↓x_isi_bool, ↓x_isi_NoneType, ↓x_isi_str, ↓x_isi_tuple, ↓x_isi_list, ↓gx_bd, ↓gx_ok, ↓x_loopN, ↓x_loopC, ↓x_loopB, ↓x_loopR, ty_NoneType_int, ty_NoneType_bool, ty_NoneType_str, ty_NoneType_list, ty_NoneType_tuple, ty_NoneType_dict, ty_int_int, ty_int_bool, ty_int_str, ty_int_list, ty_int_tuple, ty_int_dict, ty_bool_int, ty_bool_bool, ty_bool_str, ty_bool_list, ty_bool_tuple, ty_bool_dict, ty_str_int, ty_str_bool, ty_str_str, ty_str_list, ty_str_tuple, ty_str_dict, ty_tuple_int, ty_tuple_bool, ty_tuple_str, ty_tuple_list, ty_tuple_tuple, ty_tuple_dict, ty_list_int, ty_list_bool, ty_list_str, ty_list_list, ty_list_tuple, ty_list_dict, ty_dict_int, ty_dict_bool, ty_dict_str, ty_dict_list, ty_dict_tuple, ty_dict_dict, at_0, at_1, at_2, at_3, at_4, nat_0, nat_1, nat_2, nat_3, nat_4, nat_5, nat_6, at_end, at_end1, at_end2, at_end3, bools_t, all_t, Nat.reduceLT, Nat.reduceLeDiff, Int.reduceLT, Int.reduceLE, Int.reduceAdd, Int.reduceSub, Int.reduceMul, Int.reducePow, Int.reduceToNat, Int.reduceNeg, ifx_t, ifx_f, ifx_n, gx_ok, eqT_int, List.getElem?_cons_zero, List.getElem?_cons_succ, List.set_cons_zero, List.set_cons_succ, List.map_cons, List.map_nil, List.nil_append, List.cons_append, List.replicate_succ, List.replicate_zero, List.length_cons, List.length_nil, List.any_cons, List.any_nil, Nat.reduceAdd, Nat.reduceSub, Bool.or_false, Bool.or_true, Bool.false_or, Bool.true_or, Bool.not_true, Bool.not_false, Option.map_some, Option.bind_some, decide_true, decide_false, true_and, and_true, wipeL, ↓gg_KINDS, Nat.zero_le, List.length_map]
      have l4 := q4.le
      simp at l4
      refine ⟨by omega, rs ++ [h4.length], by rw [List.map_append]; rfl, by rw [List.length_append, q1]; rfl, List.nodup_append.mpr ⟨q2, by simp, fun a ha b hb z => ?_⟩, fun b hb => ?_, q4.trans (.app _)⟩
      · rw [List.mem_singleton.mp hb] at z
        have := (q3 a ha).2.1
        omega
      · rcases List.mem_append.mp hb with z | z
        · obtain ⟨u1, u2, u3⟩ := q3 b z
          exact ⟨u1, by simp; omega, at_old u3⟩
        · rw [List.mem_singleton.mp z]
          exact ⟨by omega, by simp, at_end⟩
    rintro a h4 ⟨rs, rfl, q1, q2, q3, q4⟩
    rw [range_len] at q1
    have l4 := q4.le
    simp at l4
    have ho : (h4 ++ [O.lst (rs.map T.ref)])[h3.length]? = some (.lst (ord.map T.int)) := at_old (q4.lst (by simp) at_end)
    have F : Fix h1 r c k h3.length h3.length h4.length ord ord rs :=
      ⟨d1.r_lt, d1.c_lt, le2, le2, by omega, fun a ha => by have := q3 a ha; omega, fun hm => by have := q3 _ hm; omega, fun hm => by have := q3 _ hm; omega, fun hm => by have := q3 _ hm; omega, ordk, ordk, ordl, ordl, by omega⟩
    have I0 : Inv h1 r c k h3.length h3.length h4.length ord ord rs 0 (h4 ++ [O.lst (rs.map T.ref)]) :=
      ⟨d2.keep (((Keep.app _).trans q4).trans (.app _)), (((((((Keep.app _).trans (.app _)).trans (.app _)).trans (.app _)).trans (.app _)).trans k2)).trans (((Keep.app _).trans q4.nil).trans (.app _)), ho, ho, at_end, fun a ha => ⟨[], at_old (q3 a ha).2.2, fun _ h => (by cases h), Nat.zero_le _⟩⟩
    simp only [↓x_var, ↓x_int, ↓x_bl, ↓x_non, ↓x_str, ↓x_bin, ↓x_cmp, ↓x_idx, ↓x_neg, ↓x_not, ↓x_isN, ↓x_isnN, ↓x_rev, ↓x_sset, ↓x_isiT, ↓x_chn, ↓x_ite, ↓x_and, ↓x_or, ↓x_and1, ↓x_or1, ↓x_and2, ↓x_or2, ↓x_tup, ↓x_lst, ↓x_dic, ↓x_slc, ↓x_call, ↓x_callK, ↓x_blt, ↓x_mth, ↓x_rngL, ↓x_rngT, ↓x_comp, ↓x_enil, ↓x_econs, ↓x_kv0, ↓x_kv, ↓x_ono, ↓x_oso, ↓x_cno, ↓x_cso, ↓x_val, ↓x_rng1, ↓x_rng2, ↓x_enum, ↓x_gvar, ↓x_gtup, ↓x_gtupR, ↓x_gsub, ↓x_gnil, ↓x_gcons, ↓x_snil, ↓x_scons, ↓x_pass, ↓x_expr, ↓x_ret, ↓x_retN, ↓x_set, ↓x_aug, ↓x_augO, ↓x_augA, ↓x_augS, ↓x_iff, ↓x_for, ↓x_whl, ↓x_brk, ↓x_cnt, ↓x_seqN, ↓x_seqR, ↓x_seqB, ↓x_seqC, ↓x_finR, ↓x_finN, ↓x_lk, ↓x_negR, ↓x_notR, ↓x_cnd, ↓x_oiR, ↓x_opt, ↓x_ob, ↓x_r1, ↓x_r2, ↓x_valT, ↓x_valF, ↓x_lst', ↓x_dk', ↓x_valL, ↓x_enumL, ↓x_mthL, ↓x_mth_append, ↓x_mth_extend, ↓x_mth_pop, ↓x_mth_get, ↓x_newT, ↓x_newL, ↓x_dicR, ↓x_add, ↓x_sub, ↓x_mul, ↓x_fdiv, ↓x_mod, ↓x_pow, ↓x_tadd, ↓x_ladd, ↓x_lt, ↓x_le, ↓x_gt, ↓x_ge, ↓x_eq, ↓x_ne, ↓x_inn, ↓x_nin, ↓x_tix, ↓x_rix, ↓x_ixL, ↓x_ixD, ↓x_setD, ↓x_stD, ↓x_stL, ↓x_app, ↓x_if, ↓x_ext, ↓x_pop, ↓x_lenT, ↓x_lenR, ↓x_lenL, ↓x_listT, ↓x_listL, ↓x_tupL, ↓x_tupT, ↓x_sortT, ↓x_sortL, ↓x_all, ↓x_any, ↓x_sum, ↓x_max2, ↓x_min2, ↓x_toint, ↓x_repr, ↓x_rep, ↓x_slcT, ↓x_slcF, ↓x_slcL, ↓x_revL, ↓x_ssetL, ↓x_isi_int, ↓x_isi_bool, ↓x_isi_NoneType, ↓x_isi_str, ↓x_isi_tuple, ↓x_isi_list, ↓gx_bd, ↓gx_ok, ↓x_loopN, ↓x_loopC, ↓x_loopB, ↓x_loopR, ty_NoneType_int, ty_NoneType_bool, ty_NoneType_str, ty_NoneType_list, ty_NoneType_tuple, ty_NoneType_dict, ty_int_int, ty_int_bool, ty_int_str, ty_int_list, ty_int_tuple, ty_int_dict, ty_bool_int, ty_bool_bool, ty_bool_str, ty_bool_list, ty_bool_tuple, ty_bool_dict, ty_str_int, ty_str_bool, ty_str_str, ty_str_list, ty_str_tuple, ty_str_dict, ty_tuple_int, ty_tuple_bool, ty_tuple_str, ty_tuple_list, ty_tuple_tuple, ty_tuple_dict, ty_list_int, ty_list_bool, ty_list_str, ty_list_list, ty_list_tuple, ty_list_dict, ty_dict_int, ty_dict_bool, ty_dict_str, ty_dict_list, ty_dict_tuple, ty_dict_dict, at_0, at_1, at_2, at_3, at_4, nat_0, nat_1, nat_2, nat_3, nat_4, nat_5, nat_6, at_end, at_end1, at_end2, at_end3, bools_t, all_t, Nat.reduceLT, Nat.reduceLeDiff, Int.reduceLT, Int.reduceLE, Int.reduceAdd, Int.reduceSub, Int.reduceMul, Int.reducePow, Int.reduceToNat, Int.reduceNeg, ifx_t, ifx_f, ifx_n, gx_ok, eqT_int, List.getElem?_cons_zero, List.getElem?_cons_succ, List.set_cons_zero, List.set_cons_succ, List.map_cons, List.map_nil, List.nil_append, List.cons_append, List.replicate_succ, List.replicate_zero, List.length_cons, List.length_nil, List.any_cons, List.any_nil, Nat.reduceAdd, Nat.reduceSub, Bool.or_false, Bool.or_true, Bool.false_or, Bool.true_or, Bool.not_true, Bool.not_false, Option.map_some, Option.bind_some, decide_true, decide_false, true_and, and_true, wipeL, ↓gg_KINDS, Nat.reduceLeDiff, show (2 : Nat) ≤ 16777216 by decide, ho]
    refine gx_for (fun i l h5 => ∃ a b d e, l = [some (.ref r), some (.int k), some (.int way), some (.ref h3.length), some (.ref h4.length), a, b, d, e, none, none] ∧ Inv h1 r c k h3.length h3.length h4.length ord ord rs (10 * i) h5) ⟨_, _, _, _, rfl, I0⟩ ?_ ?_ ?_
    · rintro i l h5 ⟨a, b, d, e, rfl, I⟩ p hp
      rw [List.mem_singleton.mp hp]
      show mutL _ _ = _
      unfold mutL
      rw [I.ho]
    · rintro i y l h5 hy ⟨a0, b0, d0, e0, rfl, I⟩
      obtain ⟨x, hx, rfl⟩ := enumT_get _ _ _ _ hy
      rw [List.getElem?_map] at hx
      obtain ⟨cc, hcc, rfl⟩ := Option.map_eq_some_iff.mp hx
      have il := (List.getElem?_eq_some_iff.mp hcc).1
      have ck := ordk cc (List.mem_of_getElem? hcc)
      have cl : cc.toNat < rs.length := by omega
      have am : rs[cc.toNat] ∈ rs := List.getElem_mem cl
      have ea : atI (rs.map T.ref) cc = some (.ref rs[cc.toNat]) := atI_some (j := cc.toNat) (by omega) (by rw [List.getElem?_map, List.getElem?_eq_getElem cl]; rfl)
      generalize rs[cc.toNat] = a at am ea
      have latk : ∀ z ∈ cutT ord (some (((0 + i : Nat) : Int) + 1)) none, 0 ≤ z ∧ z < k := fun z hz => ordk z (List.mem_of_mem_drop (List.mem_of_mem_take hz))
      have latl := cutT_len ord (some (((0 + i : Nat) : Int) + 1)) none
      -- the row, what comes later
      refine gx_mono (Q := fun l1 h6 => l1 = [some (.ref r), some (.int k), some (.int way), some (.ref h3.length), some (.ref h4.length), some (.int ((0 + i : Nat) : Int)), some (.int cc), d0, e0, none, none] ∧ h5 = h6) (by simp only [↓x_var, ↓x_int, ↓x_bl, ↓x_non, ↓x_str, ↓x_bin, ↓x_cmp, ↓x_idx, ↓x_neg, ↓x_not, ↓x_isN, ↓x_isnN, ↓x_rev, ↓x_sset, ↓x_isiT, ↓x_chn, ↓x_ite, ↓x_and, ↓x_or, ↓x_and1, ↓x_or1, ↓x_and2, ↓x_or2, ↓x_tup, ↓x_lst, ↓x_dic, ↓x_slc, ↓x_call, ↓x_callK, ↓x_blt, ↓x_mth, ↓x_rngL, ↓x_rngT, ↓x_comp, ↓x_enil, ↓x_econs, ↓x_kv0, ↓x_kv, ↓x_ono, ↓x_oso, ↓x_cno, ↓x_cso, ↓x_val, ↓x_rng1, ↓x_rng2, ↓x_enum, ↓x_gvar, ↓x_gtup, ↓x_gtupR, ↓x_gsub, ↓x_gnil, ↓x_gcons, ↓x_snil, ↓x_scons, ↓x_pass, ↓x_expr, ↓x_ret, ↓x_retN, ↓x_set, ↓x_aug, ↓x_augO, ↓x_augA, ↓x_augS, ↓x_iff, ↓x_for, ↓x_whl, ↓x_brk, ↓x_cnt, ↓x_seqN, ↓x_seqR, ↓x_seqB, ↓x_seqC, ↓x_finR, ↓x_finN, ↓x_lk, ↓x_negR, ↓x_notR, ↓x_cnd, ↓x_oiR, ↓x_opt, ↓x_ob, ↓x_r1, ↓x_r2, ↓x_valT, ↓x_valF, ↓x_lst', ↓x_dk', ↓x_valL, ↓x_enumL, ↓x_mthL, ↓x_mth_append, ↓x_mth_extend, ↓x_mth_pop, ↓x_mth_get, ↓x_newT, ↓x_newL, ↓x_dicR, ↓x_add, ↓x_sub, ↓x_mul, ↓x_fdiv, ↓x_mod, ↓x_pow, ↓x_tadd, ↓x_ladd, ↓x_lt, ↓x_le, ↓x_gt, ↓x_ge, ↓x_eq, ↓x_ne, ↓x_inn, ↓x_nin, ↓x_tix, ↓x_rix, ↓x_ixL, ↓x_ixD, ↓x_setD, ↓x_stD, ↓x_stL, ↓x_app, ↓x_if, ↓x_ext, ↓x_pop, ↓x_lenT, ↓x_lenR, ↓x_lenL, ↓x_listT, ↓x_listL, ↓x_tupL, ↓x_tupT, ↓x_sortT, ↓x_sortL, ↓x_all, ↓x_any, ↓x_sum, ↓x_max2, ↓x_min2, ↓x_toint, ↓x_repr, ↓x_rep, ↓x_slcT, ↓x_slcF, ↓x_slcL, ↓x_revL, ↓x_ssetL, ↓x_isi_int, ↓x_isi_bool, ↓x_isi_NoneType, ↓x_isi_str, ↓x_isi_tuple, ↓x_isi_list, ↓gx_bd, ↓gx_ok, ↓x_loopN, ↓x_loopC, ↓x_loopB, ↓x_loopR, ty_NoneType_int, ty_NoneType_bool, ty_NoneType_str, ty_NoneType_list, ty_NoneType_tuple, ty_NoneType_dict, ty_int_int, ty_int_bool, ty_int_str, ty_int_list, ty_int_tuple, ty_int_dict, ty_bool_int, ty_bool_bool, ty_bool_str, ty_bool_list, ty_bool_tuple, ty_bool_dict, ty_str_int, ty_str_bool, ty_str_str, ty_str_list, ty_str_tuple, ty_str_dict, ty_tuple_int, ty_tuple_bool, ty_tuple_str, ty_tuple_list, ty_tuple_tuple, ty_tuple_dict, ty_list_int, ty_list_bool, ty_list_str, ty_list_list, ty_list_tuple, ty_list_dict, ty_dict_int, ty_dict_bool, ty_dict_str, ty_dict_list, ty_dict_tuple, ty_dict_dict, at_0, at_1, at_2, at_3, at_4, nat_0, nat_1, nat_2, nat_3, nat_4, nat_5, nat_6, at_end, at_end1, at_end2, at_end3, bools_t, all_t, Nat.reduceLT, Nat.reduceLeDiff, Int.reduceLT, Int.reduceLE, Int.reduceAdd, Int.reduceSub, Int.reduceMul, Int.reducePow, Int.reduceToNat, Int.reduceNeg, ifx_t, ifx_f, ifx_n, gx_ok, eqT_int, List.getElem?_cons_zero, List.getElem?_cons_succ, List.set_cons_zero, List.set_cons_succ, List.map_cons, List.map_nil, List.nil_append, List.cons_append, List.replicate_succ, List.replicate_zero, List.length_cons, List.length_nil, List.any_cons, List.any_nil, Nat.reduceAdd, Nat.reduceSub, Bool.or_false, Bool.or_true, Bool.false_or, Bool.true_or, Bool.not_true, Bool.not_false, Option.map_some, Option.bind_some, decide_true, decide_false, true_and, and_true, wipeL, ↓gg_KINDS]) ?_
      rintro l1 h6 ⟨rfl, rfl⟩
      rw [x_scons]
      refine gx_mono (Q := fun p h6 => p = (.nx, [some (.ref r), some (.int k), some (.int way), some (.ref h3.length), some (.ref h4.length), some (.int ((0 + i : Nat) : Int)), some (.int cc), some (.ref a), e0, none, none]) ∧ h5 = h6) (by simp only [↓x_var, ↓x_int, ↓x_bl, ↓x_non, ↓x_str, ↓x_bin, ↓x_cmp, ↓x_idx, ↓x_neg, ↓x_not, ↓x_isN, ↓x_isnN, ↓x_rev, ↓x_sset, ↓x_isiT, ↓x_chn, ↓x_ite, ↓x_and, ↓x_or, ↓x_and1, ↓x_or1, ↓x_and2, ↓x_or2, ↓x_tup, ↓x_lst, ↓x_dic, ↓x_slc, ↓x_call, ↓x_callK, ↓x_blt, ↓x_mth, ↓x_rngL, ↓x_rngT, ↓x_comp, ↓x_enil, ↓x_econs, ↓x_kv0, ↓x_kv, ↓x_ono, ↓x_oso, ↓x_cno, ↓x_cso, ↓x_val, ↓x_rng1, ↓x_rng2, ↓x_enum, ↓x_gvar, ↓x_gtup, ↓x_gtupR, ↓x_gsub, ↓x_gnil, ↓x_gcons, ↓x_snil, ↓x_scons, ↓x_pass, ↓x_expr, ↓x_ret, ↓x_retN, ↓x_set, ↓x_aug, ↓x_augO, ↓x_augA, ↓x_augS, ↓x_iff, ↓x_for, ↓x_whl, ↓x_brk, ↓x_cnt, ↓x_seqN, ↓x_seqR, ↓x_seqB, ↓x_seqC, ↓x_finR, ↓x_finN, ↓x_lk, ↓x_negR, ↓x_notR, ↓x_cnd, ↓x_oiR, ↓x_opt, ↓x_ob, ↓x_r1, ↓x_r2, ↓x_valT, ↓x_valF, ↓x_lst', ↓x_dk', ↓x_valL, ↓x_enumL, ↓x_mthL, ↓x_mth_append, ↓x_mth_extend, ↓x_mth_pop, ↓x_mth_get, ↓x_newT, ↓x_newL, ↓x_dicR, ↓x_add, ↓x_sub, ↓x_mul, ↓x_fdiv, ↓x_mod, ↓x_pow, ↓x_tadd, ↓x_ladd, ↓x_lt, ↓x_le, ↓x_gt, ↓x_ge, ↓x_eq, ↓x_ne, ↓x_inn, ↓x_nin, ↓x_tix, ↓x_rix, ↓x_ixL, ↓x_ixD, ↓x_setD, ↓x_stD, ↓x_stL, ↓x_app, ↓x_if, ↓x_ext, ↓x_pop, ↓x_lenT, ↓x_lenR, ↓x_lenL, ↓x_listT, ↓x_listL, ↓x_tupL, ↓x_tupT, ↓x_sortT, ↓x_sortL, ↓x_all, ↓x_any, ↓x_sum, ↓x_max2, ↓x_min2, ↓x_toint, ↓x_repr, ↓x_rep, ↓x_slcT, ↓x_slcF, ↓x_slcL, ↓x_revL, ↓x_ssetL, ↓x_isi_int, ↓x_isi_bool, ↓x_isi_NoneType, ↓x_isi_str, ↓x_isi_tuple, ↓x_isi_list, ↓gx_bd, ↓gx_ok, ↓x_loopN, ↓x_loopC, ↓x_loopB, ↓x_loopR, ty_NoneType_int, ty_NoneType_bool, ty_NoneType_str, ty_NoneType_list, ty_NoneType_tuple, ty_NoneType_dict, ty_int_int, ty_int_bool, ty_int_str, ty_int_list, ty_int_tuple, ty_int_dict, ty_bool_int, ty_bool_bool, ty_bool_str, ty_bool_list, ty_bool_tuple, ty_bool_dict, ty_str_int, ty_str_bool, ty_str_str, ty_str_list, ty_str_tuple, ty_str_dict, ty_tuple_int, ty_tuple_bool, ty_tuple_str, ty_tuple_list, ty_tuple_tuple, ty_tuple_dict, ty_list_int, ty_list_bool, ty_list_str, ty_list_list, ty_list_tuple, ty_list_dict, ty_dict_int, ty_dict_bool, ty_dict_str, ty_dict_list, ty_dict_tuple, ty_dict_dict, at_0, at_1, at_2, at_3, at_4, nat_0, nat_1, nat_2, nat_3, nat_4, nat_5, nat_6, at_end, at_end1, at_end2, at_end3, bools_t, all_t, Nat.reduceLT, Nat.reduceLeDiff, Int.reduceLT, Int.reduceLE, Int.reduceAdd, Int.reduceSub, Int.reduceMul, Int.reducePow, Int.reduceToNat, Int.reduceNeg, ifx_t, ifx_f, ifx_n, gx_ok, eqT_int, List.getElem?_cons_zero, List.getElem?_cons_succ, List.set_cons_zero, List.set_cons_succ, List.map_cons, List.map_nil, List.nil_append, List.cons_append, List.replicate_succ, List.replicate_zero, List.length_cons, List.length_nil, List.any_cons, List.any_nil, Nat.reduceAdd, Nat.reduceSub, Bool.or_false, Bool.or_true, Bool.false_or, Bool.true_or, Bool.not_true, Bool.not_false, Option.map_some, Option.bind_some, decide_true, decide_false, true_and, and_true, wipeL, ↓gg_KINDS, I.hf, ea]) ?_
      rintro p h6 ⟨rfl, rfl⟩
      rw [x_seqN, x_scons]
      generalize hlat : cutT ord (some (((0 + i : Nat) : Int) + 1)) none = lat at latk latl
      refine gx_mono (Q := fun p h6 => p = (.nx, [some (.ref r), some (.int k), some (.int way), some (.ref h3.length), some (.ref h4.length), some (.int ((0 + i : Nat) : Int)), some (.int cc), some (.ref a), some (.ref h5.length), none, none]) ∧ h6 = h5 ++ [.lst (lat.map T.int)]) (by simp only [↓x_var, ↓x_int, ↓x_bl, ↓x_non, ↓x_str, ↓x_bin, ↓x_cmp, ↓x_idx, ↓x_neg, ↓x_not, ↓x_isN, ↓x_isnN, ↓x_rev, ↓x_sset, ↓x_isiT, ↓x_chn, ↓x_ite, ↓x_and, ↓x_or, ↓x_and1, ↓x_or1, ↓x_and2, ↓x_or2, ↓x_tup, ↓x_lst, ↓x_dic, ↓x_slc, ↓x_call, ↓x_callK, ↓x_blt, ↓x_mth, ↓x_rngL, ↓x_rngT, ↓x_comp, ↓x_enil, ↓x_econs, ↓x_kv0, ↓x_kv, ↓x_ono, ↓x_oso, ↓x_cno, ↓x_cso, ↓x_val, ↓x_rng1, ↓x_rng2, ↓x_enum, ↓x_gvar, ↓x_gtup, ↓x_gtupR, ↓x_gsub, ↓x_gnil, ↓x_gcons, ↓x_snil, ↓x_scons, ↓x_pass, ↓x_expr, ↓x_ret, ↓x_retN, ↓x_set, ↓x_aug, ↓x_augO, ↓x_augA, ↓x_augS, ↓x_iff, ↓x_for, ↓x_whl, ↓x_brk, ↓x_cnt, ↓x_seqN, ↓x_seqR, ↓x_seqB, ↓x_seqC, ↓x_finR, ↓x_finN, ↓x_lk, ↓x_negR, ↓x_notR, ↓x_cnd, ↓x_oiR, ↓x_opt, ↓x_ob, ↓x_r1, ↓x_r2, ↓x_valT, ↓x_valF, ↓x_lst', ↓x_dk', ↓x_valL, ↓x_enumL, ↓x_mthL, ↓x_mth_append, ↓x_mth_extend, ↓x_mth_pop, ↓x_mth_get, ↓x_newT, ↓x_newL, ↓x_dicR, ↓x_add, ↓x_sub, ↓x_mul, ↓x_fdiv, ↓x_mod, ↓x_pow, ↓x_tadd, ↓x_ladd, ↓x_lt, ↓x_le, ↓x_gt, ↓x_ge, ↓x_eq, ↓x_ne, ↓x_inn, ↓x_nin, ↓x_tix, ↓x_rix, ↓x_ixL, ↓x_ixD, ↓x_setD, ↓x_stD, ↓x_stL, ↓x_app, ↓x_if, ↓x_ext, ↓x_pop, ↓x_lenT, ↓x_lenR, ↓x_lenL, ↓x_listT, ↓x_listL, ↓x_tupL, ↓x_tupT, ↓x_sortT, ↓x_sortL, ↓x_all, ↓x_any, ↓x_sum, ↓x_max2, ↓x_min2, ↓x_toint, ↓x_repr, ↓x_rep, ↓x_slcT, ↓x_slcF, ↓x_slcL, ↓x_revL, ↓x_ssetL, ↓x_isi_int, ↓x_isi_bool, ↓x_isi_NoneType, ↓x_isi_str, ↓x_isi_tuple, ↓x_isi_list, ↓gx_bd, ↓gx_ok, ↓x_loopN, ↓x_loopC, ↓x_loopB, ↓x_loopR, ty_NoneType_int, ty_NoneType_bool, ty_NoneType_str, ty_NoneType_list, ty_NoneType_tuple, ty_NoneType_dict, ty_int_int, ty_int_bool, ty_int_str, ty_int_list, ty_int_tuple, ty_int_dict, ty_bool_int, ty_bool_bool, ty_bool_str, ty_bool_list, ty_bool_tuple, ty_bool_dict, ty_str_int, ty_str_bool, ty_str_str, ty_str_list, ty_str_tuple, ty_str_dict, ty_tuple_int, ty_tuple_bool, ty_tuple_str, ty_tuple_list, ty_tuple_tuple, ty_tuple_dict, ty_list_int, ty_list_bool, ty_list_str, ty_list_list, ty_list_tuple, ty_list_dict, ty_dict_int, ty_dict_bool, ty_dict_str, ty_dict_list, ty_dict_tuple, ty_dict_dict, at_0, at_1, at_2, at_3, at_4, nat_0, nat_1, nat_2, nat_3, nat_4, nat_5, nat_6, at_end, at_end1, at_end2, at_end3, bools_t, all_t, Nat.reduceLT, Nat.reduceLeDiff, Int.reduceLT, Int.reduceLE, Int.reduceAdd, Int.reduceSub, Int.reduceMul, Int.reducePow, Int.reduceToNat, Int.reduceNeg, ifx_t, ifx_f, ifx_n, gx_ok, eqT_int, List.getElem?_cons_zero, List.getElem?_cons_succ, List.set_cons_zero, List.set_cons_succ, List.map_cons, List.map_nil, List.nil_append, List.cons_append, List.replicate_succ, List.replicate_zero, List.length_cons, List.length_nil, List.any_cons, List.any_nil, Nat.reduceAdd, Nat.reduceSub, Bool.or_false, Bool.or_true, Bool.false_or, Bool.true_or, Bool.not_true, Bool.not_false, Option.map_some, Option.bind_some, decide_true, decide_false, true_and, and_true, wipeL, ↓gg_KINDS, I.ho, cutT_map, hlat, List.length_map, show lat.length ≤ 16777216 by omega]) ?_
      rintro p h6 ⟨rfl, rfl⟩
      rw [x_seqN, x_scons]
      have l5 : h1.length ≤ h5.length := I.kp.le
      have nl : ∀ b ∈ rs, b < h5.length := fun b hb => by
        obtain ⟨row, w1, _⟩ := I.row b hb
        exact lt_of_at w1
      have F2 : Fix h1 r c k h3.length h5.length h4.length ord lat rs := ⟨F.r0, F.c0, F.o0, l5, F.f0, F.rs0, F.no, fun hm => by have := nl _ hm; omega, F.nf, F.ordk, latk, F.ordl, by omega, F.rsl⟩
      have I2 : Inv h1 r c k h3.length h5.length h4.length ord lat rs (10 * i) (h5 ++ [.lst (lat.map T.int)]) := ⟨I.d.keep (.app _), I.kp.trans (.app _), at_old I.ho, at_end, at_old I.hf, fun b hb => by
        obtain ⟨row, w1, w2⟩ := I.row b hb
        exact ⟨row, at_old w1, w2⟩⟩
      generalize h5.length = lt at F2 I2 ⊢
      generalize h5 ++ [O.lst (lat.map T.int)] = h7 at I2 ⊢
      -- the first if
      refine gx_mono (Q := fun p h6 => p = (.nx, [some (.ref r), some (.int k), some (.int way), some (.ref h3.length), some (.ref h4.length), some (.int ((0 + i : Nat) : Int)), some (.int cc), some (.ref a), some (.ref lt), none, none]) ∧ Inv h1 r c k h3.length lt h4.length ord lat rs (10 * i + 3) h6) ?_ ?_
      · by_cases hw2 : way < 2
        · obtain ⟨row, w1, w2, w3⟩ := I2.row a am
          obtain ⟨h8, v, e8, hv, d8, k8⟩ := draw (n := n + 1) (h := h7) (b := 4) I2.d (by omega)
          have I3 := I2.keep F2 k8 d8
          have w4 := k8.lstS (F2.out (F2.rs0 a am)) w1
          simp only [↓x_var, ↓x_int, ↓x_bl, ↓x_non, ↓x_str, ↓x_bin, ↓x_cmp, ↓x_idx, ↓x_neg, ↓x_not, ↓x_isN, ↓x_isnN, ↓x_rev, ↓x_sset, ↓x_isiT, ↓x_chn, ↓x_ite, ↓x_and, ↓x_or, ↓x_and1, ↓x_or1, ↓x_and2, ↓x_or2, ↓x_tup, ↓x_lst, ↓x_dic, ↓x_slc, ↓x_call, ↓x_callK, ↓x_blt, ↓x_mth, ↓x_rngL, ↓x_rngT, ↓x_comp, ↓x_enil, ↓x_econs, ↓x_kv0, ↓x_kv, ↓x_ono, ↓x_oso, ↓x_cno, ↓x_cso, ↓x_val, ↓x_rng1, ↓x_rng2, ↓x_enum, ↓x_gvar, ↓x_gtup, ↓x_gtupR, ↓x_gsub, ↓x_gnil, ↓x_gcons, ↓x_snil, ↓x_scons, ↓x_pass, ↓x_expr, ↓x_ret, ↓x_retN, ↓x_set, ↓x_aug, ↓x_augO, ↓x_augA, ↓x_augS, ↓x_iff, ↓x_for, ↓x_whl, ↓x_brk, ↓x_cnt, ↓x_seqN, ↓x_seqR, ↓x_seqB, ↓x_seqC, ↓x_finR, ↓x_finN, ↓x_lk, ↓x_negR, ↓x_notR, ↓x_cnd, ↓x_oiR, ↓x_opt, ↓x_ob, ↓x_r1, ↓x_r2, ↓x_valT, ↓x_valF, ↓x_lst', ↓x_dk', ↓x_valL, ↓x_enumL, ↓x_mthL, ↓x_mth_append, ↓x_mth_extend, ↓x_mth_pop, ↓x_mth_get, ↓x_newT, ↓x_newL, ↓x_dicR, ↓x_add, ↓x_sub, ↓x_mul, ↓x_fdiv, ↓x_mod, ↓x_pow, ↓x_tadd, ↓x_ladd, ↓x_lt, ↓x_le, ↓x_gt, ↓x_ge, ↓x_eq, ↓x_ne, ↓x_inn, ↓x_nin, ↓x_tix, ↓x_rix, ↓x_ixL, ↓x_ixD, ↓x_setD, ↓x_stD, ↓x_stL, ↓x_app, ↓x_if, ↓x_ext, ↓x_pop, ↓x_lenT, ↓x_lenR, ↓x_lenL, ↓x_listT, ↓x_listL, ↓x_tupL, ↓x_tupT, ↓x_sortT, ↓x_sortL, ↓x_all, ↓x_any, ↓x_sum, ↓x_max2, ↓x_min2, ↓x_toint, ↓x_repr, ↓x_rep, ↓x_slcT, ↓x_slcF, ↓x_slcL, ↓x_revL, ↓x_ssetL, ↓x_isi_int, ↓x_isi_bool, ↓x_isi_NoneType, ↓x_isi_str, ↓x_isi_tuple, ↓x_isi_list, ↓gx_bd, ↓gx_ok, ↓x_loopN, ↓x_loopC, ↓x_loopB, ↓x_loopR, ty_NoneType_int, ty_NoneType_bool, ty_NoneType_str, ty_NoneType_list, ty_NoneType_tuple, ty_NoneType_dict, ty_int_int, ty_int_bool, ty_int_str, ty_int_list, ty_int_tuple, ty_int_dict, ty_bool_int, ty_bool_bool, ty_bool_str, ty_bool_list, ty_bool_tuple, ty_bool_dict, ty_str_int, ty_str_bool, ty_str_str, ty_str_list, ty_str_tuple, ty_str_dict, ty_tuple_int, ty_tuple_bool, ty_tuple_str, ty_tuple_list, ty_tuple_tuple, ty_tuple_dict, ty_list_int, ty_list_bool, ty_list_str, ty_list_list, ty_list_tuple, ty_list_dict, ty_dict_int, ty_dict_bool, ty_dict_str, ty_dict_list, ty_dict_tuple, ty_dict_dict, at_0, at_1, at_2, at_3, at_4, nat_0, nat_1, nat_2, nat_3, nat_4, nat_5, nat_6, at_end, at_end1, at_end2, at_end3, bools_t, all_t, Nat.reduceLT, Nat.reduceLeDiff, Int.reduceLT, Int.reduceLE, Int.reduceAdd, Int.reduceSub, Int.reduceMul, Int.reducePow, Int.reduceToNat, Int.reduceNeg, ifx_t, ifx_f, ifx_n, gx_ok, eqT_int, List.getElem?_cons_zero, List.getElem?_cons_succ, List.set_cons_zero, List.set_cons_succ, List.map_cons, List.map_nil, List.nil_append, List.cons_append, List.replicate_succ, List.replicate_zero, List.length_cons, List.length_nil, List.any_cons, List.any_nil, Nat.reduceAdd, Nat.reduceSub, Bool.or_false, Bool.or_true, Bool.false_or, Bool.true_or, Bool.not_true, Bool.not_false, Option.map_some, Option.bind_some, decide_true, decide_false, true_and, and_true, wipeL, ↓gg_KINDS, hw2, w1, e8, rgOk_of (i := 0) (j := v) (by omega)]
          refine comp_draw d8 hk (by omega) rfl rfl (by decide) (show (10 : Nat) < 11 by decide) ?_
          intro h9 ys y1 y2 d9 k9
          have I4 := I3.keep F2 k9 d9
          have w5 := k9.lstS (F2.out (F2.rs0 a am)) w4
          simp only [↓x_var, ↓x_int, ↓x_bl, ↓x_non, ↓x_str, ↓x_bin, ↓x_cmp, ↓x_idx, ↓x_neg, ↓x_not, ↓x_isN, ↓x_isnN, ↓x_rev, ↓x_sset, ↓x_isiT, ↓x_chn, ↓x_ite, ↓x_and, ↓x_or, ↓x_and1, ↓x_or1, ↓x_and2, ↓x_or2, ↓x_tup, ↓x_lst, ↓x_dic, ↓x_slc, ↓x_call, ↓x_callK, ↓x_blt, ↓x_mth, ↓x_rngL, ↓x_rngT, ↓x_comp, ↓x_enil, ↓x_econs, ↓x_kv0, ↓x_kv, ↓x_ono, ↓x_oso, ↓x_cno, ↓x_cso, ↓x_val, ↓x_rng1, ↓x_rng2, ↓x_enum, ↓x_gvar, ↓x_gtup, ↓x_gtupR, ↓x_gsub, ↓x_gnil, ↓x_gcons, ↓x_snil, ↓x_scons, ↓x_pass, ↓x_expr, ↓x_ret, ↓x_retN, ↓x_set, ↓x_aug, ↓x_augO, ↓x_augA, ↓x_augS, ↓x_iff, ↓x_for, ↓x_whl, ↓x_brk, ↓x_cnt, ↓x_seqN, ↓x_seqR, ↓x_seqB, ↓x_seqC, ↓x_finR, ↓x_finN, ↓x_lk, ↓x_negR, ↓x_notR, ↓x_cnd, ↓x_oiR, ↓x_opt, ↓x_ob, ↓x_r1, ↓x_r2, ↓x_valT, ↓x_valF, ↓x_lst', ↓x_dk', ↓x_valL, ↓x_enumL, ↓x_mthL, ↓x_mth_append, ↓x_mth_extend, ↓x_mth_pop, ↓x_mth_get, ↓x_newT, ↓x_newL, ↓x_dicR, ↓x_add, ↓x_sub, ↓x_mul, ↓x_fdiv, ↓x_mod, ↓x_pow, ↓x_tadd, ↓x_ladd, ↓x_lt, ↓x_le, ↓x_gt, ↓x_ge, ↓x_eq, ↓x_ne, ↓x_inn, ↓x_nin, ↓x_tix, ↓x_rix, ↓x_ixL, ↓x_ixD, ↓x_setD, ↓x_stD, ↓x_stL, ↓x_app, ↓x_if, ↓x_ext, ↓x_pop, ↓x_lenT, ↓x_lenR, ↓x_lenL, ↓x_listT, ↓x_listL, ↓x_tupL, ↓x_tupT, ↓x_sortT, ↓x_sortL, ↓x_all, ↓x_any, ↓x_sum, ↓x_max2, ↓x_min2, ↓x_toint, ↓x_repr, ↓x_rep, ↓x_slcT, ↓x_slcF, ↓x_slcL, ↓x_revL, ↓x_ssetL, ↓x_isi_int, ↓x_isi_bool, ↓x_isi_NoneType, ↓x_isi_str, ↓x_isi_tuple, ↓x_isi_list, ↓gx_bd, ↓gx_ok, ↓x_loopN, ↓x_loopC, ↓x_loopB, ↓x_loopR, ty_NoneType_int, ty_NoneType_bool, ty_NoneType_str, ty_NoneType_list, ty_NoneType_tuple, ty_NoneType_dict, ty_int_int, ty_int_bool, ty_int_str, ty_int_list, ty_int_tuple, ty_int_dict, ty_bool_int, ty_bool_bool, ty_bool_str, ty_bool_list, ty_bool_tuple, ty_bool_dict, ty_str_int, ty_str_bool, ty_str_str, ty_str_list, ty_str_tuple, ty_str_dict, ty_tuple_int, ty_tuple_bool, ty_tuple_str, ty_tuple_list, ty_tuple_tuple, ty_tuple_dict, ty_list_int, ty_list_bool, ty_list_str, ty_list_list, ty_list_tuple, ty_list_dict, ty_dict_int, ty_dict_bool, ty_dict_str, ty_dict_list, ty_dict_tuple, ty_dict_dict, at_0, at_1, at_2, at_3, at_4, nat_0, nat_1, nat_2, nat_3, nat_4, nat_5, nat_6, at_end, at_end1, at_end2, at_end3, bools_t, all_t, Nat.reduceLT, Nat.reduceLeDiff, Int.reduceLT, Int.reduceLE, Int.reduceAdd, Int.reduceSub, Int.reduceMul, Int.reducePow, Int.reduceToNat, Int.reduceNeg, ifx_t, ifx_f, ifx_n, gx_ok, eqT_int, List.getElem?_cons_zero, List.getElem?_cons_succ, List.set_cons_zero, List.set_cons_succ, List.map_cons, List.map_nil, List.nil_append, List.cons_append, List.replicate_succ, List.replicate_zero, List.length_cons, List.length_nil, List.any_cons, List.any_nil, Nat.reduceAdd, Nat.reduceSub, Bool.or_false, Bool.or_true, Bool.false_or, Bool.true_or, Bool.not_true, Bool.not_false, Option.map_some, Option.bind_some, decide_true, decide_false, true_and, and_true, wipeL, ↓gg_KINDS, at_old w5, ↓x_if, List.length_map, show row.length + ys.length ≤ 16777216 by omega]
          exact ((I4.app F2 _).put F2 am (at_old w5) w3 w2 y1).le (by omega)
        · simp only [↓x_var, ↓x_int, ↓x_bl, ↓x_non, ↓x_str, ↓x_bin, ↓x_cmp, ↓x_idx, ↓x_neg, ↓x_not, ↓x_isN, ↓x_isnN, ↓x_rev, ↓x_sset, ↓x_isiT, ↓x_chn, ↓x_ite, ↓x_and, ↓x_or, ↓x_and1, ↓x_or1, ↓x_and2, ↓x_or2, ↓x_tup, ↓x_lst, ↓x_dic, ↓x_slc, ↓x_call, ↓x_callK, ↓x_blt, ↓x_mth, ↓x_rngL, ↓x_rngT, ↓x_comp, ↓x_enil, ↓x_econs, ↓x_kv0, ↓x_kv, ↓x_ono, ↓x_oso, ↓x_cno, ↓x_cso, ↓x_val, ↓x_rng1, ↓x_rng2, ↓x_enum, ↓x_gvar, ↓x_gtup, ↓x_gtupR, ↓x_gsub, ↓x_gnil, ↓x_gcons, ↓x_snil, ↓x_scons, ↓x_pass, ↓x_expr, ↓x_ret, ↓x_retN, ↓x_set, ↓x_aug, ↓x_augO, ↓x_augA, ↓x_augS, ↓x_iff, ↓x_for, ↓x_whl, ↓x_brk, ↓x_cnt, ↓x_seqN, ↓x_seqR, ↓x_seqB, ↓x_seqC, ↓x_finR, ↓x_finN, ↓x_lk, ↓x_negR, ↓x_notR, ↓x_cnd, ↓x_oiR, ↓x_opt, ↓x_ob, ↓x_r1, ↓x_r2, ↓x_valT, ↓x_valF, ↓x_lst', ↓x_dk', ↓x_valL, ↓x_enumL, ↓x_mthL, ↓x_mth_append, ↓x_mth_extend, ↓x_mth_pop, ↓x_mth_get, ↓x_newT, ↓x_newL, ↓x_dicR, ↓x_add, ↓x_sub, ↓x_mul, ↓x_fdiv, ↓x_mod, ↓x_pow, ↓x_tadd, ↓x_ladd, ↓x_lt, ↓x_le, ↓x_gt, ↓x_ge, ↓x_eq, ↓x_ne, ↓x_inn, ↓x_nin, ↓x_tix, ↓x_rix, ↓x_ixL, ↓x_ixD, ↓x_setD, ↓x_stD, ↓x_stL, ↓x_app, ↓x_if, ↓x_ext, ↓x_pop, ↓x_lenT, ↓x_lenR, ↓x_lenL, ↓x_listT, ↓x_listL, ↓x_tupL, ↓x_tupT, ↓x_sortT, ↓x_sortL, ↓x_all, ↓x_any, ↓x_sum, ↓x_max2, ↓x_min2, ↓x_toint, ↓x_repr, ↓x_rep, ↓x_slcT, ↓x_slcF, ↓x_slcL, ↓x_revL, ↓x_ssetL, ↓x_isi_int, ↓x_isi_bool, ↓x_isi_NoneType, ↓x_isi_str, ↓x_isi_tuple, ↓x_isi_list, ↓gx_bd, ↓gx_ok, ↓x_loopN, ↓x_loopC, ↓x_loopB, ↓x_loopR, ty_NoneType_int, ty_NoneType_bool, ty_NoneType_str, ty_NoneType_list, ty_NoneType_tuple, ty_NoneType_dict, ty_int_int, ty_int_bool, ty_int_str, ty_int_list, ty_int_tuple, ty_int_dict, ty_bool_int, ty_bool_bool, ty_bool_str, ty_bool_list, ty_bool_tuple, ty_bool_dict, ty_str_int, ty_str_bool, ty_str_str, ty_str_list, ty_str_tuple, ty_str_dict, ty_tuple_int, ty_tuple_bool, ty_tuple_str, ty_tuple_list, ty_tuple_tuple, ty_tuple_dict, ty_list_int, ty_list_bool, ty_list_str, ty_list_list, ty_list_tuple, ty_list_dict, ty_dict_int, ty_dict_bool, ty_dict_str, ty_dict_list, ty_dict_tuple, ty_dict_dict, at_0, at_1, at_2, at_3, at_4, nat_0, nat_1, nat_2, nat_3, nat_4, nat_5, nat_6, at_end, at_end1, at_end2, at_end3, bools_t, all_t, Nat.reduceLT, Nat.reduceLeDiff, Int.reduceLT, Int.reduceLE, Int.reduceAdd, Int.reduceSub, Int.reduceMul, Int.reducePow, Int.reduceToNat, Int.reduceNeg, ifx_t, ifx_f, ifx_n, gx_ok, eqT_int, List.getElem?_cons_zero, List.getElem?_cons_succ, List.set_cons_zero, List.set_cons_succ, List.map_cons, List.map_nil, List.nil_append, List.cons_append, List.replicate_succ, List.replicate_zero, List.length_cons, List.length_nil, List.any_cons, List.any_nil, Nat.reduceAdd, Nat.reduceSub, Bool.or_false, Bool.or_true, Bool.false_or, Bool.true_or, Bool.not_true, Bool.not_false, Option.map_some, Option.bind_some, decide_true, decide_false, true_and, and_true, wipeL, ↓gg_KINDS, hw2]
          exact I2.le (by omega)
      rintro p h8 ⟨rfl, I3⟩
      rw [x_seqN, x_scons]
      refine gx_mono (Q := fun p h6 => p = (.nx, [some (.ref r), some (.int k), some (.int way), some (.ref h3.length), some (.ref h4.length), some (.int ((0 + i : Nat) : Int)), some (.int cc), some (.ref a), some (.ref lt), none, none]) ∧ Inv h1 r c k h3.length lt h4.length ord lat rs (10 * i + 6) h6) ?_ ?_
      · by_cases hw2 : way ∈ [2, 3, 4]
        · rcases List.eq_nil_or_concat lat with hz | ⟨l2, x2, hz⟩
          · subst hz
            simp only [↓x_var, ↓x_int, ↓x_bl, ↓x_non, ↓x_str, ↓x_bin, ↓x_cmp, ↓x_idx, ↓x_neg, ↓x_not, ↓x_isN, ↓x_isnN, ↓x_rev, ↓x_sset, ↓x_isiT, ↓x_chn, ↓x_ite, ↓x_and, ↓x_or, ↓x_and1, ↓x_or1, ↓x_and2, ↓x_or2, ↓x_tup, ↓x_lst, ↓x_dic, ↓x_slc, ↓x_call, ↓x_callK, ↓x_blt, ↓x_mth, ↓x_rngL, ↓x_rngT, ↓x_comp, ↓x_enil, ↓x_econs, ↓x_kv0, ↓x_kv, ↓x_ono, ↓x_oso, ↓x_cno, ↓x_cso, ↓x_val, ↓x_rng1, ↓x_rng2, ↓x_enum, ↓x_gvar, ↓x_gtup, ↓x_gtupR, ↓x_gsub, ↓x_gnil, ↓x_gcons, ↓x_snil, ↓x_scons, ↓x_pass, ↓x_expr, ↓x_ret, ↓x_retN, ↓x_set, ↓x_aug, ↓x_augO, ↓x_augA, ↓x_augS, ↓x_iff, ↓x_for, ↓x_whl, ↓x_brk, ↓x_cnt, ↓x_seqN, ↓x_seqR, ↓x_seqB, ↓x_seqC, ↓x_finR, ↓x_finN, ↓x_lk, ↓x_negR, ↓x_notR, ↓x_cnd, ↓x_oiR, ↓x_opt, ↓x_ob, ↓x_r1, ↓x_r2, ↓x_valT, ↓x_valF, ↓x_lst', ↓x_dk', ↓x_valL, ↓x_enumL, ↓x_mthL, ↓x_mth_append, ↓x_mth_extend, ↓x_mth_pop, ↓x_mth_get, ↓x_newT, ↓x_newL, ↓x_dicR, ↓x_add, ↓x_sub, ↓x_mul, ↓x_fdiv, ↓x_mod, ↓x_pow, ↓x_tadd, ↓x_ladd, ↓x_lt, ↓x_le, ↓x_gt, ↓x_ge, ↓x_eq, ↓x_ne, ↓x_inn, ↓x_nin, ↓x_tix, ↓x_rix, ↓x_ixL, ↓x_ixD, ↓x_setD, ↓x_stD, ↓x_stL, ↓x_app, ↓x_if, ↓x_ext, ↓x_pop, ↓x_lenT, ↓x_lenR, ↓x_lenL, ↓x_listT, ↓x_listL, ↓x_tupL, ↓x_tupT, ↓x_sortT, ↓x_sortL, ↓x_all, ↓x_any, ↓x_sum, ↓x_max2, ↓x_min2, ↓x_toint, ↓x_repr, ↓x_rep, ↓x_slcT, ↓x_slcF, ↓x_slcL, ↓x_revL, ↓x_ssetL, ↓x_isi_int, ↓x_isi_bool, ↓x_isi_NoneType, ↓x_isi_str, ↓x_isi_tuple, ↓x_isi_list, ↓gx_bd, ↓gx_ok, ↓x_loopN, ↓x_loopC, ↓x_loopB, ↓x_loopR, ty_NoneType_int, ty_NoneType_bool, ty_NoneType_str, ty_NoneType_list, ty_NoneType_tuple, ty_NoneType_dict, ty_int_int, ty_int_bool, ty_int_str, ty_int_list, ty_int_tuple, ty_int_dict, ty_bool_int, ty_bool_bool, ty_bool_str, ty_bool_list, ty_bool_tuple, ty_bool_dict, ty_str_int, ty_str_bool, ty_str_str, ty_str_list, ty_str_tuple, ty_str_dict, ty_tuple_int, ty_tuple_bool, ty_tuple_str, ty_tuple_list, ty_tuple_tuple, ty_tuple_dict, ty_list_int, ty_list_bool, ty_list_str, ty_list_list, ty_list_tuple, ty_list_dict, ty_dict_int, ty_dict_bool, ty_dict_str, ty_dict_list, ty_dict_tuple, ty_dict_dict, at_0, at_1, at_2, at_3, at_4, nat_0, nat_1, nat_2, nat_3, nat_4, nat_5, nat_6, at_end, at_end1, at_end2, at_end3, bools_t, all_t, Nat.reduceLT, Nat.reduceLeDiff, Int.reduceLT, Int.reduceLE, Int.reduceAdd, Int.reduceSub, Int.reduceMul, Int.reducePow, Int.reduceToNat, Int.reduceNeg, ifx_t, ifx_f, ifx_n, gx_ok, eqT_int, List.getElem?_cons_zero, List.getElem?_cons_succ, List.set_cons_zero, List.set_cons_succ, List.map_cons, List.map_nil, List.nil_append, List.cons_append, List.replicate_succ, List.replicate_zero, List.length_cons, List.length_nil, List.any_cons, List.any_nil, Nat.reduceAdd, Nat.reduceSub, Bool.or_false, Bool.or_true, Bool.false_or, Bool.true_or, Bool.not_true, Bool.not_false, Option.map_some, Option.bind_some, decide_true, decide_false, true_and, and_true, wipeL, ↓gg_KINDS, show (inO (.int way) (.tup [.int 2, .int 3, .int 4]) h8) = some (decide (way ∈ [2, 3, 4])) from inO_intt (L := [2, 3, 4]), hw2, Nat.zero_le, Nat.reduceLeDiff, show (3 : Nat) ≤ 16777216 by decide, eqT_ints0 (L := []) (at_old (o := .lst []) I3.hl) at_end, List.isEmpty_nil]
            exact (I3.app F2 _).le (by omega)
          · have ne : lat.isEmpty = false := by
              rw [hz]
              simp
            have l1 : 1 ≤ lat.length := by
              rw [hz]
              simp
            have I3' := I3.app F2 [O.lst []]
            obtain ⟨row, w1, w2, w3⟩ := I3'.row a am
            obtain ⟨h9, v, e9, hv, d9, k9⟩ := draw (n := n + 1) (h := h8 ++ [O.lst []]) (b := 3) I3'.d (by omega)
            have I4 := I3'.keep F2 k9 d9
            have w4 := k9.lstS (F2.out (F2.rs0 a am)) w1
            simp only [↓x_var, ↓x_int, ↓x_bl, ↓x_non, ↓x_str, ↓x_bin, ↓x_cmp, ↓x_idx, ↓x_neg, ↓x_not, ↓x_isN, ↓x_isnN, ↓x_rev, ↓x_sset, ↓x_isiT, ↓x_chn, ↓x_ite, ↓x_and, ↓x_or, ↓x_and1, ↓x_or1, ↓x_and2, ↓x_or2, ↓x_tup, ↓x_lst, ↓x_dic, ↓x_slc, ↓x_call, ↓x_callK, ↓x_blt, ↓x_mth, ↓x_rngL, ↓x_rngT, ↓x_comp, ↓x_enil, ↓x_econs, ↓x_kv0, ↓x_kv, ↓x_ono, ↓x_oso, ↓x_cno, ↓x_cso, ↓x_val, ↓x_rng1, ↓x_rng2, ↓x_enum, ↓x_gvar, ↓x_gtup, ↓x_gtupR, ↓x_gsub, ↓x_gnil, ↓x_gcons, ↓x_snil, ↓x_scons, ↓x_pass, ↓x_expr, ↓x_ret, ↓x_retN, ↓x_set, ↓x_aug, ↓x_augO, ↓x_augA, ↓x_augS, ↓x_iff, ↓x_for, ↓x_whl, ↓x_brk, ↓x_cnt, ↓x_seqN, ↓x_seqR, ↓x_seqB, ↓x_seqC, ↓x_finR, ↓x_finN, ↓x_lk, ↓x_negR, ↓x_notR, ↓x_cnd, ↓x_oiR, ↓x_opt, ↓x_ob, ↓x_r1, ↓x_r2, ↓x_valT, ↓x_valF, ↓x_lst', ↓x_dk', ↓x_valL, ↓x_enumL, ↓x_mthL, ↓x_mth_append, ↓x_mth_extend, ↓x_mth_pop, ↓x_mth_get, ↓x_newT, ↓x_newL, ↓x_dicR, ↓x_add, ↓x_sub, ↓x_mul, ↓x_fdiv, ↓x_mod, ↓x_pow, ↓x_tadd, ↓x_ladd, ↓x_lt, ↓x_le, ↓x_gt, ↓x_ge, ↓x_eq, ↓x_ne, ↓x_inn, ↓x_nin, ↓x_tix, ↓x_rix, ↓x_ixL, ↓x_ixD, ↓x_setD, ↓x_stD, ↓x_stL, ↓x_app, ↓x_if, ↓x_ext, ↓x_pop, ↓x_lenT, ↓x_lenR, ↓x_lenL, ↓x_listT, ↓x_listL, ↓x_tupL, ↓x_tupT, ↓x_sortT, ↓x_sortL, ↓x_all, ↓x_any, ↓x_sum, ↓x_max2, ↓x_min2, ↓x_toint, ↓x_repr, ↓x_rep, ↓x_slcT, ↓x_slcF, ↓x_slcL, ↓x_revL, ↓x_ssetL, ↓x_isi_int, ↓x_isi_bool, ↓x_isi_NoneType, ↓x_isi_str, ↓x_isi_tuple, ↓x_isi_list, ↓gx_bd, ↓gx_ok, ↓x_loopN, ↓x_loopC, ↓x_loopB, ↓x_loopR, ty_NoneType_int, ty_NoneType_bool, ty_NoneType_str, ty_NoneType_list, ty_NoneType_tuple, ty_NoneType_dict, ty_int_int, ty_int_bool, ty_int_str, ty_int_list, ty_int_tuple, ty_int_dict, ty_bool_int, ty_bool_bool, ty_bool_str, ty_bool_list, ty_bool_tuple, ty_bool_dict, ty_str_int, ty_str_bool, ty_str_str, ty_str_list, ty_str_tuple, ty_str_dict, ty_tuple_int, ty_tuple_bool, ty_tuple_str, ty_tuple_list, ty_tuple_tuple, ty_tuple_dict, ty_list_int, ty_list_bool, ty_list_str, ty_list_list, ty_list_tuple, ty_list_dict, ty_dict_int, ty_dict_bool, ty_dict_str, ty_dict_list, ty_dict_tuple, ty_dict_dict, at_0, at_1, at_2, at_3, at_4, nat_0, nat_1, nat_2, nat_3, nat_4, nat_5, nat_6, at_end, at_end1, at_end2, at_end3, bools_t, all_t, Nat.reduceLT, Nat.reduceLeDiff, Int.reduceLT, Int.reduceLE, Int.reduceAdd, Int.reduceSub, Int.reduceMul, Int.reducePow, Int.reduceToNat, Int.reduceNeg, ifx_t, ifx_f, ifx_n, gx_ok, eqT_int, List.getElem?_cons_zero, List.getElem?_cons_succ, List.set_cons_zero, List.set_cons_succ, List.map_cons, List.map_nil, List.nil_append, List.cons_append, List.replicate_succ, List.replicate_zero, List.length_cons, List.length_nil, List.any_cons, List.any_nil, Nat.reduceAdd, Nat.reduceSub, Bool.or_false, Bool.or_true, Bool.false_or, Bool.true_or, Bool.not_true, Bool.not_false, Option.map_some, Option.bind_some, decide_true, decide_false, true_and, and_true, wipeL, ↓gg_KINDS, show (inO (.int way) (.tup [.int 2, .int 3, .int 4]) h8) = some (decide (way ∈ [2, 3, 4])) from inO_intt (L := [2, 3, 4]), hw2, Nat.zero_le, Nat.reduceLeDiff, show (3 : Nat) ≤ 16777216 by decide, eqT_ints0 (at_old (o := .lst []) I3.hl) at_end, ne, w1, e9, rgOk_of (i := 0) (j := 1 + v) (by omega)]
            refine comp_pick (lat := lat) d9 I4.hl (F2.out F2.l0) (by omega) (by omega) rfl rfl (by decide) (show (10 : Nat) < 11 by decide) ?_
            intro h10 ys y1 y2 d10 k10
            have I5 := I4.keep F2 k10 d10
            have w5 := k10.lstS (F2.out (F2.rs0 a am)) w4
            simp only [↓x_var, ↓x_int, ↓x_bl, ↓x_non, ↓x_str, ↓x_bin, ↓x_cmp, ↓x_idx, ↓x_neg, ↓x_not, ↓x_isN, ↓x_isnN, ↓x_rev, ↓x_sset, ↓x_isiT, ↓x_chn, ↓x_ite, ↓x_and, ↓x_or, ↓x_and1, ↓x_or1, ↓x_and2, ↓x_or2, ↓x_tup, ↓x_lst, ↓x_dic, ↓x_slc, ↓x_call, ↓x_callK, ↓x_blt, ↓x_mth, ↓x_rngL, ↓x_rngT, ↓x_comp, ↓x_enil, ↓x_econs, ↓x_kv0, ↓x_kv, ↓x_ono, ↓x_oso, ↓x_cno, ↓x_cso, ↓x_val, ↓x_rng1, ↓x_rng2, ↓x_enum, ↓x_gvar, ↓x_gtup, ↓x_gtupR, ↓x_gsub, ↓x_gnil, ↓x_gcons, ↓x_snil, ↓x_scons, ↓x_pass, ↓x_expr, ↓x_ret, ↓x_retN, ↓x_set, ↓x_aug, ↓x_augO, ↓x_augA, ↓x_augS, ↓x_iff, ↓x_for, ↓x_whl, ↓x_brk, ↓x_cnt, ↓x_seqN, ↓x_seqR, ↓x_seqB, ↓x_seqC, ↓x_finR, ↓x_finN, ↓x_lk, ↓x_negR, ↓x_notR, ↓x_cnd, ↓x_oiR, ↓x_opt, ↓x_ob, ↓x_r1, ↓x_r2, ↓x_valT, ↓x_valF, ↓x_lst', ↓x_dk', ↓x_valL, ↓x_enumL, ↓x_mthL, ↓x_mth_append, ↓x_mth_extend, ↓x_mth_pop, ↓x_mth_get, ↓x_newT, ↓x_newL, ↓x_dicR, ↓x_add, ↓x_sub, ↓x_mul, ↓x_fdiv, ↓x_mod, ↓x_pow, ↓x_tadd, ↓x_ladd, ↓x_lt, ↓x_le, ↓x_gt, ↓x_ge, ↓x_eq, ↓x_ne, ↓x_inn, ↓x_nin, ↓x_tix, ↓x_rix, ↓x_ixL, ↓x_ixD, ↓x_setD, ↓x_stD, ↓x_stL, ↓x_app, ↓x_if, ↓x_ext, ↓x_pop, ↓x_lenT, ↓x_lenR, ↓x_lenL, ↓x_listT, ↓x_listL, ↓x_tupL, ↓x_tupT, ↓x_sortT, ↓x_sortL, ↓x_all, ↓x_any, ↓x_sum, ↓x_max2, ↓x_min2, ↓x_toint, ↓x_repr, ↓x_rep, ↓x_slcT, ↓x_slcF, ↓x_slcL, ↓x_revL, ↓x_ssetL, ↓x_isi_int, ↓x_isi_bool, ↓x_isi_NoneType, ↓x_isi_str, ↓x_isi_tuple, ↓x_isi_list, ↓gx_bd, ↓gx_ok, ↓x_loopN, ↓x_loopC, ↓x_loopB, ↓x_loopR, ty_NoneType_int, ty_NoneType_bool, ty_NoneType_str, ty_NoneType_list, ty_NoneType_tuple, ty_NoneType_dict, ty_int_int, ty_int_bool, ty_int_str, ty_int_list, ty_int_tuple, ty_int_dict, ty_bool_int, ty_bool_bool, ty_bool_str, ty_bool_list, ty_bool_tuple, ty_bool_dict, ty_str_int, ty_str_bool, ty_str_str, ty_str_list, ty_str_tuple, ty_str_dict, ty_tuple_int, ty_tuple_bool, ty_tuple_str, ty_tuple_list, ty_tuple_tuple, ty_tuple_dict, ty_list_int, ty_list_bool, ty_list_str, ty_list_list, ty_list_tuple, ty_list_dict, ty_dict_int, ty_dict_bool, ty_dict_str, ty_dict_list, ty_dict_tuple, ty_dict_dict, at_0, at_1, at_2, at_3, at_4, nat_0, nat_1, nat_2, nat_3, nat_4, nat_5, nat_6, at_end, at_end1, at_end2, at_end3, bools_t, all_t, Nat.reduceLT, Nat.reduceLeDiff, Int.reduceLT, Int.reduceLE, Int.reduceAdd, Int.reduceSub, Int.reduceMul, Int.reducePow, Int.reduceToNat, Int.reduceNeg, ifx_t, ifx_f, ifx_n, gx_ok, eqT_int, List.getElem?_cons_zero, List.getElem?_cons_succ, List.set_cons_zero, List.set_cons_succ, List.map_cons, List.map_nil, List.nil_append, List.cons_append, List.replicate_succ, List.replicate_zero, List.length_cons, List.length_nil, List.any_cons, List.any_nil, Nat.reduceAdd, Nat.reduceSub, Bool.or_false, Bool.or_true, Bool.false_or, Bool.true_or, Bool.not_true, Bool.not_false, Option.map_some, Option.bind_some, decide_true, decide_false, true_and, and_true, wipeL, ↓gg_KINDS, at_old w5, ↓x_if, List.length_map, show row.length + ys.length ≤ 16777216 by omega]
            exact ((I5.app F2 _).put F2 am (at_old w5) w3 w2 fun y hy => latk y (y1 y hy)).le (by omega)
        · simp only [↓x_var, ↓x_int, ↓x_bl, ↓x_non, ↓x_str, ↓x_bin, ↓x_cmp, ↓x_idx, ↓x_neg, ↓x_not, ↓x_isN, ↓x_isnN, ↓x_rev, ↓x_sset, ↓x_isiT, ↓x_chn, ↓x_ite, ↓x_and, ↓x_or, ↓x_and1, ↓x_or1, ↓x_and2, ↓x_or2, ↓x_tup, ↓x_lst, ↓x_dic, ↓x_slc, ↓x_call, ↓x_callK, ↓x_blt, ↓x_mth, ↓x_rngL, ↓x_rngT, ↓x_comp, ↓x_enil, ↓x_econs, ↓x_kv0, ↓x_kv, ↓x_ono, ↓x_oso, ↓x_cno, ↓x_cso, ↓x_val, ↓x_rng1, ↓x_rng2, ↓x_enum, ↓x_gvar, ↓x_gtup, ↓x_gtupR, ↓x_gsub, ↓x_gnil, ↓x_gcons, ↓x_snil, ↓x_scons, ↓x_pass, ↓x_expr, ↓x_ret, ↓x_retN, ↓x_set, ↓x_aug, ↓x_augO, ↓x_augA, ↓x_augS, ↓x_iff, ↓x_for, ↓x_whl, ↓x_brk, ↓x_cnt, ↓x_seqN, ↓x_seqR, ↓x_seqB, ↓x_seqC, ↓x_finR, ↓x_finN, ↓x_lk, ↓x_negR, ↓x_notR, ↓x_cnd, ↓x_oiR, ↓x_opt, ↓x_ob, ↓x_r1, ↓x_r2, ↓x_valT, ↓x_valF, ↓x_lst', ↓x_dk', ↓x_valL, ↓x_enumL, ↓x_mthL, ↓x_mth_append, ↓x_mth_extend, ↓x_mth_pop, ↓x_mth_get, ↓x_newT, ↓x_newL, ↓x_dicR, ↓x_add, ↓x_sub, ↓x_mul, ↓x_fdiv, ↓x_mod, ↓x_pow, ↓x_tadd, ↓x_ladd, ↓x_lt, ↓x_le, ↓x_gt, ↓x_ge, ↓x_eq, ↓x_ne, ↓x_inn, ↓x_nin, ↓x_tix, ↓x_rix, ↓x_ixL, ↓x_ixD, ↓x_setD, ↓x_stD, ↓x_stL, ↓x_app, ↓x_if, ↓x_ext, ↓x_pop, ↓x_lenT, ↓x_lenR, ↓x_lenL, ↓x_listT, ↓x_listL, ↓x_tupL, ↓x_tupT, ↓x_sortT, ↓x_sortL, ↓x_all, ↓x_any, ↓x_sum, ↓x_max2, ↓x_min2, ↓x_toint, ↓x_repr, ↓x_rep, ↓x_slcT, ↓x_slcF, ↓x_slcL, ↓x_revL, ↓x_ssetL, ↓x_isi_int, ↓x_isi_bool, ↓x_isi_NoneType, ↓x_isi_str, ↓x_isi_tuple, ↓x_isi_list, ↓gx_bd, ↓gx_ok, ↓x_loopN, ↓x_loopC, ↓x_loopB, ↓x_loopR, ty_NoneType_int, ty_NoneType_bool, ty_NoneType_str, ty_NoneType_list, ty_NoneType_tuple, ty_NoneType_dict, ty_int_int, ty_int_bool, ty_int_str, ty_int_list, ty_int_tuple, ty_int_dict, ty_bool_int, ty_bool_bool, ty_bool_str, ty_bool_list, ty_bool_tuple, ty_bool_dict, ty_str_int, ty_str_bool, ty_str_str, ty_str_list, ty_str_tuple, ty_str_dict, ty_tuple_int, ty_tuple_bool, ty_tuple_str, ty_tuple_list, ty_tuple_tuple, ty_tuple_dict, ty_list_int, ty_list_bool, ty_list_str, ty_list_list, ty_list_tuple, ty_list_dict, ty_dict_int, ty_dict_bool, ty_dict_str, ty_dict_list, ty_dict_tuple, ty_dict_dict, at_0, at_1, at_2, at_3, at_4, nat_0, nat_1, nat_2, nat_3, nat_4, nat_5, nat_6, at_end, at_end1, at_end2, at_end3, bools_t, all_t, Nat.reduceLT, Nat.reduceLeDiff, Int.reduceLT, Int.reduceLE, Int.reduceAdd, Int.reduceSub, Int.reduceMul, Int.reducePow, Int.reduceToNat, Int.reduceNeg, ifx_t, ifx_f, ifx_n, gx_ok, eqT_int, List.getElem?_cons_zero, List.getElem?_cons_succ, List.set_cons_zero, List.set_cons_succ, List.map_cons, List.map_nil, List.nil_append, List.cons_append, List.replicate_succ, List.replicate_zero, List.length_cons, List.length_nil, List.any_cons, List.any_nil, Nat.reduceAdd, Nat.reduceSub, Bool.or_false, Bool.or_true, Bool.false_or, Bool.true_or, Bool.not_true, Bool.not_false, Option.map_some, Option.bind_some, decide_true, decide_false, true_and, and_true, wipeL, ↓gg_KINDS, show (inO (.int way) (.tup [.int 2, .int 3, .int 4]) h8) = some (decide (way ∈ [2, 3, 4])) from inO_intt (L := [2, 3, 4]), hw2, Nat.reduceLeDiff, show (3 : Nat) ≤ 16777216 by decide]
          exact I3.le (by omega)
      rintro p h9 ⟨rfl, I4⟩
      rw [x_seqN, x_scons]
      refine gx_mono (Q := fun p h6 => p = (.nx, [some (.ref r), some (.int k), some (.int way), some (.ref h3.length), some (.ref h4.length), some (.int ((0 + i : Nat) : Int)), some (.int cc), some (.ref a), some (.ref lt), none, none]) ∧ Inv h1 r c k h3.length lt h4.length ord lat rs (10 * i + 7) h6) ?_ ?_
      · by_cases hw2 : way ∈ [2, 3]
        · obtain ⟨h10, v, e10, hv, d10, k10⟩ := draw (n := n + 1) (h := h9) (b := 6) I4.d (by omega)
          have I5 := I4.keep F2 k10 d10
          obtain ⟨row, w1, w2, w3⟩ := I5.row a am
          by_cases hv0 : 0 < v
          · simp only [↓x_var, ↓x_int, ↓x_bl, ↓x_non, ↓x_str, ↓x_bin, ↓x_cmp, ↓x_idx, ↓x_neg, ↓x_not, ↓x_isN, ↓x_isnN, ↓x_rev, ↓x_sset, ↓x_isiT, ↓x_chn, ↓x_ite, ↓x_and, ↓x_or, ↓x_and1, ↓x_or1, ↓x_and2, ↓x_or2, ↓x_tup, ↓x_lst, ↓x_dic, ↓x_slc, ↓x_call, ↓x_callK, ↓x_blt, ↓x_mth, ↓x_rngL, ↓x_rngT, ↓x_comp, ↓x_enil, ↓x_econs, ↓x_kv0, ↓x_kv, ↓x_ono, ↓x_oso, ↓x_cno, ↓x_cso, ↓x_val, ↓x_rng1, ↓x_rng2, ↓x_enum, ↓x_gvar, ↓x_gtup, ↓x_gtupR, ↓x_gsub, ↓x_gnil, ↓x_gcons, ↓x_snil, ↓x_scons, ↓x_pass, ↓x_expr, ↓x_ret, ↓x_retN, ↓x_set, ↓x_aug, ↓x_augO, ↓x_augA, ↓x_augS, ↓x_iff, ↓x_for, ↓x_whl, ↓x_brk, ↓x_cnt, ↓x_seqN, ↓x_seqR, ↓x_seqB, ↓x_seqC, ↓x_finR, ↓x_finN, ↓x_lk, ↓x_negR, ↓x_notR, ↓x_cnd, ↓x_oiR, ↓x_opt, ↓x_ob, ↓x_r1, ↓x_r2, ↓x_valT, ↓x_valF, ↓x_lst', ↓x_dk', ↓x_valL, ↓x_enumL, ↓x_mthL, ↓x_mth_append, ↓x_mth_extend, ↓x_mth_pop, ↓x_mth_get, ↓x_newT, ↓x_newL, ↓x_dicR, ↓x_add, ↓x_sub, ↓x_mul, ↓x_fdiv, ↓x_mod, ↓x_pow, ↓x_tadd, ↓x_ladd, ↓x_lt, ↓x_le, ↓x_gt, ↓x_ge, ↓x_eq, ↓x_ne, ↓x_inn, ↓x_nin, ↓x_tix, ↓x_rix, ↓x_ixL, ↓x_ixD, ↓x_setD, ↓x_stD, ↓x_stL, ↓x_app, ↓x_if, ↓x_ext, ↓x_pop, ↓x_lenT, ↓x_lenR, ↓x_lenL, ↓x_listT, ↓x_listL, ↓x_tupL, ↓x_tupT, ↓x_sortT, ↓x_sortL, ↓x_all, ↓x_any, ↓x_sum, ↓x_max2, ↓x_min2, ↓x_toint, ↓x_repr, ↓x_rep, ↓x_slcT, ↓x_slcF, ↓x_slcL, ↓x_revL, ↓x_ssetL, ↓x_isi_int, ↓x_isi_bool, ↓x_isi_NoneType, ↓x_isi_str, ↓x_isi_tuple, ↓x_isi_list, ↓gx_bd, ↓gx_ok, ↓x_loopN, ↓x_loopC, ↓x_loopB, ↓x_loopR, ty_NoneType_int, ty_NoneType_bool, ty_NoneType_str, ty_NoneType_list, ty_NoneType_tuple, ty_NoneType_dict, ty_int_int, ty_int_bool, ty_int_str, ty_int_list, ty_int_tuple, ty_int_dict, ty_bool_int, ty_bool_bool, ty_bool_str, ty_bool_list, ty_bool_tuple, ty_bool_dict, ty_str_int, ty_str_bool, ty_str_str, ty_str_list, ty_str_tuple, ty_str_dict, ty_tuple_int, ty_tuple_bool, ty_tuple_str, ty_tuple_list, ty_tuple_tuple, ty_tuple_dict, ty_list_int, ty_list_bool, ty_list_str, ty_list_list, ty_list_tuple, ty_list_dict, ty_dict_int, ty_dict_bool, ty_dict_str, ty_dict_list, ty_dict_tuple, ty_dict_dict, at_0, at_1, at_2, at_3, at_4, nat_0, nat_1, nat_2, nat_3, nat_4, nat_5, nat_6, at_end, at_end1, at_end2, at_end3, bools_t, all_t, Nat.reduceLT, Nat.reduceLeDiff, Int.reduceLT, Int.reduceLE, Int.reduceAdd, Int.reduceSub, Int.reduceMul, Int.reducePow, Int.reduceToNat, Int.reduceNeg, ifx_t, ifx_f, ifx_n, gx_ok, eqT_int, List.getElem?_cons_zero, List.getElem?_cons_succ, List.set_cons_zero, List.set_cons_succ, List.map_cons, List.map_nil, List.nil_append, List.cons_append, List.replicate_succ, List.replicate_zero, List.length_cons, List.length_nil, List.any_cons, List.any_nil, Nat.reduceAdd, Nat.reduceSub, Bool.or_false, Bool.or_true, Bool.false_or, Bool.true_or, Bool.not_true, Bool.not_false, Option.map_some, Option.bind_some, decide_true, decide_false, true_and, and_true, wipeL, ↓gg_KINDS, show (inO (.int way) (.tup [.int 2, .int 3]) h9) = some (decide (way ∈ [2, 3])) from inO_intt (L := [2, 3]), hw2, Nat.reduceLeDiff, show (2 : Nat) ≤ 16777216 by decide, e10, hv0, w1, ↓x_if, List.length_map, show row.length < 16777216 by omega]
            exact (I5.put F2 am w1 w3 w2 (zs := [cc]) fun y hy => by rw [List.mem_singleton.mp hy]; exact ck).le (by simp)
          · simp only [↓x_var, ↓x_int, ↓x_bl, ↓x_non, ↓x_str, ↓x_bin, ↓x_cmp, ↓x_idx, ↓x_neg, ↓x_not, ↓x_isN, ↓x_isnN, ↓x_rev, ↓x_sset, ↓x_isiT, ↓x_chn, ↓x_ite, ↓x_and, ↓x_or, ↓x_and1, ↓x_or1, ↓x_and2, ↓x_or2, ↓x_tup, ↓x_lst, ↓x_dic, ↓x_slc, ↓x_call, ↓x_callK, ↓x_blt, ↓x_mth, ↓x_rngL, ↓x_rngT, ↓x_comp, ↓x_enil, ↓x_econs, ↓x_kv0, ↓x_kv, ↓x_ono, ↓x_oso, ↓x_cno, ↓x_cso, ↓x_val, ↓x_rng1, ↓x_rng2, ↓x_enum, ↓x_gvar, ↓x_gtup, ↓x_gtupR, ↓x_gsub, ↓x_gnil, ↓x_gcons, ↓x_snil, ↓x_scons, ↓x_pass, ↓x_expr, ↓x_ret, ↓x_retN, ↓x_set, ↓x_aug, ↓x_augO, ↓x_augA, ↓x_augS, ↓x_iff, ↓x_for, ↓x_whl, ↓x_brk, ↓x_cnt, ↓x_seqN, ↓x_seqR, ↓x_seqB, ↓x_seqC, ↓x_finR, ↓x_finN, ↓x_lk, ↓x_negR, ↓x_notR, ↓x_cnd, ↓x_oiR, ↓x_opt, ↓x_ob, ↓x_r1, ↓x_r2, ↓x_valT, ↓x_valF, ↓x_lst', ↓x_dk', ↓x_valL, ↓x_enumL, ↓x_mthL, ↓x_mth_append, ↓x_mth_extend, ↓x_mth_pop, ↓x_mth_get, ↓x_newT, ↓x_newL, ↓x_dicR, ↓x_add, ↓x_sub, ↓x_mul, ↓x_fdiv, ↓x_mod, ↓x_pow, ↓x_tadd, ↓x_ladd, ↓x_lt, ↓x_le, ↓x_gt, ↓x_ge, ↓x_eq, ↓x_ne, ↓x_inn, ↓x_nin, ↓x_tix, ↓x_rix, ↓x_ixL, ↓x_ixD, ↓x_setD, ↓x_stD, ↓x_stL, ↓x_app, ↓x_if, ↓x_ext, ↓x_pop, ↓x_lenT, ↓x_lenR, ↓x_lenL, ↓x_listT, ↓x_listL, ↓x_tupL, ↓x_tupT, ↓x_sortT, ↓x_sortL, ↓x_all, ↓x_any, ↓x_sum, ↓x_max2, ↓x_min2, ↓x_toint, ↓x_repr, ↓x_rep, ↓x_slcT, ↓x_slcF, ↓x_slcL, ↓x_revL, ↓x_ssetL, ↓x_isi_int, ↓x_isi_bool, ↓x_isi_NoneType, ↓x_isi_str, ↓x_isi_tuple, ↓x_isi_list, ↓gx_bd, ↓gx_ok, ↓x_loopN, ↓x_loopC, ↓x_loopB, ↓x_loopR, ty_NoneType_int, ty_NoneType_bool, ty_NoneType_str, ty_NoneType_list, ty_NoneType_tuple, ty_NoneType_dict, ty_int_int, ty_int_bool, ty_int_str, ty_int_list, ty_int_tuple, ty_int_dict, ty_bool_int, ty_bool_bool, ty_bool_str, ty_bool_list, ty_bool_tuple, ty_bool_dict, ty_str_int, ty_str_bool, ty_str_str, ty_str_list, ty_str_tuple, ty_str_dict, ty_tuple_int, ty_tuple_bool, ty_tuple_str, ty_tuple_list, ty_tuple_tuple, ty_tuple_dict, ty_list_int, ty_list_bool, ty_list_str, ty_list_list, ty_list_tuple, ty_list_dict, ty_dict_int, ty_dict_bool, ty_dict_str, ty_dict_list, ty_dict_tuple, ty_dict_dict, at_0, at_1, at_2, at_3, at_4, nat_0, nat_1, nat_2, nat_3, nat_4, nat_5, nat_6, at_end, at_end1, at_end2, at_end3, bools_t, all_t, Nat.reduceLT, Nat.reduceLeDiff, Int.reduceLT, Int.reduceLE, Int.reduceAdd, Int.reduceSub, Int.reduceMul, Int.reducePow, Int.reduceToNat, Int.reduceNeg, ifx_t, ifx_f, ifx_n, gx_ok, eqT_int, List.getElem?_cons_zero, List.getElem?_cons_succ, List.set_cons_zero, List.set_cons_succ, List.map_cons, List.map_nil, List.nil_append, List.cons_append, List.replicate_succ, List.replicate_zero, List.length_cons, List.length_nil, List.any_cons, List.any_nil, Nat.reduceAdd, Nat.reduceSub, Bool.or_false, Bool.or_true, Bool.false_or, Bool.true_or, Bool.not_true, Bool.not_false, Option.map_some, Option.bind_some, decide_true, decide_false, true_and, and_true, wipeL, ↓gg_KINDS, show (inO (.int way) (.tup [.int 2, .int 3]) h9) = some (decide (way ∈ [2, 3])) from inO_intt (L := [2, 3]), hw2, Nat.reduceLeDiff, show (2 : Nat) ≤ 16777216 by decide, e10, hv0]
            exact I5.le (by omega)
        · simp only [↓x_var, ↓x_int, ↓x_bl, ↓x_non, ↓x_str, ↓x_bin, ↓x_cmp, ↓x_idx, ↓x_neg, ↓x_not, ↓x_isN, ↓x_isnN, ↓x_rev, ↓x_sset, ↓x_isiT, ↓x_chn, ↓x_ite, ↓x_and, ↓x_or, ↓x_and1, ↓x_or1, ↓x_and2, ↓x_or2, ↓x_tup, ↓x_lst, ↓x_dic, ↓x_slc, ↓x_call, ↓x_callK, ↓x_blt, ↓x_mth, ↓x_rngL, ↓x_rngT, ↓x_comp, ↓x_enil, ↓x_econs, ↓x_kv0, ↓x_kv, ↓x_ono, ↓x_oso, ↓x_cno, ↓x_cso, ↓x_val, ↓x_rng1, ↓x_rng2, ↓x_enum, ↓x_gvar, ↓x_gtup, ↓x_gtupR, ↓x_gsub, ↓x_gnil, ↓x_gcons, ↓x_snil, ↓x_scons, ↓x_pass, ↓x_expr, ↓x_ret, ↓x_retN, ↓x_set, ↓x_aug, ↓x_augO, ↓x_augA, ↓x_augS, ↓x_iff, ↓x_for, ↓x_whl, ↓x_brk, ↓x_cnt, ↓x_seqN, ↓x_seqR, ↓x_seqB, ↓x_seqC, ↓x_finR, ↓x_finN, ↓x_lk, ↓x_negR, ↓x_notR, ↓x_cnd, ↓x_oiR, ↓x_opt, ↓x_ob, ↓x_r1, ↓x_r2, ↓x_valT, ↓x_valF, ↓x_lst', ↓x_dk', ↓x_valL, ↓x_enumL, ↓x_mthL, ↓x_mth_append, ↓x_mth_extend, ↓x_mth_pop, ↓x_mth_get, ↓x_newT, ↓x_newL, ↓x_dicR, ↓x_add, ↓x_sub, ↓x_mul, ↓x_fdiv, ↓x_mod, ↓x_pow, ↓x_tadd, ↓x_ladd, ↓x_lt, ↓x_le, ↓x_gt, ↓x_ge, ↓x_eq, ↓x_ne, ↓x_inn, ↓x_nin, ↓x_tix, ↓x_rix, ↓x_ixL, ↓x_ixD, ↓x_setD, ↓x_stD, ↓x_stL, ↓x_app, ↓x_if, ↓x_ext, ↓x_pop, ↓x_lenT, ↓x_lenR, ↓x_lenL, ↓x_listT, ↓x_listL, ↓x_tupL, ↓x_tupT, ↓x_sortT, ↓x_sortL, ↓x_all, ↓x_any, ↓x_sum, ↓x_max2, ↓x_min2, ↓x_toint, ↓x_repr, ↓x_rep, ↓x_slcT, ↓x_slcF, ↓x_slcL, ↓x_revL, ↓x_ssetL, ↓x_isi_int, ↓x_isi_bool, ↓x_isi_NoneType, ↓x_isi_str, ↓x_isi_tuple, ↓x_isi_list, ↓gx_bd, ↓gx_ok, ↓x_loopN, ↓x_loopC, ↓x_loopB, ↓x_loopR, ty_NoneType_int, ty_NoneType_bool, ty_NoneType_str, ty_NoneType_list, ty_NoneType_tuple, ty_NoneType_dict, ty_int_int, ty_int_bool, ty_int_str, ty_int_list, ty_int_tuple, ty_int_dict, ty_bool_int, ty_bool_bool, ty_bool_str, ty_bool_list, ty_bool_tuple, ty_bool_dict, ty_str_int, ty_str_bool, ty_str_str, ty_str_list, ty_str_tuple, ty_str_dict, ty_tuple_int, ty_tuple_bool, ty_tuple_str, ty_tuple_list, ty_tuple_tuple, ty_tuple_dict, ty_list_int, ty_list_bool, ty_list_str, ty_list_list, ty_list_tuple, ty_list_dict, ty_dict_int, ty_dict_bool, ty_dict_str, ty_dict_list, ty_dict_tuple, ty_dict_dict, at_0, at_1, at_2, at_3, at_4, nat_0, nat_1, nat_2, nat_3, nat_4, nat_5, nat_6, at_end, at_end1, at_end2, at_end3, bools_t, all_t, Nat.reduceLT, Nat.reduceLeDiff, Int.reduceLT, Int.reduceLE, Int.reduceAdd, Int.reduceSub, Int.reduceMul, Int.reducePow, Int.reduceToNat, Int.reduceNeg, ifx_t, ifx_f, ifx_n, gx_ok, eqT_int, List.getElem?_cons_zero, List.getElem?_cons_succ, List.set_cons_zero, List.set_cons_succ, List.map_cons, List.map_nil, List.nil_append, List.cons_append, List.replicate_succ, List.replicate_zero, List.length_cons, List.length_nil, List.any_cons, List.any_nil, Nat.reduceAdd, Nat.reduceSub, Bool.or_false, Bool.or_true, Bool.false_or, Bool.true_or, Bool.not_true, Bool.not_false, Option.map_some, Option.bind_some, decide_true, decide_false, true_and, and_true, wipeL, ↓gg_KINDS, show (inO (.int way) (.tup [.int 2, .int 3]) h9) = some (decide (way ∈ [2, 3])) from inO_intt (L := [2, 3]), hw2, Nat.reduceLeDiff, show (2 : Nat) ≤ 16777216 by decide]
          exact I4.le (by omega)
      rintro p h10 ⟨rfl, I5⟩
      rw [x_seqN, x_scons]
      refine gx_mono (Q := fun p h6 => p = (.nx, [some (.ref r), some (.int k), some (.int way), some (.ref h3.length), some (.ref h4.length), some (.int ((0 + i : Nat) : Int)), some (.int cc), some (.ref a), some (.ref lt), none, none]) ∧ Inv h1 r c k h3.length lt h4.length ord lat rs (10 * i + 9) h6) ?_ ?_
      · by_cases hw2 : 4 < way
        · obtain ⟨row, w1, w2, w3⟩ := I5.row a am
          have ol0 : (0 : Int) < (ord.length : Int) := by omega
          have md : 0 ≤ (((0 + i : Nat) : Int) + 1) % (ord.length : Int) ∧ (((0 + i : Nat) : Int) + 1) % (ord.length : Int) < ord.length := ⟨Int.emod_nonneg _ (by omega), Int.emod_lt_of_pos _ ol0⟩
          generalize hj : (((0 + i : Nat) : Int) + 1) % (ord.length : Int) = j at md
          have jl : j.toNat < ord.length := by omega
          have ej : atI (ord.map T.int) j = some (.int ord[j.toNat]) := atI_some (j := j.toNat) (by omega) (by rw [List.getElem?_map, List.getElem?_eq_getElem jl]; rfl)
          have jk := ordk _ (List.getElem_mem jl)
          generalize ord[j.toNat] = oj at ej jk
          have I6 := I5.put F2 am w1 w3 w2 (zs := [oj]) fun y hy => by rw [List.mem_singleton.mp hy]; exact jk
          by_cases hw6 : way = 6
          · obtain ⟨h11, v, e11, hv, d11, k11⟩ := draw (n := n + 1) (b := 3) I6.d (by omega)
            have I7 := I6.keep F2 k11 d11
            by_cases hv0 : v = 0
            · obtain ⟨row2, w4, w5, w6⟩ := I7.row a am
              obtain ⟨h12, v2, e12, hv2, d12, k12⟩ := draw (n := n + 1) (b := k) d11 (by omega)
              have I8 := I7.keep F2 k12 d12
              have w7 := k12.lstS (F2.out (F2.rs0 a am)) w4
              rw [List.map_cons, List.map_nil] at e11
              simp only [↓x_var, ↓x_int, ↓x_bl, ↓x_non, ↓x_str, ↓x_bin, ↓x_cmp, ↓x_idx, ↓x_neg, ↓x_not, ↓x_isN, ↓x_isnN, ↓x_rev, ↓x_sset, ↓x_isiT, ↓x_chn, ↓x_ite, ↓x_and, ↓x_or, ↓x_and1, ↓x_or1, ↓x_and2, ↓x_or2, ↓x_tup, ↓x_lst, ↓x_dic, ↓x_slc, ↓x_call, ↓x_callK, ↓x_blt, ↓x_mth, ↓x_rngL, ↓x_rngT, ↓x_comp, ↓x_enil, ↓x_econs, ↓x_kv0, ↓x_kv, ↓x_ono, ↓x_oso, ↓x_cno, ↓x_cso, ↓x_val, ↓x_rng1, ↓x_rng2, ↓x_enum, ↓x_gvar, ↓x_gtup, ↓x_gtupR, ↓x_gsub, ↓x_gnil, ↓x_gcons, ↓x_snil, ↓x_scons, ↓x_pass, ↓x_expr, ↓x_ret, ↓x_retN, ↓x_set, ↓x_aug, ↓x_augO, ↓x_augA, ↓x_augS, ↓x_iff, ↓x_for, ↓x_whl, ↓x_brk, ↓x_cnt, ↓x_seqN, ↓x_seqR, ↓x_seqB, ↓x_seqC, ↓x_finR, ↓x_finN, ↓x_lk, ↓x_negR, ↓x_notR, ↓x_cnd, ↓x_oiR, ↓x_opt, ↓x_ob, ↓x_r1, ↓x_r2, ↓x_valT, ↓x_valF, ↓x_lst', ↓x_dk', ↓x_valL, ↓x_enumL, ↓x_mthL, ↓x_mth_append, ↓x_mth_extend, ↓x_mth_pop, ↓x_mth_get, ↓x_newT, ↓x_newL, ↓x_dicR, ↓x_add, ↓x_sub, ↓x_mul, ↓x_fdiv, ↓x_mod, ↓x_pow, ↓x_tadd, ↓x_ladd, ↓x_lt, ↓x_le, ↓x_gt, ↓x_ge, ↓x_eq, ↓x_ne, ↓x_inn, ↓x_nin, ↓x_tix, ↓x_rix, ↓x_ixL, ↓x_ixD, ↓x_setD, ↓x_stD, ↓x_stL, ↓x_app, ↓x_if, ↓x_ext, ↓x_pop, ↓x_lenT, ↓x_lenR, ↓x_lenL, ↓x_listT, ↓x_listL, ↓x_tupL, ↓x_tupT, ↓x_sortT, ↓x_sortL, ↓x_all, ↓x_any, ↓x_sum, ↓x_max2, ↓x_min2, ↓x_toint, ↓x_repr, ↓x_rep, ↓x_slcT, ↓x_slcF, ↓x_slcL, ↓x_revL, ↓x_ssetL, ↓x_isi_int, ↓x_isi_bool, ↓x_isi_NoneType, ↓x_isi_str, ↓x_isi_tuple, ↓x_isi_list, ↓gx_bd, ↓gx_ok, ↓x_loopN, ↓x_loopC, ↓x_loopB, ↓x_loopR, ty_NoneType_int, ty_NoneType_bool, ty_NoneType_str, ty_NoneType_list, ty_NoneType_tuple, ty_NoneType_dict, ty_int_int, ty_int_bool, ty_int_str, ty_int_list, ty_int_tuple, ty_int_dict, ty_bool_int, ty_bool_bool, ty_bool_str, ty_bool_list, ty_bool_tuple, ty_bool_dict, ty_str_int, ty_str_bool, ty_str_str, ty_str_list, ty_str_tuple, ty_str_dict, ty_tuple_int, ty_tuple_bool, ty_tuple_str, ty_tuple_list, ty_tuple_tuple, ty_tuple_dict, ty_list_int, ty_list_bool, ty_list_str, ty_list_list, ty_list_tuple, ty_list_dict, ty_dict_int, ty_dict_bool, ty_dict_str, ty_dict_list, ty_dict_tuple, ty_dict_dict, at_0, at_1, at_2, at_3, at_4, nat_0, nat_1, nat_2, nat_3, nat_4, nat_5, nat_6, at_end, at_end1, at_end2, at_end3, bools_t, all_t, Nat.reduceLT, Nat.reduceLeDiff, Int.reduceLT, Int.reduceLE, Int.reduceAdd, Int.reduceSub, Int.reduceMul, Int.reducePow, Int.reduceToNat, Int.reduceNeg, ifx_t, ifx_f, ifx_n, gx_ok, eqT_int, List.getElem?_cons_zero, List.getElem?_cons_succ, List.set_cons_zero, List.set_cons_succ, List.map_cons, List.map_nil, List.nil_append, List.cons_append, List.replicate_succ, List.replicate_zero, List.length_cons, List.length_nil, List.any_cons, List.any_nil, Nat.reduceAdd, Nat.reduceSub, Bool.or_false, Bool.or_true, Bool.false_or, Bool.true_or, Bool.not_true, Bool.not_false, Option.map_some, Option.bind_some, decide_true, decide_false, true_and, and_true, wipeL, ↓gg_KINDS, hw2, w1, I5.ho, List.length_map, hj, ol0, ej, ↓x_if, show row.length < 16777216 by omega, hw6, e11, hv0, w4, e12, w7, show row2.length < 16777216 by rw [List.length_singleton] at w6; omega]
              exact (I8.put F2 am w7 w6 w5 (zs := [v2]) fun y hy => by rw [List.mem_singleton.mp hy]; exact hv2).le (by simp)
            · rw [List.map_cons, List.map_nil] at e11
              simp only [↓x_var, ↓x_int, ↓x_bl, ↓x_non, ↓x_str, ↓x_bin, ↓x_cmp, ↓x_idx, ↓x_neg, ↓x_not, ↓x_isN, ↓x_isnN, ↓x_rev, ↓x_sset, ↓x_isiT, ↓x_chn, ↓x_ite, ↓x_and, ↓x_or, ↓x_and1, ↓x_or1, ↓x_and2, ↓x_or2, ↓x_tup, ↓x_lst, ↓x_dic, ↓x_slc, ↓x_call, ↓x_callK, ↓x_blt, ↓x_mth, ↓x_rngL, ↓x_rngT, ↓x_comp, ↓x_enil, ↓x_econs, ↓x_kv0, ↓x_kv, ↓x_ono, ↓x_oso, ↓x_cno, ↓x_cso, ↓x_val, ↓x_rng1, ↓x_rng2, ↓x_enum, ↓x_gvar, ↓x_gtup, ↓x_gtupR, ↓x_gsub, ↓x_gnil, ↓x_gcons, ↓x_snil, ↓x_scons, ↓x_pass, ↓x_expr, ↓x_ret, ↓x_retN, ↓x_set, ↓x_aug, ↓x_augO, ↓x_augA, ↓x_augS, ↓x_iff, ↓x_for, ↓x_whl, ↓x_brk, ↓x_cnt, ↓x_seqN, ↓x_seqR, ↓x_seqB, ↓x_seqC, ↓x_finR, ↓x_finN, ↓x_lk, ↓x_negR, ↓x_notR, ↓x_cnd, ↓x_oiR, ↓x_opt, ↓x_ob, ↓x_r1, ↓x_r2, ↓x_valT, ↓x_valF, ↓x_lst', ↓x_dk', ↓x_valL, ↓x_enumL, ↓x_mthL, ↓x_mth_append, ↓x_mth_extend, ↓x_mth_pop, ↓x_mth_get, ↓x_newT, ↓x_newL, ↓x_dicR, ↓x_add, ↓x_sub, ↓x_mul, ↓x_fdiv, ↓x_mod, ↓x_pow, ↓x_tadd, ↓x_ladd, ↓x_lt, ↓x_le, ↓x_gt, ↓x_ge, ↓x_eq, ↓x_ne, ↓x_inn, ↓x_nin, ↓x_tix, ↓x_rix, ↓x_ixL, ↓x_ixD, ↓x_setD, ↓x_stD, ↓x_stL, ↓x_app, ↓x_if, ↓x_ext, ↓x_pop, ↓x_lenT, ↓x_lenR, ↓x_lenL, ↓x_listT, ↓x_listL, ↓x_tupL, ↓x_tupT, ↓x_sortT, ↓x_sortL, ↓x_all, ↓x_any, ↓x_sum, ↓x_max2, ↓x_min2, ↓x_toint, ↓x_repr, ↓x_rep, ↓x_slcT, ↓x_slcF, ↓x_slcL, ↓x_revL, ↓x_ssetL, ↓x_isi_int, ↓x_isi_bool, ↓x_isi_NoneType, ↓x_isi_str, ↓x_isi_tuple, ↓x_isi_list, ↓gx_bd, ↓gx_ok, ↓x_loopN, ↓x_loopC, ↓x_loopB, ↓x_loopR, ty_NoneType_int, ty_NoneType_bool, ty_NoneType_str, ty_NoneType_list, ty_NoneType_tuple, ty_NoneType_dict, ty_int_int, ty_int_bool, ty_int_str, ty_int_list, ty_int_tuple, ty_int_dict, ty_bool_int, ty_bool_bool, ty_bool_str, ty_bool_list, ty_bool_tuple, ty_bool_dict, ty_str_int, ty_str_bool, ty_str_str, ty_str_list, ty_str_tuple, ty_str_dict, ty_tuple_int, ty_tuple_bool, ty_tuple_str, ty_tuple_list, ty_tuple_tuple, ty_tuple_dict, ty_list_int, ty_list_bool, ty_list_str, ty_list_list, ty_list_tuple, ty_list_dict, ty_dict_int, ty_dict_bool, ty_dict_str, ty_dict_list, ty_dict_tuple, ty_dict_dict, at_0, at_1, at_2, at_3, at_4, nat_0, nat_1, nat_2, nat_3, nat_4, nat_5, nat_6, at_end, at_end1, at_end2, at_end3, bools_t, all_t, Nat.reduceLT, Nat.reduceLeDiff, Int.reduceLT, Int.reduceLE, Int.reduceAdd, Int.reduceSub, Int.reduceMul, Int.reducePow, Int.reduceToNat, Int.reduceNeg, ifx_t, ifx_f, ifx_n, gx_ok, eqT_int, List.getElem?_cons_zero, List.getElem?_cons_succ, List.set_cons_zero, List.set_cons_succ, List.map_cons, List.map_nil, List.nil_append, List.cons_append, List.replicate_succ, List.replicate_zero, List.length_cons, List.length_nil, List.any_cons, List.any_nil, Nat.reduceAdd, Nat.reduceSub, Bool.or_false, Bool.or_true, Bool.false_or, Bool.true_or, Bool.not_true, Bool.not_false, Option.map_some, Option.bind_some, decide_true, decide_false, true_and, and_true, wipeL, ↓gg_KINDS, hw2, w1, I5.ho, List.length_map, hj, ol0, ej, ↓x_if, show row.length < 16777216 by omega, hw6, e11, hv0]
              exact I7.le (by simp)
          · simp only [↓x_var, ↓x_int, ↓x_bl, ↓x_non, ↓x_str, ↓x_bin, ↓x_cmp, ↓x_idx, ↓x_neg, ↓x_not, ↓x_isN, ↓x_isnN, ↓x_rev, ↓x_sset, ↓x_isiT, ↓x_chn, ↓x_ite, ↓x_and, ↓x_or, ↓x_and1, ↓x_or1, ↓x_and2, ↓x_or2, ↓x_tup, ↓x_lst, ↓x_dic, ↓x_slc, ↓x_call, ↓x_callK, ↓x_blt, ↓x_mth, ↓x_rngL, ↓x_rngT, ↓x_comp, ↓x_enil, ↓x_econs, ↓x_kv0, ↓x_kv, ↓x_ono, ↓x_oso, ↓x_cno, ↓x_cso, ↓x_val, ↓x_rng1, ↓x_rng2, ↓x_enum, ↓x_gvar, ↓x_gtup, ↓x_gtupR, ↓x_gsub, ↓x_gnil, ↓x_gcons, ↓x_snil, ↓x_scons, ↓x_pass, ↓x_expr, ↓x_ret, ↓x_retN, ↓x_set, ↓x_aug, ↓x_augO, ↓x_augA, ↓x_augS, ↓x_iff, ↓x_for, ↓x_whl, ↓x_brk, ↓x_cnt, ↓x_seqN, ↓x_seqR, ↓x_seqB, ↓x_seqC, ↓x_finR, ↓x_finN, ↓x_lk, ↓x_negR, ↓x_notR, ↓x_cnd, ↓x_oiR, ↓x_opt, ↓x_ob, ↓x_r1, ↓x_r2, ↓x_valT, ↓x_valF, ↓x_lst', ↓x_dk', ↓x_valL, ↓x_enumL, ↓x_mthL, ↓x_mth_append, ↓x_mth_extend, ↓x_mth_pop, ↓x_mth_get, ↓x_newT, ↓x_newL, ↓x_dicR, ↓x_add, ↓x_sub, ↓x_mul, ↓x_fdiv, ↓x_mod, ↓x_pow, ↓x_tadd, ↓x_ladd, ↓x_lt, ↓x_le, ↓x_gt, ↓x_ge, ↓x_eq, ↓x_ne, ↓x_inn, ↓x_nin, ↓x_tix, ↓x_rix, ↓x_ixL, ↓x_ixD, ↓x_setD, ↓x_stD, ↓x_stL, ↓x_app, ↓x_if, ↓x_ext, ↓x_pop, ↓x_lenT, ↓x_lenR, ↓x_lenL, ↓x_listT, ↓x_listL, ↓x_tupL, ↓x_tupT, ↓x_sortT, ↓x_sortL, ↓x_all, ↓x_any, ↓x_sum, ↓x_max2, ↓x_min2, ↓x_toint, ↓x_repr, ↓x_rep, ↓x_slcT, ↓x_slcF, ↓x_slcL, ↓x_revL, ↓x_ssetL, ↓x_isi_int, ↓x_isi_bool, ↓x_isi_NoneType, ↓x_isi_str, ↓x_isi_tuple, ↓x_isi_list, ↓gx_bd, ↓gx_ok, ↓x_loopN, ↓x_loopC, ↓x_loopB, ↓x_loopR, ty_NoneType_int, ty_NoneType_bool, ty_NoneType_str, ty_NoneType_list, ty_NoneType_tuple, ty_NoneType_dict, ty_int_int, ty_int_bool, ty_int_str, ty_int_list, ty_int_tuple, ty_int_dict, ty_bool_int, ty_bool_bool, ty_bool_str, ty_bool_list, ty_bool_tuple, ty_bool_dict, ty_str_int, ty_str_bool, ty_str_str, ty_str_list, ty_str_tuple, ty_str_dict, ty_tuple_int, ty_tuple_bool, ty_tuple_str, ty_tuple_list, ty_tuple_tuple, ty_tuple_dict, ty_list_int, ty_list_bool, ty_list_str, ty_list_list, ty_list_tuple, ty_list_dict, ty_dict_int, ty_dict_bool, ty_dict_str, ty_dict_list, ty_dict_tuple, ty_dict_dict, at_0, at_1, at_2, at_3, at_4, nat_0, nat_1, nat_2, nat_3, nat_4, nat_5, nat_6, at_end, at_end1, at_end2, at_end3, bools_t, all_t, Nat.reduceLT, Nat.reduceLeDiff, Int.reduceLT, Int.reduceLE, Int.reduceAdd, Int.reduceSub, Int.reduceMul, Int.reducePow, Int.reduceToNat, Int.reduceNeg, ifx_t, ifx_f, ifx_n, gx_ok, eqT_int, List.getElem?_cons_zero, List.getElem?_cons_succ, List.set_cons_zero, List.set_cons_succ, List.map_cons, List.map_nil, List.nil_append, List.cons_append, List.replicate_succ, List.replicate_zero, List.length_cons, List.length_nil, List.any_cons, List.any_nil, Nat.reduceAdd, Nat.reduceSub, Bool.or_false, Bool.or_true, Bool.false_or, Bool.true_or, Bool.not_true, Bool.not_false, Option.map_some, Option.bind_some, decide_true, decide_false, true_and, and_true, wipeL, ↓gg_KINDS, hw2, w1, I5.ho, List.length_map, hj, ol0, ej, ↓x_if, show row.length < 16777216 by omega, hw6]
            exact I6.le (by simp)
        · simp only [↓x_var, ↓x_int, ↓x_bl, ↓x_non, ↓x_str, ↓x_bin, ↓x_cmp, ↓x_idx, ↓x_neg, ↓x_not, ↓x_isN, ↓x_isnN, ↓x_rev, ↓x_sset, ↓x_isiT, ↓x_chn, ↓x_ite, ↓x_and, ↓x_or, ↓x_and1, ↓x_or1, ↓x_and2, ↓x_or2, ↓x_tup, ↓x_lst, ↓x_dic, ↓x_slc, ↓x_call, ↓x_callK, ↓x_blt, ↓x_mth, ↓x_rngL, ↓x_rngT, ↓x_comp, ↓x_enil, ↓x_econs, ↓x_kv0, ↓x_kv, ↓x_ono, ↓x_oso, ↓x_cno, ↓x_cso, ↓x_val, ↓x_rng1, ↓x_rng2, ↓x_enum, ↓x_gvar, ↓x_gtup, ↓x_gtupR, ↓x_gsub, ↓x_gnil, ↓x_gcons, ↓x_snil, ↓x_scons, ↓x_pass, ↓x_expr, ↓x_ret, ↓x_retN, ↓x_set, ↓x_aug, ↓x_augO, ↓x_augA, ↓x_augS, ↓x_iff, ↓x_for, ↓x_whl, ↓x_brk, ↓x_cnt, ↓x_seqN, ↓x_seqR, ↓x_seqB, ↓x_seqC, ↓x_finR, ↓x_finN, ↓x_lk, ↓x_negR, ↓x_notR, ↓x_cnd, ↓x_oiR, ↓x_opt, ↓x_ob, ↓x_r1, ↓x_r2, ↓x_valT, ↓x_valF, ↓x_lst', ↓x_dk', ↓x_valL, ↓x_enumL, ↓x_mthL, ↓x_mth_append, ↓x_mth_extend, ↓x_mth_pop, ↓x_mth_get, ↓x_newT, ↓x_newL, ↓x_dicR, ↓x_add, ↓x_sub, ↓x_mul, ↓x_fdiv, ↓x_mod, ↓x_pow, ↓x_tadd, ↓x_ladd, ↓x_lt, ↓x_le, ↓x_gt, ↓x_ge, ↓x_eq, ↓x_ne, ↓x_inn, ↓x_nin, ↓x_tix, ↓x_rix, ↓x_ixL, ↓x_ixD, ↓x_setD, ↓x_stD, ↓x_stL, ↓x_app, ↓x_if, ↓x_ext, ↓x_pop, ↓x_lenT, ↓x_lenR, ↓x_lenL, ↓x_listT, ↓x_listL, ↓x_tupL, ↓x_tupT, ↓x_sortT, ↓x_sortL, ↓x_all, ↓x_any, ↓x_sum, ↓x_max2, ↓x_min2, ↓x_toint, ↓x_repr, ↓x_rep, ↓x_slcT, ↓x_slcF, ↓x_slcL, ↓x_revL, ↓x_ssetL, ↓x_isi_int, ↓x_isi_bool, ↓x_isi_NoneType, ↓x_isi_str, ↓x_isi_tuple, ↓x_isi_list, ↓gx_bd, ↓gx_ok, ↓x_loopN, ↓x_loopC, ↓x_loopB, ↓x_loopR, ty_NoneType_int, ty_NoneType_bool, ty_NoneType_str, ty_NoneType_list, ty_NoneType_tuple, ty_NoneType_dict, ty_int_int, ty_int_bool, ty_int_str, ty_int_list, ty_int_tuple, ty_int_dict, ty_bool_int, ty_bool_bool, ty_bool_str, ty_bool_list, ty_bool_tuple, ty_bool_dict, ty_str_int, ty_str_bool, ty_str_str, ty_str_list, ty_str_tuple, ty_str_dict, ty_tuple_int, ty_tuple_bool, ty_tuple_str, ty_tuple_list, ty_tuple_tuple, ty_tuple_dict, ty_list_int, ty_list_bool, ty_list_str, ty_list_list, ty_list_tuple, ty_list_dict, ty_dict_int, ty_dict_bool, ty_dict_str, ty_dict_list, ty_dict_tuple, ty_dict_dict, at_0, at_1, at_2, at_3, at_4, nat_0, nat_1, nat_2, nat_3, nat_4, nat_5, nat_6, at_end, at_end1, at_end2, at_end3, bools_t, all_t, Nat.reduceLT, Nat.reduceLeDiff, Int.reduceLT, Int.reduceLE, Int.reduceAdd, Int.reduceSub, Int.reduceMul, Int.reducePow, Int.reduceToNat, Int.reduceNeg, ifx_t, ifx_f, ifx_n, gx_ok, eqT_int, List.getElem?_cons_zero, List.getElem?_cons_succ, List.set_cons_zero, List.set_cons_succ, List.map_cons, List.map_nil, List.nil_append, List.cons_append, List.replicate_succ, List.replicate_zero, List.length_cons, List.length_nil, List.any_cons, List.any_nil, Nat.reduceAdd, Nat.reduceSub, Bool.or_false, Bool.or_true, Bool.false_or, Bool.true_or, Bool.not_true, Bool.not_false, Option.map_some, Option.bind_some, decide_true, decide_false, true_and, and_true, wipeL, ↓gg_KINDS, hw2]
          exact I5.le (by omega)
      rintro p h11 ⟨rfl, I6⟩
      rw [x_seqN, x_snil, x_loopN]
      exact ⟨_, _, _, _, rfl, ⟨I6.d, I6.kp, I6.ho, I6.ho, I6.hf, fun b hb => by
        obtain ⟨row, w1, w2, w3⟩ := I6.row b hb
        exact ⟨row, w1, w2, by omega⟩⟩⟩
    · rintro l h5 ⟨a, b, d, e, rfl, I⟩
      rw [enumT_len, List.length_map] at I
      have I := I.le (M := 30) (by omega)
      simp only [↓x_var, ↓x_int, ↓x_bl, ↓x_non, ↓x_str, ↓x_bin, ↓x_cmp, ↓x_idx, ↓x_neg, ↓x_not, ↓x_isN, ↓x_isnN, ↓x_rev, ↓x_sset, ↓x_isiT, ↓x_chn, ↓x_ite, ↓x_and, ↓x_or, ↓x_and1, ↓x_or1, ↓x_and2, ↓x_or2, ↓x_tup, ↓x_lst, ↓x_dic, ↓x_slc, ↓x_call, ↓x_callK, ↓x_blt, ↓x_mth, ↓x_rngL, ↓x_rngT, ↓x_comp, ↓x_enil, ↓x_econs, ↓x_kv0, ↓x_kv, ↓x_ono, ↓x_oso, ↓x_cno, ↓x_cso, ↓x_val, ↓x_rng1, ↓x_rng2, ↓x_enum, ↓x_gvar, ↓x_gtup, ↓x_gtupR, ↓x_gsub, ↓x_gnil, ↓x_gcons, ↓x_snil, ↓x_scons, ↓x_pass, ↓x_expr, ↓x_ret, ↓x_retN, ↓x_set, ↓x_aug, ↓x_augO, ↓x_augA, ↓x_augS, ↓x_iff, ↓x_for, ↓x_whl, ↓x_brk, ↓x_cnt, ↓x_seqN, ↓x_seqR, ↓x_seqB, ↓x_seqC, ↓x_finR, ↓x_finN, ↓x_lk, ↓x_negR, ↓x_notR, ↓x_cnd, ↓x_oiR, ↓x_opt, ↓x_ob, ↓x_r1, ↓x_r2, ↓x_valT, ↓x_valF, ↓x_lst', ↓x_dk', ↓x_valL, ↓x_enumL, ↓x_mthL, ↓x_mth_append, ↓x_mth_extend, ↓x_mth_pop, ↓x_mth_get, ↓x_newT, ↓x_newL, ↓x_dicR, ↓x_add, ↓x_sub, ↓x_mul, ↓x_fdiv, ↓x_mod, ↓x_pow, ↓x_tadd, ↓x_ladd, ↓x_lt, ↓x_le, ↓x_gt, ↓x_ge, ↓x_eq, ↓x_ne, ↓x_inn, ↓x_nin, ↓x_tix, ↓x_rix, ↓x_ixL, ↓x_ixD, ↓x_setD, ↓x_stD, ↓x_stL, ↓x_app, ↓x_if, ↓x_ext, ↓x_pop, ↓x_lenT, ↓x_lenR, ↓x_lenL, ↓x_listT, ↓x_listL, ↓x_tupL, ↓x_tupT, ↓x_sortT, ↓x_sortL, ↓x_all, ↓x_any, ↓x_sum, ↓x_max2, ↓x_min2, ↓x_toint, ↓x_repr, ↓x_rep, ↓x_slcT, ↓x_slcF, ↓x_slcL, ↓x_revL, ↓x_ssetL, ↓x_isi_int, ↓x_isi_bool, ↓x_isi_NoneType, ↓x_isi_str, ↓x_isi_tuple, ↓x_isi_list, ↓gx_bd, ↓gx_ok, ↓x_loopN, ↓x_loopC, ↓x_loopB, ↓x_loopR, ty_NoneType_int, ty_NoneType_bool, ty_NoneType_str, ty_NoneType_list, ty_NoneType_tuple, ty_NoneType_dict, ty_int_int, ty_int_bool, ty_int_str, ty_int_list, ty_int_tuple, ty_int_dict, ty_bool_int, ty_bool_bool, ty_bool_str, ty_bool_list, ty_bool_tuple, ty_bool_dict, ty_str_int, ty_str_bool, ty_str_str, ty_str_list, ty_str_tuple, ty_str_dict, ty_tuple_int, ty_tuple_bool, ty_tuple_str, ty_tuple_list, ty_tuple_tuple, ty_tuple_dict, ty_list_int, ty_list_bool, ty_list_str, ty_list_list, ty_list_tuple, ty_list_dict, ty_dict_int, ty_dict_bool, ty_dict_str, ty_dict_list, ty_dict_tuple, ty_dict_dict, at_0, at_1, at_2, at_3, at_4, nat_0, nat_1, nat_2, nat_3, nat_4, nat_5, nat_6, at_end, at_end1, at_end2, at_end3, bools_t, all_t, Nat.reduceLT, Nat.reduceLeDiff, Int.reduceLT, Int.reduceLE, Int.reduceAdd, Int.reduceSub, Int.reduceMul, Int.reducePow, Int.reduceToNat, Int.reduceNeg, ifx_t, ifx_f, ifx_n, gx_ok, eqT_int, List.getElem?_cons_zero, List.getElem?_cons_succ, List.set_cons_zero, List.set_cons_succ, List.map_cons, List.map_nil, List.nil_append, List.cons_append, List.replicate_succ, List.replicate_zero, List.length_cons, List.length_nil, List.any_cons, List.any_nil, Nat.reduceAdd, Nat.reduceSub, Bool.or_false, Bool.or_true, Bool.false_or, Bool.true_or, Bool.not_true, Bool.not_false, Option.map_some, Option.bind_some, decide_true, decide_false, true_and, and_true, wipeL, ↓gg_KINDS, I.hf]
      refine gx_comp (fun i a h6 => ∃ B : Book, a = B.map webT ∧ B.length = i ∧ (∀ w ∈ B, GoodWeb k w) ∧ Inv h1 r c k h3.length h3.length h4.length ord ord rs 30 h6) ⟨[], rfl, rfl, fun _ h => (by cases h), I⟩ ?_ ?_ ?_
      · rintro i a h6 ⟨B, rfl, b1, b2, I6⟩ p hp
        rw [List.mem_singleton.mp hp]
        show mutL _ _ = _
        unfold mutL
        rw [I6.hf]
      · rintro i x a h6 hx ⟨B, rfl, b1, b2, I6⟩
        rw [List.getElem?_map] at hx
        obtain ⟨s, hs, rfl⟩ := Option.map_eq_some_iff.mp hx
        have hi := (List.getElem?_eq_some_iff.mp hs).1
        have sm := List.mem_of_getElem? hs
        obtain ⟨row, w1, w2, w3⟩ := I6.row s sm
        obtain ⟨h7, w, e7, gw, _, d7, k7⟩ := with_kinds (n := n) (K := k) I6.d w1 (F.out (F.rs0 s sm)) w2 (by omega)
        simp only [↓x_var, ↓x_int, ↓x_bl, ↓x_non, ↓x_str, ↓x_bin, ↓x_cmp, ↓x_idx, ↓x_neg, ↓x_not, ↓x_isN, ↓x_isnN, ↓x_rev, ↓x_sset, ↓x_isiT, ↓x_chn, ↓x_ite, ↓x_and, ↓x_or, ↓x_and1, ↓x_or1, ↓x_and2, ↓x_or2, ↓x_tup, ↓x_lst, ↓x_dic, ↓x_slc, ↓x_call, ↓x_callK, ↓x_blt, ↓x_mth, ↓x_rngL, ↓x_rngT, ↓x_comp, ↓x_enil, ↓x_econs, ↓x_kv0, ↓x_kv, ↓x_ono, ↓x_oso, ↓x_cno, ↓x_cso, ↓x_val, ↓x_rng1, ↓x_rng2, ↓x_enum, ↓x_gvar, ↓x_gtup, ↓x_gtupR, ↓x_gsub, ↓x_gnil, ↓x_gcons, ↓x_snil, ↓x_scons, ↓x_pass, ↓x_expr, ↓x_ret, ↓x_retN, ↓x_set, ↓x_aug, ↓x_augO, ↓x_augA, ↓x_augS, ↓x_iff, ↓x_for, ↓x_whl, ↓x_brk, ↓x_cnt, ↓x_seqN, ↓x_seqR, ↓x_seqB, ↓x_seqC, ↓x_finR, ↓x_finN, ↓x_lk, ↓x_negR, ↓x_notR, ↓x_cnd, ↓x_oiR, ↓x_opt, ↓x_ob, ↓x_r1, ↓x_r2, ↓x_valT, ↓x_valF, ↓x_lst', ↓x_dk', ↓x_valL, ↓x_enumL, ↓x_mthL, ↓x_mth_append, ↓x_mth_extend, ↓x_mth_pop, ↓x_mth_get, ↓x_newT, ↓x_newL, ↓x_dicR, ↓x_add, ↓x_sub, ↓x_mul, ↓x_fdiv, ↓x_mod, ↓x_pow, ↓x_tadd, ↓x_ladd, ↓x_lt, ↓x_le, ↓x_gt, ↓x_ge, ↓x_eq, ↓x_ne, ↓x_inn, ↓x_nin, ↓x_tix, ↓x_rix, ↓x_ixL, ↓x_ixD, ↓x_setD, ↓x_stD, ↓x_stL, ↓x_app, ↓x_if, ↓x_ext, ↓x_pop, ↓x_lenT, ↓x_lenR, ↓x_lenL, ↓x_listT, ↓x_listL, ↓x_tupL, ↓x_tupT, ↓x_sortT, ↓x_sortL, ↓x_all, ↓x_any, ↓x_sum, ↓x_max2, ↓x_min2, ↓x_toint, ↓x_repr, ↓x_rep, ↓x_slcT, ↓x_slcF, ↓x_slcL, ↓x_revL, ↓x_ssetL, ↓x_isi_int, ↓x_isi_bool, ↓x_isi_NoneType, ↓x_isi_str, ↓x_isi_tuple, ↓x_isi_list, ↓gx_bd, ↓gx_ok, ↓x_loopN, ↓x_loopC, ↓x_loopB, ↓x_loopR, ty_NoneType_int, ty_NoneType_bool, ty_NoneType_str, ty_NoneType_list, ty_NoneType_tuple, ty_NoneType_dict, ty_int_int, ty_int_bool, ty_int_str, ty_int_list, ty_int_tuple, ty_int_dict, ty_bool_int, ty_bool_bool, ty_bool_str, ty_bool_list, ty_bool_tuple, ty_bool_dict, ty_str_int, ty_str_bool, ty_str_str, ty_str_list, ty_str_tuple, ty_str_dict, ty_tuple_int, ty_tuple_bool, ty_tuple_str, ty_tuple_list, ty_tuple_tuple, ty_tuple_dict, ty_list_int, ty_list_bool, ty_list_str, ty_list_list, ty_list_tuple, ty_list_dict, ty_dict_int, ty_dict_bool, ty_dict_str, ty_dict_list, ty_dict_tuple, ty_dict_dict, at_0, at_1, at_2, at_3, at_4, nat_0, nat_1, nat_2, nat_3, nat_4, nat_5, nat_6, at_end, at_end1, at_end2, at_end3, bools_t, all_t, Nat.reduceLT, Nat.reduceLeDiff, Int.reduceLT, Int.reduceLE, Int.reduceAdd, Int.reduceSub, Int.reduceMul, Int.reducePow, Int.reduceToNat, Int.reduceNeg, ifx_t, ifx_f, ifx_n, gx_ok, eqT_int, List.getElem?_cons_zero, List.getElem?_cons_succ, List.set_cons_zero, List.set_cons_succ, List.map_cons, List.map_nil, List.nil_append, List.cons_append, List.replicate_succ, List.replicate_zero, List.length_cons, List.length_nil, List.any_cons, List.any_nil, Nat.reduceAdd, Nat.reduceSub, Bool.or_false, Bool.or_true, Bool.false_or, Bool.true_or, Bool.not_true, Bool.not_false, Option.map_some, Option.bind_some, decide_true, decide_false, true_and, and_true, wipeL, ↓gg_KINDS, e7, List.length_map]
        refine ⟨by have := F.rsl; omega, B ++ [w], by rw [List.map_append]; rfl, by rw [List.length_append, b1]; rfl, fun u hu => ?_, I6.keep F k7 d7⟩
        rcases List.mem_append.mp hu with z | z
        · exact b2 u z
        · rw [List.mem_singleton.mp z]
          exact gw
      · rintro a h6 ⟨B, rfl, b1, b2, I6⟩
        rw [List.length_map] at b1
        have bl : (B.length : Int) = k := by have := F.rsl; omega
        simp only [↓x_var, ↓x_int, ↓x_bl, ↓x_non, ↓x_str, ↓x_bin, ↓x_cmp, ↓x_idx, ↓x_neg, ↓x_not, ↓x_isN, ↓x_isnN, ↓x_rev, ↓x_sset, ↓x_isiT, ↓x_chn, ↓x_ite, ↓x_and, ↓x_or, ↓x_and1, ↓x_or1, ↓x_and2, ↓x_or2, ↓x_tup, ↓x_lst, ↓x_dic, ↓x_slc, ↓x_call, ↓x_callK, ↓x_blt, ↓x_mth, ↓x_rngL, ↓x_rngT, ↓x_comp, ↓x_enil, ↓x_econs, ↓x_kv0, ↓x_kv, ↓x_ono, ↓x_oso, ↓x_cno, ↓x_cso, ↓x_val, ↓x_rng1, ↓x_rng2, ↓x_enum, ↓x_gvar, ↓x_gtup, ↓x_gtupR, ↓x_gsub, ↓x_gnil, ↓x_gcons, ↓x_snil, ↓x_scons, ↓x_pass, ↓x_expr, ↓x_ret, ↓x_retN, ↓x_set, ↓x_aug, ↓x_augO, ↓x_augA, ↓x_augS, ↓x_iff, ↓x_for, ↓x_whl, ↓x_brk, ↓x_cnt, ↓x_seqN, ↓x_seqR, ↓x_seqB, ↓x_seqC, ↓x_finR, ↓x_finN, ↓x_lk, ↓x_negR, ↓x_notR, ↓x_cnd, ↓x_oiR, ↓x_opt, ↓x_ob, ↓x_r1, ↓x_r2, ↓x_valT, ↓x_valF, ↓x_lst', ↓x_dk', ↓x_valL, ↓x_enumL, ↓x_mthL, ↓x_mth_append, ↓x_mth_extend, ↓x_mth_pop, ↓x_mth_get, ↓x_newT, ↓x_newL, ↓x_dicR, ↓x_add, ↓x_sub, ↓x_mul, ↓x_fdiv, ↓x_mod, ↓x_pow, ↓x_tadd, ↓x_ladd, ↓x_lt, ↓x_le, ↓x_gt, ↓x_ge, ↓x_eq, ↓x_ne, ↓x_inn, ↓x_nin, ↓x_tix, ↓x_rix, ↓x_ixL, ↓x_ixD, ↓x_setD, ↓x_stD, ↓x_stL, ↓x_app, ↓x_if, ↓x_ext, ↓x_pop, ↓x_lenT, ↓x_lenR, ↓x_lenL, ↓x_listT, ↓x_listL, ↓x_tupL, ↓x_tupT, ↓x_sortT, ↓x_sortL, ↓x_all, ↓x_any, ↓x_sum, ↓x_max2, ↓x_min2, ↓x_toint, ↓x_repr, ↓x_rep, ↓x_slcT, ↓x_slcF, ↓x_slcL, ↓x_revL, ↓x_ssetL, ↓x_isi_int, ↓x_isi_bool, ↓x_isi_NoneType, ↓x_isi_str, ↓x_isi_tuple, ↓x_isi_list, ↓gx_bd, ↓gx_ok, ↓x_loopN, ↓x_loopC, ↓x_loopB, ↓x_loopR, ty_NoneType_int, ty_NoneType_bool, ty_NoneType_str, ty_NoneType_list, ty_NoneType_tuple, ty_NoneType_dict, ty_int_int, ty_int_bool, ty_int_str, ty_int_list, ty_int_tuple, ty_int_dict, ty_bool_int, ty_bool_bool, ty_bool_str, ty_bool_list, ty_bool_tuple, ty_bool_dict, ty_str_int, ty_str_bool, ty_str_str, ty_str_list, ty_str_tuple, ty_str_dict, ty_tuple_int, ty_tuple_bool, ty_tuple_str, ty_tuple_list, ty_tuple_tuple, ty_tuple_dict, ty_list_int, ty_list_bool, ty_list_str, ty_list_list, ty_list_tuple, ty_list_dict, ty_dict_int, ty_dict_bool, ty_dict_str, ty_dict_list, ty_dict_tuple, ty_dict_dict, at_0, at_1, at_2, at_3, at_4, nat_0, nat_1, nat_2, nat_3, nat_4, nat_5, nat_6, at_end, at_end1, at_end2, at_end3, bools_t, all_t, Nat.reduceLT, Nat.reduceLeDiff, Int.reduceLT, Int.reduceLE, Int.reduceAdd, Int.reduceSub, Int.reduceMul, Int.reducePow, Int.reduceToNat, Int.reduceNeg, ifx_t, ifx_f, ifx_n, gx_ok, eqT_int, List.getElem?_cons_zero, List.getElem?_cons_succ, List.set_cons_zero, List.set_cons_succ, List.map_cons, List.map_nil, List.nil_append, List.cons_append, List.replicate_succ, List.replicate_zero, List.length_cons, List.length_nil, List.any_cons, List.any_nil, Nat.reduceAdd, Nat.reduceSub, Bool.or_false, Bool.or_true, Bool.false_or, Bool.true_or, Bool.not_true, Bool.not_false, Option.map_some, Option.bind_some, decide_true, decide_false, true_and, and_true, wipeL, ↓gg_KINDS]
        exact ⟨B, rfl, ⟨by omega, by omega, by rw [bl]; exact b2⟩, bl, I6.d.keep (.app _), k1.trans (I6.kp.trans (.app _))⟩
  obtain ⟨x, h2, e2, w, rfl, q⟩ := gx_ex z
  exact ⟨_, w, e2, q⟩
end
end K59


set_option Elab.async false
set_option linter.all false
set_option maxRecDepth 100000
namespace K59
open PySem MP L2
section
variable {h : Hh} {n : Nat}
set_option maxHeartbeats 1000000 in
theorem mk_garden {r c : Nat} (d : Deck h r c) : ∃ (h' : Hh) (w : Int × List Tie) (B : Book), callN D (n + 4) "_law_garden" [.ref r] h = .ok (gardenT w B) h' ∧ GoodWeb B.length w ∧ GoodBook B ∧ w.2.length ≤ 5 ∧ Deck h' r c ∧ Keep [r, c] h h' := by
  obtain ⟨h1, x, e1, hx, d1, k1⟩ := pick (n := n + 1) (d.keep (.app [O.lst [.int 3, .int 2, .int 3, .int 3, .int 1]])) at_end (d.not_in (Nat.le_refl _)) (by decide)
  have hx2 : ∃ k, x = .int k ∧ 1 ≤ k ∧ k ≤ 3 := by
    simp only [List.mem_cons, List.not_mem_nil, or_false] at hx
    rcases hx with rfl | rfl | rfl | rfl | rfl <;> exact ⟨_, rfl, by decide⟩
  obtain ⟨k, rfl, hk⟩ := hx2
  obtain ⟨h2, x, e2, hx, d2, k2⟩ := pick (n := n + 1) (d1.keep (.app [O.lst [.int 1, .int 2, .int 1, .int 3, .int 0, .int 5]])) at_end (d1.not_in (Nat.le_refl _)) (by decide)
  have hx2 : ∃ m, x = .int m ∧ 0 ≤ m ∧ m ≤ 5 := by
    simp only [List.mem_cons, List.not_mem_nil, or_false] at hx
    rcases hx with rfl | rfl | rfl | rfl | rfl | rfl <;> exact ⟨_, rfl, by decide⟩
  obtain ⟨m, rfl, hm⟩ := hx2
  have z : Gx (callN D (n + 4) "_law_garden" [.ref r] h) (P := ⟨fun a h2 => ∃ w B, a = gardenT w B ∧ GoodWeb (B.length : Int) w ∧ GoodBook B ∧ w.2.length ≤ 5 ∧ Deck h2 r c ∧ Keep [r, c] h h2⟩) := by
    refine call_gx f__law_garden rfl ?_
    simp only [↓x_var, ↓x_int, ↓x_bl, ↓x_non, ↓x_str, ↓x_bin, ↓x_cmp, ↓x_idx, ↓x_neg, ↓x_not, ↓x_isN, ↓x_isnN, ↓x_rev, ↓x_sset, ↓x_isiT, ↓x_chn, ↓x_ite, ↓x_and, ↓x_or, ↓x_and1, ↓x_or1, ↓x_and2, ↓x_or2, ↓x_tup, ↓x_lst, ↓x_dic, ↓x_slc, ↓x_call, ↓x_callK, ↓x_blt, ↓x_mth, ↓x_rngL, ↓x_rngT, ↓x_comp, ↓x_enil, ↓x_econs, ↓x_kv0, ↓x_kv, ↓x_ono, ↓x_oso, ↓x_cno, ↓x_cso, ↓x_val, ↓x_rng1, ↓x_rng2, ↓x_enum, ↓x_gvar, ↓x_gtup, ↓x_gtupR, ↓x_gsub, ↓x_gnil, ↓x_gcons, ↓x_snil, ↓x_scons, ↓x_pass, ↓x_expr, ↓x_ret, ↓x_retN, ↓x_set, ↓x_aug, ↓x_augO, ↓x_augA, ↓x_augS, ↓x_iff, ↓x_for, ↓x_whl, ↓x_brk, ↓x_cnt, ↓x_seqN, ↓x_seqR, ↓x_seqB, ↓x_seqC, ↓x_finR, ↓x_finN, ↓x_lk, ↓x_negR, ↓x_notR, ↓x_cnd, ↓x_oiR, ↓x_opt, ↓x_ob, ↓x_r1, ↓x_r2, ↓x_valT, ↓x_valF, ↓x_lst', ↓x_dk', ↓x_valL, ↓x_enumL, ↓x_mthL, ↓x_mth_append, ↓x_mth_extend, ↓x_mth_pop, ↓x_mth_get, ↓x_newT, ↓x_newL, ↓x_dicR, ↓x_add, ↓x_sub, ↓x_mul, ↓x_fdiv, ↓x_mod, ↓x_pow, ↓x_tadd, ↓x_ladd, ↓x_lt, ↓x_le, ↓x_gt, ↓x_ge, ↓x_eq, ↓x_ne, ↓x_inn, ↓x_nin, ↓x_tix, ↓x_rix, ↓x_ixL, ↓x_ixD, ↓x_setD, ↓x_stD, ↓x_stL, ↓x_app, ↓x_if, ↓x_ext, ↓x_pop, ↓x_lenT, ↓x_lenR, ↓x_lenL, ↓x_listT, ↓x_listL, ↓x_tupL, ↓x_tupT, ↓x_sortT, ↓x_sortL, ↓x_all, ↓x_any, ↓x_sum, ↓x_max2, ↓x_min2, ↓x_toint, ↓x_repr, ↓x_rep, ↓x_slcT, ↓x_slcF, ↓x_slcL, ↓x_revL, ↓x_ssetL, ↓x_isi_int, ↓x_isi_bool, ↓x_isi_NoneType, ↓x_isi_str, ↓x_isi_tuple, ↓x_isi_list, ↓gx_bd, ↓gx_ok, ↓x_loopN, ↓x_loopC, ↓x_loopB, ↓x_loopR, ty_NoneType_int, ty_NoneType_bool, ty_NoneType_str, ty_NoneType_list, ty_NoneType_tuple, ty_NoneType_dict, ty_int_int, ty_int_bool, ty_int_str, ty_int_list, ty_int_tuple, ty_int_dict, ty_bool_int, ty_bool_bool, ty_bool_str, ty_bool_list, ty_bool_tuple, ty_bool_dict, ty_str_int, ty_str_bool, ty_str_str, ty_str_list, ty_str_tuple, ty_str_dict, ty_tuple_int, ty_tuple_bool, ty_tuple_str, ty_tuple_list, ty_tuple_tuple, ty_tuple_dict, ty_list_int, ty_list_bool, ty_list_str, ty_list_list, ty_list_tuple, ty_list_dict, ty_dict_int, ty_dict_bool, ty_dict_str, ty_dict_list, ty_dict_tuple, ty_dict_dict, at_0, at_1, at_2, at_3, at_4, nat_0, nat_1, nat_2, nat_3, nat_4, nat_5, nat_6, at_end, at_end1, at_end2, at_end3, bools_t, all_t, Nat.reduceLT, Nat.reduceLeDiff, Int.reduceLT, Int.reduceLE, Int.reduceAdd, Int.reduceSub, Int.reduceMul, Int.reducePow, Int.reduceToNat, Int.reduceNeg, ifx_t, ifx_f, ifx_n, gx_ok, eqT_int, List.getElem?_cons_zero, List.getElem?_cons_succ, List.set_cons_zero, List.set_cons_succ, List.map_cons, List.map_nil, List.nil_append, List.cons_append, List.replicate_succ, List.replicate_zero, List.length_cons, List.length_nil, List.any_cons, List.any_nil, Nat.reduceAdd, Nat.reduceSub, Bool.or_false, Bool.or_true, Bool.false_or, Bool.true_or, Bool.not_true, Bool.not_false, Option.map_some, Option.bind_some, decide_true, decide_false, true_and, and_true, wipeL, ↓gg_KINDS, e1, Nat.zero_le, Nat.reduceLeDiff, show (5 : Nat) ≤ 16777216 by decide, show (6 : Nat) ≤ 16777216 by decide, e2, rgOk_of (i := 0) (j := m) (by omega)]
    refine comp_draw d2 hk (by omega) rfl rfl (by decide) (show (3 : Nat) < 4 by decide) ?_
    intro h3 ys y1 y2 d3 k3
    obtain ⟨h4, w, e4, gw, wl, d4, k4⟩ := with_kinds (n := n + 1) (K := k) (d3.keep (.app [O.lst (ys.map T.int)])) at_end (d3.not_in (Nat.le_refl _)) y1 (by omega)
    obtain ⟨h5, B, e5, gb, bl, d5, k5⟩ := mk_book (n := n) d4 hk
    simp only [↓x_var, ↓x_int, ↓x_bl, ↓x_non, ↓x_str, ↓x_bin, ↓x_cmp, ↓x_idx, ↓x_neg, ↓x_not, ↓x_isN, ↓x_isnN, ↓x_rev, ↓x_sset, ↓x_isiT, ↓x_chn, ↓x_ite, ↓x_and, ↓x_or, ↓x_and1, ↓x_or1, ↓x_and2, ↓x_or2, ↓x_tup, ↓x_lst, ↓x_dic, ↓x_slc, ↓x_call, ↓x_callK, ↓x_blt, ↓x_mth, ↓x_rngL, ↓x_rngT, ↓x_comp, ↓x_enil, ↓x_econs, ↓x_kv0, ↓x_kv, ↓x_ono, ↓x_oso, ↓x_cno, ↓x_cso, ↓x_val, ↓x_rng1, ↓x_rng2, ↓x_enum, ↓x_gvar, ↓x_gtup, ↓x_gtupR, ↓x_gsub, ↓x_gnil, ↓x_gcons, ↓x_snil, ↓x_scons, ↓x_pass, ↓x_expr, ↓x_ret, ↓x_retN, ↓x_set, ↓x_aug, ↓x_augO, ↓x_augA, ↓x_augS, ↓x_iff, ↓x_for, ↓x_whl, ↓x_brk, ↓x_cnt, ↓x_seqN, ↓x_seqR, ↓x_seqB, ↓x_seqC, ↓x_finR, ↓x_finN, ↓x_lk, ↓x_negR, ↓x_notR, ↓x_cnd, ↓x_oiR, ↓x_opt, ↓x_ob, ↓x_r1, ↓x_r2, ↓x_valT, ↓x_valF, ↓x_lst', ↓x_dk', ↓x_valL, ↓x_enumL, ↓x_mthL, ↓x_mth_append, ↓x_mth_extend, ↓x_mth_pop, ↓x_mth_get, ↓x_newT, ↓x_newL, ↓x_dicR, ↓x_add, ↓x_sub, ↓x_mul, ↓x_fdiv, ↓x_mod, ↓x_pow, ↓x_tadd, ↓x_ladd, ↓x_lt, ↓x_le, ↓x_gt, ↓x_ge, ↓x_eq, ↓x_ne, ↓x_inn, ↓x_nin, ↓x_tix, ↓x_rix, ↓x_ixL, ↓x_ixD, ↓x_setD, ↓x_stD, ↓x_stL, ↓x_app, ↓x_if, ↓x_ext, ↓x_pop, ↓x_lenT, ↓x_lenR, ↓x_lenL, ↓x_listT, ↓x_listL, ↓x_tupL, ↓x_tupT, ↓x_sortT, ↓x_sortL, ↓x_all, ↓x_any, ↓x_sum, ↓x_max2, ↓x_min2, ↓x_toint, ↓x_repr, ↓x_rep, ↓x_slcT, ↓x_slcF, ↓x_slcL, ↓x_revL, ↓x_ssetL, ↓x_isi_int, ↓x_isi_bool, ↓x_isi_NoneType, ↓x_isi_str, ↓x_isi_tuple, ↓x_isi_list, ↓gx_bd, ↓gx_ok, ↓x_loopN, ↓x_loopC, ↓x_loopB, ↓x_loopR, ty_NoneType_int, ty_NoneType_bool, ty_NoneType_str, ty_NoneType_list, ty_NoneType_tuple, ty_NoneType_dict, ty_int_int, ty_int_bool, ty_int_str, ty_int_list, ty_int_tuple, ty_int_dict, ty_bool_int, ty_bool_bool, ty_bool_str, ty_bool_list, ty_bool_tuple, ty_bool_dict, ty_str_int, ty_str_bool, ty_str_str, ty_str_list, ty_str_tuple, ty_str_dict, ty_tuple_int, ty_tuple_bool, ty_tuple_str, ty_tuple_list, ty_tuple_tuple, ty_tuple_dict, ty_list_int, ty_list_bool, ty_list_str, ty_list_list, ty_list_tuple, ty_list_dict, ty_dict_int, ty_dict_bool, ty_dict_str, ty_dict_list, ty_dict_tuple, ty_dict_dict, at_0, at_1, at_2, at_3, at_4, nat_0, nat_1, nat_2, nat_3, nat_4, nat_5, nat_6, at_end, at_end1, at_end2, at_end3, bools_t, all_t, Nat.reduceLT, Nat.reduceLeDiff, Int.reduceLT, Int.reduceLE, Int.reduceAdd, Int.reduceSub, Int.reduceMul, Int.reducePow, Int.reduceToNat, Int.reduceNeg, ifx_t, ifx_f, ifx_n, gx_ok, eqT_int, List.getElem?_cons_zero, List.getElem?_cons_succ, List.set_cons_zero, List.set_cons_succ, List.map_cons, List.map_nil, List.nil_append, List.cons_append, List.replicate_succ, List.replicate_zero, List.length_cons, List.length_nil, List.any_cons, List.any_nil, Nat.reduceAdd, Nat.reduceSub, Bool.or_false, Bool.or_true, Bool.false_or, Bool.true_or, Bool.not_true, Bool.not_false, Option.map_some, Option.bind_some, decide_true, decide_false, true_and, and_true, wipeL, ↓gg_KINDS, e4, e5, Nat.reduceLeDiff, show (2 : Nat) ≤ 16777216 by decide]
    exact ⟨w, B, rfl, by rw [bl]; exact gw, gb, by omega, d5, ((Keep.app _).trans k1).trans (((Keep.app _).trans k2).trans (k3.trans ((Keep.app _).trans (k4.trans k5))))⟩
  obtain ⟨x, h2, e2, w, B, rfl, q⟩ := gx_ex z
  exact ⟨_, w, B, e2, q⟩
end
/-! ### the closure on three kinds -/
def gt (l : List Bool) (c d : Nat) : Bool := l.getD (3 * c + d) false
def tab (m : Nat → Nat → Bool) : List Bool := [m 0 0, m 0 1, m 0 2, m 1 0, m 1 1, m 1 2, m 2 0, m 2 1, m 2 2]
def st1 (l : List Bool) : List Bool := tab fun c d => gt l c d || (gt l c 0 && gt l 0 d) || (gt l c 1 && gt l 1 d) || (gt l c 2 && gt l 2 d)
def withB : List Bool → (List Bool → Bool) → Bool
  | [], k => k []
  | true :: r, k => withB r fun r' => k (true :: r')
  | false :: r, k => withB r fun r' => k (false :: r')
theorem withB_eq : ∀ (l : List Bool) (k : List Bool → Bool), withB l k = k l
  | [], k => rfl
  | true :: r, k => withB_eq r _
  | false :: r, k => withB_eq r _
def trs (l : List Bool) : Bool := [0, 1, 2].all fun c => [0, 1, 2].all fun d => [0, 1, 2].all fun e => !(gt l c d && gt l d e) || gt l c e
def chk3 (l : List Bool) : Bool := withB (st1 l) fun l1 => withB (st1 l1) fun l2 => withB (st1 l2) trs
def allB : Nat → (List Bool → Bool) → Bool
  | 0, p => p []
  | n + 1, p => allB n (fun r => p (true :: r)) && allB n (fun r => p (false :: r))
theorem allB_ok : ∀ (n : Nat) (p : List Bool → Bool), allB n p = true → ∀ l : List Bool, l.length = n → p l = true
  | 0, p, h, [], _ => h
  | n + 1, p, h, b :: l, e => by
    obtain ⟨h1, h2⟩ := Bool.and_eq_true_iff.mp (show (allB n (fun r => p (true :: r)) && allB n (fun r => p (false :: r))) = true from h)
    cases b with
    | true => exact allB_ok n _ h1 l (by simpa using e)
    | false => exact allB_ok n _ h2 l (by simpa using e)
theorem all_chk3 : allB 9 chk3 = true := by decide +kernel
theorem tr3 (m : Nat → Nat → Bool) {c d e : Nat} (hc : c < 3) (hd : d < 3) (he : e < 3) (h1 : gt (st1 (st1 (st1 (tab m)))) c d = true) (h2 : gt (st1 (st1 (st1 (tab m)))) d e = true) : gt (st1 (st1 (st1 (tab m)))) c e = true := by
  have h := allB_ok 9 chk3 all_chk3 (tab m) rfl
  unfold chk3 at h
  rw [withB_eq, withB_eq, withB_eq] at h
  unfold trs at h
  rw [List.all_eq_true] at h
  have mem : ∀ x : Nat, x < 3 → x ∈ [0, 1, 2] := fun x hx => by
    simp
    omega
  have q := h c (mem c hc)
  rw [List.all_eq_true] at q
  have q := q d (mem d hd)
  rw [List.all_eq_true] at q
  have q := q e (mem e he)
  rw [h1, h2] at q
  simpa using q
theorem gt_tab (m : Nat → Nat → Bool) {c d : Nat} (hc : c < 3) (hd : d < 3) : gt (tab m) c d = m c d := by
  have h1 : c = 0 ∨ c = 1 ∨ c = 2 := by omega
  have h2 : d = 0 ∨ d = 1 ∨ d = 2 := by omega
  rcases h1 with rfl | rfl | rfl <;> rcases h2 with rfl | rfl | rfl <;> rfl
def Stp (P : Nat → Nat → Prop) (c d : Nat) : Prop := P c d ∨ ∃ e, e < 3 ∧ P c e ∧ P e d
theorem st1_iff {l : List Bool} {P : Nat → Nat → Prop} (h : ∀ c d, c < 3 → d < 3 → (gt l c d = true ↔ P c d)) {c d : Nat} (hc : c < 3) (hd : d < 3) : gt (st1 l) c d = true ↔ Stp P c d := by
  unfold st1
  rw [gt_tab _ hc hd]
  simp only [Bool.or_eq_true, Bool.and_eq_true]
  rw [h c d hc hd, h c 0 hc (by decide), h 0 d (by decide) hd, h c 1 hc (by decide), h 1 d (by decide) hd, h c 2 hc (by decide), h 2 d (by decide) hd]
  unfold Stp
  constructor
  · rintro (((q | q) | q) | q)
    · exact .inl q
    · exact .inr ⟨0, by decide, q⟩
    · exact .inr ⟨1, by decide, q⟩
    · exact .inr ⟨2, by decide, q⟩
  · rintro (q | ⟨e, he, q⟩)
    · exact .inl (.inl (.inl q))
    · have h1 : e = 0 ∨ e = 1 ∨ e = 2 := by omega
      rcases h1 with rfl | rfl | rfl
      · exact .inl (.inl (.inr q))
      · exact .inl (.inr q)
      · exact .inr q
/-- three rounds give all that is led to -/
theorem rounds {B : Book} (g : GoodBook B) {P : Nat → Nat → Prop} (hP : ∀ c d : Nat, P c d ↔ (d : Int) ∈ kindsAt B c) {c d : Nat} (hc : c < 3) (hd : d < 3) : Stp (Stp (Stp P)) c d ↔ Rch B c d := by
  have b0 : ∀ c d, c < 3 → d < 3 → (gt (tab fun c d => decide ((d : Int) ∈ kindsAt B c)) c d = true ↔ P c d) := fun c d hc hd => by
    rw [gt_tab _ hc hd, decide_eq_true_eq, hP]
  have b3 : ∀ c d, c < 3 → d < 3 → (gt (st1 (st1 (st1 (tab fun c d => decide ((d : Int) ∈ kindsAt B c))))) c d = true ↔ Stp (Stp (Stp P)) c d) :=
    fun c d hc hd => st1_iff (fun c d hc hd => st1_iff (fun c d hc hd => st1_iff b0 hc hd) hc hd) hc hd
  constructor
  · have up : ∀ {P : Nat → Nat → Prop}, (∀ c d, P c d → Rch B c d) → ∀ c d, Stp P c d → Rch B c d := fun {P} h c d q => by
      rcases q with q | ⟨e, _, q1, q2⟩
      · exact h c d q
      · exact (h c e q1).trans (h e d q2)
    exact up (up (up fun c d q => .one ((hP c d).mp q))) c d
  · intro h
    have key : ∀ {x y : Int}, Rch B x y → ∀ c d : Nat, x = c → y = d → c < 3 → d < 3 → Stp (Stp (Stp P)) c d := by
      intro x y h
      induction h with
      | one h =>
        intro c d e1 e2 _ _
        subst e1 e2
        exact .inl (.inl (.inl ((hP c d).mpr h)))
      | more h1 h2 ih =>
        rename_i y' z'
        intro c d e1 e2 hc hd
        subst e1 e2
        have hr := h1.lt g
        have l3 := g.l3
        have ey : y' = (y'.toNat : Int) := by omega
        have hy : y'.toNat < 3 := by omega
        have q1 := ih c y'.toNat rfl ey hc hy
        rw [ey] at h2
        have q2 : Stp (Stp (Stp P)) y'.toNat d := .inl (.inl (.inl ((hP _ d).mpr h2)))
        exact (b3 c d hc hd).mp (tr3 _ hc hy hd ((b3 c _ hc hy).mpr q1) ((b3 _ d hy hd).mpr q2))
    exact key h c d rfl rfl hc hd
end K59


set_option Elab.async false
set_option linter.all false
set_option maxRecDepth 100000
namespace K59
open PySem MP L2
def irange (b : Int) : List Int := (List.range b.toNat).map fun i => (0 : Int) + (i : Nat)
theorem rangeT_eq (b : Int) : rangeT 0 b = (irange b).map T.int := by
  unfold rangeT irange
  rw [List.map_map, Int.sub_zero]
  rfl
theorem mem_irange {b x : Int} : x ∈ irange b ↔ 0 ≤ x ∧ x < b := by
  unfold irange
  simp only [List.mem_map, List.mem_range]
  constructor
  · rintro ⟨i, hi, rfl⟩
    omega
  · intro h
    exact ⟨x.toNat, by omega, by omega⟩
theorem irange_pw (b : Int) : (irange b).Pairwise (· < ·) := by
  unfold irange
  rw [List.pairwise_map]
  exact List.pairwise_lt_range.imp fun {a b} h => by omega
theorem irange_len (b : Int) : (irange b).length = b.toNat := by
  unfold irange
  simp
structure Mat (h0 h : Hh) (f : Nat) (M : List (List Int)) : Prop where
  ex : ∃ rs : List Nat, h[f]? = some (.lst (rs.map T.ref)) ∧ rs.length = M.length ∧ (∀ a ∈ rs, h0.length ≤ a) ∧ ∀ (i a : Nat), rs[i]? = some a → ∃ row, M[i]? = some row ∧ h[a]? = some (.lst (row.map T.int))
theorem Mat.keep {h0 h h' : Hh} {f : Nat} {M : List (List Int)} (m : Mat h0 h f M) (k : Keep [] h h') : Mat h0 h' f M := by
  obtain ⟨rs, h1, h2, h3, h4⟩ := m.ex
  exact ⟨rs, k.lst (by simp) h1, h2, h3, fun i a e => by
    obtain ⟨row, q1, q2⟩ := h4 i a e
    exact ⟨row, q1, k.lst (by simp) q2⟩⟩
def rel (M : List (List Int)) (c d : Nat) : Prop := ∃ row, M[c]? = some row ∧ (d : Int) ∈ row
structure GM (k : Int) (M : List (List Int)) : Prop where
  len : (M.length : Int) = k
  row : ∀ row ∈ M, row.length ≤ 40 ∧ ∀ x ∈ row, 0 ≤ x ∧ x < k
/-- one round, row by row -/
structure Nxt (k : Int) (M : List (List Int)) (j : Nat) (row2 : List Int) : Prop where
  len : row2.length ≤ 40
  mem : ∀ d, d ∈ row2 ↔ (0 ≤ d ∧ d < k) ∧ ∃ row, M[j]? = some row ∧ (d ∈ row ∨ ∃ e ∈ row, ∃ row3, M[e.toNat]? = some row3 ∧ d ∈ row3)
def itS : Nat → (Nat → Nat → Prop) → Nat → Nat → Prop
  | 0, P => P
  | i + 1, P => Stp (itS i P)
section
variable {h : Hh} {n : Nat}
theorem filt_int (L : List Int) (p : Int → Bool) : ((L.map T.int).filter (fun x => match x with | .int i => p i | _ => false)).map id = (L.filter p).map T.int := by
  rw [List.map_id, List.filter_map]
  rfl
/-- [c for c in range(k) if c in more] -/
theorem comp_in {k : Int} {g m : Nat} {ms : List Int} {own : List Nat} {ls : Ls} {Q : T → Hh → Prop} {C : String → List T → Hh → R T} (hk : k ≤ 3) (hm : h[m]? = some (.lst (ms.map T.int))) (gl : g < (wipeL ls own).length) {v : Nat} (e1 : (wipeL ls own)[v]? = some (some (.ref m))) (gv : g ≠ v)
    (hd : Q (.ref h.length) (h ++ [.lst (((irange k).filter fun i => decide (i ∈ ms)).map T.int)])) : Gx (compR D C own (.var g) (.so (.cmp .inn (.var g) (.var v))) (.var g) ls (rangeT 0 k, []) h) (P := ⟨Q⟩) := by
  rw [rangeT_eq]
  refine comp_filter id (fun x => match x with | .int i => decide (i ∈ ms) | _ => false) (fun h3 => h3 = h) rfl (by rw [List.length_map, irange_len]; omega) (fun _ _ p hp => by simp at hp) ?_ ?_
  · rintro x h3 hx rfl
    obtain ⟨i, hi, rfl⟩ := List.mem_map.mp hx
    have s1 : ((wipeL ls own).set g (some (.int i)))[v]? = some (some (.ref m)) := by rw [List.getElem?_set_ne gv]; exact e1
    have s0 : ((wipeL ls own).set g (some (.int i)))[g]? = some (some (.int i)) := List.getElem?_set_self gl
    simp only [↓x_gvar, ↓x_cmp, ↓x_var, ↓x_lk, ↓x_inn, ↓x_ob, s0, s1, inO_ints hm, gl, true_and, id]
    exact fun _ => trivial
  · rintro h3 rfl
    rw [filt_int]
    exact hd
set_option maxHeartbeats 4000000 in
theorem reach {B : Book} (g : GoodBook B) : ∃ (h' : Hh) (f : Nat) (M : List (List Int)), callN D (n + 1) "_law_reach" [bookT B] h = .ok (.ref f) h' ∧ Mat h h' f M ∧ GM B.length M ∧ (∀ c d : Nat, c < B.length → d < 3 → (rel M c d ↔ Rch B c d)) ∧ Keep [] h h' := by
  have l3 := g.l3
  have z : Gx (callN D (n + 1) "_law_reach" [bookT B] h) (P := ⟨fun a h' => ∃ f M, a = .ref f ∧ Mat h h' f M ∧ GM B.length M ∧ (∀ c d : Nat, c < B.length → d < 3 → (rel M c d ↔ Rch B c d)) ∧ Keep [] h h'⟩) := by
    refine call_gx f__law_reach rfl ?_
    unfold bookT
    simp only [↓x_var, ↓x_int, ↓x_bl, ↓x_non, ↓x_str, ↓x_bin, ↓x_cmp, ↓x_idx, ↓x_neg, ↓x_not, ↓x_isN, ↓x_isnN, ↓x_rev, ↓x_sset, ↓x_isiT, ↓x_chn, ↓x_ite, ↓x_and, ↓x_or, ↓x_and1, ↓x_or1, ↓x_and2, ↓x_or2, ↓x_tup, ↓x_lst, ↓x_dic, ↓x_slc, ↓x_call, ↓x_callK, ↓x_blt, ↓x_mth, ↓x_rngL, ↓x_rngT, ↓x_comp, ↓x_enil, ↓x_econs, ↓x_kv0, ↓x_kv, ↓x_ono, ↓x_oso, ↓x_cno, ↓x_cso, ↓x_val, ↓x_rng1, ↓x_rng2, ↓x_enum, ↓x_gvar, ↓x_gtup, ↓x_gtupR, ↓x_gsub, ↓x_gnil, ↓x_gcons, ↓x_snil, ↓x_scons, ↓x_pass, ↓x_expr, ↓x_ret, ↓x_retN, ↓x_set, ↓x_aug, ↓x_augO, ↓x_augA, ↓x_augS, ↓x_iff, ↓x_for, ↓x_whl, ↓x_brk, ↓x_cnt, ↓x_seqN, ↓x_seqR, ↓x_seqB, ↓x_seqC, ↓x_finR, ↓x_finN, ↓x_lk, ↓x_negR, ↓x_notR, ↓x_cnd, ↓x_oiR, ↓x_opt, ↓x_ob, ↓x_r1, ↓x_r2, ↓x_valT, ↓x_valF, ↓x_lst', ↓x_dk', ↓x_valL, ↓x_enumL, ↓x_mthL, ↓x_mth_append, ↓x_mth_extend, ↓x_mth_pop, ↓x_mth_get, ↓x_newT, ↓x_newL, ↓x_dicR, ↓x_add, ↓x_sub, ↓x_mul, ↓x_fdiv, ↓x_mod, ↓x_pow, ↓x_tadd, ↓x_ladd, ↓x_lt, ↓x_le, ↓x_gt, ↓x_ge, ↓x_eq, ↓x_ne, ↓x_inn, ↓x_nin, ↓x_tix, ↓x_rix, ↓x_ixL, ↓x_ixD, ↓x_setD, ↓x_stD, ↓x_stL, ↓x_app, ↓x_if, ↓x_ext, ↓x_pop, ↓x_lenT, ↓x_lenR, ↓x_lenL, ↓x_listT, ↓x_listL, ↓x_tupL, ↓x_tupT, ↓x_sortT, ↓x_sortL, ↓x_all, ↓x_any, ↓x_sum, ↓x_max2, ↓x_min2, ↓x_toint, ↓x_repr, ↓x_rep, ↓x_slcT, ↓x_slcF, ↓x_slcL, ↓x_revL, ↓x_ssetL, ↓x_isi_int, ↓x_isi_bool, ↓x_isi_NoneType, ↓x_isi_str, ↓x_isi_tuple, ↓x_isi_list, ↓gx_bd, ↓gx_ok, ↓x_loopN, ↓x_loopC, ↓x_loopB, ↓x_loopR, ty_NoneType_int, ty_NoneType_bool, ty_NoneType_str, ty_NoneType_list, ty_NoneType_tuple, ty_NoneType_dict, ty_int_int, ty_int_bool, ty_int_str, ty_int_list, ty_int_tuple, ty_int_dict, ty_bool_int, ty_bool_bool, ty_bool_str, ty_bool_list, ty_bool_tuple, ty_bool_dict, ty_str_int, ty_str_bool, ty_str_str, ty_str_list, ty_str_tuple, ty_str_dict, ty_tuple_int, ty_tuple_bool, ty_tuple_str, ty_tuple_list, ty_tuple_tuple, ty_tuple_dict, ty_list_int, ty_list_bool, ty_list_str, ty_list_list, ty_list_tuple, ty_list_dict, ty_dict_int, ty_dict_bool, ty_dict_str, ty_dict_list, ty_dict_tuple, ty_dict_dict, at_0, at_1, at_2, at_3, at_4, nat_0, nat_1, nat_2, nat_3, nat_4, nat_5, nat_6, at_end, at_end1, at_end2, at_end3, bools_t, all_t, Nat.reduceLT, Nat.reduceLeDiff, Int.reduceLT, Int.reduceLE, Int.reduceAdd, Int.reduceSub, Int.reduceMul, Int.reducePow, Int.reduceToNat, Int.reduceNeg, ifx_t, ifx_f, ifx_n, gx_ok, eqT_int, List.getElem?_cons_zero, List.getElem?_cons_succ, List.set_cons_zero, List.set_cons_succ, List.map_cons, List.map_nil, List.nil_append, List.cons_append, List.replicate_succ, List.replicate_zero, List.length_cons, List.length_nil, List.any_cons, List.any_nil, Nat.reduceAdd, Nat.reduceSub, Bool.or_false, Bool.or_true, Bool.false_or, Bool.true_or, Bool.not_true, Bool.not_false, Option.map_some, Option.bind_some, decide_true, decide_false, true_and, and_true, wipeL, ↓gg_KINDS]
    refine gx_comp (fun i a h1 => ∃ rs : List Nat, a = rs.map T.ref ∧ rs.length = i ∧ (∀ a ∈ rs, h.length ≤ a) ∧ (∀ (j a : Nat), rs[j]? = some a → ∃ w, B[j]? = some w ∧ h1[a]? = some (.lst ((kindsOf w).map T.int))) ∧ Keep [] h h1) ⟨[], rfl, rfl, fun _ h => (by cases h), fun _ _ h => (by simp at h), .refl⟩ (fun _ _ _ _ p hp => by simp at hp) ?_ ?_
    · rintro i x a h1 hx ⟨rs, rfl, q1, q2, q3, q4⟩
      rw [List.getElem?_map] at hx
      obtain ⟨w, hw, rfl⟩ := Option.map_eq_some_iff.mp hx
      have hi := (List.getElem?_eq_some_iff.mp hw).1
      have gw := g.web w (List.mem_of_getElem? hw)
      have wl := gw.len
      simp only [↓x_var, ↓x_int, ↓x_bl, ↓x_non, ↓x_str, ↓x_bin, ↓x_cmp, ↓x_idx, ↓x_neg, ↓x_not, ↓x_isN, ↓x_isnN, ↓x_rev, ↓x_sset, ↓x_isiT, ↓x_chn, ↓x_ite, ↓x_and, ↓x_or, ↓x_and1, ↓x_or1, ↓x_and2, ↓x_or2, ↓x_tup, ↓x_lst, ↓x_dic, ↓x_slc, ↓x_call, ↓x_callK, ↓x_blt, ↓x_mth, ↓x_rngL, ↓x_rngT, ↓x_comp, ↓x_enil, ↓x_econs, ↓x_kv0, ↓x_kv, ↓x_ono, ↓x_oso, ↓x_cno, ↓x_cso, ↓x_val, ↓x_rng1, ↓x_rng2, ↓x_enum, ↓x_gvar, ↓x_gtup, ↓x_gtupR, ↓x_gsub, ↓x_gnil, ↓x_gcons, ↓x_snil, ↓x_scons, ↓x_pass, ↓x_expr, ↓x_ret, ↓x_retN, ↓x_set, ↓x_aug, ↓x_augO, ↓x_augA, ↓x_augS, ↓x_iff, ↓x_for, ↓x_whl, ↓x_brk, ↓x_cnt, ↓x_seqN, ↓x_seqR, ↓x_seqB, ↓x_seqC, ↓x_finR, ↓x_finN, ↓x_lk, ↓x_negR, ↓x_notR, ↓x_cnd, ↓x_oiR, ↓x_opt, ↓x_ob, ↓x_r1, ↓x_r2, ↓x_valT, ↓x_valF, ↓x_lst', ↓x_dk', ↓x_valL, ↓x_enumL, ↓x_mthL, ↓x_mth_append, ↓x_mth_extend, ↓x_mth_pop, ↓x_mth_get, ↓x_newT, ↓x_newL, ↓x_dicR, ↓x_add, ↓x_sub, ↓x_mul, ↓x_fdiv, ↓x_mod, ↓x_pow, ↓x_tadd, ↓x_ladd, ↓x_lt, ↓x_le, ↓x_gt, ↓x_ge, ↓x_eq, ↓x_ne, ↓x_inn, ↓x_nin, ↓x_tix, ↓x_rix, ↓x_ixL, ↓x_ixD, ↓x_setD, ↓x_stD, ↓x_stL, ↓x_app, ↓x_if, ↓x_ext, ↓x_pop, ↓x_lenT, ↓x_lenR, ↓x_lenL, ↓x_listT, ↓x_listL, ↓x_tupL, ↓x_tupT, ↓x_sortT, ↓x_sortL, ↓x_all, ↓x_any, ↓x_sum, ↓x_max2, ↓x_min2, ↓x_toint, ↓x_repr, ↓x_rep, ↓x_slcT, ↓x_slcF, ↓x_slcL, ↓x_revL, ↓x_ssetL, ↓x_isi_int, ↓x_isi_bool, ↓x_isi_NoneType, ↓x_isi_str, ↓x_isi_tuple, ↓x_isi_list, ↓gx_bd, ↓gx_ok, ↓x_loopN, ↓x_loopC, ↓x_loopB, ↓x_loopR, ty_NoneType_int, ty_NoneType_bool, ty_NoneType_str, ty_NoneType_list, ty_NoneType_tuple, ty_NoneType_dict, ty_int_int, ty_int_bool, ty_int_str, ty_int_list, ty_int_tuple, ty_int_dict, ty_bool_int, ty_bool_bool, ty_bool_str, ty_bool_list, ty_bool_tuple, ty_bool_dict, ty_str_int, ty_str_bool, ty_str_str, ty_str_list, ty_str_tuple, ty_str_dict, ty_tuple_int, ty_tuple_bool, ty_tuple_str, ty_tuple_list, ty_tuple_tuple, ty_tuple_dict, ty_list_int, ty_list_bool, ty_list_str, ty_list_list, ty_list_tuple, ty_list_dict, ty_dict_int, ty_dict_bool, ty_dict_str, ty_dict_list, ty_dict_tuple, ty_dict_dict, at_0, at_1, at_2, at_3, at_4, nat_0, nat_1, nat_2, nat_3, nat_4, nat_5, nat_6, at_end, at_end1, at_end2, at_end3, bools_t, all_t, Nat.reduceLT, Nat.reduceLeDiff, Int.reduceLT, Int.reduceLE, Int.reduceAdd, Int.reduceSub, Int.reduceMul, Int.reducePow, Int.reduceToNat, Int.reduceNeg, ifx_t, ifx_f, ifx_n, gx_ok, eqT_int, List.getElem?_cons_zero, List.getElem?_cons_succ, List.set_cons_zero, List.set_cons_succ, List.map_cons, List.map_nil, List.nil_append, List.cons_append, List.replicate_succ, List.replicate_zero, List.length_cons, List.length_nil, List.any_cons, List.any_nil, Nat.reduceAdd, Nat.reduceSub, Bool.or_false, Bool.or_true, Bool.false_or, Bool.true_or, Bool.not_true, Bool.not_false, Option.map_some, Option.bind_some, decide_true, decide_false, true_and, and_true, wipeL, ↓gg_KINDS, webT, List.length_map]
      refine ⟨by omega, ?_⟩
      refine comp_map (fun x => match x with | .tup [_, _, z] => z | _ => .non) (fun h' => h' = h1) rfl (by rw [List.length_map]; omega) (fun _ _ p hp => by simp at hp) ?_ ?_
      · rintro x h2 hx rfl
        obtain ⟨t, ht, rfl⟩ := List.mem_map.mp hx
        simp only [↓x_var, ↓x_int, ↓x_bl, ↓x_non, ↓x_str, ↓x_bin, ↓x_cmp, ↓x_idx, ↓x_neg, ↓x_not, ↓x_isN, ↓x_isnN, ↓x_rev, ↓x_sset, ↓x_isiT, ↓x_chn, ↓x_ite, ↓x_and, ↓x_or, ↓x_and1, ↓x_or1, ↓x_and2, ↓x_or2, ↓x_tup, ↓x_lst, ↓x_dic, ↓x_slc, ↓x_call, ↓x_callK, ↓x_blt, ↓x_mth, ↓x_rngL, ↓x_rngT, ↓x_comp, ↓x_enil, ↓x_econs, ↓x_kv0, ↓x_kv, ↓x_ono, ↓x_oso, ↓x_cno, ↓x_cso, ↓x_val, ↓x_rng1, ↓x_rng2, ↓x_enum, ↓x_gvar, ↓x_gtup, ↓x_gtupR, ↓x_gsub, ↓x_gnil, ↓x_gcons, ↓x_snil, ↓x_scons, ↓x_pass, ↓x_expr, ↓x_ret, ↓x_retN, ↓x_set, ↓x_aug, ↓x_augO, ↓x_augA, ↓x_augS, ↓x_iff, ↓x_for, ↓x_whl, ↓x_brk, ↓x_cnt, ↓x_seqN, ↓x_seqR, ↓x_seqB, ↓x_seqC, ↓x_finR, ↓x_finN, ↓x_lk, ↓x_negR, ↓x_notR, ↓x_cnd, ↓x_oiR, ↓x_opt, ↓x_ob, ↓x_r1, ↓x_r2, ↓x_valT, ↓x_valF, ↓x_lst', ↓x_dk', ↓x_valL, ↓x_enumL, ↓x_mthL, ↓x_mth_append, ↓x_mth_extend, ↓x_mth_pop, ↓x_mth_get, ↓x_newT, ↓x_newL, ↓x_dicR, ↓x_add, ↓x_sub, ↓x_mul, ↓x_fdiv, ↓x_mod, ↓x_pow, ↓x_tadd, ↓x_ladd, ↓x_lt, ↓x_le, ↓x_gt, ↓x_ge, ↓x_eq, ↓x_ne, ↓x_inn, ↓x_nin, ↓x_tix, ↓x_rix, ↓x_ixL, ↓x_ixD, ↓x_setD, ↓x_stD, ↓x_stL, ↓x_app, ↓x_if, ↓x_ext, ↓x_pop, ↓x_lenT, ↓x_lenR, ↓x_lenL, ↓x_listT, ↓x_listL, ↓x_tupL, ↓x_tupT, ↓x_sortT, ↓x_sortL, ↓x_all, ↓x_any, ↓x_sum, ↓x_max2, ↓x_min2, ↓x_toint, ↓x_repr, ↓x_rep, ↓x_slcT, ↓x_slcF, ↓x_slcL, ↓x_revL, ↓x_ssetL, ↓x_isi_int, ↓x_isi_bool, ↓x_isi_NoneType, ↓x_isi_str, ↓x_isi_tuple, ↓x_isi_list, ↓gx_bd, ↓gx_ok, ↓x_loopN, ↓x_loopC, ↓x_loopB, ↓x_loopR, ty_NoneType_int, ty_NoneType_bool, ty_NoneType_str, ty_NoneType_list, ty_NoneType_tuple, ty_NoneType_dict, ty_int_int, ty_int_bool, ty_int_str, ty_int_list, ty_int_tuple, ty_int_dict, ty_bool_int, ty_bool_bool, ty_bool_str, ty_bool_list, ty_bool_tuple, ty_bool_dict, ty_str_int, ty_str_bool, ty_str_str, ty_str_list, ty_str_tuple, ty_str_dict, ty_tuple_int, ty_tuple_bool, ty_tuple_str, ty_tuple_list, ty_tuple_tuple, ty_tuple_dict, ty_list_int, ty_list_bool, ty_list_str, ty_list_list, ty_list_tuple, ty_list_dict, ty_dict_int, ty_dict_bool, ty_dict_str, ty_dict_list, ty_dict_tuple, ty_dict_dict, at_0, at_1, at_2, at_3, at_4, nat_0, nat_1, nat_2, nat_3, nat_4, nat_5, nat_6, at_end, at_end1, at_end2, at_end3, bools_t, all_t, Nat.reduceLT, Nat.reduceLeDiff, Int.reduceLT, Int.reduceLE, Int.reduceAdd, Int.reduceSub, Int.reduceMul, Int.reducePow, Int.reduceToNat, Int.reduceNeg, ifx_t, ifx_f, ifx_n, gx_ok, eqT_int, List.getElem?_cons_zero, List.getElem?_cons_succ, List.set_cons_zero, List.set_cons_succ, List.map_cons, List.map_nil, List.nil_append, List.cons_append, List.replicate_succ, List.replicate_zero, List.length_cons, List.length_nil, List.any_cons, List.any_nil, Nat.reduceAdd, Nat.reduceSub, Bool.or_false, Bool.or_true, Bool.false_or, Bool.true_or, Bool.not_true, Bool.not_false, Option.map_some, Option.bind_some, decide_true, decide_false, true_and, and_true, wipeL, ↓gg_KINDS, tieT]
      · rintro h2 rfl
        refine ⟨rs ++ [h2.length], by rw [List.map_append]; rfl, by rw [List.length_append, q1]; rfl, fun a ha => ?_, fun j a e => ?_, q4.trans (.app _)⟩
        · rcases List.mem_append.mp ha with z | z
          · exact q2 a z
          · rw [List.mem_singleton.mp z]
            exact q4.le
        · by_cases hj : j < rs.length
          · rw [List.getElem?_append_left hj] at e
            obtain ⟨w2, v1, v2⟩ := q3 j a e
            exact ⟨w2, v1, at_old v2⟩
          · have hj2 := (List.getElem?_eq_some_iff.mp e).1
            rw [List.length_append, List.length_singleton] at hj2
            have ej : j = rs.length := by omega
            subst ej
            rw [List.getElem?_append_right (Nat.le_refl _), Nat.sub_self] at e
            cases e
            rw [q1]
            refine ⟨w, hw, ?_⟩
            rw [at_end]
            unfold kindsOf
            rw [List.map_map, List.map_map]
            rfl
    rintro a h1 ⟨rs, rfl, q1, q2, q3, q4⟩
    rw [List.length_map] at q1
    have M0 : Mat h (h1 ++ [O.lst (rs.map T.ref)]) h1.length (B.map kindsOf) := ⟨rs, at_end, by rw [q1, List.length_map], q2, fun i a e => by
      obtain ⟨w, v1, v2⟩ := q3 i a e
      exact ⟨kindsOf w, by rw [List.getElem?_map, v1]; rfl, at_old v2⟩⟩
    have G0 : GM B.length (B.map kindsOf) := ⟨by rw [List.length_map], fun row hr => by
      obtain ⟨w, hw, rfl⟩ := List.mem_map.mp hr
      have gw := g.web w hw
      refine ⟨by unfold kindsOf; rw [List.length_map]; exact gw.len, fun x hx => ?_⟩
      obtain ⟨t, ht, rfl⟩ := List.mem_map.mp hx
      exact (gw.tie t ht).2.2.2⟩
    have R0 : ∀ c d : Nat, rel (B.map kindsOf) c d ↔ (d : Int) ∈ kindsAt B c := fun c d => by
      unfold rel kindsAt
      rw [List.getElem?_map, Int.toNat_natCast]
      cases B[c]? with
      | none => simp
      | some w => simp
    have K0 : Keep [] h (h1 ++ [O.lst (rs.map T.ref)]) := q4.trans (.app _)
    generalize h1 ++ [O.lst (rs.map T.ref)] = h2 at M0 K0 ⊢
    generalize h1.length = f0 at M0 ⊢
    simp only [↓x_var, ↓x_int, ↓x_bl, ↓x_non, ↓x_str, ↓x_bin, ↓x_cmp, ↓x_idx, ↓x_neg, ↓x_not, ↓x_isN, ↓x_isnN, ↓x_rev, ↓x_sset, ↓x_isiT, ↓x_chn, ↓x_ite, ↓x_and, ↓x_or, ↓x_and1, ↓x_or1, ↓x_and2, ↓x_or2, ↓x_tup, ↓x_lst, ↓x_dic, ↓x_slc, ↓x_call, ↓x_callK, ↓x_blt, ↓x_mth, ↓x_rngL, ↓x_rngT, ↓x_comp, ↓x_enil, ↓x_econs, ↓x_kv0, ↓x_kv, ↓x_ono, ↓x_oso, ↓x_cno, ↓x_cso, ↓x_val, ↓x_rng1, ↓x_rng2, ↓x_enum, ↓x_gvar, ↓x_gtup, ↓x_gtupR, ↓x_gsub, ↓x_gnil, ↓x_gcons, ↓x_snil, ↓x_scons, ↓x_pass, ↓x_expr, ↓x_ret, ↓x_retN, ↓x_set, ↓x_aug, ↓x_augO, ↓x_augA, ↓x_augS, ↓x_iff, ↓x_for, ↓x_whl, ↓x_brk, ↓x_cnt, ↓x_seqN, ↓x_seqR, ↓x_seqB, ↓x_seqC, ↓x_finR, ↓x_finN, ↓x_lk, ↓x_negR, ↓x_notR, ↓x_cnd, ↓x_oiR, ↓x_opt, ↓x_ob, ↓x_r1, ↓x_r2, ↓x_valT, ↓x_valF, ↓x_lst', ↓x_dk', ↓x_valL, ↓x_enumL, ↓x_mthL, ↓x_mth_append, ↓x_mth_extend, ↓x_mth_pop, ↓x_mth_get, ↓x_newT, ↓x_newL, ↓x_dicR, ↓x_add, ↓x_sub, ↓x_mul, ↓x_fdiv, ↓x_mod, ↓x_pow, ↓x_tadd, ↓x_ladd, ↓x_lt, ↓x_le, ↓x_gt, ↓x_ge, ↓x_eq, ↓x_ne, ↓x_inn, ↓x_nin, ↓x_tix, ↓x_rix, ↓x_ixL, ↓x_ixD, ↓x_setD, ↓x_stD, ↓x_stL, ↓x_app, ↓x_if, ↓x_ext, ↓x_pop, ↓x_lenT, ↓x_lenR, ↓x_lenL, ↓x_listT, ↓x_listL, ↓x_tupL, ↓x_tupT, ↓x_sortT, ↓x_sortL, ↓x_all, ↓x_any, ↓x_sum, ↓x_max2, ↓x_min2, ↓x_toint, ↓x_repr, ↓x_rep, ↓x_slcT, ↓x_slcF, ↓x_slcL, ↓x_revL, ↓x_ssetL, ↓x_isi_int, ↓x_isi_bool, ↓x_isi_NoneType, ↓x_isi_str, ↓x_isi_tuple, ↓x_isi_list, ↓gx_bd, ↓gx_ok, ↓x_loopN, ↓x_loopC, ↓x_loopB, ↓x_loopR, ty_NoneType_int, ty_NoneType_bool, ty_NoneType_str, ty_NoneType_list, ty_NoneType_tuple, ty_NoneType_dict, ty_int_int, ty_int_bool, ty_int_str, ty_int_list, ty_int_tuple, ty_int_dict, ty_bool_int, ty_bool_bool, ty_bool_str, ty_bool_list, ty_bool_tuple, ty_bool_dict, ty_str_int, ty_str_bool, ty_str_str, ty_str_list, ty_str_tuple, ty_str_dict, ty_tuple_int, ty_tuple_bool, ty_tuple_str, ty_tuple_list, ty_tuple_tuple, ty_tuple_dict, ty_list_int, ty_list_bool, ty_list_str, ty_list_list, ty_list_tuple, ty_list_dict, ty_dict_int, ty_dict_bool, ty_dict_str, ty_dict_list, ty_dict_tuple, ty_dict_dict, at_0, at_1, at_2, at_3, at_4, nat_0, nat_1, nat_2, nat_3, nat_4, nat_5, nat_6, at_end, at_end1, at_end2, at_end3, bools_t, all_t, Nat.reduceLT, Nat.reduceLeDiff, Int.reduceLT, Int.reduceLE, Int.reduceAdd, Int.reduceSub, Int.reduceMul, Int.reducePow, Int.reduceToNat, Int.reduceNeg, ifx_t, ifx_f, ifx_n, gx_ok, eqT_int, List.getElem?_cons_zero, List.getElem?_cons_succ, List.set_cons_zero, List.set_cons_succ, List.map_cons, List.map_nil, List.nil_append, List.cons_append, List.replicate_succ, List.replicate_zero, List.length_cons, List.length_nil, List.any_cons, List.any_nil, Nat.reduceAdd, Nat.reduceSub, Bool.or_false, Bool.or_true, Bool.false_or, Bool.true_or, Bool.not_true, Bool.not_false, Option.map_some, Option.bind_some, decide_true, decide_false, true_and, and_true, wipeL, ↓gg_KINDS, rgOk_of (i := 0) (j := 3) (by decide)]
    refine gx_for (fun i l h3 => ∃ f M a b c d e, l = [some (.tup (B.map webT)), some (.ref f), a, b, c, none, d, e, none, none] ∧ Mat h h3 f M ∧ GM B.length M ∧ (∀ c d : Nat, c < B.length → d < 3 → (rel M c d ↔ itS i (rel (B.map kindsOf)) c d)) ∧ Keep [] h h3) ⟨f0, B.map kindsOf, _, _, _, _, _, rfl, M0, G0, fun _ _ _ _ => Iff.rfl, K0⟩ (fun _ _ _ _ p hp => by simp at hp) ?_ ?_
    · rintro i x l h3 hx ⟨f, M, a0, b0, c0, d0, e0, rfl, m, gm, rl, kp⟩
      obtain ⟨rfl, _⟩ := range_get hx
      obtain ⟨rs, m1, m2, m3, m4⟩ := m.ex
      have ml := gm.len
      have fl := lt_of_at m1
      simp only [↓x_var, ↓x_int, ↓x_bl, ↓x_non, ↓x_str, ↓x_bin, ↓x_cmp, ↓x_idx, ↓x_neg, ↓x_not, ↓x_isN, ↓x_isnN, ↓x_rev, ↓x_sset, ↓x_isiT, ↓x_chn, ↓x_ite, ↓x_and, ↓x_or, ↓x_and1, ↓x_or1, ↓x_and2, ↓x_or2, ↓x_tup, ↓x_lst, ↓x_dic, ↓x_slc, ↓x_call, ↓x_callK, ↓x_blt, ↓x_mth, ↓x_rngL, ↓x_rngT, ↓x_comp, ↓x_enil, ↓x_econs, ↓x_kv0, ↓x_kv, ↓x_ono, ↓x_oso, ↓x_cno, ↓x_cso, ↓x_val, ↓x_rng1, ↓x_rng2, ↓x_enum, ↓x_gvar, ↓x_gtup, ↓x_gtupR, ↓x_gsub, ↓x_gnil, ↓x_gcons, ↓x_snil, ↓x_scons, ↓x_pass, ↓x_expr, ↓x_ret, ↓x_retN, ↓x_set, ↓x_aug, ↓x_augO, ↓x_augA, ↓x_augS, ↓x_iff, ↓x_for, ↓x_whl, ↓x_brk, ↓x_cnt, ↓x_seqN, ↓x_seqR, ↓x_seqB, ↓x_seqC, ↓x_finR, ↓x_finN, ↓x_lk, ↓x_negR, ↓x_notR, ↓x_cnd, ↓x_oiR, ↓x_opt, ↓x_ob, ↓x_r1, ↓x_r2, ↓x_valT, ↓x_valF, ↓x_lst', ↓x_dk', ↓x_valL, ↓x_enumL, ↓x_mthL, ↓x_mth_append, ↓x_mth_extend, ↓x_mth_pop, ↓x_mth_get, ↓x_newT, ↓x_newL, ↓x_dicR, ↓x_add, ↓x_sub, ↓x_mul, ↓x_fdiv, ↓x_mod, ↓x_pow, ↓x_tadd, ↓x_ladd, ↓x_lt, ↓x_le, ↓x_gt, ↓x_ge, ↓x_eq, ↓x_ne, ↓x_inn, ↓x_nin, ↓x_tix, ↓x_rix, ↓x_ixL, ↓x_ixD, ↓x_setD, ↓x_stD, ↓x_stL, ↓x_app, ↓x_if, ↓x_ext, ↓x_pop, ↓x_lenT, ↓x_lenR, ↓x_lenL, ↓x_listT, ↓x_listL, ↓x_tupL, ↓x_tupT, ↓x_sortT, ↓x_sortL, ↓x_all, ↓x_any, ↓x_sum, ↓x_max2, ↓x_min2, ↓x_toint, ↓x_repr, ↓x_rep, ↓x_slcT, ↓x_slcF, ↓x_slcL, ↓x_revL, ↓x_ssetL, ↓x_isi_int, ↓x_isi_bool, ↓x_isi_NoneType, ↓x_isi_str, ↓x_isi_tuple, ↓x_isi_list, ↓gx_bd, ↓gx_ok, ↓x_loopN, ↓x_loopC, ↓x_loopB, ↓x_loopR, ty_NoneType_int, ty_NoneType_bool, ty_NoneType_str, ty_NoneType_list, ty_NoneType_tuple, ty_NoneType_dict, ty_int_int, ty_int_bool, ty_int_str, ty_int_list, ty_int_tuple, ty_int_dict, ty_bool_int, ty_bool_bool, ty_bool_str, ty_bool_list, ty_bool_tuple, ty_bool_dict, ty_str_int, ty_str_bool, ty_str_str, ty_str_list, ty_str_tuple, ty_str_dict, ty_tuple_int, ty_tuple_bool, ty_tuple_str, ty_tuple_list, ty_tuple_tuple, ty_tuple_dict, ty_list_int, ty_list_bool, ty_list_str, ty_list_list, ty_list_tuple, ty_list_dict, ty_dict_int, ty_dict_bool, ty_dict_str, ty_dict_list, ty_dict_tuple, ty_dict_dict, at_0, at_1, at_2, at_3, at_4, nat_0, nat_1, nat_2, nat_3, nat_4, nat_5, nat_6, at_end, at_end1, at_end2, at_end3, bools_t, all_t, Nat.reduceLT, Nat.reduceLeDiff, Int.reduceLT, Int.reduceLE, Int.reduceAdd, Int.reduceSub, Int.reduceMul, Int.reducePow, Int.reduceToNat, Int.reduceNeg, ifx_t, ifx_f, ifx_n, gx_ok, eqT_int, List.getElem?_cons_zero, List.getElem?_cons_succ, List.set_cons_zero, List.set_cons_succ, List.map_cons, List.map_nil, List.nil_append, List.cons_append, List.replicate_succ, List.replicate_zero, List.length_cons, List.length_nil, List.any_cons, List.any_nil, Nat.reduceAdd, Nat.reduceSub, Bool.or_false, Bool.or_true, Bool.false_or, Bool.true_or, Bool.not_true, Bool.not_false, Option.map_some, Option.bind_some, decide_true, decide_false, true_and, and_true, wipeL, ↓gg_KINDS, Nat.zero_le, at_old m1]
      refine gx_for (fun i2 l h4 => ∃ (qs : List Nat) (c d e : Option T), l = [some (.tup (B.map webT)), some (.ref f), some (.int i), some (.ref h3.length), c, none, d, e, none, none] ∧ h4[h3.length]? = some (.lst (qs.map T.ref)) ∧ qs.length = i2 ∧ (∀ a ∈ qs, h3.length < a) ∧ (∀ (j a : Nat), qs[j]? = some a → ∃ row2, h4[a]? = some (.lst (row2.map T.int)) ∧ Nxt B.length M j row2) ∧ Keep [] h3 h4)
        ⟨[], _, _, _, rfl, at_end, rfl, fun _ h => (by cases h), fun _ _ h => (by simp at h), .app _⟩ ?_ ?_ ?_
      · rintro i2 l h4 ⟨qs, c, d, e, rfl, u1, u2, u3, u4, u5⟩ p hp
        rw [List.mem_singleton.mp hp]
        show mutL _ _ = _
        unfold mutL
        rw [u5.lst (by simp) m1]
      · rintro i2 x l h4 hx ⟨qs, c1, d1, e1, rfl, u1, u2, u3, u4, u5⟩
        rw [List.getElem?_map] at hx
        obtain ⟨a, ha, rfl⟩ := Option.map_eq_some_iff.mp hx
        obtain ⟨row, r1, r2⟩ := m4 i2 a ha
        have hi2 := (List.getElem?_eq_some_iff.mp ha).1
        obtain ⟨rl1, rl2⟩ := gm.row row (List.mem_of_getElem? r1)
        have r3 := u5.lst (by simp) r2
        have h4l := u5.le
        have lg4 := lt_of_at u1
        simp only [↓x_var, ↓x_int, ↓x_bl, ↓x_non, ↓x_str, ↓x_bin, ↓x_cmp, ↓x_idx, ↓x_neg, ↓x_not, ↓x_isN, ↓x_isnN, ↓x_rev, ↓x_sset, ↓x_isiT, ↓x_chn, ↓x_ite, ↓x_and, ↓x_or, ↓x_and1, ↓x_or1, ↓x_and2, ↓x_or2, ↓x_tup, ↓x_lst, ↓x_dic, ↓x_slc, ↓x_call, ↓x_callK, ↓x_blt, ↓x_mth, ↓x_rngL, ↓x_rngT, ↓x_comp, ↓x_enil, ↓x_econs, ↓x_kv0, ↓x_kv, ↓x_ono, ↓x_oso, ↓x_cno, ↓x_cso, ↓x_val, ↓x_rng1, ↓x_rng2, ↓x_enum, ↓x_gvar, ↓x_gtup, ↓x_gtupR, ↓x_gsub, ↓x_gnil, ↓x_gcons, ↓x_snil, ↓x_scons, ↓x_pass, ↓x_expr, ↓x_ret, ↓x_retN, ↓x_set, ↓x_aug, ↓x_augO, ↓x_augA, ↓x_augS, ↓x_iff, ↓x_for, ↓x_whl, ↓x_brk, ↓x_cnt, ↓x_seqN, ↓x_seqR, ↓x_seqB, ↓x_seqC, ↓x_finR, ↓x_finN, ↓x_lk, ↓x_negR, ↓x_notR, ↓x_cnd, ↓x_oiR, ↓x_opt, ↓x_ob, ↓x_r1, ↓x_r2, ↓x_valT, ↓x_valF, ↓x_lst', ↓x_dk', ↓x_valL, ↓x_enumL, ↓x_mthL, ↓x_mth_append, ↓x_mth_extend, ↓x_mth_pop, ↓x_mth_get, ↓x_newT, ↓x_newL, ↓x_dicR, ↓x_add, ↓x_sub, ↓x_mul, ↓x_fdiv, ↓x_mod, ↓x_pow, ↓x_tadd, ↓x_ladd, ↓x_lt, ↓x_le, ↓x_gt, ↓x_ge, ↓x_eq, ↓x_ne, ↓x_inn, ↓x_nin, ↓x_tix, ↓x_rix, ↓x_ixL, ↓x_ixD, ↓x_setD, ↓x_stD, ↓x_stL, ↓x_app, ↓x_if, ↓x_ext, ↓x_pop, ↓x_lenT, ↓x_lenR, ↓x_lenL, ↓x_listT, ↓x_listL, ↓x_tupL, ↓x_tupT, ↓x_sortT, ↓x_sortL, ↓x_all, ↓x_any, ↓x_sum, ↓x_max2, ↓x_min2, ↓x_toint, ↓x_repr, ↓x_rep, ↓x_slcT, ↓x_slcF, ↓x_slcL, ↓x_revL, ↓x_ssetL, ↓x_isi_int, ↓x_isi_bool, ↓x_isi_NoneType, ↓x_isi_str, ↓x_isi_tuple, ↓x_isi_list, ↓gx_bd, ↓gx_ok, ↓x_loopN, ↓x_loopC, ↓x_loopB, ↓x_loopR, ty_NoneType_int, ty_NoneType_bool, ty_NoneType_str, ty_NoneType_list, ty_NoneType_tuple, ty_NoneType_dict, ty_int_int, ty_int_bool, ty_int_str, ty_int_list, ty_int_tuple, ty_int_dict, ty_bool_int, ty_bool_bool, ty_bool_str, ty_bool_list, ty_bool_tuple, ty_bool_dict, ty_str_int, ty_str_bool, ty_str_str, ty_str_list, ty_str_tuple, ty_str_dict, ty_tuple_int, ty_tuple_bool, ty_tuple_str, ty_tuple_list, ty_tuple_tuple, ty_tuple_dict, ty_list_int, ty_list_bool, ty_list_str, ty_list_list, ty_list_tuple, ty_list_dict, ty_dict_int, ty_dict_bool, ty_dict_str, ty_dict_list, ty_dict_tuple, ty_dict_dict, at_0, at_1, at_2, at_3, at_4, nat_0, nat_1, nat_2, nat_3, nat_4, nat_5, nat_6, at_end, at_end1, at_end2, at_end3, bools_t, all_t, Nat.reduceLT, Nat.reduceLeDiff, Int.reduceLT, Int.reduceLE, Int.reduceAdd, Int.reduceSub, Int.reduceMul, Int.reducePow, Int.reduceToNat, Int.reduceNeg, ifx_t, ifx_f, ifx_n, gx_ok, eqT_int, List.getElem?_cons_zero, List.getElem?_cons_succ, List.set_cons_zero, List.set_cons_succ, List.map_cons, List.map_nil, List.nil_append, List.cons_append, List.replicate_succ, List.replicate_zero, List.length_cons, List.length_nil, List.any_cons, List.any_nil, Nat.reduceAdd, Nat.reduceSub, Bool.or_false, Bool.or_true, Bool.false_or, Bool.true_or, Bool.not_true, Bool.not_false, Option.map_some, Option.bind_some, decide_true, decide_false, true_and, and_true, wipeL, ↓gg_KINDS, r3, List.length_map, show row.length ≤ 16777216 by omega, at_old r3]
        refine gx_for (fun j l h5 => ∃ (ms : List Int) (e : Option T), l = [some (.tup (B.map webT)), some (.ref f), some (.int i), some (.ref h3.length), some (.ref a), none, some (.ref h4.length), e, none, none] ∧ h5[h4.length]? = some (.lst (ms.map T.int)) ∧ ms.length ≤ 40 + 40 * j ∧ (∀ d, d ∈ ms ↔ d ∈ row ∨ ∃ e ∈ row.take j, ∃ row3, M[e.toNat]? = some row3 ∧ d ∈ row3) ∧ Keep [] h4 h5)
          ⟨row, _, rfl, at_end, by omega, fun d => by simp, .app _⟩ ?_ ?_ ?_
        · rintro j l h5 ⟨ms, e, rfl, v1, v2, v3, v4⟩ p hp
          rw [List.mem_singleton.mp hp]
          show mutL _ _ = _
          unfold mutL
          rw [v4.lst (by simp) r3]
        · rintro j x l h5 hx ⟨ms, e2, rfl, v1, v2, v3, v4⟩
          rw [List.getElem?_map] at hx
          obtain ⟨e, he, rfl⟩ := Option.map_eq_some_iff.mp hx
          have hj := (List.getElem?_eq_some_iff.mp he).1
          have ek := rl2 e (List.mem_of_getElem? he)
          have el : e.toNat < rs.length := by omega
          have ea : atI (rs.map T.ref) e = some (.ref rs[e.toNat]) := atI_some (j := e.toNat) (by omega) (by rw [List.getElem?_map, List.getElem?_eq_getElem el]; rfl)
          obtain ⟨row3, s1, s2⟩ := m4 e.toNat _ (List.getElem?_eq_getElem el)
          have s3 := (u5.trans v4).lst (by simp) s2
          have s4 := (u5.trans v4).lst (by simp) m1
          have rl3 := (gm.row row3 (List.mem_of_getElem? s1)).1
          simp only [↓x_var, ↓x_int, ↓x_bl, ↓x_non, ↓x_str, ↓x_bin, ↓x_cmp, ↓x_idx, ↓x_neg, ↓x_not, ↓x_isN, ↓x_isnN, ↓x_rev, ↓x_sset, ↓x_isiT, ↓x_chn, ↓x_ite, ↓x_and, ↓x_or, ↓x_and1, ↓x_or1, ↓x_and2, ↓x_or2, ↓x_tup, ↓x_lst, ↓x_dic, ↓x_slc, ↓x_call, ↓x_callK, ↓x_blt, ↓x_mth, ↓x_rngL, ↓x_rngT, ↓x_comp, ↓x_enil, ↓x_econs, ↓x_kv0, ↓x_kv, ↓x_ono, ↓x_oso, ↓x_cno, ↓x_cso, ↓x_val, ↓x_rng1, ↓x_rng2, ↓x_enum, ↓x_gvar, ↓x_gtup, ↓x_gtupR, ↓x_gsub, ↓x_gnil, ↓x_gcons, ↓x_snil, ↓x_scons, ↓x_pass, ↓x_expr, ↓x_ret, ↓x_retN, ↓x_set, ↓x_aug, ↓x_augO, ↓x_augA, ↓x_augS, ↓x_iff, ↓x_for, ↓x_whl, ↓x_brk, ↓x_cnt, ↓x_seqN, ↓x_seqR, ↓x_seqB, ↓x_seqC, ↓x_finR, ↓x_finN, ↓x_lk, ↓x_negR, ↓x_notR, ↓x_cnd, ↓x_oiR, ↓x_opt, ↓x_ob, ↓x_r1, ↓x_r2, ↓x_valT, ↓x_valF, ↓x_lst', ↓x_dk', ↓x_valL, ↓x_enumL, ↓x_mthL, ↓x_mth_append, ↓x_mth_extend, ↓x_mth_pop, ↓x_mth_get, ↓x_newT, ↓x_newL, ↓x_dicR, ↓x_add, ↓x_sub, ↓x_mul, ↓x_fdiv, ↓x_mod, ↓x_pow, ↓x_tadd, ↓x_ladd, ↓x_lt, ↓x_le, ↓x_gt, ↓x_ge, ↓x_eq, ↓x_ne, ↓x_inn, ↓x_nin, ↓x_tix, ↓x_rix, ↓x_ixL, ↓x_ixD, ↓x_setD, ↓x_stD, ↓x_stL, ↓x_app, ↓x_if, ↓x_ext, ↓x_pop, ↓x_lenT, ↓x_lenR, ↓x_lenL, ↓x_listT, ↓x_listL, ↓x_tupL, ↓x_tupT, ↓x_sortT, ↓x_sortL, ↓x_all, ↓x_any, ↓x_sum, ↓x_max2, ↓x_min2, ↓x_toint, ↓x_repr, ↓x_rep, ↓x_slcT, ↓x_slcF, ↓x_slcL, ↓x_revL, ↓x_ssetL, ↓x_isi_int, ↓x_isi_bool, ↓x_isi_NoneType, ↓x_isi_str, ↓x_isi_tuple, ↓x_isi_list, ↓gx_bd, ↓gx_ok, ↓x_loopN, ↓x_loopC, ↓x_loopB, ↓x_loopR, ty_NoneType_int, ty_NoneType_bool, ty_NoneType_str, ty_NoneType_list, ty_NoneType_tuple, ty_NoneType_dict, ty_int_int, ty_int_bool, ty_int_str, ty_int_list, ty_int_tuple, ty_int_dict, ty_bool_int, ty_bool_bool, ty_bool_str, ty_bool_list, ty_bool_tuple, ty_bool_dict, ty_str_int, ty_str_bool, ty_str_str, ty_str_list, ty_str_tuple, ty_str_dict, ty_tuple_int, ty_tuple_bool, ty_tuple_str, ty_tuple_list, ty_tuple_tuple, ty_tuple_dict, ty_list_int, ty_list_bool, ty_list_str, ty_list_list, ty_list_tuple, ty_list_dict, ty_dict_int, ty_dict_bool, ty_dict_str, ty_dict_list, ty_dict_tuple, ty_dict_dict, at_0, at_1, at_2, at_3, at_4, nat_0, nat_1, nat_2, nat_3, nat_4, nat_5, nat_6, at_end, at_end1, at_end2, at_end3, bools_t, all_t, Nat.reduceLT, Nat.reduceLeDiff, Int.reduceLT, Int.reduceLE, Int.reduceAdd, Int.reduceSub, Int.reduceMul, Int.reducePow, Int.reduceToNat, Int.reduceNeg, ifx_t, ifx_f, ifx_n, gx_ok, eqT_int, List.getElem?_cons_zero, List.getElem?_cons_succ, List.set_cons_zero, List.set_cons_succ, List.map_cons, List.map_nil, List.nil_append, List.cons_append, List.replicate_succ, List.replicate_zero, List.length_cons, List.length_nil, List.any_cons, List.any_nil, Nat.reduceAdd, Nat.reduceSub, Bool.or_false, Bool.or_true, Bool.false_or, Bool.true_or, Bool.not_true, Bool.not_false, Option.map_some, Option.bind_some, decide_true, decide_false, true_and, and_true, wipeL, ↓gg_KINDS, v1, s4, ea, s3, ↓x_if, List.length_map, show ms.length + row3.length ≤ 16777216 by omega]
          refine ⟨ms ++ row3, _, rfl, ?_, ?_, fun d => ?_, v4.fresh (Nat.le_refl _)⟩
          · rw [List.map_append]
            exact at_set v1
          · rw [List.length_append]
            omega
          · rw [take_succ he]
            simp only [List.mem_append, v3 d, List.mem_singleton]
            constructor
            · rintro ((z | ⟨y, hy, z⟩) | z)
              · exact .inl z
              · exact .inr ⟨y, .inl hy, z⟩
              · exact .inr ⟨e, .inr rfl, row3, s1, z⟩
            · rintro (z | ⟨y, hy | hy, z⟩)
              · exact .inl (.inl z)
              · exact .inl (.inr ⟨y, hy, z⟩)
              · subst hy
                obtain ⟨row4, z1, z2⟩ := z
                rw [s1] at z1
                cases z1
                exact .inr z2
        · rintro l h5 ⟨ms, e2, rfl, v1, v2, v3, v4⟩
          rw [List.length_map] at v2 v3
          have u1' := v4.lst (by simp) u1
          simp only [↓x_var, ↓x_int, ↓x_bl, ↓x_non, ↓x_str, ↓x_bin, ↓x_cmp, ↓x_idx, ↓x_neg, ↓x_not, ↓x_isN, ↓x_isnN, ↓x_rev, ↓x_sset, ↓x_isiT, ↓x_chn, ↓x_ite, ↓x_and, ↓x_or, ↓x_and1, ↓x_or1, ↓x_and2, ↓x_or2, ↓x_tup, ↓x_lst, ↓x_dic, ↓x_slc, ↓x_call, ↓x_callK, ↓x_blt, ↓x_mth, ↓x_rngL, ↓x_rngT, ↓x_comp, ↓x_enil, ↓x_econs, ↓x_kv0, ↓x_kv, ↓x_ono, ↓x_oso, ↓x_cno, ↓x_cso, ↓x_val, ↓x_rng1, ↓x_rng2, ↓x_enum, ↓x_gvar, ↓x_gtup, ↓x_gtupR, ↓x_gsub, ↓x_gnil, ↓x_gcons, ↓x_snil, ↓x_scons, ↓x_pass, ↓x_expr, ↓x_ret, ↓x_retN, ↓x_set, ↓x_aug, ↓x_augO, ↓x_augA, ↓x_augS, ↓x_iff, ↓x_for, ↓x_whl, ↓x_brk, ↓x_cnt, ↓x_seqN, ↓x_seqR, ↓x_seqB, ↓x_seqC, ↓x_finR, ↓x_finN, ↓x_lk, ↓x_negR, ↓x_notR, ↓x_cnd, ↓x_oiR, ↓x_opt, ↓x_ob, ↓x_r1, ↓x_r2, ↓x_valT, ↓x_valF, ↓x_lst', ↓x_dk', ↓x_valL, ↓x_enumL, ↓x_mthL, ↓x_mth_append, ↓x_mth_extend, ↓x_mth_pop, ↓x_mth_get, ↓x_newT, ↓x_newL, ↓x_dicR, ↓x_add, ↓x_sub, ↓x_mul, ↓x_fdiv, ↓x_mod, ↓x_pow, ↓x_tadd, ↓x_ladd, ↓x_lt, ↓x_le, ↓x_gt, ↓x_ge, ↓x_eq, ↓x_ne, ↓x_inn, ↓x_nin, ↓x_tix, ↓x_rix, ↓x_ixL, ↓x_ixD, ↓x_setD, ↓x_stD, ↓x_stL, ↓x_app, ↓x_if, ↓x_ext, ↓x_pop, ↓x_lenT, ↓x_lenR, ↓x_lenL, ↓x_listT, ↓x_listL, ↓x_tupL, ↓x_tupT, ↓x_sortT, ↓x_sortL, ↓x_all, ↓x_any, ↓x_sum, ↓x_max2, ↓x_min2, ↓x_toint, ↓x_repr, ↓x_rep, ↓x_slcT, ↓x_slcF, ↓x_slcL, ↓x_revL, ↓x_ssetL, ↓x_isi_int, ↓x_isi_bool, ↓x_isi_NoneType, ↓x_isi_str, ↓x_isi_tuple, ↓x_isi_list, ↓gx_bd, ↓gx_ok, ↓x_loopN, ↓x_loopC, ↓x_loopB, ↓x_loopR, ty_NoneType_int, ty_NoneType_bool, ty_NoneType_str, ty_NoneType_list, ty_NoneType_tuple, ty_NoneType_dict, ty_int_int, ty_int_bool, ty_int_str, ty_int_list, ty_int_tuple, ty_int_dict, ty_bool_int, ty_bool_bool, ty_bool_str, ty_bool_list, ty_bool_tuple, ty_bool_dict, ty_str_int, ty_str_bool, ty_str_str, ty_str_list, ty_str_tuple, ty_str_dict, ty_tuple_int, ty_tuple_bool, ty_tuple_str, ty_tuple_list, ty_tuple_tuple, ty_tuple_dict, ty_list_int, ty_list_bool, ty_list_str, ty_list_list, ty_list_tuple, ty_list_dict, ty_dict_int, ty_dict_bool, ty_dict_str, ty_dict_list, ty_dict_tuple, ty_dict_dict, at_0, at_1, at_2, at_3, at_4, nat_0, nat_1, nat_2, nat_3, nat_4, nat_5, nat_6, at_end, at_end1, at_end2, at_end3, bools_t, all_t, Nat.reduceLT, Nat.reduceLeDiff, Int.reduceLT, Int.reduceLE, Int.reduceAdd, Int.reduceSub, Int.reduceMul, Int.reducePow, Int.reduceToNat, Int.reduceNeg, ifx_t, ifx_f, ifx_n, gx_ok, eqT_int, List.getElem?_cons_zero, List.getElem?_cons_succ, List.set_cons_zero, List.set_cons_succ, List.map_cons, List.map_nil, List.nil_append, List.cons_append, List.replicate_succ, List.replicate_zero, List.length_cons, List.length_nil, List.any_cons, List.any_nil, Nat.reduceAdd, Nat.reduceSub, Bool.or_false, Bool.or_true, Bool.false_or, Bool.true_or, Bool.not_true, Bool.not_false, Option.map_some, Option.bind_some, decide_true, decide_false, true_and, and_true, wipeL, ↓gg_KINDS, u1', rgOk_of (i := 0) (j := B.length) (by omega), List.length_map]
          refine comp_in (v := 6) (by omega) v1 (show (7 : Nat) < 10 by decide) rfl (by decide) ?_
          simp only [↓x_var, ↓x_int, ↓x_bl, ↓x_non, ↓x_str, ↓x_bin, ↓x_cmp, ↓x_idx, ↓x_neg, ↓x_not, ↓x_isN, ↓x_isnN, ↓x_rev, ↓x_sset, ↓x_isiT, ↓x_chn, ↓x_ite, ↓x_and, ↓x_or, ↓x_and1, ↓x_or1, ↓x_and2, ↓x_or2, ↓x_tup, ↓x_lst, ↓x_dic, ↓x_slc, ↓x_call, ↓x_callK, ↓x_blt, ↓x_mth, ↓x_rngL, ↓x_rngT, ↓x_comp, ↓x_enil, ↓x_econs, ↓x_kv0, ↓x_kv, ↓x_ono, ↓x_oso, ↓x_cno, ↓x_cso, ↓x_val, ↓x_rng1, ↓x_rng2, ↓x_enum, ↓x_gvar, ↓x_gtup, ↓x_gtupR, ↓x_gsub, ↓x_gnil, ↓x_gcons, ↓x_snil, ↓x_scons, ↓x_pass, ↓x_expr, ↓x_ret, ↓x_retN, ↓x_set, ↓x_aug, ↓x_augO, ↓x_augA, ↓x_augS, ↓x_iff, ↓x_for, ↓x_whl, ↓x_brk, ↓x_cnt, ↓x_seqN, ↓x_seqR, ↓x_seqB, ↓x_seqC, ↓x_finR, ↓x_finN, ↓x_lk, ↓x_negR, ↓x_notR, ↓x_cnd, ↓x_oiR, ↓x_opt, ↓x_ob, ↓x_r1, ↓x_r2, ↓x_valT, ↓x_valF, ↓x_lst', ↓x_dk', ↓x_valL, ↓x_enumL, ↓x_mthL, ↓x_mth_append, ↓x_mth_extend, ↓x_mth_pop, ↓x_mth_get, ↓x_newT, ↓x_newL, ↓x_dicR, ↓x_add, ↓x_sub, ↓x_mul, ↓x_fdiv, ↓x_mod, ↓x_pow, ↓x_tadd, ↓x_ladd, ↓x_lt, ↓x_le, ↓x_gt, ↓x_ge, ↓x_eq, ↓x_ne, ↓x_inn, ↓x_nin, ↓x_tix, ↓x_rix, ↓x_ixL, ↓x_ixD, ↓x_setD, ↓x_stD, ↓x_stL, ↓x_app, ↓x_if, ↓x_ext, ↓x_pop, ↓x_lenT, ↓x_lenR, ↓x_lenL, ↓x_listT, ↓x_listL, ↓x_tupL, ↓x_tupT, ↓x_sortT, ↓x_sortL, ↓x_all, ↓x_any, ↓x_sum, ↓x_max2, ↓x_min2, ↓x_toint, ↓x_repr, ↓x_rep, ↓x_slcT, ↓x_slcF, ↓x_slcL, ↓x_revL, ↓x_ssetL, ↓x_isi_int, ↓x_isi_bool, ↓x_isi_NoneType, ↓x_isi_str, ↓x_isi_tuple, ↓x_isi_list, ↓gx_bd, ↓gx_ok, ↓x_loopN, ↓x_loopC, ↓x_loopB, ↓x_loopR, ty_NoneType_int, ty_NoneType_bool, ty_NoneType_str, ty_NoneType_list, ty_NoneType_tuple, ty_NoneType_dict, ty_int_int, ty_int_bool, ty_int_str, ty_int_list, ty_int_tuple, ty_int_dict, ty_bool_int, ty_bool_bool, ty_bool_str, ty_bool_list, ty_bool_tuple, ty_bool_dict, ty_str_int, ty_str_bool, ty_str_str, ty_str_list, ty_str_tuple, ty_str_dict, ty_tuple_int, ty_tuple_bool, ty_tuple_str, ty_tuple_list, ty_tuple_tuple, ty_tuple_dict, ty_list_int, ty_list_bool, ty_list_str, ty_list_list, ty_list_tuple, ty_list_dict, ty_dict_int, ty_dict_bool, ty_dict_str, ty_dict_list, ty_dict_tuple, ty_dict_dict, at_0, at_1, at_2, at_3, at_4, nat_0, nat_1, nat_2, nat_3, nat_4, nat_5, nat_6, at_end, at_end1, at_end2, at_end3, bools_t, all_t, Nat.reduceLT, Nat.reduceLeDiff, Int.reduceLT, Int.reduceLE, Int.reduceAdd, Int.reduceSub, Int.reduceMul, Int.reducePow, Int.reduceToNat, Int.reduceNeg, ifx_t, ifx_f, ifx_n, gx_ok, eqT_int, List.getElem?_cons_zero, List.getElem?_cons_succ, List.set_cons_zero, List.set_cons_succ, List.map_cons, List.map_nil, List.nil_append, List.cons_append, List.replicate_succ, List.replicate_zero, List.length_cons, List.length_nil, List.any_cons, List.any_nil, Nat.reduceAdd, Nat.reduceSub, Bool.or_false, Bool.or_true, Bool.false_or, Bool.true_or, Bool.not_true, Bool.not_false, Option.map_some, Option.bind_some, decide_true, decide_false, true_and, and_true, wipeL, ↓gg_KINDS, at_old u1', ↓x_if, List.length_map, show qs.length < 16777216 by omega]
          have h5l := v4.le
          refine ⟨qs ++ [h5.length], _, _, _, rfl, ?_, ?_, ?_, ?_, ?_⟩
          · rw [List.map_append]
            exact at_set (at_old u1')
          · rw [List.length_append, u2]
            rfl
          · intro b hb
            rcases List.mem_append.mp hb with z | z
            · exact u3 b z
            · rw [List.mem_singleton.mp z]
              omega
          · intro j b e
            by_cases hj : j < qs.length
            · rw [List.getElem?_append_left hj] at e
              obtain ⟨row2, z1, z2⟩ := u4 j b e
              have := u3 b (List.mem_of_getElem? e)
              exact ⟨row2, at_setn (at_old (v4.lst (by simp) z1)) (by omega), z2⟩
            · have hj2 := (List.getElem?_eq_some_iff.mp e).1
              rw [List.length_append, List.length_singleton] at hj2
              have ej : j = qs.length := by omega
              subst ej
              rw [List.getElem?_append_right (Nat.le_refl _), Nat.sub_self] at e
              cases e
              refine ⟨_, at_setn at_end (by omega), ?_, fun d => ?_⟩
              · have := List.length_filter_le (fun i => decide (i ∈ ms)) (irange B.length)
                rw [irange_len] at this
                omega
              · rw [List.mem_filter, mem_irange, decide_eq_true_eq, v3 d, List.take_length, u2]
                constructor
                · rintro ⟨z1, z2⟩
                  exact ⟨z1, row, r1, z2⟩
                · rintro ⟨z1, row4, z2, z3⟩
                  rw [r1] at z2
                  cases z2
                  exact ⟨z1, z3⟩
          · exact (u5.trans (v4.trans (.app _))).fresh (Nat.le_refl _)
      · rintro l h4 ⟨qs, c, d, e, rfl, u1, u2, u3, u4, u5⟩
        rw [List.length_map] at u2
        simp only [↓x_var, ↓x_int, ↓x_bl, ↓x_non, ↓x_str, ↓x_bin, ↓x_cmp, ↓x_idx, ↓x_neg, ↓x_not, ↓x_isN, ↓x_isnN, ↓x_rev, ↓x_sset, ↓x_isiT, ↓x_chn, ↓x_ite, ↓x_and, ↓x_or, ↓x_and1, ↓x_or1, ↓x_and2, ↓x_or2, ↓x_tup, ↓x_lst, ↓x_dic, ↓x_slc, ↓x_call, ↓x_callK, ↓x_blt, ↓x_mth, ↓x_rngL, ↓x_rngT, ↓x_comp, ↓x_enil, ↓x_econs, ↓x_kv0, ↓x_kv, ↓x_ono, ↓x_oso, ↓x_cno, ↓x_cso, ↓x_val, ↓x_rng1, ↓x_rng2, ↓x_enum, ↓x_gvar, ↓x_gtup, ↓x_gtupR, ↓x_gsub, ↓x_gnil, ↓x_gcons, ↓x_snil, ↓x_scons, ↓x_pass, ↓x_expr, ↓x_ret, ↓x_retN, ↓x_set, ↓x_aug, ↓x_augO, ↓x_augA, ↓x_augS, ↓x_iff, ↓x_for, ↓x_whl, ↓x_brk, ↓x_cnt, ↓x_seqN, ↓x_seqR, ↓x_seqB, ↓x_seqC, ↓x_finR, ↓x_finN, ↓x_lk, ↓x_negR, ↓x_notR, ↓x_cnd, ↓x_oiR, ↓x_opt, ↓x_ob, ↓x_r1, ↓x_r2, ↓x_valT, ↓x_valF, ↓x_lst', ↓x_dk', ↓x_valL, ↓x_enumL, ↓x_mthL, ↓x_mth_append, ↓x_mth_extend, ↓x_mth_pop, ↓x_mth_get, ↓x_newT, ↓x_newL, ↓x_dicR, ↓x_add, ↓x_sub, ↓x_mul, ↓x_fdiv, ↓x_mod, ↓x_pow, ↓x_tadd, ↓x_ladd, ↓x_lt, ↓x_le, ↓x_gt, ↓x_ge, ↓x_eq, ↓x_ne, ↓x_inn, ↓x_nin, ↓x_tix, ↓x_rix, ↓x_ixL, ↓x_ixD, ↓x_setD, ↓x_stD, ↓x_stL, ↓x_app, ↓x_if, ↓x_ext, ↓x_pop, ↓x_lenT, ↓x_lenR, ↓x_lenL, ↓x_listT, ↓x_listL, ↓x_tupL, ↓x_tupT, ↓x_sortT, ↓x_sortL, ↓x_all, ↓x_any, ↓x_sum, ↓x_max2, ↓x_min2, ↓x_toint, ↓x_repr, ↓x_rep, ↓x_slcT, ↓x_slcF, ↓x_slcL, ↓x_revL, ↓x_ssetL, ↓x_isi_int, ↓x_isi_bool, ↓x_isi_NoneType, ↓x_isi_str, ↓x_isi_tuple, ↓x_isi_list, ↓gx_bd, ↓gx_ok, ↓x_loopN, ↓x_loopC, ↓x_loopB, ↓x_loopR, ty_NoneType_int, ty_NoneType_bool, ty_NoneType_str, ty_NoneType_list, ty_NoneType_tuple, ty_NoneType_dict, ty_int_int, ty_int_bool, ty_int_str, ty_int_list, ty_int_tuple, ty_int_dict, ty_bool_int, ty_bool_bool, ty_bool_str, ty_bool_list, ty_bool_tuple, ty_bool_dict, ty_str_int, ty_str_bool, ty_str_str, ty_str_list, ty_str_tuple, ty_str_dict, ty_tuple_int, ty_tuple_bool, ty_tuple_str, ty_tuple_list, ty_tuple_tuple, ty_tuple_dict, ty_list_int, ty_list_bool, ty_list_str, ty_list_list, ty_list_tuple, ty_list_dict, ty_dict_int, ty_dict_bool, ty_dict_str, ty_dict_list, ty_dict_tuple, ty_dict_dict, at_0, at_1, at_2, at_3, at_4, nat_0, nat_1, nat_2, nat_3, nat_4, nat_5, nat_6, at_end, at_end1, at_end2, at_end3, bools_t, all_t, Nat.reduceLT, Nat.reduceLeDiff, Int.reduceLT, Int.reduceLE, Int.reduceAdd, Int.reduceSub, Int.reduceMul, Int.reducePow, Int.reduceToNat, Int.reduceNeg, ifx_t, ifx_f, ifx_n, gx_ok, eqT_int, List.getElem?_cons_zero, List.getElem?_cons_succ, List.set_cons_zero, List.set_cons_succ, List.map_cons, List.map_nil, List.nil_append, List.cons_append, List.replicate_succ, List.replicate_zero, List.length_cons, List.length_nil, List.any_cons, List.any_nil, Nat.reduceAdd, Nat.reduceSub, Bool.or_false, Bool.or_true, Bool.false_or, Bool.true_or, Bool.not_true, Bool.not_false, Option.map_some, Option.bind_some, decide_true, decide_false, true_and, and_true, wipeL, ↓gg_KINDS]
        -- the new rows
        have ex : ∀ j : Nat, ∃ row2 : List Int, ∀ a, qs[j]? = some a → h4[a]? = some (.lst (row2.map T.int)) ∧ Nxt B.length M j row2 := fun j => by
          cases q : qs[j]? with
          | none => exact ⟨[], fun a e => by cases e⟩
          | some a =>
            obtain ⟨row2, z1, z2⟩ := u4 j a q
            exact ⟨row2, fun b e => by cases e; exact ⟨z1, z2⟩⟩
        let rowOf : Nat → List Int := fun j => (ex j).choose
        have rowOk : ∀ j a, qs[j]? = some a → h4[a]? = some (.lst ((rowOf j).map T.int)) ∧ Nxt B.length M j (rowOf j) := fun j => (ex j).choose_spec
        have qk : ∀ j, j < B.length → Nxt B.length M j (rowOf j) := fun j hj => by
          have hq : j < qs.length := by omega
          exact (rowOk j _ (List.getElem?_eq_getElem hq)).2
        have nget : ∀ j, j < B.length → ((List.range B.length).map rowOf)[j]? = some (rowOf j) := fun j hj => by
          rw [List.getElem?_map, List.getElem?_range hj]
          rfl
        refine ⟨h3.length, (List.range B.length).map rowOf, _, _, _, _, _, rfl, ⟨qs, u1, by simp; omega, fun a ha => by have := u3 a ha; have := kp.le; omega, fun j a e => ?_⟩, ⟨by simp, fun row hr => ?_⟩, fun c d hc hd => ?_, kp.trans u5⟩
        · have hj := (List.getElem?_eq_some_iff.mp e).1
          exact ⟨rowOf j, nget j (by omega), (rowOk j a e).1⟩
        · obtain ⟨j, hj, rfl⟩ := List.mem_map.mp hr
          have q := qk j (List.mem_range.mp hj)
          exact ⟨q.len, fun x hx => ((q.mem x).mp hx).1⟩
        · have q := qk c hc
          have lt_ : ∀ e : Nat, rel M c e → e < B.length := fun e ⟨row, z1, z2⟩ => by
            have := (gm.row row (List.mem_of_getElem? z1)).2 _ z2
            omega
          show _ ↔ Stp (itS i (rel (B.map kindsOf))) c d
          unfold Stp
          rw [← rl c d hc hd]
          constructor
          · rintro ⟨row, z1, z2⟩
            rw [nget c hc] at z1
            cases z1
            obtain ⟨_, row4, w1, w2⟩ := (q.mem d).mp z2
            rcases w2 with w2 | ⟨e, he, row5, w3, w4⟩
            · exact .inl ⟨row4, w1, w2⟩
            · have ek := (gm.row row4 (List.mem_of_getElem? w1)).2 e he
              have ce : rel M c e.toNat := ⟨row4, w1, by rw [show ((e.toNat : Nat) : Int) = e by omega]; exact he⟩
              exact .inr ⟨e.toNat, by omega, (rl c e.toNat hc (by omega)).mp ce, (rl e.toNat d (by omega) hd).mp ⟨row5, w3, w4⟩⟩
          · intro z
            have dk : (0 ≤ (d : Int) ∧ (d : Int) < B.length) ∧ ∃ row, M[c]? = some row ∧ ((d : Int) ∈ row ∨ ∃ e ∈ row, ∃ row3, M[e.toNat]? = some row3 ∧ (d : Int) ∈ row3) := by
              rcases z with z | ⟨e, he, z1, z2⟩
              · have := lt_ d z
                obtain ⟨row, z1, z2⟩ := z
                exact ⟨by omega, row, z1, .inl z2⟩
              · have z1 := (rl c e hc he).mpr z1
                have el := lt_ e z1
                have z2 := (rl e d el hd).mpr z2
                obtain ⟨row5, y1, y2⟩ := z2
                have := (gm.row row5 (List.mem_of_getElem? y1)).2 _ y2
                obtain ⟨row4, x1, x2⟩ := z1
                exact ⟨by omega, row4, x1, .inr ⟨e, x2, row5, y1, y2⟩⟩
            exact ⟨_, nget c hc, (q.mem d).mpr dk⟩
    · rintro l h3 ⟨f, M, a0, b0, c0, d0, e0, rfl, m, gm, rl, kp⟩
      simp only [↓x_var, ↓x_int, ↓x_bl, ↓x_non, ↓x_str, ↓x_bin, ↓x_cmp, ↓x_idx, ↓x_neg, ↓x_not, ↓x_isN, ↓x_isnN, ↓x_rev, ↓x_sset, ↓x_isiT, ↓x_chn, ↓x_ite, ↓x_and, ↓x_or, ↓x_and1, ↓x_or1, ↓x_and2, ↓x_or2, ↓x_tup, ↓x_lst, ↓x_dic, ↓x_slc, ↓x_call, ↓x_callK, ↓x_blt, ↓x_mth, ↓x_rngL, ↓x_rngT, ↓x_comp, ↓x_enil, ↓x_econs, ↓x_kv0, ↓x_kv, ↓x_ono, ↓x_oso, ↓x_cno, ↓x_cso, ↓x_val, ↓x_rng1, ↓x_rng2, ↓x_enum, ↓x_gvar, ↓x_gtup, ↓x_gtupR, ↓x_gsub, ↓x_gnil, ↓x_gcons, ↓x_snil, ↓x_scons, ↓x_pass, ↓x_expr, ↓x_ret, ↓x_retN, ↓x_set, ↓x_aug, ↓x_augO, ↓x_augA, ↓x_augS, ↓x_iff, ↓x_for, ↓x_whl, ↓x_brk, ↓x_cnt, ↓x_seqN, ↓x_seqR, ↓x_seqB, ↓x_seqC, ↓x_finR, ↓x_finN, ↓x_lk, ↓x_negR, ↓x_notR, ↓x_cnd, ↓x_oiR, ↓x_opt, ↓x_ob, ↓x_r1, ↓x_r2, ↓x_valT, ↓x_valF, ↓x_lst', ↓x_dk', ↓x_valL, ↓x_enumL, ↓x_mthL, ↓x_mth_append, ↓x_mth_extend, ↓x_mth_pop, ↓x_mth_get, ↓x_newT, ↓x_newL, ↓x_dicR, ↓x_add, ↓x_sub, ↓x_mul, ↓x_fdiv, ↓x_mod, ↓x_pow, ↓x_tadd, ↓x_ladd, ↓x_lt, ↓x_le, ↓x_gt, ↓x_ge, ↓x_eq, ↓x_ne, ↓x_inn, ↓x_nin, ↓x_tix, ↓x_rix, ↓x_ixL, ↓x_ixD, ↓x_setD, ↓x_stD, ↓x_stL, ↓x_app, ↓x_if, ↓x_ext, ↓x_pop, ↓x_lenT, ↓x_lenR, ↓x_lenL, ↓x_listT, ↓x_listL, ↓x_tupL, ↓x_tupT, ↓x_sortT, ↓x_sortL, ↓x_all, ↓x_any, ↓x_sum, ↓x_max2, ↓x_min2, ↓x_toint, ↓x_repr, ↓x_rep, ↓x_slcT, ↓x_slcF, ↓x_slcL, ↓x_revL, ↓x_ssetL, ↓x_isi_int, ↓x_isi_bool, ↓x_isi_NoneType, ↓x_isi_str, ↓x_isi_tuple, ↓x_isi_list, ↓gx_bd, ↓gx_ok, ↓x_loopN, ↓x_loopC, ↓x_loopB, ↓x_loopR, ty_NoneType_int, ty_NoneType_bool, ty_NoneType_str, ty_NoneType_list, ty_NoneType_tuple, ty_NoneType_dict, ty_int_int, ty_int_bool, ty_int_str, ty_int_list, ty_int_tuple, ty_int_dict, ty_bool_int, ty_bool_bool, ty_bool_str, ty_bool_list, ty_bool_tuple, ty_bool_dict, ty_str_int, ty_str_bool, ty_str_str, ty_str_list, ty_str_tuple, ty_str_dict, ty_tuple_int, ty_tuple_bool, ty_tuple_str, ty_tuple_list, ty_tuple_tuple, ty_tuple_dict, ty_list_int, ty_list_bool, ty_list_str, ty_list_list, ty_list_tuple, ty_list_dict, ty_dict_int, ty_dict_bool, ty_dict_str, ty_dict_list, ty_dict_tuple, ty_dict_dict, at_0, at_1, at_2, at_3, at_4, nat_0, nat_1, nat_2, nat_3, nat_4, nat_5, nat_6, at_end, at_end1, at_end2, at_end3, bools_t, all_t, Nat.reduceLT, Nat.reduceLeDiff, Int.reduceLT, Int.reduceLE, Int.reduceAdd, Int.reduceSub, Int.reduceMul, Int.reducePow, Int.reduceToNat, Int.reduceNeg, ifx_t, ifx_f, ifx_n, gx_ok, eqT_int, List.getElem?_cons_zero, List.getElem?_cons_succ, List.set_cons_zero, List.set_cons_succ, List.map_cons, List.map_nil, List.nil_append, List.cons_append, List.replicate_succ, List.replicate_zero, List.length_cons, List.length_nil, List.any_cons, List.any_nil, Nat.reduceAdd, Nat.reduceSub, Bool.or_false, Bool.or_true, Bool.false_or, Bool.true_or, Bool.not_true, Bool.not_false, Option.map_some, Option.bind_some, decide_true, decide_false, true_and, and_true, wipeL, ↓gg_KINDS]
      refine ⟨f, M, rfl, m, gm, fun c d hc hd => ?_, kp⟩
      rw [range_len] at rl
      rw [rl c d hc hd]
      exact rounds g (fun c d => R0 c d) (by omega) hd
  obtain ⟨x, h1, e, f, M, rfl, q⟩ := gx_ex z
  exact ⟨_, f, M, e, q⟩
end
end K59


set_option Elab.async false
set_option linter.all false
set_option maxRecDepth 100000
namespace K59
open PySem MP L2
/-- the only rows of kinds -/
abbrev rows8 : List (List Int) := [[], [0], [1], [2], [0, 1], [0, 2], [1, 2], [0, 1, 2]]
theorem in_rows8 {xs : List Int} (h : xs.Pairwise (· < ·)) (hk : ∀ x ∈ xs, 0 ≤ x ∧ x < 3) : xs ∈ rows8 := by
  have e : xs = [0, 1, 2].filter fun i => decide (i ∈ xs) := by
    refine lt_ext h ((show [(0 : Int), 1, 2].Pairwise (· < ·) by decide).filter _) fun k => ?_
    simp only [List.mem_filter, List.mem_cons, List.not_mem_nil, or_false, decide_eq_true_eq]
    constructor
    · intro m
      have := hk k m
      exact ⟨by omega, m⟩
    · exact fun m => m.2
  rw [e]
  generalize decide ((0 : Int) ∈ xs) = a
  by_cases h0 : (0 : Int) ∈ xs <;> by_cases h1 : (1 : Int) ∈ xs <;> by_cases h2 : (2 : Int) ∈ xs <;> simp [h0, h1, h2]
def okD (d : PyData) : Bool := (decide (d.shown.length ≤ 16777216) && d.showable && decide (d.depth ≤ 60)) && SeqAt.shaped (.str d.shown)
theorem ok8 : ∀ xs ∈ rows8, okD (.tuple (xs.map PyData.int)) = true := by decide +kernel
theorem okB : ∀ b : Bool, okD (.bool b) = true := by decide +kernel
theorem okD_1 {d : PyData} (h : okD d = true) : (decide (d.shown.length ≤ 16777216) && d.showable && decide (d.depth ≤ 60)) = true := (Bool.and_eq_true_iff.mp h).1
theorem eq_str {h : Hh} {d : PyData} (o : okD d = true) : eqT h (.str d.shown) (.str d.shown) = some true := eqT_same (d := .str d.shown) rfl rfl (Bool.and_eq_true_iff.mp o).2
section
variable {h : Hh} {n : Nat}
theorem kinds {w : Int × List Tie} {B : Book} (g1 : GoodWeb B.length w) (g : GoodBook B) : ∃ (h' : Hh) (xs : List Int), callN D (n + 2) "_law_kinds" [gardenT w B] h = .ok (.tup (xs.map T.int)) h' ∧ xs.Pairwise (· < ·) ∧ (∀ d, d ∈ xs ↔ ∃ t ∈ w.2, d = t.2.2 ∨ Rch B t.2.2 d) ∧ Keep [] h h' := by
  have l3 := g.l3
  have gl := g1.len
  obtain ⟨h1, f, M, e1, m, gm, rl, k1⟩ := reach (n := n) (h := h) g
  obtain ⟨rs, m1, m2, m3, m4⟩ := m.ex
  have ml := gm.len
  have z : Gx (callN D (n + 2) "_law_kinds" [gardenT w B] h) (P := ⟨fun a h' => ∃ xs : List Int, a = .tup (xs.map T.int) ∧ xs.Pairwise (· < ·) ∧ (∀ d, d ∈ xs ↔ ∃ t ∈ w.2, d = t.2.2 ∨ Rch B t.2.2 d) ∧ Keep [] h h'⟩) := by
    refine call_gx f__law_kinds rfl ?_
    simp only [↓x_var, ↓x_int, ↓x_bl, ↓x_non, ↓x_str, ↓x_bin, ↓x_cmp, ↓x_idx, ↓x_neg, ↓x_not, ↓x_isN, ↓x_isnN, ↓x_rev, ↓x_sset, ↓x_isiT, ↓x_chn, ↓x_ite, ↓x_and, ↓x_or, ↓x_and1, ↓x_or1, ↓x_and2, ↓x_or2, ↓x_tup, ↓x_lst, ↓x_dic, ↓x_slc, ↓x_call, ↓x_callK, ↓x_blt, ↓x_mth, ↓x_rngL, ↓x_rngT, ↓x_comp, ↓x_enil, ↓x_econs, ↓x_kv0, ↓x_kv, ↓x_ono, ↓x_oso, ↓x_cno, ↓x_cso, ↓x_val, ↓x_rng1, ↓x_rng2, ↓x_enum, ↓x_gvar, ↓x_gtup, ↓x_gtupR, ↓x_gsub, ↓x_gnil, ↓x_gcons, ↓x_snil, ↓x_scons, ↓x_pass, ↓x_expr, ↓x_ret, ↓x_retN, ↓x_set, ↓x_aug, ↓x_augO, ↓x_augA, ↓x_augS, ↓x_iff, ↓x_for, ↓x_whl, ↓x_brk, ↓x_cnt, ↓x_seqN, ↓x_seqR, ↓x_seqB, ↓x_seqC, ↓x_finR, ↓x_finN, ↓x_lk, ↓x_negR, ↓x_notR, ↓x_cnd, ↓x_oiR, ↓x_opt, ↓x_ob, ↓x_r1, ↓x_r2, ↓x_valT, ↓x_valF, ↓x_lst', ↓x_dk', ↓x_valL, ↓x_enumL, ↓x_mthL, ↓x_mth_append, ↓x_mth_extend, ↓x_mth_pop, ↓x_mth_get, ↓x_newT, ↓x_newL, ↓x_dicR, ↓x_add, ↓x_sub, ↓x_mul, ↓x_fdiv, ↓x_mod, ↓x_pow, ↓x_tadd, ↓x_ladd, ↓x_lt, ↓x_le, ↓x_gt, ↓x_ge, ↓x_eq, ↓x_ne, ↓x_inn, ↓x_nin, ↓x_tix, ↓x_rix, ↓x_ixL, ↓x_ixD, ↓x_setD, ↓x_stD, ↓x_stL, ↓x_app, ↓x_if, ↓x_ext, ↓x_pop, ↓x_lenT, ↓x_lenR, ↓x_lenL, ↓x_listT, ↓x_listL, ↓x_tupL, ↓x_tupT, ↓x_sortT, ↓x_sortL, ↓x_all, ↓x_any, ↓x_sum, ↓x_max2, ↓x_min2, ↓x_toint, ↓x_repr, ↓x_rep, ↓x_slcT, ↓x_slcF, ↓x_slcL, ↓x_revL, ↓x_ssetL, ↓x_isi_int, ↓x_isi_bool, ↓x_isi_NoneType, ↓x_isi_str, ↓x_isi_tuple, ↓x_isi_list, ↓gx_bd, ↓gx_ok, ↓x_loopN, ↓x_loopC, ↓x_loopB, ↓x_loopR, ty_NoneType_int, ty_NoneType_bool, ty_NoneType_str, ty_NoneType_list, ty_NoneType_tuple, ty_NoneType_dict, ty_int_int, ty_int_bool, ty_int_str, ty_int_list, ty_int_tuple, ty_int_dict, ty_bool_int, ty_bool_bool, ty_bool_str, ty_bool_list, ty_bool_tuple, ty_bool_dict, ty_str_int, ty_str_bool, ty_str_str, ty_str_list, ty_str_tuple, ty_str_dict, ty_tuple_int, ty_tuple_bool, ty_tuple_str, ty_tuple_list, ty_tuple_tuple, ty_tuple_dict, ty_list_int, ty_list_bool, ty_list_str, ty_list_list, ty_list_tuple, ty_list_dict, ty_dict_int, ty_dict_bool, ty_dict_str, ty_dict_list, ty_dict_tuple, ty_dict_dict, at_0, at_1, at_2, at_3, at_4, nat_0, nat_1, nat_2, nat_3, nat_4, nat_5, nat_6, at_end, at_end1, at_end2, at_end3, bools_t, all_t, Nat.reduceLT, Nat.reduceLeDiff, Int.reduceLT, Int.reduceLE, Int.reduceAdd, Int.reduceSub, Int.reduceMul, Int.reducePow, Int.reduceToNat, Int.reduceNeg, ifx_t, ifx_f, ifx_n, gx_ok, eqT_int, List.getElem?_cons_zero, List.getElem?_cons_succ, List.set_cons_zero, List.set_cons_succ, List.map_cons, List.map_nil, List.nil_append, List.cons_append, List.replicate_succ, List.replicate_zero, List.length_cons, List.length_nil, List.any_cons, List.any_nil, Nat.reduceAdd, Nat.reduceSub, Bool.or_false, Bool.or_true, Bool.false_or, Bool.true_or, Bool.not_true, Bool.not_false, Option.map_some, Option.bind_some, decide_true, decide_false, true_and, and_true, wipeL, ↓gg_KINDS, gardenT, webT, e1]
    refine comp_map (fun x => match x with | .tup [_, _, z] => z | _ => .non) (fun h' => h' = h1) rfl (by rw [List.length_map]; omega) (fun _ _ p hp => by simp at hp) ?_ ?_
    · rintro x h2 hx rfl
      obtain ⟨t, ht, rfl⟩ := List.mem_map.mp hx
      simp only [↓x_var, ↓x_int, ↓x_bl, ↓x_non, ↓x_str, ↓x_bin, ↓x_cmp, ↓x_idx, ↓x_neg, ↓x_not, ↓x_isN, ↓x_isnN, ↓x_rev, ↓x_sset, ↓x_isiT, ↓x_chn, ↓x_ite, ↓x_and, ↓x_or, ↓x_and1, ↓x_or1, ↓x_and2, ↓x_or2, ↓x_tup, ↓x_lst, ↓x_dic, ↓x_slc, ↓x_call, ↓x_callK, ↓x_blt, ↓x_mth, ↓x_rngL, ↓x_rngT, ↓x_comp, ↓x_enil, ↓x_econs, ↓x_kv0, ↓x_kv, ↓x_ono, ↓x_oso, ↓x_cno, ↓x_cso, ↓x_val, ↓x_rng1, ↓x_rng2, ↓x_enum, ↓x_gvar, ↓x_gtup, ↓x_gtupR, ↓x_gsub, ↓x_gnil, ↓x_gcons, ↓x_snil, ↓x_scons, ↓x_pass, ↓x_expr, ↓x_ret, ↓x_retN, ↓x_set, ↓x_aug, ↓x_augO, ↓x_augA, ↓x_augS, ↓x_iff, ↓x_for, ↓x_whl, ↓x_brk, ↓x_cnt, ↓x_seqN, ↓x_seqR, ↓x_seqB, ↓x_seqC, ↓x_finR, ↓x_finN, ↓x_lk, ↓x_negR, ↓x_notR, ↓x_cnd, ↓x_oiR, ↓x_opt, ↓x_ob, ↓x_r1, ↓x_r2, ↓x_valT, ↓x_valF, ↓x_lst', ↓x_dk', ↓x_valL, ↓x_enumL, ↓x_mthL, ↓x_mth_append, ↓x_mth_extend, ↓x_mth_pop, ↓x_mth_get, ↓x_newT, ↓x_newL, ↓x_dicR, ↓x_add, ↓x_sub, ↓x_mul, ↓x_fdiv, ↓x_mod, ↓x_pow, ↓x_tadd, ↓x_ladd, ↓x_lt, ↓x_le, ↓x_gt, ↓x_ge, ↓x_eq, ↓x_ne, ↓x_inn, ↓x_nin, ↓x_tix, ↓x_rix, ↓x_ixL, ↓x_ixD, ↓x_setD, ↓x_stD, ↓x_stL, ↓x_app, ↓x_if, ↓x_ext, ↓x_pop, ↓x_lenT, ↓x_lenR, ↓x_lenL, ↓x_listT, ↓x_listL, ↓x_tupL, ↓x_tupT, ↓x_sortT, ↓x_sortL, ↓x_all, ↓x_any, ↓x_sum, ↓x_max2, ↓x_min2, ↓x_toint, ↓x_repr, ↓x_rep, ↓x_slcT, ↓x_slcF, ↓x_slcL, ↓x_revL, ↓x_ssetL, ↓x_isi_int, ↓x_isi_bool, ↓x_isi_NoneType, ↓x_isi_str, ↓x_isi_tuple, ↓x_isi_list, ↓gx_bd, ↓gx_ok, ↓x_loopN, ↓x_loopC, ↓x_loopB, ↓x_loopR, ty_NoneType_int, ty_NoneType_bool, ty_NoneType_str, ty_NoneType_list, ty_NoneType_tuple, ty_NoneType_dict, ty_int_int, ty_int_bool, ty_int_str, ty_int_list, ty_int_tuple, ty_int_dict, ty_bool_int, ty_bool_bool, ty_bool_str, ty_bool_list, ty_bool_tuple, ty_bool_dict, ty_str_int, ty_str_bool, ty_str_str, ty_str_list, ty_str_tuple, ty_str_dict, ty_tuple_int, ty_tuple_bool, ty_tuple_str, ty_tuple_list, ty_tuple_tuple, ty_tuple_dict, ty_list_int, ty_list_bool, ty_list_str, ty_list_list, ty_list_tuple, ty_list_dict, ty_dict_int, ty_dict_bool, ty_dict_str, ty_dict_list, ty_dict_tuple, ty_dict_dict, at_0, at_1, at_2, at_3, at_4, nat_0, nat_1, nat_2, nat_3, nat_4, nat_5, nat_6, at_end, at_end1, at_end2, at_end3, bools_t, all_t, Nat.reduceLT, Nat.reduceLeDiff, Int.reduceLT, Int.reduceLE, Int.reduceAdd, Int.reduceSub, Int.reduceMul, Int.reducePow, Int.reduceToNat, Int.reduceNeg, ifx_t, ifx_f, ifx_n, gx_ok, eqT_int, List.getElem?_cons_zero, List.getElem?_cons_succ, List.set_cons_zero, List.set_cons_succ, List.map_cons, List.map_nil, List.nil_append, List.cons_append, List.replicate_succ, List.replicate_zero, List.length_cons, List.length_nil, List.any_cons, List.any_nil, Nat.reduceAdd, Nat.reduceSub, Bool.or_false, Bool.or_true, Bool.false_or, Bool.true_or, Bool.not_true, Bool.not_false, Option.map_some, Option.bind_some, decide_true, decide_false, true_and, and_true, wipeL, ↓gg_KINDS, tieT]
    rintro h2 rfl
    have ek : (w.2.map tieT).map (fun x => match x with | .tup [_, _, z] => z | _ => .non) = (kindsOf w).map T.int := by
      unfold kindsOf
      rw [List.map_map, List.map_map]
      rfl
    rw [ek]
    have kl : (kindsOf w).length = w.2.length := List.length_map _
    have kk : ∀ x ∈ kindsOf w, 0 ≤ x ∧ x < B.length := fun x hx => by
      obtain ⟨t, ht, rfl⟩ := List.mem_map.mp hx
      exact (g1.tie t ht).2.2.2
    simp only [↓x_var, ↓x_int, ↓x_bl, ↓x_non, ↓x_str, ↓x_bin, ↓x_cmp, ↓x_idx, ↓x_neg, ↓x_not, ↓x_isN, ↓x_isnN, ↓x_rev, ↓x_sset, ↓x_isiT, ↓x_chn, ↓x_ite, ↓x_and, ↓x_or, ↓x_and1, ↓x_or1, ↓x_and2, ↓x_or2, ↓x_tup, ↓x_lst, ↓x_dic, ↓x_slc, ↓x_call, ↓x_callK, ↓x_blt, ↓x_mth, ↓x_rngL, ↓x_rngT, ↓x_comp, ↓x_enil, ↓x_econs, ↓x_kv0, ↓x_kv, ↓x_ono, ↓x_oso, ↓x_cno, ↓x_cso, ↓x_val, ↓x_rng1, ↓x_rng2, ↓x_enum, ↓x_gvar, ↓x_gtup, ↓x_gtupR, ↓x_gsub, ↓x_gnil, ↓x_gcons, ↓x_snil, ↓x_scons, ↓x_pass, ↓x_expr, ↓x_ret, ↓x_retN, ↓x_set, ↓x_aug, ↓x_augO, ↓x_augA, ↓x_augS, ↓x_iff, ↓x_for, ↓x_whl, ↓x_brk, ↓x_cnt, ↓x_seqN, ↓x_seqR, ↓x_seqB, ↓x_seqC, ↓x_finR, ↓x_finN, ↓x_lk, ↓x_negR, ↓x_notR, ↓x_cnd, ↓x_oiR, ↓x_opt, ↓x_ob, ↓x_r1, ↓x_r2, ↓x_valT, ↓x_valF, ↓x_lst', ↓x_dk', ↓x_valL, ↓x_enumL, ↓x_mthL, ↓x_mth_append, ↓x_mth_extend, ↓x_mth_pop, ↓x_mth_get, ↓x_newT, ↓x_newL, ↓x_dicR, ↓x_add, ↓x_sub, ↓x_mul, ↓x_fdiv, ↓x_mod, ↓x_pow, ↓x_tadd, ↓x_ladd, ↓x_lt, ↓x_le, ↓x_gt, ↓x_ge, ↓x_eq, ↓x_ne, ↓x_inn, ↓x_nin, ↓x_tix, ↓x_rix, ↓x_ixL, ↓x_ixD, ↓x_setD, ↓x_stD, ↓x_stL, ↓x_app, ↓x_if, ↓x_ext, ↓x_pop, ↓x_lenT, ↓x_lenR, ↓x_lenL, ↓x_listT, ↓x_listL, ↓x_tupL, ↓x_tupT, ↓x_sortT, ↓x_sortL, ↓x_all, ↓x_any, ↓x_sum, ↓x_max2, ↓x_min2, ↓x_toint, ↓x_repr, ↓x_rep, ↓x_slcT, ↓x_slcF, ↓x_slcL, ↓x_revL, ↓x_ssetL, ↓x_isi_int, ↓x_isi_bool, ↓x_isi_NoneType, ↓x_isi_str, ↓x_isi_tuple, ↓x_isi_list, ↓gx_bd, ↓gx_ok, ↓x_loopN, ↓x_loopC, ↓x_loopB, ↓x_loopR, ty_NoneType_int, ty_NoneType_bool, ty_NoneType_str, ty_NoneType_list, ty_NoneType_tuple, ty_NoneType_dict, ty_int_int, ty_int_bool, ty_int_str, ty_int_list, ty_int_tuple, ty_int_dict, ty_bool_int, ty_bool_bool, ty_bool_str, ty_bool_list, ty_bool_tuple, ty_bool_dict, ty_str_int, ty_str_bool, ty_str_str, ty_str_list, ty_str_tuple, ty_str_dict, ty_tuple_int, ty_tuple_bool, ty_tuple_str, ty_tuple_list, ty_tuple_tuple, ty_tuple_dict, ty_list_int, ty_list_bool, ty_list_str, ty_list_list, ty_list_tuple, ty_list_dict, ty_dict_int, ty_dict_bool, ty_dict_str, ty_dict_list, ty_dict_tuple, ty_dict_dict, at_0, at_1, at_2, at_3, at_4, nat_0, nat_1, nat_2, nat_3, nat_4, nat_5, nat_6, at_end, at_end1, at_end2, at_end3, bools_t, all_t, Nat.reduceLT, Nat.reduceLeDiff, Int.reduceLT, Int.reduceLE, Int.reduceAdd, Int.reduceSub, Int.reduceMul, Int.reducePow, Int.reduceToNat, Int.reduceNeg, ifx_t, ifx_f, ifx_n, gx_ok, eqT_int, List.getElem?_cons_zero, List.getElem?_cons_succ, List.set_cons_zero, List.set_cons_succ, List.map_cons, List.map_nil, List.nil_append, List.cons_append, List.replicate_succ, List.replicate_zero, List.length_cons, List.length_nil, List.any_cons, List.any_nil, Nat.reduceAdd, Nat.reduceSub, Bool.or_false, Bool.or_true, Bool.false_or, Bool.true_or, Bool.not_true, Bool.not_false, Option.map_some, Option.bind_some, decide_true, decide_false, true_and, and_true, wipeL, ↓gg_KINDS, Nat.reduceLeDiff, show (2 : Nat) ≤ 16777216 by decide, List.length_map, kl, show w.2.length ≤ 16777216 by omega]
    refine gx_for (fun j l h5 => ∃ (ms : List Int) (e : Option T), l = [some (.tup [.tup [.int w.1, .tup (w.2.map tieT)], bookT B]), some (.ref (h2 ++ [O.lst ((kindsOf w).map T.int)]).length), e, some (.ref f), some (.ref h2.length), none, none] ∧ h5[(h2 ++ [O.lst ((kindsOf w).map T.int)]).length]? = some (.lst (ms.map T.int)) ∧ ms.length ≤ 40 + 40 * j ∧ (∀ d, d ∈ ms ↔ d ∈ kindsOf w ∨ ∃ e ∈ (kindsOf w).take j, ∃ row3, M[e.toNat]? = some row3 ∧ d ∈ row3) ∧ Keep [] (h2 ++ [O.lst ((kindsOf w).map T.int)]) h5)
      ⟨kindsOf w, _, rfl, at_end, by omega, fun d => by simp, .app _⟩ ?_ ?_ ?_
    · rintro j l h5 ⟨ms, e, rfl, v1, v2, v3, v4⟩ p hp
      rw [List.mem_singleton.mp hp]
      show mutL _ _ = _
      unfold mutL
      rw [v4.lst (by simp) at_end]
    · rintro j x l h5 hx ⟨ms, e2, rfl, v1, v2, v3, v4⟩
      rw [List.getElem?_map] at hx
      obtain ⟨e, he, rfl⟩ := Option.map_eq_some_iff.mp hx
      have hj := (List.getElem?_eq_some_iff.mp he).1
      have ek := kk e (List.mem_of_getElem? he)
      have el : e.toNat < rs.length := by omega
      have ea : atI (rs.map T.ref) e = some (.ref rs[e.toNat]) := atI_some (j := e.toNat) (by omega) (by rw [List.getElem?_map, List.getElem?_eq_getElem el]; rfl)
      obtain ⟨row3, s1, s2⟩ := m4 e.toNat _ (List.getElem?_eq_getElem el)
      have s3 := v4.lst (by simp) (at_old s2)
      have s4 := v4.lst (by simp) (at_old m1)
      have rl3 := (gm.row row3 (List.mem_of_getElem? s1)).1
      simp only [↓x_var, ↓x_int, ↓x_bl, ↓x_non, ↓x_str, ↓x_bin, ↓x_cmp, ↓x_idx, ↓x_neg, ↓x_not, ↓x_isN, ↓x_isnN, ↓x_rev, ↓x_sset, ↓x_isiT, ↓x_chn, ↓x_ite, ↓x_and, ↓x_or, ↓x_and1, ↓x_or1, ↓x_and2, ↓x_or2, ↓x_tup, ↓x_lst, ↓x_dic, ↓x_slc, ↓x_call, ↓x_callK, ↓x_blt, ↓x_mth, ↓x_rngL, ↓x_rngT, ↓x_comp, ↓x_enil, ↓x_econs, ↓x_kv0, ↓x_kv, ↓x_ono, ↓x_oso, ↓x_cno, ↓x_cso, ↓x_val, ↓x_rng1, ↓x_rng2, ↓x_enum, ↓x_gvar, ↓x_gtup, ↓x_gtupR, ↓x_gsub, ↓x_gnil, ↓x_gcons, ↓x_snil, ↓x_scons, ↓x_pass, ↓x_expr, ↓x_ret, ↓x_retN, ↓x_set, ↓x_aug, ↓x_augO, ↓x_augA, ↓x_augS, ↓x_iff, ↓x_for, ↓x_whl, ↓x_brk, ↓x_cnt, ↓x_seqN, ↓x_seqR, ↓x_seqB, ↓x_seqC, ↓x_finR, ↓x_finN, ↓x_lk, ↓x_negR, ↓x_notR, ↓x_cnd, ↓x_oiR, ↓x_opt, ↓x_ob, ↓x_r1, ↓x_r2, ↓x_valT, ↓x_valF, ↓x_lst', ↓x_dk', ↓x_valL, ↓x_enumL, ↓x_mthL, ↓x_mth_append, ↓x_mth_extend, ↓x_mth_pop, ↓x_mth_get, ↓x_newT, ↓x_newL, ↓x_dicR, ↓x_add, ↓x_sub, ↓x_mul, ↓x_fdiv, ↓x_mod, ↓x_pow, ↓x_tadd, ↓x_ladd, ↓x_lt, ↓x_le, ↓x_gt, ↓x_ge, ↓x_eq, ↓x_ne, ↓x_inn, ↓x_nin, ↓x_tix, ↓x_rix, ↓x_ixL, ↓x_ixD, ↓x_setD, ↓x_stD, ↓x_stL, ↓x_app, ↓x_if, ↓x_ext, ↓x_pop, ↓x_lenT, ↓x_lenR, ↓x_lenL, ↓x_listT, ↓x_listL, ↓x_tupL, ↓x_tupT, ↓x_sortT, ↓x_sortL, ↓x_all, ↓x_any, ↓x_sum, ↓x_max2, ↓x_min2, ↓x_toint, ↓x_repr, ↓x_rep, ↓x_slcT, ↓x_slcF, ↓x_slcL, ↓x_revL, ↓x_ssetL, ↓x_isi_int, ↓x_isi_bool, ↓x_isi_NoneType, ↓x_isi_str, ↓x_isi_tuple, ↓x_isi_list, ↓gx_bd, ↓gx_ok, ↓x_loopN, ↓x_loopC, ↓x_loopB, ↓x_loopR, ty_NoneType_int, ty_NoneType_bool, ty_NoneType_str, ty_NoneType_list, ty_NoneType_tuple, ty_NoneType_dict, ty_int_int, ty_int_bool, ty_int_str, ty_int_list, ty_int_tuple, ty_int_dict, ty_bool_int, ty_bool_bool, ty_bool_str, ty_bool_list, ty_bool_tuple, ty_bool_dict, ty_str_int, ty_str_bool, ty_str_str, ty_str_list, ty_str_tuple, ty_str_dict, ty_tuple_int, ty_tuple_bool, ty_tuple_str, ty_tuple_list, ty_tuple_tuple, ty_tuple_dict, ty_list_int, ty_list_bool, ty_list_str, ty_list_list, ty_list_tuple, ty_list_dict, ty_dict_int, ty_dict_bool, ty_dict_str, ty_dict_list, ty_dict_tuple, ty_dict_dict, at_0, at_1, at_2, at_3, at_4, nat_0, nat_1, nat_2, nat_3, nat_4, nat_5, nat_6, at_end, at_end1, at_end2, at_end3, bools_t, all_t, Nat.reduceLT, Nat.reduceLeDiff, Int.reduceLT, Int.reduceLE, Int.reduceAdd, Int.reduceSub, Int.reduceMul, Int.reducePow, Int.reduceToNat, Int.reduceNeg, ifx_t, ifx_f, ifx_n, gx_ok, eqT_int, List.getElem?_cons_zero, List.getElem?_cons_succ, List.set_cons_zero, List.set_cons_succ, List.map_cons, List.map_nil, List.nil_append, List.cons_append, List.replicate_succ, List.replicate_zero, List.length_cons, List.length_nil, List.any_cons, List.any_nil, Nat.reduceAdd, Nat.reduceSub, Bool.or_false, Bool.or_true, Bool.false_or, Bool.true_or, Bool.not_true, Bool.not_false, Option.map_some, Option.bind_some, decide_true, decide_false, true_and, and_true, wipeL, ↓gg_KINDS, v1, s4, ea, s3, ↓x_if, List.length_map, show ms.length + row3.length ≤ 16777216 by omega]
      refine ⟨ms ++ row3, _, rfl, ?_, ?_, fun d => ?_, v4.fresh (Nat.le_refl _)⟩
      · rw [List.map_append]
        exact at_set v1
      · rw [List.length_append]
        omega
      · rw [take_succ he]
        simp only [List.mem_append, v3 d, List.mem_singleton]
        constructor
        · rintro ((z | ⟨y, hy, z⟩) | z)
          · exact .inl z
          · exact .inr ⟨y, .inl hy, z⟩
          · exact .inr ⟨e, .inr rfl, row3, s1, z⟩
        · rintro (z | ⟨y, hy | hy, z⟩)
          · exact .inl (.inl z)
          · exact .inl (.inr ⟨y, hy, z⟩)
          · subst hy
            obtain ⟨row4, z1, z2⟩ := z
            rw [s1] at z1
            cases z1
            exact .inr z2
    · intro l h5 hj
      rw [List.length_map] at hj
      obtain ⟨ms, e2, el, v1, v2, v3, v4⟩ := hj
      subst el
      simp only [↓x_var, ↓x_int, ↓x_bl, ↓x_non, ↓x_str, ↓x_bin, ↓x_cmp, ↓x_idx, ↓x_neg, ↓x_not, ↓x_isN, ↓x_isnN, ↓x_rev, ↓x_sset, ↓x_isiT, ↓x_chn, ↓x_ite, ↓x_and, ↓x_or, ↓x_and1, ↓x_or1, ↓x_and2, ↓x_or2, ↓x_tup, ↓x_lst, ↓x_dic, ↓x_slc, ↓x_call, ↓x_callK, ↓x_blt, ↓x_mth, ↓x_rngL, ↓x_rngT, ↓x_comp, ↓x_enil, ↓x_econs, ↓x_kv0, ↓x_kv, ↓x_ono, ↓x_oso, ↓x_cno, ↓x_cso, ↓x_val, ↓x_rng1, ↓x_rng2, ↓x_enum, ↓x_gvar, ↓x_gtup, ↓x_gtupR, ↓x_gsub, ↓x_gnil, ↓x_gcons, ↓x_snil, ↓x_scons, ↓x_pass, ↓x_expr, ↓x_ret, ↓x_retN, ↓x_set, ↓x_aug, ↓x_augO, ↓x_augA, ↓x_augS, ↓x_iff, ↓x_for, ↓x_whl, ↓x_brk, ↓x_cnt, ↓x_seqN, ↓x_seqR, ↓x_seqB, ↓x_seqC, ↓x_finR, ↓x_finN, ↓x_lk, ↓x_negR, ↓x_notR, ↓x_cnd, ↓x_oiR, ↓x_opt, ↓x_ob, ↓x_r1, ↓x_r2, ↓x_valT, ↓x_valF, ↓x_lst', ↓x_dk', ↓x_valL, ↓x_enumL, ↓x_mthL, ↓x_mth_append, ↓x_mth_extend, ↓x_mth_pop, ↓x_mth_get, ↓x_newT, ↓x_newL, ↓x_dicR, ↓x_add, ↓x_sub, ↓x_mul, ↓x_fdiv, ↓x_mod, ↓x_pow, ↓x_tadd, ↓x_ladd, ↓x_lt, ↓x_le, ↓x_gt, ↓x_ge, ↓x_eq, ↓x_ne, ↓x_inn, ↓x_nin, ↓x_tix, ↓x_rix, ↓x_ixL, ↓x_ixD, ↓x_setD, ↓x_stD, ↓x_stL, ↓x_app, ↓x_if, ↓x_ext, ↓x_pop, ↓x_lenT, ↓x_lenR, ↓x_lenL, ↓x_listT, ↓x_listL, ↓x_tupL, ↓x_tupT, ↓x_sortT, ↓x_sortL, ↓x_all, ↓x_any, ↓x_sum, ↓x_max2, ↓x_min2, ↓x_toint, ↓x_repr, ↓x_rep, ↓x_slcT, ↓x_slcF, ↓x_slcL, ↓x_revL, ↓x_ssetL, ↓x_isi_int, ↓x_isi_bool, ↓x_isi_NoneType, ↓x_isi_str, ↓x_isi_tuple, ↓x_isi_list, ↓gx_bd, ↓gx_ok, ↓x_loopN, ↓x_loopC, ↓x_loopB, ↓x_loopR, ty_NoneType_int, ty_NoneType_bool, ty_NoneType_str, ty_NoneType_list, ty_NoneType_tuple, ty_NoneType_dict, ty_int_int, ty_int_bool, ty_int_str, ty_int_list, ty_int_tuple, ty_int_dict, ty_bool_int, ty_bool_bool, ty_bool_str, ty_bool_list, ty_bool_tuple, ty_bool_dict, ty_str_int, ty_str_bool, ty_str_str, ty_str_list, ty_str_tuple, ty_str_dict, ty_tuple_int, ty_tuple_bool, ty_tuple_str, ty_tuple_list, ty_tuple_tuple, ty_tuple_dict, ty_list_int, ty_list_bool, ty_list_str, ty_list_list, ty_list_tuple, ty_list_dict, ty_dict_int, ty_dict_bool, ty_dict_str, ty_dict_list, ty_dict_tuple, ty_dict_dict, at_0, at_1, at_2, at_3, at_4, nat_0, nat_1, nat_2, nat_3, nat_4, nat_5, nat_6, at_end, at_end1, at_end2, at_end3, bools_t, all_t, Nat.reduceLT, Nat.reduceLeDiff, Int.reduceLT, Int.reduceLE, Int.reduceAdd, Int.reduceSub, Int.reduceMul, Int.reducePow, Int.reduceToNat, Int.reduceNeg, ifx_t, ifx_f, ifx_n, gx_ok, eqT_int, List.getElem?_cons_zero, List.getElem?_cons_succ, List.set_cons_zero, List.set_cons_succ, List.map_cons, List.map_nil, List.nil_append, List.cons_append, List.replicate_succ, List.replicate_zero, List.length_cons, List.length_nil, List.any_cons, List.any_nil, Nat.reduceAdd, Nat.reduceSub, Bool.or_false, Bool.or_true, Bool.false_or, Bool.true_or, Bool.not_true, Bool.not_false, Option.map_some, Option.bind_some, decide_true, decide_false, true_and, and_true, wipeL, ↓gg_KINDS, bookT, rgOk_of (i := 0) (j := B.length) (by omega), List.length_map]
      refine comp_in (v := 1) (by omega) v1 (show (2 : Nat) < 7 by decide) rfl (by decide) ?_
      simp only [↓x_var, ↓x_int, ↓x_bl, ↓x_non, ↓x_str, ↓x_bin, ↓x_cmp, ↓x_idx, ↓x_neg, ↓x_not, ↓x_isN, ↓x_isnN, ↓x_rev, ↓x_sset, ↓x_isiT, ↓x_chn, ↓x_ite, ↓x_and, ↓x_or, ↓x_and1, ↓x_or1, ↓x_and2, ↓x_or2, ↓x_tup, ↓x_lst, ↓x_dic, ↓x_slc, ↓x_call, ↓x_callK, ↓x_blt, ↓x_mth, ↓x_rngL, ↓x_rngT, ↓x_comp, ↓x_enil, ↓x_econs, ↓x_kv0, ↓x_kv, ↓x_ono, ↓x_oso, ↓x_cno, ↓x_cso, ↓x_val, ↓x_rng1, ↓x_rng2, ↓x_enum, ↓x_gvar, ↓x_gtup, ↓x_gtupR, ↓x_gsub, ↓x_gnil, ↓x_gcons, ↓x_snil, ↓x_scons, ↓x_pass, ↓x_expr, ↓x_ret, ↓x_retN, ↓x_set, ↓x_aug, ↓x_augO, ↓x_augA, ↓x_augS, ↓x_iff, ↓x_for, ↓x_whl, ↓x_brk, ↓x_cnt, ↓x_seqN, ↓x_seqR, ↓x_seqB, ↓x_seqC, ↓x_finR, ↓x_finN, ↓x_lk, ↓x_negR, ↓x_notR, ↓x_cnd, ↓x_oiR, ↓x_opt, ↓x_ob, ↓x_r1, ↓x_r2, ↓x_valT, ↓x_valF, ↓x_lst', ↓x_dk', ↓x_valL, ↓x_enumL, ↓x_mthL, ↓x_mth_append, ↓x_mth_extend, ↓x_mth_pop, ↓x_mth_get, ↓x_newT, ↓x_newL, ↓x_dicR, ↓x_add, ↓x_sub, ↓x_mul, ↓x_fdiv, ↓x_mod, ↓x_pow, ↓x_tadd, ↓x_ladd, ↓x_lt, ↓x_le, ↓x_gt, ↓x_ge, ↓x_eq, ↓x_ne, ↓x_inn, ↓x_nin, ↓x_tix, ↓x_rix, ↓x_ixL, ↓x_ixD, ↓x_setD, ↓x_stD, ↓x_stL, ↓x_app, ↓x_if, ↓x_ext, ↓x_pop, ↓x_lenT, ↓x_lenR, ↓x_lenL, ↓x_listT, ↓x_listL, ↓x_tupL, ↓x_tupT, ↓x_sortT, ↓x_sortL, ↓x_all, ↓x_any, ↓x_sum, ↓x_max2, ↓x_min2, ↓x_toint, ↓x_repr, ↓x_rep, ↓x_slcT, ↓x_slcF, ↓x_slcL, ↓x_revL, ↓x_ssetL, ↓x_isi_int, ↓x_isi_bool, ↓x_isi_NoneType, ↓x_isi_str, ↓x_isi_tuple, ↓x_isi_list, ↓gx_bd, ↓gx_ok, ↓x_loopN, ↓x_loopC, ↓x_loopB, ↓x_loopR, ty_NoneType_int, ty_NoneType_bool, ty_NoneType_str, ty_NoneType_list, ty_NoneType_tuple, ty_NoneType_dict, ty_int_int, ty_int_bool, ty_int_str, ty_int_list, ty_int_tuple, ty_int_dict, ty_bool_int, ty_bool_bool, ty_bool_str, ty_bool_list, ty_bool_tuple, ty_bool_dict, ty_str_int, ty_str_bool, ty_str_str, ty_str_list, ty_str_tuple, ty_str_dict, ty_tuple_int, ty_tuple_bool, ty_tuple_str, ty_tuple_list, ty_tuple_tuple, ty_tuple_dict, ty_list_int, ty_list_bool, ty_list_str, ty_list_list, ty_list_tuple, ty_list_dict, ty_dict_int, ty_dict_bool, ty_dict_str, ty_dict_list, ty_dict_tuple, ty_dict_dict, at_0, at_1, at_2, at_3, at_4, nat_0, nat_1, nat_2, nat_3, nat_4, nat_5, nat_6, at_end, at_end1, at_end2, at_end3, bools_t, all_t, Nat.reduceLT, Nat.reduceLeDiff, Int.reduceLT, Int.reduceLE, Int.reduceAdd, Int.reduceSub, Int.reduceMul, Int.reducePow, Int.reduceToNat, Int.reduceNeg, ifx_t, ifx_f, ifx_n, gx_ok, eqT_int, List.getElem?_cons_zero, List.getElem?_cons_succ, List.set_cons_zero, List.set_cons_succ, List.map_cons, List.map_nil, List.nil_append, List.cons_append, List.replicate_succ, List.replicate_zero, List.length_cons, List.length_nil, List.any_cons, List.any_nil, Nat.reduceAdd, Nat.reduceSub, Bool.or_false, Bool.or_true, Bool.false_or, Bool.true_or, Bool.not_true, Bool.not_false, Option.map_some, Option.bind_some, decide_true, decide_false, true_and, and_true, wipeL, ↓gg_KINDS]
      refine ⟨_, rfl, (irange_pw _).filter _, fun d => ?_, (k1.trans (.app _)).trans (v4.trans (.app _))⟩
      rw [List.mem_filter, mem_irange, decide_eq_true_eq, v3 d, List.take_length]
      have back : ∀ t ∈ w.2, ∀ row3 : List Int, M[t.2.2.toNat]? = some row3 → (d ∈ row3 → Rch B t.2.2 d) := fun t ht row3 s1 hd => by
        have tk := (g1.tie t ht).2.2.2
        have dk := (gm.row row3 (List.mem_of_getElem? s1)).2 d hd
        have q := (rl t.2.2.toNat d.toNat (by omega) (by omega)).mp ⟨row3, s1, by rw [show ((d.toNat : Nat) : Int) = d by omega]; exact hd⟩
        rwa [show ((t.2.2.toNat : Nat) : Int) = t.2.2 by omega, show ((d.toNat : Nat) : Int) = d by omega] at q
      constructor
      · rintro ⟨_, z | ⟨e, he, row3, s1, s2⟩⟩
        · obtain ⟨t, ht, rfl⟩ := List.mem_map.mp z
          exact ⟨t, ht, .inl rfl⟩
        · obtain ⟨t, ht, rfl⟩ := List.mem_map.mp he
          exact ⟨t, ht, .inr (back t ht row3 s1 s2)⟩
      · rintro ⟨t, ht, z⟩
        have tk := (g1.tie t ht).2.2.2
        rcases z with rfl | z
        · exact ⟨tk, .inl (List.mem_map.mpr ⟨t, ht, rfl⟩)⟩
        · have dk := z.lt g
          have q := (rl t.2.2.toNat d.toNat (by omega) (by omega)).mpr (by rwa [show ((t.2.2.toNat : Nat) : Int) = t.2.2 by omega, show ((d.toNat : Nat) : Int) = d by omega])
          obtain ⟨row3, s1, s2⟩ := q
          rw [show ((d.toNat : Nat) : Int) = d by omega] at s2
          exact ⟨dk, .inr ⟨t.2.2, List.mem_map.mpr ⟨t, ht, rfl⟩, row3, s1, s2⟩⟩
  obtain ⟨x, h1, e, xs, rfl, q⟩ := gx_ex z
  exact ⟨_, xs, e, q⟩
end
end K59


set_option Elab.async false
set_option linter.all false
set_option maxRecDepth 100000
namespace K59
open PySem MP L2
theorem kw1 {C : String → List T → Hh → R T} {x : T} {h : Hh} {Q : T → Hh → Prop} : (Gx (kwR D C "kinds_of" [] [x] ["garden"] h) (P := ⟨Q⟩)) = Gx (C "kinds_of" [x] h) (P := ⟨Q⟩) := propext ⟨fun q => q, fun q => q⟩
theorem kw2 {C : String → List T → Hh → R T} {x y z : T} {h : Hh} {Q : T → Hh → Prop} : (Gx (kwR D C "leads" [] [x, y, z] ["d", "c", "book"] h) (P := ⟨Q⟩)) = Gx (C "leads" [z, y, x] h) (P := ⟨Q⟩) := propext ⟨fun q => q, fun q => q⟩
theorem lenB {B : Book} {h : Hh} {Q : T → Hh → Prop} : (Gx (bltT .len [bookT B] h) (P := ⟨Q⟩)) = Q (.int (B.map webT).length) h := propext ⟨fun q => q, fun q => q⟩
theorem Mat.draw {h0 h h' : Hh} {f r c : Nat} {M : List (List Int)} (m : Mat h0 h f M) (hM : 1 ≤ M.length) (d : Deck h r c) (r0 : r < h0.length) (c0 : c < h0.length) (k : Keep [r, c] h h') : Mat h0 h' f M := by
  obtain ⟨rs, h1, h2, h3, h4⟩ := m.ex
  have fn : f ∉ [r, c] := fun hf => by
    obtain ⟨⟨L, m, t, d1, d2, _⟩, _⟩ := d
    rcases List.mem_cons.mp hf with e | e
    · rw [e, d1] at h1
      cases h1
    · rw [List.mem_singleton.mp e, d2] at h1
      have q : L.map T.int = rs.map T.ref := by injection h1 with h1; injection h1
      cases rs with
      | nil => simp at h2; omega
      | cons a rs =>
        cases L with
        | nil => cases q
        | cons b L => cases q
  refine ⟨rs, k.lstS fn h1, h2, h3, fun i a e => ?_⟩
  obtain ⟨row, q1, q2⟩ := h4 i a e
  have := h3 a (List.mem_of_getElem? e)
  exact ⟨row, q1, k.lstS (by simp <;> omega) q2⟩
section
variable {n : Nat}
set_option maxHeartbeats 4000000 in
theorem law_go {ns : List Int} (hl : ns.length ≤ 63) : ∃ h', callN D (n + 10) "law" [scr ns] [] = .ok (.bl true) h' := by
  obtain ⟨h0, r, c, e0, d0⟩ := deck (n := n + 8) (h := []) hl
  have z : Gx (callN D (n + 10) "law" [scr ns] []) (P := ⟨fun a _ => a = .bl true⟩) := by
    refine call_gx f_law rfl ?_
    simp only [↓x_var, ↓x_int, ↓x_bl, ↓x_non, ↓x_str, ↓x_bin, ↓x_cmp, ↓x_idx, ↓x_neg, ↓x_not, ↓x_isN, ↓x_isnN, ↓x_rev, ↓x_sset, ↓x_isiT, ↓x_chn, ↓x_ite, ↓x_and, ↓x_or, ↓x_and1, ↓x_or1, ↓x_and2, ↓x_or2, ↓x_tup, ↓x_lst, ↓x_dic, ↓x_slc, ↓x_call, ↓x_callK, ↓x_blt, ↓x_mth, ↓x_rngL, ↓x_rngT, ↓x_comp, ↓x_enil, ↓x_econs, ↓x_kv0, ↓x_kv, ↓x_ono, ↓x_oso, ↓x_cno, ↓x_cso, ↓x_val, ↓x_rng1, ↓x_rng2, ↓x_enum, ↓x_gvar, ↓x_gtup, ↓x_gtupR, ↓x_gsub, ↓x_gnil, ↓x_gcons, ↓x_snil, ↓x_scons, ↓x_pass, ↓x_expr, ↓x_ret, ↓x_retN, ↓x_set, ↓x_aug, ↓x_augO, ↓x_augA, ↓x_augS, ↓x_iff, ↓x_for, ↓x_whl, ↓x_brk, ↓x_cnt, ↓x_seqN, ↓x_seqR, ↓x_seqB, ↓x_seqC, ↓x_finR, ↓x_finN, ↓x_lk, ↓x_negR, ↓x_notR, ↓x_cnd, ↓x_oiR, ↓x_opt, ↓x_ob, ↓x_r1, ↓x_r2, ↓x_valT, ↓x_valF, ↓x_lst', ↓x_dk', ↓x_valL, ↓x_enumL, ↓x_mthL, ↓x_mth_append, ↓x_mth_extend, ↓x_mth_pop, ↓x_mth_get, ↓x_newT, ↓x_newL, ↓x_dicR, ↓x_add, ↓x_sub, ↓x_mul, ↓x_fdiv, ↓x_mod, ↓x_pow, ↓x_tadd, ↓x_ladd, ↓x_lt, ↓x_le, ↓x_gt, ↓x_ge, ↓x_eq, ↓x_ne, ↓x_inn, ↓x_nin, ↓x_tix, ↓x_rix, ↓x_ixL, ↓x_ixD, ↓x_setD, ↓x_stD, ↓x_stL, ↓x_app, ↓x_if, ↓x_ext, ↓x_pop, ↓x_lenT, ↓x_lenR, ↓x_lenL, ↓x_listT, ↓x_listL, ↓x_tupL, ↓x_tupT, ↓x_sortT, ↓x_sortL, ↓x_all, ↓x_any, ↓x_sum, ↓x_max2, ↓x_min2, ↓x_toint, ↓x_repr, ↓x_rep, ↓x_slcT, ↓x_slcF, ↓x_slcL, ↓x_revL, ↓x_ssetL, ↓x_isi_int, ↓x_isi_bool, ↓x_isi_NoneType, ↓x_isi_str, ↓x_isi_tuple, ↓x_isi_list, ↓gx_bd, ↓gx_ok, ↓x_loopN, ↓x_loopC, ↓x_loopB, ↓x_loopR, ty_NoneType_int, ty_NoneType_bool, ty_NoneType_str, ty_NoneType_list, ty_NoneType_tuple, ty_NoneType_dict, ty_int_int, ty_int_bool, ty_int_str, ty_int_list, ty_int_tuple, ty_int_dict, ty_bool_int, ty_bool_bool, ty_bool_str, ty_bool_list, ty_bool_tuple, ty_bool_dict, ty_str_int, ty_str_bool, ty_str_str, ty_str_list, ty_str_tuple, ty_str_dict, ty_tuple_int, ty_tuple_bool, ty_tuple_str, ty_tuple_list, ty_tuple_tuple, ty_tuple_dict, ty_list_int, ty_list_bool, ty_list_str, ty_list_list, ty_list_tuple, ty_list_dict, ty_dict_int, ty_dict_bool, ty_dict_str, ty_dict_list, ty_dict_tuple, ty_dict_dict, at_0, at_1, at_2, at_3, at_4, nat_0, nat_1, nat_2, nat_3, nat_4, nat_5, nat_6, at_end, at_end1, at_end2, at_end3, bools_t, all_t, Nat.reduceLT, Nat.reduceLeDiff, Int.reduceLT, Int.reduceLE, Int.reduceAdd, Int.reduceSub, Int.reduceMul, Int.reducePow, Int.reduceToNat, Int.reduceNeg, ifx_t, ifx_f, ifx_n, gx_ok, eqT_int, List.getElem?_cons_zero, List.getElem?_cons_succ, List.set_cons_zero, List.set_cons_succ, List.map_cons, List.map_nil, List.nil_append, List.cons_append, List.replicate_succ, List.replicate_zero, List.length_cons, List.length_nil, List.any_cons, List.any_nil, Nat.reduceAdd, Nat.reduceSub, Bool.or_false, Bool.or_true, Bool.false_or, Bool.true_or, Bool.not_true, Bool.not_false, Option.map_some, Option.bind_some, decide_true, decide_false, true_and, and_true, wipeL, ↓gg_KINDS, e0, rgOk_of (i := 0) (j := 4) (by decide)]
    refine gx_for (fun i l h => ∃ a b c2 d e f g, l = [some (scr ns), some (.ref r), a, b, c2, d, e, f, g] ∧ Deck h r c) ⟨_, _, _, _, _, _, _, rfl, d0⟩ (fun _ _ _ _ p hp => by simp at hp) ?_ ?_
    · rintro i x l h hx ⟨a1, a2, a3, a4, a5, a6, a7, rfl, d1⟩
      obtain ⟨rfl, _⟩ := range_get hx
      obtain ⟨h1, w, B, e1, gw, gb, wl, d2, k2⟩ := mk_garden (n := n + 5) d1
      have l3 := gb.l3
      obtain ⟨h2, v, e2, hv, d3, k3⟩ := draw (n := n + 8) (b := 2) d2 (by omega)
      obtain ⟨h3, xs, e3, p1, p2, k4⟩ := kinds_of (n := n) (h := h2) gw gb (by omega)
      obtain ⟨h4, ys, e4, p3, p4, k5⟩ := kinds (n := n + 7) (h := h3) gw gb
      have exy : xs = ys := lt_ext p1 p3 fun k => by rw [p2, p4]
      subst exy
      have hk3 : ∀ x ∈ xs, 0 ≤ x ∧ x < 3 := fun x hx => by
        obtain ⟨t, ht, z⟩ := (p2 x).mp hx
        have tk := (gw.tie t ht).2.2.2
        rcases z with rfl | z
        · omega
        · have := z.lt gb
          omega
      have ok := ok8 xs (in_rows8 p1 hk3)
      have dt : ∀ h : Hh, dat h (.tup (xs.map T.int)) = some (.tuple (xs.map PyData.int)) := fun h => dat_p (pdat_tup (pdats_ints xs))
      obtain ⟨h5, f, M, e5, m, gm, rl, k6⟩ := reach (n := n + 8) (h := h4) gb
      have d6 := ((d3.keep k4).keep k5).keep k6
      unfold gardenT at e3 e4
      simp only [↓x_var, ↓x_int, ↓x_bl, ↓x_non, ↓x_str, ↓x_bin, ↓x_cmp, ↓x_idx, ↓x_neg, ↓x_not, ↓x_isN, ↓x_isnN, ↓x_rev, ↓x_sset, ↓x_isiT, ↓x_chn, ↓x_ite, ↓x_and, ↓x_or, ↓x_and1, ↓x_or1, ↓x_and2, ↓x_or2, ↓x_tup, ↓x_lst, ↓x_dic, ↓x_slc, ↓x_call, ↓x_callK, ↓x_blt, ↓x_mth, ↓x_rngL, ↓x_rngT, ↓x_comp, ↓x_enil, ↓x_econs, ↓x_kv0, ↓x_kv, ↓x_ono, ↓x_oso, ↓x_cno, ↓x_cso, ↓x_val, ↓x_rng1, ↓x_rng2, ↓x_enum, ↓x_gvar, ↓x_gtup, ↓x_gtupR, ↓x_gsub, ↓x_gnil, ↓x_gcons, ↓x_snil, ↓x_scons, ↓x_pass, ↓x_expr, ↓x_ret, ↓x_retN, ↓x_set, ↓x_aug, ↓x_augO, ↓x_augA, ↓x_augS, ↓x_iff, ↓x_for, ↓x_whl, ↓x_brk, ↓x_cnt, ↓x_seqN, ↓x_seqR, ↓x_seqB, ↓x_seqC, ↓x_finR, ↓x_finN, ↓x_lk, ↓x_negR, ↓x_notR, ↓x_cnd, ↓x_oiR, ↓x_opt, ↓x_ob, ↓x_r1, ↓x_r2, ↓x_valT, ↓x_valF, ↓x_lst', ↓x_dk', ↓x_valL, ↓x_enumL, ↓x_mthL, ↓x_mth_append, ↓x_mth_extend, ↓x_mth_pop, ↓x_mth_get, ↓x_newT, ↓x_newL, ↓x_dicR, ↓x_add, ↓x_sub, ↓x_mul, ↓x_fdiv, ↓x_mod, ↓x_pow, ↓x_tadd, ↓x_ladd, ↓x_lt, ↓x_le, ↓x_gt, ↓x_ge, ↓x_eq, ↓x_ne, ↓x_inn, ↓x_nin, ↓x_tix, ↓x_rix, ↓x_ixL, ↓x_ixD, ↓x_setD, ↓x_stD, ↓x_stL, ↓x_app, ↓x_if, ↓x_ext, ↓x_pop, ↓x_lenT, ↓x_lenR, ↓x_lenL, ↓x_listT, ↓x_listL, ↓x_tupL, ↓x_tupT, ↓x_sortT, ↓x_sortL, ↓x_all, ↓x_any, ↓x_sum, ↓x_max2, ↓x_min2, ↓x_toint, ↓x_repr, ↓x_rep, ↓x_slcT, ↓x_slcF, ↓x_slcL, ↓x_revL, ↓x_ssetL, ↓x_isi_int, ↓x_isi_bool, ↓x_isi_NoneType, ↓x_isi_str, ↓x_isi_tuple, ↓x_isi_list, ↓gx_bd, ↓gx_ok, ↓x_loopN, ↓x_loopC, ↓x_loopB, ↓x_loopR, ty_NoneType_int, ty_NoneType_bool, ty_NoneType_str, ty_NoneType_list, ty_NoneType_tuple, ty_NoneType_dict, ty_int_int, ty_int_bool, ty_int_str, ty_int_list, ty_int_tuple, ty_int_dict, ty_bool_int, ty_bool_bool, ty_bool_str, ty_bool_list, ty_bool_tuple, ty_bool_dict, ty_str_int, ty_str_bool, ty_str_str, ty_str_list, ty_str_tuple, ty_str_dict, ty_tuple_int, ty_tuple_bool, ty_tuple_str, ty_tuple_list, ty_tuple_tuple, ty_tuple_dict, ty_list_int, ty_list_bool, ty_list_str, ty_list_list, ty_list_tuple, ty_list_dict, ty_dict_int, ty_dict_bool, ty_dict_str, ty_dict_list, ty_dict_tuple, ty_dict_dict, at_0, at_1, at_2, at_3, at_4, nat_0, nat_1, nat_2, nat_3, nat_4, nat_5, nat_6, at_end, at_end1, at_end2, at_end3, bools_t, all_t, Nat.reduceLT, Nat.reduceLeDiff, Int.reduceLT, Int.reduceLE, Int.reduceAdd, Int.reduceSub, Int.reduceMul, Int.reducePow, Int.reduceToNat, Int.reduceNeg, ifx_t, ifx_f, ifx_n, gx_ok, eqT_int, List.getElem?_cons_zero, List.getElem?_cons_succ, List.set_cons_zero, List.set_cons_succ, List.map_cons, List.map_nil, List.nil_append, List.cons_append, List.replicate_succ, List.replicate_zero, List.length_cons, List.length_nil, List.any_cons, List.any_nil, Nat.reduceAdd, Nat.reduceSub, Bool.or_false, Bool.or_true, Bool.false_or, Bool.true_or, Bool.not_true, Bool.not_false, Option.map_some, Option.bind_some, decide_true, decide_false, true_and, and_true, wipeL, ↓gg_KINDS, e1, e2]
      refine ifx_by (fun _ => ?_) (fun _ => ?_)
      rotate_left
      rw [x_callK, x_enil, x_econs, x_var]
      simp only [List.set_cons_zero, List.set_cons_succ, List.getElem?_cons_zero, List.getElem?_cons_succ]
      rw [x_lk, x_enil, kw1]
      all_goals
        simp only [↓x_var, ↓x_int, ↓x_bl, ↓x_non, ↓x_str, ↓x_bin, ↓x_cmp, ↓x_idx, ↓x_neg, ↓x_not, ↓x_isN, ↓x_isnN, ↓x_rev, ↓x_sset, ↓x_isiT, ↓x_chn, ↓x_ite, ↓x_and, ↓x_or, ↓x_and1, ↓x_or1, ↓x_and2, ↓x_or2, ↓x_tup, ↓x_lst, ↓x_dic, ↓x_slc, ↓x_call, ↓x_callK, ↓x_blt, ↓x_mth, ↓x_rngL, ↓x_rngT, ↓x_comp, ↓x_enil, ↓x_econs, ↓x_kv0, ↓x_kv, ↓x_ono, ↓x_oso, ↓x_cno, ↓x_cso, ↓x_val, ↓x_rng1, ↓x_rng2, ↓x_enum, ↓x_gvar, ↓x_gtup, ↓x_gtupR, ↓x_gsub, ↓x_gnil, ↓x_gcons, ↓x_snil, ↓x_scons, ↓x_pass, ↓x_expr, ↓x_ret, ↓x_retN, ↓x_set, ↓x_aug, ↓x_augO, ↓x_augA, ↓x_augS, ↓x_iff, ↓x_for, ↓x_whl, ↓x_brk, ↓x_cnt, ↓x_seqN, ↓x_seqR, ↓x_seqB, ↓x_seqC, ↓x_finR, ↓x_finN, ↓x_lk, ↓x_negR, ↓x_notR, ↓x_cnd, ↓x_oiR, ↓x_opt, ↓x_ob, ↓x_r1, ↓x_r2, ↓x_valT, ↓x_valF, ↓x_lst', ↓x_dk', ↓x_valL, ↓x_enumL, ↓x_mthL, ↓x_mth_append, ↓x_mth_extend, ↓x_mth_pop, ↓x_mth_get, ↓x_newT, ↓x_newL, ↓x_dicR, ↓x_add, ↓x_sub, ↓x_mul, ↓x_fdiv, ↓x_mod, ↓x_pow, ↓x_tadd, ↓x_ladd, ↓x_lt, ↓x_le, ↓x_gt, ↓x_ge, ↓x_eq, ↓x_ne, ↓x_inn, ↓x_nin, ↓x_tix, ↓x_rix, ↓x_ixL, ↓x_ixD, ↓x_setD, ↓x_stD, ↓x_stL, ↓x_app, ↓x_if, ↓x_ext, ↓x_pop, ↓x_lenT, ↓x_lenR, ↓x_lenL, ↓x_listT, ↓x_listL, ↓x_tupL, ↓x_tupT, ↓x_sortT, ↓x_sortL, ↓x_all, ↓x_any, ↓x_sum, ↓x_max2, ↓x_min2, ↓x_toint, ↓x_repr, ↓x_rep, ↓x_slcT, ↓x_slcF, ↓x_slcL, ↓x_revL, ↓x_ssetL, ↓x_isi_int, ↓x_isi_bool, ↓x_isi_NoneType, ↓x_isi_str, ↓x_isi_tuple, ↓x_isi_list, ↓gx_bd, ↓gx_ok, ↓x_loopN, ↓x_loopC, ↓x_loopB, ↓x_loopR, ty_NoneType_int, ty_NoneType_bool, ty_NoneType_str, ty_NoneType_list, ty_NoneType_tuple, ty_NoneType_dict, ty_int_int, ty_int_bool, ty_int_str, ty_int_list, ty_int_tuple, ty_int_dict, ty_bool_int, ty_bool_bool, ty_bool_str, ty_bool_list, ty_bool_tuple, ty_bool_dict, ty_str_int, ty_str_bool, ty_str_str, ty_str_list, ty_str_tuple, ty_str_dict, ty_tuple_int, ty_tuple_bool, ty_tuple_str, ty_tuple_list, ty_tuple_tuple, ty_tuple_dict, ty_list_int, ty_list_bool, ty_list_str, ty_list_list, ty_list_tuple, ty_list_dict, ty_dict_int, ty_dict_bool, ty_dict_str, ty_dict_list, ty_dict_tuple, ty_dict_dict, at_0, at_1, at_2, at_3, at_4, nat_0, nat_1, nat_2, nat_3, nat_4, nat_5, nat_6, at_end, at_end1, at_end2, at_end3, bools_t, all_t, Nat.reduceLT, Nat.reduceLeDiff, Int.reduceLT, Int.reduceLE, Int.reduceAdd, Int.reduceSub, Int.reduceMul, Int.reducePow, Int.reduceToNat, Int.reduceNeg, ifx_t, ifx_f, ifx_n, gx_ok, eqT_int, List.getElem?_cons_zero, List.getElem?_cons_succ, List.set_cons_zero, List.set_cons_succ, List.map_cons, List.map_nil, List.nil_append, List.cons_append, List.replicate_succ, List.replicate_zero, List.length_cons, List.length_nil, List.any_cons, List.any_nil, Nat.reduceAdd, Nat.reduceSub, Bool.or_false, Bool.or_true, Bool.false_or, Bool.true_or, Bool.not_true, Bool.not_false, Option.map_some, Option.bind_some, decide_true, decide_false, true_and, and_true, wipeL, ↓gg_KINDS, e3, dt, okD_1 ok, e4, eq_str ok, gardenT, e5, Nat.reduceLeDiff, show (2 : Nat) ≤ 16777216 by decide]
        simp only [↓x_var, ↓x_int, ↓x_bl, ↓x_non, ↓x_str, ↓x_bin, ↓x_cmp, ↓x_idx, ↓x_neg, ↓x_not, ↓x_isN, ↓x_isnN, ↓x_rev, ↓x_sset, ↓x_isiT, ↓x_chn, ↓x_ite, ↓x_and, ↓x_or, ↓x_and1, ↓x_or1, ↓x_and2, ↓x_or2, ↓x_tup, ↓x_lst, ↓x_dic, ↓x_slc, ↓x_call, ↓x_callK, ↓x_blt, ↓x_mth, ↓x_rngL, ↓x_rngT, ↓x_comp, ↓x_enil, ↓x_econs, ↓x_kv0, ↓x_kv, ↓x_ono, ↓x_oso, ↓x_cno, ↓x_cso, ↓x_val, ↓x_rng1, ↓x_rng2, ↓x_enum, ↓x_gvar, ↓x_gtup, ↓x_gtupR, ↓x_gsub, ↓x_gnil, ↓x_gcons, ↓x_snil, ↓x_scons, ↓x_pass, ↓x_expr, ↓x_ret, ↓x_retN, ↓x_set, ↓x_aug, ↓x_augO, ↓x_augA, ↓x_augS, ↓x_iff, ↓x_for, ↓x_whl, ↓x_brk, ↓x_cnt, ↓x_seqN, ↓x_seqR, ↓x_seqB, ↓x_seqC, ↓x_finR, ↓x_finN, ↓x_lk, ↓x_negR, ↓x_notR, ↓x_cnd, ↓x_oiR, ↓x_opt, ↓x_ob, ↓x_r1, ↓x_r2, ↓x_valT, ↓x_valF, ↓x_lst', ↓x_dk', ↓x_valL, ↓x_enumL, ↓x_mthL, ↓x_mth_append, ↓x_mth_extend, ↓x_mth_pop, ↓x_mth_get, ↓x_newT, ↓x_newL, ↓x_dicR, ↓x_add, ↓x_sub, ↓x_mul, ↓x_fdiv, ↓x_mod, ↓x_pow, ↓x_tadd, ↓x_ladd, ↓x_lt, ↓x_le, ↓x_gt, ↓x_ge, ↓x_eq, ↓x_ne, ↓x_inn, ↓x_nin, ↓x_tix, ↓x_rix, ↓x_ixL, ↓x_ixD, ↓x_setD, ↓x_stD, ↓x_stL, ↓x_app, ↓x_if, ↓x_ext, ↓x_pop, ↓x_lenT, ↓x_lenR, ↓x_lenL, ↓x_listT, ↓x_listL, ↓x_tupL, ↓x_tupT, ↓x_sortT, ↓x_sortL, ↓x_all, ↓x_any, ↓x_sum, ↓x_max2, ↓x_min2, ↓x_toint, ↓x_repr, ↓x_rep, ↓x_slcT, ↓x_slcF, ↓x_slcL, ↓x_revL, ↓x_ssetL, ↓x_isi_int, ↓x_isi_bool, ↓x_isi_NoneType, ↓x_isi_str, ↓x_isi_tuple, ↓x_isi_list, ↓gx_bd, ↓gx_ok, ↓x_loopN, ↓x_loopC, ↓x_loopB, ↓x_loopR, ty_NoneType_int, ty_NoneType_bool, ty_NoneType_str, ty_NoneType_list, ty_NoneType_tuple, ty_NoneType_dict, ty_int_int, ty_int_bool, ty_int_str, ty_int_list, ty_int_tuple, ty_int_dict, ty_bool_int, ty_bool_bool, ty_bool_str, ty_bool_list, ty_bool_tuple, ty_bool_dict, ty_str_int, ty_str_bool, ty_str_str, ty_str_list, ty_str_tuple, ty_str_dict, ty_tuple_int, ty_tuple_bool, ty_tuple_str, ty_tuple_list, ty_tuple_tuple, ty_tuple_dict, ty_list_int, ty_list_bool, ty_list_str, ty_list_list, ty_list_tuple, ty_list_dict, ty_dict_int, ty_dict_bool, ty_dict_str, ty_dict_list, ty_dict_tuple, ty_dict_dict, at_0, at_1, at_2, at_3, at_4, nat_0, nat_1, nat_2, nat_3, nat_4, nat_5, nat_6, at_end, at_end1, at_end2, at_end3, bools_t, all_t, Nat.reduceLT, Nat.reduceLeDiff, Int.reduceLT, Int.reduceLE, Int.reduceAdd, Int.reduceSub, Int.reduceMul, Int.reducePow, Int.reduceToNat, Int.reduceNeg, ifx_t, ifx_f, ifx_n, gx_ok, eqT_int, List.getElem?_cons_zero, List.getElem?_cons_succ, List.set_cons_zero, List.set_cons_succ, List.map_cons, List.map_nil, List.nil_append, List.cons_append, List.replicate_succ, List.replicate_zero, List.length_cons, List.length_nil, List.any_cons, List.any_nil, Nat.reduceAdd, Nat.reduceSub, Bool.or_false, Bool.or_true, Bool.false_or, Bool.true_or, Bool.not_true, Bool.not_false, Option.map_some, Option.bind_some, decide_true, decide_false, true_and, and_true, wipeL, ↓gg_KINDS, ↓lenB, rgOk_of (i := 0) (j := B.length) (by omega), List.length_map]
        have r0 := ((d3.keep k4).keep k5).r_lt
        have c0 := ((d3.keep k4).keep k5).c_lt
        have ml := gm.len
        have bl1 := gb.l1
        refine gx_for (fun i2 l h6 => ∃ a b e4 e5 e8, l = [some (scr ns), some (.ref r), a, b, e4, e5, some (bookT B), some (.ref f), e8] ∧ Deck h6 r c ∧ Mat h4 h6 f M) ⟨_, _, _, _, _, rfl, d6, m⟩ (fun _ _ _ _ p hp => by simp at hp) ?_ ?_
        · intro cc x l h6 hx2 hj
          obtain ⟨a, b, e4, e5, e8, el, d7, m7⟩ := hj
          subst el
          have hcc := (range_get hx2).2
          rw [(range_get hx2).1]
          clear hx2
          simp only [↓x_var, ↓x_int, ↓x_bl, ↓x_non, ↓x_str, ↓x_bin, ↓x_cmp, ↓x_idx, ↓x_neg, ↓x_not, ↓x_isN, ↓x_isnN, ↓x_rev, ↓x_sset, ↓x_isiT, ↓x_chn, ↓x_ite, ↓x_and, ↓x_or, ↓x_and1, ↓x_or1, ↓x_and2, ↓x_or2, ↓x_tup, ↓x_lst, ↓x_dic, ↓x_slc, ↓x_call, ↓x_callK, ↓x_blt, ↓x_mth, ↓x_rngL, ↓x_rngT, ↓x_comp, ↓x_enil, ↓x_econs, ↓x_kv0, ↓x_kv, ↓x_ono, ↓x_oso, ↓x_cno, ↓x_cso, ↓x_val, ↓x_rng1, ↓x_rng2, ↓x_enum, ↓x_gvar, ↓x_gtup, ↓x_gtupR, ↓x_gsub, ↓x_gnil, ↓x_gcons, ↓x_snil, ↓x_scons, ↓x_pass, ↓x_expr, ↓x_ret, ↓x_retN, ↓x_set, ↓x_aug, ↓x_augO, ↓x_augA, ↓x_augS, ↓x_iff, ↓x_for, ↓x_whl, ↓x_brk, ↓x_cnt, ↓x_seqN, ↓x_seqR, ↓x_seqB, ↓x_seqC, ↓x_finR, ↓x_finN, ↓x_lk, ↓x_negR, ↓x_notR, ↓x_cnd, ↓x_oiR, ↓x_opt, ↓x_ob, ↓x_r1, ↓x_r2, ↓x_valT, ↓x_valF, ↓x_lst', ↓x_dk', ↓x_valL, ↓x_enumL, ↓x_mthL, ↓x_mth_append, ↓x_mth_extend, ↓x_mth_pop, ↓x_mth_get, ↓x_newT, ↓x_newL, ↓x_dicR, ↓x_add, ↓x_sub, ↓x_mul, ↓x_fdiv, ↓x_mod, ↓x_pow, ↓x_tadd, ↓x_ladd, ↓x_lt, ↓x_le, ↓x_gt, ↓x_ge, ↓x_eq, ↓x_ne, ↓x_inn, ↓x_nin, ↓x_tix, ↓x_rix, ↓x_ixL, ↓x_ixD, ↓x_setD, ↓x_stD, ↓x_stL, ↓x_app, ↓x_if, ↓x_ext, ↓x_pop, ↓x_lenT, ↓x_lenR, ↓x_lenL, ↓x_listT, ↓x_listL, ↓x_tupL, ↓x_tupT, ↓x_sortT, ↓x_sortL, ↓x_all, ↓x_any, ↓x_sum, ↓x_max2, ↓x_min2, ↓x_toint, ↓x_repr, ↓x_rep, ↓x_slcT, ↓x_slcF, ↓x_slcL, ↓x_revL, ↓x_ssetL, ↓x_isi_int, ↓x_isi_bool, ↓x_isi_NoneType, ↓x_isi_str, ↓x_isi_tuple, ↓x_isi_list, ↓gx_bd, ↓gx_ok, ↓x_loopN, ↓x_loopC, ↓x_loopB, ↓x_loopR, ty_NoneType_int, ty_NoneType_bool, ty_NoneType_str, ty_NoneType_list, ty_NoneType_tuple, ty_NoneType_dict, ty_int_int, ty_int_bool, ty_int_str, ty_int_list, ty_int_tuple, ty_int_dict, ty_bool_int, ty_bool_bool, ty_bool_str, ty_bool_list, ty_bool_tuple, ty_bool_dict, ty_str_int, ty_str_bool, ty_str_str, ty_str_list, ty_str_tuple, ty_str_dict, ty_tuple_int, ty_tuple_bool, ty_tuple_str, ty_tuple_list, ty_tuple_tuple, ty_tuple_dict, ty_list_int, ty_list_bool, ty_list_str, ty_list_list, ty_list_tuple, ty_list_dict, ty_dict_int, ty_dict_bool, ty_dict_str, ty_dict_list, ty_dict_tuple, ty_dict_dict, at_0, at_1, at_2, at_3, at_4, nat_0, nat_1, nat_2, nat_3, nat_4, nat_5, nat_6, at_end, at_end1, at_end2, at_end3, bools_t, all_t, Nat.reduceLT, Nat.reduceLeDiff, Int.reduceLT, Int.reduceLE, Int.reduceAdd, Int.reduceSub, Int.reduceMul, Int.reducePow, Int.reduceToNat, Int.reduceNeg, ifx_t, ifx_f, ifx_n, gx_ok, eqT_int, List.getElem?_cons_zero, List.getElem?_cons_succ, List.set_cons_zero, List.set_cons_succ, List.map_cons, List.map_nil, List.nil_append, List.cons_append, List.replicate_succ, List.replicate_zero, List.length_cons, List.length_nil, List.any_cons, List.any_nil, Nat.reduceAdd, Nat.reduceSub, Bool.or_false, Bool.or_true, Bool.false_or, Bool.true_or, Bool.not_true, Bool.not_false, Option.map_some, Option.bind_some, decide_true, decide_false, true_and, and_true, wipeL, ↓gg_KINDS, ↓lenB, rgOk_of (i := 0) (j := B.length) (by omega), List.length_map]
          refine gx_for (fun i2 l h6 => ∃ a b e4 e8, l = [some (scr ns), some (.ref r), a, b, e4, some (.int cc), some (bookT B), some (.ref f), e8] ∧ Deck h6 r c ∧ Mat h4 h6 f M) ⟨_, _, _, _, rfl, d7, m7⟩ (fun _ _ _ _ p hp => by simp at hp) ?_ ?_
          · intro dd x l h7 hx3 hj
            obtain ⟨a, b, e4, e8, el, d8, m8⟩ := hj
            subst el
            have hdd := (range_get hx3).2
            rw [(range_get hx3).1]
            clear hx3
            obtain ⟨h8, u, e6, hu, d9, k9⟩ := draw (n := n + 8) (b := 2) d8 (by omega)
            have m9 := m8.draw (by omega) d8 r0 c0 k9
            obtain ⟨h9, bb, e7, hb, k10⟩ := leads (n := n + 1) (h := h8) (c := cc) (d := dd) gb (by omega) (by omega)
            have m10 := m9.keep k10
            obtain ⟨rs, y1, y2, y3, y4⟩ := m10.ex
            have cl : cc < rs.length := by omega
            have ea : atI (rs.map T.ref) (cc : Int) = some (.ref rs[cc]) := atI_some (j := cc) rfl (by rw [List.getElem?_map, List.getElem?_eq_getElem cl]; rfl)
            obtain ⟨row, z1, z2⟩ := y4 cc _ (List.getElem?_eq_getElem cl)
            have eb : decide ((dd : Int) ∈ row) = bb := by
              have q := rl cc dd (by omega) (by omega)
              have q2 : rel M cc dd ↔ (dd : Int) ∈ row := ⟨fun ⟨row2, w1, w2⟩ => by rw [z1] at w1; cases w1; exact w2, fun w => ⟨row, z1, w⟩⟩
              rw [q2, ← hb] at q
              cases bb
              · exact decide_eq_false (by rw [q]; decide)
              · exact decide_eq_true (q.mpr rfl)
            have od := okB bb
            have db : ∀ h : Hh, dat h (.bl bb) = some (.bool bb) := fun h => rfl
            simp only [↓x_var, ↓x_int, ↓x_bl, ↓x_non, ↓x_str, ↓x_bin, ↓x_cmp, ↓x_idx, ↓x_neg, ↓x_not, ↓x_isN, ↓x_isnN, ↓x_rev, ↓x_sset, ↓x_isiT, ↓x_chn, ↓x_ite, ↓x_and, ↓x_or, ↓x_and1, ↓x_or1, ↓x_and2, ↓x_or2, ↓x_tup, ↓x_lst, ↓x_dic, ↓x_slc, ↓x_call, ↓x_callK, ↓x_blt, ↓x_mth, ↓x_rngL, ↓x_rngT, ↓x_comp, ↓x_enil, ↓x_econs, ↓x_kv0, ↓x_kv, ↓x_ono, ↓x_oso, ↓x_cno, ↓x_cso, ↓x_val, ↓x_rng1, ↓x_rng2, ↓x_enum, ↓x_gvar, ↓x_gtup, ↓x_gtupR, ↓x_gsub, ↓x_gnil, ↓x_gcons, ↓x_snil, ↓x_scons, ↓x_pass, ↓x_expr, ↓x_ret, ↓x_retN, ↓x_set, ↓x_aug, ↓x_augO, ↓x_augA, ↓x_augS, ↓x_iff, ↓x_for, ↓x_whl, ↓x_brk, ↓x_cnt, ↓x_seqN, ↓x_seqR, ↓x_seqB, ↓x_seqC, ↓x_finR, ↓x_finN, ↓x_lk, ↓x_negR, ↓x_notR, ↓x_cnd, ↓x_oiR, ↓x_opt, ↓x_ob, ↓x_r1, ↓x_r2, ↓x_valT, ↓x_valF, ↓x_lst', ↓x_dk', ↓x_valL, ↓x_enumL, ↓x_mthL, ↓x_mth_append, ↓x_mth_extend, ↓x_mth_pop, ↓x_mth_get, ↓x_newT, ↓x_newL, ↓x_dicR, ↓x_add, ↓x_sub, ↓x_mul, ↓x_fdiv, ↓x_mod, ↓x_pow, ↓x_tadd, ↓x_ladd, ↓x_lt, ↓x_le, ↓x_gt, ↓x_ge, ↓x_eq, ↓x_ne, ↓x_inn, ↓x_nin, ↓x_tix, ↓x_rix, ↓x_ixL, ↓x_ixD, ↓x_setD, ↓x_stD, ↓x_stL, ↓x_app, ↓x_if, ↓x_ext, ↓x_pop, ↓x_lenT, ↓x_lenR, ↓x_lenL, ↓x_listT, ↓x_listL, ↓x_tupL, ↓x_tupT, ↓x_sortT, ↓x_sortL, ↓x_all, ↓x_any, ↓x_sum, ↓x_max2, ↓x_min2, ↓x_toint, ↓x_repr, ↓x_rep, ↓x_slcT, ↓x_slcF, ↓x_slcL, ↓x_revL, ↓x_ssetL, ↓x_isi_int, ↓x_isi_bool, ↓x_isi_NoneType, ↓x_isi_str, ↓x_isi_tuple, ↓x_isi_list, ↓gx_bd, ↓gx_ok, ↓x_loopN, ↓x_loopC, ↓x_loopB, ↓x_loopR, ty_NoneType_int, ty_NoneType_bool, ty_NoneType_str, ty_NoneType_list, ty_NoneType_tuple, ty_NoneType_dict, ty_int_int, ty_int_bool, ty_int_str, ty_int_list, ty_int_tuple, ty_int_dict, ty_bool_int, ty_bool_bool, ty_bool_str, ty_bool_list, ty_bool_tuple, ty_bool_dict, ty_str_int, ty_str_bool, ty_str_str, ty_str_list, ty_str_tuple, ty_str_dict, ty_tuple_int, ty_tuple_bool, ty_tuple_str, ty_tuple_list, ty_tuple_tuple, ty_tuple_dict, ty_list_int, ty_list_bool, ty_list_str, ty_list_list, ty_list_tuple, ty_list_dict, ty_dict_int, ty_dict_bool, ty_dict_str, ty_dict_list, ty_dict_tuple, ty_dict_dict, at_0, at_1, at_2, at_3, at_4, nat_0, nat_1, nat_2, nat_3, nat_4, nat_5, nat_6, at_end, at_end1, at_end2, at_end3, bools_t, all_t, Nat.reduceLT, Nat.reduceLeDiff, Int.reduceLT, Int.reduceLE, Int.reduceAdd, Int.reduceSub, Int.reduceMul, Int.reducePow, Int.reduceToNat, Int.reduceNeg, ifx_t, ifx_f, ifx_n, gx_ok, eqT_int, List.getElem?_cons_zero, List.getElem?_cons_succ, List.set_cons_zero, List.set_cons_succ, List.map_cons, List.map_nil, List.nil_append, List.cons_append, List.replicate_succ, List.replicate_zero, List.length_cons, List.length_nil, List.any_cons, List.any_nil, Nat.reduceAdd, Nat.reduceSub, Bool.or_false, Bool.or_true, Bool.false_or, Bool.true_or, Bool.not_true, Bool.not_false, Option.map_some, Option.bind_some, decide_true, decide_false, true_and, and_true, wipeL, ↓gg_KINDS, e6]
            refine ifx_by (fun _ => ?_) (fun _ => ?_)
            rotate_left
            rw [x_callK, x_enil, x_econs, x_var]
            simp only [List.set_cons_zero, List.set_cons_succ, List.getElem?_cons_zero, List.getElem?_cons_succ]
            rw [x_lk, x_econs, x_var]
            simp only [List.set_cons_zero, List.set_cons_succ, List.getElem?_cons_zero, List.getElem?_cons_succ]
            rw [x_lk, x_econs, x_var]
            simp only [List.set_cons_zero, List.set_cons_succ, List.getElem?_cons_zero, List.getElem?_cons_succ]
            rw [x_lk, x_enil, kw2]
            all_goals
              simp only [↓x_var, ↓x_int, ↓x_bl, ↓x_non, ↓x_str, ↓x_bin, ↓x_cmp, ↓x_idx, ↓x_neg, ↓x_not, ↓x_isN, ↓x_isnN, ↓x_rev, ↓x_sset, ↓x_isiT, ↓x_chn, ↓x_ite, ↓x_and, ↓x_or, ↓x_and1, ↓x_or1, ↓x_and2, ↓x_or2, ↓x_tup, ↓x_lst, ↓x_dic, ↓x_slc, ↓x_call, ↓x_callK, ↓x_blt, ↓x_mth, ↓x_rngL, ↓x_rngT, ↓x_comp, ↓x_enil, ↓x_econs, ↓x_kv0, ↓x_kv, ↓x_ono, ↓x_oso, ↓x_cno, ↓x_cso, ↓x_val, ↓x_rng1, ↓x_rng2, ↓x_enum, ↓x_gvar, ↓x_gtup, ↓x_gtupR, ↓x_gsub, ↓x_gnil, ↓x_gcons, ↓x_snil, ↓x_scons, ↓x_pass, ↓x_expr, ↓x_ret, ↓x_retN, ↓x_set, ↓x_aug, ↓x_augO, ↓x_augA, ↓x_augS, ↓x_iff, ↓x_for, ↓x_whl, ↓x_brk, ↓x_cnt, ↓x_seqN, ↓x_seqR, ↓x_seqB, ↓x_seqC, ↓x_finR, ↓x_finN, ↓x_lk, ↓x_negR, ↓x_notR, ↓x_cnd, ↓x_oiR, ↓x_opt, ↓x_ob, ↓x_r1, ↓x_r2, ↓x_valT, ↓x_valF, ↓x_lst', ↓x_dk', ↓x_valL, ↓x_enumL, ↓x_mthL, ↓x_mth_append, ↓x_mth_extend, ↓x_mth_pop, ↓x_mth_get, ↓x_newT, ↓x_newL, ↓x_dicR, ↓x_add, ↓x_sub, ↓x_mul, ↓x_fdiv, ↓x_mod, ↓x_pow, ↓x_tadd, ↓x_ladd, ↓x_lt, ↓x_le, ↓x_gt, ↓x_ge, ↓x_eq, ↓x_ne, ↓x_inn, ↓x_nin, ↓x_tix, ↓x_rix, ↓x_ixL, ↓x_ixD, ↓x_setD, ↓x_stD, ↓x_stL, ↓x_app, ↓x_if, ↓x_ext, ↓x_pop, ↓x_lenT, ↓x_lenR, ↓x_lenL, ↓x_listT, ↓x_listL, ↓x_tupL, ↓x_tupT, ↓x_sortT, ↓x_sortL, ↓x_all, ↓x_any, ↓x_sum, ↓x_max2, ↓x_min2, ↓x_toint, ↓x_repr, ↓x_rep, ↓x_slcT, ↓x_slcF, ↓x_slcL, ↓x_revL, ↓x_ssetL, ↓x_isi_int, ↓x_isi_bool, ↓x_isi_NoneType, ↓x_isi_str, ↓x_isi_tuple, ↓x_isi_list, ↓gx_bd, ↓gx_ok, ↓x_loopN, ↓x_loopC, ↓x_loopB, ↓x_loopR, ty_NoneType_int, ty_NoneType_bool, ty_NoneType_str, ty_NoneType_list, ty_NoneType_tuple, ty_NoneType_dict, ty_int_int, ty_int_bool, ty_int_str, ty_int_list, ty_int_tuple, ty_int_dict, ty_bool_int, ty_bool_bool, ty_bool_str, ty_bool_list, ty_bool_tuple, ty_bool_dict, ty_str_int, ty_str_bool, ty_str_str, ty_str_list, ty_str_tuple, ty_str_dict, ty_tuple_int, ty_tuple_bool, ty_tuple_str, ty_tuple_list, ty_tuple_tuple, ty_tuple_dict, ty_list_int, ty_list_bool, ty_list_str, ty_list_list, ty_list_tuple, ty_list_dict, ty_dict_int, ty_dict_bool, ty_dict_str, ty_dict_list, ty_dict_tuple, ty_dict_dict, at_0, at_1, at_2, at_3, at_4, nat_0, nat_1, nat_2, nat_3, nat_4, nat_5, nat_6, at_end, at_end1, at_end2, at_end3, bools_t, all_t, Nat.reduceLT, Nat.reduceLeDiff, Int.reduceLT, Int.reduceLE, Int.reduceAdd, Int.reduceSub, Int.reduceMul, Int.reducePow, Int.reduceToNat, Int.reduceNeg, ifx_t, ifx_f, ifx_n, gx_ok, eqT_int, List.getElem?_cons_zero, List.getElem?_cons_succ, List.set_cons_zero, List.set_cons_succ, List.map_cons, List.map_nil, List.nil_append, List.cons_append, List.replicate_succ, List.replicate_zero, List.length_cons, List.length_nil, List.any_cons, List.any_nil, Nat.reduceAdd, Nat.reduceSub, Bool.or_false, Bool.or_true, Bool.false_or, Bool.true_or, Bool.not_true, Bool.not_false, Option.map_some, Option.bind_some, decide_true, decide_false, true_and, and_true, wipeL, ↓gg_KINDS, e7, db, okD_1 od, y1, ea, inO_ints z2, eb, eq_str od]
              exact ⟨_, _, _, _, rfl, d9.keep k10, m10⟩
          · intro l h7 hj
            obtain ⟨a, b, e4, e8, el, d8, m8⟩ := hj
            subst el
            simp only [↓x_var, ↓x_int, ↓x_bl, ↓x_non, ↓x_str, ↓x_bin, ↓x_cmp, ↓x_idx, ↓x_neg, ↓x_not, ↓x_isN, ↓x_isnN, ↓x_rev, ↓x_sset, ↓x_isiT, ↓x_chn, ↓x_ite, ↓x_and, ↓x_or, ↓x_and1, ↓x_or1, ↓x_and2, ↓x_or2, ↓x_tup, ↓x_lst, ↓x_dic, ↓x_slc, ↓x_call, ↓x_callK, ↓x_blt, ↓x_mth, ↓x_rngL, ↓x_rngT, ↓x_comp, ↓x_enil, ↓x_econs, ↓x_kv0, ↓x_kv, ↓x_ono, ↓x_oso, ↓x_cno, ↓x_cso, ↓x_val, ↓x_rng1, ↓x_rng2, ↓x_enum, ↓x_gvar, ↓x_gtup, ↓x_gtupR, ↓x_gsub, ↓x_gnil, ↓x_gcons, ↓x_snil, ↓x_scons, ↓x_pass, ↓x_expr, ↓x_ret, ↓x_retN, ↓x_set, ↓x_aug, ↓x_augO, ↓x_augA, ↓x_augS, ↓x_iff, ↓x_for, ↓x_whl, ↓x_brk, ↓x_cnt, ↓x_seqN, ↓x_seqR, ↓x_seqB, ↓x_seqC, ↓x_finR, ↓x_finN, ↓x_lk, ↓x_negR, ↓x_notR, ↓x_cnd, ↓x_oiR, ↓x_opt, ↓x_ob, ↓x_r1, ↓x_r2, ↓x_valT, ↓x_valF, ↓x_lst', ↓x_dk', ↓x_valL, ↓x_enumL, ↓x_mthL, ↓x_mth_append, ↓x_mth_extend, ↓x_mth_pop, ↓x_mth_get, ↓x_newT, ↓x_newL, ↓x_dicR, ↓x_add, ↓x_sub, ↓x_mul, ↓x_fdiv, ↓x_mod, ↓x_pow, ↓x_tadd, ↓x_ladd, ↓x_lt, ↓x_le, ↓x_gt, ↓x_ge, ↓x_eq, ↓x_ne, ↓x_inn, ↓x_nin, ↓x_tix, ↓x_rix, ↓x_ixL, ↓x_ixD, ↓x_setD, ↓x_stD, ↓x_stL, ↓x_app, ↓x_if, ↓x_ext, ↓x_pop, ↓x_lenT, ↓x_lenR, ↓x_lenL, ↓x_listT, ↓x_listL, ↓x_tupL, ↓x_tupT, ↓x_sortT, ↓x_sortL, ↓x_all, ↓x_any, ↓x_sum, ↓x_max2, ↓x_min2, ↓x_toint, ↓x_repr, ↓x_rep, ↓x_slcT, ↓x_slcF, ↓x_slcL, ↓x_revL, ↓x_ssetL, ↓x_isi_int, ↓x_isi_bool, ↓x_isi_NoneType, ↓x_isi_str, ↓x_isi_tuple, ↓x_isi_list, ↓gx_bd, ↓gx_ok, ↓x_loopN, ↓x_loopC, ↓x_loopB, ↓x_loopR, ty_NoneType_int, ty_NoneType_bool, ty_NoneType_str, ty_NoneType_list, ty_NoneType_tuple, ty_NoneType_dict, ty_int_int, ty_int_bool, ty_int_str, ty_int_list, ty_int_tuple, ty_int_dict, ty_bool_int, ty_bool_bool, ty_bool_str, ty_bool_list, ty_bool_tuple, ty_bool_dict, ty_str_int, ty_str_bool, ty_str_str, ty_str_list, ty_str_tuple, ty_str_dict, ty_tuple_int, ty_tuple_bool, ty_tuple_str, ty_tuple_list, ty_tuple_tuple, ty_tuple_dict, ty_list_int, ty_list_bool, ty_list_str, ty_list_list, ty_list_tuple, ty_list_dict, ty_dict_int, ty_dict_bool, ty_dict_str, ty_dict_list, ty_dict_tuple, ty_dict_dict, at_0, at_1, at_2, at_3, at_4, nat_0, nat_1, nat_2, nat_3, nat_4, nat_5, nat_6, at_end, at_end1, at_end2, at_end3, bools_t, all_t, Nat.reduceLT, Nat.reduceLeDiff, Int.reduceLT, Int.reduceLE, Int.reduceAdd, Int.reduceSub, Int.reduceMul, Int.reducePow, Int.reduceToNat, Int.reduceNeg, ifx_t, ifx_f, ifx_n, gx_ok, eqT_int, List.getElem?_cons_zero, List.getElem?_cons_succ, List.set_cons_zero, List.set_cons_succ, List.map_cons, List.map_nil, List.nil_append, List.cons_append, List.replicate_succ, List.replicate_zero, List.length_cons, List.length_nil, List.any_cons, List.any_nil, Nat.reduceAdd, Nat.reduceSub, Bool.or_false, Bool.or_true, Bool.false_or, Bool.true_or, Bool.not_true, Bool.not_false, Option.map_some, Option.bind_some, decide_true, decide_false, true_and, and_true, wipeL, ↓gg_KINDS]
            exact ⟨_, _, _, _, _, rfl, d8, m8⟩
        · intro l h6 hj
          obtain ⟨a, b, e4, e5, e8, el, d7, m7⟩ := hj
          subst el
          simp only [↓x_var, ↓x_int, ↓x_bl, ↓x_non, ↓x_str, ↓x_bin, ↓x_cmp, ↓x_idx, ↓x_neg, ↓x_not, ↓x_isN, ↓x_isnN, ↓x_rev, ↓x_sset, ↓x_isiT, ↓x_chn, ↓x_ite, ↓x_and, ↓x_or, ↓x_and1, ↓x_or1, ↓x_and2, ↓x_or2, ↓x_tup, ↓x_lst, ↓x_dic, ↓x_slc, ↓x_call, ↓x_callK, ↓x_blt, ↓x_mth, ↓x_rngL, ↓x_rngT, ↓x_comp, ↓x_enil, ↓x_econs, ↓x_kv0, ↓x_kv, ↓x_ono, ↓x_oso, ↓x_cno, ↓x_cso, ↓x_val, ↓x_rng1, ↓x_rng2, ↓x_enum, ↓x_gvar, ↓x_gtup, ↓x_gtupR, ↓x_gsub, ↓x_gnil, ↓x_gcons, ↓x_snil, ↓x_scons, ↓x_pass, ↓x_expr, ↓x_ret, ↓x_retN, ↓x_set, ↓x_aug, ↓x_augO, ↓x_augA, ↓x_augS, ↓x_iff, ↓x_for, ↓x_whl, ↓x_brk, ↓x_cnt, ↓x_seqN, ↓x_seqR, ↓x_seqB, ↓x_seqC, ↓x_finR, ↓x_finN, ↓x_lk, ↓x_negR, ↓x_notR, ↓x_cnd, ↓x_oiR, ↓x_opt, ↓x_ob, ↓x_r1, ↓x_r2, ↓x_valT, ↓x_valF, ↓x_lst', ↓x_dk', ↓x_valL, ↓x_enumL, ↓x_mthL, ↓x_mth_append, ↓x_mth_extend, ↓x_mth_pop, ↓x_mth_get, ↓x_newT, ↓x_newL, ↓x_dicR, ↓x_add, ↓x_sub, ↓x_mul, ↓x_fdiv, ↓x_mod, ↓x_pow, ↓x_tadd, ↓x_ladd, ↓x_lt, ↓x_le, ↓x_gt, ↓x_ge, ↓x_eq, ↓x_ne, ↓x_inn, ↓x_nin, ↓x_tix, ↓x_rix, ↓x_ixL, ↓x_ixD, ↓x_setD, ↓x_stD, ↓x_stL, ↓x_app, ↓x_if, ↓x_ext, ↓x_pop, ↓x_lenT, ↓x_lenR, ↓x_lenL, ↓x_listT, ↓x_listL, ↓x_tupL, ↓x_tupT, ↓x_sortT, ↓x_sortL, ↓x_all, ↓x_any, ↓x_sum, ↓x_max2, ↓x_min2, ↓x_toint, ↓x_repr, ↓x_rep, ↓x_slcT, ↓x_slcF, ↓x_slcL, ↓x_revL, ↓x_ssetL, ↓x_isi_int, ↓x_isi_bool, ↓x_isi_NoneType, ↓x_isi_str, ↓x_isi_tuple, ↓x_isi_list, ↓gx_bd, ↓gx_ok, ↓x_loopN, ↓x_loopC, ↓x_loopB, ↓x_loopR, ty_NoneType_int, ty_NoneType_bool, ty_NoneType_str, ty_NoneType_list, ty_NoneType_tuple, ty_NoneType_dict, ty_int_int, ty_int_bool, ty_int_str, ty_int_list, ty_int_tuple, ty_int_dict, ty_bool_int, ty_bool_bool, ty_bool_str, ty_bool_list, ty_bool_tuple, ty_bool_dict, ty_str_int, ty_str_bool, ty_str_str, ty_str_list, ty_str_tuple, ty_str_dict, ty_tuple_int, ty_tuple_bool, ty_tuple_str, ty_tuple_list, ty_tuple_tuple, ty_tuple_dict, ty_list_int, ty_list_bool, ty_list_str, ty_list_list, ty_list_tuple, ty_list_dict, ty_dict_int, ty_dict_bool, ty_dict_str, ty_dict_list, ty_dict_tuple, ty_dict_dict, at_0, at_1, at_2, at_3, at_4, nat_0, nat_1, nat_2, nat_3, nat_4, nat_5, nat_6, at_end, at_end1, at_end2, at_end3, bools_t, all_t, Nat.reduceLT, Nat.reduceLeDiff, Int.reduceLT, Int.reduceLE, Int.reduceAdd, Int.reduceSub, Int.reduceMul, Int.reducePow, Int.reduceToNat, Int.reduceNeg, ifx_t, ifx_f, ifx_n, gx_ok, eqT_int, List.getElem?_cons_zero, List.getElem?_cons_succ, List.set_cons_zero, List.set_cons_succ, List.map_cons, List.map_nil, List.nil_append, List.cons_append, List.replicate_succ, List.replicate_zero, List.length_cons, List.length_nil, List.any_cons, List.any_nil, Nat.reduceAdd, Nat.reduceSub, Bool.or_false, Bool.or_true, Bool.false_or, Bool.true_or, Bool.not_true, Bool.not_false, Option.map_some, Option.bind_some, decide_true, decide_false, true_and, and_true, wipeL, ↓gg_KINDS]
          exact ⟨_, _, _, _, _, _, _, rfl, d7⟩
    · rintro l h ⟨a1, a2, a3, a4, a5, a6, a7, rfl, d1⟩
      simp only [↓x_var, ↓x_int, ↓x_bl, ↓x_non, ↓x_str, ↓x_bin, ↓x_cmp, ↓x_idx, ↓x_neg, ↓x_not, ↓x_isN, ↓x_isnN, ↓x_rev, ↓x_sset, ↓x_isiT, ↓x_chn, ↓x_ite, ↓x_and, ↓x_or, ↓x_and1, ↓x_or1, ↓x_and2, ↓x_or2, ↓x_tup, ↓x_lst, ↓x_dic, ↓x_slc, ↓x_call, ↓x_callK, ↓x_blt, ↓x_mth, ↓x_rngL, ↓x_rngT, ↓x_comp, ↓x_enil, ↓x_econs, ↓x_kv0, ↓x_kv, ↓x_ono, ↓x_oso, ↓x_cno, ↓x_cso, ↓x_val, ↓x_rng1, ↓x_rng2, ↓x_enum, ↓x_gvar, ↓x_gtup, ↓x_gtupR, ↓x_gsub, ↓x_gnil, ↓x_gcons, ↓x_snil, ↓x_scons, ↓x_pass, ↓x_expr, ↓x_ret, ↓x_retN, ↓x_set, ↓x_aug, ↓x_augO, ↓x_augA, ↓x_augS, ↓x_iff, ↓x_for, ↓x_whl, ↓x_brk, ↓x_cnt, ↓x_seqN, ↓x_seqR, ↓x_seqB, ↓x_seqC, ↓x_finR, ↓x_finN, ↓x_lk, ↓x_negR, ↓x_notR, ↓x_cnd, ↓x_oiR, ↓x_opt, ↓x_ob, ↓x_r1, ↓x_r2, ↓x_valT, ↓x_valF, ↓x_lst', ↓x_dk', ↓x_valL, ↓x_enumL, ↓x_mthL, ↓x_mth_append, ↓x_mth_extend, ↓x_mth_pop, ↓x_mth_get, ↓x_newT, ↓x_newL, ↓x_dicR, ↓x_add, ↓x_sub, ↓x_mul, ↓x_fdiv, ↓x_mod, ↓x_pow, ↓x_tadd, ↓x_ladd, ↓x_lt, ↓x_le, ↓x_gt, ↓x_ge, ↓x_eq, ↓x_ne, ↓x_inn, ↓x_nin, ↓x_tix, ↓x_rix, ↓x_ixL, ↓x_ixD, ↓x_setD, ↓x_stD, ↓x_stL, ↓x_app, ↓x_if, ↓x_ext, ↓x_pop, ↓x_lenT, ↓x_lenR, ↓x_lenL, ↓x_listT, ↓x_listL, ↓x_tupL, ↓x_tupT, ↓x_sortT, ↓x_sortL, ↓x_all, ↓x_any, ↓x_sum, ↓x_max2, ↓x_min2, ↓x_toint, ↓x_repr, ↓x_rep, ↓x_slcT, ↓x_slcF, ↓x_slcL, ↓x_revL, ↓x_ssetL, ↓x_isi_int, ↓x_isi_bool, ↓x_isi_NoneType, ↓x_isi_str, ↓x_isi_tuple, ↓x_isi_list, ↓gx_bd, ↓gx_ok, ↓x_loopN, ↓x_loopC, ↓x_loopB, ↓x_loopR, ty_NoneType_int, ty_NoneType_bool, ty_NoneType_str, ty_NoneType_list, ty_NoneType_tuple, ty_NoneType_dict, ty_int_int, ty_int_bool, ty_int_str, ty_int_list, ty_int_tuple, ty_int_dict, ty_bool_int, ty_bool_bool, ty_bool_str, ty_bool_list, ty_bool_tuple, ty_bool_dict, ty_str_int, ty_str_bool, ty_str_str, ty_str_list, ty_str_tuple, ty_str_dict, ty_tuple_int, ty_tuple_bool, ty_tuple_str, ty_tuple_list, ty_tuple_tuple, ty_tuple_dict, ty_list_int, ty_list_bool, ty_list_str, ty_list_list, ty_list_tuple, ty_list_dict, ty_dict_int, ty_dict_bool, ty_dict_str, ty_dict_list, ty_dict_tuple, ty_dict_dict, at_0, at_1, at_2, at_3, at_4, nat_0, nat_1, nat_2, nat_3, nat_4, nat_5, nat_6, at_end, at_end1, at_end2, at_end3, bools_t, all_t, Nat.reduceLT, Nat.reduceLeDiff, Int.reduceLT, Int.reduceLE, Int.reduceAdd, Int.reduceSub, Int.reduceMul, Int.reducePow, Int.reduceToNat, Int.reduceNeg, ifx_t, ifx_f, ifx_n, gx_ok, eqT_int, List.getElem?_cons_zero, List.getElem?_cons_succ, List.set_cons_zero, List.set_cons_succ, List.map_cons, List.map_nil, List.nil_append, List.cons_append, List.replicate_succ, List.replicate_zero, List.length_cons, List.length_nil, List.any_cons, List.any_nil, Nat.reduceAdd, Nat.reduceSub, Bool.or_false, Bool.or_true, Bool.false_or, Bool.true_or, Bool.not_true, Bool.not_false, Option.map_some, Option.bind_some, decide_true, decide_false, true_and, and_true, wipeL, ↓gg_KINDS]
  obtain ⟨x, h1, e, rfl⟩ := gx_ex z
  exact ⟨_, e⟩
end
end K59


namespace K59
open MP
def room : Nat := 20
theorem law_true : ∀ ns : List Int, ns.length ≤ 63 → ∃ h', callN D (room + 1) "law" [scr ns] [] = .ok (.bl true) h' := fun _ h => law_go (n := 11) h
end K59

open PySem PySem.W PyProof.Rows
set_option maxHeartbeats 0 in
theorem PySem.Challenge.cw_manydeep_k59_kinds_and_where_they_lead_holds : PySem.Challenge.rw_manydeep_k59_kinds_and_where_they_lead.Holds := by
  w_on; o_law; k_head; (case hw => w_witness2)
  k_fill
  refine MP.walk_mp (l := PySem.Challenge.rw_manydeep_k59_kinds_and_where_they_lead) (m := 63) (k := K59.room) (x := "_law_script") (D := K59.D) (fd := K59.d_law) (f := "law") rfl (by decide) rfl ⟨rfl, by decide, by decide⟩ (fun w h Y => PySem.W.kIn_of Y) rfl rfl rfl ?hD K59.law_true
  case hD =>
    intro w mg h KX G
    refine' MP.all_tbl KX G (.cons (MP.DefAt.mk1 (st := K59.topS 7) KX G K59.s_is_integer K59.c_is_integer K59.b_is_integer K59.k_is_integer ?a_is_integer ?l_is_integer ?c_is_integer ?k_is_integer) (.cons (MP.DefAt.mk1 (st := K59.topS 8) KX G K59.s_is_between K59.c_is_between K59.b_is_between K59.k_is_between ?a_is_between ?l_is_between ?c_is_between ?k_is_between) (.cons (MP.DefAt.mk1 (st := K59.topS 9) KX G K59.s_is_tie K59.c_is_tie K59.b_is_tie K59.k_is_tie ?a_is_tie ?l_is_tie ?c_is_tie ?k_is_tie) (.cons (MP.DefAt.mk1 (st := K59.topS 10) KX G K59.s_is_web_value K59.c_is_web_value K59.b_is_web_value K59.k_is_web_value ?a_is_web_value ?l_is_web_value ?c_is_web_value ?k_is_web_value) (.cons (MP.DefAt.mk1 (st := K59.topS 11) KX G K59.s_has_kinds_below K59.c_has_kinds_below K59.b_has_kinds_below K59.k_has_kinds_below ?a_has_kinds_below ?l_has_kinds_below ?c_has_kinds_below ?k_has_kinds_below) (.cons (MP.DefAt.mk1 (st := K59.topS 12) KX G K59.s_is_growth_value K59.c_is_growth_value K59.b_is_growth_value K59.k_is_growth_value ?a_is_growth_value ?l_is_growth_value ?c_is_growth_value ?k_is_growth_value) (.cons (MP.DefAt.mk1 (st := K59.topS 13) KX G K59.s_is_book_value K59.c_is_book_value K59.b_is_book_value K59.k_is_book_value ?a_is_book_value ?l_is_book_value ?c_is_book_value ?k_is_book_value) (.cons (MP.DefAt.mk1 (st := K59.topS 14) KX G K59.s_is_garden_value K59.c_is_garden_value K59.b_is_garden_value K59.k_is_garden_value ?a_is_garden_value ?l_is_garden_value ?c_is_garden_value ?k_is_garden_value) (.cons (MP.DefAt.mk1 (st := K59.topS 15) KX G K59.s_need_book K59.c_need_book K59.b_need_book K59.k_need_book ?a_need_book ?l_need_book ?c_need_book ?k_need_book) (.cons (MP.DefAt.mk1 (st := K59.topS 16) KX G K59.s_need_garden K59.c_need_garden K59.b_need_garden K59.k_need_garden ?a_need_garden ?l_need_garden ?c_need_garden ?k_need_garden) (.cons (MP.DefAt.mk1 (st := K59.topS 18) KX G K59.s_kinds_led_to K59.c_kinds_led_to K59.b_kinds_led_to K59.k_kinds_led_to ?a_kinds_led_to ?l_kinds_led_to ?c_kinds_led_to ?k_kinds_led_to) (.cons (MP.DefAt.mk1 (st := K59.topS 19) KX G K59.s_leads K59.c_leads K59.b_leads K59.k_leads ?a_leads ?l_leads ?c_leads ?k_leads) (.cons (MP.DefAt.mk1 (st := K59.topS 20) KX G K59.s_kinds_of K59.c_kinds_of K59.b_kinds_of K59.k_kinds_of ?a_kinds_of ?l_kinds_of ?c_kinds_of ?k_kinds_of) (.cons (MP.DefAt.mk1 (st := K59.topS 22) KX G K59.s__law_deck K59.c__law_deck K59.b__law_deck K59.k__law_deck ?a__law_deck ?l__law_deck ?c__law_deck ?k__law_deck) (.cons (MP.DefAt.mk1 (st := K59.topS 23) KX G K59.s__law_draw K59.c__law_draw K59.b__law_draw K59.k__law_draw ?a__law_draw ?l__law_draw ?c__law_draw ?k__law_draw) (.cons (MP.DefAt.mk1 (st := K59.topS 24) KX G K59.s__law_pick K59.c__law_pick K59.b__law_pick K59.k__law_pick ?a__law_pick ?l__law_pick ?c__law_pick ?k__law_pick) (.cons (MP.DefAt.mk1 (st := K59.topS 25) KX G K59.s__law_book K59.c__law_book K59.b__law_book K59.k__law_book ?a__law_book ?l__law_book ?c__law_book ?k__law_book) (.cons (MP.DefAt.mk1 (st := K59.topS 26) KX G K59.s__law_with_kinds K59.c__law_with_kinds K59.b__law_with_kinds K59.k__law_with_kinds ?a__law_with_kinds ?l__law_with_kinds ?c__law_with_kinds ?k__law_with_kinds) (.cons (MP.DefAt.mk1 (st := K59.topS 27) KX G K59.s__law_garden K59.c__law_garden K59.b__law_garden K59.k__law_garden ?a__law_garden ?l__law_garden ?c__law_garden ?k__law_garden) (.cons (MP.DefAt.mk1 (st := K59.topS 28) KX G K59.s__law_reach K59.c__law_reach K59.b__law_reach K59.k__law_reach ?a__law_reach ?l__law_reach ?c__law_reach ?k__law_reach) (.cons (MP.DefAt.mk1 (st := K59.topS 29) KX G K59.s__law_kinds K59.c__law_kinds K59.b__law_kinds K59.k__law_kinds ?a__law_kinds ?l__law_kinds ?c__law_kinds ?k__law_kinds) (.cons (MP.DefAt.mk1 (st := K59.topS 30) KX G K59.s_law K59.c_law K59.b_law K59.k_law ?a_law ?l_law ?c_law ?k_law) .nil)))))))))))))))))))))) (.cons (MP.GlAt.int KX G ?g_KINDS) .nil) (.cons ?z_len (.cons ?z_list (.cons ?z_tuple (.cons ?z_sorted (.cons ?z_all (.cons ?z_any (.cons ?z_sum (.cons ?z_max (.cons ?z_min (.cons ?z_int (.cons ?z_repr (.cons ?z_str (.cons ?z_abs (.cons ?z_bool (.cons ?z_isinstance (.cons ?z_range (.cons ?z_enumerate (.cons ?z_zip (.cons ?z_set (.cons ?z_reversed (.cons ?z_dict .nil)))))))))))))))))))))
    (case a_is_integer => k_is)
    (case l_is_integer => k_is)
    (case c_is_integer => k_is)
    (case k_is_integer => k_is)
    (case a_is_between => k_is)
    (case l_is_between => k_is)
    (case c_is_between => k_is)
    (case k_is_between => k_is)
    (case a_is_tie => k_is)
    (case l_is_tie => k_is)
    (case c_is_tie => k_is)
    (case k_is_tie => k_is)
    (case a_is_web_value => k_is)
    (case l_is_web_value => k_is)
    (case c_is_web_value => k_is)
    (case k_is_web_value => k_is)
    (case a_has_kinds_below => k_is)
    (case l_has_kinds_below => k_is)
    (case c_has_kinds_below => k_is)
    (case k_has_kinds_below => k_is)
    (case a_is_growth_value => k_is)
    (case l_is_growth_value => k_is)
    (case c_is_growth_value => k_is)
    (case k_is_growth_value => k_is)
    (case a_is_book_value => k_is)
    (case l_is_book_value => k_is)
    (case c_is_book_value => k_is)
    (case k_is_book_value => k_is)
    (case a_is_garden_value => k_is)
    (case l_is_garden_value => k_is)
    (case c_is_garden_value => k_is)
    (case k_is_garden_value => k_is)
    (case a_need_book => k_is)
    (case l_need_book => k_is)
    (case c_need_book => k_is)
    (case k_need_book => k_is)
    (case a_need_garden => k_is)
    (case l_need_garden => k_is)
    (case c_need_garden => k_is)
    (case k_need_garden => k_is)
    (case a_kinds_led_to => k_is)
    (case l_kinds_led_to => k_is)
    (case c_kinds_led_to => k_is)
    (case k_kinds_led_to => k_is)
    (case a_leads => k_is)
    (case l_leads => k_is)
    (case c_leads => k_is)
    (case k_leads => k_is)
    (case a_kinds_of => k_is)
    (case l_kinds_of => k_is)
    (case c_kinds_of => k_is)
    (case k_kinds_of => k_is)
    (case a__law_deck => k_is)
    (case l__law_deck => k_is)
    (case c__law_deck => k_is)
    (case k__law_deck => k_is)
    (case a__law_draw => k_is)
    (case l__law_draw => k_is)
    (case c__law_draw => k_is)
    (case k__law_draw => k_is)
    (case a__law_pick => k_is)
    (case l__law_pick => k_is)
    (case c__law_pick => k_is)
    (case k__law_pick => k_is)
    (case a__law_book => k_is)
    (case l__law_book => k_is)
    (case c__law_book => k_is)
    (case k__law_book => k_is)
    (case a__law_with_kinds => k_is)
    (case l__law_with_kinds => k_is)
    (case c__law_with_kinds => k_is)
    (case k__law_with_kinds => k_is)
    (case a__law_garden => k_is)
    (case l__law_garden => k_is)
    (case c__law_garden => k_is)
    (case k__law_garden => k_is)
    (case a__law_reach => k_is)
    (case l__law_reach => k_is)
    (case c__law_reach => k_is)
    (case k__law_reach => k_is)
    (case a__law_kinds => k_is)
    (case l__law_kinds => k_is)
    (case c__law_kinds => k_is)
    (case k__law_kinds => k_is)
    (case a_law => k_is)
    (case l_law => k_is)
    (case c_law => k_is)
    (case k_law => k_is)
    (case g_KINDS => k_is)
    (case z_len => k_is)
    (case z_list => k_is)
    (case z_tuple => k_is)
    (case z_sorted => k_is)
    (case z_all => k_is)
    (case z_any => k_is)
    (case z_sum => k_is)
    (case z_max => k_is)
    (case z_min => k_is)
    (case z_int => k_is)
    (case z_repr => k_is)
    (case z_str => k_is)
    (case z_abs => k_is)
    (case z_bool => k_is)
    (case z_isinstance => k_is)
    (case z_range => k_is)
    (case z_enumerate => k_is)
    (case z_zip => k_is)
    (case z_set => k_is)
    (case z_reversed => k_is)
    (case z_dict => k_is)

