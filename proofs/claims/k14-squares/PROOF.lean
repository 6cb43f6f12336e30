import PyProof.Rows.All
import Wide.All
import OpenK.AllK
import Wide.FinOn
import HandS.ForMost
import HandS.WordsExc
import HandS.ExcOwn
import HandS.Wide
import HandS.TupAny
import KE.LtData
import HandS.Deep
import HandS.Style
import HandS.Conv
import HandS.WordsDict
import HandS.Small
import HandS.More
import HandS.Flow
import HandS.Zip
import KE.GoesEnum
import HandS.Flt
import HandS.Strs
import HandS.Replace
import HandS.SetKeys
import HandS.DictComp
import HandS.TryOnly
import HandS.EndBits
import HandS.ExcIs
import PySem.Challenge.RW_grammarhall_k14_squares_and_round_words
set_option Elab.async false
set_option linter.all false
set_option maxRecDepth 1000000
set_option maxHeartbeats 2000000
/-! G1: pure data, codes, the evaluator (core Lean alone) -/
namespace G

/-- pure data: a list, a dict are values here -/
inductive D where
  | non | bl (b : Bool) | int (i : Int) | str (l : List Nat)
  | tup (l : List D) | lst (l : List D) | fls (l : List D) | dct (ks vs : List D)
deriving Repr

mutual
/-- nothing in it can be changed -/
def pu : D → Bool
  | .tup l => puL l
  | .fls l => puL l
  | .lst _ => false
  | .dct _ _ => false
  | _ => true
def puL : List D → Bool
  | [] => true
  | d :: r => pu d && puL r
end
mutual
def dep : D → Nat
  | .tup l => depL l + 1
  | .lst l => depL l + 1
  | .fls l => depL l + 1
  | _ => 0
def depL : List D → Nat
  | [] => 0
  | d :: r => max (dep d) (depL r)
end
mutual
/-- Python's == -/
def deq : D → D → Bool
  | .non, .non => true
  | .bl a, .bl b => a == b
  | .bl a, .int j => (if a = true then 1 else 0) == j
  | .int i, .bl b => i == (if b = true then 1 else 0)
  | .int i, .int j => i == j
  | .str a, .str b => decide (a = b)
  | .tup a, .tup b => deqL a b
  | .lst a, .lst b => deqL a b
  | .lst a, .fls b => deqL a b
  | .fls a, .lst b => deqL a b
  | .fls a, .fls b => deqL a b
  | _, _ => false
def deqL : List D → List D → Bool
  | [], [] => true
  | x :: xs, y :: ys => deq x y && deqL xs ys
  | _, _ => false
end
mutual
/-- no dict in it -/
def nod : D → Bool
  | .tup l => nodL l
  | .lst l => nodL l
  | .fls l => nodL l
  | .dct _ _ => false
  | _ => true
def nodL : List D → Bool
  | [] => true
  | d :: r => nod d && nodL r
end
mutual
/-- of like kinds, place by place -/
def alk : D → D → Bool
  | .non, .non => true
  | .bl _, .bl _ => true
  | .int _, .int _ => true
  | .str _, .str _ => true
  | .tup a, .tup b => alkL a b
  | .lst a, .lst b => alkL a b
  | _, _ => false
def alkL : List D → List D → Bool
  | x :: xs, y :: ys => alk x y && alkL xs ys
  | _, _ => true
end
def sLt : List Nat → List Nat → Bool
  | [], [] => false
  | [], _ :: _ => true
  | _ :: _, [] => false
  | x :: xs, y :: ys => if x = y then sLt xs ys else decide (x < y)
mutual
/-- Python's <, of alike data -/
def dlt : D → D → Bool
  | .bl a, .bl b => !a && b
  | .int i, .int j => decide (i < j)
  | .str a, .str b => sLt a b
  | .tup a, .tup b => dltL a b
  | .lst a, .lst b => dltL a b
  | _, _ => false
def dltL : List D → List D → Bool
  | [], [] => false
  | [], _ :: _ => true
  | _ :: _, [] => false
  | x :: xs, y :: ys => if deq x y = true then dltL xs ys else dlt x y
end

/-- the largest size of lists and texts here -/
def cap : Nat := 1000000
def nIx (n : Nat) (i : Int) : Option Nat := if 0 ≤ i then (if i < n then some i.toNat else none) else if -(n : Int) ≤ i then some (i + n).toNat else none
def sIx (n d : Nat) : Option Int → Nat
  | none => d
  | some v => if v < 0 then (v + (n : Int)).toNat else min v.toNat n
def cut {α : Type} (l : List α) (lo hi : Option Int) : List α := (l.drop (sIx l.length 0 lo)).take (sIx l.length l.length hi - sIx l.length 0 lo)
/-- a part stands in a text -/
def isPre : List Nat → List Nat → Bool
  | [], _ => true
  | _ :: _, [] => false
  | x :: xs, y :: ys => x == y && isPre xs ys
def isIn (p : List Nat) : List Nat → Bool
  | [] => p.isEmpty
  | y :: ys => isPre p (y :: ys) || isIn p ys
def kIx (k : D) : List D → Option Nat
  | [] => none
  | x :: xs => if deq x k = true then some 0 else (kIx k xs).map (· + 1)
/-- keys of a dict that we serve: dInts, texts -/
def isKey : D → Bool
  | .int _ => true
  | .str _ => true
  | _ => false

/-! ### codes -/
inductive BOp where | add | sub | mul | fdiv | mod | pow
deriving DecidableEq, Repr
inductive COp where | eq | ne | lt | le | gt | ge | inn | nin | isn | ntn
deriving DecidableEq, Repr
inductive BI where | len | abs | int | tuple | list | sum | min | max | any | all | dict | sorted | min2 | max2 | min3 | max3
deriving DecidableEq, Repr
mutual
inductive Tg where
  | v (i : Nat) | t (ts : Tgs)
inductive Tgs where
  | nil | cons (t : Tg) (r : Tgs)
end
mutual
inductive E where
  | var (i : Nat) | mv (i : Nat)
  | int (i : Int) | str (l : List Nat) | bl (b : Bool) | non
  | neg (a : E) | bin (o : BOp) (a b : E) | cmp (o : COp) (a b : E)
  | and (a b : E) | or (a b : E) | not (a : E) | ite (c a b : E)
  | tup (es : Es) | lst (es : Es) | dis (kvs : Es)
  | ix (a i : E) | sl (a : E) (lo hi : Eo) | rev (a : E)
  | call (f : Nat) (as : As)
  | bi (b : BI) (a : E) | bi2 (b : BI) (a a' : E)
  | join (a b : E) | get (d k x : E)
  | comp (tg : Tg) (src : Src) (c : Eo) (e : E)
  | pop (p : P)
  | bi3 (b : BI) (a a' a'' : E) | lcp (a : E) | cmp2 (o p : COp) (a b c : E)
  | tr1 (t : Bool) (a : E) | tr2 (t : Bool) (a b : E)
  | lset (a : E) | dcl (i : Nat) (a v : E) | sidx (a b : E)
inductive Es where
  | nil | cons (e : E) (r : Es)
inductive Eo where
  | non | som (e : E)
/-- arguments: a value, or a slot's content lent -/
inductive As where
  | nil | val (e : E) (r : As) | ref (i : Nat) (r : As)
inductive Src where
  | e (a : E) | r1 (a : E) | r2 (a b : E) | r3 (a b : E) (c : Int) | enum (a : E) | zip (a b : E)
/-- a place: a slot, or an item of a place -/
inductive P where
  | v (i : Nat) | ix (p : P) (e : E)
end
/-- what an except clause hands back: something written, or the error's code -/
inductive Hd where
  | lit (e : E) | code
mutual
inductive S where
  | set (i : Nat) (e : E) | tset (ts : Tgs) (e : E) | aug (i : Nat) (o : BOp) (e : E)
  | put (p : P) (k e : E) | app (p : P) (e : E) | ext (p : P) (e : E)
  | ex (e : E) | ret (e : E) | retN
  | ite (c : E) (a b : Ss)
  | for (tg : Tg) (src : Src) (b : Ss) (ks : List Nat)
  | wh (c : E) (b : Ss) (ks : List Nat)
  | brk | cnt | pass
  | rai (c : Nat) (m : Option (List Nat)) | tryR (b : Ss) (c : Nat) (h : Hd)
inductive Ss where
  | nil | cons (s : S) (r : Ss) | kill (ks : List Nat) (r : Ss)
end

/-! ### states and results -/
abbrev Env := List (Option D)
/-- an exception: its class's number, its fields -/
structure Ex where
  cls : Nat
  fs : List D
inductive R (α : Type) where
  | ok (a : α) (ρ : Env) | er (x : Ex) (ρ : Env) | no
@[inline] def R.bd {α β : Type} (r : R α) (f : α → Env → R β) : R β := match r with
  | .ok a ρ => f a ρ
  | .er x ρ => .er x ρ
  | .no => .no
theorem R.bd_ok {α β : Type} (a : α) (ρ : Env) (f : α → Env → R β) : (R.ok a ρ).bd f = f a ρ := rfl
theorem R.bd_no {α β : Type} (f : α → Env → R β) : (R.no : R α).bd f = .no := rfl
theorem R.bd_er {α β : Type} (x : Ex) (ρ : Env) (f : α → Env → R β) : (R.er x ρ : R α).bd f = .er x ρ := rfl
/-- a value or nothing -/
def lift {α : Type} (o : Option α) (ρ : Env) : R α := match o with
  | some a => .ok a ρ
  | none => .no
theorem lift_some {α : Type} (a : α) (ρ : Env) : lift (some a) ρ = .ok a ρ := rfl
theorem lift_none {α : Type} (ρ : Env) : lift (none : Option α) ρ = .no := rfl
def g (ρ : Env) (i : Nat) : Option D := (ρ[i]?).join
def clr (ρ : Env) : List Nat → Env
  | [] => ρ
  | i :: r => clr (ρ.set i none) r
/-- the slots is as they stand in ρ₀ -/
def bck (ρ₀ ρ : Env) : List Nat → Env
  | [] => ρ
  | i :: r => bck ρ₀ (ρ.set i (g ρ₀ i)) r
/-- what a call hands back: its value, what was lent; or an exception -/
inductive FR where
  | ok (d : D) (rs : Env) | er (x : Ex) | no
abbrev Fns := Nat → List D → FR
inductive Out where
  | nx | rt (d : D) | bk | ct

/-! ### what a code leans on, what it changes -/
/-- the slot of which an expression's value is a part (none: a value of its own) -/
def md : E → Option Nat
  | .var i => some i
  | .ix a _ => md a
  | .bi .min a => md a
  | .bi .max a => md a
  | _ => none
def P.root : P → Nat
  | .v i => i
  | .ix p _ => p.root
def mdS : Src → Option Nat
  | .e a => md a
  | .enum a => md a
  | _ => none
mutual
def Tg.slots : Tg → List Nat
  | .v i => [i]
  | .t ts => ts.slots
def Tgs.slots : Tgs → List Nat
  | .nil => []
  | .cons t r => t.slots ++ r.slots
end
mutual
def wrE : E → List Nat
  | .var _ => []
  | .mv i => [i]
  | .int _ => []
  | .str _ => []
  | .bl _ => []
  | .non => []
  | .neg a => wrE a
  | .bin _ a b => wrE a ++ wrE b
  | .cmp _ a b => wrE a ++ wrE b
  | .and a b => wrE a ++ wrE b
  | .or a b => wrE a ++ wrE b
  | .not a => wrE a
  | .ite c a b => wrE c ++ (wrE a ++ wrE b)
  | .tup es => wrEs es
  | .lst es => wrEs es
  | .dis kvs => wrEs kvs
  | .ix a i => wrE a ++ wrE i
  | .sl a lo hi => wrE a ++ (wrEo lo ++ wrEo hi)
  | .rev a => wrE a
  | .call _ as => wrAs as
  | .bi _ a => wrE a
  | .bi2 _ a b => wrE a ++ wrE b
  | .join a b => wrE a ++ wrE b
  | .get d k x => wrE d ++ (wrE k ++ wrE x)
  | .comp _ src c e => wrSrc src ++ (wrEo c ++ wrE e)
  | .pop p => p.root :: wrP p
  | .bi3 _ a b c => wrE a ++ (wrE b ++ wrE c)
  | .lcp a => wrE a
  | .cmp2 _ _ a b c => wrE a ++ (wrE b ++ wrE c)
  | .tr1 _ a => wrE a
  | .tr2 _ a b => wrE a ++ wrE b
  | .lset a => wrE a
  | .dcl _ a _ => wrE a
  | .sidx a b => wrE a ++ wrE b
def wrEs : Es → List Nat
  | .nil => []
  | .cons e r => wrE e ++ wrEs r
def wrEo : Eo → List Nat
  | .non => []
  | .som e => wrE e
def wrAs : As → List Nat
  | .nil => []
  | .val e r => wrE e ++ wrAs r
  | .ref i r => i :: wrAs r
def wrSrc : Src → List Nat
  | .e a => wrE a
  | .r1 a => wrE a
  | .r2 a b => wrE a ++ wrE b
  | .r3 a b _ => wrE a ++ wrE b
  | .enum a => wrE a
  | .zip a b => wrE a ++ wrE b
def wrP : P → List Nat
  | .v _ => []
  | .ix p e => wrP p ++ wrE e
end
mutual
def wrS : S → List Nat
  | .set i e => i :: wrE e
  | .tset ts e => ts.slots ++ wrE e
  | .aug i _ e => i :: wrE e
  | .put p k e => p.root :: (wrP p ++ (wrE k ++ wrE e))
  | .app p e => p.root :: (wrP p ++ wrE e)
  | .ext p e => p.root :: (wrP p ++ wrE e)
  | .ex e => wrE e
  | .ret e => wrE e
  | .retN => []
  | .ite c a b => wrE c ++ (wrSs a ++ wrSs b)
  | .for tg src b ks => tg.slots ++ (wrSrc src ++ (wrSs b ++ ks))
  | .wh c b ks => wrE c ++ (wrSs b ++ ks)
  | .brk => []
  | .cnt => []
  | .pass => []
  | .rai _ _ => []
  | .tryR b _ _ => wrSs b
def wrSs : Ss → List Nat
  | .nil => []
  | .cons s r => wrS s ++ wrSs r
  | .kill ks r => ks ++ wrSs r
end
/-- the value d, a part of slot m's content, stays what it is while js are changed -/
def safe (m : Option Nat) (js : List Nat) (d : D) : Bool := match m with
  | none => true
  | some i => !js.contains i || pu d
/-- d, of slot m, may be kept -/
def own (m : Option Nat) (d : D) : Bool := match m with
  | none => true
  | some _ => pu d

/-! ### operations by values -/
def small (i : Int) : Bool := decide (i.natAbs < 2 ^ 64)
def binF : BOp → D → D → Option D
  | .add, .int i, .int j => some (.int (i + j))
  | .add, .str a, .str b => if a.length + b.length ≤ cap then some (.str (a ++ b)) else none
  | .add, .tup a, .tup b => if puL a && puL b && decide (a.length + b.length ≤ cap) then some (.tup (a ++ b)) else none
  | .add, .lst a, .lst b => if puL a && puL b && decide (a.length + b.length ≤ cap) then some (.lst (a ++ b)) else none
  | .sub, .int i, .int j => some (.int (i - j))
  | .mul, .int i, .int j => if small i || small j then some (.int (i * j)) else none
  | .mul, .str a, .int k => if decide (k.toNat * a.length ≤ cap) && decide (k.natAbs < 2 ^ 62) then some (.str (List.replicate k.toNat a).flatten) else none
  | .mul, .lst a, .int k => if puL a && decide (k.toNat * a.length ≤ cap) && decide (k.natAbs < 2 ^ 62) then some (.lst (List.replicate k.toNat a).flatten) else none
  | .fdiv, .int i, .int j => if decide (0 < j) && decide (j < 2 ^ 64) then some (.int (i / j)) else none
  | .mod, .int i, .int j => if 0 < j then some (.int (i % j)) else none
  | .pow, .int i, .int j => if decide (0 ≤ j) && decide (j ≤ 1000) && small i then some (.int (i ^ j.toNat)) else none
  | _, _, _ => none
/-- what op= is served for -/
def iaug : BOp → D → D → Bool
  | .add, .int _, .int _ => true
  | .add, .str _, .str _ => true
  | .sub, .int _, .int _ => true
  | .mul, .int _, .int _ => true
  | _, _, _ => false
def eqOk (x y : D) : Bool := nod x && nod y && decide (min (dep x) (dep y) ≤ 64)
def anyEq (x : D) : List D → Bool
  | [] => false
  | y :: ys => deq y x || anyEq x ys
def inF (x y : D) : Option Bool := match y with
  | .str t => (match x with
    | .str [c] => some (decide (c ∈ t))
    | _ => none)
  | .tup l => if eqOk x (.tup l) then some (anyEq x l) else none
  | .lst l => if eqOk x (.lst l) then some (anyEq x l) else none
  | .fls l => if eqOk x (.fls l) then some (anyEq x l) else none
  | .dct ks _ => if isKey x then some (kIx x ks).isSome else none
  | _ => none
def isNon : D → Bool
  | .non => true
  | _ => false
def ltOk (x y : D) : Bool := alk x y && nod x && nod y && !isNon x && decide (min (dep x) (dep y) ≤ 64)
def cmpF : COp → D → D → Option Bool
  | .eq, x, y => if eqOk x y then some (deq x y) else none
  | .ne, x, y => if eqOk x y then some (!deq x y) else none
  | .lt, x, y => if ltOk x y then some (dlt x y) else none
  | .gt, .int i, .int j => some (decide (j < i))
  | .gt, .str a, .str b => some (sLt b a)
  | .le, .int i, .int j => some (decide (i ≤ j))
  | .le, .str a, .str b => some (!sLt b a)
  | .ge, .int i, .int j => some (decide (j ≤ i))
  | .ge, .str a, .str b => some (!sLt a b)
  | .inn, x, y => inF x y
  | .nin, x, y => (inF x y).map (!·)
  | .isn, x, .non => some (isNon x)
  | .ntn, x, .non => some (!isNon x)
  | _, _, _ => none
def tru : D → Option Bool
  | .non => some false
  | .bl b => some b
  | .int i => some (i != 0)
  | .str l => if l.length ≤ cap then some (!l.isEmpty) else none
  | .tup l => some (!l.isEmpty)
  | .lst l => some (!l.isEmpty)
  | .fls l => some (!l.isEmpty)
  | .dct ks _ => some (!ks.isEmpty)
def ixF : D → D → Option D
  | .str l, .int i => if l.length ≤ cap then (nIx l.length i).bind fun j => (l[j]?).map fun c => .str [c] else none
  | .tup l, .int i => (nIx l.length i).bind fun j => l[j]?
  | .lst l, .int i => (nIx l.length i).bind fun j => l[j]?
  | .fls l, .int i => (nIx l.length i).bind fun j => l[j]?
  | .dct ks vs, k => if isKey k then (kIx k ks).bind fun j => vs[j]? else none
  | _, _ => none
def slF : D → Option Int → Option Int → Option D
  | .str l, lo, hi => if l.length ≤ cap then some (.str (cut l lo hi)) else none
  | .tup l, lo, hi => if puL l then some (.tup (cut l lo hi)) else none
  | .lst l, lo, hi => if puL l then some (.lst (cut l lo hi)) else none
  | .fls l, lo, hi => if puL l then some (.lst (cut l lo hi)) else none
  | _, _, _ => none
def revF : D → Option D
  | .str l => if l.length ≤ cap then some (.str l.reverse) else none
  | .lst l => if puL l then some (.lst l.reverse) else none
  | .fls l => if puL l then some (.lst l.reverse) else none
  | _ => none
def dInts : List D → Option (List Int)
  | [] => some []
  | .int i :: r => (dInts r).map (i :: ·)
  | _ => none
def dBools : List D → Option (List Bool)
  | [] => some []
  | .bl b :: r => (dBools r).map (b :: ·)
  | _ => none
def dStrs : List D → Option (List (List Nat))
  | [] => some []
  | .str s :: r => (dStrs r).map (s :: ·)
  | _ => none
/-- the first of the least -/
def minL (b : D) : List D → Option D
  | [] => some b
  | x :: xs => if ltOk x b then (if dlt x b then minL x xs else minL b xs) else none
def items : D → Option (List D)
  | .str l => if l.length ≤ cap then some (l.map fun c => .str [c]) else none
  | .tup l => some l
  | .lst l => some l
  | .fls l => some l
  | _ => none
def isStr : D → Bool
  | .str _ => true
  | _ => false
def isDct : D → Bool
  | .dct _ _ => true
  | _ => false
def seqOf : D → Option (List D)
  | .tup l => some l
  | .lst l => some l
  | .fls l => some l
  | _ => none
/-- d[k] = v -/
def dput (ks vs : List D) (k v : D) : List D × List D := match kIx k ks with
  | some j => (ks, vs.set j v)
  | none => (ks ++ [k], vs ++ [v])
def pairsD (ks vs : List D) : List D → Option (List D × List D)
  | [] => some (ks, vs)
  | .tup [k, v] :: r => if isKey k then pairsD (dput ks vs k v).1 (dput ks vs k v).2 r else none
  | _ => none
/-- k1, v1, k2, v2, .. -/
def pairs2 (ks vs : List D) : List D → Option (List D × List D)
  | [] => some (ks, vs)
  | k :: v :: r => if isKey k && decide (ks.length < 15) then pairs2 (dput ks vs k v).1 (dput ks vs k v).2 r else none
  | _ => none
def biF : BI → D → Option D
  | .len, .str l => if l.length ≤ cap then some (.int l.length) else none
  | .len, .tup l => some (.int l.length)
  | .len, .lst l => some (.int l.length)
  | .len, .fls l => some (.int l.length)
  | .len, .dct ks _ => some (.int ks.length)
  | .abs, .int i => some (.int (if i < 0 then -i else i))
  | .int, .int i => some (.int i)
  | .int, .bl b => some (.int (if b then 1 else 0))
  | .tuple, .tup l => if puL l then some (.tup l) else none
  | .tuple, .lst l => if puL l then some (.tup l) else none
  | .list, .str l => if l.length ≤ cap then some (.lst (l.map fun c => D.str [c])) else none
  | .list, .tup l => if puL l then some (.lst l) else none
  | .list, .lst l => if puL l then some (.lst l) else none
  | .list, .fls l => if puL l then some (.lst l) else none
  | .list, .dct ks _ => some (.lst ks)
  | .sum, .lst l => (dInts l).map fun is => .int is.sum
  | .any, .lst l => (dBools l).map fun bs => .bl (bs.any id)
  | .all, .lst l => (dBools l).map fun bs => .bl (bs.all id)
  | .min, .lst (x :: xs) => minL x xs
  | .max, .lst l => (dInts l).bind fun is => is.max?.map D.int
  | .dict, .lst l => if puL l && decide (l.length ≤ cap) then (pairsD [] [] l).map fun p => .dct p.1 p.2 else none
  | .dict, .dct ks vs => if puL vs then some (.dct ks vs) else none
  | _, _ => none
def bi2F : BI → D → D → Option D
  | .min2, .int i, .int j => some (.int (if j < i then j else i))
  | .min2, x, y => minL x [y]
  | .max2, .int i, .int j => some (.int (if j > i then j else i))
  | _, _, _ => none
def bi3F : BI → D → D → D → Option D
  | .min3, .int i, .int j, .int k => some (.int (if k < (if j < i then j else i) then k else (if j < i then j else i)))
  | .max3, .int i, .int j, .int k => some (.int (if (if i < j then j else i) < k then k else (if i < j then j else i)))
  | _, _, _, _ => none
def joinS (sep : List Nat) : List (List Nat) → List Nat
  | [] => []
  | [a] => a
  | a :: b :: r => a ++ sep ++ joinS sep (b :: r)
def joinF (x y : D) : Option D := match x with
  | .str sep => (seqOf y).bind fun l => (dStrs l).bind fun ss => if (joinS sep ss).length ≤ cap ∧ sep.length ≤ cap then some (.str (joinS sep ss)) else none
  | _ => none
def getF : D → D → D → Option D
  | .dct ks vs, k, x => if isKey k && puL vs then (match kIx k ks with
      | some j => vs[j]?
      | none => some x) else none
  | _, _, _ => none
/-- lo, lo + c, .. -/
def rngL (lo c : Int) : Nat → List D
  | 0 => []
  | n + 1 => .int lo :: rngL (lo + c) c n
def rng3n (a b c : Int) : Nat := if 0 < c then ((b - a + c - 1) / c).toNat else if c < 0 then ((a - b + (-c) - 1) / (-c)).toNat else 0
def enumL (i : Int) : List D → List D
  | [] => []
  | x :: xs => .tup [.int i, x] :: enumL (i + 1) xs
def zipL : List D → List D → List D
  | x :: xs, y :: ys => .tup [x, y] :: zipL xs ys
  | _, _ => []
mutual
def bindT : Tg → D → Env → Option Env
  | .v i, d, ρ => if i < ρ.length then some (ρ.set i (some d)) else none
  | .t ts, .tup ds, ρ => bindTs ts ds ρ
  | .t _, _, _ => none
def bindTs : Tgs → List D → Env → Option Env
  | .nil, [], ρ => some ρ
  | .cons t r, d :: ds, ρ => (bindT t d ρ).bind fun ρ1 => bindTs r ds ρ1
  | _, _, _ => none
end
/-! places -/
def stepG : D → Nat → Option D
  | .lst l, j => l[j]?
  | .tup l, j => l[j]?
  | .dct _ vs, j => vs[j]?
  | _, _ => none
def getAt : D → List Nat → Option D
  | d, [] => some d
  | d, j :: r => (stepG d j).bind fun x => getAt x r
def stepS : D → Nat → D → D
  | .lst l, j, x => .lst (l.set j x)
  | .tup l, j, x => .tup (l.set j x)
  | .dct ks vs, j, x => .dct ks (vs.set j x)
  | d, _, _ => d
def setAt : D → List Nat → D → D
  | _, [], x => x
  | d, j :: r, x => match stepG d j with
    | some y => stepS d j (setAt y r x)
    | none => d
/-- the place of a key in a container -/
def posOf : D → D → Option Nat
  | .lst l, .int i => nIx l.length i
  | .tup l, .int i => nIx l.length i
  | .dct ks _, k => if isKey k then kIx k ks else none
  | _, _ => none
/-- container[k] = v -/
def putF : D → D → D → Option D
  | .lst l, .int i, v => (nIx l.length i).bind fun j => (l[j]?).bind fun old => some (.lst (l.set j v))
  | .dct ks vs, k, v => if isKey k && decide (ks.length < cap) then some (.dct (dput ks vs k v).1 (dput ks vs k v).2) else none
  | _, _, _ => none
def appF : D → D → Option D
  | .lst l, v => if l.length < cap then some (.lst (l ++ [v])) else none
  | _, _ => none
def extF : D → List D → Option D
  | .lst l, vs => if l.length + vs.length ≤ cap then some (.lst (l ++ vs)) else none
  | _, _ => none
def popF : D → Option (D × D)
  | .lst l => match l.getLast? with
    | some x => some (x, .lst l.dropLast)
    | none => none
  | _ => none

/-! ### loops -/
def compL (bind : D → Env → Option Env) (c : Env → R Bool) (e : Env → R D) : List D → Env → R (List D)
  | [], ρ => .ok [] ρ
  | x :: xs, ρ => (lift (bind x ρ) ρ).bd fun ρ0 _ => (c ρ0).bd fun b ρ1 =>
      if b = true then (e ρ1).bd fun y ρ2 => (compL bind c e xs ρ2).bd fun ys ρ3 => .ok (y :: ys) ρ3
      else compL bind c e xs ρ1
/-- nothing is raised out of a block -/
def calm {α : Type} : R α → R α
  | .ok a ρ => .ok a ρ
  | _ => .no
def forL (bind : D → Env → Option Env) (body : Env → R Out) (ks : List Nat) : List D → Env → R Out
  | [], ρ => .ok .nx ρ
  | x :: xs, ρ => (lift (bind x ρ) ρ).bd fun ρ0 _ => (body ρ0).bd fun o ρ1 => match o with
    | .nx => forL bind body ks xs (clr ρ1 ks)
    | .ct => forL bind body ks xs (clr ρ1 ks)
    | .bk => .ok .nx (clr ρ1 ks)
    | .rt d => .ok (.rt d) ρ1
def whL (c : Env → R Bool) (body : Env → R Out) (ks : List Nat) : Nat → Env → R Out
  | 0, _ => .no
  | n + 1, ρ => (c ρ).bd fun b ρ0 => if b = true then (body ρ0).bd fun o ρ1 => match o with
    | .nx => whL c body ks n (clr ρ1 ks)
    | .ct => whL c body ks n (clr ρ1 ks)
    | .bk => .ok .nx (clr ρ1 ks)
    | .rt d => .ok (.rt d) ρ1
    else .ok .nx (clr ρ0 ks)
def fuelW : Nat := 1000000

/-! ### calls -/
inductive Ag where
  | d (d : D) | r (i : Nat)
def takeA : List Ag → Env → Option (List D × Env)
  | [], ρ => some ([], ρ)
  | .d x :: r, ρ => (takeA r ρ).map fun p => (x :: p.1, p.2)
  | .r i :: r, ρ => (g ρ i).bind fun x => (takeA r (ρ.set i none)).map fun p => (x :: p.1, p.2)
def giveA : List Ag → Env → Env → Option Env
  | [], [], ρ => some ρ
  | .d _ :: r, _ :: ds, ρ => giveA r ds ρ
  | .r i :: r, some x :: ds, ρ => giveA r ds (ρ.set i (some x))
  | _, _, _ => none
def callR (Γ : Fns) (f : Nat) (as : List Ag) (ρ : Env) : R D := match takeA as ρ with
  | none => .no
  | some (ds, ρ1) => match Γ f ds with
    | .ok d refs => (match giveA as refs ρ1 with
      | some ρ2 => .ok d ρ2
      | none => .no)
    | .er x => .er x ρ1
    | .no => .no

/-! ### the evaluator -/
def litD : E → Option D
  | .int i => some (.int i)
  | .str l => some (.str l)
  | .bl b => some (.bl b)
  | .non => some .non
  | _ => none
/-- the first of each -/
def ddl (l : List (List Nat)) : List (List Nat) := l.foldl (fun acc k => if k ∈ acc then acc else acc ++ [k]) []
/-- len(set(..)) of a list of texts -/
def lsetF : D → Option D
  | .lst l => (dStrs l).bind fun ss => if ss.length ≤ 4000 then some (.int (ddl ss).length) else none
  | _ => none
/-- the keys of xs, each with v -/
def dcF (v : D) (xs : List D) : List D × List D := xs.foldl (fun p k => dput p.1 p.2 k v) ([], [])
def cIdx (c : Nat) : List Nat → Option Nat
  | [] => none
  | x :: xs => if x = c then some 0 else (cIdx c xs).map (· + 1)
def sidxF : D → D → Option D
  | .str t, .str [c] => (cIdx c t).map fun (k : Nat) => D.int (k : Int)
  | _, _ => none
section
variable (Γ : Fns)
mutual
def evE : E → Env → R D
  | .var i, ρ => lift (g ρ i) ρ
  | .mv i, ρ => (lift (g ρ i) ρ).bd fun d ρ => .ok d (ρ.set i none)
  | .int i, ρ => .ok (.int i) ρ
  | .str l, ρ => .ok (.str l) ρ
  | .bl b, ρ => .ok (.bl b) ρ
  | .non, ρ => .ok .non ρ
  | .neg a, ρ => (evE a ρ).bd fun x ρ => match x with
    | .int i => .ok (.int (-i)) ρ
    | _ => .no
  | .bin o a b, ρ => (evE a ρ).bd fun x ρ => (evE b ρ).bd fun y ρ => if safe (md a) (wrE b) x = true then lift (binF o x y) ρ else .no
  | .cmp o a b, ρ => (evE a ρ).bd fun x ρ => (evE b ρ).bd fun y ρ => if safe (md a) (wrE b) x = true then lift ((cmpF o x y).map D.bl) ρ else .no
  | .and a b, ρ => (evE a ρ).bd fun x ρ => match x with
    | .bl true => (evE b ρ).bd fun y ρ => match y with
      | .bl c => .ok (.bl c) ρ
      | _ => .no
    | .bl false => .ok (.bl false) ρ
    | _ => .no
  | .or a b, ρ => (evE a ρ).bd fun x ρ => match x with
    | .bl true => .ok (.bl true) ρ
    | .bl false => (evE b ρ).bd fun y ρ => match y with
      | .bl c => .ok (.bl c) ρ
      | _ => .no
    | _ => .no
  | .not a, ρ => (evE a ρ).bd fun x ρ => lift ((tru x).map fun b => D.bl (!b)) ρ
  | .ite c a b, ρ => (evE c ρ).bd fun x ρ => (lift (tru x) ρ).bd fun t ρ => if t = true then
      (evE a ρ).bd fun d ρ => if own (md a) d = true then .ok d ρ else .no
      else (evE b ρ).bd fun d ρ => if own (md b) d = true then .ok d ρ else .no
  | .tup es, ρ => (evEs es ρ).bd fun ds ρ => .ok (.tup ds) ρ
  | .lst es, ρ => (evEs es ρ).bd fun ds ρ => .ok (.lst ds) ρ
  | .dis kvs, ρ => (evEs kvs ρ).bd fun ds ρ => lift ((pairs2 [] [] ds).map fun p => D.dct p.1 p.2) ρ
  | .ix a i, ρ => (evE a ρ).bd fun x ρ => (evE i ρ).bd fun y ρ => if safe (md a) (wrE i) x = true then lift (ixF x y) ρ else .no
  | .sl a lo hi, ρ => (evE a ρ).bd fun x ρ => (evEo lo ρ).bd fun l ρ => (evEo hi ρ).bd fun h ρ => if safe (md a) (wrEo lo ++ wrEo hi) x = true then lift (slF x l h) ρ else .no
  | .rev a, ρ => (evE a ρ).bd fun x ρ => lift (revF x) ρ
  | .call f as, ρ => (evAs as ρ).bd fun xs ρ => callR Γ f xs ρ
  | .bi b a, ρ => (evE a ρ).bd fun x ρ => lift (biF b x) ρ
  | .bi2 b a a', ρ => (evE a ρ).bd fun x ρ => (evE a' ρ).bd fun y ρ => if pu x = true ∧ pu y = true then lift (bi2F b x y) ρ else .no
  | .join a b, ρ => (evE a ρ).bd fun x ρ => if isStr x = true then (evE b ρ).bd fun y ρ => lift (joinF x y) ρ else .no
  | .get a k b, ρ => (evE a ρ).bd fun x ρ => if isDct x = true then (evE k ρ).bd fun y ρ => (evE b ρ).bd fun z ρ => if safe (md a) (wrE k ++ wrE b) x = true ∧ pu y = true ∧ pu z = true then lift (getF x y z) ρ else .no else .no
  | .comp tg src c e, ρ => calm ((evSrc src ρ).bd fun xs ρ1 =>
      if safe (mdS src) (wrEo c ++ wrE e) (.lst xs) = true ∧ own (mdS src) (.tup xs) = true ∧ xs.length ≤ cap then
        (compL (fun x ρ => bindT tg x (clr ρ tg.slots)) (fun ρ => evC c ρ) (fun ρ => (evE e ρ).bd fun d ρ => if own (md e) d = true then .ok d ρ else .no) xs ρ1).bd
          fun ys ρ2 => .ok (.lst ys) (bck ρ1 ρ2 tg.slots)
      else .no)
  | .pop p, ρ => (evP p ρ).bd fun js ρ => lift ((g ρ p.root).bind fun d => (getAt d js).bind fun x => (popF x).map fun q => (q.1, ρ.set p.root (some (setAt d js q.2)))) ρ |>.bd fun q _ => .ok q.1 q.2
  | .bi3 b a a' a'', ρ => (evE a ρ).bd fun x ρ => (evE a' ρ).bd fun y ρ => (evE a'' ρ).bd fun z ρ => lift (bi3F b x y z) ρ
  | .lcp a, ρ => (evE a ρ).bd fun x ρ => match x with
    | .lst l => if (md a).isNone = true then .ok (.lst l) ρ else .no
    | _ => .no
  | .cmp2 o p a b c, ρ => (evE a ρ).bd fun x ρ => (evE b ρ).bd fun y ρ => if pu x = true ∧ pu y = true then (lift (cmpF o x y) ρ).bd fun t ρ => if t = true then (evE c ρ).bd fun z ρ => if pu z = true then lift ((cmpF p y z).map D.bl) ρ else .no else .ok (.bl false) ρ else .no
  | .tr1 t a, ρ => (evE a ρ).bd fun x ρ => match x with
    | .int j => if j ≤ 1000000 ∧ -1000000 ≤ j then .ok (if t = true then .tup (rngL 0 1 j.toNat) else .lst (rngL 0 1 j.toNat)) ρ else .no
    | _ => .no
  | .tr2 t a b, ρ => (evE a ρ).bd fun x ρ => (evE b ρ).bd fun y ρ => match x, y with
    | .int i, .int j => if i ≤ 1000000 ∧ j ≤ 1000000 ∧ -1000000 ≤ i ∧ -1000000 ≤ j then .ok (if t = true then .tup (rngL i 1 (j - i).toNat) else .lst (rngL i 1 (j - i).toNat)) ρ else .no
    | _, _ => .no
  | .lset a, ρ => (evE a ρ).bd fun x ρ => lift (lsetF x) ρ
  | .dcl i a v, ρ => ((evE a ρ).bd fun x ρ => lift (items x) ρ).bd fun xs ρ => if xs.all isKey = true ∧ xs.length ≤ cap ∧ i < ρ.length then lift ((litD v).map fun d => D.dct (dcF d xs).1 (dcF d xs).2) ρ else .no
  | .sidx a b, ρ => (evE a ρ).bd fun x ρ => if isStr x = true then (evE b ρ).bd fun y ρ => lift (sidxF x y) ρ else .no
def evEs : Es → Env → R (List D)
  | .nil, ρ => .ok [] ρ
  | .cons e r, ρ => (evE e ρ).bd fun d ρ => if own (md e) d = true then (evEs r ρ).bd fun ds ρ => .ok (d :: ds) ρ else .no
/-- a slice's bound -/
def evEo : Eo → Env → R (Option Int)
  | .non, ρ => .ok none ρ
  | .som e, ρ => (evE e ρ).bd fun d ρ => match d with
    | .int i => .ok (some i) ρ
    | _ => .no
/-- a comprehension's test -/
def evC : Eo → Env → R Bool
  | .non, ρ => .ok true ρ
  | .som e, ρ => (evE e ρ).bd fun d ρ => lift (tru d) ρ
def evAs : As → Env → R (List Ag)
  | .nil, ρ => .ok [] ρ
  | .val e r, ρ => (evE e ρ).bd fun d ρ => if own (md e) d = true then (evAs r ρ).bd fun ds ρ => .ok (.d d :: ds) ρ else .no
  | .ref i r, ρ => (lift (g ρ i) ρ).bd fun _ ρ => (evAs r ρ).bd fun ds ρ => .ok (.r i :: ds) ρ
def evSrc : Src → Env → R (List D)
  | .e a, ρ => (evE a ρ).bd fun x ρ => lift (items x) ρ
  | .r1 a, ρ => (evE a ρ).bd fun x ρ => match x with
    | .int j => if -1000000 ≤ j ∧ j ≤ 1000000 then .ok (rngL 0 1 j.toNat) ρ else .no
    | _ => .no
  | .r2 a b, ρ => (evE a ρ).bd fun x ρ => (evE b ρ).bd fun y ρ => match x, y with
    | .int i, .int j => if decide (i ≤ 1000000) && decide (j ≤ 1000000) && decide (-1000000 ≤ i) && decide (-1000000 ≤ j) then .ok (rngL i 1 (j - i).toNat) ρ else .no
    | _, _ => .no
  | .r3 a b c, ρ => (evE a ρ).bd fun x ρ => (evE b ρ).bd fun y ρ => match x, y with
    | .int i, .int j => if decide (-1000000 ≤ i) && decide (i ≤ 1000000) && decide (-1000000 ≤ j) && decide (j ≤ 1000000) && decide (c = -1) then .ok (rngL i (-1) (i - j).toNat) ρ else .no
    | _, _ => .no
  | .enum a, ρ => (evE a ρ).bd fun x ρ => (lift (items x) ρ).bd fun xs ρ => if xs.length ≤ cap then .ok (enumL 0 xs) ρ else .no
  | .zip a b, ρ => (evE a ρ).bd fun x ρ => (evE b ρ).bd fun y ρ => (lift (seqOf x) ρ).bd fun xs ρ => (lift (seqOf y) ρ).bd fun ys ρ => if puL xs = true ∧ puL ys = true then .ok (zipL xs ys) ρ else .no
/-- the way to a place, from its root -/
def evP : P → Env → R (List Nat)
  | .v i, ρ => (lift (g ρ i) ρ).bd fun _ ρ => .ok [] ρ
  | .ix p e, ρ => (evP p ρ).bd fun js ρ => (evE e ρ).bd fun k ρ => if (wrE e).contains p.root then .no else
      lift ((g ρ p.root).bind fun d => (getAt d js).bind fun x => (posOf x k).bind fun j => (stepG x j).bind fun _ => some (js ++ [j])) ρ
end
/-- a list stands there -/
def isLst (ρ : Env) (p : P) (js : List Nat) : Bool := match (g ρ p.root).bind fun d => getAt d js with
  | some (.lst _) => true
  | _ => false
/-- a change at a place -/
def atP (p : P) (js : List Nat) (ρ : Env) (f : D → Option D) : R Out :=
  lift ((g ρ p.root).bind fun d => (getAt d js).bind fun x => (f x).map fun x' => ρ.set p.root (some (setAt d js x'))) ρ |>.bd fun ρ' _ => .ok .nx ρ'
def hdF : Hd → Ex → Option D
  | .lit e, _ => litD e
  | .code, ⟨_, [d]⟩ => some d
  | .code, _ => none
def mkX (c : Nat) : Option (List Nat) → Ex
  | none => ⟨c, []⟩
  | some l => ⟨c, [.str l]⟩
/-- return in an except clause -/
def hdR (h : Hd) (x : Ex) (ρ : Env) : R Out := (lift (hdF h x) ρ).bd fun d ρ => .ok (.rt d) ρ
mutual
def evS : S → Env → R Out
  | .set i e, ρ => (evE Γ e ρ).bd fun d ρ => if own (md e) d = true ∧ i < ρ.length then .ok .nx (ρ.set i (some d)) else .no
  | .tset ts e, ρ => (evE Γ e ρ).bd fun d ρ => if own (md e) d = true then (match d with
      | .tup ds => (lift (bindTs ts ds ρ) ρ).bd fun ρ' _ => .ok .nx ρ'
      | _ => .no) else .no
  | .aug i o e, ρ => (lift (g ρ i) ρ).bd fun x ρ => (evE Γ e ρ).bd fun y ρ => if (wrE e).contains i = true then .no else if iaug o x y = true then (lift (binF o x y) ρ).bd fun z ρ => .ok .nx (ρ.set i (some z)) else .no
  | .put p k e, ρ => (evE Γ e ρ).bd fun v ρ => if own (md e) v = true then (evP Γ p ρ).bd fun js ρ => (evE Γ k ρ).bd fun kd ρ => if (wrE k).contains p.root = true then .no else atP p js ρ fun x => putF x kd v else .no
  | .app p e, ρ => (evP Γ p ρ).bd fun js ρ => if isLst ρ p js then (evE Γ e ρ).bd fun v ρ => if own (md e) v = true ∧ (wrE e).contains p.root = false then atP p js ρ fun x => appF x v else .no else .no
  | .ext p e, ρ => (evP Γ p ρ).bd fun js ρ => if isLst ρ p js then (evE Γ e ρ).bd fun v ρ => if own (md e) v = true ∧ (wrE e).contains p.root = false then (match v with
      | .lst vs => atP p js ρ fun x => extF x vs
      | _ => .no) else .no else .no
  | .ex e, ρ => (evE Γ e ρ).bd fun _ ρ => .ok .nx ρ
  | .ret e, ρ => (evE Γ e ρ).bd fun d ρ => if own (md e) d = true then .ok (.rt d) ρ else .no
  | .retN, ρ => .ok (.rt .non) ρ
  | .ite c a b, ρ => (evE Γ c ρ).bd fun x ρ => (lift (tru x) ρ).bd fun t ρ => if t = true then evSs a ρ else evSs b ρ
  | .for tg src b ks, ρ => (evSrc Γ src ρ).bd fun xs ρ =>
      if safe (mdS src) (wrSs b ++ tg.slots ++ ks) (.lst xs) = true ∧ own (mdS src) (.tup xs) = true then forL (bindT tg) (fun ρ => evSs b ρ) ks xs (clr ρ ks) else .no
  | .wh c b ks, ρ => whL (fun ρ => (evE Γ c ρ).bd fun x ρ => lift (tru x) ρ) (fun ρ => evSs b ρ) ks fuelW (clr ρ ks)
  | .brk, ρ => .ok .bk ρ
  | .cnt, ρ => .ok .ct ρ
  | .pass, ρ => .ok .nx ρ
  | .rai c m, ρ => .er (mkX c m) ρ
  | .tryR b c h, ρ => match evSs b ρ with
    | .er x ρ' => if x.cls = c then hdR h x ρ' else .er x ρ'
    | .ok o ρ' => .ok o ρ'
    | .no => .no
def evSs : Ss → Env → R Out
  | .nil, ρ => .ok .nx ρ
  | .cons s r, ρ => (evS s ρ).bd fun o ρ => match o with
    | .nx => evSs r ρ
    | o => .ok o ρ
  | .kill ks r, ρ => evSs r (clr ρ ks)
end
end

/-- a def: how many slots, how many parameters, which of them are lent, its body -/
structure Fn where
  size : Nat
  pars : Nat
  refs : List Nat
  body : Ss
/-- what is handed back: the parameters of rs alone -/
def keepR (rs : List Nat) : Nat → Env → Env
  | _, [] => []
  | i, o :: r => (if rs.contains i then o else none) :: keepR rs (i + 1) r
def fin (F : Fn) (d : D) (ρ : Env) : FR := .ok d (keepR F.refs 0 (ρ.take F.pars))
def runF (Γ : Fns) (F : Fn) (ds : List D) : FR :=
  if ds.length = F.pars then (match evSs Γ F.body (ds.map some ++ List.replicate (F.size - F.pars) none) with
    | .ok (.rt d) ρ => fin F d ρ
    | .ok .nx ρ => fin F .non ρ
    | .ok _ _ => .no
    | .er x _ => .er x
    | .no => .no)
  else .no
/-- calls of at most n levels -/
def fns (T : List Fn) : Nat → Fns
  | 0 => fun _ _ => .no
  | n + 1 => fun f ds => match T[f]? with
    | some F => runF (fns T n) F ds
    | none => .no
end G

/-! G2: how data stand in the abstract heap; the readings -/
namespace G
open PySem PySem.Spec PyProof.Rows L2

/-! ### data in the heap -/
def okS (l : List Nat) : Prop := ∀ c ∈ l, c < 1114112
def mkS (l : List Nat) : Str := ⟨l.toArray⟩
theorem mkS_list (x : Str) : mkS x.cps.toList = x := by cases x; simp [mkS]
theorem mkS_cps (l : List Nat) : (mkS l).cps.toList = l := by simp [mkS]
theorem mkS_len (l : List Nat) : (mkS l).length = l.length := by simp [mkS, Str.length]
theorem mkS_inj {a b : List Nat} (h : mkS a = mkS b) : a = b := by
  have := congrArg (fun x => x.cps.toList) h
  simpa [mkS] using this
def keyD : Key → D
  | .inl i => .int i
  | .inr x => .str x.cps.toList
def okKey : Key → Prop
  | .inl _ => True
  | .inr x => okS x.cps.toList
def MutO (o : Option HO) : Prop := (∃ xs, o = some (.lst xs)) ∨ (∃ kvs, o = some (.dK kvs)) ∨ ∃ kvs, o = some (.dT kvs)
/-- a dict's keys -/
def KeysAt (H : Hp) (a : Addr) (ks : List D) (vs : List V) : Prop :=
  ∃ kvs : List (Key × V), H a = some (.dK kvs) ∧ ks = kvs.map (fun p => keyD p.1) ∧ vs = kvs.map (·.2) ∧ ∀ p ∈ kvs, okKey p.1

/-- a list that nobody changes: locked, or of the written part -/
def SqF (K : PySem.W.Frag) (H : Hp) (a : Addr) (xs : List V) : Prop := (∃ o, H a = some (.frz o (.lst xs))) ∨
  ∃ (o : Obj) (its : Array Value) (n : Nat), K.lookup a = some o ∧ o.cls = .type "list" ∧ o.dict = none ∧ o.data = .seq its n ∧ its.size ≤ sizeLine ∧ Vals xs its.toList
theorem SqF.l {K : PySem.W.Frag} {H : Hp} {a : Addr} {xs : List V} (h : SqF K H a xs) : SqL K H a xs := by
  rcases h with ⟨o, h⟩ | h
  · exact .inl (.inr ⟨o, h⟩)
  · exact .inr h
section
variable (K : PySem.W.Frag) (H : Hp)
mutual
/-- d is v at H; W: the objects in it that can be changed, in their order -/
def Rp : D → V → List Addr → Prop
  | .non, v, W => v = .non ∧ W = []
  | .bl b, v, W => v = .bl b ∧ W = []
  | .int i, v, W => v = .int i ∧ W = []
  | .str l, v, W => v = .str (mkS l) ∧ W = [] ∧ okS l
  | .tup ds, v, W => ∃ a vs, v = .ref a ∧ SqT K H a vs ∧ Rps ds vs W
  | .lst ds, v, W => ∃ a vs W', v = .ref a ∧ H a = some (.lst vs) ∧ Rps ds vs W' ∧ W = a :: W'
  | .fls ds, v, W => ∃ a vs, v = .ref a ∧ SqF K H a vs ∧ Rps ds vs W
  | .dct ks ds, v, W => ∃ a vs W', v = .ref a ∧ KeysAt H a ks vs ∧ Rps ds vs W' ∧ W = a :: W'
def Rps : List D → List V → List Addr → Prop
  | [], vs, W => vs = [] ∧ W = []
  | d :: ds, vs, W => ∃ v r W1 W2, vs = v :: r ∧ Rp d v W1 ∧ Rps ds r W2 ∧ W = W1 ++ W2
end
end

section
variable {K : PySem.W.Frag} {H H' : Hp}
theorem Rps.nil : Rps K H [] [] [] := ⟨rfl, rfl⟩
theorem Rps.cons {d : D} {ds : List D} {v : V} {vs : List V} {W W' : List Addr} (h : Rp K H d v W) (t : Rps K H ds vs W') : Rps K H (d :: ds) (v :: vs) (W ++ W') := ⟨v, vs, W, W', rfl, h, t, rfl⟩
theorem Rps.length : ∀ {ds : List D} {vs : List V} {W : List Addr}, Rps K H ds vs W → vs.length = ds.length
  | [], _, _, h => by rw [h.1]; rfl
  | d :: ds, _, _, ⟨v, r, W1, W2, e, _, t, _⟩ => by rw [e, List.length_cons, List.length_cons, t.length]
theorem Rps.get : ∀ {ds : List D} {vs : List V} {W : List Addr} {i : Nat} {d : D}, Rps K H ds vs W → ds[i]? = some d → ∃ v W', vs[i]? = some v ∧ Rp K H d v W' ∧ ∀ a ∈ W', a ∈ W
  | [], _, _, i, d, _, e => by simp at e
  | d :: ds, _, _, 0, d', ⟨v, r, W1, W2, e, h, t, eW⟩, q => by
    simp at q; subst q
    exact ⟨v, W1, by rw [e]; rfl, h, fun a ha => by rw [eW]; exact List.mem_append_left _ ha⟩
  | d :: ds, _, _, i + 1, d', ⟨v, r, W1, W2, e, h, t, eW⟩, q => by
    obtain ⟨v', W', e1, e2, e3⟩ := t.get (i := i) (d := d') (by simpa using q)
    exact ⟨v', W', by rw [e]; simpa using e1, e2, fun a ha => by rw [eW]; exact List.mem_append_right _ (e3 a ha)⟩
theorem Rps.append : ∀ {ds es : List D} {vs us : List V} {W W' : List Addr}, Rps K H ds vs W → Rps K H es us W' → Rps K H (ds ++ es) (vs ++ us) (W ++ W')
  | [], _, _, _, _, _, h, t => by rw [h.1, h.2]; exact t
  | d :: ds, _, _, _, _, _, ⟨v, r, W1, W2, e, h, q, eW⟩, t => by
    subst e eW
    rw [List.append_assoc]
    exact ⟨v, _, W1, _, rfl, h, q.append t, rfl⟩
mutual
theorem Rp.mut : ∀ (d : D) {v : V} {W : List Addr}, Rp K H d v W → ∀ a ∈ W, MutO (H a)
  | .non, _, _, h, a, ha => by rw [h.2] at ha; cases ha
  | .bl _, _, _, h, a, ha => by rw [h.2] at ha; cases ha
  | .int _, _, _, h, a, ha => by rw [h.2] at ha; cases ha
  | .str _, _, _, h, a, ha => by rw [h.2.1] at ha; cases ha
  | .tup ds, _, _, ⟨_, _, _, _, h⟩, a, ha => Rps.mut ds h a ha
  | .fls ds, _, _, ⟨_, _, _, _, h⟩, a, ha => Rps.mut ds h a ha
  | .lst ds, _, _, ⟨b, vs, W', _, e, h, eW⟩, a, ha => by
    rw [eW] at ha
    rcases List.mem_cons.mp ha with z | z
    · rw [z]; exact .inl ⟨_, e⟩
    · exact Rps.mut ds h a z
  | .dct ks ds, _, _, ⟨b, vs, W', _, e, h, eW⟩, a, ha => by
    rw [eW] at ha
    rcases List.mem_cons.mp ha with z | z
    · rw [z]
      obtain ⟨kvs, e, _⟩ := e
      exact .inr (.inl ⟨_, e⟩)
    · exact Rps.mut ds h a z
theorem Rps.mut : ∀ (ds : List D) {vs : List V} {W : List Addr}, Rps K H ds vs W → ∀ a ∈ W, MutO (H a)
  | [], _, _, h, a, ha => by rw [h.2] at ha; cases ha
  | d :: ds, _, _, ⟨v, r, W1, W2, _, h1, h2, eW⟩, a, ha => by
    rw [eW] at ha
    rcases List.mem_append.mp ha with z | z
    · exact Rp.mut d h1 a z
    · exact Rps.mut ds h2 a z
end
/-- objects but those in M are kept; in M there is nothing that can't be changed -/
structure Keep (M : Addr → Prop) (H H' : Hp) : Prop where
  kp : ∀ a o, H a = some o → ¬ M a → H' a = some o
  mu : ∀ a, M a → MutO (H a)
theorem notMut_tup {xs : List V} : ¬ MutO (some (.tup xs)) := by rintro (⟨_, e⟩ | ⟨_, e⟩ | ⟨_, e⟩) <;> cases e
theorem notMut_frz {o : Obj} {u : HO} : ¬ MutO (some (.frz o u)) := by rintro (⟨_, e⟩ | ⟨_, e⟩ | ⟨_, e⟩) <;> cases e
theorem notMut_none : ¬ MutO none := by rintro (⟨_, e⟩ | ⟨_, e⟩ | ⟨_, e⟩) <;> cases e
theorem Keep.sqT {M : Addr → Prop} (k : Keep M H H') {a : Addr} {xs : List V} (h : SqT K H a xs) : SqT K H' a xs := by
  rcases h with (h | ⟨o, h⟩) | h
  · exact .inl (.inl (k.kp _ _ h fun z => notMut_tup (by have := k.mu _ z; rw [h] at this; exact this)))
  · exact .inl (.inr ⟨o, k.kp _ _ h fun z => notMut_frz (by have := k.mu _ z; rw [h] at this; exact this)⟩)
  · exact .inr h
mutual
theorem Rp.keep {M : Addr → Prop} (k : Keep M H H') : ∀ (d : D) {v : V} {W : List Addr}, Rp K H d v W → (∀ a ∈ W, ¬ M a) → Rp K H' d v W
  | .non, _, _, h, _ => h
  | .bl _, _, _, h, _ => h
  | .int _, _, _, h, _ => h
  | .str _, _, _, h, _ => h
  | .tup ds, _, _, ⟨a, vs, e, s, h⟩, w => ⟨a, vs, e, k.sqT s, Rps.keep k ds h w⟩
  | .fls ds, _, _, ⟨a, vs, e, s, h⟩, w => ⟨a, vs, e, s.elim (fun ⟨o, z⟩ => .inl ⟨o, k.kp _ _ z fun q => notMut_frz (by have := k.mu _ q; rw [z] at this; exact this)⟩) .inr, Rps.keep k ds h w⟩
  | .lst ds, _, _, ⟨a, vs, W', e, s, h, eW⟩, w => ⟨a, vs, W', e, k.kp a _ s (w a (by rw [eW]; exact List.mem_cons_self)), Rps.keep k ds h fun b hb => w b (by rw [eW]; exact List.mem_cons_of_mem _ hb), eW⟩
  | .dct ks ds, _, _, ⟨a, vs, W', e, s, h, eW⟩, w => by
    refine ⟨a, vs, W', e, ?_, Rps.keep k ds h fun b hb => w b (by rw [eW]; exact List.mem_cons_of_mem _ hb), eW⟩
    have na := w a (by rw [eW]; exact List.mem_cons_self)
    obtain ⟨kvs, s, r⟩ := s
    exact ⟨kvs, k.kp a _ s na, r⟩
theorem Rps.keep {M : Addr → Prop} (k : Keep M H H') : ∀ (ds : List D) {vs : List V} {W : List Addr}, Rps K H ds vs W → (∀ a ∈ W, ¬ M a) → Rps K H' ds vs W
  | [], _, _, h, _ => h
  | d :: ds, _, _, ⟨v, r, W1, W2, e, h1, h2, eW⟩, w => ⟨v, r, W1, W2, e, Rp.keep k d h1 fun a ha => w a (by rw [eW]; exact List.mem_append_left _ ha), Rps.keep k ds h2 fun a ha => w a (by rw [eW]; exact List.mem_append_right _ ha), eW⟩
end
end

theorem Rp.pu_nil : ∀ (d : D), pu d = true → ∀ {K : PySem.W.Frag} {H : Hp} {v : V} {W : List Addr}, Rp K H d v W → W = []
  | .non, _, _, _, _, _, h => h.2
  | .bl _, _, _, _, _, _, h => h.2
  | .int _, _, _, _, _, _, h => h.2
  | .str _, _, _, _, _, _, h => h.2.1
  | .tup ds, p, _, _, _, _, ⟨_, _, _, _, h⟩ => go ds (by simpa [pu] using p) h
  | .fls ds, p, _, _, _, _, ⟨_, _, _, _, h⟩ => go ds (by simpa [pu] using p) h
  | .lst ds, p, _, _, _, _, _ => by simp [pu] at p
  | .dct _ _, p, _, _, _, _, _ => by simp [pu] at p
where go : ∀ (ds : List D), puL ds = true → ∀ {K : PySem.W.Frag} {H : Hp} {vs : List V} {W : List Addr}, Rps K H ds vs W → W = []
  | [], _, _, _, _, _, h => h.2
  | d :: ds, p, _, _, _, _, ⟨v, r, W1, W2, _, h1, h2, eW⟩ => by
    simp only [puL, Bool.and_eq_true] at p
    rw [eW, Rp.pu_nil d p.1 h1, go ds p.2 h2]; rfl
theorem Rps.pu_nil {ds : List D} (p : puL ds = true) {K : PySem.W.Frag} {H : Hp} {vs : List V} {W : List Addr} (h : Rps K H ds vs W) : W = [] := Rp.pu_nil.go ds p h

/-! ### states -/
abbrev Sg := L2.St
abbrev WsT := Nat → List Addr
def gV (σ : Sg) (i : Nat) : Option V := (σ[i]?).join
def setW (Ws : WsT) (i : Nat) (W : List Addr) : WsT := fun j => if j = i then W else Ws j
theorem setW_same {Ws : WsT} {i : Nat} {W : List Addr} : setW Ws i W i = W := by simp [setW]
theorem setW_ne {Ws : WsT} {i j : Nat} {W : List Addr} (h : j ≠ i) : setW Ws i W j = Ws j := by simp [setW, h]
theorem g_set_same {ρ : Env} {i : Nat} {o : Option D} (h : i < ρ.length) : g (ρ.set i o) i = o := by simp [g, h]
theorem g_set_ne {ρ : Env} {i j : Nat} {o : Option D} (h : j ≠ i) : g (ρ.set i o) j = g ρ j := by simp [g, List.getElem?_set, Ne.symm h]
theorem gV_set_same {σ : Sg} {i : Nat} {o : Option V} (h : i < σ.length) : gV (σ.set i o) i = o := by simp [gV, h]
theorem gV_set_ne {σ : Sg} {i j : Nat} {o : Option V} (h : j ≠ i) : gV (σ.set i o) j = gV σ j := by simp [gV, List.getElem?_set, Ne.symm h]
theorem g_lt {ρ : Env} {i : Nat} {d : D} (h : g ρ i = some d) : i < ρ.length := by
  by_cases z : i < ρ.length
  · exact z
  · simp [g, List.getElem?_eq_none (Nat.le_of_not_lt z)] at h
theorem gV_some {σ : Sg} {i : Nat} {v : V} (h : gV σ i = some v) : σ[i]? = some (some v) := by
  unfold gV at h
  cases e : σ[i]? with
  | none => rw [e] at h; cases h
  | some o => rw [e] at h; cases o with
    | none => cases h
    | some u => cases h; rfl

structure EnvOk (K : PySem.W.Frag) (H : Hp) (σ : Sg) (ρ : Env) (Ws : WsT) : Prop where
  len : σ.length = ρ.length
  slot : ∀ i d, g ρ i = some d → ∃ v, gV σ i = some v ∧ Rp K H d v (Ws i)
  non : ∀ i, g ρ i = none → Ws i = []
  nd : ∀ i, (Ws i).Nodup
  dj : ∀ i j a, a ∈ Ws i → a ∈ Ws j → i = j
section
variable {K : PySem.W.Frag} {H H' H1 H2 : Hp} {σ : Sg} {ρ : Env} {Ws Ws' Ws1 Ws2 : WsT}
theorem EnvOk.mut (e : EnvOk K H σ ρ Ws) {i : Nat} {a : Addr} (h : a ∈ Ws i) : MutO (H a) := by
  cases q : g ρ i with
  | none => rw [e.non i q] at h; cases h
  | some d => obtain ⟨v, _, r⟩ := e.slot i d q; exact Rp.mut d r a h
theorem EnvOk.keep (e : EnvOk K H σ ρ Ws) {M : Addr → Prop} (k : Keep M H H') (w : ∀ i, ∀ a ∈ Ws i, ¬ M a) : EnvOk K H' σ ρ Ws :=
  ⟨e.len, fun i d q => let ⟨v, h1, h2⟩ := e.slot i d q; ⟨v, h1, h2.keep k d (w i)⟩, e.non, e.nd, e.dj⟩
theorem EnvOk.set (e : EnvOk K H σ ρ Ws) {i : Nat} {d : D} {v : V} {W : List Addr} (hi : i < ρ.length) (r : Rp K H d v W) (nd : W.Nodup) (dj : ∀ a ∈ W, ∀ j, j ≠ i → a ∉ Ws j) :
    EnvOk K H (σ.set i (some v)) (ρ.set i (some d)) (setW Ws i W) := by
  refine ⟨by simp [e.len], fun j d' q => ?_, fun j q => ?_, fun j => ?_, fun j k a h1 h2 => ?_⟩
  · by_cases z : j = i
    · subst z
      rw [g_set_same hi] at q; cases q
      exact ⟨v, gV_set_same (by rw [e.len]; exact hi), by rw [setW_same]; exact r⟩
    · rw [g_set_ne z] at q
      obtain ⟨u, h1, h2⟩ := e.slot j d' q
      exact ⟨u, by rw [gV_set_ne z]; exact h1, by rw [setW_ne z]; exact h2⟩
  · by_cases z : j = i
    · subst z; rw [g_set_same hi] at q; cases q
    · rw [g_set_ne z] at q; rw [setW_ne z]; exact e.non j q
  · by_cases z : j = i
    · subst z; rw [setW_same]; exact nd
    · rw [setW_ne z]; exact e.nd j
  · by_cases z : j = i
    · subst z
      rw [setW_same] at h1
      by_cases y : k = j
      · exact y.symm
      · rw [setW_ne y] at h2; exact absurd h2 (dj a h1 k y)
    · rw [setW_ne z] at h1
      by_cases y : k = i
      · subst y; rw [setW_same] at h2; exact absurd h1 (dj a h2 j z)
      · rw [setW_ne y] at h2; exact e.dj j k a h1 h2
/-- a slot's content changed in place (the slot's value is as it was) -/
theorem EnvOk.put (e : EnvOk K H σ ρ Ws) {i : Nat} {d : D} {v : V} {W : List Addr} (hi : i < ρ.length) (hv : gV σ i = some v) (r : Rp K H d v W) (nd : W.Nodup) (dj : ∀ a ∈ W, ∀ j, j ≠ i → a ∉ Ws j) :
    EnvOk K H σ (ρ.set i (some d)) (setW Ws i W) := by
  have q := e.set hi r nd dj
  have s : σ.set i (some v) = σ := by
    have := gV_some hv
    apply List.ext_getElem?
    intro j
    by_cases z : j = i
    · subst z; rw [List.getElem?_set_self (by rw [e.len]; exact hi), this]
    · rw [List.getElem?_set_ne (Ne.symm z)]
  rw [s] at q; exact q
theorem EnvOk.kill (e : EnvOk K H σ ρ Ws) (i : Nat) : EnvOk K H σ (ρ.set i none) (setW Ws i []) := by
  have gn : ∀ j, g (ρ.set i none) j = if j = i then none else g ρ j := fun j => by
    by_cases z : j = i
    · subst z
      rw [if_pos rfl]
      by_cases hi : j < ρ.length
      · exact g_set_same hi
      · unfold g; rw [List.getElem?_eq_none (by rw [List.length_set]; exact Nat.le_of_not_lt hi)]; rfl
    · rw [if_neg z, g_set_ne z]
  refine ⟨by simp [e.len], fun j d' q => ?_, fun j q => ?_, fun j => ?_, fun j k a h1 h2 => ?_⟩
  · rw [gn] at q
    by_cases z : j = i
    · rw [if_pos z] at q; cases q
    · rw [if_neg z] at q
      obtain ⟨u, h1, h2⟩ := e.slot j d' q
      exact ⟨u, h1, by rw [setW_ne z]; exact h2⟩
  · rw [gn] at q
    by_cases z : j = i
    · subst z; rw [setW_same]
    · rw [if_neg z] at q; rw [setW_ne z]; exact e.non j q
  · by_cases z : j = i
    · subst z; rw [setW_same]; exact List.nodup_nil
    · rw [setW_ne z]; exact e.nd j
  · by_cases z : j = i
    · subst z; rw [setW_same] at h1; cases h1
    · rw [setW_ne z] at h1
      by_cases y : k = i
      · subst y; rw [setW_same] at h2; cases h2
      · rw [setW_ne y] at h2; exact e.dj j k a h1 h2

/-- what happened: only the slots of wr, and new objects -/
structure Go (wr : List Nat) (Ws : WsT) (H : Hp) (Ws' : WsT) (H' : Hp) : Prop where
  fr : ∀ a o, H a = some o → (∀ i ∈ wr, a ∉ Ws i) → H' a = some o
  sub : ∀ i a, i ∈ wr → a ∈ Ws' i → (∃ j ∈ wr, a ∈ Ws j) ∨ H a = none
  eq : ∀ i, i ∉ wr → Ws' i = Ws i
theorem Go.refl {wr : List Nat} : Go wr Ws H Ws H := ⟨fun _ _ h _ => h, fun i a h1 h2 => .inl ⟨i, h1, h2⟩, fun _ _ => rfl⟩
theorem Go.mono {wr wr' : List Nat} (x : Go wr Ws H Ws' H') (h : ∀ i ∈ wr, i ∈ wr') : Go wr' Ws H Ws' H' :=
  ⟨fun a o e n => x.fr a o e fun i hi => n i (h i hi), fun i a h1 h2 => by
    by_cases z : i ∈ wr
    · rcases x.sub i a z h2 with ⟨j, hj, q⟩ | q
      · exact .inl ⟨j, h j hj, q⟩
      · exact .inr q
    · rw [x.eq i z] at h2; exact .inl ⟨i, h1, h2⟩, fun i hi => x.eq i fun z => hi (h i z)⟩
theorem Go.tr {wr : List Nat} (x : Go wr Ws H Ws1 H1) (y : Go wr Ws1 H1 Ws2 H2) : Go wr Ws H Ws2 H2 := by
  refine ⟨fun a o e n => y.fr a o (x.fr a o e n) fun i hi q => ?_, fun i a hi h => ?_, fun i hi => (y.eq i hi).trans (x.eq i hi)⟩
  · rcases x.sub i a hi q with ⟨j, hj, z⟩ | z
    · exact n j hj z
    · rw [e] at z; cases z
  · rcases y.sub i a hi h with ⟨j, hj, z⟩ | z
    · exact x.sub j a hj z
    · by_cases w : ∃ j ∈ wr, a ∈ Ws j
      · exact .inl w
      · refine .inr ?_
        cases q : H a with
        | none => rfl
        | some o => rw [x.fr a o q fun i hi r => w ⟨i, hi, r⟩] at z; cases z
theorem Go.tr2 {w1 w2 wr : List Nat} (x : Go w1 Ws H Ws1 H1) (y : Go w2 Ws1 H1 Ws2 H2) (h1 : ∀ i ∈ w1, i ∈ wr) (h2 : ∀ i ∈ w2, i ∈ wr) : Go wr Ws H Ws2 H2 := (x.mono h1).tr (y.mono h2)
/-- nothing but new objects -/
theorem Go.same {wr : List Nat} (h : Same H H') : Go wr Ws H Ws H' := ⟨fun a o e _ => h a o e, fun i a h1 h2 => .inl ⟨i, h1, h2⟩, fun _ _ => rfl⟩
theorem Keep.same (h : Same H H') : Keep (fun _ => False) H H' := ⟨fun a o e _ => h a o e, fun _ z => z.elim⟩
theorem EnvOk.same (e : EnvOk K H σ ρ Ws) (h : Same H H') : EnvOk K H' σ ρ Ws := e.keep (Keep.same h) fun _ _ _ z => z
theorem Rp.same {d : D} {v : V} {W : List Addr} (r : Rp K H d v W) (h : Same H H') : Rp K H' d v W := r.keep (Keep.same h) d fun _ _ z => z
theorem Rps.same {d : List D} {v : List V} {W : List Addr} (r : Rps K H d v W) (h : Same H H') : Rps K H' d v W := r.keep (Keep.same h) d fun _ _ z => z
theorem Go.keep {wr : List Nat} (x : Go wr Ws H Ws' H') (e : EnvOk K H σ ρ Ws) : Keep (fun a => ∃ i ∈ wr, a ∈ Ws i) H H' :=
  ⟨fun a o q n => x.fr a o q fun i hi z => n ⟨i, hi, z⟩, fun a ⟨i, _, z⟩ => e.mut z⟩

/-- the value's objects: its own, or a part of slot m's -/
def Kd (m : Option Nat) (wr : List Nat) (Ws : WsT) (H : Hp) (Ws' : WsT) (W : List Addr) : Prop := match m with
  | none => W.Nodup ∧ ∀ a ∈ W, (∀ i, a ∉ Ws' i) ∧ ((∃ j ∈ wr, a ∈ Ws j) ∨ H a = none)
  | some i => W.Nodup ∧ ∀ a ∈ W, a ∈ Ws' i
theorem Kd.nil {m : Option Nat} {wr : List Nat} : Kd m wr Ws H Ws' [] := by
  cases m <;> exact And.intro List.nodup_nil (fun a h => absurd h List.not_mem_nil)
theorem Kd.nd {m : Option Nat} {wr : List Nat} {W : List Addr} (k : Kd m wr Ws H Ws' W) : W.Nodup := by cases m <;> exact k.1
theorem Kd.own {m : Option Nat} {wr : List Nat} {W : List Addr} {d : D} {v : V} {H0 : Hp} (k : Kd m wr Ws H Ws' W) (r : Rp K H0 d v W) (o : own m d = true) : Kd none wr Ws H Ws' W := by
  cases m with
  | none => exact k
  | some i => rw [Rp.pu_nil d o r]; exact Kd.nil
theorem Kd.mono {m : Option Nat} {wr wr' : List Nat} {W : List Addr} (k : Kd m wr Ws H Ws' W) (h : ∀ i ∈ wr, i ∈ wr') : Kd m wr' Ws H Ws' W := by
  cases m with
  | none =>
    refine ⟨k.1, fun a ha => ⟨(k.2 a ha).1, ?_⟩⟩
    rcases (k.2 a ha).2 with ⟨j, hj, z⟩ | z
    · exact .inl ⟨j, h j hj, z⟩
    · exact .inr z
  | some i => exact k
/-- seen from an earlier state -/
theorem Kd.back {m : Option Nat} {w1 w2 wr : List Nat} {W : List Addr} (x : Go w1 Ws H Ws1 H1) (k : Kd m w2 Ws1 H1 Ws2 W) (h1 : ∀ i ∈ w1, i ∈ wr) (h2 : ∀ i ∈ w2, i ∈ wr) : Kd m wr Ws H Ws2 W := by
  cases m with
  | some i => exact k
  | none =>
    refine ⟨k.1, fun a ha => ⟨(k.2 a ha).1, ?_⟩⟩
    rcases (k.2 a ha).2 with ⟨j, hj, z⟩ | z
    · by_cases q : j ∈ w1
      · rcases x.sub j a q z with ⟨i, hi, r⟩ | r
        · exact .inl ⟨i, h1 i hi, r⟩
        · exact .inr r
      · rw [x.eq j q] at z; exact .inl ⟨j, h2 j hj, z⟩
    · by_cases w : ∃ j ∈ w1, a ∈ Ws j
      · obtain ⟨j, hj, r⟩ := w; exact .inl ⟨j, h1 j hj, r⟩
      · refine .inr ?_
        cases q : H a with
        | none => rfl
        | some o => rw [x.fr a o q fun i hi r => w ⟨i, hi, r⟩] at z; cases z
/-- a value stays while something else goes on -/
theorem Kd.stay {m : Option Nat} {w0 w2 : List Nat} {W : List Addr} {d : D} {v : V} (k : Kd m w0 Ws H Ws1 W) (e1 : EnvOk K H1 σ ρ Ws1) (r : Rp K H1 d v W) (s : safe m w2 d = true) (y : Go w2 Ws1 H1 Ws2 H2) :
    Rp K H2 d v W ∧ Kd m w0 Ws H Ws2 W := by
  have kk := y.keep e1
  cases m with
  | none =>
    have nn : ∀ a ∈ W, ∀ i, a ∉ Ws1 i := fun a ha i => (k.2 a ha).1 i
    refine ⟨r.keep kk d fun a ha ⟨i, _, z⟩ => nn a ha i z, k.1, fun a ha => ⟨fun i q => ?_, (k.2 a ha).2⟩⟩
    by_cases z : i ∈ w2
    · rcases y.sub i a z q with ⟨j, _, z⟩ | z
      · exact nn a ha j z
      · have mu := Rp.mut d r a ha
        rw [z] at mu; exact notMut_none mu
    · rw [y.eq i z] at q; exact nn a ha i q
  | some i =>
    simp only [safe, Bool.or_eq_true, Bool.not_eq_true'] at s
    by_cases p : pu d = true
    · have e := Rp.pu_nil d p r
      subst e
      exact ⟨r.keep kk d (fun a ha => nomatch ha), Kd.nil⟩
    · have c : w2.contains i = false := s.resolve_right p
      have hi : i ∉ w2 := fun z => by rw [List.contains_iff_mem.mpr z] at c; cases c
      refine ⟨r.keep kk d fun a ha ⟨j, hj, z⟩ => ?_, k.1, fun a ha => by rw [y.eq i hi]; exact k.2 a ha⟩
      have := e1.dj j i a z (k.2 a ha)
      exact hi (this ▸ hj)

/-! ### readings -/
/-- how an exception of ours stands: its class, its own dict, the heap -/
abbrev XRT := Ex → Value → Option Addr → Hp → Prop
def Aft {α : Type} (K : PySem.W.Frag) (XR : XRT) (W : WX) (wr : List Nat) (σ : Sg) (Ws : WsT) (H : Hp) (r : R α) (C : α → Env → Prop) : Prop := match r with
  | .ok a ρ => C a ρ
  | .er x ρ => ∀ cls dx H' Ws', XR x cls dx H' → EnvOk K H' σ ρ Ws' → Go wr Ws H Ws' H' → W cls dx σ H'
  | .no => False
variable {XR : XRT} {W : WX} {wr w1 w2 : List Nat}
theorem Aft.bd {α β : Type} {r : R α} {f : α → Env → R β} {C : β → Env → Prop} (h : Aft K XR W wr σ Ws H (r.bd f) C) : Aft K XR W wr σ Ws H r fun a ρ => Aft K XR W wr σ Ws H (f a ρ) C := by
  cases r with
  | ok a ρ => exact h
  | er x ρ => exact h
  | no => exact h
theorem Aft.mono {α : Type} {r : R α} {C C' : α → Env → Prop} (h : Aft K XR W wr σ Ws H r C) (hc : ∀ a ρ, C a ρ → C' a ρ) : Aft K XR W wr σ Ws H r C' := by
  cases r with
  | ok a ρ => exact hc a ρ h
  | er x ρ => exact h
  | no => exact h
theorem Aft.from {α : Type} {r : R α} {C : α → Env → Prop} (h : Aft K XR W wr σ Ws H r C) (x : Go w1 Ws H Ws1 H1) (h1 : ∀ i ∈ w1, i ∈ wr) (h2 : ∀ i ∈ w2, i ∈ wr) : Aft K XR W w2 σ Ws1 H1 r C := by
  cases r with
  | ok a ρ => exact h
  | er x' ρ => exact fun cls dx H' Ws' q e y => h cls dx H' Ws' q e (x.tr2 y h1 h2)
  | no => exact h
theorem Aft.less {α : Type} {r : R α} {C : α → Env → Prop} (h : Aft K XR W wr σ Ws H r C) (h2 : ∀ i ∈ w2, i ∈ wr) : Aft K XR W w2 σ Ws H r C := by
  cases r with
  | ok a ρ => exact h
  | er x' ρ => exact fun cls dx H' Ws' q e y => h cls dx H' Ws' q e (y.mono h2)
  | no => exact h
theorem Aft.lift {α : Type} {o : Option α} {ρ : Env} {C : α → Env → Prop} (h : Aft K XR W wr σ Ws H (lift o ρ) C) : ∃ a, o = some a ∧ C a ρ := by
  cases o with
  | none => exact h.elim
  | some a => exact ⟨a, rfl, h⟩
theorem Aft.ite {α : Type} {c : Prop} [Decidable c] {r : R α} {C : α → Env → Prop} (h : Aft K XR W wr σ Ws H (if c then r else .no) C) : c ∧ Aft K XR W wr σ Ws H r C := by
  by_cases z : c
  · rw [if_pos z] at h; exact ⟨z, h⟩
  · rw [if_neg z] at h; exact h.elim

/-- an expression's reading: the evaluator comes to a value, and whatever stands for it is what is wanted -/
def TR (K : PySem.W.Frag) (XR : XRT) (W : WX) (m : Option Nat) (wr : List Nat) (f : Env → R D) : TE := fun σ H Q => ∃ ρ Ws, EnvOk K H σ ρ Ws ∧
  Aft K XR W wr σ Ws H (f ρ) fun d ρ' => ∀ v H' Ws' W', EnvOk K H' σ ρ' Ws' → Rp K H' d v W' → Go wr Ws H Ws' H' → Kd m wr Ws H Ws' W' → Q v H'
def TRB (K : PySem.W.Frag) (XR : XRT) (W : WX) (wr : List Nat) (f : Env → R Bool) : TT := fun σ H Q => ∃ ρ Ws, EnvOk K H σ ρ Ws ∧
  Aft K XR W wr σ Ws H (f ρ) fun b ρ' => ∀ H' Ws', EnvOk K H' σ ρ' Ws' → Go wr Ws H Ws' H' → Q b H'
end
end G

/-! G3a: operators and comparisons of data -/
namespace G
open PySem PySem.Spec PyProof.Rows L2

/-! ### data as PyData -/
mutual
def toPy : D → PyData
  | .non => .none
  | .bl b => .bool b
  | .int i => .int i
  | .str l => .str (mkS l)
  | .tup l => .tuple (toPys l)
  | .lst l => .list (toPys l)
  | .fls l => .list (toPys l)
  | .dct _ _ => .none
def toPys : List D → List PyData
  | [] => []
  | d :: r => toPy d :: toPys r
end
section
variable {K : PySem.W.Frag} {H : Hp}
mutual
theorem Rp.dp : ∀ (d : D) {v : V} {W : List Addr}, Rp K H d v W → nod d = true → Dp K H v (toPy d)
  | .non, _, _, h, _ => by rw [h.1]; exact .non
  | .bl b, _, _, h, _ => by rw [h.1]; exact .bl b
  | .int i, _, _, h, _ => by rw [h.1]; exact .int i
  | .str l, _, _, h, _ => by rw [h.1]; exact .str _
  | .tup ds, _, _, ⟨a, vs, e, s, h⟩, n => by rw [e]; exact .tup s (Rps.dp ds h (by simpa [nod] using n))
  | .lst ds, _, _, ⟨a, vs, W', e, s, h, _⟩, n => by rw [e]; exact .lst (SqL.of s) (Rps.dp ds h (by simpa [nod] using n))
  | .fls ds, _, _, ⟨a, vs, e, s, h⟩, n => by rw [e]; exact .lst s.l (Rps.dp ds h (by simpa [nod] using n))
  | .dct _ _, _, _, _, n => by simp [nod] at n
theorem Rps.dp : ∀ (ds : List D) {vs : List V} {W : List Addr}, Rps K H ds vs W → nodL ds = true → DpAll K H vs (toPys ds)
  | [], _, _, h, _ => by rw [h.1]; exact .nil
  | d :: ds, _, _, ⟨v, r, W1, W2, e, h1, h2, _⟩, n => by
    simp only [nodL, Bool.and_eq_true] at n
    rw [e]; exact .cons (Rp.dp d h1 n.1) (Rps.dp ds h2 n.2)
end
mutual
theorem Rp.lay : ∀ (d : D) {v : V} {W : List Addr}, Rp K H d v W → nod d = true → (toPy d).canLay0 = true
  | .non, _, _, _, _ => by simp [toPy, PyData.canLay0]
  | .bl b, _, _, _, _ => by simp [toPy, PyData.canLay0]
  | .int i, _, _, _, _ => by simp [toPy, PyData.canLay0]
  | .str l, _, _, h, _ => by
    simp only [toPy, PyData.canLay0, PyData.strOk, mkS]
    have := h.2.2
    rw [Array.all_eq_true']
    intro c hc
    simp only [decide_eq_true_eq]
    exact this c (by simpa using hc)
  | .tup ds, _, _, ⟨a, vs, e, s, h⟩, n => by simp only [toPy, PyData.canLay0]; exact Rps.lay ds h (by simpa [nod] using n)
  | .lst ds, _, _, ⟨a, vs, W', e, s, h, _⟩, n => by simp only [toPy, PyData.canLay0]; exact Rps.lay ds h (by simpa [nod] using n)
  | .fls ds, _, _, ⟨a, vs, e, s, h⟩, n => by simp only [toPy, PyData.canLay0]; exact Rps.lay ds h (by simpa [nod] using n)
  | .dct _ _, _, _, _, n => by simp [nod] at n
theorem Rps.lay : ∀ (ds : List D) {vs : List V} {W : List Addr}, Rps K H ds vs W → nodL ds = true → PyData.canLayAll0 (toPys ds) = true
  | [], _, _, _, _ => by simp [toPys, PyData.canLayAll0]
  | d :: ds, _, _, ⟨v, r, W1, W2, e, h1, h2, _⟩, n => by
    simp only [nodL, Bool.and_eq_true] at n
    simp only [toPys, PyData.canLayAll0, Rp.lay d h1 n.1, Rps.lay ds h2 n.2, Bool.and_self]
end
end
mutual
theorem toPy_depth : ∀ d : D, (toPy d).depth = dep d
  | .non => by simp [toPy, PyData.depth, dep]
  | .bl b => by simp [toPy, PyData.depth, dep]
  | .int i => by simp [toPy, PyData.depth, dep]
  | .str l => by simp [toPy, PyData.depth, dep]
  | .tup ds => by simp [toPy, PyData.depth, dep, toPys_depth ds]
  | .lst ds => by simp [toPy, PyData.depth, dep, toPys_depth ds]
  | .fls ds => by simp [toPy, PyData.depth, dep, toPys_depth ds]
  | .dct _ _ => by simp [toPy, PyData.depth, dep]
theorem toPys_depth : ∀ ds : List D, PyData.depthAll (toPys ds) = depL ds
  | [] => by simp [toPys, PyData.depthAll, depL]
  | d :: ds => by simp [toPys, PyData.depthAll, depL, toPy_depth d, toPys_depth ds]
end
theorem mkS_beq (a b : List Nat) : (mkS a == mkS b) = decide (a = b) := by
  by_cases h : a = b
  · subst h; simp
  · rw [decide_eq_false h]
    exact beq_eq_false_iff_ne.mpr fun e => h (mkS_inj e)
mutual
theorem toPy_eqv : ∀ x y : D, nod x = true → nod y = true → PyData.eqv (toPy x) (toPy y) = deq x y
  | .non, y, _, hy => by cases y <;> first | (simp [nod] at hy; done) | simp [toPy, PyData.eqv, deq]
  | .bl b, y, _, hy => by cases y <;> first | (simp [nod] at hy; done) | simp [toPy, PyData.eqv, deq]
  | .int i, y, _, hy => by cases y <;> first | (simp [nod] at hy; done) | simp [toPy, PyData.eqv, deq]
  | .str l, y, _, hy => by cases y <;> first | (simp [nod] at hy; done) | simp [toPy, PyData.eqv, deq, mkS_beq]
  | .tup l, y, hx, hy => by
    cases y <;> first | (simp [nod] at hy; done) | (simp [toPy, PyData.eqv, deq]; done) | skip
    rename_i l'
    simp only [toPy, PyData.eqv, deq]
    exact toPys_eqv l l' (by simpa [nod] using hx) (by simpa [nod] using hy)
  | .lst l, y, hx, hy => by
    cases y <;> first | (simp [nod] at hy; done) | (simp [toPy, PyData.eqv, deq]; done) | skip
    all_goals
      rename_i l'
      simp only [toPy, PyData.eqv, deq]
      exact toPys_eqv l l' (by simpa [nod] using hx) (by simpa [nod] using hy)
  | .fls l, y, hx, hy => by
    cases y <;> first | (simp [nod] at hy; done) | (simp [toPy, PyData.eqv, deq]; done) | skip
    all_goals
      rename_i l'
      simp only [toPy, PyData.eqv, deq]
      exact toPys_eqv l l' (by simpa [nod] using hx) (by simpa [nod] using hy)
  | .dct _ _, _, hx, _ => by simp [nod] at hx
theorem toPys_eqv : ∀ x y : List D, nodL x = true → nodL y = true → PyData.eqvAll (toPys x) (toPys y) = deqL x y
  | [], [], _, _ => by simp [toPys, PyData.eqvAll, deqL]
  | [], y :: ys, _, _ => by simp [toPys, PyData.eqvAll, deqL]
  | x :: xs, [], _, _ => by simp [toPys, PyData.eqvAll, deqL]
  | x :: xs, y :: ys, hx, hy => by
    simp only [nodL, Bool.and_eq_true] at hx hy
    simp only [toPys, PyData.eqvAll, deqL, toPy_eqv x y hx.1 hy.1, toPys_eqv xs ys hx.2 hy.2]
end
theorem any_eqv : ∀ (x : D) (l : List D), nod x = true → nodL l = true → ((toPys l).any fun z => PyData.eqv z (toPy x)) = anyEq x l
  | x, [], _, _ => by simp [toPys, anyEq]
  | x, y :: ys, hx, hl => by
    simp only [nodL, Bool.and_eq_true] at hl
    simp only [toPys, List.any_cons, anyEq, toPy_eqv y x hl.1 hx, any_eqv x ys hx hl.2]
theorem alk_some (x y : D) (h : alk x y = true) (n : isNon x = false) : toPy x ≠ .none := by
  cases x with
  | non => simp [isNon] at n
  | dct _ _ => cases y <;> exact absurd h (by simp [alk])
  | _ => simp [toPy]
mutual
theorem toPy_alike : ∀ x y : D, alk x y = true → PySem.W.alike (toPy x) (toPy y) = true
  | .non, y, h => by cases y <;> first | (simp [alk] at h; done) | simp [toPy, PySem.W.alike]
  | .bl _, y, h => by cases y <;> first | (simp [alk] at h; done) | simp [toPy, PySem.W.alike]
  | .int _, y, h => by cases y <;> first | (simp [alk] at h; done) | simp [toPy, PySem.W.alike]
  | .str _, y, h => by cases y <;> first | (simp [alk] at h; done) | simp [toPy, PySem.W.alike]
  | .tup l, y, h => by
    cases y <;> first | (simp [alk] at h; done) | skip
    rename_i l'
    simp only [toPy, PySem.W.alike]
    exact toPys_alike l l' (by simpa [alk] using h)
  | .lst l, y, h => by
    cases y <;> first | (simp [alk] at h; done) | skip
    rename_i l'
    simp only [toPy, PySem.W.alike]
    exact toPys_alike l l' (by simpa [alk] using h)
  | .fls l, y, h => by cases y <;> exact absurd h (by simp [alk])
  | .dct a b, y, h => by cases y <;> exact absurd h (by simp [alk])
theorem toPys_alike : ∀ x y : List D, alkL x y = true → PySem.W.alikeAll (toPys x) (toPys y) = true
  | [], [], _ => by simp [toPys, PySem.W.alikeAll]
  | [], _ :: _, _ => by simp [toPys, PySem.W.alikeAll]
  | _ :: _, [], _ => by simp [toPys, PySem.W.alikeAll]
  | x :: xs, y :: ys, h => by
    simp only [alkL, Bool.and_eq_true] at h
    simp only [toPys, PySem.W.alikeAll, toPy_alike x y h.1, toPys_alike xs ys h.2, Bool.and_self]
end

theorem sLt_lt : ∀ a b : List Nat, sLt a b = decide (a < b)
  | [], [] => by simp [sLt]
  | [], _ :: _ => by simp [sLt]
  | _ :: _, [] => by simp [sLt]
  | x :: xs, y :: ys => by
    simp only [sLt, sLt_lt xs ys]
    by_cases h : x = y
    · subst h
      simp [List.cons_lt_cons_iff]
    · rw [if_neg h]
      simp [List.cons_lt_cons_iff, h]
mutual
theorem toPy_lt : ∀ x y : D, alk x y = true → nod x = true → nod y = true → isNon x = false → PySem.W.dataLt (toPy x) (toPy y) = dlt x y
  | .non, _, _, _, _, h => by simp [isNon] at h
  | .bl a, y, h, _, _, _ => by
    cases y <;> first | (simp [alk] at h; done) | skip
    rename_i b _
    simp only [toPy, PySem.W.dataLt_bool, dlt]
    cases a <;> cases b <;> decide
  | .int i, y, h, _, _, _ => by
    cases y <;> first | (simp [alk] at h; done) | skip
    simp only [toPy, PySem.W.dataLt_int, dlt]
  | .str l, y, h, _, _, _ => by
    cases y <;> first | (simp [alk] at h; done) | skip
    simp only [toPy, PySem.W.dataLt_str, dlt, mkS_cps, sLt_lt]
  | .tup l, y, h, nx, ny, _ => by
    cases y <;> first | (simp [alk] at h; done) | skip
    rename_i l'
    simp only [toPy, PySem.W.dataLt_tuple, dlt]
    exact toPys_lt l l' (by simpa [alk] using h) (by simpa [nod] using nx) (by simpa [nod] using ny)
  | .lst l, y, h, nx, ny, _ => by
    cases y <;> first | (simp [alk] at h; done) | skip
    rename_i l'
    simp only [toPy, PySem.W.dataLt_list, dlt]
    exact toPys_lt l l' (by simpa [alk] using h) (by simpa [nod] using nx) (by simpa [nod] using ny)
  | .fls l, y, h, _, _, _ => by cases y <;> exact absurd h (by simp [alk])
  | .dct _ _, y, h, _, _, _ => by cases y <;> exact absurd h (by simp [alk])
theorem toPys_lt : ∀ x y : List D, alkL x y = true → nodL x = true → nodL y = true → PyProof.Rows.lexLt itemOrd (PySem.W.keyToksAll (toPys x)) (PySem.W.keyToksAll (toPys y)) = dltL x y
  | [], [], _, _, _ => by simp [toPys, PySem.W.keyToksAll, dltL]; decide
  | [], y :: ys, _, _, _ => by
    simp only [toPys, PySem.W.keyToksAll, dltL]
    rfl
  | x :: xs, [], _, _, _ => by
    simp only [toPys, PySem.W.keyToksAll, dltL]
    rfl
  | x :: xs, y :: ys, h, nx, ny => by
    simp only [alkL, Bool.and_eq_true] at h
    simp only [nodL, Bool.and_eq_true] at nx ny
    have e := toPy_eqv x y nx.1 ny.1
    simp only [toPys, dltL]
    by_cases q : deq x y = true
    · rw [if_pos q, PySem.W.dataLt_all_yes (toPy_alike x y h.1) (e.trans q)]
      exact toPys_lt xs ys h.2 nx.2 ny.2
    · have q' : deq x y = false := by simpa using q
      rw [if_neg q, PySem.W.dataLt_all_no (toPy_alike x y h.1) (e.trans q')]
      refine toPy_lt x y h.1 nx.1 ny.1 ?_
      cases x <;> first | rfl | skip
      cases y <;> first | (simp [deq] at q'; done) | (have z := h.1; simp [alk] at z; done)
end
end G

/-! G3b: operators by the layer's rules -/
namespace G
open PySem PySem.Spec PyProof.Rows L2

theorem same_upd {H : Hp} {p : Addr} {o : HO} (h : H p = none) : Same H (upd H p o) := fun b x e => by
  rw [upd_ne (ne_of_none e h)]
  exact e
section
variable {K : PySem.W.Frag} {H : Hp}
/-- what is wanted of a new value -/
def Nw (K : PySem.W.Frag) (H : Hp) (Q : VK) (d : D) : Prop := ∀ v H' W, Same H H' → (∀ a ∈ W, H a = none) → W.Nodup → Rp K H' d v W → Q v H'
theorem Nw.at {Q : VK} {d : D} {v : V} (n : Nw K H Q d) (r : Rp K H d v []) : Q v H := n v H [] (Same.refl H) (fun _ h => nomatch h) List.nodup_nil r
theorem Nw.int {Q : VK} {i : Int} (n : Nw K H Q (.int i)) : Q (.int i) H := n.at ⟨rfl, rfl⟩
theorem Nw.bl {Q : VK} {b : Bool} (n : Nw K H Q (.bl b)) : Q (.bl b) H := n.at ⟨rfl, rfl⟩
theorem Nw.str {Q : VK} {l : List Nat} (n : Nw K H Q (.str l)) (h : okS l) : Q (.str (mkS l)) H := n.at ⟨rfl, rfl, h⟩
theorem Nw.lst {Q : VK} {l : List D} {vs : List V} (n : Nw K H Q (.lst l)) (r : Rps K H l vs []) {p : Addr} (h : H p = none) : Q (.ref p) (upd H p (.lst vs)) :=
  n (.ref p) _ [p] (same_upd h) (fun a ha => by rw [List.mem_singleton.mp ha]; exact h) (by simp) ⟨p, vs, [], rfl, upd_same, r.same (same_upd h), rfl⟩
theorem Nw.tup {Q : VK} {l : List D} {vs : List V} (n : Nw K H Q (.tup l)) (r : Rps K H l vs []) {p : Addr} (h : H p = none) : Q (.ref p) (upd H p (.tup vs)) :=
  n (.ref p) _ [] (same_upd h) (fun a ha => nomatch ha) List.nodup_nil ⟨p, vs, rfl, SqT.of upd_same, r.same (same_upd h)⟩
def rD2 (K : PySem.W.Frag) (f : D → D → Option D) : R2 := fun vx vy H Q => ∃ x y z W1 W2, f x y = some z ∧ Rp K H x vx W1 ∧ Rp K H y vy W2 ∧ Nw K H Q z
def bop : BOp → Operator
  | .add => .Add
  | .sub => .Sub
  | .mul => .Mult
  | .fdiv => .FloorDiv
  | .mod => .Mod
  | .pow => .Pow
theorem okS_append {a b : List Nat} (h : okS a) (h' : okS b) : okS (a ++ b) := fun c hc => (List.mem_append.mp hc).elim (h c) (h' c)
theorem mkS_append (a b : List Nat) : mkS a ++ mkS b = mkS (a ++ b) := by
  show (⟨(mkS a).cps ++ (mkS b).cps⟩ : Str) = _
  simp [mkS]
theorem cap_le {n : Nat} (h : n ≤ cap) : n ≤ sizeLine := Nat.le_trans h (by decide)
theorem cap_lt {n : Nat} (h : n < cap) : n < sizeLine := Nat.lt_of_lt_of_le h (by decide)
theorem small_iff {i : Int} (h : small i = true) : -(2 ^ 64) < i ∧ i < 2 ^ 64 := by
  unfold small at h
  have := of_decide_eq_true h
  omega
theorem okS_flat {a : List Nat} (h : okS a) : ∀ n, okS (List.replicate n a).flatten := fun n c hc => by
  obtain ⟨l, hl, q⟩ := List.mem_flatten.mp hc
  rw [(List.mem_replicate.mp hl).2] at q
  exact h c q
theorem foldl_app (a : Array Nat) : ∀ (n : Nat) (b : Array Nat), ((List.replicate n a).foldl (· ++ ·) b).toList = b.toList ++ (List.replicate n a.toList).flatten
  | 0, b => by simp
  | n + 1, b => by
    rw [List.replicate_succ, List.foldl_cons, foldl_app a n, List.replicate_succ]
    simp
theorem txt_mul (a : List Nat) (k : Int) : Txt.mul (mkS a) k = mkS (List.replicate k.toNat a).flatten := by
  unfold Txt.mul
  by_cases h : k < 1
  · rw [if_pos h, show k.toNat = 0 by omega]; rfl
  · rw [if_neg h]
    by_cases h1 : (k == 1 || (mkS a).length == 0) = true
    · rw [if_pos h1]
      simp only [Bool.or_eq_true, beq_iff_eq] at h1
      rcases h1 with h1 | h1
      · subst h1; simp
      · rw [mkS_len] at h1
        have : a = [] := List.length_eq_zero_iff.mp h1
        subst this
        simp
    · rw [if_neg h1]
      have := foldl_app (mkS a).cps k.toNat #[]
      apply congrArg (fun x => (⟨x⟩ : Str))
      apply Array.ext'
      rw [this]
      simp [mkS]
section
variable {X : Cx}
theorem mul_ok {a : List Nat} {k : Int} (h : k.toNat * a.length ≤ cap) (s : k.natAbs < 2 ^ 62) : MulOk (mkS a) k := by
  have c : cap = 1000000 := rfl
  refine ⟨by simp only [Bool.or_eq_false_iff, decide_eq_false_iff_not]; omega, fun h1 _ => ?_, fun h1 _ => ?_⟩
  · rw [mkS_len]
    have k0 : 0 < k := by omega
    intro z
    have z1 : (2 ^ 63 - 1) / k < (a.length : Int) := z
    have z2 := (Int.ediv_lt_iff_lt_mul k0).mp z1
    have z3 : ((k.toNat * a.length : Nat) : Int) ≤ 1000000 := by omega
    rw [Int.natCast_mul, Int.toNat_of_nonneg (by omega)] at z3
    rw [Int.mul_comm] at z2
    omega
  · rw [mkS_len]
    unfold Builtin.Str.tooLong
    have : a.length * k.toNat ≤ sizeLine := by rw [Nat.mul_comm]; exact cap_le h
    simp
    omega
theorem op_bin (o : BOp) : OpR X (binaryOp (bop o)) (rD2 X.K (binF o)) := by
  intro pins s σ H vx vy v u Q I rx ry h
  obtain ⟨x, y, z, W1, W2, hz, r1, r2, n⟩ := h
  cases o with
  | add =>
    cases x <;> cases y <;> first | (simp [binF] at hz; done) | skip
    · simp only [binF, Option.some.injEq] at hz
      subst hz
      exact op_add pins s σ H vx vy v u Q I rx ry ⟨_, _, r1.1, r2.1, n.int⟩
    · simp only [binF] at hz
      split at hz <;> simp at hz
      subst hz
      rename_i hl
      exact op_add_str pins s σ H vx vy v u Q I rx ry ⟨_, _, r1.1, r2.1, by rw [mkS_len, mkS_len]; exact cap_le hl, by rw [mkS_append]; exact n.str (okS_append r1.2.2 r2.2.2)⟩
    · simp only [binF] at hz
      split at hz <;> simp at hz
      subst hz
      rename_i l l' hl
      simp only [Bool.and_eq_true, decide_eq_true_eq] at hl
      obtain ⟨a, vs, e1, s1, q1⟩ := r1
      obtain ⟨b, us, e2, s2, q2⟩ := r2
      have w1 := q1.pu_nil hl.1.1
      have w2 := q2.pu_nil hl.1.2
      subst w1 w2
      have l1 := q1.length
      have l2 := q2.length
      refine op_catA pins s σ H vx vy v u Q I rx ry ⟨a, b, vs, us, e1, e2, s1, s2, by rw [l1, l2]; exact cap_le hl.2, fun e => ?_, fun _ e => ?_, fun _ _ p hp => ?_⟩
      · subst e
        have : l = [] := List.length_eq_zero_iff.mp l1.symm
        subst this
        exact n.at ⟨b, us, rfl, s2, q2⟩
      · subst e
        have : l' = [] := List.length_eq_zero_iff.mp l2.symm
        subst this
        rw [List.append_nil] at n
        exact n.at ⟨a, vs, rfl, s1, q1⟩
      · exact n.tup (q1.append q2) hp
    · simp only [binF] at hz
      split at hz <;> simp at hz
      subst hz
      rename_i l l' hl
      simp only [Bool.and_eq_true, decide_eq_true_eq] at hl
      obtain ⟨a, vs, W1', e1, s1, q1, _⟩ := r1
      obtain ⟨b, us, W2', e2, s2, q2, _⟩ := r2
      have w1 := q1.pu_nil hl.1.1
      have w2 := q2.pu_nil hl.1.2
      subst w1 w2
      have l1 := q1.length
      have l2 := q2.length
      exact op_cat pins s σ H vx vy v u Q I rx ry ⟨a, b, vs, us, e1, e2, s1, s2, by rw [l1, l2]; exact cap_le hl.2, fun p hp => n.lst (q1.append q2) hp⟩
  | sub =>
    cases x <;> cases y <;> first | (simp [binF] at hz; done) | skip
    simp only [binF, Option.some.injEq] at hz
    subst hz
    exact op_sub pins s σ H vx vy v u Q I rx ry ⟨_, _, r1.1, r2.1, n.int⟩
  | mul =>
    cases x <;> cases y <;> first | (simp [binF] at hz; done) | skip
    · simp only [binF] at hz
      split at hz <;> simp at hz
      subst hz
      rename_i hl
      refine op_mul pins s σ H vx vy v u Q I rx ry ⟨_, _, r1.1, r2.1, ?_, n.int⟩
      rcases (Bool.or_eq_true _ _).mp hl with q | q
      · exact .inl (small_iff q)
      · exact .inr (small_iff q)
    · simp only [binF] at hz
      split at hz <;> simp at hz
      subst hz
      rename_i hl
      simp only [Bool.and_eq_true, decide_eq_true_eq] at hl
      obtain ⟨e1, _, ok⟩ := r1
      obtain ⟨e2, _⟩ := r2
      subst e1 e2
      obtain ⟨t, rfl⟩ := rx
      obtain ⟨t', rfl⟩ := ry
      refine PySem.SB.mul (mul_ok hl.1 hl.2) fun t' k => ?_
      rw [txt_mul]
      exact ⟨.str _, H, I.tok _, ⟨_, rfl⟩, n.str (okS_flat ok _)⟩
    · simp only [binF] at hz
      split at hz <;> simp at hz
      subst hz
      rename_i l k hl
      simp only [Bool.and_eq_true, decide_eq_true_eq] at hl
      obtain ⟨a, vs, W1', e1, s1, q1, _⟩ := r1
      obtain ⟨e2, _⟩ := r2
      have w1 := q1.pu_nil hl.1.1
      subst w1
      refine op_rep pins s σ H vx vy v u Q I rx ry ⟨a, k, vs, e1, e2, s1, by omega, by omega, ?_, fun p hp => n.lst ?_ hp⟩
      · rw [q1.length, Nat.mul_comm]; exact cap_le hl.1.2
      · generalize k.toNat = m
        induction m with
        | zero => exact Rps.nil
        | succ m ih =>
          rw [List.replicate_succ, List.flatten_cons, List.replicate_succ, List.flatten_cons]
          exact q1.append ih
  | fdiv =>
    cases x <;> cases y <;> first | (simp [binF] at hz; done) | skip
    simp only [binF] at hz
    split at hz <;> simp at hz
    subst hz
    rename_i i j hl
    simp only [Bool.and_eq_true, decide_eq_true_eq] at hl
    exact op_fdivW pins s σ H vx vy v u Q I rx ry ⟨_, _, r1.1, r2.1, wide_div (b := 64) hl.1 (by omega) (by decide) (by decide), n.int⟩
  | mod =>
    cases x <;> cases y <;> first | (simp [binF] at hz; done) | skip
    simp only [binF] at hz
    split at hz <;> simp at hz
    subst hz
    rename_i i j hl
    exact op_mod pins s σ H vx vy v u Q I rx ry ⟨_, _, r1.1, r2.1, hl, n.int⟩
  | pow =>
    cases x <;> cases y <;> first | (simp [binF] at hz; done) | skip
    simp only [binF] at hz
    split at hz <;> simp at hz
    subst hz
    rename_i i j hl
    simp only [Bool.and_eq_true, decide_eq_true_eq] at hl
    exact op_pow pins s σ H vx vy v u Q I rx ry ⟨_, _, r1.1, r2.1, ⟨hl.1.1, by omega, of_decide_eq_true hl.2⟩, n.int⟩
end
end

/-! ### comparisons -/
def cop : COp → CmpOp
  | .eq => .Eq
  | .ne => .NotEq
  | .lt => .Lt
  | .le => .LtE
  | .gt => .Gt
  | .ge => .GtE
  | .inn => .In
  | .nin => .NotIn
  | .isn => .Is
  | .ntn => .IsNot
section
variable {K : PySem.W.Frag} {H : Hp}
theorem keyD_inj : ∀ {a b : Key}, keyD a = keyD b → a = b
  | .inl i, .inl j, h => by injection h with e; rw [e]
  | .inl i, .inr y, h => by cases h
  | .inr x, .inl j, h => by cases h
  | .inr x, .inr y, h => by
    injection h with e
    have : x = y := by
      cases x; cases y
      simp at e
      exact congrArg _ e
    rw [this]
theorem keyD_deq (a b : Key) : deq (keyD a) (keyD b) = decide (a = b) := by
  cases a with
  | inl i => cases b with
    | inl j => by_cases h : i = j <;> simp [keyD, deq, h]
    | inr y => simp [keyD, deq]
  | inr x => cases b with
    | inl j => simp [keyD, deq]
    | inr y =>
      simp only [keyD, deq]
      by_cases h : x = y
      · subst h; simp
      · rw [decide_eq_false (fun e => h (Sum.inr.inj e))]
        refine decide_eq_false fun e => h ?_
        cases x; cases y
        simp at e
        exact congrArg _ e
/-- a key of ours: an int or a text -/
theorem key_of_d {k : D} {v : V} {W : List Addr} (r : Rp K H k v W) (h : isKey k = true) : ∃ q : Key, k = keyD q ∧ v = kV q ∧ okKey q ∧ W = [] := by
  cases k <;> first | (simp [isKey] at h; done) | skip
  · exact ⟨.inl _, rfl, r.1, trivial, r.2⟩
  · rename_i l
    exact ⟨.inr (mkS l), by simp [keyD, mkS_cps], r.1, by rw [okKey, mkS_cps]; exact r.2.2, r.2.1⟩
theorem kIx_val (q : Key) : ∀ (kvs : List (Key × V)) (vs : List V), vs = kvs.map (·.2) → (kIx (keyD q) (kvs.map fun p => keyD p.1)).bind (fun j => vs[j]?) = valV kvs q
  | [], _, _ => rfl
  | p :: ps, _, e => by
    subst e
    have ih := kIx_val q ps _ rfl
    simp only [List.map_cons, kIx, keyD_deq, valV, List.find?_cons] at ih ⊢
    by_cases h : p.1 = q
    · simp [h]
    · simp only [h, decide_false, Bool.false_eq_true, if_false]
      rw [← ih]
      cases kIx (keyD q) (ps.map fun p => keyD p.1) <;> rfl
theorem kIx_some (q : Key) (kvs : List (Key × V)) : (kIx (keyD q) (kvs.map fun p => keyD p.1)).isSome = (valV kvs q).isSome := by
  induction kvs with
  | nil => rfl
  | cons p ps ih =>
    simp only [List.map_cons, kIx, keyD_deq, valV, List.find?_cons] at ih ⊢
    by_cases h : p.1 = q
    · simp [h]
    · simp only [h, decide_false, Bool.false_eq_true, if_false]
      rw [Option.isSome_map, ih]
theorem fin_bl' {X : Cx} {pins : List (Addr × Obj)} {σ : Sg} {H : Hp} {s : Shared} {Q : VK} {k k' : Bool} (I : Inv X pins σ H s) (q : Q (.bl k) H) (e : k' = k) : EP X pins σ Q (.bool k') s := by
  subst e; exact ⟨.bl k', H, I, rfl, q⟩
theorem Rp.non_iff {d : D} {v : V} {W : List Addr} (r : Rp K H d v W) : decide (v = .non) = isNon d := by
  cases d with
  | non => rw [r.1]; rfl
  | bl b => rw [r.1]; rfl
  | int i => rw [r.1]; rfl
  | str l => rw [r.1]; rfl
  | tup l => obtain ⟨_, _, e, _⟩ := r; rw [e]; rfl
  | lst l => obtain ⟨_, _, _, e, _⟩ := r; rw [e]; rfl
  | fls l => obtain ⟨_, _, e, _⟩ := r; rw [e]; rfl
  | dct l l' => obtain ⟨_, _, _, e, _⟩ := r; rw [e]; rfl
section
variable {X : Cx}
theorem in_seq {x : D} {l : List D} {c : D} {vx vc : V} {W1 W2 : List Addr} {u v : Value} {pins : List (Addr × Obj)} {σ : Sg} {H : Hp} {s : Shared} {Q : VK} (hu : X.A.units + 200 < cLine) (I : Inv X pins σ H s)
    (hc : c = .tup l ∨ c = .lst l ∨ c = .fls l) (h : eqOk x c = true) (r1 : Rp X.K H x vx W1) (r2 : Rp X.K H c vc W2) (rx : RelV vx v) (ry : RelV vc u) (n : Nw X.K H Q (.bl (anyEq x l))) :
    wpAny (model X.prog X.w) X.A (compareOp .In v u) (EP X pins σ Q) X.xe s := by
  simp only [eqOk, Bool.and_eq_true, decide_eq_true_eq] at h
  obtain ⟨⟨h1, h2⟩, h3⟩ := h
  obtain ⟨as, q1⟩ := Dp.reads I _ _ _ (r1.dp x h1) rx
  obtain ⟨bs, q2⟩ := Dp.reads I _ _ _ (r2.dp c h2) ry
  have l1 := r1.lay x h1
  have l2 := r2.lay c h2
  rcases hc with e | e | e
  · subst e
    simp only [toPy] at q2 l2
    simp only [dep] at h3
    refine SeqAt.in_tuple_reads q2 q1 (by simpa [PyData.canLay0] using l2) l1 (by rw [toPys_depth, toPy_depth]; omega) ?_
    rw [any_eqv x l h1 (by simpa [nod] using h2)]
    exact ⟨.bl _, H, I, rfl, n.bl⟩
  · subst e
    simp only [toPy] at q2 l2
    simp only [dep] at h3
    refine SeqAt.in_list_reads q2 q1 (by simpa [PyData.canLay0] using l2) l1 (by rw [toPys_depth, toPy_depth]; omega) ?_
    rw [any_eqv x l h1 (by simpa [nod] using h2)]
    exact ⟨.bl _, H, I, rfl, n.bl⟩
  · subst e
    simp only [toPy] at q2 l2
    simp only [dep] at h3
    refine SeqAt.in_list_reads q2 q1 (by simpa [PyData.canLay0] using l2) l1 (by rw [toPys_depth, toPy_depth]; omega) ?_
    rw [any_eqv x l h1 (by simpa [nod] using h2)]
    exact ⟨.bl _, H, I, rfl, n.bl⟩
theorem notIn_seq {x : D} {l : List D} {c : D} {vx vc : V} {W1 W2 : List Addr} {u v : Value} {pins : List (Addr × Obj)} {σ : Sg} {H : Hp} {s : Shared} {Q : VK} (hu : X.A.units + 200 < cLine) (I : Inv X pins σ H s)
    (hc : c = .tup l ∨ c = .lst l ∨ c = .fls l) (h : eqOk x c = true) (r1 : Rp X.K H x vx W1) (r2 : Rp X.K H c vc W2) (rx : RelV vx v) (ry : RelV vc u) (n : Nw X.K H Q (.bl (!anyEq x l))) :
    wpAny (model X.prog X.w) X.A (compareOp .NotIn v u) (EP X pins σ Q) X.xe s := by
  simp only [eqOk, Bool.and_eq_true, decide_eq_true_eq] at h
  obtain ⟨⟨h1, h2⟩, h3⟩ := h
  obtain ⟨as, q1⟩ := Dp.reads I _ _ _ (r1.dp x h1) rx
  obtain ⟨bs, q2⟩ := Dp.reads I _ _ _ (r2.dp c h2) ry
  have l1 := r1.lay x h1
  have l2 := r2.lay c h2
  rcases hc with e | e | e
  · subst e
    simp only [toPy] at q2 l2
    simp only [dep] at h3
    refine SeqAt.notIn_tuple_reads q2 q1 (by simpa [PyData.canLay0] using l2) l1 (by rw [toPys_depth, toPy_depth]; omega) ?_
    rw [any_eqv x l h1 (by simpa [nod] using h2)]
    exact ⟨.bl _, H, I, rfl, n.bl⟩
  · subst e
    simp only [toPy] at q2 l2
    simp only [dep] at h3
    refine SeqAt.notIn_list_reads q2 q1 (by simpa [PyData.canLay0] using l2) l1 (by rw [toPys_depth, toPy_depth]; omega) ?_
    rw [any_eqv x l h1 (by simpa [nod] using h2)]
    exact ⟨.bl _, H, I, rfl, n.bl⟩
  · subst e
    simp only [toPy] at q2 l2
    simp only [dep] at h3
    refine SeqAt.notIn_list_reads q2 q1 (by simpa [PyData.canLay0] using l2) l1 (by rw [toPys_depth, toPy_depth]; omega) ?_
    rw [any_eqv x l h1 (by simpa [nod] using h2)]
    exact ⟨.bl _, H, I, rfl, n.bl⟩
theorem inF_str {x : D} {t : List Nat} {k : Bool} (h : inF x (.str t) = some k) : ∃ c, x = .str [c] ∧ k = decide (c ∈ t) := by
  cases x <;> first | (simp [inF] at h; done) | skip
  rename_i l
  match l, h with
  | [c], h => exact ⟨c, rfl, by simpa [inF] using h.symm⟩
  | [], h => simp [inF] at h
  | _ :: _ :: _, h => simp [inF] at h
theorem inF_tup {x : D} {l : List D} {k : Bool} (h : inF x (.tup l) = some k) : eqOk x (.tup l) = true ∧ k = anyEq x l := by
  have e : inF x (.tup l) = if eqOk x (.tup l) then some (anyEq x l) else none := rfl
  rw [e] at h
  split at h <;> simp at h
  rename_i q
  exact ⟨q, h.symm⟩
theorem inF_lst {x : D} {l : List D} {k : Bool} (h : inF x (.lst l) = some k) : eqOk x (.lst l) = true ∧ k = anyEq x l := by
  have e : inF x (.lst l) = if eqOk x (.lst l) then some (anyEq x l) else none := rfl
  rw [e] at h
  split at h <;> simp at h
  rename_i q
  exact ⟨q, h.symm⟩
theorem inF_fls {x : D} {l : List D} {k : Bool} (h : inF x (.fls l) = some k) : eqOk x (.fls l) = true ∧ k = anyEq x l := by
  have e : inF x (.fls l) = if eqOk x (.fls l) then some (anyEq x l) else none := rfl
  rw [e] at h
  split at h <;> simp at h
  rename_i q
  exact ⟨q, h.symm⟩
theorem inF_dct {x : D} {l vs : List D} {k : Bool} (h : inF x (.dct l vs) = some k) : isKey x = true ∧ k = (kIx x l).isSome := by
  have e : inF x (.dct l vs) = if isKey x then some (kIx x l).isSome else none := rfl
  rw [e] at h
  split at h <;> simp at h
  rename_i q
  exact ⟨q, h.symm⟩
theorem op_cmp (o : COp) (hu : X.A.units + 200 < cLine) : OpR X (compareOp (cop o)) (rD2 X.K fun x y => (cmpF o x y).map D.bl) := by
  intro pins s σ H vx vy v u Q I rx ry h
  obtain ⟨x, y, z, W1, W2, hz, r1, r2, n⟩ := h
  obtain ⟨k, hk, rfl⟩ := Option.map_eq_some_iff.mp hz
  cases o with
  | eq =>
    simp only [cmpF] at hk
    split at hk <;> simp at hk
    subst hk
    rename_i hl
    simp only [eqOk, Bool.and_eq_true, decide_eq_true_eq] at hl
    obtain ⟨as, q1⟩ := Dp.reads I _ _ _ (r1.dp x hl.1.1) rx
    obtain ⟨bs, q2⟩ := Dp.reads I _ _ _ (r2.dp y hl.1.2) ry
    refine SeqAt.compareEq_reads q1 q2 (r1.lay x hl.1.1) (r2.lay y hl.1.2) (by rw [toPy_depth, toPy_depth]; omega) ?_
    rw [toPy_eqv x y hl.1.1 hl.1.2]
    exact ⟨.bl _, H, I, rfl, n.bl⟩
  | ne =>
    simp only [cmpF] at hk
    split at hk <;> simp only [reduceCtorEq, Option.some.injEq] at hk
    subst hk
    rename_i hl
    simp only [eqOk, Bool.and_eq_true, decide_eq_true_eq] at hl
    obtain ⟨as, q1⟩ := Dp.reads I _ _ _ (r1.dp x hl.1.1) rx
    obtain ⟨bs, q2⟩ := Dp.reads I _ _ _ (r2.dp y hl.1.2) ry
    refine SeqAt.compareNe_reads q1 q2 (r1.lay x hl.1.1) (r2.lay y hl.1.2) (by rw [toPy_depth, toPy_depth]; omega) ?_
    rw [toPy_eqv x y hl.1.1 hl.1.2]
    exact ⟨.bl _, H, I, rfl, n.bl⟩
  | lt =>
    simp only [cmpF] at hk
    split at hk <;> simp at hk
    subst hk
    rename_i hl
    simp only [ltOk, Bool.and_eq_true, decide_eq_true_eq, Bool.not_eq_true'] at hl
    obtain ⟨⟨⟨⟨h1, n1⟩, n2⟩, h2⟩, h3⟩ := hl
    have nx : nod x = true ∧ nod y = true := ⟨n1, n2⟩
    obtain ⟨as, q1⟩ := Dp.reads I _ _ _ (r1.dp x nx.1) rx
    obtain ⟨bs, q2⟩ := Dp.reads I _ _ _ (r2.dp y nx.2) ry
    have e := PySem.W.rcLt_alike (toPy x) (toPy y) X.A s v u as bs q1 q2 (toPy_alike x y h1) (alk_some x y h1 h2) (by rw [toPy_depth, toPy_depth]; omega)
    refine e X.prog X.w X.xe _ ?_
    rw [toPy_lt x y h1 nx.1 nx.2 h2]
    exact ⟨.bl _, H, I, rfl, n.bl⟩
  | le =>
    cases x <;> cases y <;> first | (simp [cmpF] at hk; done) | skip
    · simp only [cmpF, Option.some.injEq] at hk
      subst hk
      exact op_le pins s σ H vx vy v u Q I rx ry ⟨_, _, r1.1, r2.1, n.bl⟩
    · simp only [cmpF, Option.some.injEq] at hk
      subst hk
      exact op_le_str pins s σ H vx vy v u Q I rx ry ⟨_, _, r1.1, r2.1, by rw [mkS_cps, mkS_cps, ← sLt_lt]; exact n.bl⟩
  | gt =>
    cases x <;> cases y <;> first | (simp [cmpF] at hk; done) | skip
    · simp only [cmpF, Option.some.injEq] at hk
      subst hk
      exact op_gt pins s σ H vx vy v u Q I rx ry ⟨_, _, r1.1, r2.1, n.bl⟩
    · simp only [cmpF, Option.some.injEq] at hk
      subst hk
      exact op_gt_str pins s σ H vx vy v u Q I rx ry ⟨_, _, r1.1, r2.1, by rw [mkS_cps, mkS_cps, ← sLt_lt]; exact n.bl⟩
  | ge =>
    cases x <;> cases y <;> first | (simp [cmpF] at hk; done) | skip
    · simp only [cmpF, Option.some.injEq] at hk
      subst hk
      exact op_ge pins s σ H vx vy v u Q I rx ry ⟨_, _, r1.1, r2.1, n.bl⟩
    · simp only [cmpF, Option.some.injEq] at hk
      subst hk
      exact op_ge_str pins s σ H vx vy v u Q I rx ry ⟨_, _, r1.1, r2.1, by rw [mkS_cps, mkS_cps, ← sLt_lt]; exact n.bl⟩
  | inn =>
    have hk' : inF x y = some k := hk
    clear hk
    cases y with
    | str t =>
      rcases inF_str hk' with ⟨c, e1, e2⟩
      subst e1 e2
      exact op_in_sign pins s σ H vx vy v u Q I rx ry ⟨c, _, r1.1, r2.1, by rw [mkS_cps]; exact n.bl⟩
    | tup l =>
      obtain ⟨e1, e2⟩ := inF_tup hk'
      subst e2
      exact in_seq hu I (.inl rfl) e1 r1 r2 rx ry n
    | lst l =>
      obtain ⟨e1, e2⟩ := inF_lst hk'
      subst e2
      exact in_seq hu I (.inr (.inl rfl)) e1 r1 r2 rx ry n
    | fls l =>
      obtain ⟨e1, e2⟩ := inF_fls hk'
      subst e2
      exact in_seq hu I (.inr (.inr rfl)) e1 r1 r2 rx ry n
    | dct ks vs =>
      obtain ⟨e1, e2⟩ := inF_dct hk'
      subst e2
      obtain ⟨q, rfl, rfl, _, rfl⟩ := key_of_d r1 e1
      obtain ⟨a, us, W', rfl, ⟨kvs, ea, ek, ev, _⟩, _, _⟩ := r2
      cases ry
      subst ek
      refine d_in (by omega) I (DGet.k (k := q) ea) rx fun s3 I3 => ?_
      rw [← kIx_some]
      exact ⟨.bl _, H, I3, rfl, n.bl⟩
    | _ => simp [inF] at hk'
  | nin =>
    obtain ⟨k', hk', rfl⟩ := Option.map_eq_some_iff.mp (show (inF x y).map (!·) = some k from hk)
    clear hk
    cases y with
    | str t =>
      rcases inF_str hk' with ⟨c, e1, e2⟩
      subst e1 e2
      exact op_notIn_sign pins s σ H vx vy v u Q I rx ry ⟨c, _, r1.1, r2.1, by rw [mkS_cps]; exact n.bl⟩
    | tup l =>
      obtain ⟨e1, e2⟩ := inF_tup hk'
      subst e2
      exact notIn_seq hu I (.inl rfl) e1 r1 r2 rx ry n
    | lst l =>
      obtain ⟨e1, e2⟩ := inF_lst hk'
      subst e2
      exact notIn_seq hu I (.inr (.inl rfl)) e1 r1 r2 rx ry n
    | fls l =>
      obtain ⟨e1, e2⟩ := inF_fls hk'
      subst e2
      exact notIn_seq hu I (.inr (.inr rfl)) e1 r1 r2 rx ry n
    | dct ks vs =>
      obtain ⟨e1, e2⟩ := inF_dct hk'
      subst e2
      obtain ⟨q, rfl, rfl, _, rfl⟩ := key_of_d r1 e1
      obtain ⟨a, us, W', rfl, ⟨kvs, ea, ek, ev, _⟩, _, _⟩ := r2
      cases ry
      subst ek
      refine d_notIn (by omega) I (DGet.k (k := q) ea) rx fun s3 I3 => ?_
      rw [← kIx_some]
      exact ⟨.bl _, H, I3, rfl, n.bl⟩
    | _ => simp [inF] at hk'
  | isn =>
    cases y <;> first | (simp [cmpF] at hk; done) | skip
    simp only [cmpF, Option.some.injEq] at hk
    subst hk
    exact op_isN pins s σ H vx vy v u Q I rx ry ⟨r2.1, by rw [r1.non_iff]; exact n.bl⟩
  | ntn =>
    cases y <;> first | (simp [cmpF] at hk; done) | skip
    simp only [cmpF, Option.some.injEq] at hk
    subst hk
    exact op_notN pins s σ H vx vy v u Q I rx ry ⟨r2.1, by rw [r1.non_iff]; exact n.bl⟩
end
end
end G

/-! G3c: subscripts, slices, truth, one-place operations -/
namespace G
open PySem PySem.Spec PyProof.Rows L2
section
variable {K : PySem.W.Frag} {H H' : Hp}
theorem Rps.get' : ∀ {ds : List D} {vs : List V} {W : List Addr} {i : Nat} {d : D}, Rps K H ds vs W → ds[i]? = some d → ∃ v W', vs[i]? = some v ∧ Rp K H d v W' ∧ W'.Sublist W
  | [], _, _, i, d, _, e => by simp at e
  | d :: ds, _, _, 0, d', ⟨v, r, W1, W2, e, h, t, eW⟩, q => by
    simp at q; subst q
    exact ⟨v, W1, by rw [e]; rfl, h, by rw [eW]; exact List.sublist_append_left _ _⟩
  | d :: ds, _, _, i + 1, d', ⟨v, r, W1, W2, e, h, t, eW⟩, q => by
    obtain ⟨v', W', e1, e2, e3⟩ := t.get' (i := i) (d := d') (by simpa using q)
    exact ⟨v', W', by rw [e]; simpa using e1, e2, by rw [eW]; exact e3.trans (List.sublist_append_right _ _)⟩
theorem nIx_ixN (n : Nat) (i : Int) : nIx n i = ixN n i := rfl
theorem sIx_eq (n d : Nat) (o : Option Int) : sIx n d o = HT.sIx n d o := by cases o <;> rfl
/-- what is wanted of a part of a value -/
def Pt (K : PySem.W.Frag) (H : Hp) (Q : VK) (d : D) (W : List Addr) : Prop := ∀ v W', Rp K H d v W' → W'.Sublist W → Q v H
def rIxD2 (K : PySem.W.Frag) : R2 := fun vx vy H Q => ∃ x y z W1 W2, ixF x y = some z ∧ Rp K H x vx W1 ∧ Rp K H y vy W2 ∧ Pt K H Q z W1
section
variable {X : Cx}
theorem ix_data (hu : X.A.units + 200 < cLine) : IxR X (rIxD2 X.K) := by
  intro value slice pins s σ H vx vy v u Q I rx ry h hs
  obtain ⟨x, y, z, W1, W2, hz, r1, r2, n⟩ := h
  cases x with
  | str l =>
    cases y <;> first | (simp [ixF] at hz; done) | skip
    rename_i i
    simp only [ixF] at hz
    split at hz <;> first | (cases hz; done) | skip
    rename_i hl
    obtain ⟨j, h1, h2'⟩ := Option.bind_eq_some_iff.mp hz
    obtain ⟨c, h2, rfl⟩ := Option.map_eq_some_iff.mp h2'
    refine ix_str value slice pins s σ H vx vy v u Q I rx ry ⟨mkS l, i, c, r1.1, r2.1, by rw [mkS_len]; exact cap_le hl, ?_, ?_⟩ hs
    · unfold atI
      rw [mkS_cps, ← nIx_ixN, h1]; exact h2
    · have ok : okS [c] := fun b hb => by
        rw [List.mem_singleton.mp hb]
        exact r1.2.2 c (List.mem_of_getElem? h2)
      exact n (.str (mkS [c])) [] ⟨rfl, rfl, ok⟩ (List.nil_sublist _)
  | tup l =>
    cases y <;> first | (simp [ixF] at hz; done) | skip
    rename_i i
    simp only [ixF] at hz
    obtain ⟨j, h1, h2⟩ := Option.bind_eq_some_iff.mp hz
    obtain ⟨a, vs, e, sq, q⟩ := r1
    obtain ⟨w, W', e1, e2, e3⟩ := q.get' h2
    refine ix_tup value slice pins s σ H vx vy v u Q I rx ry ⟨a, vs, i, w, e, r2.1, sq, ?_, n w W' e2 e3⟩ hs
    unfold atI
    rw [q.length, ← nIx_ixN, h1]; exact e1
  | lst l =>
    cases y <;> first | (simp [ixF] at hz; done) | skip
    rename_i i
    simp only [ixF] at hz
    obtain ⟨j, h1, h2⟩ := Option.bind_eq_some_iff.mp hz
    obtain ⟨a, vs, W0, e, sq, q, eW⟩ := r1
    obtain ⟨w, W', e1, e2, e3⟩ := q.get' h2
    refine ix_list value slice pins s σ H vx vy v u Q I rx ry ⟨a, vs, i, w, e, r2.1, SqL.of sq, ?_, n w W' e2 (by rw [eW]; exact e3.trans (List.sublist_cons_self _ _))⟩ hs
    unfold atI
    rw [q.length, ← nIx_ixN, h1]; exact e1
  | fls l =>
    cases y <;> first | (simp [ixF] at hz; done) | skip
    rename_i i
    simp only [ixF] at hz
    obtain ⟨j, h1, h2⟩ := Option.bind_eq_some_iff.mp hz
    obtain ⟨a, vs, e, sq, q⟩ := r1
    obtain ⟨w, W', e1, e2, e3⟩ := q.get' h2
    refine ix_list value slice pins s σ H vx vy v u Q I rx ry ⟨a, vs, i, w, e, r2.1, sq.l, ?_, n w W' e2 e3⟩ hs
    unfold atI
    rw [q.length, ← nIx_ixN, h1]; exact e1
  | dct ks ds =>
    have hz' : (if isKey y then (kIx y ks).bind fun j => ds[j]? else none) = some z := by
      cases y <;> exact hz
    split at hz' <;> first | (cases hz'; done) | skip
    rename_i hk
    obtain ⟨j, h1, h2⟩ := Option.bind_eq_some_iff.mp hz'
    obtain ⟨a, vs, W0, rfl, ⟨kvs, ea, ek, ev, _⟩, q, eW⟩ := r1
    obtain ⟨w, W', e1, e2, e3⟩ := q.get' h2
    obtain ⟨qk, rfl, rfl, _, rfl⟩ := key_of_d r2 hk
    have e : valV kvs qk = some w := by
      rw [← kIx_val qk kvs vs ev, ← ek, h1]; exact e1
    cases rx
    have G : DGet H a (kV qk) (some w) := by rw [← e]; exact DGet.k ea
    exact tail_any (dict_typeIs I G) PySem.F.slot_dict_getitem.lookup (d_getItem (by omega) I G ry fun w' s3 I3 rw' => ⟨w, H, I3, rw', n w W' e2 (by rw [eW]; exact e3.trans (List.sublist_cons_self _ _))⟩) hs
  | _ => cases y <;> simp [ixF] at hz

/-! ### slices -/
theorem cut_cutV (xs : List V) (lo hi : Option Int) : cut xs lo hi = cutV xs lo hi := by
  unfold cut cutV
  rw [sIx_eq, sIx_eq]
theorem Rps.drop : ∀ {ds : List D} {vs : List V} (n : Nat), Rps K H ds vs [] → Rps K H (ds.drop n) (vs.drop n) []
  | _, _, 0, h => h
  | [], _, n + 1, h => by rw [h.1]; exact Rps.nil
  | d :: ds, _, n + 1, ⟨v, r, W1, W2, e, h, t, eW⟩ => by
    have e2 : W2 = [] := (List.append_eq_nil_iff.mp eW.symm).2
    subst e e2
    exact t.drop n
theorem Rps.take : ∀ {ds : List D} {vs : List V} (n : Nat), Rps K H ds vs [] → Rps K H (ds.take n) (vs.take n) []
  | _, _, 0, h => Rps.nil
  | [], _, n + 1, h => by rw [h.1]; exact Rps.nil
  | d :: ds, _, n + 1, ⟨v, r, W1, W2, e, h, t, eW⟩ => by
    have e1 : W1 = [] := (List.append_eq_nil_iff.mp eW.symm).1
    have e2 : W2 = [] := (List.append_eq_nil_iff.mp eW.symm).2
    subst e e1 e2
    exact Rps.cons h (t.take n)
theorem Rps.cut {ds : List D} {vs : List V} (lo hi : Option Int) (h : Rps K H ds vs []) : Rps K H (cut ds lo hi) (cutV vs lo hi) [] := by
  rw [← cut_cutV]
  unfold G.cut
  rw [h.length]
  exact (h.drop _).take _
theorem okS_cut {l : List Nat} (lo hi : Option Int) (h : okS l) : okS (cut l lo hi) := fun c hc => h c (List.mem_of_mem_drop (List.mem_of_mem_take hc))
def rSlD (K : PySem.W.Frag) : V → Option Int → Option Int → Hp → VK → Prop := fun vx lo hi H Q => ∃ x z W1, slF x lo hi = some z ∧ Rp K H x vx W1 ∧ Nw K H Q z
theorem sl_data : SlR X (rSlD X.K) := by
  intro pins s σ H vx v vl vu lo hi sl Q I rx hs pl pu h
  obtain ⟨x, z, W1, hz, r1, n⟩ := h
  cases x with
  | str l =>
    simp only [slF] at hz
    split at hz <;> simp at hz
    subst hz
    rename_i hl
    refine sl_str pins s σ H vx v vl vu lo hi sl Q I rx hs pl pu ⟨mkS l, r1.1, by rw [mkS_len]; exact cap_le hl, ?_⟩
    have e : cutS (mkS l) lo hi = mkS (cut l lo hi) := by
      unfold cutS cut
      rw [mkS_cps, mkS_len, sIx_eq, sIx_eq]; rfl
    rw [e]
    exact n.str (okS_cut lo hi r1.2.2)
  | tup l =>
    simp only [slF] at hz
    split at hz <;> simp at hz
    subst hz
    rename_i hl
    obtain ⟨a, vs, e, sq, q⟩ := r1
    have w := q.pu_nil hl
    subst w
    refine sl_tupA pins s σ H vx v vl vu lo hi sl Q I rx hs pl pu ⟨a, vs, e, sq, fun ⟨e1, e2⟩ => ?_, fun _ p hp => n.tup (q.cut lo hi) hp⟩
    have : cut l lo hi = l := by
      unfold cut
      rw [sIx_eq, sIx_eq, ← q.length, e1, e2]
      simp [q.length]
    rw [this] at n
    exact n.at ⟨a, vs, rfl, sq, q⟩
  | lst l =>
    simp only [slF] at hz
    split at hz <;> simp at hz
    subst hz
    rename_i hl
    obtain ⟨a, vs, W0, e, sq, q, eW⟩ := r1
    have w := q.pu_nil hl
    subst w
    exact sl_list pins s σ H vx v vl vu lo hi sl Q I rx hs pl pu ⟨a, vs, e, SqL.of sq, fun p hp => n.lst (q.cut lo hi) hp⟩
  | fls l =>
    simp only [slF] at hz
    split at hz <;> simp at hz
    subst hz
    rename_i hl
    obtain ⟨a, vs, e, sq, q⟩ := r1
    have w := q.pu_nil hl
    subst w
    exact sl_list pins s σ H vx v vl vu lo hi sl Q I rx hs pl pu ⟨a, vs, e, sq.l, fun p hp => n.lst (q.cut lo hi) hp⟩
  | _ => simp [slF] at hz

/-! ### truth -/
theorem tru_v {x : D} {v : V} {W : List Addr} {k : Bool} (h : tru x = some k) (r : Rp K H x v W) : TruV K v H k := by
  cases x with
  | non => simp [tru] at h; subst h; rw [r.1]; exact rfl
  | bl b => simp [tru] at h; subst h; rw [r.1]; exact rfl
  | int i => simp [tru] at h; subst h; rw [r.1]; exact rfl
  | str l =>
    simp only [tru] at h
    split at h <;> simp only [reduceCtorEq, Option.some.injEq] at h
    subst h
    rename_i hl
    rw [r.1]
    refine ⟨by rw [mkS_len]; exact cap_le hl, ?_⟩
    rw [mkS_len]
    cases l <;> simp
    omega
  | tup l =>
    have h := Option.some.inj (show some _ = some k from h)
    subst h
    obtain ⟨a, vs, e, sq, q⟩ := r
    rw [e]
    refine .inr (.inl ⟨vs, sq, ?_⟩)
    have := q.length
    cases l <;> cases vs <;> simp at this ⊢
  | lst l =>
    have h := Option.some.inj (show some _ = some k from h)
    subst h
    obtain ⟨a, vs, W0, e, sq, q, _⟩ := r
    rw [e]
    refine .inl ⟨vs, SqL.of sq, ?_⟩
    have := q.length
    cases l <;> cases vs <;> simp at this ⊢
  | fls l =>
    have h := Option.some.inj (show some _ = some k from h)
    subst h
    obtain ⟨a, vs, e, sq, q⟩ := r
    rw [e]
    refine .inl ⟨vs, sq.l, ?_⟩
    have := q.length
    cases l <;> cases vs <;> simp at this ⊢
  | dct ks ds =>
    have h := Option.some.inj (show some _ = some k from h)
    subst h
    obtain ⟨a, vs, W0, e, ⟨kvs, ea, ek, _⟩, q, _⟩ := r
    rw [e]
    refine .inr (.inr ⟨kvs, ea, ?_⟩)
    subst ek
    cases kvs <;> rfl
end
end
end G

/-! G3m: min and max of any data that can be compared -/
namespace G
open PySem PySem.Spec PyProof.Rows L2
open Sem (wp)

/-- the least so far, by a test of places -/
def bestAt (less : Nat → Nat → Bool) : Nat → Nat
  | 0 => 0
  | k + 1 => if less (k + 1) (bestAt less k) = true then k + 1 else bestAt less k

section
variable {prog : Program} {w : World} {A : Around} {R : Result → Shared → Prop} {it S : Addr} {fp wr : List Addr} {n : Nat} {Y : Nat → Value → Prop} {St : Nat → Heap → Prop} {less : Nat → Nat → Bool} {h0 : Heap}

/-- what stood stands -/
abbrev Old (h0 h : Heap) : Prop := ∀ b o, h0.get? b = some o → h.get? b = some o
theorem Old.go {h h' : Heap} (o : Old h0 h) (nw : ∀ b ∈ wr, h0.get? b = none) (nS : h0.get? S = none) (k : ∀ b ob, b ∉ wr → b ≠ S → h.get? b = some ob → h'.get? b = some ob) : Old h0 h' := fun b ob e =>
  k b ob (fun z => by rw [nw b z] at e; cases e) (fun z => by rw [z, nS] at e; cases e) (o b ob e)

/-- the loop of min, where < is asked while what stood stands -/
theorem min_turns (W : Walks prog w A.in1 it fp wr n Y St) (nfp : S ∉ fp) (nw : ∀ b ∈ wr, h0.get? b = none) (nS : h0.get? S = none)
    (ask : ∀ i vi vj (s : Shared) (Q E : Value → Shared → Prop), Old h0 s.heap → i + 1 < n → Y (i + 1) vi → Y (bestAt less i) vj → Q (.bool (less (i + 1) (bestAt less i))) s → wpAny (model prog w) A.in1 (richCompare .Lt vi vj) Q E s) :
    ∀ (left i : Nat) (s : Shared) (best : Value) (c : Nat), left + (i + 1) = n → St (i + 1) s.heap → Y (bestAt less i) best → Old h0 s.heap → bestAt less i < n →
      s.heap.get? S = some { cls := .type "list", dict := none, data := .seq #[best, best] c, slots := #[] } →
      (∀ v h' tk, Y (bestAt less (n - 1)) v → Old h0 h' → R (.ok (.ret v)) { s with heap := h', toks := tk }) → codeAny (model prog w) A (.builtin "min.loop" ⟨[.ref it, .none, .ref S], []⟩) R s := by
  have nwr : S ∉ wr := fun z => nfp (W.sub _ z)
  have word : (toString "min" ++ toString ".loop" : String) = "min.loop" := by decide
  intro left
  induction left with
  | zero =>
    intro i s best c e st yb old lt hS fin
    have en : i + 1 = n := by omega
    refine codeAny_builtin PySem.F.entry_min_loop ?_
    rw [Around.under_plainId PySem.F.plain_min_loop _]
    show wpAny _ A.in1 (seqItems? (.ref S) >>= fun _ => _) _ _ s
    refine wpAny_bind (wpAny_seqItems hS rfl (wpAny_bind (wpAny_tryCatch (W.done s _ _ (en ▸ st) fun h1 t1 k1 => ?_))))
    have hS1 := k1 S _ nwr hS
    refine wpAny_bind (wpAny_updateSeq hS1 rfl (wpAny_bind (wpAny_letGo (wpAny_pure (fin best _ t1 (by rw [← en]; exact yb) ?_)))))
    exact old.go nw nS fun b ob hb hs eb => (Heap.get?_update_other _ _ (Ne.symm hs)).trans (k1 b ob hb eb)
  | succ left ih =>
    intro i s best c e st yb old lt hS fin
    have li : i + 1 < n := by omega
    refine codeAny_builtin PySem.F.entry_min_loop ?_
    rw [Around.under_plainId PySem.F.plain_min_loop _]
    show wpAny _ A.in1 (seqItems? (.ref S) >>= fun _ => _) _ _ s
    refine wpAny_bind (wpAny_seqItems hS rfl (wpAny_bind (wpAny_tryCatch (W.item (i + 1) s _ _ li st fun v h1 t1 yv st1 k1 => ?_))))
    have hS1 := k1 S _ nwr hS
    have old1 : Old h0 h1 := old.go nw nS fun b ob hb _ eb => k1 b ob hb eb
    show wpAny _ A.in1 (tryCatch (holding [v, v] (richCompare .Lt v best >>= fun _ => _)) _ >>= fun _ => _) _ _ _
    refine wpAny_bind (wpAny_tryCatch (wpAny_holding (wpAny_bind (ask i v best _ _ _ old1 li yv yb ?_))))
    refine wpAny_bind (wpAny_holding (wpAny_truthy_bool (wpAny_bind (wpAny_letGo (wpAny_pure ?_)))))
    cases q : less (i + 1) (bestAt less i) with
    | true =>
      have eb : bestAt less (i + 1) = i + 1 := by simp only [bestAt, q, if_true]
      simp only [if_true]
      refine wpAny_bind (wpAny_updateSeq hS1 rfl (wpAny_bind (wpAny_letGo ?_)))
      rw [word]
      refine wpAny_pure ⟨plainId_quiet PySem.F.plain_min_loop _, ih (i + 1) _ v _ (by omega) (W.frame _ _ _ st1 fun b hb ob e1 => ?_) (by rw [eb]; exact yv) ?_ (by rw [eb]; exact li) (Heap.get?_update_self _ hS1 rfl) fun v' h' tk y' o' => fin v' h' tk y' o'⟩
      · exact (Heap.get?_update_other _ _ (fun z : S = b => nfp (z ▸ hb))).trans e1
      · exact old1.go nw nS fun b ob _ hs e1 => (Heap.get?_update_other _ _ (Ne.symm hs)).trans e1
    | false =>
      have eb : bestAt less (i + 1) = bestAt less i := by simp only [bestAt, q, Bool.false_eq_true, if_false]
      simp only [Bool.false_eq_true, if_false]
      refine wpAny_bind (wpAny_letGo ?_)
      rw [word]
      exact wpAny_pure ⟨plainId_quiet PySem.F.plain_min_loop _, ih (i + 1) _ best c (by omega) st1 (by rw [eb]; exact yb) old1 (by rw [eb]; exact lt) hS1 fun v' h' tk y' o' => fin v' h' tk y' o'⟩
/-- its first turn -/
theorem min_begin (W : Walks prog w A.in1 it fp wr n Y St) (nfp : S ∉ fp) (nw : ∀ b ∈ wr, h0.get? b = none) (nS : h0.get? S = none)
    (ask : ∀ i vi vj (s : Shared) (Q E : Value → Shared → Prop), Old h0 s.heap → i + 1 < n → Y (i + 1) vi → Y (bestAt less i) vj → Q (.bool (less (i + 1) (bestAt less i))) s → wpAny (model prog w) A.in1 (richCompare .Lt vi vj) Q E s)
    (hn : 0 < n) {s : Shared} {c : Nat} (st : St 0 s.heap) (old : Old h0 s.heap) (hS : s.heap.get? S = some { cls := .type "list", dict := none, data := .seq #[] c, slots := #[] })
    (fin : ∀ v h' tk, Y (bestAt less (n - 1)) v → Old h0 h' → R (.ok (.ret v)) { s with heap := h', toks := tk }) : codeAny (model prog w) A (.builtin "min.loop" ⟨[.ref it, .none, .ref S], []⟩) R s := by
  have nwr : S ∉ wr := fun z => nfp (W.sub _ z)
  have word : (toString "min" ++ toString ".loop" : String) = "min.loop" := by decide
  refine codeAny_builtin PySem.F.entry_min_loop ?_
  rw [Around.under_plainId PySem.F.plain_min_loop _]
  show wpAny _ A.in1 (seqItems? (.ref S) >>= fun _ => _) _ _ s
  refine wpAny_bind (wpAny_seqItems hS rfl (wpAny_bind (wpAny_tryCatch (W.item 0 s _ _ hn st fun v h1 t1 yv st1 k1 => ?_))))
  have hS1 := k1 S _ nwr hS
  have old1 : Old h0 h1 := old.go nw nS fun b ob hb _ eb => k1 b ob hb eb
  show wpAny _ A.in1 (updateSeq S (fun _ => #[v, v]) >>= fun _ => _) _ _ _
  refine wpAny_bind (wpAny_updateSeq hS1 rfl ?_)
  rw [word]
  refine wpAny_pure ⟨plainId_quiet PySem.F.plain_min_loop _, min_turns W nfp nw nS ask (n - 1) 0 _ v _ (by omega) (W.frame _ _ _ st1 fun b hb ob e1 => ?_) yv ?_ hn (Heap.get?_update_self _ hS1 rfl) fun v' h' tk y' o' => fin v' h' tk y' o'⟩
  · exact (Heap.get?_update_other _ _ (fun z : S = b => nfp (z ▸ hb))).trans e1
  · exact old1.go nw nS fun b ob _ hs e1 => (Heap.get?_update_other _ _ (Ne.symm hs)).trans e1
/-- min(l) -/
theorem call_min_old {x : Value} {s : Shared} {E Q : Value → Shared → Prop}
    (h : wpAny (model prog w) A.in1 (pyIter x) (fun v s₂ => ∃ it fp wr n Y St less, v = .ref it ∧ Walks prog w A.in1 it fp wr n Y St ∧ St 0 s₂.heap ∧ (∀ b ∈ fp, b < s₂.heap.objs.size) ∧ (∀ b ∈ wr, s.heap.get? b = none) ∧ 0 < n ∧ Old s.heap s₂.heap ∧
      (∀ i vi vj (s' : Shared) (Q E : Value → Shared → Prop), Old s.heap s'.heap → i + 1 < n → Y (i + 1) vi → Y (bestAt less i) vj → Q (.bool (less (i + 1) (bestAt less i))) s' → wpAny (model prog w) A.in1 (richCompare .Lt vi vj) Q E s') ∧
      ∀ v h' tk, Y (bestAt less (n - 1)) v → Old s.heap h' → Q v { s₂ with heap := h', toks := tk }) E s) :
    wpAny (model prog w) A (call (.builtin "min") [x]) Q E s := by
  have word : (toString "min" ++ toString ".loop" : String) = "min.loop" := by decide
  refine call_function_tree PySem.F.kind_min PySem.F.plain_min PySem.F.entry_min (PySem.F.args_min1 _) ?_
  show wpAny _ A.in1 (Builtin.Builtins.bindParams "min" ["key", "default"] 0 ⟨[], []⟩ >>= fun _ => _) _ _ s
  refine wpAny_bind (wpAny_of_eq (show Builtin.Builtins.bindParams "min" ["key", "default"] 0 ⟨[], []⟩ = pure [none, none] from rfl) (wpAny_bind (wpAny_pure (wpAny_bind (wpAny_mono h (fun v s₂ q => ?_) fun _ _ e => e)))))
  obtain ⟨it, fp, wr, n, Y, St, less, rfl, W, st, lfp, nw, hn, old, ask, fin⟩ := q
  refine wpAny_bind (wpAny_newObj_type ?_)
  have nfp : s₂.heap.objs.size ∉ fp := fun z => Nat.lt_irrefl _ (lfp _ z)
  have nS : s.heap.get? s₂.heap.objs.size = none := by
    cases q : s.heap.get? s₂.heap.objs.size with
    | none => rfl
    | some o => exact absurd (Heap.lt_size (old _ _ q)) (Nat.lt_irrefl _)
  rw [word]
  refine wpAny_pure ⟨plainId_quiet PySem.F.plain_min_loop _, min_begin W nfp nw nS ask hn (W.frame _ _ _ st fun b _ o e => Heap.get?_push_of_some _ e) (fun b o e => Heap.get?_push_of_some _ (old b o e)) (Heap.get?_push_size _ rfl) fun v h' tk y o => ?_⟩
  exact fin v h' tk y o
end

section
variable {prog : Program} {w : World} {A : Around}
/-- min(a, b) -/
theorem call_min_old2 {a b : Value} {s : Shared} {E Q : Value → Shared → Prop}
    (h : wpAny (model prog w) A.in1 (pyIter (.ref s.heap.objs.size)) (fun v s₂ => ∃ it fp wr n Y St less, v = .ref it ∧ Walks prog w A.in1 it fp wr n Y St ∧ St 0 s₂.heap ∧ (∀ b ∈ fp, b < s₂.heap.objs.size) ∧ (∀ b ∈ wr, s.heap.get? b = none) ∧ 0 < n ∧ Old s.heap s₂.heap ∧
      (∀ i vi vj (s' : Shared) (Q E : Value → Shared → Prop), Old s.heap s'.heap → i + 1 < n → Y (i + 1) vi → Y (bestAt less i) vj → Q (.bool (less (i + 1) (bestAt less i))) s' → wpAny (model prog w) A.in1 (richCompare .Lt vi vj) Q E s') ∧
      ∀ v h' tk, Y (bestAt less (n - 1)) v → Old s.heap h' → Q v { s₂ with heap := h', toks := tk }) E { s with heap := s.heap.push { cls := .type "tuple", data := .seq #[a, b] } }) :
    wpAny (model prog w) A (call (.builtin "min") [a, b]) Q E s := by
  have word : (toString "min" ++ toString ".loop" : String) = "min.loop" := by decide
  refine call_function_tree PySem.F.kind_min PySem.F.plain_min PySem.F.entry_min (PySem.F.args_min2 _ _) ?_
  show wpAny _ A.in1 (Builtin.Builtins.bindParams "min" ["key", "default"] 0 ⟨[], []⟩ >>= fun _ => _) _ _ s
  refine wpAny_bind (wpAny_of_eq (show Builtin.Builtins.bindParams "min" ["key", "default"] 0 ⟨[], []⟩ = pure [none, none] from rfl) ?_)
  show wpAny _ A.in1 (newTuple [a, b] >>= fun _ => _) _ _ s
  refine wpAny_bind (wpAny_newObj_type (wpAny_bind (wpAny_mono h (fun v s₂ q => ?_) fun _ _ e => e)))
  obtain ⟨it, fp, wr, n, Y, St, less, rfl, W, st, lfp, nw, hn, old, ask, fin⟩ := q
  refine wpAny_bind (wpAny_newObj_type ?_)
  have nfp : s₂.heap.objs.size ∉ fp := fun z => Nat.lt_irrefl _ (lfp _ z)
  have nS : s.heap.get? s₂.heap.objs.size = none := by
    cases q : s.heap.get? s₂.heap.objs.size with
    | none => rfl
    | some o => exact absurd (Heap.lt_size (old _ _ q)) (Nat.lt_irrefl _)
  rw [word]
  refine wpAny_pure ⟨plainId_quiet PySem.F.plain_min_loop _, min_begin W nfp nw nS ask hn (W.frame _ _ _ st fun b _ o e => Heap.get?_push_of_some _ e) (fun b o e => Heap.get?_push_of_some _ (old b o e)) (Heap.get?_push_size _ rfl) fun v h' tk y o => ?_⟩
  exact fin v h' tk y o
end

/-! ### minL by places -/
def lessD (l : List D) (i j : Nat) : Bool := dlt (l.getD i .non) (l.getD j .non)
theorem bestAt_le (less : Nat → Nat → Bool) : ∀ k, bestAt less k ≤ k
  | 0 => Nat.le_refl _
  | k + 1 => by
    have := bestAt_le less k
    simp only [bestAt]
    split <;> omega
theorem minL_best (l : List D) (z : D) : ∀ (xs : List D) (k : Nat), l.drop (k + 1) = xs → k < l.length → minL (l.getD (bestAt (lessD l) k) .non) xs = some z →
    (∀ i, k ≤ i → i + 1 < l.length → ltOk (l.getD (i + 1) .non) (l.getD (bestAt (lessD l) i) .non) = true) ∧ z = l.getD (bestAt (lessD l) (l.length - 1)) .non
  | [], k, hd, hk, h => by
    have e : l.length = k + 1 := by
      have := congrArg List.length hd
      simp at this
      omega
    simp only [minL, Option.some.injEq] at h
    refine ⟨fun i h1 h2 => by omega, ?_⟩
    rw [e]; exact h.symm
  | x :: xs, k, hd, hk, h => by
    have e1 : k + 1 < l.length := by
      have := congrArg List.length hd
      simp at this
      omega
    have ex : l.getD (k + 1) .non = x := by
      have := congrArg (fun m => m[0]?) hd
      simp only [List.getElem?_drop, Nat.add_zero, List.getElem?_cons_zero] at this
      simp [List.getD, this]
    have hd2 : l.drop (k + 1 + 1) = xs := by
      rw [← List.drop_drop, hd]; rfl
    simp only [minL] at h
    split at h
    · rename_i ok
      have go : minL (l.getD (bestAt (lessD l) (k + 1)) .non) xs = some z := by
        simp only [bestAt, lessD, ex]
        split at h
        · rename_i q
          rw [if_pos q, ex]; exact h
        · rename_i q
          rw [if_neg q]; exact h
      obtain ⟨a, b⟩ := minL_best l z xs (k + 1) hd2 e1 go
      refine ⟨fun i h1 h2 => ?_, b⟩
      by_cases q : i = k
      · subst q; rw [ex]; exact ok
      · exact a i (by omega) h2
    · cases h
end G

/-! G3d: built-in functions of data -/
namespace G
open PySem PySem.Spec PyProof.Rows L2
section
variable {K : PySem.W.Frag} {H H' : Hp}
def rB1 (K : PySem.W.Frag) (f : D → Option D) : List V → Hp → VK → Prop := fun vs H Q => ∃ x z v W1, vs = [v] ∧ f x = some z ∧ Rp K H x v W1 ∧ Nw K H Q z
def rB1p (K : PySem.W.Frag) (f : D → Option D) : List V → Hp → VK → Prop := fun vs H Q => ∃ x z v W1, vs = [v] ∧ f x = some z ∧ Rp K H x v W1 ∧ Pt K H Q z W1
def rB2 (K : PySem.W.Frag) (f : D → D → Option D) : List V → Hp → VK → Prop := fun vs H Q => ∃ x y z v u, vs = [v, u] ∧ f x y = some z ∧ Rp K H x v [] ∧ Rp K H y u [] ∧ Nw K H Q z
theorem ints_map : ∀ {l : List D} {is : List Int}, dInts l = some is → l = is.map D.int
  | [], is, h => by simp [dInts] at h; subst h; rfl
  | .int i :: r, is, h => by
    simp only [dInts] at h
    obtain ⟨js, h1, rfl⟩ := Option.map_eq_some_iff.mp h
    rw [ints_map h1]; rfl
  | .non :: _, _, h => by simp [dInts] at h
  | .bl _ :: _, _, h => by simp [dInts] at h
  | .str _ :: _, _, h => by simp [dInts] at h
  | .tup _ :: _, _, h => by simp [dInts] at h
  | .lst _ :: _, _, h => by simp [dInts] at h
  | .fls _ :: _, _, h => by simp [dInts] at h
  | .dct _ _ :: _, _, h => by simp [dInts] at h
theorem bools_map : ∀ {l : List D} {is : List Bool}, dBools l = some is → l = is.map D.bl
  | [], is, h => by simp [dBools] at h; subst h; rfl
  | .bl i :: r, is, h => by
    simp only [dBools] at h
    obtain ⟨js, h1, rfl⟩ := Option.map_eq_some_iff.mp h
    rw [bools_map h1]; rfl
  | .non :: _, _, h => by simp [dBools] at h
  | .int _ :: _, _, h => by simp [dBools] at h
  | .str _ :: _, _, h => by simp [dBools] at h
  | .tup _ :: _, _, h => by simp [dBools] at h
  | .lst _ :: _, _, h => by simp [dBools] at h
  | .fls _ :: _, _, h => by simp [dBools] at h
  | .dct _ _ :: _, _, h => by simp [dBools] at h
theorem strs_map : ∀ {l : List D} {is : List (List Nat)}, dStrs l = some is → l = is.map D.str
  | [], is, h => by simp [dStrs] at h; subst h; rfl
  | .str i :: r, is, h => by
    simp only [dStrs] at h
    obtain ⟨js, h1, rfl⟩ := Option.map_eq_some_iff.mp h
    rw [strs_map h1]; rfl
  | .non :: _, _, h => by simp [dStrs] at h
  | .int _ :: _, _, h => by simp [dStrs] at h
  | .bl _ :: _, _, h => by simp [dStrs] at h
  | .tup _ :: _, _, h => by simp [dStrs] at h
  | .lst _ :: _, _, h => by simp [dStrs] at h
  | .fls _ :: _, _, h => by simp [dStrs] at h
  | .dct _ _ :: _, _, h => by simp [dStrs] at h
theorem Rps.ints : ∀ {is : List Int} {vs : List V} {W : List Addr}, Rps K H (is.map D.int) vs W → vs = is.map V.int
  | [], _, _, h => h.1
  | i :: r, _, _, ⟨v, t, W1, W2, e, h1, h2, _⟩ => by rw [e, h1.1, Rps.ints h2]; rfl
theorem Rps.bools : ∀ {is : List Bool} {vs : List V} {W : List Addr}, Rps K H (is.map D.bl) vs W → vs = is.map V.bl
  | [], _, _, h => h.1
  | i :: r, _, _, ⟨v, t, W1, W2, e, h1, h2, _⟩ => by rw [e, h1.1, Rps.bools h2]; rfl
theorem Rps.strs : ∀ {is : List (List Nat)} {vs : List V} {W : List Addr}, Rps K H (is.map D.str) vs W → vs = (is.map mkS).map V.str ∧ ∀ l ∈ is, okS l
  | [], _, _, h => ⟨h.1, fun _ z => nomatch z⟩
  | i :: r, _, _, ⟨v, t, W1, W2, e, h1, h2, _⟩ => by
    obtain ⟨a, b⟩ := Rps.strs h2
    refine ⟨by rw [e, h1.1, a]; rfl, fun l hl => ?_⟩
    rcases List.mem_cons.mp hl with rfl | hl
    · exact h1.2.2
    · exact b l hl
section
variable {X : Cx}
theorem cr_len : CallR X (.builtin "len") (rB1 X.K (biF .len)) := by
  intro pins s σ H vs us Q I r h
  obtain ⟨x, z, v, W1, rfl, hz, rp, n⟩ := h
  cases x with
  | str l =>
    simp only [biF] at hz
    split at hz <;> simp only [reduceCtorEq, Option.some.injEq] at hz
    subst hz
    rename_i hl
    exact call_len_str pins s σ H _ us Q I r ⟨mkS l, by rw [rp.1], by rw [mkS_len]; exact cap_le hl, by rw [mkS_len]; exact n.int⟩
  | tup l =>
    simp only [biF, Option.some.injEq] at hz
    subst hz
    obtain ⟨a, ws, rfl, sq, q⟩ := rp
    exact call_len_seq pins s σ H _ us Q I r ⟨a, ws, rfl, .inr sq, by rw [q.length]; exact n.int⟩
  | lst l =>
    simp only [biF, Option.some.injEq] at hz
    subst hz
    obtain ⟨a, ws, _, rfl, sq, q, _⟩ := rp
    exact call_len_seq pins s σ H _ us Q I r ⟨a, ws, rfl, .inl (SqL.of sq), by rw [q.length]; exact n.int⟩
  | fls l =>
    simp only [biF, Option.some.injEq] at hz
    subst hz
    obtain ⟨a, ws, rfl, sq, q⟩ := rp
    exact call_len_seq pins s σ H _ us Q I r ⟨a, ws, rfl, .inl sq.l, by rw [q.length]; exact n.int⟩
  | dct ks ds =>
    simp only [biF, Option.some.injEq] at hz
    subst hz
    obtain ⟨a, ws, _, rfl, ⟨kvs, ea, ek, _⟩, q, _⟩ := rp
    subst ek
    exact call_lenD pins s σ H _ us Q I r ⟨a, kvs, rfl, ea, by rw [List.length_map] at n; exact n.int⟩
  | _ => simp [biF] at hz
theorem cr_abs : CallR X (.builtin "abs") (rB1 X.K (biF .abs)) := by
  intro pins s σ H vs us Q I r h
  obtain ⟨x, z, v, W1, rfl, hz, rp, n⟩ := h
  cases x <;> first | (simp [biF] at hz; done) | skip
  simp only [biF, Option.some.injEq] at hz
  subst hz
  exact call_abs pins s σ H _ us Q I r ⟨_, by rw [rp.1], n.int⟩
theorem cr_int : CallR X (.type "int") (rB1 X.K (biF .int)) := by
  intro pins s σ H vs us Q I r h
  obtain ⟨x, z, v, W1, rfl, hz, rp, n⟩ := h
  cases x <;> first | (simp [biF] at hz; done) | skip
  · simp only [biF, Option.some.injEq] at hz
    subst hz
    exact call_int1 pins s σ H _ us Q I r (.inr ⟨_, by rw [rp.1], n.int⟩)
  · simp only [biF, Option.some.injEq] at hz
    subst hz
    exact call_int1 pins s σ H _ us Q I r (.inl ⟨_, by rw [rp.1], n.int⟩)
theorem cr_tuple : CallR X (.type "tuple") (rB1 X.K (biF .tuple)) := by
  intro pins s σ H vs us Q I r h
  obtain ⟨x, z, v, W1, rfl, hz, rp, n⟩ := h
  cases x <;> first | (simp [biF] at hz; done) | skip
  · simp only [biF] at hz
    split at hz <;> simp only [reduceCtorEq, Option.some.injEq] at hz
    subst hz
    rename_i hp
    obtain ⟨a, ws, rfl, sq, q⟩ := rp
    have w := q.pu_nil hp
    subst w
    exact call_tuple_of pins s σ H _ us Q I r ⟨a, ws, rfl, .inr ⟨sq, n.at ⟨a, ws, rfl, sq, q⟩⟩⟩
  · simp only [biF] at hz
    split at hz <;> simp only [reduceCtorEq, Option.some.injEq] at hz
    subst hz
    rename_i hp
    obtain ⟨a, ws, W', rfl, sq, q, _⟩ := rp
    have w := q.pu_nil hp
    subst w
    exact call_tuple_of pins s σ H _ us Q I r ⟨a, ws, rfl, .inl ⟨SqL.of sq, fun l hl => n.tup q hl⟩⟩
theorem keyD_rps : ∀ {kvs : List (Key × V)}, (∀ p ∈ kvs, okKey p.1) → Rps K H (kvs.map fun p => keyD p.1) (kvs.map fun p => kV p.1) []
  | [], _ => Rps.nil
  | p :: r, h => by
    have h1 : Rp K H (keyD p.1) (kV p.1) [] := by
      have hp := h p List.mem_cons_self
      cases e : p.1 with
      | inl i => exact ⟨rfl, rfl⟩
      | inr x =>
        rw [e] at hp
        exact ⟨by rw [kV, mkS_list], rfl, hp⟩
    exact Rps.cons h1 (keyD_rps fun q hq => h q (List.mem_cons_of_mem _ hq))
theorem vals_at : ∀ (l : List V) (us : List Value), l.length = us.length → (∀ (i : Nat) (x : V) (u : Value), l[i]? = some x → us[i]? = some u → RelV x u) → Vals l us
  | [], [], _, _ => .nil
  | [], _ :: _, h, _ => by simp at h
  | _ :: _, [], h, _ => by simp at h
  | x :: l, u :: us, h, r => .cons (r 0 x u rfl rfl) (vals_at l us (by simpa using h) fun i a b e1 e2 => r (i + 1) a b (by simpa using e1) (by simpa using e2))
/-- list(a text) -/
theorem call_list_txt (hc : X.calm = true) : CallR X (.type "list") (fun xs H Q => ∃ x : Str, xs = [.str x] ∧ x.length ≤ sizeLine ∧ ∀ p, H p = none → Q (.ref p) (upd H p (.lst (x.cps.toList.map fun c => V.str (mkS [c]))))) := by
  intro pins s σ H xs us Q I r h
  obtain ⟨x, rfl, hz, q⟩ := h
  obtain ⟨u, rfl, t, rfl⟩ := vals1 r
  refine call_list_str (I.ok.hd hc) x t (fun h' tk acc c' kp e it => ?_) (hn := hz)
  have hv : Vals (x.cps.toList.map fun c => V.str (mkS [c])) acc.toList := by
    refine vals_at _ _ (by simp [it.1]) fun i y u e1 e2 => ?_
    obtain ⟨c, k, e3, rfl⟩ := it.2 i u (by simpa using e2)
    have : x.cps.toList[i]? = some c := by simpa using e3
    rw [List.getElem?_map, this] at e1
    cases e1
    exact ⟨k, rfl⟩
  exact ⟨.ref s.heap.objs.size, _, I.laid (t' := tk) kp (Nat.le_refl _) (show ObjOk X.prog X.w _ h' _ (.lst _) from ⟨by simpa [Str.length] using hz, acc.toList, c', hv, by simpa using e⟩), rfl, q _ (I.hok.fresh (Nat.le_refl _))⟩
theorem chars_rps {K : PySem.W.Frag} {H : Hp} : ∀ {l : List Nat}, okS l → Rps K H (l.map fun c => D.str [c]) (l.map fun c => V.str (mkS [c])) []
  | [], _ => Rps.nil
  | c :: l, h => Rps.cons (W := []) ⟨rfl, rfl, fun d hd => h d (by rw [List.mem_singleton.mp hd]; exact List.mem_cons_self)⟩ (chars_rps fun d hd => h d (List.mem_cons_of_mem _ hd))
theorem cr_list (hc : X.calm = true) : CallR X (.type "list") (rB1 X.K (biF .list)) := by
  intro pins s σ H vs us Q I r h
  obtain ⟨x, z, v, W1, rfl, hz, rp, n⟩ := h
  cases x <;> first | (simp [biF] at hz; done) | skip
  · rename_i l
    simp only [biF] at hz
    split at hz <;> simp only [reduceCtorEq, Option.some.injEq] at hz
    subst hz
    rename_i hl
    obtain ⟨rfl, _, ok⟩ := rp
    exact call_list_txt hc pins s σ H _ us Q I r ⟨mkS l, rfl, by rw [mkS_len]; exact Nat.le_trans hl (by decide), fun p hp => n.lst (by rw [mkS_cps]; exact chars_rps ok) hp⟩
  · simp only [biF] at hz
    split at hz <;> simp only [reduceCtorEq, Option.some.injEq] at hz
    subst hz
    rename_i hp
    obtain ⟨a, ws, rfl, sq, q⟩ := rp
    have w := q.pu_nil hp
    subst w
    exact call_list_of pins s σ H _ us Q I r ⟨a, ws, rfl, .inr sq, fun l hl => n.lst q hl⟩
  · simp only [biF] at hz
    split at hz <;> simp only [reduceCtorEq, Option.some.injEq] at hz
    subst hz
    rename_i hp
    obtain ⟨a, ws, W', rfl, sq, q, _⟩ := rp
    have w := q.pu_nil hp
    subst w
    exact call_list_of pins s σ H _ us Q I r ⟨a, ws, rfl, .inl (SqL.of sq), fun l hl => n.lst q hl⟩
  · simp only [biF] at hz
    split at hz <;> simp only [reduceCtorEq, Option.some.injEq] at hz
    subst hz
    rename_i hp
    obtain ⟨a, ws, rfl, sq, q⟩ := rp
    have w := q.pu_nil hp
    subst w
    exact call_list_of pins s σ H _ us Q I r ⟨a, ws, rfl, .inl sq.l, fun l hl => n.lst q hl⟩
  · simp only [biF, Option.some.injEq] at hz
    subst hz
    obtain ⟨a, ws, _, rfl, ⟨kvs, ea, ek, _, ok⟩, q, _⟩ := rp
    subst ek
    exact call_list_dK hc pins s σ H _ us Q I r ⟨a, kvs, rfl, ea, fun l hl => n.lst (keyD_rps ok) hl⟩
theorem cr_sumD (hc : X.calm = true) : CallR X (.builtin "sum") (rB1 X.K (biF .sum)) := by
  intro pins s σ H vs us Q I r h
  obtain ⟨x, z, v, W1, rfl, hz, rp, n⟩ := h
  cases x <;> first | (simp [biF] at hz; done) | skip
  simp only [biF] at hz
  obtain ⟨is, hi, rfl⟩ := Option.map_eq_some_iff.mp hz
  have := ints_map hi
  subst this
  obtain ⟨a, ws, _, rfl, sq, q, _⟩ := rp
  have := q.ints
  subst this
  exact cr_sum hc pins s σ H _ us Q I r ⟨a, is, rfl, SqL.of sq, n.int⟩
theorem cr_anyD (hc : X.calm = true) : CallR X (.builtin "any") (rB1 X.K (biF .any)) := by
  intro pins s σ H vs us Q I r h
  obtain ⟨x, z, v, W1, rfl, hz, rp, n⟩ := h
  cases x <;> first | (simp [biF] at hz; done) | skip
  simp only [biF] at hz
  obtain ⟨is, hi, rfl⟩ := Option.map_eq_some_iff.mp hz
  have := bools_map hi
  subst this
  obtain ⟨a, ws, _, rfl, sq, q, _⟩ := rp
  have := q.bools
  subst this
  exact cr_any hc pins s σ H _ us Q I r ⟨a, is, rfl, SqL.of sq, n.bl⟩
theorem cr_allD (hc : X.calm = true) : CallR X (.builtin "all") (rB1 X.K (biF .all)) := by
  intro pins s σ H vs us Q I r h
  obtain ⟨x, z, v, W1, rfl, hz, rp, n⟩ := h
  cases x <;> first | (simp [biF] at hz; done) | skip
  simp only [biF] at hz
  obtain ⟨is, hi, rfl⟩ := Option.map_eq_some_iff.mp hz
  have := bools_map hi
  subst this
  obtain ⟨a, ws, _, rfl, sq, q, _⟩ := rp
  have := q.bools
  subst this
  exact cr_all hc pins s σ H _ us Q I r ⟨a, is, rfl, SqL.of sq, n.bl⟩
theorem cr_maxD (hc : X.calm = true) : CallR X (.builtin "max") (rB1p X.K (biF .max)) := by
  intro pins s σ H vs us Q I r h
  obtain ⟨x, z, v, W1, rfl, hz, rp, n⟩ := h
  cases x <;> first | (simp [biF] at hz; done) | skip
  simp only [biF] at hz
  obtain ⟨is, hi, hz⟩ := Option.bind_eq_some_iff.mp hz
  obtain ⟨m, hm, rfl⟩ := Option.map_eq_some_iff.mp hz
  have := ints_map hi
  subst this
  obtain ⟨a, ws, _, rfl, sq, q, _⟩ := rp
  have := q.ints
  subst this
  obtain ⟨m1, m2⟩ := List.max?_eq_some_iff.mp hm
  refine cr_max hc pins s σ H _ us Q I r ⟨a, is, rfl, SqL.of sq, List.length_pos_of_mem m1, fun k hk hk2 => ?_⟩
  have : k = m := Int.le_antisymm (m2 k hk) (hk2 m m1)
  subst this
  exact n (.int k) [] ⟨rfl, rfl⟩ (List.nil_sublist _)
theorem cr_minD (hc : X.calm = true) (hu : X.A.units + 200 < cLine) : CallR X (.builtin "min") (rB1p X.K (biF .min)) := by
  intro pins s σ H vs us Q I r h
  obtain ⟨x, z, v, W1, rfl, hz, rp, n⟩ := h
  cases x <;> first | (simp [biF] at hz; done) | skip
  rename_i l
  cases l with
  | nil => simp [biF] at hz
  | cons x0 xs =>
    simp only [biF] at hz
    obtain ⟨a, ws, W', rfl, sq, q, eW⟩ := rp
    obtain ⟨its, rv, hl, _⟩ := I.list (SqL.of sq)
    rw [Vals.ref1 r]
    have hlen : its.length = (x0 :: xs).length := by rw [← rv.length]; exact q.length
    obtain ⟨ok, ez⟩ := minL_best (x0 :: xs) z xs 0 rfl (by simp) (by simpa [bestAt] using hz)
    have at_ : ∀ i (u : Value), its.toArray[i]? = some u → ∃ (w : V) (W : List Addr), RelV w u ∧ ws[i]? = some w ∧ Rp X.K H ((x0 :: xs).getD i .non) w W ∧ W.Sublist W' := fun i u hu' => by
      have hi : i < (x0 :: xs).length := by
        have := (Array.getElem?_eq_some_iff.mp hu').1
        simp at this
        omega
      obtain ⟨w, W, e1, e2, e3⟩ := q.get' (i := i) (d := (x0 :: xs).getD i .non) (by rw [List.getD_eq_getElem?_getD, List.getElem?_eq_getElem hi]; rfl)
      obtain ⟨u', e4, e5⟩ := rv.get e1
      have : u' = u := by
        have : its[i]? = some u := by simpa using hu'
        rw [this] at e4
        exact (Option.some.inj e4).symm
      subst this
      exact ⟨w, W, e5, e1, e2, e3⟩
    refine call_min_old (iter_any hl.isList fun s₂ e2 st hne => ?_)
    subst e2
    refine ⟨_, _, _, _, _, _, lessD (x0 :: xs), rfl, Walks.list (A := X.A.in1) (I.ok.hd hc) _ a hne its.toArray, st, fun b hb => ?_, fun b hb => ?_, by simp [hlen], fun b o e => Heap.get?_push_of_some _ e, fun i vi vj s' Q' E' old li yi yj hq => ?_, fun u h' tk hy old => ?_⟩
    · have hla : a < s.heap.objs.size := by
        obtain ⟨o, e, _⟩ := hl.isList
        exact Heap.lt_size e
      show b < (s.heap.push _).objs.size
      rw [Heap.size_push]
      rcases List.mem_cons.mp hb with rfl | hb
      · exact Nat.lt_succ_self _
      · rw [List.mem_singleton.mp hb]; exact Nat.lt_succ_of_lt hla
    · rw [List.mem_singleton.mp hb]
      exact Heap.get?_none_of_le (Nat.le_refl _)
    · obtain ⟨w1, V1, r1, _, p1, _⟩ := at_ _ _ yi
      obtain ⟨w2, V2, r2, _, p2, _⟩ := at_ _ _ yj
      have hlt : i + 1 < (x0 :: xs).length := by
        simp [hlen] at li
        simpa using li
      have o := ok i (Nat.zero_le _) hlt
      simp only [ltOk, Bool.and_eq_true, decide_eq_true_eq, Bool.not_eq_true'] at o
      obtain ⟨⟨⟨⟨a1, n1⟩, n2⟩, nn⟩, dd⟩ := o
      obtain ⟨as, q1⟩ := Dp.reads I _ _ _ (p1.dp _ n1) r1
      obtain ⟨bs, q2⟩ := Dp.reads I _ _ _ (p2.dp _ n2) r2
      have e := PySem.W.rcLt_alike _ _ X.A.in1 s' vi vj as bs (PyProof.Rows.Reads.keeps old q1) (PyProof.Rows.Reads.keeps old q2) (toPy_alike _ _ a1) (alk_some _ _ a1 nn) (by
        rw [toPy_depth, toPy_depth]
        show X.A.units + 1 + _ < _
        omega)
      refine e X.prog X.w E' Q' ?_
      rw [toPy_lt _ _ a1 n1 n2 nn]
      exact hq
    · obtain ⟨w1, V1, r1, _, p1, s1⟩ := at_ _ _ hy
      have hsz : its.toArray.size - 1 = (x0 :: xs).length - 1 := by simp [hlen]
      rw [hsz, ← ez] at p1
      exact ⟨w1, H, I.kept (t' := tk) old, r1, n w1 V1 p1 (by rw [eW]; exact s1.trans (List.sublist_cons_self _ _))⟩
end
end
end G

/-! G3e: places, changes -/
namespace G
open PySem PySem.Spec PyProof.Rows L2
section
variable {K : PySem.W.Frag} {H H' : Hp}
/-- what stands in the object at a: its items' values -/
def Cont (K : PySem.W.Frag) (H : Hp) (a : Addr) (vs : List V) : Prop := H a = some (.lst vs) ∨ SqT K H a vs ∨ ∃ ks, KeysAt H a ks vs
/-- the value at a place -/
def VAt (K : PySem.W.Frag) (H : Hp) : V → List Nat → V → Prop
  | v, [], vx => vx = v
  | v, j :: r, vx => ∃ a vs v1, v = .ref a ∧ Cont K H a vs ∧ vs[j]? = some v1 ∧ VAt K H v1 r vx
theorem VAt.snoc : ∀ (js : List Nat) {v vx v1 : V} {a : Addr} {vs : List V} {j : Nat}, VAt K H v js vx → vx = .ref a → Cont K H a vs → vs[j]? = some v1 → VAt K H v (js ++ [j]) v1
  | [], _, _, _, _, _, _, h, e, c, q => by rw [h] at e; exact ⟨_, _, _, e, c, q, rfl⟩
  | i :: r, _, _, _, _, _, _, ⟨b, us, u, e1, c1, q1, t⟩, e, c, q => ⟨b, us, u, e1, c1, q1, t.snoc r e c q⟩
/-- a container's items, and what stands for them -/
theorem Rp.step {x : D} {v : V} {W : List Addr} (r : Rp K H x v W) {j : Nat} {y : D} (e : stepG x j = some y) :
    ∃ a ds vs W0, v = .ref a ∧ Cont K H a vs ∧ ds[j]? = some y ∧ Rps K H ds vs W0 ∧ (W = W0 ∨ W = a :: W0) := by
  cases x with
  | lst l =>
    obtain ⟨a, vs, W0, ev, s, q, eW⟩ := r
    exact ⟨a, l, vs, W0, ev, .inl s, e, q, .inr eW⟩
  | tup l =>
    obtain ⟨a, vs, ev, s, q⟩ := r
    exact ⟨a, l, vs, W, ev, .inr (.inl s), e, q, .inl rfl⟩
  | dct ks l =>
    obtain ⟨a, vs, W0, ev, s, q, eW⟩ := r
    exact ⟨a, l, vs, W0, ev, .inr (.inr ⟨ks, s⟩), e, q, .inr eW⟩
  | _ => simp [stepG] at e
theorem Cont.keep {M : Addr → Prop} (k : Keep M H H') {a : Addr} {vs : List V} (c : Cont K H a vs) (n : MutO (H a) → ¬ M a) : Cont K H' a vs := by
  rcases c with c | c | ⟨ks, kvs, c, r⟩
  · exact .inl (k.kp a _ c (n (.inl ⟨_, c⟩)))
  · exact .inr (.inl (k.sqT c))
  · exact .inr (.inr ⟨ks, kvs, k.kp a _ c (n (.inr (.inl ⟨_, c⟩))), r⟩)
theorem sqT_mut {a : Addr} {vs : List V} (h : SqT K H a vs) (m : MutO (H a)) (nk : ∀ o, K.lookup a = some o → H a = none) : False := by
  rcases h with (h | ⟨o, h⟩) | ⟨o, its, n, h, _⟩
  · rw [h] at m; exact notMut_tup m
  · rw [h] at m; exact notMut_frz m
  · rw [nk o h] at m; exact notMut_none m
/-- two readings of one object -/
theorem Cont.uniq {a : Addr} {vs us : List V} (c : Cont K H a vs) (d : Cont K H a us) (t : ∀ xs ys, SqT K H a xs → SqT K H a ys → xs = ys) (nk : ∀ o, K.lookup a = some o → H a = none) : vs = us := by
  rcases c with c | c | ⟨ks, kvs, c, e1, e2, _⟩ <;> rcases d with d | d | ⟨ks', kvs', d, e1', e2', _⟩
  · rw [c] at d; cases d; rfl
  · exact (sqT_mut d (.inl ⟨_, c⟩) nk).elim
  · rw [c] at d; cases d
  · exact (sqT_mut c (.inl ⟨_, d⟩) nk).elim
  · exact t _ _ c d
  · exact (sqT_mut c (.inr (.inl ⟨_, d⟩)) nk).elim
  · rw [c] at d; cases d
  · exact (sqT_mut d (.inr (.inl ⟨_, c⟩)) nk).elim
  · rw [c] at d; cases d; rw [e2, e2']
/-- facts of the heap at hand: tuples are read in one way; what is written is not tracked -/
structure Sane (K : PySem.W.Frag) (H : Hp) : Prop where
  tup : ∀ a xs ys, SqT K H a xs → SqT K H a ys → xs = ys
  wr : ∀ a o, K.lookup a = some o → H a = none
  dk : ∀ a kvs, H a = some (.dK kvs) → (kvs.map (·.1)).Nodup
theorem dK_nd {X : Cx} {pins : List (Addr × Obj)} {σ : Sg} {H : Hp} {s : Shared} (I : Inv X pins σ H s) {a : Addr} {kvs : List (Key × V)} (e : H a = some (.dK kvs)) : (kvs.map (·.1)).Nodup := by
  obtain ⟨_, _, vs, rel, o, es, ep, _, _, _, _, _, nd⟩ := dk_of I.hok e
  have : ∀ {l : List (Key × V)} {m : List (Key × Value)}, KV l m → l.map (·.1) = m.map (·.1) := by
    intro l m r
    induction r with
    | nil => rfl
    | cons h _ ih => rw [List.map_cons, List.map_cons, ih, h.1]
  rw [this rel]; exact nd
theorem sane_of {X : Cx} {pins : List (Addr × Obj)} {σ : Sg} {H : Hp} {s : Shared} (I : Inv X pins σ H s) : Sane X.K H :=
  ⟨fun a xs ys h1 h2 => I.tuple_inj h1 h2, fun a o h => (I.bs a o (I.mod.kin a o h)).2, fun a kvs h => dK_nd I h⟩
theorem VAt.rp : ∀ (js : List Nat) {d x : D} {v vx : V} {W : List Addr}, Sane K H → Rp K H d v W → getAt d js = some x → VAt K H v js vx → ∃ Wx, Rp K H x vx Wx ∧ Wx.Sublist W
  | [], d, x, v, vx, W, _, r, e, h => by
    simp only [getAt, Option.some.injEq] at e
    subst e
    rw [h]; exact ⟨W, r, List.Sublist.refl _⟩
  | j :: js, d, x, v, vx, W, sn, r, e, ⟨a, vs, v1, ev, c, q, t⟩ => by
    simp only [getAt] at e
    obtain ⟨y, e1, e2⟩ := Option.bind_eq_some_iff.mp e
    obtain ⟨a', ds, vs', W0, ev', c', hd, rs, hW⟩ := r.step e1
    rw [ev] at ev'; cases ev'
    have := c.uniq c' (sn.tup a) (sn.wr a)
    subst this
    obtain ⟨w, W1, g1, g2, g3⟩ := rs.get' hd
    rw [q] at g1; cases g1
    obtain ⟨Wx, r1, r2⟩ := VAt.rp js sn g2 e2 t
    refine ⟨Wx, r1, r2.trans (g3.trans ?_)⟩
    rcases hW with h | h <;> rw [h]
    · exact List.Sublist.refl _
    · exact List.sublist_cons_self _ _
theorem VAt.keep {M : Addr → Prop} (k : Keep M H H') : ∀ (js : List Nat) {d x : D} {v vx : V} {W : List Addr}, Sane K H → Rp K H d v W → getAt d js = some x → (∀ a ∈ W, ¬ M a) → VAt K H v js vx → VAt K H' v js vx
  | [], _, _, _, _, _, _, _, _, _, h => h
  | j :: js, d, x, v, vx, W, sn, r, e, w, ⟨a, vs, v1, ev, c, q, t⟩ => by
    simp only [getAt] at e
    obtain ⟨y, e1, e2⟩ := Option.bind_eq_some_iff.mp e
    obtain ⟨a', ds, vs', W0, ev', c', hd, rs, hW⟩ := r.step e1
    rw [ev] at ev'; cases ev'
    have := c.uniq c' (sn.tup a) (sn.wr a)
    subst this
    obtain ⟨w1, W1, g1, g2, g3⟩ := rs.get' hd
    rw [q] at g1; cases g1
    have sub : ∀ b ∈ W1, b ∈ W := fun b hb => by
      have := g3.subset hb
      rcases hW with h | h <;> rw [h]
      · exact this
      · exact List.mem_cons_of_mem _ this
    refine ⟨a, vs, v1, ev, c.keep k fun m => ?_, q, VAt.keep k js sn g2 e2 (fun b hb => w b (sub b hb)) t⟩
    rcases hW with h | h
    · -- a tuple
      intro z
      cases d with
      | tup l =>
        obtain ⟨b, us, e3, s3, _⟩ := r
        rw [ev] at e3; cases e3
        exact sqT_mut s3 m (sn.wr _)
      | lst l =>
        obtain ⟨b, us, W3, e3, s3, q3, hh⟩ := r
        rw [ev] at e3; cases e3
        exact w a (by rw [hh]; exact List.mem_cons_self) z
      | dct ks l =>
        obtain ⟨b, us, W3, e3, s3, q3, hh⟩ := r
        rw [ev] at e3; cases e3
        exact w a (by rw [hh]; exact List.mem_cons_self) z
      | _ => simp [stepG] at e1
    · exact w a (by rw [h]; exact List.mem_cons_self)

/-- the items but one stay -/
theorem Rps.put : ∀ {ds : List D} {vs : List V} {W : List Addr} {j : Nat} {d : D} {v : V}, Rps K H ds vs W → ds[j]? = some d → vs[j]? = some v → W.Nodup →
    ∃ W1, Rp K H d v W1 ∧ W1.Sublist W ∧ (∀ (M : Addr → Prop) (H' : Hp), Keep M H H' → (∀ a ∈ W, M a → a ∈ W1) → ∀ (d' : D) (W1' Wn : List Addr), Rp K H' d' v W1' → W1'.Nodup → (∀ a ∈ W1', a ∈ W1 ∨ a ∈ Wn) → (∀ a ∈ Wn, a ∉ W) →
      ∃ W', Rps K H' (ds.set j d') vs W' ∧ W'.Nodup ∧ ∀ a ∈ W', (a ∈ W ∧ a ∉ W1) ∨ a ∈ W1')
  | [], _, _, j, d, v, _, e, _, _ => by simp at e
  | d0 :: ds, _, _, 0, d, v, ⟨v0, r, W1, W2, ev, h, t, eW⟩, e, q, nd => by
    subst ev eW
    simp at e q
    subst e q
    refine ⟨W1, h, List.sublist_append_left _ _, fun M H' k hM d' W1' Wn h' nd' sub dis => ?_⟩
    have nd2 := List.nodup_append.mp nd
    refine ⟨W1' ++ W2, ⟨v0, r, W1', W2, rfl, h', Rps.keep k ds t fun a ha m => ?_, rfl⟩, ?_, fun a ha => ?_⟩
    · have := hM a (List.mem_append_right _ ha) m
      exact nd2.2.2 a this a ha rfl
    · refine List.nodup_append.mpr ⟨nd', nd2.2.1, fun a ha b hb e => ?_⟩
      subst e
      rcases sub a ha with z | z
      · exact nd2.2.2 a z a hb rfl
      · exact dis a z (List.mem_append_right _ hb)
    · rcases List.mem_append.mp ha with z | z
      · exact .inr z
      · exact .inl ⟨List.mem_append_right _ z, fun y => nd2.2.2 a y a z rfl⟩
  | d0 :: ds, _, _, j + 1, d, v, ⟨v0, r, W1, W2, ev, h, t, eW⟩, e, q, nd => by
    subst ev eW
    have nd2 := List.nodup_append.mp nd
    obtain ⟨Wj, h1, h2, h3⟩ := Rps.put t (by simpa using e) (by simpa using q) nd2.2.1
    refine ⟨Wj, h1, h2.trans (List.sublist_append_right _ _), fun M H' k hM d' W1' Wn h' nd' sub dis => ?_⟩
    obtain ⟨W', p1, p2, p3⟩ := h3 M H' k (fun a ha m => hM a (List.mem_append_right _ ha) m) d' W1' Wn h' nd' sub (fun a ha z => dis a ha (List.mem_append_right _ z))
    refine ⟨W1 ++ W', ⟨v0, r, W1, W', rfl, h.keep k d0 fun a ha m => ?_, by simpa using p1, rfl⟩, ?_, fun a ha => ?_⟩
    · have := h2.subset (hM a (List.mem_append_left _ ha) m)
      exact nd2.2.2 a ha a this rfl
    · refine List.nodup_append.mpr ⟨nd2.1, p2, fun a ha b hb e => ?_⟩
      subst e
      rcases p3 a hb with z | z
      · exact nd2.2.2 a ha a z.1 rfl
      · rcases sub a z with z | z
        · exact nd2.2.2 a ha a (h2.subset z) rfl
        · exact dis a z (List.mem_append_left _ ha)
    · rcases List.mem_append.mp ha with z | z
      · exact .inl ⟨List.mem_append_left _ z, fun y => nd2.2.2 a z a (h2.subset y) rfl⟩
      · rcases p3 a z with y | y
        · exact .inl ⟨List.mem_append_right _ y.1, y.2⟩
        · exact .inr y
/-- a place's content changed -/
theorem Rp.at : ∀ (js : List Nat) {d x : D} {v vx : V} {W : List Addr}, Sane K H → Rp K H d v W → W.Nodup → getAt d js = some x → VAt K H v js vx →
    ∃ Wx, Rp K H x vx Wx ∧ Wx.Sublist W ∧ (∀ (M : Addr → Prop) (H' : Hp), Keep M H H' → (∀ a ∈ W, M a → a ∈ Wx) → ∀ (x' : D) (Wx' Wn : List Addr), Rp K H' x' vx Wx' → Wx'.Nodup → (∀ a ∈ Wx', a ∈ Wx ∨ a ∈ Wn) → (∀ a ∈ Wn, a ∉ W) →
      ∃ W', Rp K H' (setAt d js x') v W' ∧ W'.Nodup ∧ ∀ a ∈ W', (a ∈ W ∧ a ∉ Wx) ∨ a ∈ Wx')
  | [], d, x, v, vx, W, sn, r, nd, e, h => by
    simp only [getAt, Option.some.injEq] at e
    subst e
    rw [h]
    exact ⟨W, r, List.Sublist.refl _, fun _ _ _ _ x' Wx' Wn h' nd' sub _ => ⟨Wx', h', nd', fun a ha => .inr ha⟩⟩
  | j :: js, d, x, v, vx, W, sn, r, nd, e, ⟨a, vs, v1, ev, c, q, t⟩ => by
    simp only [getAt] at e
    obtain ⟨y, e1, e2⟩ := Option.bind_eq_some_iff.mp e
    have es : ∀ x', setAt d (j :: js) x' = stepS d j (setAt y js x') := fun x' => by simp only [setAt, e1]
    cases d with
    | lst l =>
      obtain ⟨a', vs', W0, ev', s, rs, eW⟩ := r
      rw [ev] at ev'; cases ev'
      have := c.uniq (.inl s) (sn.tup a) (sn.wr a)
      subst this
      subst eW
      have ndc := List.nodup_cons.mp nd
      have hd : l[j]? = some y := e1
      obtain ⟨Wj, p1, p2, p3⟩ := rs.put hd q ndc.2
      obtain ⟨Wx, q1, q2, q3⟩ := Rp.at js sn p1 (ndc.2.sublist p2) e2 t
      refine ⟨Wx, q1, q2.trans (p2.trans (List.sublist_cons_self _ _)), fun M H' k hM x' Wx' Wn h' nd' sub dis => ?_⟩
      obtain ⟨Wj', b1, b2, b3⟩ := q3 M H' k (fun b hb m => hM b (List.mem_cons_of_mem _ (p2.subset hb)) m) x' Wx' Wn h' nd' sub (fun b hb z => dis b hb (List.mem_cons_of_mem _ (p2.subset z)))
      have b4 : ∀ b ∈ Wj', b ∈ Wj ∨ b ∈ Wn := fun b hb => (b3 b hb).elim (fun z => .inl z.1) fun z => (sub b z).elim (fun y => .inl (q2.subset y)) .inr
      obtain ⟨W', f1, f2, f3⟩ := p3 M H' k (fun b hb m => q2.subset (hM b (List.mem_cons_of_mem _ hb) m)) _ Wj' Wn b1 b2 b4 (fun b hb z => dis b hb (List.mem_cons_of_mem _ z))
      have f4 : ∀ b ∈ W', (b ∈ W0 ∧ b ∉ Wx) ∨ b ∈ Wx' := fun b hb => (f3 b hb).elim (fun z => .inl ⟨z.1, fun y => z.2 (q2.subset y)⟩) fun z => (b3 b z).elim (fun y => .inl ⟨p2.subset y.1, y.2⟩) .inr
      have na : ¬ M a := fun m => ndc.1 (p2.subset (q2.subset (hM a List.mem_cons_self m)))
      refine ⟨a :: W', ?_, ?_, fun b hb => ?_⟩
      · rw [es]; exact ⟨a, vs, W', ev, k.kp a _ s na, f1, rfl⟩
      · refine List.nodup_cons.mpr ⟨fun z => ?_, f2⟩
        rcases f4 a z with y | y
        · exact ndc.1 y.1
        · rcases sub a y with y | y
          · exact ndc.1 (p2.subset (q2.subset y))
          · exact dis a y List.mem_cons_self
      · rcases List.mem_cons.mp hb with rfl | hb
        · exact .inl ⟨List.mem_cons_self, fun y => ndc.1 (p2.subset (q2.subset y))⟩
        · rcases f4 b hb with y | y
          · exact .inl ⟨List.mem_cons_of_mem _ y.1, y.2⟩
          · exact .inr y
    | dct ks l =>
      obtain ⟨a', vs', W0, ev', s, rs, eW⟩ := r
      rw [ev] at ev'; cases ev'
      have := c.uniq (.inr (.inr ⟨ks, s⟩)) (sn.tup a) (sn.wr a)
      subst this
      subst eW
      have ndc := List.nodup_cons.mp nd
      have hd : l[j]? = some y := e1
      obtain ⟨Wj, p1, p2, p3⟩ := rs.put hd q ndc.2
      obtain ⟨Wx, q1, q2, q3⟩ := Rp.at js sn p1 (ndc.2.sublist p2) e2 t
      refine ⟨Wx, q1, q2.trans (p2.trans (List.sublist_cons_self _ _)), fun M H' k hM x' Wx' Wn h' nd' sub dis => ?_⟩
      obtain ⟨Wj', b1, b2, b3⟩ := q3 M H' k (fun b hb m => hM b (List.mem_cons_of_mem _ (p2.subset hb)) m) x' Wx' Wn h' nd' sub (fun b hb z => dis b hb (List.mem_cons_of_mem _ (p2.subset z)))
      have b4 : ∀ b ∈ Wj', b ∈ Wj ∨ b ∈ Wn := fun b hb => (b3 b hb).elim (fun z => .inl z.1) fun z => (sub b z).elim (fun y => .inl (q2.subset y)) .inr
      obtain ⟨W', f1, f2, f3⟩ := p3 M H' k (fun b hb m => q2.subset (hM b (List.mem_cons_of_mem _ hb) m)) _ Wj' Wn b1 b2 b4 (fun b hb z => dis b hb (List.mem_cons_of_mem _ z))
      have f4 : ∀ b ∈ W', (b ∈ W0 ∧ b ∉ Wx) ∨ b ∈ Wx' := fun b hb => (f3 b hb).elim (fun z => .inl ⟨z.1, fun y => z.2 (q2.subset y)⟩) fun z => (b3 b z).elim (fun y => .inl ⟨p2.subset y.1, y.2⟩) .inr
      have na : ¬ M a := fun m => ndc.1 (p2.subset (q2.subset (hM a List.mem_cons_self m)))
      refine ⟨a :: W', ?_, ?_, fun b hb => ?_⟩
      · obtain ⟨kvs, s1, s2⟩ := s
        rw [es]; exact ⟨a, vs, W', ev, ⟨kvs, k.kp a _ s1 na, s2⟩, f1, rfl⟩
      · refine List.nodup_cons.mpr ⟨fun z => ?_, f2⟩
        rcases f4 a z with y | y
        · exact ndc.1 y.1
        · rcases sub a y with y | y
          · exact ndc.1 (p2.subset (q2.subset y))
          · exact dis a y List.mem_cons_self
      · rcases List.mem_cons.mp hb with rfl | hb
        · exact .inl ⟨List.mem_cons_self, fun y => ndc.1 (p2.subset (q2.subset y))⟩
        · rcases f4 b hb with y | y
          · exact .inl ⟨List.mem_cons_of_mem _ y.1, y.2⟩
          · exact .inr y
    | tup l =>
      obtain ⟨a', vs', ev', s, rs⟩ := r
      rw [ev] at ev'; cases ev'
      have := c.uniq (.inr (.inl s)) (sn.tup a) (sn.wr a)
      subst this
      have hd : l[j]? = some y := e1
      obtain ⟨Wj, p1, p2, p3⟩ := rs.put hd q nd
      obtain ⟨Wx, q1, q2, q3⟩ := Rp.at js sn p1 (nd.sublist p2) e2 t
      refine ⟨Wx, q1, q2.trans p2, fun M H' k hM x' Wx' Wn h' nd' sub dis => ?_⟩
      obtain ⟨Wj', b1, b2, b3⟩ := q3 M H' k (fun b hb m => hM b (p2.subset hb) m) x' Wx' Wn h' nd' sub (fun b hb z => dis b hb (p2.subset z))
      have b4 : ∀ b ∈ Wj', b ∈ Wj ∨ b ∈ Wn := fun b hb => (b3 b hb).elim (fun z => .inl z.1) fun z => (sub b z).elim (fun y => .inl (q2.subset y)) .inr
      obtain ⟨W', f1, f2, f3⟩ := p3 M H' k (fun b hb m => q2.subset (hM b hb m)) _ Wj' Wn b1 b2 b4 dis
      exact ⟨W', by rw [es]; exact ⟨a, vs, ev, k.sqT s, f1⟩, f2, fun b hb => (f3 b hb).elim (fun z => .inl ⟨z.1, fun y => z.2 (q2.subset y)⟩) fun z => (b3 b z).elim (fun y => .inl ⟨p2.subset y.1, y.2⟩) .inr⟩
    | _ => simp [stepG] at e1
end
end G

/-! G3f: what a change makes of an object -/
namespace G
open PySem PySem.Spec PyProof.Rows L2
section
variable {K : PySem.W.Frag} {H H' : Hp}
theorem keep_upd {a : Addr} {o : HO} (m : MutO (H a)) : Keep (fun b => b = a) H (upd H a o) := ⟨fun b u e n => by rw [upd_ne n]; exact e, fun b e => e ▸ m⟩
/-- the object at a is changed to x', of what it was and of Wn -/
structure Chg (K : PySem.W.Frag) (H H' : Hp) (a : Addr) (x' : D) (Wx Wn Wx' : List Addr) : Prop where
  kp : Keep (fun b => b = a) H H'
  it : a ∈ Wx
  rp : Rp K H' x' (.ref a) Wx'
  nd : Wx'.Nodup
  sub : ∀ b ∈ Wx', b ∈ Wx ∨ b ∈ Wn
theorem chg_app {l : List D} {a : Addr} {vs : List V} {W0 Wy : List Addr} {y : D} {vy : V} (s : H a = some (.lst vs)) (q : Rps K H l vs W0) (nd : (a :: W0).Nodup) (ry : Rp K H y vy Wy) (ny : Wy.Nodup) (dj : ∀ b ∈ Wy, b ∉ a :: W0) :
    ∃ Wx', Chg K H (upd H a (.lst (vs ++ [vy]))) a (.lst (l ++ [y])) (a :: W0) Wy Wx' := by
  have k : Keep (fun b => b = a) H (upd H a (.lst (vs ++ [vy]))) := keep_upd (.inl ⟨_, s⟩)
  have nc := List.nodup_cons.mp nd
  refine ⟨a :: (W0 ++ (Wy ++ [])), k, List.mem_cons_self, ⟨a, vs ++ [vy], _, rfl, upd_same, (q.keep k _ fun b hb e => nc.1 (e ▸ hb)).append (Rps.cons (ry.keep k _ fun b hb e => dj b hb (e ▸ List.mem_cons_self)) Rps.nil), rfl⟩, ?_, fun b hb => ?_⟩
  · rw [List.append_nil]
    refine List.nodup_cons.mpr ⟨fun z => ?_, List.nodup_append.mpr ⟨nc.2, ny, fun b hb c hc e => dj c hc (e ▸ List.mem_cons_of_mem _ hb)⟩⟩
    rcases List.mem_append.mp z with z | z
    · exact nc.1 z
    · exact dj a z List.mem_cons_self
  · rw [List.append_nil] at hb
    rcases List.mem_cons.mp hb with rfl | hb
    · exact .inl List.mem_cons_self
    · rcases List.mem_append.mp hb with z | z
      · exact .inl (List.mem_cons_of_mem _ z)
      · exact .inr z
theorem chg_ext {l ys : List D} {a : Addr} {vs us : List V} {W0 Wy : List Addr} (s : H a = some (.lst vs)) (q : Rps K H l vs W0) (nd : (a :: W0).Nodup) (ry : Rps K H ys us Wy) (ny : Wy.Nodup) (dj : ∀ b ∈ Wy, b ∉ a :: W0) :
    ∃ Wx', Chg K H (upd H a (.lst (vs ++ us))) a (.lst (l ++ ys)) (a :: W0) Wy Wx' := by
  have k : Keep (fun b => b = a) H (upd H a (.lst (vs ++ us))) := keep_upd (.inl ⟨_, s⟩)
  have nc := List.nodup_cons.mp nd
  refine ⟨a :: (W0 ++ Wy), k, List.mem_cons_self, ⟨a, vs ++ us, _, rfl, upd_same, (q.keep k _ fun b hb e => nc.1 (e ▸ hb)).append (ry.keep k _ fun b hb e => dj b hb (e ▸ List.mem_cons_self)), rfl⟩, ?_, fun b hb => ?_⟩
  · refine List.nodup_cons.mpr ⟨fun z => ?_, List.nodup_append.mpr ⟨nc.2, ny, fun b hb c hc e => dj c hc (e ▸ List.mem_cons_of_mem _ hb)⟩⟩
    rcases List.mem_append.mp z with z | z
    · exact nc.1 z
    · exact dj a z List.mem_cons_self
  · rcases List.mem_cons.mp hb with rfl | hb
    · exact .inl List.mem_cons_self
    · rcases List.mem_append.mp hb with z | z
      · exact .inl (List.mem_cons_of_mem _ z)
      · exact .inr z
/-- one item for another, whatever stood there -/
theorem Rps.subst : ∀ {ds : List D} {vs : List V} {W : List Addr} {j : Nat} {d' : D} {v' : V} {W' : List Addr}, Rps K H ds vs W → j < ds.length → W.Nodup → Rp K H d' v' W' → W'.Nodup → (∀ b ∈ W', b ∉ W) →
    ∃ U, Rps K H (ds.set j d') (vs.set j v') U ∧ U.Nodup ∧ ∀ b ∈ U, b ∈ W ∨ b ∈ W'
  | [], _, _, _, _, _, _, _, h, _, _, _, _ => by simp at h
  | d :: ds, _, _, 0, d', v', W', ⟨v, r, W1, W2, e, h, t, eW⟩, _, nd, h', nd', dj => by
    subst e eW
    have n2 := List.nodup_append.mp nd
    refine ⟨W' ++ W2, ⟨v', r, W', W2, rfl, h', t, rfl⟩, List.nodup_append.mpr ⟨nd', n2.2.1, fun b hb c hc e => dj b hb (e ▸ List.mem_append_right _ hc)⟩, fun b hb => ?_⟩
    rcases List.mem_append.mp hb with z | z
    · exact .inr z
    · exact .inl (List.mem_append_right _ z)
  | d :: ds, _, _, j + 1, d', v', W', ⟨v, r, W1, W2, e, h, t, eW⟩, hj, nd, h', nd', dj => by
    subst e eW
    have n2 := List.nodup_append.mp nd
    obtain ⟨U, u1, u2, u3⟩ := Rps.subst (j := j) t (by simpa using hj) n2.2.1 h' nd' (fun b hb z => dj b hb (List.mem_append_right _ z))
    refine ⟨W1 ++ U, ⟨v, _, W1, U, rfl, h, by simpa using u1, rfl⟩, List.nodup_append.mpr ⟨n2.1, u2, fun b hb c hc e => ?_⟩, fun b hb => ?_⟩
    · subst e
      rcases u3 b hc with z | z
      · exact n2.2.2 b hb b z rfl
      · exact dj b z (List.mem_append_left _ hb)
    · rcases List.mem_append.mp hb with z | z
      · exact .inl (List.mem_append_left _ z)
      · rcases u3 b z with y | y
        · exact .inl (List.mem_append_right _ y)
        · exact .inr y
theorem chg_set {l : List D} {a : Addr} {vs : List V} {W0 Wy : List Addr} {y : D} {vy : V} {j : Nat} (s : H a = some (.lst vs)) (q : Rps K H l vs W0) (nd : (a :: W0).Nodup) (hj : j < l.length) (ry : Rp K H y vy Wy) (ny : Wy.Nodup) (dj : ∀ b ∈ Wy, b ∉ a :: W0) :
    ∃ Wx', Chg K H (upd H a (.lst (vs.set j vy))) a (.lst (l.set j y)) (a :: W0) Wy Wx' := by
  have k : Keep (fun b => b = a) H (upd H a (.lst (vs.set j vy))) := keep_upd (.inl ⟨_, s⟩)
  have nc := List.nodup_cons.mp nd
  obtain ⟨U, u1, u2, u3⟩ := Rps.subst (j := j) (q.keep k _ fun b hb e => nc.1 (e ▸ hb)) hj nc.2 (ry.keep k _ fun b hb e => dj b hb (e ▸ List.mem_cons_self)) ny (fun b hb z => dj b hb (List.mem_cons_of_mem _ z))
  refine ⟨a :: U, k, List.mem_cons_self, ⟨a, _, _, rfl, upd_same, u1, rfl⟩, List.nodup_cons.mpr ⟨fun z => ?_, u2⟩, fun b hb => ?_⟩
  · rcases u3 a z with y | y
    · exact nc.1 y
    · exact dj a y List.mem_cons_self
  · rcases List.mem_cons.mp hb with rfl | hb
    · exact .inl List.mem_cons_self
    · rcases u3 b hb with z | z
      · exact .inl (List.mem_cons_of_mem _ z)
      · exact .inr z
theorem kIx_lt {k : D} : ∀ {ks : List D} {j : Nat}, kIx k ks = some j → j < ks.length
  | [], _, h => by simp [kIx] at h
  | x :: xs, j, h => by
    simp only [kIx] at h
    split at h
    · cases h; simp
    · obtain ⟨i, hi, rfl⟩ := Option.map_eq_some_iff.mp h
      have := kIx_lt hi
      simp; omega
theorem map_other {q : Key} {v : V} : ∀ (ps : List (Key × V)), (∀ x ∈ ps, x.1 ≠ q) → ps.map (fun kv => if kv.1 = q then (kv.1, v) else kv) = ps
  | [], _ => rfl
  | p :: ps, h => by
    rw [List.map_cons, if_neg (h p List.mem_cons_self), map_other ps fun x hx => h x (List.mem_cons_of_mem _ hx)]
theorem map_vals {q : Key} {v : V} : ∀ {kvs : List (Key × V)} {j : Nat}, (kvs.map (·.1)).Nodup → kIx (keyD q) (kvs.map fun p => keyD p.1) = some j →
    (kvs.map (fun kv => if kv.1 = q then (kv.1, v) else kv)).map (·.2) = (kvs.map (·.2)).set j v
  | [], _, _, h => by simp [kIx] at h
  | p :: ps, j, nd, h => by
    simp only [List.map_cons, kIx, keyD_deq] at h
    rw [List.map_cons] at nd
    have nc := List.nodup_cons.mp nd
    by_cases e : p.1 = q
    · simp only [e, decide_true, if_true, Option.some.injEq] at h
      subst h
      rw [List.map_cons, if_pos e, map_other ps fun x hx z => nc.1 (by rw [e, ← z]; exact List.mem_map_of_mem (f := (·.1)) hx)]
      rfl
    · simp only [e, decide_false, Bool.false_eq_true, if_false] at h
      obtain ⟨i, hi, rfl⟩ := Option.map_eq_some_iff.mp h
      rw [List.map_cons, if_neg e, List.map_cons, map_vals nc.2 hi]
      rfl
theorem kIx_any (q : Key) (kvs : List (Key × V)) : (kvs.any fun kv => decide (kv.1 = q)) = (kIx (keyD q) (kvs.map fun p => keyD p.1)).isSome := by
  rw [kIx_some, valV_any]
/-- d[q] = v -/
theorem putK_d {q : Key} {v : V} {kvs : List (Key × V)} (nd : (kvs.map (·.1)).Nodup) {ks : List D} {l : List D} (ek : ks = kvs.map fun p => keyD p.1) (x : D) {W Wy : List Addr} (ok : ∀ p ∈ kvs, okKey p.1) (oq : okKey q) (r : Rps K H l (kvs.map (·.2)) W) (rn : W.Nodup) (ry : Rp K H x v Wy) (ny : Wy.Nodup) (dj : ∀ b ∈ Wy, b ∉ W) :
    (dput ks l (keyD q) x).1 = (putK kvs q v).map (fun p => keyD p.1) ∧ (∀ p ∈ putK kvs q v, okKey p.1) ∧ ∃ U, Rps K H (dput ks l (keyD q) x).2 ((putK kvs q v).map (·.2)) U ∧ U.Nodup ∧ ∀ b ∈ U, b ∈ W ∨ b ∈ Wy := by
  subst ek
  unfold putK dput
  rw [kIx_any]
  cases e : kIx (keyD q) (kvs.map fun p => keyD p.1) with
  | some j =>
    simp only [Option.isSome_some, if_true]
    have hj : j < l.length := by
      have := kIx_lt e
      have hl := r.length
      simp at this hl
      omega
    refine ⟨?_, fun p hp => ?_, ?_⟩
    · rw [List.map_map]
      refine List.map_congr_left fun p _ => ?_
      show keyD p.1 = keyD (if p.1 = q then (p.1, v) else p).1
      split <;> rfl
    · obtain ⟨p0, h0, rfl⟩ := List.mem_map.mp hp
      have := ok p0 h0
      split <;> exact this
    · rw [map_vals nd e]
      exact Rps.subst r hj rn ry ny dj
  | none =>
    simp only [Option.isSome_none, Bool.false_eq_true, if_false]
    refine ⟨by simp, fun p hp => ?_, W ++ (Wy ++ []), ?_, ?_, fun b hb => ?_⟩
    · rcases List.mem_append.mp hp with h | h
      · exact ok p h
      · rw [List.mem_singleton.mp h]; exact oq
    · rw [List.map_append]
      exact r.append (Rps.cons ry Rps.nil)
    · rw [List.append_nil]
      exact List.nodup_append.mpr ⟨rn, ny, fun b hb c hc e => dj c hc (e ▸ hb)⟩
    · rw [List.append_nil] at hb
      exact List.mem_append.mp hb
theorem chg_dput {ks l : List D} {a : Addr} {kvs : List (Key × V)} {W0 Wy : List Addr} {x : D} {v : V} {q : Key} (s : H a = some (.dK kvs)) (dn : (kvs.map (·.1)).Nodup) (ek : ks = kvs.map fun p => keyD p.1) (ok : ∀ p ∈ kvs, okKey p.1) (oq : okKey q)
    (r : Rps K H l (kvs.map (·.2)) W0) (nd : (a :: W0).Nodup) (ry : Rp K H x v Wy) (ny : Wy.Nodup) (dj : ∀ b ∈ Wy, b ∉ a :: W0) :
    ∃ Wx', Chg K H (upd H a (.dK (putK kvs q v))) a (.dct (dput ks l (keyD q) x).1 (dput ks l (keyD q) x).2) (a :: W0) Wy Wx' := by
  have k : Keep (fun b => b = a) H (upd H a (.dK (putK kvs q v))) := keep_upd (.inr (.inl ⟨_, s⟩))
  have nc := List.nodup_cons.mp nd
  obtain ⟨e1, e2, U, u1, u2, u3⟩ := putK_d dn ek x ok oq (r.keep k _ fun b hb e => nc.1 (e ▸ hb)) nc.2 (ry.keep k _ fun b hb e => dj b hb (e ▸ List.mem_cons_self)) ny (fun b hb z => dj b hb (List.mem_cons_of_mem _ z))
  refine ⟨a :: U, k, List.mem_cons_self, ⟨a, _, _, rfl, ⟨_, upd_same, e1, rfl, e2⟩, u1, rfl⟩, List.nodup_cons.mpr ⟨fun z => ?_, u2⟩, fun b hb => ?_⟩
  · rcases u3 a z with y | y
    · exact nc.1 y
    · exact dj a y List.mem_cons_self
  · rcases List.mem_cons.mp hb with rfl | hb
    · exact .inl List.mem_cons_self
    · rcases u3 b hb with z | z
      · exact .inl (List.mem_cons_of_mem _ z)
      · exact .inr z
/-- the last item taken off -/
theorem Rps.last : ∀ {ds : List D} {vs : List V} {W : List Addr} {x : D}, Rps K H ds vs W → ds.getLast? = some x → W.Nodup →
    ∃ v W1 W2, vs[vs.length - 1]? = some v ∧ Rps K H ds.dropLast vs.dropLast W1 ∧ Rp K H x v W2 ∧ W = W1 ++ W2
  | [], _, _, _, _, h, _ => by simp at h
  | [d], _, _, x, ⟨v, r, W1, W2, e, h, t, eW⟩, hx, nd => by
    simp at hx
    subst hx
    obtain ⟨t1, t2⟩ := t
    subst t1 t2 e eW
    exact ⟨v, [], W1, rfl, Rps.nil, h, by simp⟩
  | d :: d2 :: ds, _, _, x, ⟨v, r, W1, W2, e, h, t, eW⟩, hx, nd => by
    subst e eW
    obtain ⟨u, A1, A2, a1, a2, a3, a4⟩ := Rps.last (x := x) t (by simpa using hx) (List.nodup_append.mp nd).2.1
    have hl := t.length
    cases r with
    | nil => simp at hl
    | cons r0 r1 =>
      refine ⟨u, W1 ++ A1, A2, by simpa using a1, ?_, a3, by rw [a4, List.append_assoc]⟩
      exact ⟨v, (r0 :: r1).dropLast, W1, A1, rfl, h, a2, rfl⟩
theorem chg_pop {l : List D} {a : Addr} {vs : List V} {W0 : List Addr} {x : D} (s : H a = some (.lst vs)) (q : Rps K H l vs W0) (nd : (a :: W0).Nodup) (hx : l.getLast? = some x) :
    ∃ v Wv Wx', vs[vs.length - 1]? = some v ∧ Chg K H (upd H a (.lst vs.dropLast)) a (.lst l.dropLast) (a :: W0) [] Wx' ∧ Rp K (upd H a (.lst vs.dropLast)) x v Wv ∧ Wv.Nodup ∧ (∀ b ∈ Wv, b ∈ a :: W0) ∧ ∀ b ∈ Wx', b ∉ Wv := by
  have k : Keep (fun b => b = a) H (upd H a (.lst vs.dropLast)) := keep_upd (.inl ⟨_, s⟩)
  have nc := List.nodup_cons.mp nd
  obtain ⟨v, W1, W2, h1, h2, h3, h4⟩ := q.last hx nc.2
  subst h4
  have na := List.nodup_append.mp nc.2
  have h2' := h2.keep k _ fun b hb e => nc.1 (e ▸ List.mem_append_left _ hb)
  refine ⟨v, W2, a :: W1, h1, ⟨k, List.mem_cons_self, ⟨a, _, _, rfl, upd_same, h2', rfl⟩, List.nodup_cons.mpr ⟨fun z => nc.1 (List.mem_append_left _ z), na.1⟩, fun b hb => ?_⟩, h3.keep k _ fun b hb e => nc.1 (e ▸ List.mem_append_right _ hb), na.2.1, fun b hb => List.mem_cons_of_mem _ (List.mem_append_right _ hb), ?_⟩
  · rcases List.mem_cons.mp hb with rfl | hb
    · exact .inl List.mem_cons_self
    · exact .inl (List.mem_cons_of_mem _ (List.mem_append_left _ hb))
  · intro b hb hv
    rcases List.mem_cons.mp hb with rfl | hb
    · exact nc.1 (List.mem_append_right _ hv)
    · exact na.2.2 b hb b hv rfl
end
end G

/-! G3g: join, dict(..), displays, get, min and max of two, [::-1], op= -/
namespace G
open PySem PySem.Spec PyProof.Rows L2
section
variable {K : PySem.W.Frag} {H H' : Hp}
/-! ### join -/
theorem glue_fold (g : List Nat) : ∀ (l : List (List Nat)) (acc : Array Nat), ((l.map mkS).foldl (fun acc p => acc ++ (mkS g).cps ++ p.cps) acc).toList = acc.toList ++ (l.map fun x => g ++ x).flatten
  | [], acc => by simp
  | x :: l, acc => by
    rw [List.map_cons, List.foldl_cons, glue_fold g l]
    simp [mkS]
theorem joinS_cons (g a : List Nat) (l : List (List Nat)) : joinS g (a :: l) = a ++ (l.map fun x => g ++ x).flatten := by
  induction l generalizing a with
  | nil => simp [joinS]
  | cons b r ih => rw [joinS, ih b]; simp
theorem txt_join (g : List Nat) (l : List (List Nat)) : Txt.join (mkS g) (l.map mkS) = mkS (joinS g l) := by
  show Builtin.Str.glued (mkS g) (l.map mkS) = _
  unfold Builtin.Str.glued
  cases l with
  | nil => rfl
  | cons a r =>
    rw [joinS_cons]
    apply congrArg (fun x => (⟨x⟩ : Str))
    apply Array.ext'
    have := glue_fold g r (mkS a).cps
    simp only [List.map_cons, List.drop_succ_cons, List.drop_zero, List.headD_cons] at this ⊢
    rw [this]
    simp [mkS]
theorem joinS_len (g : List Nat) (l : List (List Nat)) : (l.map List.length).sum + (l.length - 1) * g.length = (joinS g l).length := by
  cases l with
  | nil => simp [joinS]
  | cons a r =>
    rw [joinS_cons]
    simp only [List.length_append, List.length_flatten, List.map_map, List.map_cons, List.sum_cons, List.length_cons, Nat.add_sub_cancel]
    have : (r.map (List.length ∘ fun x => g ++ x)).sum = (r.map List.length).sum + r.length * g.length := by
      induction r with
      | nil => simp
      | cons b r ih =>
        simp only [List.map_cons, List.sum_cons, List.length_cons, Function.comp, List.length_append] at ih ⊢
        rw [ih, Nat.add_mul]
        omega
    omega
theorem okS_join {g : List Nat} {l : List (List Nat)} (hg : okS g) (h : ∀ x ∈ l, okS x) : okS (joinS g l) := by
  cases l with
  | nil => intro c hc; simp [joinS] at hc
  | cons a r =>
    rw [joinS_cons]
    refine okS_append (h a List.mem_cons_self) fun c hc => ?_
    obtain ⟨y, hy, q⟩ := List.mem_flatten.mp hc
    obtain ⟨z, hz, rfl⟩ := List.mem_map.mp hy
    exact okS_append hg (h z (List.mem_cons_of_mem _ hz)) c q
/-- a list or a tuple, read -/
theorem seq_of {y : D} {l : List D} {v : V} {W : List Addr} (h : seqOf y = some l) (r : Rp K H y v W) : ∃ a vs W0, v = .ref a ∧ (SqL K H a vs ∨ SqT K H a vs) ∧ Rps K H l vs W0 ∧ W0.Sublist W := by
  cases y <;> first | (simp [seqOf] at h; done) | skip
  · simp only [seqOf, Option.some.injEq] at h
    subst h
    obtain ⟨a, vs, e, s, q⟩ := r
    exact ⟨a, vs, W, e, .inr s, q, List.Sublist.refl _⟩
  · simp only [seqOf, Option.some.injEq] at h
    subst h
    obtain ⟨a, vs, W0, e, s, q, eW⟩ := r
    exact ⟨a, vs, W0, e, .inl (SqL.of s), q, by rw [eW]; exact List.sublist_cons_self _ _⟩
  · simp only [seqOf, Option.some.injEq] at h
    subst h
    obtain ⟨a, vs, e, s, q⟩ := r
    exact ⟨a, vs, W, e, .inl s.l, q, List.Sublist.refl _⟩
def rM1 (K : PySem.W.Frag) (f : D → D → Option D) : V → List V → Hp → VK → Prop := fun x xs H Q => ∃ dx dy z vy W0 W1, xs = [vy] ∧ f dx dy = some z ∧ Rp K H dx x W0 ∧ Rp K H dy vy W1 ∧ Nw K H Q z
section
variable {X : Cx}
theorem mt_joinD : MtR X "str.join" (rM1 X.K joinF) := by
  intro pins s σ H x xs v us Q I rx rs h
  obtain ⟨dx, dy, z, vy, W0, W1, rfl, hz, r1, r2, n⟩ := h
  cases dx <;> first | (simp [joinF] at hz; done) | skip
  rename_i sep
  simp only [joinF] at hz
  obtain ⟨l, h1, hz⟩ := Option.bind_eq_some_iff.mp hz
  obtain ⟨ss, h2, hz⟩ := Option.bind_eq_some_iff.mp hz
  split at hz <;> simp only [reduceCtorEq, Option.some.injEq] at hz
  subst hz
  rename_i hl
  obtain ⟨a, vs, W2, rfl, sq, q, _⟩ := seq_of h1 r2
  have := strs_map h2
  subst this
  obtain ⟨e, ok⟩ := q.strs
  subst e
  refine mt_join pins s σ H x _ v us Q I rx rs ⟨mkS sep, a, ss.map mkS, r1.1, rfl, sq, ?_, ?_⟩
  · have e1 : ((ss.map mkS).map (·.length)) = ss.map List.length := by
      rw [List.map_map]
      exact List.map_congr_left fun x _ => mkS_len x
    rw [e1, List.length_map, mkS_len]
    have e2 := joinS_len sep ss
    have c : cap = 1000000 := rfl
    have e3 : ss.length * sep.length ≤ (ss.length - 1) * sep.length + sep.length := by
      cases hs : ss.length with
      | zero => simp
      | succ m => rw [Nat.add_sub_cancel, Nat.add_mul]; omega
    omega
  · rw [txt_join]
    exact n.str (okS_join r1.2.2 ok)
/-! ### min, max of two -/
theorem cr_max2 (hc : X.calm = true) : CallR X (.builtin "max") (rB2 X.K (bi2F .max2)) := by
  intro pins s σ H vs us Q I r h
  obtain ⟨x, y, z, v, u, rfl, hz, r1, r2, n⟩ := h
  cases x <;> first | (simp [bi2F] at hz; done) | skip
  cases y <;> first | (simp [bi2F] at hz; done) | skip
  simp only [bi2F, Option.some.injEq] at hz
  subst hz
  exact call_max2 hc pins s σ H _ us Q I r ⟨_, _, by rw [r1.1, r2.1], n.int⟩
theorem min2_cases {x y z : D} (hz : bi2F .min2 x y = some z) : (∃ i j : Int, x = .int i ∧ y = .int j ∧ z = .int (if j < i then j else i)) ∨ minL x [y] = some z := by
  cases x <;> cases y <;> first | exact .inr hz | skip
  simp only [bi2F, Option.some.injEq] at hz
  exact .inl ⟨_, _, rfl, rfl, hz.symm⟩
theorem cr_min2 (hc : X.calm = true) (hu : X.A.units + 200 < cLine) : CallR X (.builtin "min") (rB2 X.K (bi2F .min2)) := by
  intro pins s σ H vs us Q I r h
  obtain ⟨x, y, z, v, u, rfl, hz, r1, r2, n⟩ := h
  rcases min2_cases hz with ⟨i, j, rfl, rfl, rfl⟩ | hz
  · exact call_min2 hc pins s σ H _ us Q I r ⟨_, _, by rw [r1.1, r2.1], n.int⟩
  · cases r with
    | cons rv r =>
    cases r with
    | cons ru r =>
    cases r
    rename_i v' u'
    simp only [minL] at hz
    split at hz <;> first | (cases hz; done) | skip
    rename_i o
    simp only [ltOk, Bool.and_eq_true, decide_eq_true_eq, Bool.not_eq_true'] at o
    obtain ⟨⟨⟨⟨a1, n1⟩, n2⟩, nn⟩, dd⟩ := o
    have hT : (s.heap.push { cls := .type "tuple", data := .seq #[v', u'] }).IsTuple s.heap.objs.size #[v', u'] := ⟨_, Heap.get?_push_size _ rfl, rfl, 0, rfl⟩
    have hsz : (s.heap.push { cls := .type "tuple", data := .seq #[v', u'] }).objs.size = s.heap.objs.size + 1 := Heap.size_push ..
    have ne : s.heap.objs.size ≠ (s.heap.push { cls := .type "tuple", data := .seq #[v', u'] }).objs.size := by rw [hsz]; exact Nat.ne_of_lt (Nat.lt_succ_self _)
    refine call_min_old2 (wpAny_pyIter_tuple hT ?_)
    refine ⟨_, _, _, _, _, _, fun i j => dlt ([x, y].getD i .non) ([x, y].getD j .non), rfl, Walks.tuple (A := X.A.in1) (I.ok.hd hc) _ s.heap.objs.size ne #[v', u'], ⟨⟨_, Heap.get?_push_size _ rfl, rfl, rfl⟩, hT.push _⟩, fun c hcm => ?_, fun c hcm => ?_, by simp,
      fun b o e => Heap.get?_push_of_some _ (Heap.get?_push_of_some _ e), fun i vi vj s' Q' E' old li yi yj hq => ?_, fun w h' tk hy old => ?_⟩
    · show c < ((s.heap.push _).push _).objs.size
      rw [Heap.size_push, hsz]
      rcases List.mem_cons.mp hcm with rfl | hcm
      · rw [hsz]; exact Nat.lt_succ_self _
      · rw [List.mem_singleton.mp hcm]; exact Nat.lt_succ_of_lt (Nat.lt_succ_self _)
    · rw [List.mem_singleton.mp hcm, hsz]
      exact Heap.get?_none_of_le (Nat.le_succ _)
    · have hi : i = 0 := by simp at li; omega
      subst hi
      have e1 : vi = u' := by simpa using yi.symm
      have e2 : vj = v' := by simpa [bestAt] using yj.symm
      subst e1 e2
      obtain ⟨as, q1⟩ := Dp.reads I _ _ _ (r1.dp _ n2) rv
      obtain ⟨bs, q2⟩ := Dp.reads I _ _ _ (r2.dp _ n1) ru
      have e := PySem.W.rcLt_alike _ _ X.A.in1 s' _ _ bs as (PyProof.Rows.Reads.keeps old q2) (PyProof.Rows.Reads.keeps old q1) (toPy_alike _ _ a1) (alk_some _ _ a1 nn) (by
        rw [toPy_depth, toPy_depth]
        show X.A.units + 1 + _ < _
        omega)
      refine e X.prog X.w E' Q' ?_
      rw [toPy_lt _ _ a1 n1 n2 nn]
      exact hq
    · have fin : ∀ {d : D} {vd : V} {ud : Value}, d = z → Rp X.K H d vd [] → RelV vd ud → w = ud → EP X pins σ Q w { s with heap := h', toks := tk } := fun {d vd ud} e1 e2 e3 e4 => by
        subst e1 e4
        exact ⟨vd, H, I.kept (t' := tk) old, e3, n.at e2⟩
      by_cases q : dlt y x = true
      · rw [if_pos q] at hz
        refine fin (Option.some.inj hz) r2 ru ?_
        have : bestAt (fun i j => dlt ([x, y].getD i .non) ([x, y].getD j .non)) 1 = 1 := by
          have q' : dlt ([x, y].getD 1 .non) ([x, y].getD 0 .non) = true := q
          simp only [bestAt, q', if_true]
        simp only [List.size_toArray, List.length_cons, List.length_nil, Nat.zero_add, Nat.add_sub_cancel] at hy
        rw [this] at hy
        simpa using hy.symm
      · rw [if_neg q] at hz
        refine fin (Option.some.inj hz) r1 rv ?_
        have : bestAt (fun i j => dlt ([x, y].getD i .non) ([x, y].getD j .non)) 1 = 0 := by
          have q' : ¬ dlt ([x, y].getD 1 .non) ([x, y].getD 0 .non) = true := q
          show (if dlt ([x, y].getD 1 .non) ([x, y].getD 0 .non) = true then 1 else 0) = 0
          exact if_neg q'
        simp only [List.size_toArray, List.length_cons, List.length_nil, Nat.zero_add, Nat.add_sub_cancel] at hy
        rw [this] at hy
        simpa using hy.symm
/-! ### x op= y -/
def iopOk : BOp → Bool
  | .add => true
  | .sub => true
  | .mul => true
  | _ => false
theorem ip_data (o : BOp) (ho : iopOk o = true) : PIp X (bop o) (fun vx vy H Q => ∃ x y z, iaug o x y = true ∧ binF o x y = some z ∧ Rp X.K H x vx [] ∧ Rp X.K H y vy [] ∧ Nw X.K H Q z) := by
  intro pins s σ H vx vy v u Q I rx ry h
  obtain ⟨x, y, z, hi, hz, r1, r2, n⟩ := h
  cases o <;> first | (simp [iopOk] at ho; done) | skip
  · cases x <;> cases y <;> first | (simp [iaug] at hi; done) | skip
    · simp only [binF, Option.some.injEq] at hz
      subst hz
      exact iop_add pins s σ H vx vy v u Q I rx ry ⟨_, _, r1.1, r2.1, n.int⟩
    · simp only [binF] at hz
      split at hz <;> simp only [reduceCtorEq, Option.some.injEq] at hz
      subst hz
      rename_i hl
      exact iop_add_str pins s σ H vx vy v u Q I rx ry ⟨_, _, r1.1, r2.1, by rw [mkS_len, mkS_len]; exact cap_le hl, by rw [mkS_append]; exact n.str (okS_append r1.2.2 r2.2.2)⟩
  · cases x <;> cases y <;> first | (simp [iaug] at hi; done) | skip
    simp only [binF, Option.some.injEq] at hz
    subst hz
    exact iop_sub pins s σ H vx vy v u Q I rx ry ⟨_, _, r1.1, r2.1, n.int⟩
  · cases x <;> cases y <;> first | (simp [iaug] at hi; done) | skip
    simp only [binF] at hz
    split at hz <;> simp only [reduceCtorEq, Option.some.injEq] at hz
    subst hz
    rename_i hl
    refine iop_mul pins s σ H vx vy v u Q I rx ry ⟨_, _, r1.1, r2.1, ?_, n.int⟩
    rcases (Bool.or_eq_true _ _).mp hl with q | q
    · exact .inl (small_iff q)
    · exact .inr (small_iff q)
end
end

section
variable {K : PySem.W.Frag} {H : Hp}
/-! ### pairs, displays, get -/
theorem mergeK_nil (kvs : List (Key × V)) : mergeK kvs [] = kvs := rfl
theorem mergeK_cons (kvs : List (Key × V)) (p : Key × V) (r : List (Key × V)) : mergeK kvs (p :: r) = mergeK (putK kvs p.1 p.2) r := rfl
theorem putK_nd {kvs : List (Key × V)} (nd : (kvs.map (·.1)).Nodup) (q : Key) (v : V) : ((putK kvs q v).map (·.1)).Nodup := by
  unfold putK
  split
  · have : (kvs.map fun kv => if kv.1 = q then (kv.1, v) else kv).map (·.1) = kvs.map (·.1) := by
      rw [List.map_map]
      refine List.map_congr_left fun p _ => ?_
      show (if p.1 = q then (p.1, v) else p).1 = p.1
      split <;> rfl
    rw [this]; exact nd
  · rename_i h
    rw [List.map_append]
    refine List.nodup_append.mpr ⟨nd, by simp, fun a ha b hb e => ?_⟩
    simp at hb
    subst e hb
    obtain ⟨p, hp, e⟩ := List.mem_map.mp ha
    exact h (List.any_eq_true.mpr ⟨p, hp, decide_eq_true e⟩)
/-- k1, v1, k2, v2 .. into a dict -/
theorem pairs2_merge : ∀ (l : List D) (ks ds kd vd : List D) (kvs : List (Key × V)) (us : List V) (W Wl : List Addr), pairs2 ks ds l = some (kd, vd) → (kvs.map (·.1)).Nodup → ks = (kvs.map fun p => keyD p.1) → (∀ p ∈ kvs, okKey p.1) → Rps K H ds (kvs.map (·.2)) W → W.Nodup →
    Rps K H l us Wl → Wl.Nodup → (∀ b ∈ Wl, b ∉ W) → kvs.length ≤ 15 →
    ∃ more : List (Key × V), us = more.flatMap (fun p => [kV p.1, p.2]) ∧ ((mergeK kvs more).map (·.1)).Nodup ∧ kd = ((mergeK kvs more).map fun p => keyD p.1) ∧ (∀ p ∈ mergeK kvs more, okKey p.1) ∧ ∃ U, Rps K H vd ((mergeK kvs more).map (·.2)) U ∧ U.Nodup ∧ ∀ b ∈ U, b ∈ W ∨ b ∈ Wl
  | [], ks, ds, kd, vd, kvs, us, W, Wl, h, nd, ek, ok, r, rn, hl, _, _, _ => by
    simp only [pairs2, Option.some.injEq, Prod.mk.injEq] at h
    obtain ⟨rfl, rfl⟩ := h
    rw [hl.1]
    exact ⟨[], rfl, nd, ek, ok, W, r, rn, fun b hb => .inl hb⟩
  | [x], ks, ds, kd, vd, kvs, us, W, Wl, h, _, _, _, _, _, _, _, _, _ => by simp [pairs2] at h
  | k :: x :: l, ks, ds, kd, vd, kvs, us, W, Wl, h, nd, ek, ok, r, rn, ⟨vk, r1, W1, Wr, e1, hk, ⟨vx, r2, W2, W3, e2, hx, hr, eW2⟩, eW⟩, ln, dj, hlen => by
    simp only [pairs2] at h
    split at h <;> first | (cases h; done) | skip
    rename_i c
    simp only [Bool.and_eq_true, decide_eq_true_eq] at c
    obtain ⟨q, rfl, rfl, oq, rfl⟩ := key_of_d hk c.1
    subst e1 e2 eW2
    rw [List.nil_append] at eW
    subst eW
    have n2 := List.nodup_append.mp ln
    obtain ⟨p1, p2, U, u1, u2, u3⟩ := putK_d nd ek x ok oq r rn hx n2.1 (fun b hb => dj b (List.mem_append_left _ hb))
    have hk15 : (putK kvs q vx).length ≤ 15 := by
      have : ks.length = kvs.length := by rw [ek, List.length_map]
      unfold putK
      split
      · rw [List.length_map]; exact hlen
      · rw [List.length_append]; simp; omega
    have dj3 : ∀ b ∈ W3, b ∉ U := fun b hb z => by
      rcases u3 b z with y | y
      · exact dj b (List.mem_append_right _ hb) y
      · exact n2.2.2 b y b hb rfl
    obtain ⟨more, m1, m2, m3, m4, U', v1, v2, v3⟩ := pairs2_merge l _ _ kd vd (putK kvs q vx) r2 U W3 h (putK_nd nd q vx) p1 p2 u1 u2 hr n2.2.1 dj3 hk15
    refine ⟨(q, vx) :: more, by rw [m1]; rfl, m2, m3, m4, U', v1, v2, fun b hb => ?_⟩
    rcases v3 b hb with z | z
    · rcases u3 b z with y | y
      · exact .inl y
      · exact .inr (List.mem_append_left _ y)
    · exact .inr (List.mem_append_right _ z)
/-- tuples of two into a dict; all plain -/
theorem pairsD_merge : ∀ (l : List D) (ks ds kd vd : List D) (kvs : List (Key × V)) (us : List V), pairsD ks ds l = some (kd, vd) → (kvs.map (·.1)).Nodup → ks = (kvs.map fun p => keyD p.1) → (∀ p ∈ kvs, okKey p.1) → Rps K H ds (kvs.map (·.2)) [] →
    Rps K H l us [] →
    ∃ (more : List (Key × V)) (ps : List Addr), us = ps.map V.ref ∧ Paired (fun p kv => SqT K H p [kV kv.1, kv.2]) ps more ∧ kd = ((mergeK kvs more).map fun p => keyD p.1) ∧ (∀ p ∈ mergeK kvs more, okKey p.1) ∧ Rps K H vd ((mergeK kvs more).map (·.2)) []
  | [], ks, ds, kd, vd, kvs, us, h, nd, ek, ok, r, hl => by
    simp only [pairsD, Option.some.injEq, Prod.mk.injEq] at h
    obtain ⟨rfl, rfl⟩ := h
    rw [hl.1]
    exact ⟨[], [], rfl, .nil, ek, ok, r⟩
  | d :: l, ks, ds, kd, vd, kvs, us, h, nd, ek, ok, r, ⟨v0, r0, W1, W2, e0, h0, t0, eW⟩ => by
    have e1 : W1 = [] := (List.append_eq_nil_iff.mp eW.symm).1
    have e2 : W2 = [] := (List.append_eq_nil_iff.mp eW.symm).2
    subst e0 e1 e2
    match d, h, h0 with
    | .tup [k, x], h, ⟨a, vs, ev, sq, q⟩ =>
      simp only [pairsD] at h
      split at h <;> first | (cases h; done) | skip
      rename_i c
      obtain ⟨vk, r1, V1, V2, f1, hk, ⟨vx, r2, V3, V4, f2, hx, hr, f3⟩, f4⟩ := q
      obtain ⟨g1, g2⟩ := hr
      subst g1 g2
      have z1 := (List.append_eq_nil_iff.mp f4.symm).1
      have z2 := (List.append_eq_nil_iff.mp f4.symm).2
      subst z1 z2
      have z3 := (List.append_eq_nil_iff.mp f3.symm).1
      subst z3
      obtain ⟨q, rfl, rfl, oq, _⟩ := key_of_d hk c
      subst f1 f2 ev
      obtain ⟨p1, p2, U, u1, u2, u3⟩ := putK_d nd ek x ok oq r List.nodup_nil hx List.nodup_nil (fun b hb => nomatch hb)
      have eU : U = [] := by
        cases U with
        | nil => rfl
        | cons b _ => exact ((u3 b List.mem_cons_self).elim (fun z => nomatch z) (fun z => nomatch z))
      subst eU
      obtain ⟨more, ps, m1, m2, m3, m4, m5⟩ := pairsD_merge l _ _ kd vd (putK kvs q vx) r0 h (putK_nd nd q vx) p1 p2 u1 t0
      exact ⟨(q, vx) :: more, a :: ps, by rw [m1]; rfl, .cons sq m2, m3, m4, m5⟩
section
variable {X : Cx}
theorem cr_dict (hc : X.calm = true) : CallR X (.type "dict") (rB1 X.K (biF .dict)) := by
  intro pins s σ H vs us Q I r h
  obtain ⟨x, z, v, W1, rfl, hz, rp, n⟩ := h
  cases x <;> first | (simp [biF] at hz; done) | skip
  · rename_i l
    simp only [biF] at hz
    split at hz <;> first | (cases hz; done) | skip
    rename_i c
    simp only [Bool.and_eq_true, decide_eq_true_eq] at c
    obtain ⟨⟨kd, vd⟩, h1, rfl⟩ := Option.map_eq_some_iff.mp hz
    obtain ⟨a, ws, W', rfl, sq, q, _⟩ := rp
    have w := q.pu_nil c.1
    subst w
    obtain ⟨more, ps, m1, m2, m3, m4, m5⟩ := pairsD_merge (K := X.K) (H := H) l [] [] kd vd [] ws h1 List.nodup_nil rfl (fun p hp => nomatch hp) Rps.nil q
    subst m1
    refine call_dictP hc pins s σ H _ us Q I r ⟨a, ps, more, rfl, SqL.of sq, m2, fun p hp => ?_⟩
    refine n (.ref p) _ [p] (same_upd hp) (fun b hb => by rw [List.mem_singleton.mp hb]; exact hp) (by simp) ⟨p, _, [], rfl, ⟨_, upd_same, m3, rfl, m4⟩, m5.same (same_upd hp), rfl⟩
  · simp only [biF] at hz
    split at hz <;> simp only [reduceCtorEq, Option.some.injEq] at hz
    subst hz
    rename_i ks ds c
    obtain ⟨a, ws, W', rfl, ⟨kvs, ea, ek, ev, ok⟩, q, _⟩ := rp
    have w := q.pu_nil c
    subst w ev
    refine call_dictD pins s σ H _ us Q I r ⟨a, kvs, rfl, .inl ea, fun p hp => ?_⟩
    exact n (.ref p) _ [p] (same_upd hp) (fun b hb => by rw [List.mem_singleton.mp hb]; exact hp) (by simp) ⟨p, _, [], rfl, ⟨_, upd_same, ek, rfl, ok⟩, q.same (same_upd hp), rfl⟩
/-! ### [::-1] -/
theorem back_ix (n : Nat) : Builtin.Str.strSliceIndices none none (-1) n = (List.range n).map fun k => n - 1 - k := by
  show sliceRange ((n : Int) - 1) (-1) (-1) = _
  unfold sliceRange
  rw [if_neg (by omega)]
  cases n with
  | zero => rfl
  | succ m =>
    rw [if_pos (by omega)]
    have : ((((m + 1 : Nat) : Int) - 1 - -1 - -1 - 1) / -(-1)).toNat = m + 1 := by
      show ((((m + 1 : Nat) : Int) - 1 - -1 - -1 - 1) / 1).toNat = m + 1
      rw [Int.ediv_one]; omega
    dsimp only
    rw [this]
    refine List.map_congr_left fun k hk => ?_
    have := List.mem_range.mp hk
    omega
theorem back_get (l : List Nat) : ∀ n, n ≤ l.length → ((List.range n).map fun k => n - 1 - k).filterMap (fun i => l[i]?) = (l.take n).reverse
  | 0, _ => by simp
  | n + 1, h => by
    have ih := back_get l n (by omega)
    rw [List.range_succ_eq_map, List.map_cons, List.map_map, List.filterMap_cons]
    have e : (fun k => n + 1 - 1 - k) ∘ Nat.succ = fun k => n - 1 - k := by
      funext k; simp; omega
    rw [e, ih]
    have hn : n < l.length := by omega
    simp only [Nat.add_sub_cancel, Nat.sub_zero, List.getElem?_eq_getElem hn]
    rw [List.take_succ_eq_append_getElem hn, List.reverse_append]
    rfl
theorem str_back (l : List Nat) : (((Builtin.Str.strSliceIndices none none (-1) (mkS l).length).filterMap ((mkS l).cps[·]?)).toArray : Array Nat) = l.reverse.toArray := by
  rw [back_ix, mkS_len]
  have := back_get l l.length (Nat.le_refl _)
  rw [List.take_length] at this
  rw [← this]
  congr 1
  have : (fun i : Nat => (mkS l).cps[i]?) = fun i : Nat => l[i]? := by funext i; simp [mkS]
  rw [this]
theorem pe_revS {e : Expr} {te : TE} {k : Nat} {p1 p2 p3 pos : Pos} (he : PE X e te) : PE X (.Subscript e (.Slice none none (some (.UnaryOp .USub (.Constant (.int 1) k p1) p2)) p3) pos)
    (fun σ H Q => te σ H fun x H1 => ∃ l, x = .str (mkS l) ∧ l.length ≤ sizeLine ∧ Q (.str (mkS l.reverse)) H1) := by
  refine ⟨fun pins s σ H Q I h => Subscript_ (thn (he.run pins s σ H _ I h) fun v s1 ⟨x, H1, I1, r1, l, ex, hl, q1⟩ => ?_)⟩
  subst ex
  obtain ⟨t, rfl⟩ := r1
  have st : PO X (some (.UnaryOp .USub (.Constant (.int 1) k p1) p2)) (tPart (tUn (rU fun i => .int (-i)) (tC (.int 1)))) := po_some (pe_un un_neg pe_int)
  refine wpAny_Slice (thn (po_none.run pins s1 σ H1 (fun o H2 => o = none ∧ H2 = H1) I1 ⟨rfl, rfl⟩) fun vl s2 ⟨lo, H2, I2, pl, el, e2⟩ => ?_)
  subst el e2
  refine thn (po_none.run pins s2 σ H2 (fun o H3 => o = none ∧ H3 = H2) I2 ⟨rfl, rfl⟩) fun vu s3 ⟨hi, H3, I3, pu', eu, e3⟩ => ?_
  subst eu e3
  refine thn (st.run pins s3 σ H3 (fun o H4 => o = some (-1) ∧ H4 = H3) I3 ⟨1, rfl, -1, rfl, rfl, rfl⟩) fun vs s4 ⟨o, H4, I4, ps, eo, e4⟩ => ?_
  subst eo e4
  have I5 : Inv X pins σ H4 { s4 with heap := s4.heap.push { cls := .type "slice", data := .fields #[vl, vu, vs] } } := I4.kept (t' := s4.toks) fun b ob q => Heap.get?_push_of_some _ q
  show wpAny (model X.prog X.w) X.A (subscriptTail e (.Slice none none (some (.UnaryOp .USub (.Constant (.int 1) k p1) p2)) p3) (.str (mkS l) t) (.ref s4.heap.objs.size)) (EP X pins σ Q) X.xe { s4 with heap := s4.heap.push { cls := .type "slice", data := .fields #[vl, vu, vs] } }
  cases pl
  cases pu'
  cases ps
  rename_i u _
  refine tail_any (ops := [.str (mkS l) t, .ref s4.heap.objs.size]) (typeIs_str _ _ t) slot_str_getitem.lookup ?_ (by with_unfolding_all rfl)
  refine wpAny_getItem_str_slice (l := none) (u := none) (st := some (-1, u)) ⟨_, Heap.get?_push_size _ rfl, rfl, rfl⟩ rfl ?_
  have e : sliceMade (mkS l) t none none (some (-1, u)) = .str (mkS l.reverse) := by
    unfold sliceMade slicePicked
    rw [if_neg (by simp)]
    exact congrArg (fun a => Made.str ⟨a⟩) (str_back l)
  rw [e]
  refine ⟨by rw [mkS_len, List.length_reverse]; exact hl, .str _, H4, I5.tok _, ⟨_, rfl⟩, q1⟩
end
end
end G

/-! G4a: a code against a text -/
namespace G
open PySem PySem.Spec PyProof.Rows L2

/-- what is known of the names around: by slot; the scope; the names whose cells were made here -/
structure Tb where
  /-- own exception classes; how each is made (0: without arguments) -/
  cs : List (Str × Nat)
  /-- numbers at the top -/
  mc : List (Str × Int)
structure Sx where
  N : List Str
  sc : Scope
  fnc : Str → Bool
  /-- a def's own block -/
  top : Bool
  tb : Tb
def visB (sc : Scope) (x : Str) : Bool := match sc.names.lookup x with
  | some .local => true
  | some .cell => true
  | some .free => true
  | _ => false
def glB (sc : Scope) (x : Str) : Bool := match sc.names.lookup x with
  | some .globalImplicit => true
  | _ => false
def dbgOk (x : Str) : Bool := !(x == ("__debug__" : Str)) && !(x == ("__classdict__" : Str)) && !decide (x = ("__name__" : Str))
def notStar : Expr → Bool
  | .Starred .. => false
  | _ => true
def attrOk : Expr → Bool
  | .Call (.Name _ _) [] [] _ => false
  | _ => true
def plainIx : Expr → Bool
  | .Slice .. => false
  | _ => true
def isComp : Expr → Bool
  | .ListComp .. => true
  | .SetComp .. => true
  | .DictComp .. => true
  | _ => false
/-- may stand as a test -/
def testOk : Expr → Bool
  | .IfExp .. => false
  | _ => true
def isSet : Expr → Bool
  | .Set .. => true
  | _ => false
def relS (scope sc : Scope) : Scope := { scope with names := scope.names.map fun (n, k) => if (k == NameKind.free && sc.kind == ScopeKind.function && sc.names.lookup n == some NameKind.cell) = true then (n, NameKind.cell) else (n, k) }
def Sx.blk (S : Sx) (scope : Scope) : Sx := ⟨S.N, relS scope S.sc, fun x => scope.names.lookup x == some NameKind.cell, false, S.tb⟩
def nmOk (S : Sx) (i : Nat) (x : Str) : Bool := decide (S.N[i]? = some x) && visB S.sc x && dbgOk x
/-- a name that may be stored -/
def stOk (S : Sx) (i : Nat) (x : Str) : Bool := decide (S.N[i]? = some x) && (match S.sc.names.lookup x with
  | some .local => true
  | some .cell => S.fnc x
  | _ => false)
def bltOk (S : Sx) (n x : Str) : Bool := decide (x = n) && glB S.sc x
def biName : BI → Str
  | .len => "len"
  | .abs => "abs"
  | .int => "int"
  | .tuple => "tuple"
  | .list => "list"
  | .sum => "sum"
  | .min => "min"
  | .max => "max"
  | .any => "any"
  | .all => "all"
  | .dict => "dict"
  | .sorted => "sorted"
  | .min2 => "min"
  | .max2 => "max"
  | .min3 => "min"
  | .max3 => "max"
def bi1Ok : BI → Bool
  | .min2 => false
  | .max2 => false
  | .sorted => false
  | .min3 => false
  | .max3 => false
  | _ => true
def bi3Ok : BI → Bool
  | .min3 => true
  | .max3 => true
  | _ => false
def bi2Ok : BI → Bool
  | .min2 => true
  | .max2 => true
  | _ => false
def opB (o : BOp) (p : Operator) : Bool := match o, p with
  | .add, .Add => true
  | .sub, .Sub => true
  | .mul, .Mult => true
  | .fdiv, .FloorDiv => true
  | .mod, .Mod => true
  | .pow, .Pow => true
  | _, _ => false
def copB (o : COp) (p : CmpOp) : Bool := match o, p with
  | .eq, .Eq => true
  | .ne, .NotEq => true
  | .lt, .Lt => true
  | .le, .LtE => true
  | .gt, .Gt => true
  | .ge, .GtE => true
  | .inn, .In => true
  | .nin, .NotIn => true
  | .isn, .Is => true
  | .ntn, .IsNot => true
  | _, _ => false
theorem opB_eq {o : BOp} {p : Operator} (h : opB o p = true) : p = bop o := by
  cases o <;> cases p <;> first | rfl | (simp [opB] at h; done)
theorem copB_eq {o : COp} {p : CmpOp} (h : copB o p = true) : p = cop o := by
  cases o <;> cases p <;> first | rfl | (simp [copB] at h; done)
def ownS (S : Sx) (is : List Nat) : List (Str × Nat) := is.map fun i => ((S.N[i]?).getD "", i)
def negLit : Expr → Option Int
  | .UnaryOp .USub (.Constant (.int j) _ _) _ => some j
  | _ => none
theorem negLit_of {z : Expr} {j : Int} (h : negLit z = some j) : ∃ k p1 p2, z = .UnaryOp .USub (.Constant (.int j) k p1) p2 := by
  unfold negLit at h
  split at h
  · cases h; exact ⟨_, _, _, rfl⟩
  · cases h
mutual
def chkT (S : Sx) : Tg → Expr → Bool
  | .v i, .Name x _ => stOk S i x
  | .t ts, .Tuple es _ _ => chkTs S ts es
  | _, _ => false
def chkTs (S : Sx) : Tgs → List Expr → Bool
  | .nil, [] => true
  | .cons t r, e :: es => chkT S t e && chkTs S r es
  | _, _ => false
end
/-- something written -/
def chkL : E → Expr → Bool
  | .int i, .Constant (.int j) _ _ => decide (i = j)
  | .str l, .Constant (.str x) _ _ => decide (x = mkS l) && l.all (fun c => decide (c < 1114112))
  | .bl b, .Constant (.bool c) _ _ => b == c
  | .non, .Constant .none _ _ => true
  | _, _ => false
mutual
def chkE (fn : List (Str × Nat)) : Sx → E → Expr → Bool
  | S, .var i, .Name x _ => nmOk S i x
  | S, .mv i, .Name x _ => nmOk S i x
  | _, .int i, .Constant (.int j) _ _ => decide (i = j)
  | S, .int i, .Name x _ => glB S.sc x && dbgOk x && decide (S.tb.mc.lookup x = some i)
  | _, .str l, .Constant (.str x) _ _ => decide (x = mkS l) && l.all (fun c => decide (c < 1114112))
  | _, .bl b, .Constant (.bool c) _ _ => b == c
  | _, .non, .Constant .none _ _ => true
  | S, .neg a, .UnaryOp .USub e _ => chkE fn S a e
  | S, .bin o a b, .BinOp x p y _ => opB o p && chkE fn S a x && chkE fn S b y
  | S, .cmp o a b, .Compare x [p] [y] _ => copB o p && chkE fn S a x && chkE fn S b y && !behindInMarks p y
  | S, .and a b, .BoolOp .And [x, y] _ => chkE fn S a x && chkE fn S b y && testOk x && testOk y
  | S, .and a b, .BoolOp .And (x :: y :: z :: r) pos => chkE fn S a x && testOk x && chkE fn S b (.BoolOp .And (y :: z :: r) pos)
  | S, .or a b, .BoolOp .Or [x, y] _ => chkE fn S a x && chkE fn S b y && testOk x && testOk y
  | S, .or a b, .BoolOp .Or (x :: y :: z :: r) pos => chkE fn S a x && testOk x && chkE fn S b (.BoolOp .Or (y :: z :: r) pos)
  | S, .not a, .UnaryOp .Not e _ => chkE fn S a e && testOk e
  | S, .ite c a b, .IfExp x y z _ => chkE fn S c x && testOk x && chkE fn S a y && chkE fn S b z
  | S, .tup es, .Tuple l _ _ => chkEs fn S es l && decide (l.length ≤ cap)
  | S, .lst es, .List l _ => chkEs fn S es l && decide (l.length ≤ cap)
  | S, .dis kvs, .Dict ks vs _ => chkKs fn S kvs ks vs && decide (ks.length ≤ 15)
  | S, .ix a i, .Subscript x y _ => chkE fn S a x && chkE fn S i y && plainIx y
  | S, .sl a lo hi, .Subscript x (.Slice l h none _) _ => chkE fn S a x && chkEo fn S lo l && chkEo fn S hi h
  | S, .rev a, .Subscript x (.Slice none none (some z) _) _ => chkE fn S a x && decide (negLit z = some 1)
  | S, .call f as, .Call (.Name x _) args [] _ => decide (fn[f]? = some (x, args.length)) && glB S.sc x && dbgOk x && chkAs fn S as args && !args.isEmpty
  | S, .bi b a, .Call (.Name x _) [y] [] _ => bi1Ok b && bltOk S (biName b) x && chkE fn S a y && notStar y
  | S, .bi2 b a a', .Call (.Name x _) [y, z] [] _ => bi2Ok b && bltOk S (biName b) x && chkE fn S a y && notStar y && chkE fn S a' z && notStar z
  | S, .bi3 b a a' a'', .Call (.Name x _) [y, z, u] [] _ => bi3Ok b && bltOk S (biName b) x && chkE fn S a y && notStar y && chkE fn S a' z && notStar z && chkE fn S a'' u && notStar u
  | S, .lcp a, .Call (.Name x _) [y] [] _ => bltOk S "list" x && chkE fn S a y && notStar y
  | S, .cmp2 o o' a b c, .Compare x [p, p'] [y, z] _ => copB o p && copB o' p' && chkE fn S a x && chkE fn S b y && chkE fn S c z && !lastMarks [p, p'] [y, z]
  | S, .tr1 t a, .Call (.Name x _) [.Call (.Name n _) [y] [] _] [] _ => bltOk S (if t = true then "tuple" else "list") x && bltOk S "range" n && chkE fn S a y && notStar y
  | S, .tr2 t a b, .Call (.Name x _) [.Call (.Name n _) [y, z] [] _] [] _ => bltOk S (if t = true then "tuple" else "list") x && bltOk S "range" n && chkE fn S a y && notStar y && chkE fn S b z && notStar z
  | S, .lset a, .Call (.Name x _) [.Call (.Name n _) [y] [] _] [] _ => bltOk S "len" x && bltOk S "set" n && chkE fn S a y && notStar y
  | S, .dcl i a v, .DictComp (.Name x _) vx [⟨.Name y p, iter, [], sy⟩] scope _ => decide (sy = 0) && blkC S.N S.sc scope (ownS S [i]) && chkT (S.blk scope) (.v i) (.Name y p) && nmOk (S.blk scope) i x && chkE fn S a iter && chkL v vx && !isSet iter
  | S, .sidx a b, .Call (.Attribute x m apos) [y] [] cpos => decide (m = ("index" : Str)) && chkE fn S a x && chkE fn S b y && notStar y && attrOk x && (apos.endLine == cpos.line)
  | S, .join a b, .Call (.Attribute x m apos) [y] [] cpos => decide (m = ("join" : Str)) && chkE fn S a x && chkE fn S b y && notStar y && attrOk x && (apos.endLine == cpos.line)
  | S, .get a k b, .Call (.Attribute x m apos) [y, z] [] cpos => decide (m = ("get" : Str)) && chkE fn S a x && chkE fn S k y && chkE fn S b z && notStar y && notStar z && attrOk x && (apos.endLine == cpos.line)
  | S, .comp tg src c e, .ListComp elt [⟨t, iter, ifs, sy⟩] scope _ => decide (sy = 0) && blkC S.N S.sc scope (ownS S tg.slots) && chkT (S.blk scope) tg t && chkSrc fn S src t iter && chkEi fn (S.blk scope) c ifs && chkE fn (S.blk scope) e elt && !isSet iter
  | S, .pop p, .Call (.Attribute x m apos) [] [] cpos => decide (m = ("pop" : Str)) && chkP fn S p x && attrOk x && (apos.endLine == cpos.line)
  | _, _, _ => false
def chkEs (fn : List (Str × Nat)) : Sx → Es → List Expr → Bool
  | _, .nil, [] => true
  | S, .cons e r, x :: xs => chkE fn S e x && notStar x && chkEs fn S r xs
  | _, _, _ => false
/-- k1, v1, .. -/
def chkKs (fn : List (Str × Nat)) : Sx → Es → List (Option Expr) → List Expr → Bool
  | _, .nil, [], [] => true
  | S, .cons k (.cons v r), some x :: xs, y :: ys => chkE fn S k x && chkE fn S v y && chkKs fn S r xs ys
  | _, _, _, _ => false
def chkEo (fn : List (Str × Nat)) : Sx → Eo → Option Expr → Bool
  | _, .non, none => true
  | S, .som e, some x => chkE fn S e x
  | _, _, _ => false
/-- a comprehension's tests -/
def chkEi (fn : List (Str × Nat)) : Sx → Eo → List Expr → Bool
  | _, .non, [] => true
  | S, .som e, [x] => chkE fn S e x && testOk x
  | _, _, _ => false
def chkAs (fn : List (Str × Nat)) : Sx → As → List Expr → Bool
  | _, .nil, [] => true
  | S, .val e r, x :: xs => chkE fn S e x && notStar x && chkAs fn S r xs
  | S, .ref i r, .Name x _ :: xs => nmOk S i x && chkAs fn S r xs
  | _, _, _ => false
/-- what is walked (t: the target) -/
def chkSrc (fn : List (Str × Nat)) : Sx → Src → Expr → Expr → Bool
  | S, .e a, _, x => chkE fn S a x
  | S, .r1 a, _, .Call (.Name n _) [x] [] _ => bltOk S "range" n && chkE fn S a x && notStar x
  | S, .r2 a b, _, .Call (.Name n _) [x, y] [] _ => bltOk S "range" n && chkE fn S a x && notStar x && chkE fn S b y && notStar y
  | S, .r3 a b c, _, .Call (.Name n _) [x, y, z] [] _ => bltOk S "range" n && chkE fn S a x && notStar x && chkE fn S b y && notStar y && decide (negLit z = some (-c))
  | S, .enum a, .Tuple _ _ _, .Call (.Name n _) [x] [] _ => bltOk S "enumerate" n && chkE fn S a x && notStar x
  | _, _, _, _ => false
def chkP (fn : List (Str × Nat)) : Sx → P → Expr → Bool
  | S, .v i, .Name x _ => nmOk S i x
  | S, .ix p e, .Subscript x y _ => chkP fn S p x && chkE fn S e y && plainIx y
  | _, _, _ => false
end
/-- x = [..] on one row: the name may take the list over before it is whole -/
def swB (sc : Scope) (x : Str) (py p : Pos) (scope : Scope) : Bool := decide (sc.names.lookup x = some .local) && (py.line == p.line) && !(scope.names.any fun (n, k) => n == x && (k == NameKind.local || k == NameKind.cell))
mutual
def chkS (fn : List (Str × Nat)) : Sx → S → Stmt → Bool
  | S, .set i e, .Assign [.Name x py] v pos => stOk S i x && chkE fn S e v && (match v with
      | .ListComp .. => true
      | .SetComp .. => false
      | .DictComp _ _ _ scope p => !swB S.sc x py p scope
      | _ => true)
  | S, .tset ts e, .Assign [.Tuple es _ _] v _ => chkTs S ts es && chkE fn S e v && !isComp v && (match v with
      | .Tuple .. => false
      | _ => true)
  | S, .aug i o e, .AugAssign (.Name x _) p v _ => stOk S i x && opB o p && iopOk o && chkE fn S e v
  | S, .put p k e, .Assign [.Subscript x y _] v _ => chkP fn S p x && chkE fn S k y && chkE fn S e v && !isComp v && plainIx y
  | S, .app p e, .Expr (.Call (.Attribute x m apos) [y] [] cpos) _ => decide (m = ("append" : Str)) && chkP fn S p x && chkE fn S e y && notStar y && attrOk x && (apos.endLine == cpos.line)
  | S, .ext p e, .Expr (.Call (.Attribute x m apos) [y] [] cpos) _ => decide (m = ("extend" : Str)) && chkP fn S p x && chkE fn S e y && notStar y && attrOk x && (apos.endLine == cpos.line)
  | S, .ex e, .Expr v _ => chkE fn S e v && !isComp v
  | S, .ret e, .Return (some v) _ => chkE fn S e v
  | _, .retN, .Return none _ => true
  | S, .ite c a b, .If x y z _ => chkE fn S c x && testOk x && chkSs fn S a y && chkSs fn S b z
  | S, .for tg src b _, .For t iter body [] _ => chkT S tg t && chkSrc fn S src t iter && chkSs fn S b body && !isSet iter
  | S, .wh c b _, .While x body [] _ => chkE fn S c x && testOk x && chkSs fn S b body
  | _, .brk, .Break _ => true
  | _, .cnt, .Continue _ => true
  | _, .pass, .Pass _ => true
  | S, .rai c none, .Raise (some (.Call (.Name x _) [] [] _)) none _ => decide (S.tb.cs[c]? = some (x, 0)) && glB S.sc x && dbgOk x
  | S, .tryR b c (.lit e), .Try body [.ExceptHandler (some (.Name x _)) none [.Return (some y) _] _] [] [] _ => S.top && decide (S.tb.cs[c]? = some (x, 0)) && glB S.sc x && dbgOk x && chkSs fn S b body && chkL e y
  | _, _, _ => false
def chkSs (fn : List (Str × Nat)) : Sx → Ss → List Stmt → Bool
  | _, .nil, [] => true
  | S, .cons s r, x :: xs => chkS fn S s x && chkSs fn S r xs
  | S, .kill _ r, xs => chkSs fn S r xs
  | _, _, _ => false
end
mutual
def asgS : S → List Nat
  | .set i _ => [i]
  | .tset ts _ => ts.slots
  | .aug i _ _ => [i]
  | .ite _ a b => asgSs a ++ asgSs b
  | .for tg _ b _ => tg.slots ++ asgSs b
  | .wh _ b _ => asgSs b
  | .tryR b _ _ => asgSs b
  | _ => []
def asgSs : Ss → List Nat
  | .nil => []
  | .cons s r => asgS s ++ asgSs r
  | .kill _ r => asgSs r
end
end G

/-! G4b: calls: what is handed over, what comes back -/
namespace G
open PySem PySem.Spec PyProof.Rows L2

def consW (W : List Addr) (Wl : WsT) : WsT
  | 0 => W
  | k + 1 => Wl k
theorem g_nil (i : Nat) : g [] i = none := by simp [g]
theorem g_cons0 (o : Option D) (r : Env) : g (o :: r) 0 = o := by simp [g]
theorem g_consS (o : Option D) (r : Env) (i : Nat) : g (o :: r) (i + 1) = g r i := by simp [g]
theorem gV_nil (i : Nat) : gV [] i = none := by simp [gV]
theorem gV_cons0 (o : Option V) (r : Sg) : gV (o :: r) 0 = o := by simp [gV]
theorem gV_consS (o : Option V) (r : Sg) (i : Nat) : gV (o :: r) (i + 1) = gV r i := by simp [gV]
section
variable {K : PySem.W.Frag} {H H' : Hp} {σ : Sg}
theorem EnvOk.nil : EnvOk K H [] [] fun _ => [] := ⟨rfl, (fun i d h => by rw [g_nil] at h; cases h), fun _ _ => rfl, fun _ => List.nodup_nil, fun _ _ _ h => absurd h List.not_mem_nil⟩
theorem EnvOk.cons {τ : Sg} {ρ : Env} {Wl : WsT} {v : V} {x : D} {W : List Addr} (e : EnvOk K H τ ρ Wl) (r : Rp K H x v W) (nd : W.Nodup) (dj : ∀ a ∈ W, ∀ k, a ∉ Wl k) : EnvOk K H (some v :: τ) (some x :: ρ) (consW W Wl) := by
  refine ⟨by simp [e.len], fun i d h => ?_, fun i h => ?_, fun i => ?_, fun i j a h1 h2 => ?_⟩
  · cases i with
    | zero => rw [g_cons0] at h; cases h; exact ⟨v, gV_cons0 _ _, r⟩
    | succ i =>
      rw [g_consS] at h
      obtain ⟨u, h1, h2⟩ := e.slot i d h
      exact ⟨u, by rw [gV_consS]; exact h1, h2⟩
  · cases i with
    | zero => rw [g_cons0] at h; cases h
    | succ i => rw [g_consS] at h; exact e.non i h
  · cases i with
    | zero => exact nd
    | succ i => exact e.nd i
  · cases i with
    | zero => cases j with
      | zero => rfl
      | succ j => exact absurd h2 (dj a h1 j)
    | succ i => cases j with
      | zero => exact absurd h1 (dj a h2 i)
      | succ j => rw [e.dj i j a h1 h2]
/-- the tail of a row of slots -/
theorem EnvOk.tail {o : Option V} {p : Option D} {τ : Sg} {ρ : Env} {Wl : WsT} (e : EnvOk K H (o :: τ) (p :: ρ) Wl) : EnvOk K H τ ρ fun k => Wl (k + 1) :=
  ⟨by simpa using e.len, fun i d h => by
    obtain ⟨u, h1, h2⟩ := e.slot (i + 1) d (by rw [g_consS]; exact h)
    exact ⟨u, by rw [gV_consS] at h1; exact h1, h2⟩, fun i h => e.non (i + 1) (by rw [g_consS]; exact h), fun i => e.nd (i + 1), fun i j a h1 h2 => by
    have := e.dj (i + 1) (j + 1) a h1 h2
    omega⟩
def refsOf : List Ag → List Nat
  | [] => []
  | .d _ :: r => refsOf r
  | .r i :: r => i :: refsOf r
/-- the arguments' values -/
def AgsOk (K : PySem.W.Frag) (H : Hp) (σ : Sg) : List Ag → List V → List (List Addr) → Prop
  | [], [], [] => True
  | .d x :: r, v :: vs, W :: Wt => Rp K H x v W ∧ AgsOk K H σ r vs Wt
  | .r i :: r, v :: vs, W :: Wt => gV σ i = some v ∧ W = [] ∧ AgsOk K H σ r vs Wt
  | _, _, _ => False
theorem AgsOk.length : ∀ {as : List Ag} {vs : List V} {Wt : List (List Addr)}, AgsOk K H σ as vs Wt → vs.length = as.length
  | [], [], [], _ => rfl
  | .d _ :: _, _ :: _, _ :: _, h => by simp [h.2.length]
  | .r _ :: _, _ :: _, _ :: _, h => by simp [h.2.2.length]
  | [], _ :: _, _, h => h.elim
  | [], [], _ :: _, h => h.elim
  | .d _ :: _, [], _, h => h.elim
  | .d _ :: _, _ :: _, [], h => h.elim
  | .r _ :: _, [], _, h => h.elim
  | .r _ :: _, _ :: _, [], h => h.elim
theorem take_ok : ∀ (as : List Ag) {vs : List V} {Wt : List (List Addr)} {ρ ρ1 : Env} {ds : List D} {Ws : WsT}, takeA as ρ = some (ds, ρ1) → EnvOk K H σ ρ Ws → AgsOk K H σ as vs Wt → Wt.flatten.Nodup → (∀ a ∈ Wt.flatten, ∀ i, a ∉ Ws i) →
    ∃ Wl Ws1, EnvOk K H (vs.map some) (ds.map some) Wl ∧ EnvOk K H σ ρ1 Ws1 ∧ ds.length = vs.length ∧ (∀ j, j ∉ refsOf as → Ws1 j = Ws j) ∧ (∀ j, Ws1 j = [] ∨ Ws1 j = Ws j) ∧
      (∀ k a, a ∈ Wl k → a ∈ Wt.flatten ∨ ∃ i ∈ refsOf as, a ∈ Ws i) ∧ ∀ k a j, a ∈ Wl k → a ∉ Ws1 j
  | [], vs, Wt, ρ, ρ1, ds, Ws, h, e, o, nd, dj => by
    cases vs with
    | cons _ _ => cases Wt <;> exact o.elim
    | nil =>
      simp only [takeA, Option.some.injEq, Prod.mk.injEq] at h
      obtain ⟨rfl, rfl⟩ := h
      exact ⟨fun _ => [], Ws, EnvOk.nil, e, rfl, fun _ _ => rfl, fun _ => .inr rfl, fun _ _ z => absurd z List.not_mem_nil, fun _ _ _ z => absurd z List.not_mem_nil⟩
  | .d x :: r, vs, Wt, ρ, ρ1, ds, Ws, h, e, o, nd, dj => by
    cases vs with
    | nil => cases Wt <;> exact o.elim
    | cons v vs =>
    cases Wt with
    | nil => exact o.elim
    | cons W Wt =>
      simp only [takeA] at h
      obtain ⟨⟨ds', ρ'⟩, h1, h2⟩ := Option.map_eq_some_iff.mp h
      simp only [Prod.mk.injEq] at h2
      obtain ⟨rfl, rfl⟩ := h2
      rw [List.flatten_cons] at nd dj
      have n2 := List.nodup_append.mp nd
      obtain ⟨Wl, Ws1, a1, a2, a3, a4, a5, a6, a7⟩ := take_ok r h1 e o.2 n2.2.1 fun a ha => dj a (List.mem_append_right _ ha)
      have dW : ∀ a ∈ W, ∀ k, a ∉ Wl k := fun a ha k z => by
        rcases a6 k a z with q | ⟨i, _, q⟩
        · exact n2.2.2 a ha a q rfl
        · exact dj a (List.mem_append_left _ ha) i q
      refine ⟨consW W Wl, Ws1, a1.cons o.1 n2.1 dW, a2, by simp [a3], a4, a5, fun k a z => ?_, fun k a j z => ?_⟩
      · cases k with
        | zero => rw [List.flatten_cons]; exact .inl (List.mem_append_left _ z)
        | succ k =>
          rcases a6 k a z with q | q
          · rw [List.flatten_cons]; exact .inl (List.mem_append_right _ q)
          · exact .inr q
      · cases k with
        | zero =>
          intro y
          rcases a5 j with q | q
          · rw [q] at y; cases y
          · rw [q] at y; exact dj a (List.mem_append_left _ z) j y
        | succ k => exact a7 k a j z
  | .r i :: r, vs, Wt, ρ, ρ1, ds, Ws, h, e, o, nd, dj => by
    cases vs with
    | nil => cases Wt <;> exact o.elim
    | cons v vs =>
    cases Wt with
    | nil => exact o.elim
    | cons W Wt =>
      simp only [takeA] at h
      obtain ⟨x, hx, h⟩ := Option.bind_eq_some_iff.mp h
      obtain ⟨⟨ds', ρ'⟩, h1, h2⟩ := Option.map_eq_some_iff.mp h
      simp only [Prod.mk.injEq] at h2
      obtain ⟨rfl, rfl⟩ := h2
      obtain ⟨o1, o2, o3⟩ := o
      subst o2
      rw [List.flatten_cons, List.nil_append] at nd dj
      obtain ⟨Wl, Ws1, a1, a2, a3, a4, a5, a6, a7⟩ := take_ok r h1 (e.kill i) o3 nd fun a ha j z => by
        by_cases q : j = i
        · subst q; rw [setW_same] at z; cases z
        · rw [setW_ne q] at z; exact dj a ha j z
      obtain ⟨u, hu, rx⟩ := e.slot i x hx
      rw [o1] at hu; cases hu
      have dW : ∀ a ∈ Ws i, ∀ k, a ∉ Wl k := fun a ha k z => by
        rcases a6 k a z with q | ⟨j, _, q⟩
        · exact dj a q i ha
        · by_cases y : j = i
          · subst y; rw [setW_same] at q; cases q
          · rw [setW_ne y] at q; exact y (e.dj j i a q ha)
      refine ⟨consW (Ws i) Wl, Ws1, a1.cons rx (e.nd i) dW, a2, by simp [a3], fun j hj => ?_, fun j => ?_, fun k a z => ?_, fun k a j z => ?_⟩
      · have : j ≠ i ∧ j ∉ refsOf r := ⟨fun q => hj (by rw [q]; exact List.mem_cons_self), fun q => hj (List.mem_cons_of_mem _ q)⟩
        rw [a4 j this.2, setW_ne this.1]
      · rcases a5 j with q | q
        · exact .inl q
        · by_cases y : j = i
          · subst y; rw [setW_same] at q; exact .inl q
          · rw [setW_ne y] at q; exact .inr q
      · cases k with
        | zero => exact .inr ⟨i, List.mem_cons_self, z⟩
        | succ k =>
          rcases a6 k a z with q | ⟨j, hj, q⟩
          · rw [List.flatten_cons, List.nil_append]; exact .inl q
          · by_cases y : j = i
            · subst y; rw [setW_same] at q; cases q
            · rw [setW_ne y] at q; exact .inr ⟨j, List.mem_cons_of_mem _ hj, q⟩
      · cases k with
        | zero =>
          intro y
          rcases a5 j with q | q
          · rw [q] at y; cases y
          · rw [q] at y
            by_cases w : j = i
            · subst w; rw [setW_same] at y; cases y
            · rw [setW_ne w] at y; exact w (e.dj j i a y z)
        | succ k => exact a7 k a j z
theorem give_ok : ∀ (as : List Ag) {vs : List V} {Wt : List (List Addr)} {H0 : Hp} {ρ1 ρ2 : Env} {rs : Env} {Wl Wc : WsT}, giveA as rs ρ1 = some ρ2 → AgsOk K H0 σ as vs Wt → EnvOk K H (vs.map some) rs Wl → EnvOk K H σ ρ1 Wc → (∀ k a j, a ∈ Wl k → a ∉ Wc j) → (∀ i ∈ refsOf as, i < ρ1.length) →
    ∃ W2, EnvOk K H σ ρ2 W2 ∧ (∀ j, j ∉ refsOf as → W2 j = Wc j) ∧ ∀ j a, a ∈ W2 j → a ∈ Wc j ∨ ∃ k, a ∈ Wl k
  | [], vs, Wt, H0, ρ1, ρ2, rs, Wl, Wc, h, o, el, e, dj, hb => by
    cases rs with
    | cons _ _ => simp [giveA] at h
    | nil =>
      simp only [giveA, Option.some.injEq] at h
      subst h
      exact ⟨Wc, e, fun _ _ => rfl, fun _ _ z => .inl z⟩
  | .d x :: r, vs, Wt, H0, ρ1, ρ2, rs, Wl, Wc, h, o, el, e, dj, hb => by
    cases vs with
    | nil => cases Wt <;> exact o.elim
    | cons v vs =>
    cases Wt with
    | nil => exact o.elim
    | cons W Wt =>
    cases rs with
    | nil => simp [giveA] at h
    | cons p rs =>
      simp only [giveA] at h
      obtain ⟨W2, a1, a2, a3⟩ := give_ok r h o.2 el.tail e (fun k a j z => dj (k + 1) a j z) hb
      exact ⟨W2, a1, a2, fun j a z => (a3 j a z).imp id fun ⟨k, q⟩ => ⟨k + 1, q⟩⟩
  | .r i :: r, vs, Wt, H0, ρ1, ρ2, rs, Wl, Wc, h, o, el, e, dj, hb => by
    cases vs with
    | nil => cases Wt <;> exact o.elim
    | cons v vs =>
    cases Wt with
    | nil => exact o.elim
    | cons W Wt =>
    cases rs with
    | nil => simp [giveA] at h
    | cons p rs =>
    cases p with
    | none => simp [giveA] at h
    | some x =>
      simp only [giveA] at h
      obtain ⟨o1, o2, o3⟩ := o
      obtain ⟨u, hu, rx⟩ := el.slot 0 x (g_cons0 _ _)
      rw [List.map_cons, gV_cons0] at hu
      cases hu
      have hi := hb i List.mem_cons_self
      have e2 := e.put hi o1 rx (el.nd 0) fun a ha j _ => dj 0 a j ha
      obtain ⟨W2, a1, a2, a3⟩ := give_ok r h o3 el.tail e2 (fun k a j z => by
        by_cases q : j = i
        · subst q; rw [setW_same]; intro y; have := el.dj (k + 1) 0 a z y; omega
        · rw [setW_ne q]; exact dj (k + 1) a j z) (fun j hj => by rw [List.length_set]; exact hb j (List.mem_cons_of_mem _ hj))
      refine ⟨W2, a1, fun j hj => ?_, fun j a z => ?_⟩
      · have : j ≠ i ∧ j ∉ refsOf r := ⟨fun q => hj (by rw [q]; exact List.mem_cons_self), fun q => hj (List.mem_cons_of_mem _ q)⟩
        rw [a2 j this.2, setW_ne this.1]
      · rcases a3 j a z with q | ⟨k, q⟩
        · by_cases y : j = i
          · subst y; rw [setW_same] at q; exact .inr ⟨0, q⟩
          · rw [setW_ne y] at q; exact .inl q
        · exact .inr ⟨k + 1, q⟩
/-! ### a def's promise -/
def spF (K : PySem.W.Frag) (XR : XRT) (np : Nat) (F : List D → FR) : Sp := fun vs H Q E => vs.length = np ∧ ∃ ds Wl, ds.length = vs.length ∧ EnvOk K H (vs.map some) (ds.map some) Wl ∧ match F ds with
  | .ok d rs => ∀ v H' Wl' Wv, EnvOk K H' (vs.map some) rs Wl' → Rp K H' d v Wv → Go (List.range np) Wl H Wl' H' → Kd none (List.range np) Wl H Wl' Wv → Q v H'
  | .er x => ∀ cls dx H', XR x cls dx H' → (∀ a o, H a = some o → (∀ k, a ∉ Wl k) → H' a = some o) → E cls dx H'
  | .no => False
theorem Wl_lt {τ : Sg} {ρ : Env} {Wl : WsT} (e : EnvOk K H τ ρ Wl) {k : Nat} {a : Addr} (h : a ∈ Wl k) : k < ρ.length := by
  by_cases q : k < ρ.length
  · exact q
  · rw [e.non k (by simp [g, List.getElem?_eq_none (Nat.le_of_not_lt q)])] at h; cases h
theorem call_ok {XR : XRT} {W : WX} {wr : List Nat} {Γ : Fns} {f np : Nat} {as : List Ag} {vs : List V} {Wt : List (List Addr)} {ρ : Env} {Ws Ws0 : WsT} {H0 : Hp} {Q : VK}
    (go : Go wr Ws0 H0 Ws H) (e : EnvOk K H σ ρ Ws) (o : AgsOk K H σ as vs Wt) (nd : Wt.flatten.Nodup) (dj : ∀ a ∈ Wt.flatten, (∀ i, a ∉ Ws i) ∧ ((∃ j ∈ wr, a ∈ Ws0 j) ∨ H0 a = none)) (hr : ∀ i ∈ refsOf as, i ∈ wr) (hlen : as.length = np)
    (h : Aft K XR W wr σ Ws0 H0 (callR Γ f as ρ) fun d ρ' => ∀ v H' Ws' W', EnvOk K H' σ ρ' Ws' → Rp K H' d v W' → Go wr Ws0 H0 Ws' H' → Kd none wr Ws0 H0 Ws' W' → Q v H') :
    spF K XR np (Γ f) vs H Q (WE W σ) := by
  unfold callR at h
  cases ht : takeA as ρ with
  | none => rw [ht] at h; exact h.elim
  | some p =>
    obtain ⟨ds, ρ1⟩ := p
    rw [ht] at h
    simp only at h
    obtain ⟨Wl, Ws1, a1, a2, a3, a4, a5, a6, a7⟩ := take_ok as ht e o nd fun a ha i => (dj a ha).1 i
    have hvl := o.length
    refine ⟨hvl.trans hlen, ds, Wl, a3, a1, ?_⟩
    have rsub : ∀ k a, a ∈ Wl k → (∃ j ∈ wr, a ∈ Ws0 j) ∨ H0 a = none := fun k a z => by
      rcases a6 k a z with q | ⟨i, hi, q⟩
      · exact (dj a q).2
      · exact go.sub i a (hr i hi) q
    cases hF : Γ f ds with
    | no => rw [hF] at h; exact h.elim
    | er x =>
      rw [hF] at h
      intro cls dx H' xr keep
      have hn : ∀ a o, H a = some o → (∀ j ∈ refsOf as, a ∉ Ws j) → (a ∉ Wt.flatten) → H' a = some o := fun a o q n1 n2 => keep a o q fun k z => by
        rcases a6 k a z with y | ⟨i, hi, y⟩
        · exact n2 y
        · exact n1 i hi y
      refine h cls dx H' Ws1 xr (a2.keep (M := fun a => ∃ k, a ∈ Wl k) ⟨fun a o q n => keep a o q fun k z => n ⟨k, z⟩, fun a ⟨k, z⟩ => a1.mut z⟩ fun i a z ⟨k, y⟩ => a7 k a i y z) ⟨fun a o q n => ?_, fun i a hi z => ?_, fun i hi => ?_⟩
      · refine hn a o (go.fr a o q n) (fun j hj z => ?_) fun z => ?_
        · rcases go.sub j a (hr j hj) z with ⟨i, hi, y⟩ | y
          · exact n i hi y
          · rw [q] at y; cases y
        · rcases (dj a z).2 with ⟨i, hi, y⟩ | y
          · exact n i hi y
          · rw [q] at y; cases y
      · rcases a5 i with y | y
        · rw [y] at z; cases z
        · rw [y] at z; exact go.sub i a hi z
      · rw [a4 i fun z => hi (hr i z)]; exact go.eq i hi
    | ok d rs =>
      rw [hF] at h
      simp only at h
      intro v H' Wl' Wv el rv gc kv
      cases hg : giveA as rs ρ1 with
      | none => rw [hg] at h; exact h.elim
      | some ρ2 =>
        rw [hg] at h
        have sub' : ∀ k a, a ∈ Wl' k → (∃ k', a ∈ Wl k') ∨ H a = none := fun k a z => by
          have hk : k ∈ List.range np := by
            have := Wl_lt el z
            rw [← el.len, List.length_map, hvl, hlen] at this
            exact List.mem_range.mpr this
          rcases gc.sub k a hk z with ⟨j, _, y⟩ | y
          · exact .inl ⟨j, y⟩
          · exact .inr y
        have keep : ∀ a o, H a = some o → (∀ k, a ∉ Wl k) → H' a = some o := fun a o q n => gc.fr a o q fun k _ => n k
        have e1 : EnvOk K H' σ ρ1 Ws1 := a2.keep (M := fun a => ∃ k, a ∈ Wl k) ⟨fun a o q n => keep a o q fun k z => n ⟨k, z⟩, fun a ⟨k, z⟩ => a1.mut z⟩ fun i a z ⟨k, y⟩ => a7 k a i y z
        have dj2 : ∀ k a j, a ∈ Wl' k → a ∉ Ws1 j := fun k a j z y => by
          rcases sub' k a z with ⟨k', q⟩ | q
          · exact a7 k' a j q y
          · have m := a2.mut y
            rw [q] at m; exact notMut_none m
        have hb : ∀ i ∈ refsOf as, i < ρ1.length := fun i hi => by
          have : ∀ (as : List Ag) {vs : List V} {Wt : List (List Addr)}, AgsOk K H σ as vs Wt → ∀ i ∈ refsOf as, i < σ.length := by
            intro as
            induction as with
            | nil => intro vs Wt _ i hi; exact nomatch hi
            | cons p r ih =>
              intro vs Wt o i hi
              cases p with
              | d x =>
                cases vs with
                | nil => cases Wt <;> exact o.elim
                | cons v vs => cases Wt with
                  | nil => exact o.elim
                  | cons W Wt => exact ih o.2 i hi
              | r k =>
                cases vs with
                | nil => cases Wt <;> exact o.elim
                | cons v vs => cases Wt with
                  | nil => exact o.elim
                  | cons W Wt =>
                    rcases List.mem_cons.mp hi with rfl | hi
                    · exact (List.getElem?_eq_some_iff.mp (gV_some o.1)).1
                    · exact ih o.2.2 i hi
          have := this as o i hi
          rw [a2.len] at this; exact this
        obtain ⟨W2, b1, b2, b3⟩ := give_ok as hg o el e1 dj2 hb
        have wl0 : ∀ k a, a ∈ Wl' k → (∃ j ∈ wr, a ∈ Ws0 j) ∨ H0 a = none := fun k a z => by
          rcases sub' k a z with ⟨k', q⟩ | q
          · exact rsub k' a q
          · by_cases w : ∃ j ∈ wr, a ∈ Ws0 j
            · exact .inl w
            · refine .inr ?_
              cases q0 : H0 a with
              | none => rfl
              | some o' => rw [go.fr a o' q0 fun i hi r => w ⟨i, hi, r⟩] at q; cases q
        refine h v H' W2 Wv b1 rv ⟨fun a o q n => ?_, fun i a hi z => ?_, fun i hi => ?_⟩ ⟨kv.1, fun a ha => ⟨fun i z => ?_, ?_⟩⟩
        · refine keep a o (go.fr a o q n) fun k z => ?_
          rcases rsub k a z with ⟨i, hi, y⟩ | y
          · exact n i hi y
          · rw [q] at y; cases y
        · rcases b3 i a z with y | ⟨k, y⟩
          · rcases a5 i with x | x
            · rw [x] at y; cases y
            · rw [x] at y; exact go.sub i a hi y
          · exact wl0 k a y
        · have hi' : i ∉ refsOf as := fun z => hi (hr i z)
          rw [b2 i hi', a4 i hi']; exact go.eq i hi
        · rcases b3 i a z with y | ⟨k, y⟩
          · -- the value's object in a slot that stood
            rcases (kv.2 a ha).2 with ⟨k', _, q⟩ | q
            · exact a7 k' a i q y
            · have m := a2.mut y
              rw [q] at m; exact notMut_none m
          · exact (kv.2 a ha).1 k y
        · rcases (kv.2 a ha).2 with ⟨k', _, q⟩ | q
          · exact rsub k' a q
          · by_cases w : ∃ j ∈ wr, a ∈ Ws0 j
            · exact .inl w
            · refine .inr ?_
              cases q0 : H0 a with
              | none => rfl
              | some o' => rw [go.fr a o' q0 fun i hi r => w ⟨i, hi, r⟩] at q; cases q
end
end G

/-! G4c: expressions -/
namespace G
open PySem PySem.Spec PyProof.Rows L2

def bltN : List Str := ["len", "abs", "int", "tuple", "list", "sum", "min", "max", "any", "all", "dict", "sorted", "range", "enumerate", "zip", "set"]
/-- the program around: the defs' names and arities, what they do, how exceptions stand, how many levels there are -/
structure Glob where
  fn : List (Str × Nat)
  Γ : Fns
  XR : XRT
  n : Nat
/-- an own exception class without own __init__ -/
structure ClsR (K : PySem.W.Frag) (C : Addr) : Prop where
  kp : PySem.W.keepIn K (.ref C) = true
  ex : PySem.W.excIn K C [.type "ValueError", .type "Exception", .type "BaseException", .type "object"] "ValueError.__new__" = true
  sub : PySem.W.subIn K (.ref C) (.type "BaseException") = some true
  ty : PySem.W.typeIn K (.ref C) = some (.type "type")
/-- the classes and the numbers of the table stand in the module -/
structure TbOk (K : PySem.W.Frag) (mg : Str → Option Value) (tb : Tb) : Prop where
  cls : ∀ (i : Nat) (nm : Str) (k : Nat), tb.cs[i]? = some (nm, k) → ∃ C, mg nm = some (.ref C) ∧ (k = 0 → ClsR K C)
  exm : ∀ (i j : Nat) (ni nj : Str) (ki kj : Nat) (Ci Cj : Addr), tb.cs[i]? = some (ni, ki) → tb.cs[j]? = some (nj, kj) → mg ni = some (.ref Ci) → mg nj = some (.ref Cj) → PySem.W.exmOne K (.ref Ci) (.ref Cj) = some (decide (i = j))
  mc : ∀ (x : Str) (i : Int), tb.mc.lookup x = some i → ∃ t, mg x = some (.int i t)
/-- how an exception of a class of the table stands -/
def XRc (mg : Str → Option Value) (tb : Tb) : XRT := fun x cls dx _ => ∃ nm k C, tb.cs[x.cls]? = some (nm, k) ∧ mg nm = some (.ref C) ∧ cls = .ref C ∧ x.fs = [] ∧ dx = none ∧ k = 0
structure Cg (G : Glob) (S : Sx) (W : WX) (X : Cx) : Prop where
  N : X.N = S.N
  sc : X.env.scope = S.sc
  kind : S.sc.kind = .function
  fn : ∀ x, S.fnc x = true → X.fn x = true
  calm : X.calm = true
  nd : S.N.Nodup
  tk : Takes X W
  own : PassesOwn (model X.prog X.w) X.A X.env X.xe
  room : Room G.n X.A
  blt : ∀ x ∈ bltN, X.mg x = none
  tb : TbOk X.K X.mg S.tb
  xr : G.XR = XRc X.mg S.tb
  top : S.top = true → X.stack = X.env :: X.outer ∧ X.env.frame = some X.env.locals
  fns : ∀ i x m, G.fn[i]? = some (x, m) → ∃ f fd ps, X.mg x = some (.ref f) ∧ PySem.W.keepIn X.K (.ref f) = true ∧ L2.Binds X.K fd ps [] ∧ FnOk X.prog X.w X.K X.mg X.base (L2.CX X.prog X.w) G.n f fd ps (spF X.K G.XR m (G.Γ i))
theorem Cg.hu {G : Glob} {S : Sx} {W : WX} {X : Cx} (c : Cg G S W X) : X.A.units + 200 < cLine := by have := c.room.un; omega
theorem Cg.nd' {G : Glob} {S : Sx} {W : WX} {X : Cx} (c : Cg G S W X) : X.N.Nodup := by rw [c.N]; exact c.nd

section
variable {X : Cx}
theorem pe_imp {e : Expr} {t t' : TE} (h : PE X e t) (i : ∀ σ H Q, t' σ H Q → t σ H Q) : PE X e t' := ⟨fun pins s σ H Q I q => h.run pins s σ H Q I (i σ H Q q)⟩
theorem pt_imp {e : Expr} {t t' : TT} (h : PT X e t) (i : ∀ σ H Q, t' σ H Q → t σ H Q) : PT X e t' := ⟨fun pins s σ H Q I q => h.run pins s σ H Q I (i σ H Q q)⟩
theorem pw_imp {e : Expr} {t t' : TT} (h : PW X e t) (i : ∀ σ H Q, t' σ H Q → t σ H Q) : PW X e t' := ⟨fun wh pins s σ H Q I q => h.run wh pins s σ H Q I (i σ H Q q)⟩
theorem pa_imp {e : List Expr} {t t' : TA} (h : PA X e t) (i : ∀ σ H Q, t' σ H Q → t σ H Q) : PA X e t' := ⟨fun pos pins s σ H Q I q => h.run pos pins s σ H Q I (i σ H Q q)⟩
theorem ps_imp {e : Stmt} {t t' : TS} (h : PS X e t) (i : ∀ D σ H, t' D σ H → t D σ H) : PS X e t' := ⟨fun pins s σ H D I q => h.run pins s σ H D I (i D σ H q)⟩
theorem pss_imp {e : List Stmt} {t t' : TS} (h : PSs X e t) (i : ∀ D σ H, t' D σ H → t D σ H) : PSs X e t' := ⟨fun pins s σ H D I q => h.run pins s σ H D I (i D σ H q)⟩
theorem pi_imp {tg e : Expr} {t t' : TI} (h : PI X tg e t) (i : ∀ σ H R, t' σ H R → t σ H R) : PI X tg e t' := ⟨fun pins s σ H R I q => h.run pins s σ H R I (i σ H R q)⟩
/-- a proof with the heap's own facts at hand -/
theorem pe_sane {e : Expr} {t : TE} (h : PE X e fun σ H Q => Sane X.K H → t σ H Q) : PE X e t := ⟨fun pins s σ H Q I q => h.run pins s σ H Q I fun _ => q⟩
end
section
variable {env : PySem.Env}
theorem star1 {e : Expr} {es : List Expr} (h : notStar e = true) : starEach (e :: es) env = (false, eval e env) :: starEach es env := by
  cases e <;> first | rfl | (simp [notStar] at h; done)
theorem stars {pos : Pos} : ∀ {es : List Expr}, (∀ e ∈ es, notStar e = true) → (backTo pos (starEach es env)).any (·.1) = false
  | [], _ => rfl
  | e :: es, h => by
    rw [star1 (h e List.mem_cons_self)]
    have := stars (pos := pos) fun x hx => h x (List.mem_cons_of_mem _ hx)
    unfold backTo at this ⊢
    simpa using this
theorem attr0 {o : Expr} {m : Str} (h : attrOk o = true) : attributeBase o m env (eval o env) = eval o env := by
  cases o <;> first | rfl | skip
  rename_i f as ks pos
  cases as <;> cases ks <;> cases f <;> first | rfl | (simp [attrOk] at h; done)
theorem plain0 {b : Expr} (h : plainIx b = true) : PlainIx b := fun o i => by
  cases b <;> first | rfl | (simp [plainIx] at h; done)
theorem folded0 {e : Expr} (h : isSet e = false) (x : Value) : foldedSetIterable e env x = pure x := by
  cases e <;> first | rfl | (simp [isSet] at h; done)
theorem few1 {e : Expr} (h : notStar e = true) {pos : Pos} : (((backTo pos (starEach [e] env)).all (fun x => !x.1)) && (backToKw pos (keywordEach [] env)).all (fun x => x.1.isSome) &&
    decide (([e] : List Expr).length + ([] : List Keyword).length + (if ([] : List Keyword).isEmpty then 0 else 1) < 30)) = true := by
  rw [star1 h]; rfl
theorem few2 {e f : Expr} (h : notStar e = true) (h' : notStar f = true) {pos : Pos} : (((backTo pos (starEach [e, f] env)).all (fun x => !x.1)) && (backToKw pos (keywordEach [] env)).all (fun x => x.1.isSome) &&
    decide (([e, f] : List Expr).length + ([] : List Keyword).length + (if ([] : List Keyword).isEmpty then 0 else 1) < 30)) = true := by
  rw [star1 h, star1 h']; rfl
end
theorem vis_of {sc : Scope} {x : Str} (h : visB sc x = true) : Vis sc x := by
  unfold visB at h
  split at h
  · exact .inl (by assumption)
  · exact .inr (.inl (by assumption))
  · exact .inr (.inr (by assumption))
  · cases h
theorem dbg_of {x : Str} (h : dbgOk x = true) : (x == ("__debug__" : Str)) = false ∧ (x == ("__classdict__" : Str)) = false ∧ x ≠ "__name__" := by
  unfold dbgOk at h
  simp only [Bool.and_eq_true, Bool.not_eq_true', decide_eq_false_iff_not] at h
  exact ⟨h.1.1, h.1.2, h.2⟩
section
variable {G : Glob} {S : Sx} {W : WX} {X : Cx}
theorem Cg.gl (c : Cg G S W X) {x : Str} (h : glB S.sc x = true) : Gl X x := by
  show List.lookup x X.env.scope.names = some .globalImplicit
  rw [c.sc]
  unfold glB at h
  split at h
  · assumption
  · cases h
theorem Cg.var (c : Cg G S W X) {i : Nat} {x : Str} {pos : Pos} (h : nmOk S i x = true) : PE X (.Name x pos) (tVar i) := by
  unfold nmOk at h
  simp only [Bool.and_eq_true, decide_eq_true_eq] at h
  exact pe_var (by rw [c.N]; exact h.1.1) (by rw [c.sc]; exact vis_of h.1.2) (dbg_of h.2).1 (dbg_of h.2).2.1
theorem Cg.blt' (c : Cg G S W X) {n x : Str} (h : bltOk S n x = true) (hn : n ∈ bltN) : x = n ∧ Gl X n ∧ X.mg n = none := by
  unfold bltOk at h
  simp only [Bool.and_eq_true, decide_eq_true_eq] at h
  obtain ⟨rfl, h2⟩ := h
  exact ⟨rfl, c.gl h2, c.blt _ hn⟩

abbrev tE (G : Glob) (W : WX) (X : Cx) (c : E) : TE := TR X.K G.XR W (md c) (wrE c) (evE G.Γ c)
abbrev tT (G : Glob) (W : WX) (X : Cx) (c : E) : TT := TRB X.K G.XR W (wrE c) fun ρ => (evE G.Γ c ρ).bd fun x ρ => lift (tru x) ρ
/-- what is shown of an expression's code -/
structure SndE (G : Glob) (W : WX) (X : Cx) (c : E) (e : Expr) : Prop where
  pe : PE X e (tE G W X c)
  pt : testOk e = true → PT X e (tT G W X c)
  pw : ∀ op vs pos, e = .BoolOp op vs pos → PW X e (tT G W X c)
theorem SndE.plain {c : E} {e : Expr} (pe : PE X e (tE G W X c)) (he : ∀ whole, isTrue e X.env whole = (do let v ← whole; standAt e.pos; holding [v] (truthy v))) (nb : ∀ op vs pos, e ≠ .BoolOp op vs pos) : SndE G W X c e :=
  ⟨pe, fun _ => pt_imp (pt_truth pe he) fun σ H Q ⟨ρ, Ws, e, h⟩ => ⟨ρ, Ws, e, h.bd.mono fun d ρ' h' v H' Ws' W' e' r' g' _ => by
    obtain ⟨k, hk, q⟩ := h'.lift
    exact ⟨k, tru_v hk r', q H' Ws' e' g'⟩⟩, fun op vs pos q => (nb op vs pos q).elim⟩
variable {K : PySem.W.Frag} {H H' : Hp} {σ : Sg}

/-- a value that is new -/
theorem nw_fin {wr : List Nat} {Ws Ws' : WsT} {ρ : Env} {d : D} {Q : VK} (e : EnvOk K H' σ ρ Ws') (g : Go wr Ws H Ws' H') (h : ∀ v H2 Ws2 W2, EnvOk K H2 σ ρ Ws2 → Rp K H2 d v W2 → Go wr Ws H Ws2 H2 → Kd none wr Ws H Ws2 W2 → Q v H2) : Nw K H' Q d := by
  intro v H2 W2 sm fr nd r
  have g2 : Go wr Ws H Ws' H2 := g.tr (Go.same sm)
  refine h v H2 Ws' W2 (e.same sm) r g2 ⟨nd, fun a ha => ⟨fun i z => ?_, ?_⟩⟩
  · have m := e.mut z
    rw [fr a ha] at m; exact notMut_none m
  · by_cases w : ∃ j ∈ wr, a ∈ Ws j
    · exact .inl w
    · refine .inr ?_
      cases q : H a with
      | none => rfl
      | some o => have := g.fr a o q fun i hi z => w ⟨i, hi, z⟩; rw [fr a ha] at this; cases this
end

def esLen : Es → Nat
  | .nil => 0
  | .cons _ r => esLen r + 1
theorem Rps.rev {K : PySem.W.Frag} {H : Hp} : ∀ {ds : List D} {vs : List V}, Rps K H ds vs [] → Rps K H ds.reverse vs.reverse []
  | [], _, h => by rw [h.1]; exact Rps.nil
  | d :: ds, _, ⟨v, r, W1, W2, e, h, t, eW⟩ => by
    have e1 : W1 = [] := (List.append_eq_nil_iff.mp eW.symm).1
    have e2 : W2 = [] := (List.append_eq_nil_iff.mp eW.symm).2
    subst e e1 e2
    rw [List.reverse_cons, List.reverse_cons]
    exact t.rev.append (Rps.cons h Rps.nil)
/-! ### one construct after another -/
section
variable {G : Glob} {S : Sx} {W : WX} {X : Cx}
theorem s_var {i : Nat} {e : Expr} (h : PE X e (tVar i)) : PE X e (tE G W X (.var i)) := pe_imp h fun σ H Q ⟨ρ, Ws, e, q⟩ => by
  obtain ⟨d, hd, q⟩ := (show Aft X.K G.XR W _ σ Ws H (lift (g ρ i) ρ) _ from q).lift
  obtain ⟨v, h1, h2⟩ := e.slot i d hd
  exact ⟨v, gV_some h1, q v H Ws (Ws i) e h2 Go.refl ⟨e.nd i, fun a ha => ha⟩⟩
theorem s_mv {i : Nat} {e : Expr} (h : PE X e (tVar i)) : PE X e (tE G W X (.mv i)) := pe_imp h fun σ H Q ⟨ρ, Ws, e, q⟩ => by
  obtain ⟨d, hd, q⟩ := (show Aft X.K G.XR W _ σ Ws H ((lift (g ρ i) ρ).bd _) _ from q).bd.lift
  obtain ⟨v, h1, h2⟩ := e.slot i d hd
  refine ⟨v, gV_some h1, q v H _ (Ws i) (e.kill i) h2 ⟨fun _ _ h _ => h, fun j a hj z => ?_, fun j hj => ?_⟩ ⟨e.nd i, fun a ha => ⟨fun j z => ?_, .inl ⟨i, by simp [wrE], ha⟩⟩⟩⟩
  · simp only [wrE, List.mem_singleton] at hj
    subst hj
    rw [setW_same] at z; cases z
  · simp only [wrE, List.mem_singleton] at hj
    exact setW_ne hj
  · by_cases y : j = i
    · subst y; rw [setW_same] at z; cases z
    · rw [setW_ne y] at z; exact y (e.dj j i a z ha)
/-- a written value -/
theorem s_const {c : E} {d : D} {v : V} {e : Expr} (h : PE X e (tC v)) (hc : ∀ ρ, evE G.Γ c ρ = .ok d ρ) (hd : ∀ H, Rp X.K H d v []) : PE X e (tE G W X c) := pe_imp h fun σ H Q ⟨ρ, Ws, e, q⟩ => by
  rw [hc] at q
  exact q v H Ws [] e (hd H) Go.refl Kd.nil
theorem own_kd {m : Option Nat} {wr : List Nat} {K : PySem.W.Frag} {H H' : Hp} {Ws Ws' : WsT} {d : D} {v : V} {W : List Addr} (k : Kd m wr Ws H Ws' W) (r : Rp K H' d v W) (o : own m d = true) : Kd none wr Ws H Ws' W := k.own r o
theorem s_neg {a : E} {x : Expr} {pos : Pos} (ha : PE X x (tE G W X a)) : PE X (.UnaryOp .USub x pos) (tE G W X (.neg a)) := pe_imp (pe_un un_neg ha) fun σ H Q ⟨ρ, Ws, e, q⟩ => by
  refine ⟨ρ, Ws, e, (show Aft X.K G.XR W _ σ Ws H ((evE G.Γ a ρ).bd _) _ from q).bd.mono fun d ρ1 q v H1 Ws1 W1 e1 r1 g1 k1 => ?_⟩
  cases d <;> first | exact q.elim | skip
  exact ⟨_, r1.1, q _ H1 Ws1 [] e1 ⟨rfl, rfl⟩ g1 Kd.nil⟩
/-- two values, one after another: both stand -/
theorem two {α : Type} {a b : E} {f : D → D → Env → R α} {C : α → Env → Prop} {wr : List Nat} {σ : Sg} {H : Hp} {ρ : Env} {Ws : WsT} {P : V → V → Hp → Prop} (ha : ∀ i ∈ wrE a, i ∈ wr) (hb : ∀ i ∈ wrE b, i ∈ wr) (e : EnvOk X.K H σ ρ Ws)
    (h : Aft X.K G.XR W wr σ Ws H ((evE G.Γ a ρ).bd fun x ρ => (evE G.Γ b ρ).bd fun y ρ => f x y ρ) C)
    (fin : ∀ x y ρ2 vx vy H2 Ws2 W1 W2, EnvOk X.K H2 σ ρ2 Ws2 → Go wr Ws H Ws2 H2 → (safe (md a) (wrE b) x = true → Rp X.K H2 x vx W1 ∧ Kd (md a) wr Ws H Ws2 W1 ∧ (md a = none → ∀ c ∈ W1, c ∉ W2)) → Rp X.K H2 y vy W2 → Kd (md b) wr Ws H Ws2 W2 → Aft X.K G.XR W wr σ Ws H (f x y ρ2) C → P vx vy H2) :
    tE G W X a σ H fun vx H1 => tE G W X b σ H1 fun vy H2 => P vx vy H2 := by
  refine ⟨ρ, Ws, e, (h.bd.less ha).mono fun x ρ1 h1 vx H1 Ws1 W1 e1 r1 g1 k1 => ⟨ρ1, Ws1, e1, (h1.bd.from g1 ha hb).mono fun y ρ2 h2 vy H2 Ws2 W2 e2 r2 g2 k2 => ?_⟩⟩
  refine fin x y ρ2 vx vy H2 Ws2 W1 W2 e2 (g1.tr2 g2 ha hb) (fun sf => ?_) r2 (k2.back g1 ha hb) h2
  obtain ⟨q1, q2⟩ := k1.stay e1 r1 sf g2
  refine ⟨q1, q2.mono ha, fun hm c hc hc2 => ?_⟩
  rw [hm] at k1
  have n1 := (k1.2 c hc).1
  have mu := Rp.mut x r1 c hc
  cases hmb : md b with
  | none =>
    rw [hmb] at k2
    rcases (k2.2 c hc2).2 with ⟨j, _, z⟩ | z
    · exact n1 j z
    · rw [z] at mu; exact notMut_none mu
  | some i =>
    rw [hmb] at k2
    have z := k2.2 c hc2
    by_cases hi : i ∈ wrE b
    · rcases g2.sub i c hi z with ⟨j, _, y⟩ | y
      · exact n1 j y
      · rw [y] at mu; exact notMut_none mu
    · rw [g2.eq i hi] at z; exact n1 i z
theorem mem_l {a b : List Nat} : ∀ i ∈ a, i ∈ a ++ b := fun _ h => List.mem_append_left _ h
theorem mem_r {a b : List Nat} : ∀ i ∈ b, i ∈ a ++ b := fun _ h => List.mem_append_right _ h
theorem s_bin {o : BOp} {a b : E} {x y : Expr} {pos : Pos} (ha : PE X x (tE G W X a)) (hb : PE X y (tE G W X b)) : PE X (.BinOp x (bop o) y pos) (tE G W X (.bin o a b)) := pe_imp (pe_op (op_bin o) ha hb) fun σ H Q ⟨ρ, Ws, e, q⟩ => by
  refine two mem_l mem_r e q fun dx dy ρ2 vx vy H2 Ws2 W1 W2 e2 g2 p1 r2 k2 q => ?_
  obtain ⟨sf, q⟩ := q.ite
  obtain ⟨z, hz, q⟩ := q.lift
  exact ⟨dx, dy, z, W1, W2, hz, (p1 sf).1, r2, nw_fin e2 g2 q⟩
theorem s_cmp0 (c : Cg G S W X) {o : COp} {a b : E} {σ : Sg} {H : Hp} {Q : VK} (q : tE G W X (.cmp o a b) σ H Q) : tOp (rD2 X.K fun x y => (cmpF o x y).map D.bl) (tE G W X a) (tE G W X b) σ H Q := by
  obtain ⟨ρ, Ws, e, q⟩ := q
  refine two mem_l mem_r e q fun dx dy ρ2 vx vy H2 Ws2 W1 W2 e2 g2 p1 r2 k2 q => ?_
  obtain ⟨sf, q⟩ := q.ite
  obtain ⟨z, hz, q⟩ := q.lift
  exact ⟨dx, dy, z, W1, W2, hz, (p1 sf).1, r2, nw_fin e2 g2 q⟩
theorem bd_bd {α β γ : Type} (r : R α) (f : α → Env → R β) (h : β → Env → R γ) : (r.bd f).bd h = r.bd fun a ρ => (f a ρ).bd h := by cases r <;> rfl
/-- a comparison's value is a bool -/
theorem s_cmp (c : Cg G S W X) {o : COp} {a b : E} {x y : Expr} {pos : Pos} (ha : PE X x (tE G W X a)) (hb : PE X y (tE G W X b)) (hm : behindInMarks (cop o) y = false) : SndE G W X (.cmp o a b) (.Compare x [cop o] [y] pos) := by
  refine ⟨pe_imp (pe_cmpR (op_cmp o c.hu) ha hb hm) fun σ H Q q => s_cmp0 c q, fun _ => pt_imp (pt_cmpR (op_cmp o c.hu) ha hb hm) fun σ H Q ⟨ρ, Ws, e, q⟩ => ?_, fun _ _ _ q => nomatch q⟩
  have q : Aft X.K G.XR W (wrE a ++ wrE b) σ Ws H (((evE G.Γ a ρ).bd fun x ρ => (evE G.Γ b ρ).bd fun y ρ => if safe (md a) (wrE b) x = true then lift ((cmpF o x y).map D.bl) ρ else .no).bd fun x ρ => lift (tru x) ρ) _ := q
  rw [bd_bd] at q
  simp only [bd_bd] at q
  refine two mem_l mem_r e q fun dx dy ρ2 vx vy H2 Ws2 W1 W2 e2 g2 p1 r2 k2 q => ?_
  obtain ⟨sf, q⟩ := q.bd.ite
  obtain ⟨z, hz, q⟩ := q.lift
  obtain ⟨k, hk, q⟩ := q.lift
  obtain ⟨k', hk', rfl⟩ := Option.map_eq_some_iff.mp hz
  refine ⟨dx, dy, .bl k', W1, W2, hz, (p1 sf).1, r2, fun v H3 W3 sm _ _ r3 => ?_⟩
  have : k' = k := Option.some.inj hk
  subst this
  exact ⟨k', r3.1, q H3 Ws2 (e2.same sm) (g2.tr (Go.same sm))⟩
end

section
variable {G : Glob} {S : Sx} {W : WX} {X : Cx}
variable {K : PySem.W.Frag} {H H' : Hp} {σ : Sg} {XR : XRT} {wr : List Nat} {Ws : WsT}
theorem Aft.bdm {α β γ : Type} {r : R α} {f : α → Env → R β} {f' : α → Env → R γ} {C : β → Env → Prop} {C' : γ → Env → Prop} (h : Aft K XR W wr σ Ws H (r.bd f) C) (m : ∀ a ρ, Aft K XR W wr σ Ws H (f a ρ) C → Aft K XR W wr σ Ws H (f' a ρ) C') : Aft K XR W wr σ Ws H (r.bd f') C' := by
  cases r with
  | ok a ρ => exact m a ρ h
  | er x ρ => exact h
  | no => exact h
theorem Kd.less {m : Option Nat} {Ws' : WsT} {W0 W1 : List Addr} (k : Kd m wr Ws H Ws' W1) (s : W0.Sublist W1) : Kd m wr Ws H Ws' W0 := by
  cases m with
  | none => exact ⟨k.1.sublist s, fun a ha => k.2 a (s.subset ha)⟩
  | some i => exact ⟨k.1.sublist s, fun a ha => k.2 a (s.subset ha)⟩

/-! and, or, not -/
theorem s_and {a b : E} {x y : Expr} {r : List Expr} {pos : Pos} (ha : PE X x (tE G W X a)) (hb : PE X (.BoolOp .And (y :: r) pos) (tE G W X b)) : PE X (.BoolOp .And (x :: y :: r) pos) (tE G W X (.and a b)) := pe_imp (pe_and ha hb) fun σ H Q ⟨ρ, Ws, e, q⟩ => by
  refine ⟨ρ, Ws, e, (q.bd.less mem_l).mono fun d ρ1 q v H1 Ws1 W1 e1 r1 g1 k1 => ?_⟩
  cases d <;> first | exact q.elim | skip
  rename_i t
  refine ⟨t, r1.1, ?_⟩
  cases t with
  | true =>
    simp only [if_true]
    refine ⟨ρ1, Ws1, e1, (q.bd.from g1 mem_l mem_r).mono fun d ρ2 q v2 H2 Ws2 W2 e2 r2 g2 k2 => ?_⟩
    cases d <;> first | exact q.elim | skip
    rw [r2.1]
    exact q _ H2 Ws2 [] e2 ⟨rfl, rfl⟩ (g1.tr2 g2 mem_l mem_r) Kd.nil
  | false =>
    simp only [Bool.false_eq_true, if_false]
    exact q _ H1 Ws1 [] e1 ⟨rfl, rfl⟩ (g1.mono mem_l) Kd.nil
theorem s_or {a b : E} {x y : Expr} {r : List Expr} {pos : Pos} (ha : PE X x (tE G W X a)) (hb : PE X (.BoolOp .Or (y :: r) pos) (tE G W X b)) : PE X (.BoolOp .Or (x :: y :: r) pos) (tE G W X (.or a b)) := pe_imp (pe_or ha hb) fun σ H Q ⟨ρ, Ws, e, q⟩ => by
  refine ⟨ρ, Ws, e, (q.bd.less mem_l).mono fun d ρ1 q v H1 Ws1 W1 e1 r1 g1 k1 => ?_⟩
  cases d <;> first | exact q.elim | skip
  rename_i t
  refine ⟨t, r1.1, ?_⟩
  cases t with
  | false =>
    simp only [Bool.false_eq_true, if_false]
    refine ⟨ρ1, Ws1, e1, (q.bd.from g1 mem_l mem_r).mono fun d ρ2 q v2 H2 Ws2 W2 e2 r2 g2 k2 => ?_⟩
    cases d <;> first | exact q.elim | skip
    rw [r2.1]
    exact q _ H2 Ws2 [] e2 ⟨rfl, rfl⟩ (g1.tr2 g2 mem_l mem_r) Kd.nil
  | true =>
    simp only [if_true]
    exact q _ H1 Ws1 [] e1 ⟨rfl, rfl⟩ (g1.mono mem_l) Kd.nil
theorem w_and {a b : E} {x y : Expr} {r : List Expr} {pos : Pos} (ha : PT X x (tT G W X a)) (hb : PW X (.BoolOp .And (y :: r) pos) (tT G W X b)) : PW X (.BoolOp .And (x :: y :: r) pos) (tT G W X (.and a b)) := pw_imp (pw_and ha hb) fun σ H Q ⟨ρ, Ws, e, q⟩ => by
  have q : Aft X.K G.XR W (wrE a ++ wrE b) σ Ws H (((evE G.Γ a ρ).bd fun x ρ => match x with
    | .bl true => (evE G.Γ b ρ).bd fun y ρ => match y with
      | .bl c => .ok (.bl c) ρ
      | _ => .no
    | .bl false => .ok (.bl false) ρ
    | _ => .no).bd fun x ρ => lift (tru x) ρ) _ := q
  rw [bd_bd] at q
  refine ⟨ρ, Ws, e, (q.bdm fun d ρ1 q => ?_).less mem_l⟩
  cases d <;> first | exact q.elim | skip
  rename_i t
  show ∀ H' Ws', _
  intro H1 Ws1 e1 g1
  cases t with
  | true =>
    simp only [if_true]
    have q : Aft X.K G.XR W (wrE a ++ wrE b) σ Ws H (((evE G.Γ b ρ1).bd fun y ρ => match y with
      | .bl c => .ok (.bl c) ρ
      | _ => .no).bd fun x ρ => lift (tru x) ρ) _ := q
    rw [bd_bd] at q
    refine ⟨ρ1, Ws1, e1, (q.bdm fun d ρ2 q => ?_).from g1 mem_l mem_r⟩
    cases d <;> first | exact q.elim | skip
    show ∀ H' Ws', _
    intro H2 Ws2 e2 g2
    exact q H2 Ws2 e2 (g1.tr2 g2 mem_l mem_r)
  | false =>
    simp only [Bool.false_eq_true, if_false]
    exact q H1 Ws1 e1 (g1.mono mem_l)
theorem w_or {a b : E} {x y : Expr} {r : List Expr} {pos : Pos} (ha : PT X x (tT G W X a)) (hb : PW X (.BoolOp .Or (y :: r) pos) (tT G W X b)) : PW X (.BoolOp .Or (x :: y :: r) pos) (tT G W X (.or a b)) := pw_imp (pw_or ha hb) fun σ H Q ⟨ρ, Ws, e, q⟩ => by
  have q : Aft X.K G.XR W (wrE a ++ wrE b) σ Ws H (((evE G.Γ a ρ).bd fun x ρ => match x with
    | .bl true => .ok (.bl true) ρ
    | .bl false => (evE G.Γ b ρ).bd fun y ρ => match y with
      | .bl c => .ok (.bl c) ρ
      | _ => .no
    | _ => .no).bd fun x ρ => lift (tru x) ρ) _ := q
  rw [bd_bd] at q
  refine ⟨ρ, Ws, e, (q.bdm fun d ρ1 q => ?_).less mem_l⟩
  cases d <;> first | exact q.elim | skip
  rename_i t
  show ∀ H' Ws', _
  intro H1 Ws1 e1 g1
  cases t with
  | false =>
    simp only [Bool.false_eq_true, if_false]
    have q : Aft X.K G.XR W (wrE a ++ wrE b) σ Ws H (((evE G.Γ b ρ1).bd fun y ρ => match y with
      | .bl c => .ok (.bl c) ρ
      | _ => .no).bd fun x ρ => lift (tru x) ρ) _ := q
    rw [bd_bd] at q
    refine ⟨ρ1, Ws1, e1, (q.bdm fun d ρ2 q => ?_).from g1 mem_l mem_r⟩
    cases d <;> first | exact q.elim | skip
    show ∀ H' Ws', _
    intro H2 Ws2 e2 g2
    exact q H2 Ws2 e2 (g1.tr2 g2 mem_l mem_r)
  | true =>
    simp only [if_true]
    exact q H1 Ws1 e1 (g1.mono mem_l)
theorem s_not {a : E} {x : Expr} {pos : Pos} (ha : PE X x (tE G W X a)) (hp : PT X x (tT G W X a)) : SndE G W X (.not a) (.UnaryOp .Not x pos) := by
  refine ⟨pe_imp (pe_notT ha) fun σ H Q ⟨ρ, Ws, e, q⟩ => ⟨ρ, Ws, e, q.bd.mono fun d ρ1 q v H1 Ws1 W1 e1 r1 g1 _ => ?_⟩, fun _ => pt_imp (pt_not hp) fun σ H Q ⟨ρ, Ws, e, q⟩ => ?_, fun _ _ _ q => nomatch q⟩
  · obtain ⟨z, hz, q⟩ := q.lift
    obtain ⟨k, hk, rfl⟩ := Option.map_eq_some_iff.mp hz
    exact ⟨k, tru_v hk r1, q _ H1 Ws1 [] e1 ⟨rfl, rfl⟩ g1 Kd.nil⟩
  · have q : Aft X.K G.XR W (wrE a) σ Ws H (((evE G.Γ a ρ).bd fun x ρ => lift ((tru x).map fun b => D.bl (!b)) ρ).bd fun x ρ => lift (tru x) ρ) _ := q
    rw [bd_bd] at q
    refine ⟨ρ, Ws, e, q.bdm fun d ρ1 q => ?_⟩
    obtain ⟨z, hz, q⟩ := q.bd.lift
    obtain ⟨k, hk, rfl⟩ := Option.map_eq_some_iff.mp hz
    rw [hk]
    show ∀ H' Ws', _
    intro H1 Ws1 e1 g1
    exact q H1 Ws1 e1 g1
theorem s_ite {c a b : E} {x y z : Expr} {pos : Pos} (hc : PT X x (tT G W X c)) (ha : PE X y (tE G W X a)) (hb : PE X z (tE G W X b)) : PE X (.IfExp x y z pos) (tE G W X (.ite c a b)) := pe_imp (pe_ifExp hc ha hb) fun σ H Q ⟨ρ, Ws, e, q⟩ => by
  have q : Aft X.K G.XR W (wrE c ++ (wrE a ++ wrE b)) σ Ws H ((evE G.Γ c ρ).bd fun x ρ => (lift (tru x) ρ).bd fun t ρ => if t = true then
      (evE G.Γ a ρ).bd fun d ρ => if own (md a) d = true then .ok d ρ else .no
      else (evE G.Γ b ρ).bd fun d ρ => if own (md b) d = true then .ok d ρ else .no) _ := q
  rw [← bd_bd] at q
  refine ⟨ρ, Ws, e, (q.bd.less mem_l).mono fun t ρ1 q H1 Ws1 e1 g1 => ?_⟩
  cases t with
  | true =>
    simp only [if_true] at q ⊢
    refine ⟨ρ1, Ws1, e1, (q.bd.from g1 mem_l fun i hi => mem_r i (mem_l i hi)).mono fun d ρ2 q v H2 Ws2 W2 e2 r2 g2 k2 => ?_⟩
    obtain ⟨o, q⟩ := q.ite
    exact q v H2 Ws2 W2 e2 r2 (g1.tr2 g2 mem_l fun i hi => mem_r i (mem_l i hi)) ((k2.back g1 mem_l fun i hi => mem_r i (mem_l i hi)).own r2 o)
  | false =>
    simp only [Bool.false_eq_true, if_false] at q ⊢
    refine ⟨ρ1, Ws1, e1, (q.bd.from g1 mem_l fun i hi => mem_r i (mem_r i hi)).mono fun d ρ2 q v H2 Ws2 W2 e2 r2 g2 k2 => ?_⟩
    obtain ⟨o, q⟩ := q.ite
    exact q v H2 Ws2 W2 e2 r2 (g1.tr2 g2 mem_l fun i hi => mem_r i (mem_r i hi)) ((k2.back g1 mem_l fun i hi => mem_r i (mem_r i hi)).own r2 o)
/-! argument lists, displays -/
abbrev tEs (G : Glob) (W : WX) (X : Cx) (c : Es) : TA := fun σ H Q => ∃ ρ Ws, EnvOk X.K H σ ρ Ws ∧ Aft X.K G.XR W (wrEs c) σ Ws H (evEs G.Γ c ρ) fun ds ρ' => ∀ vs H' Ws' W', EnvOk X.K H' σ ρ' Ws' → Rps X.K H' ds vs W' → Go (wrEs c) Ws H Ws' H' → Kd none (wrEs c) Ws H Ws' W' → Q vs H'
theorem s_nil : PA X [] (tEs G W X .nil) := pa_imp pa_nil fun σ H Q ⟨ρ, Ws, e, q⟩ => q [] H Ws [] e Rps.nil Go.refl Kd.nil
/-- two values of their own stand apart -/
theorem Kd.two {w1 w2 : List Nat} {Ws1 Ws2 : WsT} {H1 : Hp} {W1 W2 : List Addr} (g1 : Go w1 Ws H Ws1 H1) (k1 : Kd none w1 Ws H Ws1 W1) (mu : ∀ a ∈ W1, MutO (H1 a)) (k1' : Kd none w1 Ws H Ws2 W1) (k2 : Kd none w2 Ws1 H1 Ws2 W2) (h1 : ∀ i ∈ w1, i ∈ wr) (h2 : ∀ i ∈ w2, i ∈ wr) : Kd none wr Ws H Ws2 (W1 ++ W2) := by
  have b := k2.back g1 h1 h2
  refine ⟨List.nodup_append.mpr ⟨k1.1, k2.1, fun a ha c hc e => ?_⟩, fun a ha => ?_⟩
  · subst e
    rcases (k2.2 a hc).2 with ⟨j, _, z⟩ | z
    · exact (k1.2 a ha).1 j z
    · have := mu a ha; rw [z] at this; exact notMut_none this
  · rcases List.mem_append.mp ha with z | z
    · exact (k1'.mono h1).2 a z
    · exact b.2 a z
theorem s_cons {c : E} {r : Es} {x : Expr} {xs : List Expr} (h : PE X x (tE G W X c)) (t : PA X xs (tEs G W X r)) (ns : notStar x = true) : PA X (x :: xs) (tEs G W X (.cons c r)) := pa_imp (pa_cons h t (star1 ns)) fun σ H Q ⟨ρ, Ws, e, q⟩ => by
  refine ⟨ρ, Ws, e, (q.bd.less mem_l).mono fun d ρ1 q v H1 Ws1 W1 e1 r1 g1 k1 => ?_⟩
  obtain ⟨o, q⟩ := q.ite
  have k1 := k1.own r1 o
  refine ⟨ρ1, Ws1, e1, (q.bd.from g1 mem_l mem_r).mono fun ds ρ2 q vs H2 Ws2 W2 e2 r2 g2 k2 => ?_⟩
  obtain ⟨s1, s2⟩ := Kd.stay (d := d) k1 e1 r1 rfl g2
  exact q (v :: vs) H2 Ws2 (W1 ++ W2) e2 (Rps.cons s1 r2) (g1.tr2 g2 mem_l mem_r) (Kd.two g1 k1 (Rp.mut d r1) s2 k2 mem_l mem_r)
theorem evEs_len {Γ : Fns} : ∀ (c : Es) (ρ : Env) (ds : List D) (ρ' : Env), evEs Γ c ρ = .ok ds ρ' → ds.length = esLen c
  | .nil, ρ, ds, ρ', h => by
    cases h; rfl
  | .cons e r, ρ, ds, ρ', h => by
    simp only [evEs] at h
    cases h1 : evE Γ e ρ with
    | no => rw [h1] at h; cases h
    | er x ρ1 => rw [h1] at h; cases h
    | ok d ρ1 =>
      rw [h1, R.bd_ok] at h
      split at h
      · cases h2 : evEs Γ r ρ1 with
        | no => rw [h2] at h; cases h
        | er x ρ2 => rw [h2] at h; cases h
        | ok es ρ2 =>
          rw [h2, R.bd_ok] at h
          cases h
          show es.length + 1 = esLen r + 1
          rw [evEs_len r ρ1 es _ h2]
      · cases h
theorem s_tup {c : Es} {es : List Expr} {k : Nat} {pos : Pos} (h : PA X es (tEs G W X c)) (hl : esLen c ≤ cap) : PE X (.Tuple es k pos) (tE G W X (.tup c)) := pe_imp (pe_tup h) fun σ H Q ⟨ρ, Ws, e, q⟩ => by
  have q := (show Aft X.K G.XR W (wrEs c) σ Ws H ((evEs G.Γ c ρ).bd _) _ from q).bd
  refine ⟨ρ, Ws, e, ?_⟩
  cases hv : evEs G.Γ c ρ with
  | no => rw [hv] at q; exact q.elim
  | er x ρ1 => rw [hv] at q; exact q
  | ok ds ρ1 =>
    rw [hv] at q
    intro vs H1 Ws1 W1 e1 r1 g1 k1
    have n := evEs_len c ρ ds ρ1 hv
    refine ⟨by rw [r1.length, n]; exact cap_le hl, fun p hp => ?_⟩
    exact q (.ref p) _ Ws1 W1 (e1.same (same_upd hp)) ⟨p, vs, rfl, SqT.of upd_same, r1.same (same_upd hp)⟩ (g1.tr (Go.same (same_upd hp))) k1
theorem Kd.new {Ws1 : WsT} {H1 : Hp} {ρ1 : Env} {W1 : List Addr} {p : Addr} (g1 : Go wr Ws H Ws1 H1) (e1 : EnvOk K H1 σ ρ1 Ws1) (k : Kd none wr Ws H Ws1 W1) (mu : ∀ a ∈ W1, MutO (H1 a)) (hp : H1 p = none) : Kd none wr Ws H Ws1 (p :: W1) := by
  refine ⟨List.nodup_cons.mpr ⟨fun z => ?_, k.1⟩, fun a ha => ?_⟩
  · have := mu p z; rw [hp] at this; exact notMut_none this
  · rcases List.mem_cons.mp ha with rfl | ha
    · refine ⟨fun i z => ?_, ?_⟩
      · have := e1.mut z; rw [hp] at this; exact notMut_none this
      · by_cases w : ∃ j ∈ wr, a ∈ Ws j
        · exact .inl w
        · refine .inr ?_
          cases q : H a with
          | none => rfl
          | some o => rw [g1.fr a o q fun i hi r => w ⟨i, hi, r⟩] at hp; cases hp
    · exact k.2 a ha
theorem s_lst {c : Es} {es : List Expr} {pos : Pos} (h : PA X es (tEs G W X c)) (hl : esLen c ≤ cap) : PE X (.List es pos) (tE G W X (.lst c)) := pe_imp (pe_lst h) fun σ H Q ⟨ρ, Ws, e, q⟩ => by
  have q := (show Aft X.K G.XR W (wrEs c) σ Ws H ((evEs G.Γ c ρ).bd _) _ from q).bd
  refine ⟨ρ, Ws, e, ?_⟩
  cases hv : evEs G.Γ c ρ with
  | no => rw [hv] at q; exact q.elim
  | er x ρ1 => rw [hv] at q; exact q
  | ok ds ρ1 =>
    rw [hv] at q
    intro vs H1 Ws1 W1 e1 r1 g1 k1
    have n := evEs_len c ρ ds ρ1 hv
    refine ⟨by rw [r1.length, n]; exact cap_le hl, fun p hp => ?_⟩
    exact q (.ref p) _ Ws1 (p :: W1) (e1.same (same_upd hp)) ⟨p, vs, W1, rfl, upd_same, r1.same (same_upd hp), rfl⟩ (g1.tr (Go.same (same_upd hp))) (Kd.new g1 e1 k1 (Rps.mut ds r1) hp)
/-! subscripts, slices -/
theorem s_ix (c : Cg G S W X) {a b : E} {x y : Expr} {pos : Pos} (ha : PE X x (tE G W X a)) (hb : PE X y (tE G W X b)) (hp : plainIx y = true) : PE X (.Subscript x y pos) (tE G W X (.ix a b)) := pe_imp (pe_ix (ix_data c.hu) ha hb (plain0 hp)) fun σ H Q ⟨ρ, Ws, e, q⟩ => by
  refine two mem_l mem_r e q fun dx dy ρ2 vx vy H2 Ws2 W1 W2 e2 g2 p1 r2 k2 q => ?_
  obtain ⟨sf, q⟩ := q.ite
  obtain ⟨z, hz, q⟩ := q.lift
  obtain ⟨u1, u2, _⟩ := p1 sf
  exact ⟨dx, dy, z, W1, W2, hz, u1, r2, fun v W' r' s' => q v H2 Ws2 W' e2 r' g2 (u2.less s')⟩
abbrev tO (G : Glob) (W : WX) (X : Cx) (c : Eo) : TO := fun σ H Q => ∃ ρ Ws, EnvOk X.K H σ ρ Ws ∧ Aft X.K G.XR W (wrEo c) σ Ws H (evEo G.Γ c ρ) fun o ρ' => ∀ H' Ws', EnvOk X.K H' σ ρ' Ws' → Go (wrEo c) Ws H Ws' H' → Q o H'
theorem s_onon : PO X none (tO G W X .non) := ⟨fun pins s σ H Q I ⟨ρ, Ws, e, q⟩ => po_none.run pins s σ H Q I (q H Ws e Go.refl)⟩
theorem s_osom {c : E} {x : Expr} (h : PE X x (tE G W X c)) : PO X (some x) (tO G W X (.som c)) := ⟨fun pins s σ H Q I ⟨ρ, Ws, e, q⟩ => (po_some h).run pins s σ H Q I ⟨ρ, Ws, e, by
  have q := (show Aft X.K G.XR W (wrE c) σ Ws H ((evE G.Γ c ρ).bd _) _ from q).bd
  refine q.mono fun d ρ1 q v H1 Ws1 W1 e1 r1 g1 _ => ?_
  cases d <;> first | exact q.elim | skip
  exact ⟨_, r1.1, q H1 Ws1 e1 g1⟩⟩⟩
theorem s_sl {a : E} {lo hi : Eo} {x : Expr} {l h : Option Expr} {pos p2 : Pos} (ha : PE X x (tE G W X a)) (hl : PO X l (tO G W X lo)) (hh : PO X h (tO G W X hi)) : PE X (.Subscript x (.Slice l h none p2) pos) (tE G W X (.sl a lo hi)) := pe_imp (pe_slice sl_data ha hl hh) fun σ H Q ⟨ρ, Ws, e, q⟩ => by
  have q : Aft X.K G.XR W (wrE a ++ (wrEo lo ++ wrEo hi)) σ Ws H ((evE G.Γ a ρ).bd fun x ρ => (evEo G.Γ lo ρ).bd fun l ρ => (evEo G.Γ hi ρ).bd fun h ρ => if safe (md a) (wrEo lo ++ wrEo hi) x = true then lift (slF x l h) ρ else .no) _ := q
  refine ⟨ρ, Ws, e, (q.bd.less mem_l).mono fun d ρ1 q v H1 Ws1 W1 e1 r1 g1 k1 => ?_⟩
  refine ⟨ρ1, Ws1, e1, (q.bd.from g1 mem_l fun i hi => mem_r i (mem_l i hi)).mono fun o1 ρ2 q H2 Ws2 e2 g2 => ?_⟩
  have g12 := g1.tr2 g2 (wr := wrE a ++ (wrEo lo ++ wrEo hi)) mem_l fun i hi => mem_r i (mem_l i hi)
  refine ⟨ρ2, Ws2, e2, (q.bd.from g12 (fun _ h => h) fun i hi => mem_r i (mem_r i hi)).mono fun o2 ρ3 q H3 Ws3 e3 g3 => ?_⟩
  obtain ⟨sf, q⟩ := q.ite
  obtain ⟨z, hz, q⟩ := q.lift
  have g23 := g2.tr2 g3 (wr := wrEo lo ++ wrEo hi) mem_l mem_r
  obtain ⟨u1, u2⟩ := k1.stay e1 r1 sf g23
  exact ⟨d, z, W1, hz, u1, nw_fin e3 (g12.tr2 g3 (fun _ h => h) fun i hi => mem_r i (mem_r i hi)) q⟩
theorem s_rev {a : E} {x : Expr} {k : Nat} {p1 p2 p3 pos : Pos} (ha : PE X x (tE G W X a)) : PE X (.Subscript x (.Slice none none (some (.UnaryOp .USub (.Constant (.int 1) k p1) p2)) p3) pos) (tE G W X (.rev a)) := ⟨fun pins s σ H Q I ⟨ρ, Ws, e, q⟩ => by
  have q := (show Aft X.K G.XR W (wrE a) σ Ws H ((evE G.Γ a ρ).bd _) _ from q).bd
  cases hv : evE G.Γ a ρ with
  | no => rw [hv] at q; exact q.elim
  | er x ρ1 =>
    rw [hv] at q
    refine (pe_revS ha).run pins s σ H Q I ⟨ρ, Ws, e, ?_⟩
    rw [hv]; exact q
  | ok d ρ1 =>
    rw [hv] at q
    obtain ⟨z, hz, q⟩ := q.lift
    cases d <;> first | (simp [revF] at hz; done) | skip
    · refine (pe_revS ha).run pins s σ H Q I ⟨ρ, Ws, e, ?_⟩
      rw [hv]
      intro v H1 Ws1 W1 e1 r1 g1 k1
      simp only [revF] at hz
      split at hz <;> simp only [reduceCtorEq, Option.some.injEq] at hz
      subst hz
      rename_i hl
      exact ⟨_, r1.1, cap_le hl, q _ H1 Ws1 [] e1 ⟨rfl, rfl, fun c hc => r1.2.2 c (List.mem_reverse.mp hc)⟩ g1 Kd.nil⟩
    · refine (pe_revL ha).run pins s σ H Q I ⟨ρ, Ws, e, ?_⟩
      rw [hv]
      intro v H1 Ws1 W1 e1 r1 g1 k1
      simp only [revF] at hz
      split at hz <;> simp only [reduceCtorEq, Option.some.injEq] at hz
      subst hz
      rename_i l hl
      obtain ⟨b, vs, W0, ev, sq, rs, _⟩ := r1
      have w := rs.pu_nil hl
      subst w
      exact ⟨b, vs, ev, SqL.of sq, fun p hp => (nw_fin e1 g1 q).lst rs.rev hp⟩
    · refine (pe_revL ha).run pins s σ H Q I ⟨ρ, Ws, e, ?_⟩
      rw [hv]
      intro v H1 Ws1 W1 e1 r1 g1 k1
      simp only [revF] at hz
      split at hz <;> simp only [reduceCtorEq, Option.some.injEq] at hz
      subst hz
      rename_i l hl
      obtain ⟨b, vs, ev, sq, rs⟩ := r1
      have w := rs.pu_nil hl
      subst w
      exact ⟨b, vs, ev, sq.l, fun p hp => (nw_fin e1 g1 q).lst rs.rev hp⟩⟩
end
end G

/-! G4d: built-in functions, methods, dict displays, calls -/
namespace G
open PySem PySem.Spec PyProof.Rows L2
section
variable {G : Glob} {S : Sx} {W : WX} {X : Cx}
theorem safe_pu {m : Option Nat} {js : List Nat} {d : D} (h : pu d = true) : safe m js d = true := by
  cases m with
  | none => rfl
  | some i => simp [safe, h]
/-! one argument -/
theorem one_new {b : BI} {a : E} (hm : md (.bi b a) = none) {σ : Sg} {H : Hp} {Q : VK} (q : tE G W X (.bi b a) σ H Q) : tCB (rB1 X.K (biF b)) (tCons (tE G W X a) tNil) σ H Q := by
  obtain ⟨ρ, Ws, e, q⟩ := q
  rw [hm] at q
  refine ⟨ρ, Ws, e, q.bd.mono fun d ρ1 q v H1 Ws1 W1 e1 r1 g1 k1 => ?_⟩
  obtain ⟨z, hz, q⟩ := q.lift
  exact ⟨d, z, v, W1, rfl, hz, r1, nw_fin e1 g1 q⟩
theorem one_part {b : BI} {a : E} (hm : md (.bi b a) = md a) {σ : Sg} {H : Hp} {Q : VK} (q : tE G W X (.bi b a) σ H Q) : tCB (rB1p X.K (biF b)) (tCons (tE G W X a) tNil) σ H Q := by
  obtain ⟨ρ, Ws, e, q⟩ := q
  rw [hm] at q
  refine ⟨ρ, Ws, e, q.bd.mono fun d ρ1 q v H1 Ws1 W1 e1 r1 g1 k1 => ?_⟩
  obtain ⟨z, hz, q⟩ := q.lift
  exact ⟨d, z, v, W1, rfl, hz, r1, fun v' W' r' s' => q v' H1 Ws1 W' e1 r' g1 (k1.less s')⟩
theorem s_bi (c : Cg G S W X) {b : BI} {a : E} {x : Str} {y : Expr} {p pos : Pos} (hb : bi1Ok b = true) (hx : bltOk S (biName b) x = true) (ha : PE X y (tE G W X a)) (ns : notStar y = true) : PE X (.Call (.Name x p) [y] [] pos) (tE G W X (.bi b a)) := by
  have pa : PA X [y] (tCons (tE G W X a) tNil) := pa_cons ha pa_nil (star1 ns)
  cases b <;> first | (simp [bi1Ok] at hb; done) | skip
  · obtain ⟨rfl, gl, mg⟩ := c.blt' (n := "len") hx (by decide)
    exact pe_imp (pe_callB cr_len gl mg (by decide +kernel) pa (he := star1 ns)) fun σ H Q q => one_new rfl q
  · obtain ⟨rfl, gl, mg⟩ := c.blt' (n := "abs") hx (by decide)
    exact pe_imp (pe_callB cr_abs gl mg (by decide +kernel) pa (he := star1 ns)) fun σ H Q q => one_new rfl q
  · obtain ⟨rfl, gl, mg⟩ := c.blt' (n := "int") hx (by decide)
    exact pe_imp (pe_callTy cr_int gl mg (by decide +kernel) pa (he := star1 ns)) fun σ H Q q => one_new rfl q
  · obtain ⟨rfl, gl, mg⟩ := c.blt' (n := "tuple") hx (by decide)
    exact pe_imp (pe_callTy cr_tuple gl mg (by decide +kernel) pa (he := star1 ns)) fun σ H Q q => one_new rfl q
  · obtain ⟨rfl, gl, mg⟩ := c.blt' (n := "list") hx (by decide)
    exact pe_imp (pe_callTy (cr_list c.calm) gl mg (by decide +kernel) pa (he := star1 ns)) fun σ H Q q => one_new rfl q
  · obtain ⟨rfl, gl, mg⟩ := c.blt' (n := "sum") hx (by decide)
    exact pe_imp (pe_callB (cr_sumD c.calm) gl mg (by decide +kernel) pa (he := star1 ns)) fun σ H Q q => one_new rfl q
  · obtain ⟨rfl, gl, mg⟩ := c.blt' (n := "min") hx (by decide)
    exact pe_imp (pe_callB (cr_minD c.calm c.hu) gl mg (by decide +kernel) pa (he := star1 ns)) fun σ H Q q => one_part rfl q
  · obtain ⟨rfl, gl, mg⟩ := c.blt' (n := "max") hx (by decide)
    exact pe_imp (pe_callB (cr_maxD c.calm) gl mg (by decide +kernel) pa (he := star1 ns)) fun σ H Q q => one_part rfl q
  · obtain ⟨rfl, gl, mg⟩ := c.blt' (n := "any") hx (by decide)
    exact pe_imp (pe_callB (cr_anyD c.calm) gl mg (by decide +kernel) pa (he := star1 ns)) fun σ H Q q => one_new rfl q
  · obtain ⟨rfl, gl, mg⟩ := c.blt' (n := "all") hx (by decide)
    exact pe_imp (pe_callB (cr_allD c.calm) gl mg (by decide +kernel) pa (he := star1 ns)) fun σ H Q q => one_new rfl q
  · obtain ⟨rfl, gl, mg⟩ := c.blt' (n := "dict") hx (by decide)
    exact pe_imp (pe_callTy (cr_dict c.calm) gl mg (by decide +kernel) pa (he := star1 ns)) fun σ H Q q => one_new rfl q
/-! two arguments -/
theorem bi2_new {b : BI} {a a' : E} {σ : Sg} {H : Hp} {Q : VK} (q : tE G W X (.bi2 b a a') σ H Q) : tCB (rB2 X.K (bi2F b)) (tCons (tE G W X a) (tCons (tE G W X a') tNil)) σ H Q := by
  obtain ⟨ρ, Ws, e, q⟩ := q
  refine two (P := fun vx vy H2 => rB2 X.K (bi2F b) [vx, vy] H2 Q) mem_l mem_r e q fun dx dy ρ2 vx vy H2 Ws2 W1 W2 e2 g2 p1 r2 k2 q => ?_
  obtain ⟨⟨px, py⟩, q⟩ := q.ite
  obtain ⟨z, hz, q⟩ := q.lift
  have r1 := (p1 (safe_pu px)).1
  have w1 := Rp.pu_nil dx px r1
  have w2 := Rp.pu_nil dy py r2
  subst w1 w2
  exact ⟨dx, dy, z, vx, vy, rfl, hz, r1, r2, nw_fin e2 g2 q⟩
theorem plain1 {env : PySem.Env} {pos : Pos} {es : List Expr} (h : ∀ e ∈ es, notStar e = true) : (backTo pos (starEach es env)).any (·.1) = false := stars h
theorem s_bi2 (c : Cg G S W X) {b : BI} {a a' : E} {x : Str} {y z : Expr} {p pos : Pos} (hb : bi2Ok b = true) (hx : bltOk S (biName b) x = true) (ha : PE X y (tE G W X a)) (ns : notStar y = true) (ha' : PE X z (tE G W X a')) (ns' : notStar z = true) :
    PE X (.Call (.Name x p) [y, z] [] pos) (tE G W X (.bi2 b a a')) := by
  have pa : PA X [y, z] (tCons (tE G W X a) (tCons (tE G W X a') tNil)) := pa_cons ha (pa_cons ha' pa_nil (star1 ns')) (star1 ns)
  have hp : (backTo pos (starEach [z] X.env)).any (·.1) = false := stars fun e he => by rw [List.mem_singleton.mp he]; exact ns'
  cases b <;> first | (simp [bi2Ok] at hb; done) | skip
  · obtain ⟨rfl, gl, mg⟩ := c.blt' (n := "min") hx (by decide)
    exact pe_imp (pe_callB (cr_min2 c.calm c.hu) gl mg (by decide +kernel) pa (he := star1 ns) (hpl := hp)) fun σ H Q q => bi2_new q
  · obtain ⟨rfl, gl, mg⟩ := c.blt' (n := "max") hx (by decide)
    exact pe_imp (pe_callB (cr_max2 c.calm) gl mg (by decide +kernel) pa (he := star1 ns) (hpl := hp)) fun σ H Q q => bi2_new q
/-! join, get -/
theorem str_is {x : D} (h : isStr x = true) : ∃ l, x = .str l := by cases x <;> first | exact ⟨_, rfl⟩ | (simp [isStr] at h; done)
theorem dct_is {x : D} (h : isDct x = true) : ∃ ks vs, x = .dct ks vs := by cases x <;> first | exact ⟨_, _, rfl⟩ | (simp [isDct] at h; done)
theorem s_join {a b : E} {x y : Expr} {apos cpos : Pos} (ha : PE X x (tE G W X a)) (hb : PE X y (tE G W X b)) (ns : notStar y = true) (at0 : attrOk x = true) (hl : (apos.endLine == cpos.line) = true) :
    PE X (.Call (.Attribute x "join" apos) [y] [] cpos) (tE G W X (.join a b)) := by
  refine pe_imp (pe_bm PySem.F.plainAttrs_str PySem.F.slot_str_join PySem.F.type_str_join mt_joinD ha (pa_cons hb pa_nil (star1 ns)) (attr0 at0) (few1 ns) hl (star1 ns)) fun σ H Q ⟨ρ, Ws, e, q⟩ => ?_
  refine ⟨ρ, Ws, e, (q.bd.less mem_l).mono fun d ρ1 q v H1 Ws1 W1 e1 r1 g1 k1 => ?_⟩
  obtain ⟨hs, q⟩ := q.ite
  obtain ⟨l, rfl⟩ := str_is hs
  refine ⟨by rw [r1.1]; rfl, ρ1, Ws1, e1, (q.bd.from g1 mem_l mem_r).mono fun d2 ρ2 q v2 H2 Ws2 W2 e2 r2 g2 k2 => ?_⟩
  obtain ⟨z, hz, q⟩ := q.lift
  exact ⟨.str l, d2, z, v2, W1, W2, rfl, hz, r1, r2, nw_fin e2 (g1.tr2 g2 mem_l mem_r) q⟩
theorem s_get (c : Cg G S W X) {a k b : E} {x y z : Expr} {apos cpos : Pos} (ha : PE X x (tE G W X a)) (hk : PE X y (tE G W X k)) (hb : PE X z (tE G W X b)) (ny : notStar y = true) (nz : notStar z = true) (at0 : attrOk x = true) (hl : (apos.endLine == cpos.line) = true) :
    PE X (.Call (.Attribute x "get" apos) [y, z] [] cpos) (tE G W X (.get a k b)) := by
  have tr : backTo cpos (starEach [y, z] X.env) = [(false, eval y X.env), (false, eval z X.env)] := by rw [star1 ny, star1 nz]; rfl
  refine pe_imp (pe_dget2 (by have := c.hu; omega) ha hk hb ⟨attr0 at0, few2 ny nz, hl, tr⟩) fun σ H Q ⟨ρ, Ws, e, q⟩ => ?_
  refine ⟨ρ, Ws, e, (q.bd.less mem_l).mono fun d ρ1 q v H1 Ws1 W1 e1 r1 g1 k1 => ?_⟩
  obtain ⟨hs, q⟩ := q.ite
  obtain ⟨ks, ds, rfl⟩ := dct_is hs
  obtain ⟨p, vs, W0, ev, ⟨kvs, ep, ek, evs, ok⟩, rs, eW⟩ := id r1
  refine ⟨p, ev, .inl ⟨kvs, .inl ep⟩, ρ1, Ws1, e1, (q.bd.from g1 mem_l fun i hi => mem_r i (mem_l i hi)).mono fun d2 ρ2 q v2 H2 Ws2 W2 e2 r2 g2 k2 => ?_⟩
  have g12 := g1.tr2 g2 (wr := wrE a ++ (wrE k ++ wrE b)) mem_l fun i hi => mem_r i (mem_l i hi)
  refine ⟨ρ2, Ws2, e2, (q.bd.from g12 (fun _ h => h) fun i hi => mem_r i (mem_r i hi)).mono fun d3 ρ3 q v3 H3 Ws3 W3 e3 r3 g3 k3 => ?_⟩
  obtain ⟨⟨sf, py, pz⟩, q⟩ := q.ite
  obtain ⟨z, hz, fin⟩ := q.lift
  clear q
  have g23 := g2.tr2 g3 (wr := wrE k ++ wrE b) mem_l mem_r
  obtain ⟨u1, u2⟩ := k1.stay e1 r1 sf g23
  have gA := g12.tr2 g3 (fun _ h => h) (fun i hi => mem_r i (mem_r i hi))
  obtain ⟨p', vs', W0', ev', ⟨kvs', ep', ek', evs', ok'⟩, rs', eW'⟩ := u1
  rw [ev] at ev'; cases ev'
  simp only [getF] at hz
  split at hz <;> first | (cases hz; done) | skip
  rename_i hc
  simp only [Bool.and_eq_true] at hc
  have w2 := Rp.pu_nil d2 py r2
  subst w2
  have r2' : Rp X.K H3 d2 v2 [] := by
    have := (Kd.stay (m := none) (d := d2) (w0 := []) (W := []) (Ws := Ws2) (H := H2) Kd.nil e2 r2 rfl g3).1
    exact this
  obtain ⟨qk, rfl, rfl, _, _⟩ := key_of_d r2' hc.1
  refine ⟨_, DGet.k ep', ?_⟩
  have hv := kIx_val qk kvs' vs' evs'
  rw [← ek'] at hv
  cases hx : kIx (keyD qk) ks with
  | some j =>
    rw [hx] at hz hv
    simp only [Option.bind_some] at hz hv
    obtain ⟨w, W', h1, h2, h3⟩ := rs'.get' (i := j) hz
    rw [← hv, h1]
    have w0 := rs'.pu_nil hc.2
    subst w0
    have := List.sublist_nil.mp h3
    subst this
    exact fin w H3 Ws3 [] e3 h2 gA Kd.nil
  | none =>
    rw [hx] at hz hv
    simp only [Option.bind_none, Option.some.injEq] at hz hv
    subst hz
    rw [← hv]
    have w3 := Rp.pu_nil d3 pz r3
    subst w3
    exact fin v3 H3 Ws3 [] e3 r3 gA Kd.nil
end
end G

/-! G4e: dict displays, calls -/
namespace G
open PySem PySem.Spec PyProof.Rows L2
section
variable {G : Glob} {S : Sx} {W : WX} {X : Cx}
theorem tE_mono {c : E} {σ : Sg} {H : Hp} {Q Q' : VK} (h : tE G W X c σ H Q) (m : ∀ v H', Q v H' → Q' v H') : tE G W X c σ H Q' := by
  obtain ⟨ρ, Ws, e, q⟩ := h
  exact ⟨ρ, Ws, e, q.mono fun d ρ' h v H' Ws' W' e' r' g' k' => m _ _ (h v H' Ws' W' e' r' g' k')⟩
theorem es_cons {c : E} {r : Es} {σ : Sg} {H : Hp} {Q : List V → Hp → Prop} (h : tEs G W X (.cons c r) σ H Q) : tE G W X c σ H fun v H1 => tEs G W X r σ H1 fun vs H2 => Q (v :: vs) H2 := by
  obtain ⟨ρ, Ws, e, q⟩ := h
  refine ⟨ρ, Ws, e, (q.bd.less mem_l).mono fun d ρ1 q v H1 Ws1 W1 e1 r1 g1 k1 => ?_⟩
  obtain ⟨o, q⟩ := q.ite
  have k1 := k1.own r1 o
  refine ⟨ρ1, Ws1, e1, (q.bd.from g1 mem_l mem_r).mono fun ds ρ2 q vs H2 Ws2 W2 e2 r2 g2 k2 => ?_⟩
  obtain ⟨s1, s2⟩ := Kd.stay (d := d) k1 e1 r1 rfl g2
  exact q (v :: vs) H2 Ws2 (W1 ++ W2) e2 (Rps.cons s1 r2) (g1.tr2 g2 mem_l mem_r) (Kd.two g1 k1 (Rp.mut d r1) s2 k2 mem_l mem_r)
def alt : Es → Bool
  | .nil => true
  | .cons _ (.cons _ r) => alt r
  | .cons _ .nil => false
abbrev trs (G : Glob) (W : WX) (X : Cx) : Es → List (TE × TE)
  | .cons k (.cons v r) => (tE G W X k, tE G W X v) :: trs G W X r
  | _ => []
theorem tp_of : ∀ (c : Es) {σ : Sg} {H : Hp} {Q : List (V × V) → Hp → Prop}, alt c = true → tEs G W X c σ H (fun us H' => ∀ ps : List (V × V), us = ps.flatMap (fun p => [p.1, p.2]) → Q ps H') → tPairs (trs G W X c) σ H Q
  | .nil, σ, H, Q, _, h => by
    obtain ⟨ρ, Ws, e, q⟩ := h
    exact q [] H Ws [] e Rps.nil Go.refl Kd.nil [] rfl
  | .cons _ .nil, _, _, _, h, _ => by simp [alt] at h
  | .cons k (.cons v r), σ, H, Q, ha, h => tE_mono (es_cons h) fun x H1 h1 => tE_mono (es_cons h1) fun y H2 h2 => tp_of r (by simpa [alt] using ha) (by
    obtain ⟨ρ, Ws, e, q⟩ := h2
    exact ⟨ρ, Ws, e, q.mono fun ds ρ' f us H' Ws' W' e' r' g' k' ps hp => f us H' Ws' W' e' r' g' k' ((x, y) :: ps) (by rw [hp]; rfl)⟩)
theorem pairs_flat : ∀ {ps : List (V × V)} {more : List (Key × V)}, ps.flatMap (fun p => [p.1, p.2]) = more.flatMap (fun p => [kV p.1, p.2]) → ps = more.map fun kv => (kV kv.1, kv.2)
  | [], [], _ => rfl
  | [], _ :: _, h => by simp at h
  | _ :: _, [], h => by simp at h
  | p :: ps, m :: more, h => by
    simp only [List.flatMap_cons, List.cons_append, List.nil_append, List.cons.injEq] at h
    obtain ⟨h1, h2, h3⟩ := h
    rw [List.map_cons, ← pairs_flat h3, ← h1, ← h2]
theorem s_dis {c : Es} {ks : List (Option Expr)} {vs : List Expr} {pos : Pos} (h : PPs X pos ks vs (trs G W X c)) (ha : alt c = true) (hall : ks.all (·.isSome) = true) (hl : ks.length = vs.length) (h15 : ks.length ≤ 15) (hn : esLen c = 2 * ks.length) :
    PE X (.Dict ks vs pos) (tE G W X (.dis c)) := by
  -- what is to be shown of the dict at p
  have key : ∀ {σ : Sg} {H : Hp} {Q : VK}, tE G W X (.dis c) σ H Q → tDisp (trs G W X c) σ H Q := by
    intro σ H Q q p hp
    obtain ⟨ρ, Ws, e, q⟩ := q
    have q := q.bd
    have sm : Same H (upd H p (.dK [])) := same_upd hp
    have g0 : Go (wrEs c) Ws H Ws (upd H p (.dK [])) := Go.same sm
    refine tp_of c ha ⟨ρ, Ws, e.same sm, ?_⟩
    have q2 := q.from g0 (fun _ h => h) (w2 := wrEs c) fun _ h => h
    cases hv : evEs G.Γ c ρ with
    | no => rw [hv] at q; exact q.elim
    | er x ρ1 => rw [hv] at q2; exact q2
    | ok ds ρ1 =>
      rw [hv] at q
      obtain ⟨z, hz, q⟩ := q.lift
      obtain ⟨⟨kd, vd⟩, hpz, rfl⟩ := Option.map_eq_some_iff.mp hz
      intro us H2 Ws2 W2 e2 r2 g2 k2 ps hps
      have np : ∀ i, p ∉ Ws i := fun i z => by have := e.mut z; rw [hp] at this; exact notMut_none this
      have hp2 : H2 p = some (.dK []) := g2.fr p _ upd_same fun i _ => np i
      have np2 : ∀ i, p ∉ Ws2 i := fun i z => by
        by_cases hi : i ∈ wrEs c
        · rcases g2.sub i p hi z with ⟨j, _, y⟩ | y
          · exact np j y
          · rw [upd_same] at y; cases y
        · rw [g2.eq i hi] at z; exact np i z
      have npW : p ∉ W2 := fun z => by
        rcases (k2.2 p z).2 with ⟨j, _, y⟩ | y
        · exact np j y
        · rw [upd_same] at y; cases y
      obtain ⟨more, m1, m2, m3, m4, U, u1, u2, u3⟩ := pairs2_merge (K := X.K) (H := H2) ds [] [] kd vd [] us [] W2 hpz List.nodup_nil rfl (fun p hp => nomatch hp) Rps.nil List.nodup_nil r2 k2.1 (fun b _ z => nomatch z) (by simp)
      refine ⟨hp2, more, ?_, ?_, ?_⟩
      · exact pairs_flat (by rw [← hps, m1])
      · have l1 := evEs_len c ρ ds ρ1 hv
        have l2 := r2.length
        rw [m1] at l2
        have l3 : ∀ l : List (Key × V), (l.flatMap (fun p => [kV p.1, p.2])).length = 2 * l.length := by
          intro l
          induction l with
          | nil => rfl
          | cons a l ih => rw [List.flatMap_cons, List.length_append, ih, List.length_cons]; simp; omega
        rw [l3] at l2
        omega
      · have kp : Keep (fun b => b = p) H2 (upd H2 p (.dK (mergeK [] more))) := keep_upd (.inr (.inl ⟨_, hp2⟩))
        have hU : ∀ b ∈ U, b ∈ W2 := fun b hb => (u3 b hb).elim (fun z => nomatch z) id
        refine q (.ref p) _ Ws2 (p :: U) (e2.keep kp fun i a ha h => np2 i (h ▸ ha)) ⟨p, _, U, rfl, ⟨_, upd_same, m3, rfl, m4⟩, u1.keep kp _ fun b hb h => npW (h ▸ hU b hb), rfl⟩ ⟨fun a o hao hn => ?_, fun i a hi z => ?_, fun i hi => g2.eq i hi⟩ ⟨List.nodup_cons.mpr ⟨fun z => npW (hU p z), u2⟩, fun a ha => ?_⟩
        · have ne : a ≠ p := fun h => by rw [h, hp] at hao; cases hao
          rw [upd_ne ne]
          exact g2.fr a o (by rw [upd_ne ne]; exact hao) hn
        · rcases g2.sub i a hi z with y | y
          · exact .inl y
          · refine .inr ?_
            have ne : a ≠ p := fun h => by rw [h, upd_same] at y; cases y
            rw [upd_ne ne] at y; exact y
        · rcases List.mem_cons.mp ha with rfl | ha
          · exact ⟨np2, .inr hp⟩
          · have := k2.2 a (hU a ha)
            refine ⟨this.1, this.2.imp id fun y => ?_⟩
            have ne : a ≠ p := fun h => by rw [h, upd_same] at y; cases y
            rw [upd_ne ne] at y; exact y
  cases ks with
  | nil =>
    cases vs with
    | cons _ _ => simp at hl
    | nil =>
      refine pe_imp pe_dnewK fun σ H Q q p hp => ?_
      have hc : trs G W X c = [] := by
        cases c with
        | nil => rfl
        | cons a r => simp [esLen] at hn
      have k := key q p hp
      rw [hc] at k
      obtain ⟨_, kvs, h1, _, h2⟩ := k
      have : kvs = [] := by simpa using h1.symm
      subst this
      rw [mergeK_nil] at h2
      have : upd (upd H p (.dK [])) p (.dK []) = upd H p (.dK []) := by
        funext b
        by_cases hb : b = p
        · subst hb; rw [upd_same, upd_same]
        · rw [upd_ne hb, upd_ne hb]
      rw [this] at h2
      exact h2
  | cons k0 ks0 => exact pe_imp (pe_disp h hall hl (by simp) h15) fun σ H Q q => key q
/-! calls -/
abbrev tAs (G : Glob) (W : WX) (X : Cx) (c : As) : TA := fun σ H Q => ∃ ρ Ws, EnvOk X.K H σ ρ Ws ∧ Aft X.K G.XR W (wrAs c) σ Ws H (evAs G.Γ c ρ) fun as ρ' => ∀ vs H' Ws' Wt, EnvOk X.K H' σ ρ' Ws' → AgsOk X.K H' σ as vs Wt → Go (wrAs c) Ws H Ws' H' → Kd none (wrAs c) Ws H Ws' Wt.flatten → Q vs H'
theorem as_nil : PA X [] (tAs G W X .nil) := pa_imp pa_nil fun σ H Q ⟨ρ, Ws, e, q⟩ => q [] H Ws [] e True.intro Go.refl Kd.nil
theorem as_val {c : E} {r : As} {x : Expr} {xs : List Expr} (h : PE X x (tE G W X c)) (t : PA X xs (tAs G W X r)) (ns : notStar x = true) : PA X (x :: xs) (tAs G W X (.val c r)) := pa_imp (pa_cons h t (star1 ns)) fun σ H Q ⟨ρ, Ws, e, q⟩ => by
  refine ⟨ρ, Ws, e, (q.bd.less mem_l).mono fun d ρ1 q v H1 Ws1 W1 e1 r1 g1 k1 => ?_⟩
  obtain ⟨o, q⟩ := q.ite
  have k1 := k1.own r1 o
  refine ⟨ρ1, Ws1, e1, (q.bd.from g1 mem_l mem_r).mono fun as ρ2 q vs H2 Ws2 W2 e2 r2 g2 k2 => ?_⟩
  obtain ⟨s1, s2⟩ := Kd.stay (d := d) k1 e1 r1 rfl g2
  exact q (v :: vs) H2 Ws2 (W1 :: W2) e2 ⟨s1, r2⟩ (g1.tr2 g2 mem_l mem_r) (by rw [List.flatten_cons]; exact Kd.two g1 k1 (Rp.mut d r1) s2 k2 mem_l mem_r)
theorem as_ref {i : Nat} {r : As} {x : Expr} {xs : List Expr} (h : PE X x (tVar i)) (t : PA X xs (tAs G W X r)) (ns : notStar x = true) : PA X (x :: xs) (tAs G W X (.ref i r)) := pa_imp (pa_cons h t (star1 ns)) fun σ H Q ⟨ρ, Ws, e, q⟩ => by
  obtain ⟨d, hd, q⟩ := (show Aft X.K G.XR W _ σ Ws H ((lift (g ρ i) ρ).bd _) _ from q).bd.lift
  obtain ⟨v, h1, h2⟩ := e.slot i d hd
  refine ⟨v, gV_some h1, ρ, Ws, e, (q.bd.less fun j hj => List.mem_cons_of_mem _ hj).mono fun as ρ2 q vs H2 Ws2 W2 e2 r2 g2 k2 => ?_⟩
  refine q (v :: vs) H2 Ws2 ([] :: W2) e2 ⟨h1, rfl, r2⟩ (g2.mono fun j hj => List.mem_cons_of_mem _ hj) ?_
  rw [List.flatten_cons, List.nil_append]
  exact k2.mono fun j hj => List.mem_cons_of_mem _ hj
def asLen : As → Nat
  | .nil => 0
  | .val _ r => asLen r + 1
  | .ref _ r => asLen r + 1
theorem evAs_facts {Γ : Fns} : ∀ (c : As) (ρ : Env) (as : List Ag) (ρ' : Env), evAs Γ c ρ = .ok as ρ' → as.length = asLen c ∧ ∀ i ∈ refsOf as, i ∈ wrAs c
  | .nil, ρ, as, ρ', h => by
    cases h; exact ⟨rfl, fun i hi => nomatch hi⟩
  | .val e r, ρ, as, ρ', h => by
    simp only [evAs] at h
    cases h1 : evE Γ e ρ with
    | no => rw [h1] at h; cases h
    | er x ρ1 => rw [h1] at h; cases h
    | ok d ρ1 =>
      rw [h1, R.bd_ok] at h
      split at h
      · cases h2 : evAs Γ r ρ1 with
        | no => rw [h2] at h; cases h
        | er x ρ2 => rw [h2] at h; cases h
        | ok es ρ2 =>
          rw [h2, R.bd_ok] at h
          cases h
          obtain ⟨a, b⟩ := evAs_facts r ρ1 es _ h2
          exact ⟨by show es.length + 1 = asLen r + 1; rw [a], fun i hi => mem_r i (b i hi)⟩
      · cases h
  | .ref j r, ρ, as, ρ', h => by
    simp only [evAs] at h
    cases h0 : g ρ j with
    | none => rw [h0] at h; cases h
    | some d =>
      rw [h0, lift_some, R.bd_ok] at h
      cases h2 : evAs Γ r ρ with
      | no => rw [h2] at h; cases h
      | er x ρ2 => rw [h2] at h; cases h
      | ok es ρ2 =>
        rw [h2, R.bd_ok] at h
        cases h
        obtain ⟨a, b⟩ := evAs_facts r ρ es _ h2
        refine ⟨by show es.length + 1 = asLen r + 1; rw [a], fun i hi => ?_⟩
        rcases List.mem_cons.mp hi with rfl | hi
        · exact List.mem_cons_self
        · exact List.mem_cons_of_mem _ (b i hi)
theorem s_call (c : Cg G S W X) {f : Nat} {as : As} {x : Str} {y : Expr} {ys : List Expr} {p pos : Pos} (hf : G.fn[f]? = some (x, (y :: ys).length)) (hg : glB S.sc x = true) (hd : dbgOk x = true) (ha : PA X (y :: ys) (tAs G W X as)) (hl : asLen as = (y :: ys).length)
    (ns : ∀ e ∈ y :: ys, notStar e = true) : PE X (.Call (.Name x p) (y :: ys) [] pos) (tE G W X (.call f as)) := by
  obtain ⟨a, fd, ps, mg, ki, bi, F⟩ := c.fns f x _ hf
  refine pe_imp (pe_callS (pos := pos) F c.room (c.gl hg) mg ki bi (passAt c.tk) ha (dbg_of hd).1 (star1 (ns y List.mem_cons_self)) (stars fun e he => ns e (List.mem_cons_of_mem _ he))) fun σ H Q ⟨ρ, Ws, e, q⟩ => ?_
  have q := (show Aft X.K G.XR W (wrAs as) σ Ws H ((evAs G.Γ as ρ).bd _) _ from q).bd
  refine ⟨ρ, Ws, e, ?_⟩
  cases hv : evAs G.Γ as ρ with
  | no => rw [hv] at q; exact q.elim
  | er x ρ1 => rw [hv] at q; exact q
  | ok ags ρ1 =>
    rw [hv] at q
    obtain ⟨n1, n2⟩ := evAs_facts as ρ ags ρ1 hv
    intro vs H1 Ws1 Wt e1 o1 g1 k1
    exact call_ok g1 e1 o1 k1.1 k1.2 n2 (n1.trans hl) q
end
end G

/-! G4f: enumerate of texts and tuples -/
namespace G
open PySem PySem.Spec PyProof.Rows L2
set_option maxHeartbeats 2000000 in
theorem enum_new1 {v : Value} {ob : Obj} {Hs : Heap → Prop} (B : Begins v ob Hs) :
    Meets (Builtin.«enumerate.__new__» ⟨[.type "enumerate", v], []⟩) (fun _ R s => Hs s.heap ∧
      R (.ok (.ret (.ref (s.heap.push ob).objs.size))) { s with heap := (s.heap.push ob).push { cls := .type "enumerate", data := .fields #[.none, .bool false, .ref s.heap.objs.size, rawInt 0, .none, .none] } }) :=
  .of_wp fun prog w A R s hs => by
    obtain ⟨hp, gl, dd, tk, out⟩ := s
    obtain ⟨start, hs⟩ := hs
    have subE := sub_enumerate
    have itr : ∀ {A' : Around} {E : Value → Shared → Prop} {Q : Value → Shared → Prop}, Q (.ref hp.objs.size) ⟨hp.push ob, gl, dd, tk, out⟩ → wpAny (model prog w) A' (pyIter v) Q E ⟨hp, gl, dd, tk, out⟩ :=
      fun z => B.iter prog w _ _ ⟨hp, gl, dd, tk, out⟩ _ start z
    wp_walk using itr
    refine wpAny_stack_any fun stk => wpAny_pure ?_
    split
    · rename_i cc _ _ _ _ _
      cases (cc == Value.type "enumerate") <;> (wp_walk using itr; exact ⟨_, rfl, hs⟩)
    · wp_walk using itr
      exact ⟨_, rfl, hs⟩
section
variable {prog : Program} {w : World} {A : Around} {E : Value → Shared → Prop} {s : Shared}
theorem enum_call1 {v : Value} {ob : Obj} {Hs : Heap → Prop} {Q : Value → Shared → Prop} (B : Begins v ob Hs) (start : Hs s.heap)
    (k : ∀ hh, IsEnum hh (s.heap.objs.size + 1) s.heap.objs.size 0 .none → hh.get? s.heap.objs.size = some ob → (∀ b o, s.heap.get? b = some o → hh.get? b = some o) → Q (.ref (s.heap.objs.size + 1)) { s with heap := hh }) :
    wpAny (model prog w) A (call (.type "enumerate") [v]) Q E s := by
  refine callType_new F.called_enumerate (by decide) (F.typeCall_enumerate_1 _) (F.newCall_enumerate_1 _) (fun obj => F.args_object_init_2 obj _) F.entry_enumerate_new (enum_new1 B) ⟨start, ?_⟩
  have sz : (s.heap.push ob).objs.size = s.heap.objs.size + 1 := Heap.size_push ..
  show _ ∧ _
  rw [sz]
  have en : IsEnum ((s.heap.push ob).push { cls := .type "enumerate", data := .fields #[.none, .bool false, .ref s.heap.objs.size, rawInt 0, .none, .none] }) (s.heap.objs.size + 1) s.heap.objs.size 0 .none := by
    have z := Heap.get?_push_size (s.heap.push ob) (o := { cls := .type "enumerate", data := .fields #[.none, .bool false, .ref s.heap.objs.size, rawInt 0, .none, .none] }) rfl
    rw [sz] at z; exact z
  exact ⟨⟨_, en, rfl⟩, k _ en (Heap.get?_push_of_some _ (Heap.get?_push_size _ B.free)) fun b o z => Heap.get?_push_of_some _ (Heap.get?_push_of_some _ z)⟩
end
/-- enumerate(text) -/
def ItEs (x : Str) : It := ⟨fun i _ => i < x.cps.size, fun i H v H' => ∃ T c, v = .ref T ∧ H T = none ∧ H' = upd H T (.tup [.int (i : Nat), .str ⟨#[c]⟩]) ∧ x.cps[i]? = some c, fun i _ => i = x.cps.size⟩
/-- enumerate(tuple), n items -/
def ItEt (K : PySem.W.Frag) (a : Addr) : It :=
  ⟨fun i H => ∃ xs x, SqT K H a xs ∧ xs[i]? = some x, fun i H v H' => ∃ T x, v = .ref T ∧ H T = none ∧ H' = upd H T (.tup [.int (i : Nat), x]) ∧ ∀ xs, SqT K H a xs → xs[i]? = some x, fun i H => ∃ xs, SqT K H a xs ∧ xs.length = i⟩
section
variable {P : Program} {w : World} {K : PySem.W.Frag} {elts : List Expr} {kk : Nat} {tpos : Pos}
theorem two_of {b e it : Addr} (h : b ∈ [e, it]) : b = e ∨ b = it := by simpa using h
theorem turn_enumS (x : Str) (t : Tok) (e it : Addr) :
    Turn P w K (.Tuple elts kk tpos) (ItEs x) [e, it] e (fun i h => (∃ old, IsEnum h e it ((i : Nat) : Int) old) ∧ h.IsStrIter it (strIterType x) x t i ∧ e ≠ it) where
  mem := by simp
  obj := fun i h st b hb => by
    obtain ⟨⟨old, he⟩, ⟨o, ho, _, hd⟩, _⟩ := st
    rcases two_of hb with z | z
    · subst z; exact ⟨_, he, fun v q => nomatch q⟩
    · subst z; exact ⟨o, ho, fun v q => by rw [hd] at q; cases q⟩
  keep := fun i h h' st k => by
    obtain ⟨⟨old, he⟩, ⟨o, ho, r⟩, hne⟩ := st
    exact ⟨⟨old, k e (by simp) _ he⟩, ⟨o, k it (by simp) o ho, r⟩, hne⟩
  item := by
    intro X hP hw hK hc i pins s σ H E I hf st lt
    subst hP hw hK
    obtain ⟨⟨old, he⟩, hit, hne⟩ := st
    have hel : e < s.heap.objs.size := Heap.lt_size he
    have hil : it < s.heap.objs.size := by obtain ⟨_, q, _⟩ := hit; exact Heap.lt_size q
    refine wpAny_pyNext_enum_itemD (Draws.text (A := X.A.in1) (I.ok.hd hc) it x t) he hit lt hne (by simpa using hne) fun u h' tk hu ho hit' hT hsz hk => ?_
    obtain ⟨c, tu, hcx, rfl⟩ := hu
    refine ⟨_, rfl, wpAny_letOwnedTupleGo_enum (s := { s with heap := h', toks := tk + 1 }) ho fun h'' he' sb => ?_⟩
    have hT2 : h''.get? s.heap.objs.size = some { cls := .type "tuple", data := .seq #[.int i tk, .str ⟨#[c]⟩ tu] } := (sb.2 _ (Nat.ne_of_gt hel)).trans hT
    have new : ObjOk X.prog X.w (upd H s.heap.objs.size (.tup [.int (i : Nat), .str ⟨#[c]⟩])) h'' s.heap.objs.size (.tup [.int (i : Nat), .str ⟨#[c]⟩]) :=
      ⟨by show 2 ≤ sizeLine; decide, [.int i tk, .str ⟨#[c]⟩ tu], .cons ⟨_, rfl⟩ (.cons ⟨_, rfl⟩ .nil), ⟨_, hT2, rfl, _, rfl⟩⟩
    have I1 : Inv X pins σ (upd H s.heap.objs.size (.tup [.int (i : Nat), .str ⟨#[c]⟩])) { s with heap := h'', toks := tk + 1 } :=
      I.turnedNew (ch := [e, it]) (fun b ob hb q => (sb.2 b (fun z => hb (z ▸ by simp))).trans (hk b ob (fun z => hb (z ▸ by simp)) (fun z => hb (z ▸ by simp)) q)) hf (Nat.le_refl _) new
    refine ⟨.ref s.heap.objs.size, _, I1, rfl, ⟨_, c, rfl, I.hok.fresh (Nat.le_refl _), rfl, hcx⟩, ⟨⟨Value.str ⟨#[c]⟩ tu, ?_⟩, ?_, hne⟩, fun b hb => ?_⟩
    · have e1 : ((i + 1 : Nat) : Int) = (i : Int) + 1 := by omega
      rw [e1]; exact he'
    · obtain ⟨o, q, r⟩ := hit'
      exact ⟨o, (sb.2 it (Ne.symm hne)).trans q, r⟩
    · have lb : b < s.heap.objs.size := by
        rcases two_of hb with z | z
        · exact z ▸ hel
        · exact z ▸ hil
      rw [upd_ne (Nat.ne_of_lt lb)]
      exact (hf b hb).1
  done := by
    intro X hP hw hK hc i pins s σ H E I hf st hg
    subst hP hw hK
    obtain ⟨⟨old, he⟩, hit, hne⟩ := st
    obtain ⟨f0, f1, f2, f3, f4, f5⟩ := hf it (by simp)
    have hi : i = x.cps.size := hg
    subst hi
    exact wpAny_pyNext_enum_endD (Draws.text (A := X.A.in1) (I.ok.hd hc) it x t) he hit fun h' eb => ⟨rfl, I.turned (t' := s.toks) (fun b o hb q => eb b o hb q) f0 f1 f3 f4 f5⟩
  self := fun _ _ _ _ _ st h => by obtain ⟨⟨_, he⟩, _⟩ := st; exact wpAny_pyIter_enum he h
theorem turn_enumT (a e it : Addr) :
    Turn P w K (.Tuple elts kk tpos) (ItEt K a) [e, it] e (fun i h => (∃ old, IsEnum h e it ((i : Nat) : Int) old) ∧ h.IsTupleIter it a i ∧ e ≠ it ∧ a ≠ it ∧ a ≠ e) where
  mem := by simp
  obj := fun i h st b hb => by
    obtain ⟨⟨old, he⟩, ⟨o, ho, _, hd⟩, _⟩ := st
    rcases two_of hb with z | z
    · subst z; exact ⟨_, he, fun v q => nomatch q⟩
    · subst z; exact ⟨o, ho, fun v q => by rw [hd] at q; cases q⟩
  keep := fun i h h' st k => by
    obtain ⟨⟨old, he⟩, hit, hne⟩ := st
    exact ⟨⟨old, k e (by simp) _ he⟩, hit.at fun o q => k it (by simp) o q, hne⟩
  item := by
    intro X hP hw hK hc i pins s σ H E I hf st hg
    subst hP hw hK
    obtain ⟨⟨old, he⟩, hit, hne, hai, hae⟩ := st
    obtain ⟨xs, x, hq, hx⟩ := hg
    obtain ⟨its, rv, p, hz⟩ := I.tuple hq
    obtain ⟨u, hu, ru⟩ := rv.get hx
    have hel : e < s.heap.objs.size := Heap.lt_size he
    have hil : it < s.heap.objs.size := by obtain ⟨_, q, _⟩ := hit; exact Heap.lt_size q
    have lt : i < its.toArray.size := by
      have := (List.getElem?_eq_some_iff.mp hu).1
      simpa using this
    refine wpAny_pyNext_enum_itemD (Draws.tuple (A := X.A.in1) (I.ok.hd hc) it a hai its.toArray) he ⟨hit, p⟩ lt hne (by simp only [List.mem_cons, List.not_mem_nil, or_false, not_or]; exact ⟨hne, Ne.symm hae⟩) fun u2 h' tk hu2 ho hit' hT hsz hk => ?_
    have eu : u2 = u := by
      have : its[i]? = some u2 := by simpa using hu2
      rw [hu] at this; exact (Option.some.inj this).symm
    subst eu
    refine ⟨_, rfl, wpAny_letOwnedTupleGo_enum (s := { s with heap := h', toks := tk + 1 }) ho fun h'' he' sb => ?_⟩
    have hT2 : h''.get? s.heap.objs.size = some { cls := .type "tuple", data := .seq #[.int i tk, u2] } := (sb.2 _ (Nat.ne_of_gt hel)).trans hT
    have new : ObjOk X.prog X.w (upd H s.heap.objs.size (.tup [.int (i : Nat), x])) h'' s.heap.objs.size (.tup [.int (i : Nat), x]) :=
      ⟨by show 2 ≤ sizeLine; decide, [.int i tk, u2], .cons ⟨_, rfl⟩ (.cons ru .nil), ⟨_, hT2, rfl, _, rfl⟩⟩
    have I1 : Inv X pins σ (upd H s.heap.objs.size (.tup [.int (i : Nat), x])) { s with heap := h'', toks := tk + 1 } :=
      I.turnedNew (ch := [e, it]) (fun b ob hb q => (sb.2 b (fun z => hb (z ▸ by simp))).trans (hk b ob (fun z => hb (z ▸ by simp)) (fun z => hb (z ▸ by simp)) q)) hf (Nat.le_refl _) new
    refine ⟨.ref s.heap.objs.size, _, I1, rfl, ⟨_, x, rfl, I.hok.fresh (Nat.le_refl _), rfl, fun ys hy => by rw [I.tuple_inj hy hq]; exact hx⟩, ⟨⟨u2, ?_⟩, hit'.1.at fun o q => (sb.2 it (Ne.symm hne)).trans q, hne, hai, hae⟩, fun b hb => ?_⟩
    · have e1 : ((i + 1 : Nat) : Int) = (i : Int) + 1 := by omega
      rw [e1]; exact he'
    · have lb : b < s.heap.objs.size := by
        rcases two_of hb with z | z
        · exact z ▸ hel
        · exact z ▸ hil
      rw [upd_ne (Nat.ne_of_lt lb)]
      exact (hf b hb).1
  done := by
    intro X hP hw hK hc i pins s σ H E I hf st hg
    subst hP hw hK
    obtain ⟨⟨old, he⟩, hit, hne, hai, hae⟩ := st
    obtain ⟨xs, hq, hx⟩ := hg
    obtain ⟨its, rv, p, hz⟩ := I.tuple hq
    obtain ⟨f0, f1, f2, f3, f4, f5⟩ := hf it (by simp)
    have hl := rv.length
    have ei : i = its.toArray.size := by simp; omega
    subst ei
    exact wpAny_pyNext_enum_endD (Draws.tuple (A := X.A.in1) (I.ok.hd hc) it a hai its.toArray) he ⟨hit, p⟩ fun h' eb => ⟨rfl, I.turned (t' := s.toks) (fun b o hb q => eb b o hb q) f0 f1 f3 f4 f5⟩
  self := fun _ _ _ _ _ st h => by obtain ⟨⟨_, he⟩, _⟩ := st; exact wpAny_pyIter_enum he h
end
/-- enumerate of a list, a text, a tuple -/
def iEnumA (K : PySem.W.Frag) (ta : TA) : TI := fun σ H R => ta σ H fun vs H1 => (∃ a xs, vs = [.ref a] ∧ SqL K H1 a xs ∧ R (Ite K a) H1) ∨ (∃ x, vs = [.str x] ∧ R (ItEs x) H1) ∨ ∃ a xs, vs = [.ref a] ∧ SqT K H1 a xs ∧ R (ItEt K a) H1
theorem pi_enumA {X : Cx} {e : Expr} {ta : TA} {p pos tpos : Pos} {elts : List Expr} {kk : Nat} (hg : Gl X "enumerate") (hm : X.mg "enumerate" = none) (ha : PA X [e] ta) (hs : starEach [e] X.env = [(false, eval e X.env)] := by rfl) :
    PI X (.Tuple elts kk tpos) (.Call (.Name "enumerate" p) [e] [] pos) (iEnumA X.K ta) := by
  refine ⟨fun pins s σ H R I h => ?_⟩
  refine Call_ (ld_blt I hg hm boot_enumerate (PyProof.Rows.callWith_type1 (thn (ha.run pos pins s σ H _ I h) fun us s1 ⟨vs, H1, I1, r1, q1⟩ => ?_) hs rfl))
  have fp2 : ∀ b ∈ [s1.heap.objs.size + 1, s1.heap.objs.size], FpOk X pins H1 b := fun b hb => by
    have le : s1.heap.objs.size ≤ b := by
      rcases two_of hb with z | z
      · rw [z]; exact Nat.le_add_right _ _
      · rw [z]; exact Nat.le_refl _
    exact I1.fpOk le (I1.hok.fresh le)
  rcases q1 with ⟨a, xs, ex, hq, q⟩ | ⟨x, ex, q⟩ | ⟨a, xs, ex, hq, q⟩
  · subst ex
    cases r1 with
    | cons r rr =>
      cases rr
      cases r
      obtain ⟨its, rv, p', hz⟩ := I1.list hq
      refine enum_call1 (begins_list a its.toArray) p'.isList fun hh en ho hk => wpAny_pyIter_enum en ?_
      exact ⟨_, _, _, _, H1, rfl, I1.kept (t' := s1.toks) hk, turn_enum a _ _, ⟨⟨.none, en⟩, ⟨_, ho, rfl, rfl⟩, Nat.succ_ne_self _⟩, fp2, q⟩
  · subst ex
    cases r1 with
    | cons r rr =>
      cases rr
      obtain ⟨t, rfl⟩ := r
      refine enum_call1 (begins_text x t) True.intro fun hh en ho hk => wpAny_pyIter_enum en ?_
      exact ⟨_, _, _, _, H1, rfl, I1.kept (t' := s1.toks) hk, turn_enumS x t _ _, ⟨⟨.none, en⟩, ⟨_, ho, rfl, rfl⟩, Nat.succ_ne_self _⟩, fp2, q⟩
  · subst ex
    cases r1 with
    | cons r rr =>
      cases rr
      cases r
      obtain ⟨its, rv, p', hz⟩ := I1.tuple hq
      have la : a < s1.heap.objs.size := by
        obtain ⟨o, z, _⟩ := id p'
        exact Heap.lt_size z
      refine enum_call1 (begins_tuple a its.toArray) p' fun hh en ho hk => wpAny_pyIter_enum en ?_
      exact ⟨_, _, _, _, H1, rfl, I1.kept (t' := s1.toks) hk, turn_enumT a _ _, ⟨⟨.none, en⟩, ⟨_, ho, rfl, rfl⟩, Nat.succ_ne_self _, Nat.ne_of_lt la, Nat.ne_of_lt (Nat.lt_succ_of_lt la)⟩, fp2, q⟩
end G

/-! G4g: what is walked; targets -/
namespace G
open PySem PySem.Spec PyProof.Rows L2
/-- the walk J is over ys; B: what it leans on; St: how it stands at each turn, with the objects of what is left -/
structure WkOk (K : PySem.W.Frag) (J : It) (ys : List D) (B : List Addr) (St : Nat → Hp → List Addr → Prop) : Prop where
  keep : ∀ {H H' : Hp} {MM : Addr → Prop} {i : Nat} {M : List Addr}, St i H M → Keep MM H H' → (∀ a ∈ B ++ M, ¬ MM a) → St i H' M
  mt : ∀ {H : Hp} {i : Nat} {M : List Addr}, St i H M → ∀ a ∈ B ++ M, MutO (H a)
  go : ∀ {H : Hp} {i : Nat} {M : List Addr} {y : D}, St i H M → ys[i]? = some y → J.go i H ∧ ∀ x H', J.yld i H x H' → Same H H' ∧ ∃ Wx M', M = Wx ++ M' ∧ Rp K H' y x Wx ∧ St (i + 1) H' M'
  stop : ∀ {H : Hp} {M : List Addr}, St ys.length H M → J.stop ys.length H
  pur : ∀ {H : Hp} {M : List Addr}, St 0 H M → puL ys = true → M = []
section
variable {K : PySem.W.Frag} {H H' : Hp}
def LB (K : PySem.W.Frag) (H : Hp) (a : Addr) (vs : List V) (B : List Addr) : Prop := (B = [a] ∧ H a = some (.lst vs)) ∨ (B = [] ∧ SqF K H a vs)
theorem LB.l {a : Addr} {vs : List V} {B : List Addr} (h : LB K H a vs B) : SqL K H a vs := h.elim (fun z => SqL.of z.2) fun z => z.2.l
theorem SqF.keep {MM : Addr → Prop} (k : Keep MM H H') {a : Addr} {vs : List V} (h : SqF K H a vs) : SqF K H' a vs :=
  h.elim (fun ⟨o, z⟩ => .inl ⟨o, k.kp _ _ z fun q => notMut_frz (by have := k.mu _ q; rw [z] at this; exact this)⟩) .inr
theorem LB.keep {MM : Addr → Prop} (k : Keep MM H H') {a : Addr} {vs : List V} {B : List Addr} (h : LB K H a vs B) (n : ∀ b ∈ B, ¬ MM b) : LB K H' a vs B :=
  h.elim (fun z => .inl ⟨z.1, k.kp _ _ z.2 (n a (by rw [z.1]; exact List.mem_cons_self))⟩) fun z => .inr ⟨z.1, z.2.keep k⟩
theorem LB.mut {a : Addr} {vs : List V} {B : List Addr} (h : LB K H a vs B) : ∀ b ∈ B, MutO (H b) := by
  rcases h with ⟨rfl, h⟩ | ⟨rfl, _⟩
  · intro b hb
    rw [List.mem_singleton.mp hb]; exact .inl ⟨_, h⟩
  · exact fun b hb => nomatch hb
/-- the first of what is left -/
theorem Rps.turn {ys : List D} {vs : List V} {i : Nat} {M : List Addr} {y : D} (h : Rps K H (ys.drop i) (vs.drop i) M) (e : ys[i]? = some y) : ∃ v Wx M', vs[i]? = some v ∧ M = Wx ++ M' ∧ Rp K H y v Wx ∧ Rps K H (ys.drop (i + 1)) (vs.drop (i + 1)) M' := by
  obtain ⟨hi, e⟩ := List.getElem?_eq_some_iff.mp e
  rw [List.drop_eq_getElem_cons hi, e] at h
  obtain ⟨v, r, W1, W2, e1, h1, h2, eW⟩ := h
  have hv : vs[i]? = some v := by
    have : (vs.drop i)[0]? = some v := by rw [e1]; rfl
    rw [List.getElem?_drop] at this
    simpa using this
  refine ⟨v, W1, W2, hv, eW, h1, ?_⟩
  have : vs.drop (i + 1) = r := by
    have := congrArg List.tail e1
    rwa [List.tail_drop, List.tail_cons] at this
  rw [this]; exact h2
abbrev StL (K : PySem.W.Frag) (a : Addr) (ys : List D) (B : List Addr) : Nat → Hp → List Addr → Prop := fun i H M => ∃ vs, LB K H a vs B ∧ vs.length = ys.length ∧ Rps K H (ys.drop i) (vs.drop i) M
abbrev StT (K : PySem.W.Frag) (a : Addr) (ys : List D) : Nat → Hp → List Addr → Prop := fun i H M => ∃ vs, SqT K H a vs ∧ vs.length = ys.length ∧ Rps K H (ys.drop i) (vs.drop i) M
theorem wk_list {a : Addr} {ys : List D} {B : List Addr} : WkOk K (Itl K a) ys B (StL K a ys B) where
  keep := fun ⟨vs, h1, h2, h3⟩ k n => ⟨vs, h1.keep k fun b hb => n b (List.mem_append_left _ hb), h2, Rps.keep k _ h3 fun b hb => n b (List.mem_append_right _ hb)⟩
  mt := fun ⟨vs, h1, h2, h3⟩ b hb => (List.mem_append.mp hb).elim (h1.mut b) (Rps.mut _ h3 b)
  go := fun {H i M y} ⟨vs, h1, h2, h3⟩ e => by
    obtain ⟨v, Wx, M', hv, eM, r, t⟩ := h3.turn e
    refine ⟨⟨vs, v, h1.l, hv⟩, fun x H' ⟨e1, e2⟩ => ?_⟩
    subst e1
    have := e2 vs h1.l
    rw [hv] at this; cases this
    exact ⟨Same.refl _, Wx, M', eM, r, vs, h1, h2, t⟩
  stop := fun ⟨vs, h1, h2, h3⟩ => ⟨vs, h1.l, Nat.le_of_eq h2⟩
  pur := fun ⟨vs, h1, h2, h3⟩ p => Rps.pu_nil (by simpa using p) h3
theorem wk_tup {a : Addr} {ys : List D} : WkOk K (Itt K a) ys [] (StT K a ys) where
  keep := fun ⟨vs, h1, h2, h3⟩ k n => ⟨vs, k.sqT h1, h2, Rps.keep k _ h3 fun b hb => n b (List.mem_append_right _ hb)⟩
  mt := fun ⟨vs, h1, h2, h3⟩ b hb => Rps.mut _ h3 b hb
  go := fun {H i M y} ⟨vs, h1, h2, h3⟩ e => by
    obtain ⟨v, Wx, M', hv, eM, r, t⟩ := h3.turn e
    refine ⟨⟨vs, v, h1, hv⟩, fun x H' ⟨e1, e2⟩ => ?_⟩
    subst e1
    have := e2 vs h1
    rw [hv] at this; cases this
    exact ⟨Same.refl _, Wx, M', eM, r, vs, h1, h2, t⟩
  stop := fun ⟨vs, h1, h2, h3⟩ => ⟨vs, h1, Nat.le_of_eq h2⟩
  pur := fun ⟨vs, h1, h2, h3⟩ p => Rps.pu_nil (by simpa using p) h3
theorem wk_str {l : List Nat} : WkOk K (Its (mkS l)) (l.map fun c => D.str [c]) [] (fun i H M => M = [] ∧ okS l) where
  keep := fun h _ _ => h
  mt := fun ⟨h, _⟩ b hb => by rw [h] at hb; cases hb
  go := fun {H i M y} ⟨h1, h2⟩ e => by
    rw [List.getElem?_map] at e
    obtain ⟨c, hc, rfl⟩ := Option.map_eq_some_iff.mp e
    have hi := (List.getElem?_eq_some_iff.mp hc).1
    refine ⟨by show i < (mkS l).cps.size; simpa [mkS] using hi, fun x H' ⟨e1, c', hc', e2⟩ => ?_⟩
    subst e1
    have : c' = c := by
      have z : l[i]? = some c' := by simpa [mkS] using hc'
      rw [hc] at z; exact (Option.some.inj z).symm
    subst this
    refine ⟨Same.refl _, [], [], h1, ⟨e2, rfl, fun d hd => ?_⟩, rfl, h2⟩
    rw [List.mem_singleton.mp hd]
    exact h2 _ (List.mem_of_getElem? hc)
  stop := fun _ => by show (mkS l).cps.size ≤ (l.map _).length; simp [mkS]
  pur := fun h _ => h.1
theorem rngL_get (lo c : Int) : ∀ (n i : Nat), (rngL lo c n)[i]? = if i < n then some (.int (lo + i * c)) else none
  | 0, i => by simp [rngL]
  | n + 1, 0 => by simp [rngL]
  | n + 1, i + 1 => by
    simp only [rngL, List.getElem?_cons_succ, rngL_get (lo + c) c n i, Nat.add_lt_add_iff_right]
    split
    · have : lo + c + (i : Int) * c = lo + ((i + 1 : Nat) : Int) * c := by rw [Int.natCast_add, Int.add_mul]; simp; omega
      rw [this]
    · rfl
theorem rngL_len (lo c : Int) : ∀ n, (rngL lo c n).length = n
  | 0 => rfl
  | n + 1 => by simp [rngL, rngL_len (lo + c) c n]
theorem wk_rng {lo : Int} {n : Nat} : WkOk K (Itr lo n) (rngL lo 1 n) [] (fun _ _ M => M = []) where
  keep := fun h _ _ => h
  mt := fun h b hb => by rw [h] at hb; cases hb
  go := fun {H i M y} h e => by
    rw [rngL_get] at e
    split at e <;> first | (cases e; done) | skip
    rename_i hi
    cases e
    refine ⟨hi, fun x H' ⟨e1, e2⟩ => ?_⟩
    subst e1
    exact ⟨Same.refl _, [], [], h, ⟨by rw [e2, Int.mul_one], rfl⟩, rfl⟩
  stop := fun _ => by show n ≤ _; rw [rngL_len]; exact Nat.le_refl _
  pur := fun h _ => h
theorem wk_rngC {lo c : Int} {n : Nat} : WkOk K (Itc lo c n) (rngL lo c n) [] (fun _ _ M => M = []) where
  keep := fun h _ _ => h
  mt := fun h b hb => by rw [h] at hb; cases hb
  go := fun {H i M y} h e => by
    rw [rngL_get] at e
    split at e <;> first | (cases e; done) | skip
    rename_i hi
    cases e
    refine ⟨hi, fun x H' ⟨e1, e2⟩ => ?_⟩
    subst e1
    exact ⟨Same.refl _, [], [], h, ⟨e2, rfl⟩, rfl⟩
  stop := fun _ => by show n ≤ _; rw [rngL_len]; exact Nat.le_refl _
  pur := fun h _ => h
theorem enumL_get : ∀ (l : List D) (k : Int) (i : Nat), (enumL k l)[i]? = (l[i]?).map fun x => .tup [.int (k + i), x]
  | [], _, _ => by simp [enumL]
  | x :: l, k, 0 => by simp [enumL]
  | x :: l, k, i + 1 => by
    simp only [enumL, List.getElem?_cons_succ, enumL_get l (k + 1) i]
    have : k + 1 + (i : Int) = k + ((i + 1 : Nat) : Int) := by omega
    rw [this]
theorem enumL_len : ∀ (l : List D) (k : Int), (enumL k l).length = l.length
  | [], _ => rfl
  | x :: l, k => by simp [enumL, enumL_len l (k + 1)]
theorem enumL_pu : ∀ (l : List D) (k : Int), puL (enumL k l) = puL l
  | [], _ => rfl
  | x :: l, k => by simp [enumL, puL, pu, enumL_pu l (k + 1)]
theorem rp_pair {T : Addr} {i : Int} {x : V} {y : D} {W : List Addr} (r : Rp K H y x W) (hT : H T = none) : Rp K (upd H T (.tup [.int i, x])) (.tup [.int i, y]) (.ref T) W := by
  have s : Same H (upd H T (.tup [.int i, x])) := same_upd hT
  have := Rps.cons (K := K) (H := upd H T (.tup [.int i, x])) (d := .int i) (W := []) ⟨rfl, rfl⟩ (Rps.cons (r.same s) Rps.nil)
  rw [List.nil_append, List.append_nil] at this
  exact ⟨T, _, rfl, SqT.of upd_same, this⟩
theorem wk_enumL {a : Addr} {ys : List D} {B : List Addr} : WkOk K (Ite K a) (enumL 0 ys) B (StL K a ys B) where
  keep := wk_list.keep
  mt := wk_list.mt
  go := fun {H i M y} ⟨vs, h1, h2, h3⟩ e => by
    rw [enumL_get] at e
    obtain ⟨z, hz, rfl⟩ := Option.map_eq_some_iff.mp e
    obtain ⟨v, Wx, M', hv, eM, r, t⟩ := h3.turn hz
    refine ⟨⟨vs, v, h1.l, hv⟩, fun x H' ⟨T, u, e1, hT, e2, e3⟩ => ?_⟩
    have := e3 vs h1.l
    rw [hv] at this; cases this
    subst e1 e2
    have s : Same H (upd H T (.tup [.int (i : Nat), v])) := same_upd hT
    exact ⟨s, Wx, M', eM, by have := rp_pair (i := (i : Nat)) r hT; simpa using this, vs, h1.keep (Keep.same s) fun _ _ z => z, h2, t.same s⟩
  stop := fun ⟨vs, h1, h2, h3⟩ => ⟨vs, h1.l, by rw [h2, enumL_len]; exact Nat.le_refl _⟩
  pur := fun ⟨vs, h1, h2, h3⟩ p => Rps.pu_nil (by rw [enumL_pu] at p; simpa using p) h3
theorem wk_enumT {a : Addr} {ys : List D} : WkOk K (ItEt K a) (enumL 0 ys) [] (StT K a ys) where
  keep := wk_tup.keep
  mt := wk_tup.mt
  go := fun {H i M y} ⟨vs, h1, h2, h3⟩ e => by
    rw [enumL_get] at e
    obtain ⟨z, hz, rfl⟩ := Option.map_eq_some_iff.mp e
    obtain ⟨v, Wx, M', hv, eM, r, t⟩ := h3.turn hz
    refine ⟨⟨vs, v, h1, hv⟩, fun x H' ⟨T, u, e1, hT, e2, e3⟩ => ?_⟩
    have := e3 vs h1
    rw [hv] at this; cases this
    subst e1 e2
    have s : Same H (upd H T (.tup [.int (i : Nat), v])) := same_upd hT
    exact ⟨s, Wx, M', eM, by have := rp_pair (i := (i : Nat)) r hT; simpa using this, vs, (Keep.same s).sqT h1, h2, t.same s⟩
  stop := fun ⟨vs, h1, h2, h3⟩ => ⟨vs, h1, by rw [h2, enumL_len]⟩
  pur := fun ⟨vs, h1, h2, h3⟩ p => Rps.pu_nil (by rw [enumL_pu] at p; simpa using p) h3
theorem wk_enumS {l : List Nat} : WkOk K (ItEs (mkS l)) (enumL 0 (l.map fun c => D.str [c])) [] (fun i H M => M = [] ∧ okS l) where
  keep := fun h _ _ => h
  mt := fun ⟨h, _⟩ b hb => by rw [h] at hb; cases hb
  go := fun {H i M y} ⟨h1, h2⟩ e => by
    rw [enumL_get, List.getElem?_map] at e
    obtain ⟨z, hz, rfl⟩ := Option.map_eq_some_iff.mp e
    obtain ⟨c, hc, rfl⟩ := Option.map_eq_some_iff.mp hz
    have hi := (List.getElem?_eq_some_iff.mp hc).1
    refine ⟨by show i < (mkS l).cps.size; simpa [mkS] using hi, fun x H' ⟨T, c', e1, hT, e2, hc'⟩ => ?_⟩
    have : c' = c := by
      have z : l[i]? = some c' := by simpa [mkS] using hc'
      rw [hc] at z; exact (Option.some.inj z).symm
    subst e1 e2 this
    refine ⟨same_upd hT, [], [], h1, ?_, rfl, h2⟩
    have r : Rp K H (D.str [c']) (.str ⟨#[c']⟩) [] := ⟨rfl, rfl, fun d hd => by rw [List.mem_singleton.mp hd]; exact h2 _ (List.mem_of_getElem? hc)⟩
    have := rp_pair (i := (i : Nat)) r hT
    simpa using this
  stop := fun _ => by show _ = (mkS l).cps.size; rw [enumL_len]; simp [mkS]
  pur := fun h _ => h.1
end

section
variable {G : Glob} {S : Sx} {W : WX} {X : Cx}
abbrev tSrc (G : Glob) (W : WX) (X : Cx) (c : Src) : TI := fun σ H R => ∃ ρ Ws, EnvOk X.K H σ ρ Ws ∧ Aft X.K G.XR W (wrSrc c) σ Ws H (evSrc G.Γ c ρ) fun ys ρ' => ∀ J H' Ws' B M St, EnvOk X.K H' σ ρ' Ws' → Go (wrSrc c) Ws H Ws' H' → WkOk X.K J ys B St → St 0 H' M → Kd (mdS c) (wrSrc c) Ws H Ws' (B ++ M) → R J H'
/-- the kinds of items -/
theorem items_cases {x : D} {ys : List D} (h : items x = some ys) : (∃ l, x = .str l ∧ l.length ≤ cap ∧ ys = l.map fun c => D.str [c]) ∨ x = .tup ys ∨ x = .lst ys ∨ x = .fls ys := by
  cases x <;> first | (simp [items] at h; done) | skip
  · simp only [items] at h
    split at h <;> simp only [reduceCtorEq, Option.some.injEq] at h
    exact .inl ⟨_, rfl, by assumption, h.symm⟩
  · simp only [items, Option.some.injEq] at h; rw [h]; exact .inr (.inl rfl)
  · simp only [items, Option.some.injEq] at h; rw [h]; exact .inr (.inr (.inl rfl))
  · simp only [items, Option.some.injEq] at h; rw [h]; exact .inr (.inr (.inr rfl))
theorem src_e {a : E} {t x : Expr} (ha : PE X x (tE G W X a)) : PI X t x (tSrc G W X (.e a)) := ⟨fun pins s σ H R I ⟨ρ, Ws, e, q⟩ => by
  have q := (show Aft X.K G.XR W (wrE a) σ Ws H ((evE G.Γ a ρ).bd _) _ from q).bd
  cases hv : evE G.Γ a ρ with
  | no => rw [hv] at q; exact q.elim
  | er x ρ1 =>
    rw [hv] at q
    refine (pi_list ha).run pins s σ H R I ⟨ρ, Ws, e, ?_⟩
    rw [hv]; exact q
  | ok d ρ1 =>
    rw [hv] at q
    obtain ⟨ys, hz, q⟩ := q.lift
    rcases items_cases hz with ⟨l, rfl, hl, rfl⟩ | rfl | rfl | rfl
    · refine (pi_str ha).run pins s σ H R I ⟨ρ, Ws, e, ?_⟩
      rw [hv]
      intro v H1 Ws1 W1 e1 r1 g1 k1
      exact ⟨_, r1.1, q _ H1 Ws1 [] [] _ e1 g1 wk_str ⟨rfl, r1.2.2⟩ Kd.nil⟩
    · refine (pi_tup ha).run pins s σ H R I ⟨ρ, Ws, e, ?_⟩
      rw [hv]
      intro v H1 Ws1 W1 e1 r1 g1 k1
      obtain ⟨p, vs, ev, sq, rs⟩ := r1
      exact ⟨p, ev, ⟨vs, sq⟩, q _ H1 Ws1 [] W1 _ e1 g1 wk_tup ⟨vs, sq, rs.length, rs⟩ k1⟩
    · refine (pi_list ha).run pins s σ H R I ⟨ρ, Ws, e, ?_⟩
      rw [hv]
      intro v H1 Ws1 W1 e1 r1 g1 k1
      obtain ⟨p, vs, W0, ev, sq, rs, eW⟩ := r1
      subst eW
      exact ⟨p, ev, ⟨vs, SqL.of sq⟩, q _ H1 Ws1 [p] W0 _ e1 g1 wk_list ⟨vs, .inl ⟨rfl, sq⟩, rs.length, rs⟩ k1⟩
    · refine (pi_list ha).run pins s σ H R I ⟨ρ, Ws, e, ?_⟩
      rw [hv]
      intro v H1 Ws1 W1 e1 r1 g1 k1
      obtain ⟨p, vs, ev, sq, rs⟩ := r1
      exact ⟨p, ev, ⟨vs, sq.l⟩, q _ H1 Ws1 [] W1 _ e1 g1 wk_list ⟨vs, .inr ⟨rfl, sq⟩, rs.length, rs⟩ k1⟩⟩
theorem src_enum (c : Cg G S W X) {a : E} {n : Str} {es : List Expr} {k : Nat} {x : Expr} {tp p pos : Pos} (hn : bltOk S "enumerate" n = true) (ha : PE X x (tE G W X a)) (ns : notStar x = true) : PI X (.Tuple es k tp) (.Call (.Name n p) [x] [] pos) (tSrc G W X (.enum a)) := by
  obtain ⟨rfl, gl, mg⟩ := c.blt' hn (by decide)
  refine pi_imp (pi_enumA gl mg (pa_cons ha pa_nil (star1 ns)) (star1 ns)) fun σ H R ⟨ρ, Ws, e, q⟩ => ?_
  refine ⟨ρ, Ws, e, (show Aft X.K G.XR W (wrE a) σ Ws H ((evE G.Γ a ρ).bd _) _ from q).bd.mono fun d ρ1 q v H1 Ws1 W1 e1 r1 g1 k1 => ?_⟩
  obtain ⟨ys, hz, q⟩ := q.bd.lift
  obtain ⟨hc, fin⟩ := q.ite
  clear q
  rcases items_cases hz with ⟨l, rfl, hl, rfl⟩ | rfl | rfl | rfl
  · exact .inr (.inl ⟨mkS l, by rw [r1.1], fin _ H1 Ws1 [] [] _ e1 g1 wk_enumS ⟨rfl, r1.2.2⟩ Kd.nil⟩)
  · obtain ⟨p, vs, ev, sq, rs⟩ := r1
    exact .inr (.inr ⟨p, vs, by rw [ev], sq, fin _ H1 Ws1 [] W1 _ e1 g1 wk_enumT ⟨vs, sq, rs.length, rs⟩ k1⟩)
  · obtain ⟨p, vs, W0, ev, sq, rs, eW⟩ := r1
    subst eW
    exact .inl ⟨p, vs, by rw [ev], SqL.of sq, fin _ H1 Ws1 [p] W0 _ e1 g1 wk_enumL ⟨vs, .inl ⟨rfl, sq⟩, rs.length, rs⟩ k1⟩
  · obtain ⟨p, vs, ev, sq, rs⟩ := r1
    exact .inl ⟨p, vs, by rw [ev], sq.l, fin _ H1 Ws1 [] W1 _ e1 g1 wk_enumL ⟨vs, .inr ⟨rfl, sq⟩, rs.length, rs⟩ k1⟩
theorem star_1 {env : PySem.Env} {x : Expr} (h : notStar x = true) : starEach [x] env = [(false, eval x env)] := by rw [star1 h]; rfl
theorem src_r1 (c : Cg G S W X) {a : E} {n : Str} {t x : Expr} {p pos : Pos} (hn : bltOk S "range" n = true) (ha : PE X x (tE G W X a)) (ns : notStar x = true) : PI X t (.Call (.Name n p) [x] [] pos) (tSrc G W X (.r1 a)) := by
  obtain ⟨rfl, gl, mg⟩ := c.blt' hn (by decide)
  refine pi_imp (pi_range1 gl mg (pa_cons ha pa_nil (star1 ns)) (star1 ns)) fun σ H R ⟨ρ, Ws, e, q⟩ => ?_
  -- the bound's two sides
  have q := (show Aft X.K G.XR W (wrE a) σ Ws H ((evE G.Γ a ρ).bd _) _ from q).bd
  refine ⟨ρ, Ws, e, q.mono fun d ρ1 q v H1 Ws1 W1 e1 r1 g1 k1 => ?_⟩
  cases d <;> first | exact q.elim | skip
  obtain ⟨hj, q⟩ := q.ite
  exact ⟨_, by rw [r1.1], by omega, by omega, q _ H1 Ws1 [] [] _ e1 g1 wk_rng rfl Kd.nil⟩
theorem plainN {env : PySem.Env} {pos : Pos} {es : List Expr} (h : ∀ e ∈ es, notStar e = true) : (backTo pos (starEach es env)).any (·.1) = false := stars h
theorem src_r2 (c : Cg G S W X) {a b : E} {n : Str} {t x y : Expr} {p pos : Pos} (hn : bltOk S "range" n = true) (ha : PE X x (tE G W X a)) (ns : notStar x = true) (hb : PE X y (tE G W X b)) (ns' : notStar y = true) : PI X t (.Call (.Name n p) [x, y] [] pos) (tSrc G W X (.r2 a b)) := by
  obtain ⟨rfl, gl, mg⟩ := c.blt' hn (by decide)
  refine pi_imp (pi_range2 gl mg (pa_cons ha (pa_cons hb pa_nil (star1 ns')) (star1 ns)) (by rw [star1 ns, star_1 ns']) (star_1 ns')) fun σ H R ⟨ρ, Ws, e, q⟩ => ?_
  refine two (P := fun vx vy H2 => ∃ i j : Int, [vx, vy] = [.int i, .int j] ∧ (-(2 ^ 62) ≤ i ∧ i < 2 ^ 62 ∧ -(2 ^ 62) ≤ j ∧ j < 2 ^ 62) ∧ R (Itr i (j - i).toNat) H2) mem_l mem_r e q fun dx dy ρ2 vx vy H2 Ws2 W1 W2 e2 g2 p1 r2 k2 q => ?_
  cases dx <;> first | exact q.elim | skip
  cases dy <;> first | exact q.elim | skip
  rename_i i j
  obtain ⟨hj, q⟩ := q.ite
  simp only [Bool.and_eq_true, decide_eq_true_eq] at hj
  obtain ⟨⟨⟨s1, s2⟩, s3⟩, s4⟩ := hj
  have r1 := (p1 (safe_pu rfl)).1
  refine ⟨i, j, by rw [r1.1, r2.1], ?_, q _ H2 Ws2 [] [] _ e2 g2 wk_rng rfl Kd.nil⟩
  omega
theorem src_r3 (c : Cg G S W X) {a b : E} {k : Int} {n : Str} {t x y : Expr} {p1' p2' p pos : Pos} {kk : Nat} (hn : bltOk S "range" n = true) (ha : PE X x (tE G W X a)) (ns : notStar x = true) (hb : PE X y (tE G W X b)) (ns' : notStar y = true) {j : Int} (hj : k = -j) :
    PI X t (.Call (.Name n p) [x, y, .UnaryOp .USub (.Constant (.int j) kk p1') p2'] [] pos) (tSrc G W X (.r3 a b k)) := by
  obtain ⟨rfl, gl, mg⟩ := c.blt' hn (by decide)
  have pu : PE X (.UnaryOp .USub (.Constant (.int j) kk p1') p2') (tUn (rU fun i => .int (-i)) (tC (.int j))) := pe_un un_neg pe_int
  refine pi_imp (pi_range3 gl mg (pa_cons ha (pa_cons hb (pa_cons pu pa_nil) (star1 ns')) (star1 ns)) (star1 ns) (stars fun e he => by
    rcases List.mem_cons.mp he with rfl | he
    · exact ns'
    · rw [List.mem_singleton.mp he]; rfl)) fun σ H R ⟨ρ, Ws, e, q⟩ => ?_
  refine two (P := fun vx vy H2 => tUn (rU fun i => .int (-i)) (tC (.int j)) σ H2 fun vz H3 => ∃ (i j c : Int) (n : Nat), [vx, vy, vz] = [.int i, .int j, .int c] ∧ RgC i j c n ∧ R (Itc i c n) H3) mem_l mem_r e q fun dx dy ρ2 vx vy H2 Ws2 W1 W2 e2 g2 p1 r2 k2 q => ?_
  cases dx <;> first | exact q.elim | skip
  cases dy <;> first | exact q.elim | skip
  rename_i u v
  obtain ⟨hq, q⟩ := q.ite
  simp only [Bool.and_eq_true, decide_eq_true_eq] at hq
  obtain ⟨⟨⟨⟨s1, s2⟩, s3⟩, s4⟩, s5⟩ := hq
  have r1 := (p1 (safe_pu rfl)).1
  have ej : j = 1 := by omega
  subst ej
  exact ⟨1, rfl, u, v, -1, _, by rw [r1.1, r2.1], RgC.neg (by omega) (by omega) (by omega) (by omega), q _ H2 Ws2 [] [] _ e2 g2 wk_rngC rfl Kd.nil⟩
end
end G

/-! G4h: targets -/
namespace G
open PySem PySem.Spec PyProof.Rows L2
section
variable {K : PySem.W.Frag} {H : Hp}
/-- what a target's binding leaves -/
abbrev gAft (K : PySem.W.Frag) (H : Hp) (σ : Sg) (Ws : WsT) (sl : List Nat) (W : List Addr) (ρ' : Env) (N : Sg → Hp → Prop) : Prop := ∀ σ' Ws', EnvOk K H σ' ρ' Ws' → (∀ j, j ∉ sl → Ws' j = Ws j ∧ gV σ' j = gV σ j) → (∀ j, ∀ a ∈ Ws' j, a ∈ Ws j ∨ a ∈ W) → N σ' H
abbrev gT (K : PySem.W.Frag) (tg : Tg) : TG := fun x σ H N => ∃ ρ Ws W d ρ', EnvOk K H σ ρ Ws ∧ Rp K H d x W ∧ W.Nodup ∧ (∀ a ∈ W, ∀ j, a ∉ Ws j) ∧ bindT tg d ρ = some ρ' ∧ gAft K H σ Ws tg.slots W ρ' N
abbrev gTs (K : PySem.W.Frag) (ts : Tgs) : TGs := fun xs σ H N => ∃ ρ Ws W ds ρ', EnvOk K H σ ρ Ws ∧ Rps K H ds xs W ∧ W.Nodup ∧ (∀ a ∈ W, ∀ j, a ∉ Ws j) ∧ bindTs ts ds ρ = some ρ' ∧ gAft K H σ Ws ts.slots W ρ' N
end
theorem pg_imp {X : Cx} {e : Expr} {t t' : TG} (h : PG X e t) (i : ∀ v σ H N, t' v σ H N → t v σ H N) : PG X e t' := ⟨fun pins s σ H v u Q I r q => h.run pins s σ H v u Q I r (i v σ H Q q)⟩
theorem pgs_imp {X : Cx} {e : List Expr} {t t' : TGs} (h : PGs X e t) (i : ∀ v σ H N, t' v σ H N → t v σ H N) : PGs X e t' := ⟨fun pins s σ H v u Q I r q => h.run pins s σ H v u Q I r (i v σ H Q q)⟩
theorem chkT_assign {S : Sx} {t : Tg} {e : Expr} {es : List Expr} {env : PySem.Env} (h : chkT S t e = true) : assignEach (e :: es) env = (false, assign e env) :: assignEach es env := by
  cases t <;> cases e <;> first | rfl | (simp [chkT] at h; done)
theorem chkTs_len {S : Sx} {env : PySem.Env} : ∀ (ts : Tgs) (es : List Expr), chkTs S ts es = true → (assignEach es env).length = es.length ∧ (assignEach es env).findIdx? (·.1) = none
  | .nil, [], _ => ⟨rfl, rfl⟩
  | .nil, _ :: _, h => by simp [chkTs] at h
  | .cons _ _, [], h => by simp [chkTs] at h
  | .cons t r, e :: es, h => by
    simp only [chkTs, Bool.and_eq_true] at h
    obtain ⟨a, b⟩ := chkTs_len r es h.2 (env := env)
    rw [chkT_assign h.1]
    refine ⟨by rw [List.length_cons, List.length_cons, a], ?_⟩
    rw [List.findIdx?_cons]
    simp [b]
theorem bindTs_len : ∀ (ts : Tgs) (ds : List D) (ρ ρ' : Env) {S : Sx} {es : List Expr}, bindTs ts ds ρ = some ρ' → chkTs S ts es = true → ds.length = es.length
  | .nil, [], _, _, _, [], _, _ => rfl
  | .nil, [], _, _, _, _ :: _, _, h => by simp [chkTs] at h
  | .nil, _ :: _, _, _, _, _, h, _ => by simp [bindTs] at h
  | .cons _ _, [], _, _, _, _, h, _ => by simp [bindTs] at h
  | .cons _ _, _ :: _, _, _, _, [], _, h => by simp [chkTs] at h
  | .cons t r, d :: ds, ρ, ρ', S, e :: es, h, c => by
    simp only [chkTs, Bool.and_eq_true] at c
    simp only [bindTs] at h
    obtain ⟨ρ1, _, h2⟩ := Option.bind_eq_some_iff.mp h
    rw [List.length_cons, List.length_cons, bindTs_len r ds ρ1 ρ' h2 c.2]
section
variable {G : Glob} {S : Sx} {W : WX} {X : Cx}
theorem st_of (c : Cg G S W X) {i : Nat} {x : Str} (h : stOk S i x = true) : X.N[i]? = some x ∧ Loc X.env.scope x ∧ (X.fn x = true ∨ X.env.scope.names.lookup x = some .local) := by
  unfold stOk at h
  simp only [Bool.and_eq_true, decide_eq_true_eq] at h
  refine ⟨by rw [c.N]; exact h.1, ?_⟩
  rw [c.sc]
  have h2 := h.2
  split at h2
  · exact ⟨.inl (by assumption), .inr (by assumption)⟩
  · exact ⟨.inr (by assumption), .inl (c.fn x h2)⟩
  · cases h2
mutual
theorem s_tg (c : Cg G S W X) : ∀ (t : Tg) (e : Expr), chkT S t e = true → PG X e (gT X.K t)
  | .v i, e, h => by
    cases e with
    | Name x pos =>
      obtain ⟨h1, h2, h3⟩ := st_of c (by simpa [chkT] using h)
      refine pg_imp (pg_name c.nd' h1 h2 h3) fun v σ H N ⟨ρ, Ws, U, d, ρ', e, r, nd, dj, hb, q⟩ => ?_
      simp only [bindT] at hb
      split at hb <;> simp only [reduceCtorEq, Option.some.injEq] at hb
      subst hb
      rename_i hi
      refine q _ _ (e.set hi r nd fun a ha j _ => dj a ha j) (fun j hj => ?_) fun j a ha => ?_
      · have : j ≠ i := fun z => hj (by rw [z]; simp [Tg.slots])
        exact ⟨setW_ne this, gV_set_ne this⟩
      · by_cases z : j = i
        · subst z; rw [setW_same] at ha; exact .inr ha
        · rw [setW_ne z] at ha; exact .inl ha
    | _ => simp [chkT] at h
  | .t ts, e, h => by
    cases e with
    | Tuple es k pos =>
      have hc : chkTs S ts es = true := by simpa [chkT] using h
      have hp := s_tgs c ts es hc
      refine pg_imp (pg_tup c.calm hp (chkTs_len ts es hc).1 (chkTs_len ts es hc).2) fun v σ H N ⟨ρ, Ws, U, d, ρ', e, r, nd, dj, hb, q⟩ => ?_
      cases d <;> first | (simp [bindT] at hb; done) | skip
      simp only [bindT] at hb
      obtain ⟨a, vs, ev, sq, rs⟩ := r
      exact ⟨a, vs, ev, sq, by rw [rs.length]; exact bindTs_len ts _ ρ ρ' hb hc, ρ, Ws, U, _, ρ', e, rs, nd, dj, hb, q⟩
    | _ => simp [chkT] at h
theorem s_tgs (c : Cg G S W X) : ∀ (ts : Tgs) (es : List Expr), chkTs S ts es = true → PGs X es (gTs X.K ts)
  | .nil, [], _ => pgs_imp pgs_nil fun v σ H N ⟨ρ, Ws, U, ds, ρ', e, r, nd, dj, hb, q⟩ => by
    cases ds with
    | cons _ _ => simp [bindTs] at hb
    | nil =>
      simp only [bindTs, Option.some.injEq] at hb
      subst hb
      exact ⟨r.1, q σ Ws e (fun _ _ => ⟨rfl, rfl⟩) fun _ _ h => .inl h⟩
  | .nil, _ :: _, h => by simp [chkTs] at h
  | .cons _ _, [], h => by simp [chkTs] at h
  | .cons t r, x :: xs, h => by
    simp only [chkTs, Bool.and_eq_true] at h
    refine pgs_imp (pgs_cons (s_tg c t x h.1) (s_tgs c r xs h.2) (by rw [chkT_assign h.1]; rfl)) fun v σ H N ⟨ρ, Ws, U, ds, ρ', e, rr, nd, dj, hb, q⟩ => ?_
    cases ds with
    | nil => simp [bindTs] at hb
    | cons d ds =>
      simp only [bindTs] at hb
      obtain ⟨ρ1, h1, h2⟩ := Option.bind_eq_some_iff.mp hb
      obtain ⟨v0, r0, W1, W2, ev, hv, hr, eW⟩ := rr
      subst eW
      have n2 := List.nodup_append.mp nd
      refine ⟨v0, r0, ev, ρ, Ws, W1, d, ρ1, e, hv, n2.1, fun a ha => dj a (List.mem_append_left _ ha), h1, fun σ1 Ws1 e1 f1 s1 => ?_⟩
      refine ⟨ρ1, Ws1, W2, ds, ρ', e1, hr, n2.2.1, fun a ha j z => ?_, h2, fun σ2 Ws2 e2 f2 s2 => q σ2 Ws2 e2 (fun j hj => ?_) fun j a ha => ?_⟩
      · rcases s1 j a z with y | y
        · exact dj a (List.mem_append_right _ ha) j y
        · exact n2.2.2 a y a ha rfl
      · have hj' : j ∉ t.slots ∧ j ∉ r.slots := by
          have : j ∉ t.slots ++ r.slots := hj
          exact ⟨fun z => this (List.mem_append_left _ z), fun z => this (List.mem_append_right _ z)⟩
        obtain ⟨a1, a2⟩ := f1 j hj'.1
        obtain ⟨b1, b2⟩ := f2 j hj'.2
        exact ⟨b1.trans a1, b2.trans a2⟩
      · rcases s2 j a ha with y | y
        · exact (s1 j a y).imp id fun z => List.mem_append_left _ z
        · exact .inr (List.mem_append_right _ y)
end
end
end G

/-! G4i: comprehensions -/
namespace G
open PySem PySem.Spec PyProof.Rows L2
/-! slots forgotten and brought back -/
theorem clr_len : ∀ (vs : List Nat) (ρ : Env), (clr ρ vs).length = ρ.length
  | [], _ => rfl
  | v :: vs, ρ => by show (clr (ρ.set v none) vs).length = _; rw [clr_len vs, List.length_set]
theorem g_set_none (ρ : Env) (i j : Nat) : g (ρ.set i none) j = if j = i then none else g ρ j := by
  by_cases z : j = i
  · subst z
    rw [if_pos rfl]
    by_cases hi : j < ρ.length
    · exact g_set_same hi
    · unfold g; rw [List.getElem?_eq_none (by rw [List.length_set]; exact Nat.le_of_not_lt hi)]; rfl
  · rw [if_neg z, g_set_ne z]
theorem g_clr : ∀ (vs : List Nat) (ρ : Env) (j : Nat), g (clr ρ vs) j = if j ∈ vs then none else g ρ j
  | [], _, _ => by simp [clr]
  | v :: vs, ρ, j => by
    show g (clr (ρ.set v none) vs) j = _
    rw [g_clr vs, g_set_none]
    by_cases h1 : j ∈ vs
    · rw [if_pos h1, if_pos (List.mem_cons_of_mem _ h1)]
    · rw [if_neg h1]
      by_cases h2 : j = v
      · rw [if_pos h2, if_pos (by rw [h2]; exact List.mem_cons_self)]
      · rw [if_neg h2, if_neg (by simp only [List.mem_cons, not_or]; exact ⟨h2, h1⟩)]
theorem bck_len (ρ0 : Env) : ∀ (vs : List Nat) (ρ : Env), (bck ρ0 ρ vs).length = ρ.length
  | [], _ => rfl
  | v :: vs, ρ => by show (bck ρ0 (ρ.set v _) vs).length = _; rw [bck_len ρ0 vs, List.length_set]
theorem g_set_any (ρ : Env) (i j : Nat) (o : Option D) (h : i < ρ.length ∨ o = none) : g (ρ.set i o) j = if j = i then o else g ρ j := by
  rcases h with h | h
  · by_cases z : j = i
    · subst z; rw [if_pos rfl, g_set_same h]
    · rw [if_neg z, g_set_ne z]
  · subst h; exact g_set_none ρ i j
theorem g_ge {ρ : Env} {i : Nat} (h : ¬ i < ρ.length) : g ρ i = none := by unfold g; rw [List.getElem?_eq_none (Nat.le_of_not_lt h)]; rfl
theorem g_bck (ρ0 : Env) : ∀ (vs : List Nat) (ρ : Env) (j : Nat), ρ.length = ρ0.length → g (bck ρ0 ρ vs) j = if j ∈ vs then g ρ0 j else g ρ j
  | [], _, _, _ => by simp [bck]
  | v :: vs, ρ, j, hl => by
    show g (bck ρ0 (ρ.set v (g ρ0 v)) vs) j = _
    rw [g_bck ρ0 vs _ j (by rw [List.length_set]; exact hl), g_set_any ρ v j _ (by
      by_cases h : v < ρ.length
      · exact .inl h
      · exact .inr (g_ge (by rw [← hl]; exact h)))]
    by_cases h1 : j ∈ vs
    · rw [if_pos h1, if_pos (List.mem_cons_of_mem _ h1)]
    · rw [if_neg h1]
      by_cases h2 : j = v
      · rw [if_pos h2, if_pos (by rw [h2]; exact List.mem_cons_self), h2]
      · rw [if_neg h2, if_neg (by simp only [List.mem_cons, not_or]; exact ⟨h2, h1⟩)]
theorem gV_set_none (σ : Sg) (i j : Nat) : gV (σ.set i none) j = if j = i then none else gV σ j := by
  by_cases z : j = i
  · subst z
    rw [if_pos rfl]
    by_cases hi : j < σ.length
    · exact gV_set_same hi
    · unfold gV; rw [List.getElem?_eq_none (by rw [List.length_set]; exact Nat.le_of_not_lt hi)]; rfl
  · rw [if_neg z, gV_set_ne z]
theorem gV_wipe : ∀ (vs : List Nat) (σ : Sg) (j : Nat), gV (wipe σ vs) j = if j ∈ vs then none else gV σ j
  | [], _, _ => by simp [wipe]
  | v :: vs, σ, j => by
    show gV ((wipe σ vs).set v none) j = _
    rw [gV_set_none, gV_wipe vs]
    by_cases h2 : j = v
    · rw [if_pos h2, if_pos (by rw [h2]; exact List.mem_cons_self)]
    · rw [if_neg h2]
      by_cases h1 : j ∈ vs
      · rw [if_pos h1, if_pos (List.mem_cons_of_mem _ h1)]
      · rw [if_neg h1, if_neg (by simp only [List.mem_cons, not_or]; exact ⟨h2, h1⟩)]
theorem sg_ext {σ τ : Sg} (hl : σ.length = τ.length) (h : ∀ j, gV σ j = gV τ j) : σ = τ := by
  apply List.ext_getElem? 
  intro j
  have := h j
  unfold gV at this
  by_cases z : j < σ.length
  · rw [List.getElem?_eq_getElem z, List.getElem?_eq_getElem (hl ▸ z)] at this ⊢
    simpa using this
  · rw [List.getElem?_eq_none (Nat.le_of_not_lt z), List.getElem?_eq_none (by omega)]
def clrW (Ws : WsT) (vs : List Nat) : WsT := fun i => if i ∈ vs then [] else Ws i
def bckW (Ws0 Ws : WsT) (vs : List Nat) : WsT := fun i => if i ∈ vs then Ws0 i else Ws i
section
variable {K : PySem.W.Frag} {H H' : Hp} {σ : Sg} {ρ : Env} {Ws : WsT}
theorem clrW_sub {vs : List Nat} {i : Nat} {a : Addr} (h : a ∈ clrW Ws vs i) : i ∉ vs ∧ a ∈ Ws i := by
  unfold clrW at h
  by_cases z : i ∈ vs
  · rw [if_pos z] at h; cases h
  · rw [if_neg z] at h; exact ⟨z, h⟩
theorem EnvOk.wipe (e : EnvOk K H σ ρ Ws) (vs : List Nat) : EnvOk K H (wipe σ vs) (clr ρ vs) (clrW Ws vs) := by
  refine ⟨by rw [wipe_length, clr_len, e.len], fun i d h => ?_, fun i h => ?_, fun i => ?_, fun i j a h1 h2 => e.dj i j a (clrW_sub h1).2 (clrW_sub h2).2⟩
  · rw [g_clr] at h
    by_cases z : i ∈ vs
    · rw [if_pos z] at h; cases h
    · rw [if_neg z] at h
      obtain ⟨v, h1, h2⟩ := e.slot i d h
      exact ⟨v, by rw [gV_wipe, if_neg z]; exact h1, by unfold clrW; rw [if_neg z]; exact h2⟩
  · rw [g_clr] at h
    unfold clrW
    by_cases z : i ∈ vs
    · rw [if_pos z]
    · rw [if_neg z] at h ⊢; exact e.non i h
  · unfold clrW
    by_cases z : i ∈ vs
    · rw [if_pos z]; exact List.nodup_nil
    · rw [if_neg z]; exact e.nd i
theorem Go.upd {wr : List Nat} {Ws' : WsT} {p : Addr} {o : HO} (x : Go wr Ws H Ws' H') (hp : H p = none) : Go wr Ws H Ws' (upd H' p o) :=
  ⟨fun a u e n => by
    have ne : a ≠ p := fun z => by rw [z, hp] at e; cases e
    rw [upd_ne ne]; exact x.fr a u e n, x.sub, x.eq⟩
/-- a slot more, which nobody sees -/
theorem Go.slot {wr : List Nat} {Ws' : WsT} {k : Nat} {M M' : List Addr} (x : Go wr Ws H Ws' H') (hk : k ∉ wr) (hM : ∀ a ∈ M', a ∈ M) : Go (k :: wr) (setW Ws k M) H (setW Ws' k M') H' := by
  refine ⟨fun a o e n => x.fr a o e fun i hi z => ?_, fun i a hi z => ?_, fun i hi => ?_⟩
  · have ne : i ≠ k := fun q => hk (q ▸ hi)
    exact n i (List.mem_cons_of_mem _ hi) (by rw [setW_ne ne]; exact z)
  · by_cases q : i = k
    · subst q
      rw [setW_same] at z
      exact .inl ⟨i, List.mem_cons_self, by rw [setW_same]; exact hM a z⟩
    · rw [setW_ne q] at z
      rcases x.sub i a ((List.mem_cons.mp hi).resolve_left q) z with ⟨j, hj, y⟩ | y
      · have ne : j ≠ k := fun q => hk (q ▸ hj)
        exact .inl ⟨j, List.mem_cons_of_mem _ hj, by rw [setW_ne ne]; exact y⟩
      · exact .inr y
  · have q : i ≠ k := fun q => hi (q ▸ List.mem_cons_self)
    rw [setW_ne q, setW_ne q]
    exact x.eq i fun z => hi (List.mem_cons_of_mem _ z)
theorem wipe_of {σ2 : Sg} {vs : List Nat} (hl : σ2.length = σ.length) (f : ∀ j, j ∉ vs → gV σ2 j = gV (wipe σ vs) j) : wipe σ2 vs = wipe σ vs := by
  refine sg_ext (by rw [wipe_length, wipe_length, hl]) fun j => ?_
  rw [gV_wipe, gV_wipe]
  by_cases z : j ∈ vs
  · rw [if_pos z, if_pos z]
  · rw [if_neg z, if_neg z, f j z, gV_wipe, if_neg z]
/-- the slots brought back -/
theorem EnvOk.unwipe {H1 : Hp} {ρ1 : Env} {Ws1 Wc : WsT} {vs : List Nat} {MM : Addr → Prop} (e1 : EnvOk K H1 σ ρ1 Ws1) (e : EnvOk K H' (L2.wipe σ vs) (clr ρ vs) Wc) (x : Keep MM H1 H') (nm : ∀ i ∈ vs, ∀ a ∈ Ws1 i, ¬ MM a) (dj : ∀ i ∈ vs, ∀ a ∈ Ws1 i, ∀ j, a ∉ Wc j) :
    EnvOk K H' σ (bck ρ1 ρ vs) (bckW Ws1 Wc vs) := by
  have hl : ρ.length = ρ1.length := by
    have := e.len
    rw [wipe_length, clr_len] at this
    rw [← this, e1.len]
  refine ⟨by rw [bck_len, hl, e1.len], fun i d h => ?_, fun i h => ?_, fun i => ?_, fun i j a h1 h2 => ?_⟩
  · rw [g_bck _ _ _ _ hl] at h
    unfold bckW
    by_cases z : i ∈ vs
    · rw [if_pos z] at h ⊢
      obtain ⟨v, h1, h2⟩ := e1.slot i d h
      exact ⟨v, h1, h2.keep x d (nm i z)⟩
    · rw [if_neg z] at h ⊢
      obtain ⟨v, h1, h2⟩ := e.slot i d (by rw [g_clr, if_neg z]; exact h)
      rw [gV_wipe, if_neg z] at h1
      exact ⟨v, h1, h2⟩
  · rw [g_bck _ _ _ _ hl] at h
    unfold bckW
    by_cases z : i ∈ vs
    · rw [if_pos z] at h ⊢; exact e1.non i h
    · rw [if_neg z] at h ⊢; exact e.non i (by rw [g_clr, if_neg z]; exact h)
  · unfold bckW
    by_cases z : i ∈ vs
    · rw [if_pos z]; exact e1.nd i
    · rw [if_neg z]; exact e.nd i
  · unfold bckW at h1 h2
    by_cases z : i ∈ vs <;> by_cases y : j ∈ vs
    · rw [if_pos z] at h1; rw [if_pos y] at h2; exact e1.dj i j a h1 h2
    · rw [if_pos z] at h1; rw [if_neg y] at h2; exact absurd h2 (dj i z a h1 j)
    · rw [if_neg z] at h1; rw [if_pos y] at h2; exact absurd h1 (dj j y a h2 i)
    · rw [if_neg z] at h1; rw [if_neg y] at h2; exact e.dj i j a h1 h2
end

section
variable {G : Glob} {S : Sx} {W : WX} {X : Cx}
abbrev W0 : WX := fun _ _ _ _ => False
theorem Cg.blk (c : Cg G S W X) {s : Shared} {H : Hp} {scope : Scope} {C : Addr} {cl : List (Str × Addr)} {fp : List Addr} (hk : scope.kind = .function) : Cg G (S.blk scope) W0 (X.blk s H scope (compEnvC scope cl C X.env) fp) where
  N := c.N
  sc := by
    show relabel scope X.env = relS scope S.sc
    rw [← c.sc]; rfl
  kind := hk
  fn := fun x h => h
  calm := c.calm
  nd := c.nd
  tk := takes0
  own := PassesOwn.never
  room := c.room
  blt := c.blt
  tb := c.tb
  xr := c.xr
  top := fun h => nomatch h
  fns := c.fns
abbrev tCt (G : Glob) (X : Cx) : Eo → TT
  | .non => tYes
  | .som e => tT G W0 X e
theorem ct_sem {c : Eo} {σ : Sg} {H : Hp} {ρ ρ1 : Env} {Ws : WsT} {b : Bool} {Q : Bool → Hp → Prop} (e : EnvOk X.K H σ ρ Ws) (hv : evC G.Γ c ρ = .ok b ρ1) (q : ∀ H' Ws', EnvOk X.K H' σ ρ1 Ws' → Go (wrEo c) Ws H Ws' H' → Q b H') : tCt G X c σ H Q := by
  cases c with
  | non =>
    simp only [evC] at hv
    cases hv
    exact q H Ws e Go.refl
  | som a =>
    refine ⟨ρ, Ws, e, ?_⟩
    have hv : ((evE G.Γ a ρ).bd fun d ρ => lift (tru d) ρ) = .ok b ρ1 := hv
    show Aft X.K G.XR W0 (wrE a) σ Ws H ((evE G.Γ a ρ).bd fun x ρ => lift (tru x) ρ) _
    rw [hv]
    exact q
theorem bd_ok_of {α β : Type} {r : R α} {f : α → Env → R β} {b : β} {ρ' : Env} (h : r.bd f = .ok b ρ') : ∃ a ρ, r = .ok a ρ ∧ f a ρ = .ok b ρ' := by
  cases r with
  | ok a ρ => exact ⟨a, ρ, rfl, h⟩
  | er x ρ => cases h
  | no => cases h
theorem lift_ok_of {α : Type} {o : Option α} {ρ : Env} {b : α} {ρ' : Env} (h : lift o ρ = .ok b ρ') : o = some b ∧ ρ = ρ' := by
  cases o with
  | none => cases h
  | some a => cases h; exact ⟨rfl, rfl⟩
theorem bindT_len : ∀ (t : Tg) (d : D) (ρ ρ' : Env), bindT t d ρ = some ρ' → ρ'.length = ρ.length := by
  intro t
  refine Tg.rec (motive_1 := fun t => ∀ d ρ ρ', bindT t d ρ = some ρ' → ρ'.length = ρ.length) (motive_2 := fun ts => ∀ ds ρ ρ', bindTs ts ds ρ = some ρ' → ρ'.length = ρ.length) ?_ ?_ ?_ ?_ t
  · intro i d ρ ρ' h
    simp only [bindT] at h
    split at h <;> simp only [reduceCtorEq, Option.some.injEq] at h
    rw [← h, List.length_set]
  · intro ts ih d ρ ρ' h
    cases d <;> first | (simp [bindT] at h; done) | skip
    exact ih _ _ _ (by simpa [bindT] using h)
  · intro ds ρ ρ' h
    cases ds with
    | nil => simp only [bindTs, Option.some.injEq] at h; rw [h]
    | cons _ _ => simp [bindTs] at h
  · intro t r h1 h2 ds ρ ρ' h
    cases ds with
    | nil => simp [bindTs] at h
    | cons d ds =>
      simp only [bindTs] at h
      obtain ⟨ρ1, a, b⟩ := Option.bind_eq_some_iff.mp h
      rw [h2 _ _ _ b, h1 _ _ _ a]
/-- how a comprehension stands at turn i -/
structure LcInv (G : Glob) (X : Cx) (σ : Sg) (tg : Tg) (c : Eo) (e : E) (k : Nat) (H1 : Hp) (WsE : WsT) (J : It) (ys : List D) (B : List Addr) (St : Nat → Hp → List Addr → Prop) (res : List D) (ρe : Env) (Dl : Addr) (i : Nat) (H : Hp) : Prop where
  ex : ∃ ρ Wc M acc Wa ds zs, EnvOk X.K H (wipe σ tg.slots) (clr ρ tg.slots) Wc ∧ Go (k :: (tg.slots ++ (wrEo c ++ wrE e))) WsE H1 (setW Wc k M) H ∧ St i H M ∧ (B ++ M).Nodup ∧ (∀ a ∈ B, ∀ j ∈ tg.slots ++ (wrEo c ++ wrE e), a ∉ Wc j) ∧ (∀ a ∈ M, ∀ j, a ∉ Wc j) ∧
    H Dl = some (.lst acc) ∧ Rps X.K H ds acc Wa ∧ Kd none (k :: (tg.slots ++ (wrEo c ++ wrE e))) WsE H1 (setW Wc k M) (Dl :: Wa) ∧ (∀ a ∈ Dl :: Wa, a ∉ B) ∧ ds.length ≤ i ∧
    compL (fun x ρ => bindT tg x (clr ρ tg.slots)) (fun ρ => evC G.Γ c ρ) (fun ρ => (evE G.Γ e ρ).bd fun d ρ => if own (md e) d = true then .ok d ρ else .no) (ys.drop i) ρ = .ok zs ρe ∧ ds ++ zs = res
end
end G

/-! G4j: a comprehension's turn -/
namespace G
open PySem PySem.Spec PyProof.Rows L2
section
variable {K : PySem.W.Frag} {H H' : Hp} {σ : Sg} {ρ : Env} {Ws : WsT}
theorem EnvOk.out (e : EnvOk K H σ ρ Ws) {k : Nat} (h : σ.length ≤ k) : Ws k = [] := e.non k (g_ge (by rw [← e.len]; omega))
/-- what nobody holds stays so -/
theorem Go.never {wr : List Nat} {Ws' : WsT} {a : Addr} (x : Go wr Ws H Ws' H') (m : MutO (H a)) (n : ∀ j, a ∉ Ws j) : ∀ j, a ∉ Ws' j := fun j z => by
  by_cases hj : j ∈ wr
  · rcases x.sub j a hj z with ⟨i, _, y⟩ | y
    · exact n i y
    · rw [y] at m; exact notMut_none m
  · rw [x.eq j hj] at z; exact n j z
theorem Go.neverIn {wr w2 : List Nat} {Ws' : WsT} {a : Addr} (x : Go wr Ws H Ws' H') (m : MutO (H a)) (h : ∀ j ∈ wr, j ∈ w2) (n : ∀ j ∈ w2, a ∉ Ws j) : ∀ j ∈ w2, a ∉ Ws' j := fun j h2 z => by
  by_cases hj : j ∈ wr
  · rcases x.sub j a hj z with ⟨i, hi, y⟩ | y
    · exact n i (h i hi) y
    · rw [y] at m; exact notMut_none m
  · rw [x.eq j hj] at z; exact n j h2 z
theorem clrW_not {Ws : WsT} {vs : List Nat} {j : Nat} {a : Addr} (h : a ∉ Ws j) : a ∉ clrW Ws vs j := fun z => h (clrW_sub z).2
/-- slots emptied -/
theorem Go.clrs {wr : List Nat} {Ws0 : WsT} {H0 : Hp} {k : Nat} {M : List Addr} {vs : List Nat} (x : Go (k :: wr) Ws0 H0 (setW Ws k M) H) (hv : ∀ j ∈ vs, j ∈ wr) : Go (k :: wr) Ws0 H0 (setW (clrW Ws vs) k M) H := by
  refine ⟨x.fr, fun i a hi z => ?_, fun i hi => ?_⟩
  · refine x.sub i a hi ?_
    by_cases q : i = k
    · subst q; rw [setW_same] at z ⊢; exact z
    · rw [setW_ne q] at z ⊢; exact (clrW_sub z).2
  · rw [← x.eq i hi]
    have q : i ≠ k := fun q => hi (q ▸ List.mem_cons_self)
    rw [setW_ne q, setW_ne q]
    unfold clrW
    rw [if_neg fun z => hi (List.mem_cons_of_mem _ (hv i z))]
end
section
variable {G : Glob} {S : Sx} {W : WX} {X : Cx}
theorem lc_step {σ : Sg} {tg : Tg} {c : Eo} {e : E} {k : Nat} {H1 : Hp} {WsE : WsT} {J : It} {ys : List D} {B : List Addr} {St : Nat → Hp → List Addr → Prop} {res : List D} {ρe : Env} {Dl : Addr} {i : Nat} {H : Hp} (wk : WkOk X.K J ys B St) (hk : k ∉ tg.slots ++ (wrEo c ++ wrE e)) (hk2 : σ.length ≤ k) (hcap : ys.length ≤ cap) (hD1 : H1 Dl = none)
    (iv : LcInv G X σ tg c e k H1 WsE J ys B St res ρe Dl i H) (hi : i < ys.length) :
    J.go i H ∧ ∀ x H', J.yld i H x H' → gT X.K tg x (wipe σ tg.slots) H' fun σ2 H2 => wipe σ2 tg.slots = wipe σ tg.slots ∧ tCt G X c σ2 H2 fun b H3 =>
      if b = true then tE G W0 X e σ2 H3 fun y H4 => ∃ acc, H4 Dl = some (.lst acc) ∧ acc.length < sizeLine ∧ LcInv G X σ tg c e k H1 WsE J ys B St res ρe Dl (i + 1) (upd H4 Dl (.lst (acc ++ [y]))) else LcInv G X σ tg c e k H1 WsE J ys B St res ρe Dl (i + 1) H3 := by
  obtain ⟨ρ, Wc, M, acc, Wa, ds, zs, e0, go0, st, nBM, dB, dM, hD, rds, kd, dDB, hle, hcl, hres⟩ := iv.ex
  have hy : ys[i]? = some ys[i] := List.getElem?_eq_getElem hi
  obtain ⟨hgo, hyl⟩ := wk.go st hy
  refine ⟨hgo, fun x H' yl => ?_⟩
  obtain ⟨sm, Wx, M', eM, rx, st'⟩ := hyl x H' yl
  subst eM
  rw [List.drop_eq_getElem_cons hi] at hcl
  obtain ⟨ρ0, ρ0', hb, hcl⟩ := bd_ok_of hcl
  obtain ⟨hb, -⟩ := lift_ok_of hb
  obtain ⟨b, ρ1, hc, hcl⟩ := bd_ok_of hcl
  have nM := List.nodup_append.mp nBM
  have nx := List.nodup_append.mp nM.2.1
  have mt0 := wk.mt st
  have mt' := wk.mt st'
  have sameK := Keep.same sm
  have kk0 : Wc k = [] := e0.out (by rw [wipe_length]; exact hk2)
  -- what the new list holds
  have dD : ∀ a ∈ Dl :: Wa, (∀ j, a ∉ Wc j) ∧ a ∉ Wx ++ M' := fun a ha => by
    have z := (kd.2 a ha).1
    refine ⟨fun j y => ?_, fun y => z k (by rw [setW_same]; exact y)⟩
    by_cases q : j = k
    · rw [q, kk0] at y; cases y
    · exact z j (by rw [setW_ne q]; exact y)
  have mD : ∀ a ∈ Dl :: Wa, MutO (H' a) := fun a ha => by
    have : MutO (H a) := by
      rcases List.mem_cons.mp ha with rfl | ha
      · exact .inl ⟨_, hD⟩
      · exact Rps.mut ds rds a ha
    rcases this with ⟨xs, z⟩ | ⟨xs, z⟩ | ⟨xs, z⟩
    · exact .inl ⟨xs, sm _ _ z⟩
    · exact .inr (.inl ⟨xs, sm _ _ z⟩)
    · exact .inr (.inr ⟨xs, sm _ _ z⟩)
  refine ⟨clr ρ tg.slots, Wc, Wx, ys[i], ρ0, e0.same sm, rx, nx.1, fun a ha j => dM a (List.mem_append_left _ ha) j, hb, fun σ2 Ws2 e2 f2 s2 => ?_⟩
  have hl2 : σ2.length = σ.length := by
    rw [e2.len, bindT_len tg _ _ _ hb, ← e0.len, wipe_length]
  have hw : wipe σ2 tg.slots = wipe σ tg.slots := wipe_of hl2 fun j hj => (f2 j hj).2
  refine ⟨hw, ?_⟩
  -- at the turn's start
  have pB : ∀ a ∈ B, ∀ j ∈ tg.slots ++ (wrEo c ++ wrE e), a ∉ Ws2 j := fun a ha j hj z => by
    rcases s2 j a z with y | y
    · exact dB a ha j hj y
    · exact nM.2.2 a ha a (List.mem_append_left _ y) rfl
  have pM : ∀ a ∈ M', ∀ j, a ∉ Ws2 j := fun a ha j z => by
    rcases s2 j a z with y | y
    · exact dM a (List.mem_append_right _ ha) j y
    · exact nx.2.2 a y a ha rfl
  have pD : ∀ a ∈ Dl :: Wa, ∀ j, a ∉ Ws2 j := fun a ha j z => by
    rcases s2 j a z with y | y
    · exact (dD a ha).1 j y
    · exact (dD a ha).2 (List.mem_append_left _ y)
  have goA : Go (k :: (tg.slots ++ (wrEo c ++ wrE e))) WsE H1 (setW Ws2 k M') H' := (go0.tr (Go.same sm)).tr ⟨fun a o z _ => z, fun j a hj z => by
    by_cases q : j = k
    · subst q
      rw [setW_same] at z
      exact .inl ⟨j, List.mem_cons_self, by rw [setW_same]; exact List.mem_append_right _ z⟩
    · rw [setW_ne q] at z
      rcases s2 j a z with y | y
      · exact .inl ⟨j, hj, by rw [setW_ne q]; exact y⟩
      · exact .inl ⟨k, List.mem_cons_self, by rw [setW_same]; exact List.mem_append_left _ y⟩, fun j hj => by
    have q : j ≠ k := fun q => hj (q ▸ List.mem_cons_self)
    rw [setW_ne q, setW_ne q]
    exact (f2 j fun z => hj (List.mem_cons_of_mem _ (List.mem_append_left _ z))).1⟩
  -- whatever the turn comes to
  have adv : ∀ (ρ' : Env) (Ws' : WsT) (H'' : Hp), EnvOk X.K H'' σ2 ρ' Ws' → Go (wrEo c ++ wrE e) Ws2 H' Ws' H'' →
      EnvOk X.K H'' (wipe σ tg.slots) (clr ρ' tg.slots) (clrW Ws' tg.slots) ∧ Go (k :: (tg.slots ++ (wrEo c ++ wrE e))) WsE H1 (setW (clrW Ws' tg.slots) k M') H'' ∧ St (i + 1) H'' M' ∧ (∀ a ∈ B, ∀ j ∈ tg.slots ++ (wrEo c ++ wrE e), a ∉ Ws' j) ∧ (∀ a ∈ M', ∀ j, a ∉ Ws' j) ∧
      H'' Dl = some (.lst acc) ∧ Rps X.K H'' ds acc Wa ∧ ∀ a ∈ Dl :: Wa, ∀ j, a ∉ Ws' j := fun ρ' Ws' H'' e' g' => by
    have kp := g'.keep e2
    have hsub : ∀ j ∈ wrEo c ++ wrE e, j ∈ tg.slots ++ (wrEo c ++ wrE e) := fun j hj => List.mem_append_right _ hj
    refine ⟨by rw [← hw]; exact e'.wipe _, ?_, ?_, fun a ha => g'.neverIn (mt' a (List.mem_append_left _ ha)) hsub (pB a ha), fun a ha => g'.never (mt' a (List.mem_append_right _ ha)) (pM a ha), ?_, ?_, fun a ha => g'.never (mD a ha) (pD a ha)⟩
    · have hkb : k ∉ wrEo c ++ wrE e := fun z => hk (List.mem_append_right _ z)
      have g2 := (g'.slot (k := k) (M := M') (M' := M') hkb fun _ h => h).mono (wr' := k :: (tg.slots ++ (wrEo c ++ wrE e))) fun j hj => by
        rcases List.mem_cons.mp hj with z | z
        · rw [z]; exact List.mem_cons_self
        · exact List.mem_cons_of_mem _ (List.mem_append_right _ z)
      exact (goA.tr g2).clrs fun j hj => List.mem_append_left _ hj
    · refine wk.keep st' kp fun a ha ⟨j, hj, z⟩ => ?_
      rcases List.mem_append.mp ha with y | y
      · exact pB a y j (hsub j hj) z
      · exact pM a y j z
    · exact kp.kp Dl _ (sm _ _ hD) fun ⟨j, _, z⟩ => pD Dl List.mem_cons_self j z
    · exact Rps.keep kp ds (rds.same sm) fun a ha ⟨j, _, z⟩ => pD a (List.mem_cons_of_mem _ ha) j z
  have kdD : ∀ (Ws' : WsT), (∀ a ∈ Dl :: Wa, ∀ j, a ∉ Ws' j) → Kd none (k :: (tg.slots ++ (wrEo c ++ wrE e))) WsE H1 (setW (clrW Ws' tg.slots) k M') (Dl :: Wa) := fun Ws' h => ⟨kd.1, fun a ha => ⟨fun j z => by
    by_cases q : j = k
    · subst q; rw [setW_same] at z; exact (dD a ha).2 (List.mem_append_right _ z)
    · rw [setW_ne q] at z; exact h a ha j (clrW_sub z).2, (kd.2 a ha).2⟩⟩
  have nBM' : (B ++ M').Nodup := List.nodup_append.mpr ⟨nM.1, nx.2.1, fun a ha b hb e => nM.2.2 a ha b (List.mem_append_right _ hb) e⟩
  refine ct_sem e2 hc fun H3 Ws3 e3 g3 => ?_
  cases b with
  | false =>
    simp only [Bool.false_eq_true, if_false] at hcl ⊢
    obtain ⟨a1, a2, a3, a4, a5, a6, a7, a8⟩ := adv ρ1 Ws3 H3 e3 (g3.mono fun j hj => List.mem_append_left _ hj)
    exact ⟨ρ1, clrW Ws3 tg.slots, M', acc, Wa, ds, zs, a1, a2, a3, nBM', fun a ha j hj => clrW_not (a4 a ha j hj), fun a ha j => clrW_not (a5 a ha j), a6, a7, kdD Ws3 a8, dDB, by omega, hcl, hres⟩
  | true =>
    simp only [if_true] at hcl ⊢
    obtain ⟨d, ρ2, hd1, hcl2⟩ := bd_ok_of hcl
    obtain ⟨zs', ρ3, hzs, hcl3⟩ := bd_ok_of hcl2
    obtain ⟨d', ρ2', hd2, ho⟩ := bd_ok_of hd1
    split at ho <;> first | (cases ho; done) | skip
    rename_i hown
    have ed : d' = d ∧ ρ2' = ρ2 := by cases ho; exact ⟨rfl, rfl⟩
    have ez : d :: zs' = zs ∧ ρ3 = ρe := by cases hcl3; exact ⟨rfl, rfl⟩
    clear hcl hcl2 hcl3 hd1 ho
    obtain ⟨rfl, rfl⟩ := ed
    obtain ⟨rfl, rfl⟩ := ez
    refine ⟨ρ1, Ws3, e3, ?_⟩
    rw [hd2]
    intro v H4 Ws4 Wy e4 r4 g4 k4
    have k4 := k4.own r4 hown
    have g34 : Go (wrEo c ++ wrE e) Ws2 H' Ws4 H4 := g3.tr2 g4 (fun j hj => List.mem_append_left _ hj) (fun j hj => List.mem_append_right _ hj)
    have k34 : Kd none (wrEo c ++ wrE e) Ws2 H' Ws4 Wy := k4.back g3 (fun j hj => List.mem_append_left _ hj) (fun j hj => List.mem_append_right _ hj)
    obtain ⟨a1, a2, a3, a4, a5, a6, a7, a8⟩ := adv ρ2' Ws4 H4 e4 g34
    have lenA : acc.length = ds.length := a7.length
    have yD : ∀ a ∈ Wy, a ∉ Dl :: Wa := fun a ha z => by
      rcases (k34.2 a ha).2 with ⟨j, _, y⟩ | y
      · exact pD a z j y
      · have := mD a z; rw [y] at this; exact notMut_none this
    have yM : ∀ a ∈ Wy, a ∉ M' := fun a ha z => by
      rcases (k34.2 a ha).2 with ⟨j, _, y⟩ | y
      · exact pM a z j y
      · have := mt' a (List.mem_append_right _ z); rw [y] at this; exact notMut_none this
    have yB : ∀ a ∈ Wy, a ∉ B := fun a ha z => by
      rcases (k34.2 a ha).2 with ⟨j, hj, y⟩ | y
      · exact pB a z j (List.mem_append_right _ hj) y
      · have := mt' a (List.mem_append_left _ z); rw [y] at this; exact notMut_none this
    have kp : Keep (fun b => b = Dl) H4 (upd H4 Dl (.lst (acc ++ [v]))) := keep_upd (.inl ⟨_, a6⟩)
    have ndD := List.nodup_cons.mp kd.1
    refine ⟨acc, a6, by rw [lenA]; exact Nat.lt_of_lt_of_le (Nat.lt_of_le_of_lt hle hi) (cap_le hcap), ⟨ρ2', clrW Ws4 tg.slots, M', acc ++ [v], Wa ++ Wy, ds ++ [d'], zs', ?_⟩⟩
    refine ⟨a1.keep kp fun j a ha z => clrW_not (a8 Dl List.mem_cons_self j) (z ▸ ha), a2.upd hD1, wk.keep a3 kp fun a ha z => ?_, nBM', fun a ha j hj => clrW_not (a4 a ha j hj), fun a ha j => clrW_not (a5 a ha j), upd_same, ?_, ?_, ?_, ?_, hzs, ?_⟩
    · subst z
      rcases List.mem_append.mp ha with y | y
      · exact dDB a List.mem_cons_self y
      · exact (dD a List.mem_cons_self).2 (List.mem_append_right _ y)
    · have := (Rps.keep kp ds a7 fun a ha z => ndD.1 (z ▸ ha)).append (Rps.cons (r4.keep kp d' fun a ha z => yD a ha (z ▸ List.mem_cons_self)) Rps.nil)
      rw [List.append_nil] at this
      exact this
    · have kA := kdD Ws4 a8
      have kY : Kd none (wrEo c ++ wrE e) (setW Ws2 k M') H' (setW (clrW Ws4 tg.slots) k M') Wy := ⟨k34.1, fun a ha => ⟨fun j z => by
        by_cases q : j = k
        · subst q; rw [setW_same] at z; exact yM a ha z
        · rw [setW_ne q] at z; exact (k34.2 a ha).1 j (clrW_sub z).2, (k34.2 a ha).2.imp (fun ⟨j, hj, z⟩ => ⟨j, hj, by
        have q : j ≠ k := fun q => hk (List.mem_append_right _ (q ▸ hj))
        rw [setW_ne q]; exact z⟩) id⟩⟩
      have kY2 := kY.back goA (wr := k :: (tg.slots ++ (wrEo c ++ wrE e))) (fun _ h => h) fun j hj => List.mem_cons_of_mem _ (List.mem_append_right _ hj)
      refine ⟨?_, fun a ha => ?_⟩
      · refine List.nodup_cons.mpr ⟨fun z => ?_, List.nodup_append.mpr ⟨ndD.2, k34.1, fun a ha b hb e => yD b hb (e ▸ List.mem_cons_of_mem _ ha)⟩⟩
        rcases List.mem_append.mp z with y | y
        · exact ndD.1 y
        · exact yD Dl y List.mem_cons_self
      · rcases List.mem_cons.mp ha with rfl | ha
        · exact kA.2 a List.mem_cons_self
        · rcases List.mem_append.mp ha with y | y
          · exact kA.2 a (List.mem_cons_of_mem _ y)
          · exact kY2.2 a y
    · intro a ha
      rcases List.mem_cons.mp ha with rfl | ha
      · exact dDB a List.mem_cons_self
      · rcases List.mem_append.mp ha with y | y
        · exact dDB a (List.mem_cons_of_mem _ y)
        · exact yB a y
    · rw [List.length_append]; simp; exact hle
    · rw [List.append_assoc]; exact hres
end
end G

/-! G4k: a comprehension whole -/
namespace G
open PySem PySem.Spec PyProof.Rows L2
section
variable {G : Glob} {S : Sx} {W : WX} {X : Cx}
theorem le_fold : ∀ (l : List Nat) (x : Nat), x ∈ l → x ≤ l.foldr max 0
  | y :: l, x, h => by
    rcases List.mem_cons.mp h with rfl | h
    · exact Nat.le_max_left _ _
    · exact Nat.le_trans (le_fold l x h) (Nat.le_max_right _ _)
theorem calm_ok {α : Type} {K : PySem.W.Frag} {XR : XRT} {wr : List Nat} {σ : Sg} {Ws : WsT} {H : Hp} {r : R α} {C : α → Env → Prop} (h : Aft K XR W wr σ Ws H (calm r) C) : ∃ a ρ, r = .ok a ρ ∧ C a ρ := by
  cases r with
  | ok a ρ => exact ⟨a, ρ, rfl, h⟩
  | er x ρ => exact h.elim
  | no => exact h.elim
theorem Go.origin {wr : List Nat} {Ws Ws' : WsT} {H H' : Hp} {a : Addr} (x : Go wr Ws H Ws' H') (h : H' a = none) : (∃ j ∈ wr, a ∈ Ws j) ∨ H a = none := by
  by_cases w : ∃ j ∈ wr, a ∈ Ws j
  · exact .inl w
  · refine .inr ?_
    cases q : H a with
    | none => rfl
    | some o => have := x.fr a o q fun i hi z => w ⟨i, hi, z⟩; rw [h] at this; cases this
theorem lc_sem {tg : Tg} {src : Src} {cd : Eo} {e : E} {σ : Sg} {H : Hp} {Q : VK} (h : tE G W X (.comp tg src cd e) σ H Q) : tLc (tSrc G W X src) (gT X.K tg) (tCt G X cd) (tE G W0 X e) tg.slots σ H Q := by
  obtain ⟨ρ, Ws, e0, q⟩ := h
  obtain ⟨res, ρf, hr, q⟩ := calm_ok q
  obtain ⟨xs, ρ1, hsrc, hr⟩ := bd_ok_of hr
  split at hr <;> first | (cases hr; done) | skip
  rename_i hsf
  obtain ⟨hsf, hown, hcap⟩ := hsf
  obtain ⟨ys, ρ2, hcl, hr⟩ := bd_ok_of hr
  have er : res = .lst ys ∧ ρf = bck ρ1 ρ2 tg.slots := by cases hr; exact ⟨rfl, rfl⟩
  obtain ⟨rfl, rfl⟩ := er
  refine ⟨ρ, Ws, e0, ?_⟩
  rw [hsrc]
  intro J H1 Ws1 B M St e1 g1 wk st kd Dl hD
  -- a slot that nobody sees
  obtain ⟨k, hk, hk2, hk3⟩ : ∃ k, k ∉ tg.slots ++ (wrEo cd ++ wrE e) ∧ σ.length ≤ k ∧ k ∉ wrSrc src := by
    refine ⟨σ.length + ((tg.slots ++ (wrEo cd ++ wrE e)).foldr max 0) + ((wrSrc src).foldr max 0) + 1, fun z => ?_, by omega, fun z => ?_⟩
    · have := le_fold _ _ z; omega
    · have := le_fold _ _ z; omega
  have mt := wk.mt st
  have pM : ∀ a ∈ M, ∀ j, a ∉ Ws1 j := fun a ha j z => by
    cases hm : mdS src with
    | none => rw [hm] at kd; exact (kd.2 a (List.mem_append_right _ ha)).1 j z
    | some i =>
      rw [hm] at hown
      have p : puL xs = true := by simpa [own, pu] using hown
      rw [wk.pur st p] at ha; cases ha
  have pB : ∀ a ∈ B, ∀ j ∈ tg.slots ++ (wrEo cd ++ wrE e), a ∉ clrW Ws1 tg.slots j := fun a ha j hj z => by
    obtain ⟨n1, n2⟩ := clrW_sub z
    cases hm : mdS src with
    | none => rw [hm] at kd; exact (kd.2 a (List.mem_append_left _ ha)).1 j n2
    | some i =>
      rw [hm] at kd hsf
      have z2 := kd.2 a (List.mem_append_left _ ha)
      have ej := e1.dj j i a n2 z2
      subst ej
      have hj' : j ∈ wrEo cd ++ wrE e := (List.mem_append.mp hj).resolve_left n1
      simp only [safe, pu, Bool.or_false, Bool.not_eq_true'] at hsf
      rw [List.contains_iff_mem.mpr hj'] at hsf
      cases hsf
  have dDl : ∀ a ∈ B ++ M, Dl ≠ a := fun a ha z => by have := mt a ha; rw [← z, hD] at this; exact notMut_none this
  have sm : Same H1 (upd H1 Dl (.lst [])) := same_upd hD
  have k1 : Ws1 k = [] := e1.out hk2
  have inv0 : LcInv G X σ tg cd e k H1 (setW (clrW Ws1 tg.slots) k M) J xs B St ys ρ2 Dl 0 (upd H1 Dl (.lst [])) := by
    refine ⟨ρ1, clrW Ws1 tg.slots, M, [], [], [], ys, (e1.wipe _).same sm, Go.same sm, wk.keep st (Keep.same sm) fun _ _ z => z, kd.nd, pB, fun a ha j => clrW_not (pM a ha j), upd_same, Rps.nil, ⟨by simp, fun a ha => ?_⟩, fun a ha z => ?_, Nat.le_refl _, by simpa using hcl, rfl⟩
    · rw [List.mem_singleton.mp ha]
      refine ⟨fun j z => ?_, .inr hD⟩
      by_cases y : j = k
      · subst y; rw [setW_same] at z; exact dDl Dl (List.mem_append_right _ z) rfl
      · rw [setW_ne y] at z
        have := e1.mut (clrW_sub z).2
        rw [hD] at this; exact notMut_none this
    · rw [List.mem_singleton.mp ha] at z
      exact dDl Dl (List.mem_append_left _ z) rfl
  refine ⟨fun i m H => m = xs.length - i ∧ i ≤ xs.length ∧ LcInv G X σ tg cd e k H1 (setW (clrW Ws1 tg.slots) k M) J xs B St ys ρ2 Dl i H, ⟨_, rfl, Nat.zero_le _, inv0⟩, ?_⟩
  rintro i m Hi ⟨rfl, hi, iv⟩
  by_cases lt : i < xs.length
  · obtain ⟨hgo, hstep⟩ := lc_step wk hk hk2 hcap hD iv lt
    exact .inr ⟨hgo, LcInv G X σ tg cd e k H1 (setW (clrW Ws1 tg.slots) k M) J xs B St ys ρ2 Dl (i + 1), fun H' p => ⟨xs.length - (i + 1), by omega, rfl, lt, p⟩, hstep⟩
  · have ei : i = xs.length := by omega
    subst ei
    obtain ⟨ρe, Wc, M', acc, Wa, ds, zs, c0, go, stE, nBM, dB, dM, hDE, rds, kdE, dDB, hle, hcE, hres⟩ := iv.ex
    rw [List.drop_length] at hcE
    have ez : [] = zs ∧ ρe = ρ2 := by cases hcE; exact ⟨rfl, rfl⟩
    obtain ⟨rfl, rfl⟩ := ez
    rw [List.append_nil] at hres
    subst hres
    refine .inl ⟨wk.stop stE, ?_⟩
    have ck : Wc k = [] := c0.out (by rw [wipe_length]; exact hk2)
    -- where the objects of the emptied slots are
    have base : ∀ j a, a ∈ setW (clrW Ws1 tg.slots) k M j → MutO (H1 a) ∧ ((j = k ∧ a ∈ M) ∨ (j ≠ k ∧ j ∉ tg.slots ∧ a ∈ Ws1 j)) := fun j a z => by
      by_cases y : j = k
      · subst y; rw [setW_same] at z; exact ⟨mt a (List.mem_append_right _ z), .inl ⟨rfl, z⟩⟩
      · rw [setW_ne y] at z; obtain ⟨n1, n2⟩ := clrW_sub z; exact ⟨e1.mut n2, .inr ⟨y, n1, n2⟩⟩
    have nm : ∀ i ∈ tg.slots, ∀ a ∈ Ws1 i, ∀ j, a ∉ setW (clrW Ws1 tg.slots) k M j := fun i hi a ha j z => by
      rcases (base j a z).2 with ⟨_, y⟩ | ⟨_, y1, y2⟩
      · exact pM a y i ha
      · exact y1 (e1.dj j i a y2 ha ▸ hi)
    have kp : Keep (fun a => ∃ j ∈ k :: (tg.slots ++ (wrEo cd ++ wrE e)), a ∈ setW (clrW Ws1 tg.slots) k M j) H1 Hi := ⟨fun a o z n => go.fr a o z fun j hj y => n ⟨j, hj, y⟩, fun a ⟨j, _, z⟩ => (base j a z).1⟩
    have wc : ∀ j a, a ∈ Wc j → (∃ j', a ∈ setW (clrW Ws1 tg.slots) k M j' ∧ (j' ∈ k :: (tg.slots ++ (wrEo cd ++ wrE e)) ∧ j ∈ tg.slots ++ (wrEo cd ++ wrE e) ∨ j' = j)) ∨ (H1 a = none ∧ j ∈ tg.slots ++ (wrEo cd ++ wrE e)) := fun j a z => by
      have nk : j ≠ k := fun y => by rw [y, ck] at z; cases z
      have z' : a ∈ setW Wc k M' j := by rw [setW_ne nk]; exact z
      by_cases hj : j ∈ k :: (tg.slots ++ (wrEo cd ++ wrE e))
      · have hj2 := (List.mem_cons.mp hj).resolve_left nk
        rcases go.sub j a hj z' with ⟨j', h1, h2⟩ | y
        · exact .inl ⟨j', h2, .inl ⟨h1, hj2⟩⟩
        · exact .inr ⟨y, hj2⟩
      · rw [go.eq j hj] at z'; exact .inl ⟨j, z', .inr rfl⟩
    have dj : ∀ i ∈ tg.slots, ∀ a ∈ Ws1 i, ∀ j, a ∉ Wc j := fun i hi a ha j z => by
      rcases wc j a z with ⟨j', y, _⟩ | ⟨y, _⟩
      · exact nm i hi a ha j' y
      · have := e1.mut ha; rw [y] at this; exact notMut_none this
    have eF := EnvOk.unwipe e1 c0 kp fun i hi a ha ⟨j, _, z⟩ => nm i hi a ha j z
    -- seen from the start
    have fromM : ∀ a ∈ M, (∃ j ∈ wrSrc src ++ (wrEo cd ++ wrE e), a ∈ Ws j) ∨ H a = none := fun a ha => by
      cases hm : mdS src with
      | none =>
        rw [hm] at kd
        exact ((kd.2 a (List.mem_append_right _ ha)).2).imp (fun ⟨j, hj, z⟩ => ⟨j, List.mem_append_left _ hj, z⟩) id
      | some i =>
        rw [hm] at hown
        have p : puL xs = true := by simpa [own, pu] using hown
        rw [wk.pur st p] at ha; cases ha
    have from1 : ∀ j a, j ∈ wrSrc src ++ (wrEo cd ++ wrE e) → a ∈ Ws1 j → (∃ j ∈ wrSrc src ++ (wrEo cd ++ wrE e), a ∈ Ws j) ∨ H a = none := fun j a hj z => by
      by_cases y : j ∈ wrSrc src
      · exact (g1.sub j a y z).imp (fun ⟨i, hi, w⟩ => ⟨i, List.mem_append_left _ hi, w⟩) id
      · rw [g1.eq j y] at z; exact .inl ⟨j, hj, z⟩
    have from0 : ∀ a, H1 a = none → (∃ j ∈ wrSrc src ++ (wrEo cd ++ wrE e), a ∈ Ws j) ∨ H a = none := fun a z =>
      (g1.origin z).imp (fun ⟨i, hi, w⟩ => ⟨i, List.mem_append_left _ hi, w⟩) id
    have fromE : ∀ j a, j ∈ k :: (tg.slots ++ (wrEo cd ++ wrE e)) → a ∈ setW (clrW Ws1 tg.slots) k M j → (∃ j ∈ wrSrc src ++ (wrEo cd ++ wrE e), a ∈ Ws j) ∨ H a = none := fun j a hj z => by
      rcases (base j a z).2 with ⟨_, y⟩ | ⟨y0, y1, y2⟩
      · exact fromM a y
      · have h3 := (List.mem_append.mp ((List.mem_cons.mp hj).resolve_left y0)).resolve_left y1
        exact from1 j a (List.mem_append_right _ h3) y2
    have hkW : Ws k = [] := e0.out hk2
    refine q (.ref Dl) Hi (bckW Ws1 Wc tg.slots) (Dl :: Wa) (eF dj) ⟨Dl, acc, Wa, rfl, hDE, rds, rfl⟩ ⟨fun a o z n => ?_, fun j a hj z => ?_, fun j hj => ?_⟩ ⟨kdE.1, fun a ha => ⟨fun j z => ?_, ?_⟩⟩
    · have z1 : H1 a = some o := g1.fr a o z fun i hi => n i (List.mem_append_left _ hi)
      refine go.fr a o z1 fun j hj y => ?_
      rcases fromE j a hj y with ⟨i, hi, w⟩ | w
      · exact n i hi w
      · rw [z] at w; cases w
    · unfold bckW at z
      by_cases y : j ∈ tg.slots
      · rw [if_pos y] at z; exact from1 j a hj z
      · rw [if_neg y] at z
        rcases wc j a z with ⟨j', w, w2⟩ | ⟨w, _⟩
        · rcases w2 with ⟨w3, _⟩ | w3
          · exact fromE j' a w3 w
          · subst w3
            rcases (base j' a w).2 with ⟨_, y⟩ | ⟨_, _, y2⟩
            · exact fromM a y
            · exact from1 j' a hj y2
        · exact from0 a w
    · have n1 : j ∉ wrSrc src := fun z => hj (List.mem_append_left _ z)
      have n2 : j ∉ wrEo cd ++ wrE e := fun z => hj (List.mem_append_right _ z)
      unfold bckW
      by_cases y : j ∈ tg.slots
      · rw [if_pos y]; exact g1.eq j n1
      · rw [if_neg y]
        by_cases w : j = k
        · rw [w, ck, hkW]
        · have := go.eq j fun z => (List.mem_cons.mp z).elim w fun z => (List.mem_append.mp z).elim y n2
          rw [setW_ne w, setW_ne w] at this
          rw [this]
          unfold clrW
          rw [if_neg y]; exact g1.eq j n1
    · have hn := (kdE.2 a ha)
      unfold bckW at z
      by_cases y : j ∈ tg.slots
      · rw [if_pos y] at z
        rcases hn.2 with ⟨j', _, w⟩ | w
        · exact nm j y a z j' w
        · have := e1.mut z; rw [w] at this; exact notMut_none this
      · rw [if_neg y] at z
        have nk : j ≠ k := fun y => by rw [y, ck] at z; cases z
        exact hn.1 j (by rw [setW_ne nk]; exact z)
    · rcases (kdE.2 a ha).2 with ⟨j', h1, w⟩ | w
      · exact fromE j' a h1 w
      · exact from0 a w
theorem ownS_ix (S : Sx) (l : List Nat) : (ownS S l).map (·.2) = l := by
  unfold ownS
  rw [List.map_map]
  induction l with
  | nil => rfl
  | cons a l ih => rw [List.map_cons, ih]; rfl
theorem s_comp (c : Cg G S W X) {tg : Tg} {src : Src} {cd : Eo} {e : E} {t iter elt : Expr} {ifs : List Expr} {scope : Scope} {pos : Pos} (hb : blkC S.N S.sc scope (ownS S tg.slots) = true) (ht : chkT (S.blk scope) tg t = true) (hi : PI X t iter (tSrc G W X src))
    (hs : isSet iter = false) (hc : ∀ X', Cg G (S.blk scope) W0 X' → X'.K = X.K → PTs X' ifs (tCt G X' cd)) (he : ∀ X', Cg G (S.blk scope) W0 X' → X'.K = X.K → PE X' elt (tE G W0 X' e)) : PE X (.ListComp elt [⟨t, iter, ifs, 0⟩] scope pos) (tE G W X (.comp tg src cd e)) := by
  have bo := blkOk_by hb
  refine pe_imp (pe_lc (g := gT X.K tg) (tt := tCt G X cd) (te := tE G W0 X e) c.calm c.nd' hi (by rw [c.N, c.sc]; exact bo) (fun s H C cl fp => s_tg (c.blk bo.kind) tg t ht) (fun s H C cl fp => hc _ (c.blk bo.kind) rfl) (fun s H C cl fp => he _ (c.blk bo.kind) rfl) fun x => folded0 hs x) fun σ H Q q => ?_
  rw [ownS_ix]
  exact lc_sem q
end
end G

/-! G4l: places -/
namespace G
open PySem PySem.Spec PyProof.Rows L2
section
variable {X : Cx}
theorem pe_saneQ {e : Expr} {t : TE} (h : PE X e t) : PE X e (fun σ H Q => t σ H fun v H' => Sane X.K H' → Q v H') := ⟨fun pins s σ H Q I q => thn (h.run pins s σ H _ I q) fun v s1 ⟨x, H1, I1, r1, q1⟩ => ⟨x, H1, I1, r1, q1 (sane_of I1)⟩⟩
/-- an item, as it stands in its container -/
def rAt (K : PySem.W.Frag) : R2 := fun vx vy H Q => ∃ x y j z W1 W2, posOf x y = some j ∧ stepG x j = some z ∧ Rp K H x vx W1 ∧ Rp K H y vy W2 ∧ ∀ a vs v, vx = .ref a → Cont K H a vs → vs[j]? = some v → Q v H
theorem ix_at (hu : X.A.units + 200 < cLine) : IxR X (rAt X.K) := by
  intro value slice pins s σ H vx vy v u Q I rx ry h hs
  obtain ⟨x, y, j, z, W1, W2, hp, hz, r1, r2, n⟩ := h
  cases x with
  | lst l =>
    cases y <;> first | (simp [posOf] at hp; done) | skip
    rename_i i
    simp only [posOf] at hp
    obtain ⟨a, vs, W0, e, sq, q, eW⟩ := r1
    obtain ⟨w, W', e1, e2, e3⟩ := q.get' (i := j) hz
    refine ix_list value slice pins s σ H vx vy v u Q I rx ry ⟨a, vs, i, w, e, r2.1, SqL.of sq, ?_, n a vs w e (.inl sq) e1⟩ hs
    unfold atI
    rw [q.length, ← nIx_ixN, hp]; exact e1
  | tup l =>
    cases y <;> first | (simp [posOf] at hp; done) | skip
    rename_i i
    simp only [posOf] at hp
    obtain ⟨a, vs, e, sq, q⟩ := r1
    obtain ⟨w, W', e1, e2, e3⟩ := q.get' (i := j) hz
    refine ix_tup value slice pins s σ H vx vy v u Q I rx ry ⟨a, vs, i, w, e, r2.1, sq, ?_, n a vs w e (.inr (.inl sq)) e1⟩ hs
    unfold atI
    rw [q.length, ← nIx_ixN, hp]; exact e1
  | dct ks ds =>
    have hp' : (if isKey y then kIx y ks else none) = some j := by cases y <;> exact hp
    split at hp' <;> first | (cases hp'; done) | skip
    rename_i hk
    obtain ⟨a, vs, W0, rfl, kk, q, eW⟩ := r1
    obtain ⟨kvs, ea, ek, ev, _⟩ := id kk
    obtain ⟨w, W', e1, e2, e3⟩ := q.get' (i := j) hz
    obtain ⟨qk, rfl, rfl, _, rfl⟩ := key_of_d r2 hk
    have e : valV kvs qk = some w := by
      rw [← kIx_val qk kvs vs ev, ← ek, hp']; exact e1
    cases rx
    have G : DGet H a (kV qk) (some w) := by rw [← e]; exact DGet.k ea
    exact tail_any (dict_typeIs I G) PySem.F.slot_dict_getitem.lookup (d_getItem (by omega) I G ry fun w' s3 I3 rw' => ⟨w, H, I3, rw', n a vs w rfl (.inr (.inr ⟨ks, kk⟩)) e1⟩) hs
  | _ => cases y <;> simp [posOf] at hp
end
theorem getAt_snoc : ∀ (js : List Nat) (d : D) (j : Nat), getAt d (js ++ [j]) = (getAt d js).bind fun x => stepG x j
  | [], d, j => by
    show (stepG d j).bind (fun x => getAt x []) = stepG d j
    cases stepG d j <;> rfl
  | i :: js, d, j => by
    show (stepG d i).bind (fun x => getAt x (js ++ [j])) = ((stepG d i).bind fun x => getAt x js).bind _
    cases h : stepG d i with
    | none => rfl
    | some x => exact getAt_snoc js x j
section
variable {G : Glob} {S : Sx} {W : WX} {X : Cx}
/-- a place's reading: the value that stands there -/
abbrev tP (G : Glob) (W : WX) (X : Cx) (p : P) : TE := fun σ H Q => ∃ ρ Ws, EnvOk X.K H σ ρ Ws ∧ Aft X.K G.XR W (wrP p) σ Ws H (evP G.Γ p ρ) fun js ρ' => ∀ v0 vx H' Ws', EnvOk X.K H' σ ρ' Ws' → gV σ p.root = some v0 → VAt X.K H' v0 js vx → Go (wrP p) Ws H Ws' H' → Q vx H'
theorem p_var {i : Nat} {e : Expr} (h : PE X e (tVar i)) : PE X e (tP G W X (.v i)) := pe_imp h fun σ H Q ⟨ρ, Ws, e, q⟩ => by
  obtain ⟨d, hd, q⟩ := (show Aft X.K G.XR W _ σ Ws H ((lift (g ρ i) ρ).bd _) _ from q).bd.lift
  obtain ⟨v, h1, h2⟩ := e.slot i d hd
  exact ⟨v, gV_some h1, q v v H Ws e h1 rfl Go.refl⟩
theorem p_root {p : P} {js : List Nat} {ρ ρ' : Env} {Γ : Fns} (h : evP Γ p ρ = .ok js ρ') : ∃ d x, g ρ' p.root = some d ∧ getAt d js = some x := by
  cases p with
  | v i =>
    obtain ⟨d, ρ1, h1, h2⟩ := bd_ok_of (show (lift (g ρ i) ρ).bd (fun _ ρ => R.ok [] ρ) = .ok js ρ' from h)
    obtain ⟨h3, h4⟩ := lift_ok_of h1
    have h5 : [] = js ∧ ρ1 = ρ' := by cases h2; exact ⟨rfl, rfl⟩
    exact ⟨d, d, by rw [← h5.2, ← h4]; exact h3, by rw [← h5.1]; rfl⟩
  | ix p e =>
    obtain ⟨js0, ρ1, h1, h⟩ := bd_ok_of (show ((evP Γ p ρ).bd _) = .ok js ρ' from h)
    obtain ⟨k, ρ2, h2, h⟩ := bd_ok_of h
    split at h <;> first | (cases h; done) | skip
    obtain ⟨q1, q0⟩ := lift_ok_of h
    obtain ⟨d, hd, q2⟩ := Option.bind_eq_some_iff.mp q1
    obtain ⟨x, hx, q3⟩ := Option.bind_eq_some_iff.mp q2
    obtain ⟨j, hj, q4⟩ := Option.bind_eq_some_iff.mp q3
    obtain ⟨y, hy, q5⟩ := Option.bind_eq_some_iff.mp q4
    have q6 := Option.some.inj q5
    exact ⟨d, y, by rw [← q0]; exact hd, by rw [← q6, getAt_snoc, hx]; exact hy⟩
theorem p_ix (c : Cg G S W X) {p : P} {a : E} {x y : Expr} {pos : Pos} (hx : PE X x (tP G W X p)) (ha : PE X y (tE G W X a)) (hp : plainIx y = true) : PE X (.Subscript x y pos) (tP G W X (.ix p a)) := pe_imp (pe_ix (ix_at c.hu) (pe_saneQ hx) (pe_saneQ ha) (plain0 hp)) fun σ H Q ⟨ρ, Ws, e, q⟩ => by
  have q := (show Aft X.K G.XR W (wrP p ++ wrE a) σ Ws H ((evP G.Γ p ρ).bd _) _ from q)
  refine ⟨ρ, Ws, e, ?_⟩
  cases hv : evP G.Γ p ρ with
  | no => rw [hv] at q; exact q.elim
  | er z ρ1 => rw [hv] at q; exact q.less (r := R.er z ρ1) (α := List Nat) (C := fun _ _ => True) mem_l
  | ok js ρ1 =>
    rw [hv] at q
    intro v0 vx H1 Ws1 e1 hv0 at1 g1 sn1
    have q := (show Aft X.K G.XR W (wrP p ++ wrE a) σ Ws H ((evE G.Γ a ρ1).bd _) _ from q).bd
    refine ⟨ρ1, Ws1, e1, (q.from g1 mem_l mem_r).mono fun k ρ2 q vy H2 Ws2 W2 e2 r2 g2 k2 sn2 => ?_⟩
    by_cases hc : (wrE a).contains p.root = true
    · rw [if_pos hc] at q; exact q.elim
    · rw [if_neg hc] at q
      obtain ⟨js', hj', q⟩ := q.lift
      obtain ⟨d2, hd2, hj'⟩ := Option.bind_eq_some_iff.mp hj'
      obtain ⟨x2, hx2, hj'⟩ := Option.bind_eq_some_iff.mp hj'
      obtain ⟨j, hj, hj'⟩ := Option.bind_eq_some_iff.mp hj'
      obtain ⟨y2, hy2, hj'⟩ := Option.bind_eq_some_iff.mp hj'
      cases hj'
      obtain ⟨d1, x1, hd1, hx1⟩ := p_root hv
      have nr : p.root ∉ wrE a := fun z => hc (List.contains_iff_mem.mpr z)
      obtain ⟨v1, hv1, rp1⟩ := e1.slot p.root d1 hd1
      rw [hv0] at hv1; cases hv1
      have at2 : VAt X.K H2 v0 js vx := VAt.keep (g2.keep e1) js sn1 rp1 hx1 (fun b hb ⟨i, hi, z⟩ => nr (e1.dj i _ b z hb ▸ hi)) at1
      obtain ⟨v2, hv2, rp2⟩ := e2.slot p.root d2 hd2
      rw [hv0] at hv2; cases hv2
      obtain ⟨Wx, rx, _⟩ := VAt.rp js sn2 rp2 hx2 at2
      refine ⟨x2, k, j, y2, Wx, W2, hj, hy2, rx, r2, fun b vs w eb ct hw => ?_⟩
      exact q v0 w H2 Ws2 e2 hv0 (VAt.snoc js at2 eb ct hw) (g1.tr2 g2 mem_l mem_r)
/-! a change at a place -/
section
variable {K : PySem.W.Frag} {H H' : Hp} {σ : Sg} {ρ : Env} {Ws : WsT}
theorem EnvOk.chg (e : EnvOk K H σ ρ Ws) {i : Nat} {a : Addr} {d : D} {v : V} {W' : List Addr} (k : Keep (fun b => b = a) H H') (ha : a ∈ Ws i) (hi : i < ρ.length) (hv : gV σ i = some v) (r : Rp K H' d v W') (nd : W'.Nodup) (dj : ∀ b ∈ W', ∀ j, j ≠ i → b ∉ Ws j) :
    EnvOk K H' σ (ρ.set i (some d)) (setW Ws i W') := by
  have e1 : EnvOk K H' σ (ρ.set i none) (setW Ws i []) := (e.kill i).keep k fun j b hb z => by
    subst z
    by_cases q : j = i
    · subst q; rw [setW_same] at hb; cases hb
    · rw [setW_ne q] at hb; exact q (e.dj j i b hb ha)
  have e2 := e1.put (i := i) (by rw [List.length_set]; exact hi) hv r nd fun b hb j hj => by rw [setW_ne hj]; exact dj b hb j hj
  rw [List.set_set] at e2
  have : setW (setW Ws i []) i W' = setW Ws i W' := by
    funext j
    by_cases q : j = i
    · subst q; rw [setW_same, setW_same]
    · rw [setW_ne q, setW_ne q, setW_ne q]
  rw [this] at e2
  exact e2
/-- the change of the object at a place of slot i -/
theorem change_at {i : Nat} {js : List Nat} {d x : D} {v0 vx : V} (sn : Sane K H) (e : EnvOk K H σ ρ Ws) (hg : g ρ i = some d) (hv : gV σ i = some v0) (hx : getAt d js = some x) (at0 : VAt K H v0 js vx) :
    ∃ Wx, Rp K H x vx Wx ∧ Wx.Nodup ∧ (∀ b ∈ Wx, b ∈ Ws i) ∧ ∀ H' a x' Wn Wx', vx = .ref a → Chg K H H' a x' Wx Wn Wx' → (∀ b ∈ Wn, ∀ j, b ∉ Ws j) →
      ∃ W', EnvOk K H' σ (ρ.set i (some (setAt d js x'))) (setW Ws i W') ∧ (∀ b ∈ W', (b ∈ Ws i ∧ b ∉ Wx) ∨ b ∈ Wx') ∧ ∀ b o, H b = some o → b ∉ Ws i → H' b = some o := by
  obtain ⟨v, hv1, rp⟩ := e.slot i d hg
  rw [hv] at hv1; cases hv1
  obtain ⟨Wx, rx, sx, step⟩ := Rp.at js sn rp (e.nd i) hx at0
  refine ⟨Wx, rx, (e.nd i).sublist sx, fun b hb => sx.subset hb, fun H' a x' Wn Wx' ea ch dn => ?_⟩
  subst ea
  obtain ⟨W', h1, h2, h3⟩ := step _ H' ch.kp (fun b hb m => m ▸ ch.it) x' Wx' Wn ch.rp ch.nd ch.sub fun b hb => dn b hb i
  refine ⟨W', e.chg ch.kp (sx.subset ch.it) (g_lt hg) hv h1 h2 fun b hb j hj z => ?_, h3, fun b o ho hb => ch.kp.kp b o ho fun z => hb (z ▸ sx.subset ch.it)⟩
  rcases h3 b hb with y | y
  · exact hj (e.dj j i b z y.1)
  · rcases ch.sub b y with y | y
    · exact hj (e.dj j i b z (sx.subset y))
    · exact dn b y j z
end
end
end G

/-! G4m: pop; every expression -/
namespace G
open PySem PySem.Spec PyProof.Rows L2
section
variable {G : Glob} {S : Sx} {W : WX} {X : Cx}
theorem s_pop {p : P} {x : Expr} {apos cpos : Pos} (hx : PE X x (tP G W X p)) (at0 : attrOk x = true) (hl : (apos.endLine == cpos.line) = true) : PE X (.Call (.Attribute x "pop" apos) [] [] cpos) (tE G W X (.pop p)) := by
  refine pe_imp (pe_bm0 PySem.F.plainAttrs_list PySem.F.slot_list_pop PySem.F.type_list_pop mt_pop (pe_saneQ hx) (attr0 at0) hl) fun σ H Q ⟨ρ, Ws, e, q⟩ => ?_
  have q := (show Aft X.K G.XR W (p.root :: wrP p) σ Ws H ((evP G.Γ p ρ).bd _) _ from q)
  refine ⟨ρ, Ws, e, ?_⟩
  cases hv : evP G.Γ p ρ with
  | no => rw [hv] at q; exact q.elim
  | er z ρ1 => rw [hv] at q; exact q.less (r := R.er z ρ1) (α := List Nat) (C := fun _ _ => True) fun i hi => List.mem_cons_of_mem _ hi
  | ok js ρ1 =>
    rw [hv, R.bd_ok] at q
    intro v0 vx H1 Ws1 e1 hv0 at1 g1 sn
    obtain ⟨⟨y, ρ2⟩, hq, q⟩ := q.bd.lift
    obtain ⟨d, hd, hq⟩ := Option.bind_eq_some_iff.mp hq
    obtain ⟨x, hx, hq⟩ := Option.bind_eq_some_iff.mp hq
    obtain ⟨⟨y', x''⟩, hp, hq⟩ := Option.map_eq_some_iff.mp hq
    simp only [Prod.mk.injEq] at hq
    obtain ⟨rfl, rfl⟩ := hq
    cases x <;> first | (simp [popF] at hp; done) | skip
    rename_i l
    simp only [popF] at hp
    cases hl : l.getLast? with
    | none => rw [hl] at hp; cases hp
    | some z =>
      rw [hl] at hp
      simp only [Option.some.injEq, Prod.mk.injEq] at hp
      obtain ⟨rfl, rfl⟩ := hp
      obtain ⟨Wx, rx, nx, sx, step⟩ := change_at sn e1 hd hv0 hx at1
      obtain ⟨a, vs, W0, rfl, hs, rs, rfl⟩ := rx
      obtain ⟨v, Wv, Wx', h1, ch, rv, nv, sv, dv⟩ := chg_pop hs rs nx hl
      obtain ⟨W', e2, s2, k2⟩ := step _ a _ [] Wx' rfl ch fun b hb => nomatch hb
      refine ⟨.inl ⟨rfl, vs, SqL.of hs⟩, a, vs, v, rfl, rfl, hs, h1, ?_⟩
      have inR : ∀ i ∈ wrP p, i ∈ p.root :: wrP p := fun i hi => List.mem_cons_of_mem _ hi
      have gR : Go (p.root :: wrP p) Ws1 H1 (setW Ws1 p.root W') (upd H1 a (.lst vs.dropLast)) := ⟨fun b o z n => k2 b o z (n p.root List.mem_cons_self), fun i b hi z => ?_, fun i hi => ?_⟩
      · refine q v _ (setW Ws1 p.root W') Wv e2 rv ((g1.mono inR).tr gR) ⟨nv, fun b hb => ⟨fun i z => ?_, ?_⟩⟩
        · by_cases y : i = p.root
          · subst y
            rw [setW_same] at z
            rcases s2 b z with ⟨_, w⟩ | w
            · exact w (sv b hb)
            · exact dv b w hb
          · rw [setW_ne y] at z
            exact y (e1.dj i _ b z (sx b (sv b hb)))
        · exact (g1.mono inR).sub p.root b List.mem_cons_self (sx b (sv b hb))
      · by_cases y : i = p.root
        · subst y
          rw [setW_same] at z
          rcases s2 b z with ⟨w, _⟩ | w
          · exact .inl ⟨_, hi, w⟩
          · rcases ch.sub b w with w | w
            · exact .inl ⟨_, hi, sx b w⟩
            · cases w
        · rw [setW_ne y] at z; exact .inl ⟨i, hi, z⟩
      · exact setW_ne fun y => hi (y ▸ List.mem_cons_self)
end
/-! every expression -/
section
variable {G : Glob}
theorem asLen_of : ∀ {fn : List (Str × Nat)} {S : Sx} (as : As) (xs : List Expr), chkAs fn S as xs = true → asLen as = xs.length ∧ ∀ e ∈ xs, notStar e = true
  | fn, S, .nil, [], _ => ⟨rfl, fun e h => nomatch h⟩
  | fn, S, .nil, _ :: _, h => by simp [chkAs] at h
  | fn, S, .val _ _, [], h => by simp [chkAs] at h
  | fn, S, .ref _ _, [], h => by simp [chkAs] at h
  | fn, S, .val c r, x :: xs, h => by
    simp only [chkAs, Bool.and_eq_true] at h
    obtain ⟨a, b⟩ := asLen_of r xs h.2
    refine ⟨by show asLen r + 1 = _; rw [a, List.length_cons], fun e he => ?_⟩
    rcases List.mem_cons.mp he with rfl | he
    · exact h.1.2
    · exact b e he
  | fn, S, .ref i r, x :: xs, h => by
    cases x <;> first | (simp [chkAs] at h; done) | skip
    simp only [chkAs, Bool.and_eq_true] at h
    obtain ⟨a, b⟩ := asLen_of r xs h.2
    refine ⟨by show asLen r + 1 = _; rw [a, List.length_cons], fun e he => ?_⟩
    rcases List.mem_cons.mp he with rfl | he
    · rfl
    · exact b e he
theorem ks_of : ∀ {fn : List (Str × Nat)} {S : Sx} (c : Es) (ks : List (Option Expr)) (vs : List Expr), chkKs fn S c ks vs = true → alt c = true ∧ ks.all (·.isSome) = true ∧ ks.length = vs.length ∧ esLen c = 2 * ks.length
  | fn, S, .nil, [], [], _ => ⟨rfl, rfl, rfl, rfl⟩
  | fn, S, .cons k (.cons v r), some x :: xs, y :: ys, h => by
    simp only [chkKs, Bool.and_eq_true] at h
    obtain ⟨a1, a2, a3, a4⟩ := ks_of r xs ys h.2
    exact ⟨a1, by simp [a2], by simp [a3], by show esLen r + 1 + 1 = _; rw [a4, List.length_cons]; omega⟩
  | fn, S, .nil, [], _ :: _, h => by simp [chkKs] at h
  | fn, S, .nil, _ :: _, _, h => by simp [chkKs] at h
  | fn, S, .cons _ .nil, _, _, h => by simp [chkKs] at h
  | fn, S, .cons _ (.cons _ _), [], _, h => by simp [chkKs] at h
  | fn, S, .cons _ (.cons _ _), none :: _, _, h => by simp [chkKs] at h
  | fn, S, .cons _ (.cons _ _), some _ :: _, [], h => by simp [chkKs] at h
end
end G

/-! G4p: min and max of three, a list of an own list, chained comparisons -/
namespace G
open PySem PySem.Spec PyProof.Rows L2
section
variable {G : Glob} {S : Sx} {W : WX} {X : Cx}
theorem mem_m {a b c : List Nat} : ∀ i ∈ b, i ∈ a ++ (b ++ c) := fun _ h => List.mem_append_right _ (List.mem_append_left _ h)
theorem mem_rr {a b c : List Nat} : ∀ i ∈ c, i ∈ a ++ (b ++ c) := fun _ h => List.mem_append_right _ (List.mem_append_right _ h)
theorem bi3_new {b : BI} {f : V → V → V → Option V} (hf : ∀ {x y z w}, bi3F b x y z = some w → ∃ i j k m : Int, x = .int i ∧ y = .int j ∧ z = .int k ∧ w = .int m ∧ f (.int i) (.int j) (.int k) = some (.int m)) {a a' a'' : E} {σ : Sg} {H : Hp} {Q : VK} (q : tE G W X (.bi3 b a a' a'') σ H Q) : tCB (rNuC3 f) (tCons (tE G W X a) (tCons (tE G W X a') (tCons (tE G W X a'') tNil))) σ H Q := by
  obtain ⟨ρ, Ws, e, q⟩ := q
  refine ⟨ρ, Ws, e, (q.bd.less mem_l).mono fun d1 ρ1 q v1 H1 Ws1 W1 e1 r1 g1 k1 => ?_⟩
  refine ⟨ρ1, Ws1, e1, (q.bd.from g1 mem_l mem_m).mono fun d2 ρ2 q v2 H2 Ws2 W2 e2 r2 g2 k2 => ?_⟩
  have g12 : Go (wrE a ++ (wrE a' ++ wrE a'')) Ws H Ws2 H2 := g1.tr2 g2 mem_l mem_m
  refine ⟨ρ2, Ws2, e2, (q.bd.from g12 (fun _ h => h) mem_rr).mono fun d3 ρ3 q v3 H3 Ws3 W3 e3 r3 g3 k3 => ?_⟩
  obtain ⟨z, hz, q⟩ := q.lift
  obtain ⟨i, j, k, m, rfl, rfl, rfl, rfl, hm⟩ := hf hz
  exact ⟨v1, v2, v3, .int m, rfl, by rw [r1.1, r2.1, r3.1]; exact hm, q _ H3 Ws3 [] e3 ⟨rfl, rfl⟩ (g12.tr2 g3 (fun _ h => h) mem_rr) Kd.nil⟩
theorem bi3_min {x y z w : D} (h : bi3F .min3 x y z = some w) : ∃ i j k m : Int, x = .int i ∧ y = .int j ∧ z = .int k ∧ w = .int m ∧ nuMin3 (.int i) (.int j) (.int k) = some (.int m) := by
  cases x <;> first | (simp [bi3F] at h; done) | skip
  cases y <;> first | (simp [bi3F] at h; done) | skip
  cases z <;> first | (simp [bi3F] at h; done) | skip
  rename_i i j k
  simp only [bi3F, Option.some.injEq] at h
  subst h
  refine ⟨i, j, k, _, rfl, rfl, rfl, rfl, ?_⟩
  unfold nuMin3 nuMin2 nuLt
  by_cases h1 : j < i
  · by_cases h2 : k < j <;> simp [nuCB, h1, h2]
  · by_cases h2 : k < i <;> simp [nuCB, h1, h2]
theorem bi3_max {x y z w : D} (h : bi3F .max3 x y z = some w) : ∃ i j k m : Int, x = .int i ∧ y = .int j ∧ z = .int k ∧ w = .int m ∧ nuMax3 (.int i) (.int j) (.int k) = some (.int m) := by
  cases x <;> first | (simp [bi3F] at h; done) | skip
  cases y <;> first | (simp [bi3F] at h; done) | skip
  cases z <;> first | (simp [bi3F] at h; done) | skip
  rename_i i j k
  simp only [bi3F, Option.some.injEq] at h
  subst h
  refine ⟨i, j, k, _, rfl, rfl, rfl, rfl, ?_⟩
  unfold nuMax3 nuMax2 nuLt
  by_cases h1 : i < j
  · by_cases h2 : j < k <;> simp [nuCB, h1, h2]
  · by_cases h2 : i < k <;> simp [nuCB, h1, h2]
theorem s_bi3 (c : Cg G S W X) {b : BI} {a a' a'' : E} {x : Str} {y z u : Expr} {p pos : Pos} (hb : bi3Ok b = true) (hx : bltOk S (biName b) x = true) (ha : PE X y (tE G W X a)) (ns : notStar y = true) (ha' : PE X z (tE G W X a')) (ns' : notStar z = true) (ha'' : PE X u (tE G W X a'')) (ns'' : notStar u = true) :
    PE X (.Call (.Name x p) [y, z, u] [] pos) (tE G W X (.bi3 b a a' a'')) := by
  have pa : PA X [y, z, u] (tCons (tE G W X a) (tCons (tE G W X a') (tCons (tE G W X a'') tNil))) := pa_cons ha (pa_cons ha' (pa_cons ha'' pa_nil (star1 ns'')) (star1 ns')) (star1 ns)
  have hp : (backTo pos (starEach [z, u] X.env)).any (·.1) = false := stars fun e he => by
    rcases List.mem_cons.mp he with rfl | he
    · exact ns'
    · rw [List.mem_singleton.mp he]; exact ns''
  cases b <;> first | (simp [bi3Ok] at hb; done) | skip
  · obtain ⟨rfl, gl, mg⟩ := c.blt' (n := "min") hx (by decide)
    exact pe_imp (pe_callB (call_min3Nu c.calm) gl mg (by decide +kernel) pa (he := star1 ns) (hpl := hp)) fun σ H Q q => bi3_new bi3_min q
  · obtain ⟨rfl, gl, mg⟩ := c.blt' (n := "max") hx (by decide)
    exact pe_imp (pe_callB (call_max3Nu c.calm) gl mg (by decide +kernel) pa (he := star1 ns) (hpl := hp)) fun σ H Q q => bi3_new bi3_max q
/-! list(x) of an own list -/
def rLcp (K : PySem.W.Frag) (Ws : WsT) (wr : List Nat) (Ws0 : WsT) (H0 : Hp) : Prop := True
theorem s_lcp (c : Cg G S W X) {a : E} {x : Str} {y : Expr} {p pos : Pos} (hx : bltOk S "list" x = true) (ha : PE X y (tE G W X a)) (ns : notStar y = true) : PE X (.Call (.Name x p) [y] [] pos) (tE G W X (.lcp a)) := by
  have pa : PA X [y] (tCons (tE G W X a) tNil) := pa_cons ha pa_nil (star1 ns)
  obtain ⟨rfl, gl, mg⟩ := c.blt' (n := "list") hx (by decide)
  refine pe_imp (pe_callTy call_list_of gl mg (by decide +kernel) pa (he := star1 ns)) fun σ H Q q => ?_
  obtain ⟨ρ, Ws, e, q⟩ := q
  refine ⟨ρ, Ws, e, q.bd.mono fun d ρ1 q v H1 Ws1 W1 e1 r1 g1 k1 => ?_⟩
  cases d <;> first | exact q.elim | skip
  rename_i l
  obtain ⟨hm, q⟩ := q.ite
  have hn : md a = none := by
    cases h : md a with
    | none => rfl
    | some i => rw [h] at hm; cases hm
  obtain ⟨b, ws, W0, rfl, sq, r0, rfl⟩ := r1
  rw [hn] at k1
  have k0 : Kd none (wrE a) Ws H Ws1 W0 := ⟨(List.nodup_cons.mp k1.1).2, fun a ha => k1.2 a (List.mem_cons_of_mem _ ha)⟩
  refine ⟨b, ws, rfl, .inl (SqL.of sq), fun p hp => ?_⟩
  exact q (.ref p) _ Ws1 (p :: W0) (e1.same (same_upd hp)) ⟨p, ws, W0, rfl, upd_same, r0.same (same_upd hp), rfl⟩ (g1.tr (Go.same (same_upd hp))) (Kd.new g1 e1 k0 (Rps.mut l r0) hp)
/-! a op b op c -/
theorem s_chain0 {o o' : COp} {a b e3 : E} {σ : Sg} {H : Hp} {Q : VK} {ρ : Env} {Ws : WsT} {C : D → Env → Prop} (hC : ∀ k ρ', C (.bl k) ρ' → ∀ H' Ws', EnvOk X.K H' σ ρ' Ws' → Go (wrE a ++ (wrE b ++ wrE e3)) Ws H Ws' H' → Q (.bl k) H') (e : EnvOk X.K H σ ρ Ws) (q : Aft X.K G.XR W (wrE a ++ (wrE b ++ wrE e3)) σ Ws H (evE G.Γ (.cmp2 o o' a b e3) ρ) C) :
    tChain (rD2 X.K fun x y => (cmpF o x y).map D.bl) (rD2 X.K fun x y => (cmpF o' x y).map D.bl) (tE G W X a) (tE G W X b) (tE G W X e3) σ H Q := by
  have q : Aft X.K G.XR W (wrE a ++ (wrE b ++ wrE e3)) σ Ws H ((evE G.Γ a ρ).bd fun x ρ => (evE G.Γ b ρ).bd fun y ρ => if pu x = true ∧ pu y = true then (lift (cmpF o x y) ρ).bd fun t ρ => if t = true then (evE G.Γ e3 ρ).bd fun z ρ => if pu z = true then lift ((cmpF o' y z).map D.bl) ρ else .no else .ok (.bl false) ρ else .no) C := q
  refine ⟨ρ, Ws, e, (q.bd.less mem_l).mono fun d1 ρ1 q v1 H1 Ws1 W1 e1 r1 g1 k1 => ?_⟩
  refine ⟨ρ1, Ws1, e1, (q.bd.from g1 mem_l mem_m).mono fun d2 ρ2 q v2 H2 Ws2 W2 e2 r2 g2 k2 => ?_⟩
  have g12 : Go (wrE a ++ (wrE b ++ wrE e3)) Ws H Ws2 H2 := g1.tr2 g2 mem_l mem_m
  obtain ⟨⟨p1, p2⟩, q⟩ := q.ite
  have w1 := Rp.pu_nil d1 p1 r1
  have w2 := Rp.pu_nil d2 p2 r2
  subst w1 w2
  have r1' := (k1.stay e1 r1 (safe_pu p1) g2).1
  obtain ⟨t, ht, q⟩ := q.bd.lift
  refine ⟨d1, d2, .bl t, [], [], by show (cmpF o d1 d2).map D.bl = _; rw [ht]; rfl, r1', r2, fun v H3 W3 sm _ _ r3 => ⟨t, r3.1, ?_⟩⟩
  have g3 : Go (wrE a ++ (wrE b ++ wrE e3)) Ws H Ws2 H3 := g12.tr (Go.same sm)
  have e3' := e2.same sm
  cases t with
  | false =>
    simp only [Bool.false_eq_true, if_false] at q ⊢
    exact hC _ _ q H3 Ws2 e3' g3
  | true =>
    simp only [if_true] at q ⊢
    refine ⟨ρ2, Ws2, e3', (q.bd.from g3 (fun _ h => h) mem_rr).mono fun d3 ρ3 q v3 H4 Ws4 W4 e4 r4 g4 k4 => ?_⟩
    obtain ⟨p3, q⟩ := q.ite
    have w4 := Rp.pu_nil d3 p3 r4
    subst w4
    obtain ⟨z, hz, q⟩ := q.lift
    obtain ⟨k, hk, rfl⟩ := Option.map_eq_some_iff.mp hz
    have r2' : Rp X.K H3 d2 v2 [] := r2.same sm
    have r2'' := r2'.keep (g4.keep e3') d2 (fun a ha => nomatch ha)
    refine ⟨d2, d3, .bl k, [], [], hz, r2'', r4, fun v5 H5 W5 sm5 _ _ r5 => ?_⟩
    rw [r5.1]
    exact hC _ _ q H5 Ws4 (e4.same sm5) ((g3.tr2 g4 (fun _ h => h) mem_rr).tr (Go.same sm5))
theorem s_cmp2 (c : Cg G S W X) {o o' : COp} {a b e3 : E} {x y z : Expr} {pos : Pos} (ha : PE X x (tE G W X a)) (hb : PE X y (tE G W X b)) (h3 : PE X z (tE G W X e3)) (hm : lastMarks [cop o, cop o'] [y, z] = false) : SndE G W X (.cmp2 o o' a b e3) (.Compare x [cop o, cop o'] [y, z] pos) := by
  refine ⟨pe_imp (pe_chain (op_cmp o c.hu) (op_cmp o' c.hu) ha hb h3 hm) fun σ H Q ⟨ρ, Ws, e, q⟩ => s_chain0 (fun k ρ' q H' Ws' e' g' => q _ H' Ws' [] e' ⟨rfl, rfl⟩ g' Kd.nil) e q, fun _ => pt_imp (pt_chain (op_cmp o c.hu) (op_cmp o' c.hu) ha hb h3 hm) fun σ H Q ⟨ρ, Ws, e, q⟩ => ?_, fun _ _ _ q => nomatch q⟩
  refine s_chain0 (Q := fun x H' => ∃ k, x = .bl k ∧ Q k H') (fun k ρ' q H' Ws' e' g' => ⟨k, rfl, ?_⟩) e q.bd
  exact q H' Ws' e' g'
/-! tuple(range(..)), list(range(..)) -/
theorem rg_rps {K : PySem.W.Frag} {H : Hp} : ∀ (n : Nat) (i : Int), Rps K H (rngL i 1 n) ((List.range n).map fun k => V.int (i + (k : Nat))) []
  | 0, i => Rps.nil
  | n + 1, i => by
    rw [List.range_succ_eq_map, List.map_cons, List.map_map]
    have h := rg_rps (K := K) (H := H) n (i + 1)
    have e : (List.range n).map ((fun k : Nat => V.int (i + (k : Nat))) ∘ Nat.succ) = (List.range n).map fun k => V.int (i + 1 + (k : Nat)) := by
      refine List.map_congr_left fun k _ => ?_
      show V.int (i + ((k + 1 : Nat) : Int)) = _
      congr 1; omega
    rw [e]
    exact Rps.cons (W := []) (d := .int i) ⟨by simp, rfl⟩ h
theorem rgok {i j : Int} (h : i ≤ 1000000 ∧ j ≤ 1000000 ∧ -1000000 ≤ i ∧ -1000000 ≤ j) : RgOk i j := ⟨by omega, by omega, by omega, by omega, by omega⟩
theorem tr_end {t : Bool} {i j : Int} {ρ : Env} {Ws : WsT} {wr : List Nat} {Ws0 : WsT} {H0 H : Hp} {σ : Sg} {Q : VK} {K : PySem.W.Frag} (e : EnvOk K H σ ρ Ws) (g : Go wr Ws0 H0 Ws H) (q : ∀ v H' Ws' W', EnvOk K H' σ ρ Ws' → Rp K H' (if t = true then .tup (rngL i 1 (j - i).toNat) else .lst (rngL i 1 (j - i).toNat)) v W' → Go wr Ws0 H0 Ws' H' → Kd none wr Ws0 H0 Ws' W' → Q v H') :
    (t = true → ∀ p, H p = none → Q (.ref p) (upd H p (.tup (rgV i j)))) ∧ (t = false → ∀ p, H p = none → Q (.ref p) (upd H p (.lst (rgV i j)))) := by
  refine ⟨fun h p hp => ?_, fun h p hp => ?_⟩
  · subst h
    exact q (.ref p) _ Ws [] (e.same (same_upd hp)) ⟨p, _, rfl, SqT.of upd_same, rg_rps _ i⟩ (g.tr (Go.same (same_upd hp))) Kd.nil
  · subst h
    exact q (.ref p) _ Ws [p] (e.same (same_upd hp)) ⟨p, _, [], rfl, upd_same, rg_rps _ i, rfl⟩ (g.tr (Go.same (same_upd hp))) (Kd.new g e Kd.nil (fun _ h => nomatch h) hp)
theorem s_tr1 (c : Cg G S W X) {t : Bool} {a : E} {x n : Str} {y : Expr} {p p2 pos pos2 : Pos} (hx : bltOk S (if t = true then "tuple" else "list") x = true) (hn : bltOk S "range" n = true) (ha : PE X y (tE G W X a)) (ns : notStar y = true) : PE X (.Call (.Name x p) [.Call (.Name n p2) [y] [] pos2] [] pos) (tE G W X (.tr1 t a)) := by
  obtain ⟨rfl, gl, mg⟩ := c.blt' (n := "range") hn (by decide)
  have pr := prg_1 (pos := pos2) (p := p2) gl mg ha (star1 ns)
  have main : ∀ {σ : Sg} {H : Hp} {Q : VK}, tE G W X (.tr1 t a) σ H Q → tRg1 (tE G W X a) σ H fun i j H1 => RgOk i j ∧ ((t = true → ∀ p, H1 p = none → Q (.ref p) (upd H1 p (.tup (rgV i j)))) ∧ (t = false → ∀ p, H1 p = none → Q (.ref p) (upd H1 p (.lst (rgV i j))))) := fun {σ H Q} ⟨ρ, Ws, e, q⟩ => by
    refine ⟨ρ, Ws, e, q.bd.mono fun d ρ1 q v H1 Ws1 W1 e1 r1 g1 k1 => ?_⟩
    obtain ⟨j, rfl⟩ : ∃ j, d = .int j := by cases d <;> first | exact q.elim | exact ⟨_, rfl⟩
    obtain ⟨hj, q⟩ := q.ite
    refine ⟨j, r1.1, rgok ⟨by omega, hj.1, by omega, hj.2⟩, tr_end e1 g1 fun v H' Ws' W' a b cc dd => q v H' Ws' W' a ?_ cc dd⟩
    simpa using b
  cases t with
  | true =>
    obtain ⟨rfl, gl2, mg2⟩ := c.blt' (n := "tuple") hx (by decide)
    exact pe_imp (pe_tupRg c.calm gl2 mg2 pr) fun σ H Q q => by
      have := main q
      obtain ⟨ρ, Ws, e, q⟩ := this
      exact ⟨ρ, Ws, e, q.mono fun d ρ' q v H' Ws' W' a b cc dd => let ⟨n, h1, h2, h3⟩ := q v H' Ws' W' a b cc dd; ⟨n, h1, h2, h3.1 rfl⟩⟩
  | false =>
    obtain ⟨rfl, gl2, mg2⟩ := c.blt' (n := "list") hx (by decide)
    exact pe_imp (pe_listRg c.calm gl2 mg2 pr) fun σ H Q q => by
      have := main q
      obtain ⟨ρ, Ws, e, q⟩ := this
      exact ⟨ρ, Ws, e, q.mono fun d ρ' q v H' Ws' W' a b cc dd => let ⟨n, h1, h2, h3⟩ := q v H' Ws' W' a b cc dd; ⟨n, h1, h2, h3.2 rfl⟩⟩
theorem s_tr2 (c : Cg G S W X) {t : Bool} {a b : E} {x n : Str} {y z : Expr} {p p2 pos pos2 : Pos} (hx : bltOk S (if t = true then "tuple" else "list") x = true) (hn : bltOk S "range" n = true) (ha : PE X y (tE G W X a)) (ns : notStar y = true) (hb : PE X z (tE G W X b)) (nz : notStar z = true) : PE X (.Call (.Name x p) [.Call (.Name n p2) [y, z] [] pos2] [] pos) (tE G W X (.tr2 t a b)) := by
  obtain ⟨rfl, gl, mg⟩ := c.blt' (n := "range") hn (by decide)
  have pr := prg_2 (pos := pos2) (p := p2) gl mg ha hb (star1 ns) (star1 nz) (stars fun e he => by rw [List.mem_singleton.mp he]; exact nz)
  have main : ∀ {σ : Sg} {H : Hp} {Q : VK}, tE G W X (.tr2 t a b) σ H Q → tRg2 (tE G W X a) (tE G W X b) σ H fun i j H1 => RgOk i j ∧ ((t = true → ∀ p, H1 p = none → Q (.ref p) (upd H1 p (.tup (rgV i j)))) ∧ (t = false → ∀ p, H1 p = none → Q (.ref p) (upd H1 p (.lst (rgV i j))))) := fun {σ H Q} ⟨ρ, Ws, e, q⟩ => by
    refine ⟨ρ, Ws, e, (q.bd.less mem_l).mono fun d ρ1 q v H1 Ws1 W1 e1 r1 g1 k1 => ?_⟩
    refine ⟨ρ1, Ws1, e1, (q.bd.from g1 mem_l mem_r).mono fun d2 ρ2 q v2 H2 Ws2 W2 e2 r2 g2 k2 => ?_⟩
    obtain ⟨i, j, rfl, rfl⟩ : ∃ i j, d = .int i ∧ d2 = .int j := by cases d <;> cases d2 <;> first | exact q.elim | exact ⟨_, _, rfl, rfl⟩
    obtain ⟨hj, q⟩ := q.ite
    have g12 : Go (wrE a ++ wrE b) Ws H Ws2 H2 := g1.tr2 g2 mem_l mem_r
    exact ⟨i, j, r1.1, r2.1, rgok hj, tr_end e2 g12 q⟩
  cases t with
  | true =>
    obtain ⟨rfl, gl2, mg2⟩ := c.blt' (n := "tuple") hx (by decide)
    exact pe_imp (pe_tupRg c.calm gl2 mg2 pr) fun σ H Q q => by
      have := main q
      obtain ⟨ρ, Ws, e, q⟩ := this
      refine ⟨ρ, Ws, e, q.mono fun d ρ' q v H' Ws' W' a b cc dd => ?_⟩
      obtain ⟨ρ, Ws, e, q⟩ := q v H' Ws' W' a b cc dd
      exact ⟨ρ, Ws, e, q.mono fun d ρ' q v H' Ws' W' a b cc dd => let ⟨i, j, h1, h2, h3, h4⟩ := q v H' Ws' W' a b cc dd; ⟨i, j, h1, h2, h3, h4.1 rfl⟩⟩
  | false =>
    obtain ⟨rfl, gl2, mg2⟩ := c.blt' (n := "list") hx (by decide)
    exact pe_imp (pe_listRg c.calm gl2 mg2 pr) fun σ H Q q => by
      have := main q
      obtain ⟨ρ, Ws, e, q⟩ := this
      refine ⟨ρ, Ws, e, q.mono fun d ρ' q v H' Ws' W' a b cc dd => ?_⟩
      obtain ⟨ρ, Ws, e, q⟩ := q v H' Ws' W' a b cc dd
      exact ⟨ρ, Ws, e, q.mono fun d ρ' q v H' Ws' W' a b cc dd => let ⟨i, j, h1, h2, h3, h4⟩ := q v H' Ws' W' a b cc dd; ⟨i, j, h1, h2, h3, h4.2 rfl⟩⟩
end
end G

/-! G4q: sets of texts, their number; the place of a sign; {x: c for x in xs} -/
namespace G
open PySem PySem.Spec PyProof.Rows L2
/-! ### the first of each -/
theorem ddl_snoc (l : List (List Nat)) (k : List Nat) : ddl (l ++ [k]) = if k ∈ ddl l then ddl l else ddl l ++ [k] := by
  unfold ddl; rw [List.foldl_append]; rfl
theorem mem_fold : ∀ (l acc : List (List Nat)) (k : List Nat), k ∈ l.foldl (fun acc k => if k ∈ acc then acc else acc ++ [k]) acc ↔ k ∈ acc ∨ k ∈ l
  | [], acc, k => by simp
  | x :: l, acc, k => by
    rw [List.foldl_cons, mem_fold l, List.mem_cons]
    by_cases h : x ∈ acc
    · rw [if_pos h]
      exact ⟨fun z => z.imp id .inr, fun z => z.elim .inl fun z => z.elim (fun e => .inl (e ▸ h)) .inr⟩
    · rw [if_neg h, List.mem_append, List.mem_singleton, or_assoc]
theorem mem_ddl (l : List (List Nat)) (k : List Nat) : k ∈ ddl l ↔ k ∈ l := by
  unfold ddl; rw [mem_fold]; simp
theorem len_fold : ∀ (l acc : List (List Nat)), (l.foldl (fun acc k => if k ∈ acc then acc else acc ++ [k]) acc).length ≤ acc.length + l.length
  | [], acc => by simp
  | x :: l, acc => by
    rw [List.foldl_cons]
    have := len_fold l (if x ∈ acc then acc else acc ++ [x])
    split at this <;> simp only [List.length_append, List.length_cons, List.length_nil] at this ⊢ <;> split <;> simp_all <;> omega
theorem ddl_len (l : List (List Nat)) : (ddl l).length ≤ l.length := by
  have := len_fold l []
  simpa [ddl] using this
/-! ### set(list of texts) -/
section
variable {prog : Program} {w : World} {A : Around} {R : Result → Shared → Prop} {E : Value → Shared → Prop}
/-- a set that has just been made -/
abbrev set0 (led : Bool) : Obj := { cls := .type "set", dict := none, data := .set #[] 0 (.fresh 0 0 led) }
/-- the texts xs are its members -/
abbrev TxtSet (prog : Program) (w : World) (h : Heap) (a : Addr) (xs : List (List Nat)) : Prop := h.SetOf (PySem.strKind prog w) a (fun k => decide (k.cps.toList ∈ xs)) (ddl xs).length
theorem TxtSet.move {h h' : Heap} {a : Addr} {xs : List (List Nat)} (t : TxtSet prog w h a xs) (k : ∀ o, h.get? a = some o → h'.get? a = some o) : TxtSet prog w h' a xs :=
  let ⟨o, es, ep, tb, e, z⟩ := t; ⟨o, es, ep, tb, k o e, z⟩
/-- one text more -/
theorem add_txt {s : Shared} {a : Addr} {xs : List (List Nat)} {x : List Nat} {t : Tok} {Q : Shared → Prop} (hS : TxtSet prog w s.heap a xs) (hn : xs.length + 1 < scanBound) (q : ∀ h', Heap.SameBut a s.heap h' → TxtSet prog w h' a (xs ++ [x]) → Q { s with heap := h', toks := s.toks + 1 }) :
    wpAny (model prog w) A (setAdd a (.str (mkS x) t)) (fun _ s' => Q s') E s := by
  have room : (ddl xs).length + 1 < scanBound := by have := ddl_len xs; omega
  unfold setAdd
  apply wpAny_holding
  apply wpAny_bind
  apply (PySem.strKind prog w).pyHash (k := mkS x) (strKind_is _ _ _ _)
  apply wpAny_setAddHashed_of (knd := PySem.strKind prog w) (s := { s with toks := s.toks + 1 }) (strKind_is _ _ _ _) rfl hS room
  intro h' sb new
  refine q h' sb (PyProof.Rows.SetOf_congr new (fun k => ?_) ?_)
  · by_cases e : k = mkS x
    · subst e; simp [mkS_cps]
    · have ne : k.cps.toList ≠ x := fun z => e (by rw [← z, mkS_list])
      simp [e, ne]
  · rw [ddl_snoc]
    by_cases m : x ∈ xs
    · rw [if_pos ((mem_ddl xs x).mpr m)]; simp [mkS_cps, m]
    · rw [if_neg fun z => m ((mem_ddl xs x).mp z)]; simp [mkS_cps, m]
/-- one turn of the loop that fills a set -/
theorem fill_turn {s : Shared} {a I : Addr} (h : wpAny (model prog w) A.in1 (pyNext (.ref I)) (fun r s1 => match r with
      | none => R (.ok (.ret .none)) s1
      | some v => wpAny (model prog w) A.in1 (setAdd a v) (fun _ s2 => codeAny (model prog w) A (.builtin "set.update.loop" ⟨[.ref a, .ref I], []⟩) R s2) (fun e s' => R (.error e) s') s1) (fun e s' => R (.error e) s') s) :
    codeAny (model prog w) A (.builtin "set.update.loop" ⟨[.ref a, .ref I], []⟩) R s := by
  apply codeAny_builtin PyProof.Rows.F.entry_set_update_loop
  rw [Around.under_plainId PyProof.Rows.F.plain_set_update_loop]
  show wpAny _ A.in1 (pyNext (.ref I) >>= _) _ _ _
  refine wpAny_bind (wpAny_mono h (fun r s1 hr => ?_) fun _ _ z => z)
  match r, hr with
  | none, hr =>
    show wpAny _ _ (ret Value.none) _ _ _
    exact wpAny_pure hr
  | some v, hr =>
    show wpAny _ A.in1 (holding [v] (setAdd a v) >>= _) _ _ _
    exact wpAny_bind (wpAny_holding (wpAny_mono hr (fun _ s2 h2 => wpAny_pure ⟨plainId_quiet PyProof.Rows.F.plain_set_update_loop _, h2⟩) fun _ _ z => z))
variable {I : Addr} {fp wr : List Addr} {GG : Array GenState → Array GenState → Prop} {n : Nat} {P : Nat → Value → Prop} {St : Nat → Shared → Prop}
theorem fill_txts (W : WalksS prog w A.in1 I fp wr GG n P St) {a : Addr} (ha : a ∉ fp) {xs : List (List Nat)} (hx : xs.length = n) (hb : n + 1 < scanBound) (hP : ∀ i v, P i v → ∃ x t, xs[i]? = some x ∧ v = .str (mkS x) t) :
    ∀ (m i : Nat) (s : Shared), i + m = n → St i s → TxtSet prog w s.heap a (xs.take i) → (∀ s', Moved (a :: wr) GG s s' → TxtSet prog w s'.heap a xs → R (.ok (.ret .none)) s') →
      codeAny (model prog w) A (.builtin "set.update.loop" ⟨[.ref a, .ref I], []⟩) R s := by
  have aw : a ∉ wr := fun z => ha (W.sub _ z)
  have wa : ∀ b ∈ wr, b ∈ a :: wr := fun _ z => .tail _ z
  intro m
  induction m with
  | zero =>
    intro i s hi st ts q
    apply fill_turn
    have ei : xs.take i = xs := List.take_of_length_le (by omega)
    rw [ei] at ts
    have ein : i = n := by omega
    subst ein
    exact W.done s _ _ st fun s' mv => q s' (mv.mono wa) (ts.move fun o e => mv.heap a o aw e)
  | succ m ih =>
    intro i s hi st ts q
    apply fill_turn
    refine W.item i s _ _ (by omega) st fun v s1 pv st1 mv => ?_
    obtain ⟨x, t, ex, rfl⟩ := hP i v pv
    have more : xs.take (i + 1) = xs.take i ++ [x] := by rw [List.take_add_one, ex]; rfl
    refine add_txt (ts.move fun o e => mv.heap a o aw e) (by rw [List.length_take]; omega) fun h' sb ts' => ?_
    have off : ∀ b, b ≠ a → ∀ o, s1.heap.get? b = some o → h'.get? b = some o := fun b nb o e => by rw [sb.2 b nb]; exact e
    refine ih (i + 1) _ (by omega) (W.frame _ s1 _ _ st1 (Nat.le_succ _) fun b hb o e => off b (fun z => ha (z ▸ hb)) o e) (by rw [more]; exact ts') fun s2 mv2 ts2 => q s2 (Moved.trans W.gtrans ((mv.mono wa).then_heap (Nat.le_succ _) fun b o hb e => off b (fun z => hb (z ▸ .head _)) o e) mv2) ts2
/-- set(a list of texts): how many there are in it -/
theorem call_set_txts {s : Shared} {l : Addr} {items : Array Value} {xs : List (List Nat)} {Q : Value → Shared → Prop} (hh : A.handled = none) (hl : s.heap.IsList l items) (hi : Vals (xs.map fun x => V.str (mkS x)) items.toList) (hb : xs.length + 1 < scanBound)
    (q : ∀ (h' : Heap) (tk : Nat), TxtSet prog w h' s.heap.objs.size xs → (∀ b o, b < s.heap.objs.size → s.heap.get? b = some o → h'.get? b = some o) → Q (.ref s.heap.objs.size) { s with heap := h', toks := tk }) :
    wpAny (model prog w) A (call (.type "set") [.ref l]) Q E s := by
  have tc := PySem.F.called_set
  obtain ⟨c0, c1, mro⟩ := tc.mro
  have fmade := tc.made
  have fsub := tc.sub
  have fnt := tc.notType
  have fcc := tc.canCreate
  have fct := PySem.F.typeCall_set_1 (Value.ref l)
  apply wpAny_call
  apply codeAny_of_tree
  show wpAny _ _ (callAny (.type "set") ⟨[.ref l], []⟩) _ _ _
  refine wpAny_pure ⟨Code.quiet_builtin _ (by decide +kernel), ?_⟩
  apply codeAny_builtin PySem.F.entry_type_call
  rw [Around.under_plain (weight_type_call_type _ _ _) rfl]
  repeat any_goals first | assumption | wp_step
  -- the new set
  apply codeAny_mono (code_set_new_1 (E := E) (.ref l) (Q₁ := fun o s1 => ∃ led, o = .ref s.heap.objs.size ∧ s1 = { s with heap := s.heap.push (set0 led) }) fun led => ⟨led, rfl, rfl⟩)
  intro r s1 h1
  match r, h1 with
  | .error _, h1 => exact h1
  | .ok .next, h1 => exact h1.elim
  | .ok .brk, h1 => exact h1.elim
  | .ok .cont, h1 => exact h1.elim
  | .ok (.ret o), h1 =>
    obtain ⟨led, rfl, rfl⟩ := h1
    have at0 : (s.heap.push (set0 led)).get? s.heap.objs.size = some (set0 led) := Heap.get?_push_size _ rfl
    have ty0 : Shared.TypeIs { s with heap := s.heap.push (set0 led) } (.ref s.heap.objs.size) "set" := ⟨_, at0, rfl⟩
    have fl := tc.init.lookup
    have fb := tc.init.bind (Value.ref s.heap.objs.size)
    repeat any_goals first | assumption | wp_step
    -- it is filled
    apply codeAny_mono (codeAny_call_builtin (R := wants (fun u s2 => u = .none ∧ ∃ h' tk, s2 = { s with heap := h', toks := tk } ∧ TxtSet prog w h' s.heap.objs.size xs ∧ ∀ b o, b < s.heap.objs.size → s.heap.get? b = some o → h'.get? b = some o) E)
      tc.init.plain PySem.F.entry_set_init (check_set_init_1 ty0 ?fill))
    case fill =>
      obtain ⟨⟨k1, k2, k3, k4⟩, e1, e2, nl, e3⟩ := id hl
      simp only at e2 e3
      subst e2 e3
      have isl : (s.heap.push (set0 led)).IsList l items := hl.push _
      have at1 : (s.heap.push (set0 led)).get? l = some { cls := .type "list", dict := k2, data := .seq items nl, slots := k4 } := Heap.get?_push_of_some _ e1
      have l0 : l < s.heap.objs.size := Heap.lt_size e1
      have f1 := PySem.F.sub_list_set
      have f2 := PySem.F.sub_list_frozenset
      have f3 : (Value.type "list" == .type "dict") = false := by decide
      unfold Builtin.«set.__init__» noKeywords
      unfold Builtin.Frozenset.updateFrom
      generalize hPI : pyIter = PI
      wp_walk
      subst hPI
      apply wpAny_pyIter_list isl
      apply wpAny_bind
      apply wpAny_runValue
      have sz1 : (s.heap.push (set0 led)).objs.size = s.heap.objs.size + 1 := Heap.size_push ..
      have hx : xs.length = items.size := by
        have e := hi.length
        rw [List.length_map, Array.length_toList] at e
        exact e
      refine fill_txts (Walks.list (show A.in1.in1.in1.handled = none by simp [hh]) _ l (by rw [sz1]; exact Nat.ne_of_lt (Nat.lt_succ_of_lt l0)) items).toS (a := s.heap.objs.size) ?_ hx (by omega) (fun i v e => ?_) items.size 0 _ (by omega) ⟨⟨_, Heap.get?_push_size _ rfl, rfl, rfl⟩, isl.push _⟩ ?_ fun s' mv ts => ?_
      · simp only [List.mem_cons, List.not_mem_nil, or_false, not_or, sz1]
        exact ⟨Nat.ne_of_lt (Nat.lt_succ_self _), Nat.ne_of_gt l0⟩
      · have lt : i < xs.length := by rw [hx]; exact (Array.getElem?_eq_some_iff.mp e).1
        obtain ⟨u, e4, t, e5⟩ := hi.get (i := i) (x := .str (mkS xs[i])) (by rw [List.getElem?_map, List.getElem?_eq_getElem lt]; rfl)
        rw [Array.getElem?_toList, e] at e4
        cases e4
        exact ⟨xs[i], t, List.getElem?_eq_getElem lt, e5⟩
      · exact PyProof.Rows.SetOf_congr ((PyProof.Rows.setObjOf_fresh (knd := PySem.strKind prog w) led).setOf (Heap.get?_push_of_some _ at0) (by unfold scanBound; omega)) (fun k => by simp) rfl
      · obtain ⟨h', g', d', tk', o'⟩ := s'
        obtain rfl : g' = s.gens := mv.gens
        obtain rfl : d' = s.drawn := mv.drawn
        obtain rfl : o' = s.os := mv.os
        show wpAny _ _ _ _ _ _
        apply wpAny_pure
        show wpAny _ _ (ret Value.none) _ _ _
        refine wpAny_pure ⟨rfl, h', tk', rfl, ts, fun b o lb e => mv.heap b o ?_ (Heap.get?_push_of_some _ (Heap.get?_push_of_some _ e))⟩
        simp only [List.mem_cons, List.not_mem_nil, or_false, not_or, sz1]
        exact ⟨Nat.ne_of_lt lb, Nat.ne_of_lt (Nat.lt_succ_of_lt lb)⟩
    · intro r s2 h2
      match r, h2 with
      | .error _, h2 => exact h2
      | .ok .next, h2 => exact h2.elim
      | .ok .brk, h2 => exact h2.elim
      | .ok .cont, h2 => exact h2.elim
      | .ok (.ret u), h2 =>
        obtain ⟨rfl, h', tk, rfl, ts, kp⟩ := h2
        repeat any_goals first | assumption | wp_step
        exact q _ _ ts kp
end
section
variable {G : Glob} {S : Sx} {W : WX} {X : Cx}
/-- len(set(xs)) -/
theorem pe_lenTxts {a : Expr} {ta : TE} {p p2 q pos : Pos} (hc : X.calm = true) (hg : Gl X "len") (hm : X.mg "len" = none) (hg2 : Gl X "set") (hm2 : X.mg "set" = none) (ha : PE X a ta) (na : starEach [a] X.env = (false, eval a X.env) :: starEach [] X.env) :
    PE X (.Call (.Name "len" p) [.Call (.Name "set" p2) [a] [] q] [] pos) (fun σ H Q => ta σ H fun x H1 => ∃ (l : Addr) (xs : List (List Nat)), x = .ref l ∧ SqL X.K H1 l (xs.map fun x => V.str (mkS x)) ∧ xs.length ≤ 4000 ∧ Q (.int (ddl xs).length) H1) := by
  refine ⟨fun pins s σ H Q I h => Call_ (ld_blt I hg hm boot_len (PyProof.Rows.callWith_builtin1 (PyProof.Rows.args_cons (Call_ (ld_blt I hg2 hm2 boot_set (PyProof.Rows.callWith_type1 (PyProof.Rows.args_cons (thn (ha.run pins s σ H _ I h) fun v s1 ⟨x, H1, I1, r1, z⟩ => PyProof.Rows.args_nil ?_) na) na rfl))) rfl) rfl rfl))⟩
  obtain ⟨l, xs, rfl, sq, few, fin⟩ := z
  cases r1
  obtain ⟨its, rv, pl, _⟩ := I1.list sq
  refine call_set_txts (I1.ok.hd hc) pl.isList (by simpa using rv) (by unfold scanBound; omega) fun h' tk ts kp => PyProof.Rows.args_nil ?_
  obtain ⟨ob, es, ep, tb, g1, g2, g3, _, _, _, g4, g5⟩ := ts
  have J : Inv X pins σ H1 { s1 with heap := h', toks := tk } := I1.kept fun b o e => kp b o (Heap.lt_size e) e
  have most := ddl_len xs
  have z4 : (4000 : Nat) ≤ sizeLine := by rw [sizeLine_eq]; omega
  exact call_len_set g1 g2 g3 g4 (by rw [g5]; omega) ⟨.int (ddl xs).length, H1, J.tok _, ⟨_, by rw [g5]⟩, fin⟩
theorem s_lset (c : Cg G S W X) {a : E} {x n : Str} {y : Expr} {p p2 q pos : Pos} (hx : bltOk S "len" x = true) (hn : bltOk S "set" n = true) (ha : PE X y (tE G W X a)) (ns : notStar y = true) : PE X (.Call (.Name x p) [.Call (.Name n p2) [y] [] q] [] pos) (tE G W X (.lset a)) := by
  obtain ⟨rfl, gl, mg⟩ := c.blt' (n := "len") hx (by decide)
  obtain ⟨rfl, gl2, mg2⟩ := c.blt' (n := "set") hn (by decide)
  refine pe_imp (pe_lenTxts c.calm gl mg gl2 mg2 ha (star1 ns)) fun σ H Q ⟨ρ, Ws, e, q⟩ => ⟨ρ, Ws, e, (show Aft X.K G.XR W (wrE a) σ Ws H ((evE G.Γ a ρ).bd _) _ from q).bd.mono fun d ρ1 q v H1 Ws1 W1 e1 r1 g1 k1 => ?_⟩
  obtain ⟨z, hz, q2⟩ := q.lift
  clear q
  cases d <;> first | (simp [lsetF] at hz; done) | skip
  simp only [lsetF] at hz
  obtain ⟨ss, h2, hz⟩ := Option.bind_eq_some_iff.mp hz
  split at hz <;> simp only [reduceCtorEq, Option.some.injEq] at hz
  subst hz
  rename_i hl
  have := strs_map h2
  subst this
  obtain ⟨p, vs, W', ev, ea, rs, eW⟩ := r1
  obtain ⟨evs, ok⟩ := rs.strs
  subst evs
  refine ⟨p, ss, ev, SqL.of (by rw [ea, List.map_map]; rfl), hl, q2 _ H1 Ws1 [] e1 ⟨rfl, rfl⟩ g1 Kd.nil⟩
/-! the place of a sign -/
open PySem.StrLaws Builtin.Str in
theorem occ_full (s sub : Str) (hi : Nat) : ∀ (l : List Nat) (st : Array Nat × Nat), st.fst.size = 1 → (forIn l st (occBody s sub hi 1)).run.fst = st.fst
  | [], st, h => rfl
  | a :: l, st, h => by
    rw [List.forIn_cons]
    unfold occBody
    rw [if_neg fun z => by have := z.1.1.1; omega]
    exact occ_full s sub hi l _ h
open PySem.StrLaws Builtin.Str in
theorem occ_first (s : Str) (c : Nat) : ∀ (m j k : Nat), (forIn (List.range' j m) ((#[] : Array Nat), 0) (occBody s ⟨#[c]⟩ s.length 1)).run.fst = #[k] ∨ ¬ (cIdx c (s.cps.toList.drop j) = some (k - j) ∧ j ≤ k ∧ j + m = s.length + 1)
  | 0, j, k => .inr fun ⟨h, _, z⟩ => by
    have hl : s.cps.toList.length = s.length := by simp [Str.length]
    rw [List.drop_of_length_le (by omega)] at h; cases h
  | m + 1, j, k => by
    by_cases hyp : cIdx c (s.cps.toList.drop j) = some (k - j) ∧ j ≤ k ∧ j + (m + 1) = s.length + 1
    · refine .inl ?_
      obtain ⟨h1, h2, h3⟩ := hyp
      have hl : s.cps.toList.length = s.length := by simp [Str.length]
      rw [List.range'_succ, List.forIn_cons]
      unfold occBody
      have cond : (j + (⟨#[c]⟩ : Str).length ≤ s.length ∧ subAt s ⟨#[c]⟩ j = true) ↔ s.cps.toList[j]? = some c := subAt_one s c j
      by_cases hj : j < s.length
      · rw [List.drop_eq_getElem_cons (by omega)] at h1
        simp only [cIdx] at h1
        split at h1
        · rename_i e
          have hk : k = j := by have := Option.some.inj h1; omega
          have cc := cond.mpr (by rw [List.getElem?_eq_getElem (by omega)]; exact congrArg some e)
          rw [if_pos ⟨⟨⟨by simp, Nat.zero_le _⟩, cc.1⟩, cc.2⟩]
          show (forIn (List.range' (j + 1) m) _ (occBody s ⟨#[c]⟩ s.length 1)).run.fst = #[k]
          rw [occ_full _ _ _ _ _ (by simp), hk]
          rfl
        · rename_i e
          obtain ⟨i, hi, hik⟩ := Option.map_eq_some_iff.mp h1
          have cc : ¬ (j + (⟨#[c]⟩ : Str).length ≤ s.length ∧ subAt s ⟨#[c]⟩ j = true) := fun z => by
            have := cond.mp z
            rw [List.getElem?_eq_getElem (by omega)] at this
            exact e (Option.some.inj this)
          rw [if_neg fun z => cc ⟨z.1.2, z.2⟩]
          show (forIn (List.range' (j + 1) m) ((#[] : Array Nat), 0) (occBody s ⟨#[c]⟩ s.length 1)).run.fst = #[k]
          rcases occ_first s c m (j + 1) k with z | z
          · exact z
          · exact absurd ⟨by rw [hi]; congr 1; omega, by omega, by omega⟩ z
      · rw [List.drop_of_length_le (by omega)] at h1; cases h1
    · exact .inr hyp
open PySem.StrLaws Builtin.Str in
theorem occ_idx {s : Str} {c k : Nat} (h : cIdx c s.cps.toList = some k) : occurrences s (mkS [c]) 0 s.length 1 = [k] := by
  rw [occ_eq]
  rcases occ_first s c (s.length + 1 - 0) 0 k with z | z
  · show (forIn (List.range' 0 (s.length + 1 - 0)) (#[], 0) (occBody s ⟨#[c]⟩ s.length 1)).run.fst.toList = [k]
    rw [z]
  · exact absurd ⟨by simpa using h, Nat.zero_le _, by omega⟩ z
theorem mt_sidxD : MtR X "str.index" (rM1 X.K sidxF) := by
  intro pins s σ H x xs v us Q I rx rs h
  obtain ⟨dx, dy, z, vy, W0, W1, rfl, hz, r1, r2, n⟩ := h
  cases dx <;> first | (simp [sidxF] at hz; done) | skip
  cases dy <;> first | (simp [sidxF] at hz; done) | skip
  rename_i t u
  match u, hz with
  | [c], hz =>
    simp only [sidxF] at hz
    obtain ⟨k, hk, rfl⟩ := Option.map_eq_some_iff.mp hz
    obtain ⟨rfl, _, _⟩ := r1
    obtain ⟨rfl, _, _⟩ := r2
    exact mt_sindex pins s σ H _ _ v us Q I rx rs ⟨mkS t, mkS [c], k, [], rfl, rfl, occ_idx (by rw [mkS_cps]; exact hk), n.int⟩
  | [], hz => simp [sidxF] at hz
  | _ :: _ :: _, hz => simp [sidxF] at hz
theorem s_sidx {a b : E} {x y : Expr} {apos cpos : Pos} (ha : PE X x (tE G W X a)) (hb : PE X y (tE G W X b)) (ns : notStar y = true) (at0 : attrOk x = true) (hl : (apos.endLine == cpos.line) = true) :
    PE X (.Call (.Attribute x "index" apos) [y] [] cpos) (tE G W X (.sidx a b)) := by
  refine pe_imp (pe_bm PySem.F.plainAttrs_str PySem.F.slot_str_index PySem.F.type_str_index mt_sidxD ha (pa_cons hb pa_nil (star1 ns)) (attr0 at0) (few1 ns) hl (star1 ns)) fun σ H Q ⟨ρ, Ws, e, q⟩ => ?_
  refine ⟨ρ, Ws, e, (q.bd.less mem_l).mono fun d ρ1 q v H1 Ws1 W1 e1 r1 g1 k1 => ?_⟩
  obtain ⟨hs, q⟩ := q.ite
  obtain ⟨l, rfl⟩ := str_is hs
  refine ⟨by rw [r1.1]; rfl, ρ1, Ws1, e1, (q.bd.from g1 mem_l mem_r).mono fun d2 ρ2 q v2 H2 Ws2 W2 e2 r2 g2 k2 => ?_⟩
  obtain ⟨z, hz, q⟩ := q.lift
  exact ⟨.str l, d2, z, v2, W1, W2, rfl, hz, r1, r2, nw_fin e2 (g1.tr2 g2 mem_l mem_r) q⟩
theorem pe_lit {e : E} {y : Expr} (h : chkL e y = true) : ∃ (d : D) (v : V), litD e = some d ∧ (∀ K H, Rp K H d v []) ∧ ∀ X : Cx, PE X y (tC v) := by
  cases e with
  | int i =>
    cases y with
    | Constant k kk pos =>
      cases k with
      | int j =>
        have : i = j := by simpa [chkL] using h
        subst this
        exact ⟨_, .int i, rfl, fun _ _ => ⟨rfl, rfl⟩, fun _ => pe_int⟩
      | _ => simp [chkL] at h
    | _ => simp [chkL] at h
  | str l =>
    cases y with
    | Constant k kk pos =>
      cases k with
      | str x =>
        simp only [chkL, Bool.and_eq_true, decide_eq_true_eq] at h
        obtain ⟨rfl, h2⟩ := h
        exact ⟨_, .str (mkS l), rfl, fun _ _ => ⟨rfl, rfl, fun c hc => by simpa using List.all_eq_true.mp h2 c hc⟩, fun _ => pe_str⟩
      | _ => simp [chkL] at h
    | _ => simp [chkL] at h
  | bl b =>
    cases y with
    | Constant k kk pos =>
      cases k with
      | bool j =>
        have : b = j := by simpa [chkL] using h
        subst this
        exact ⟨_, .bl b, rfl, fun _ _ => ⟨rfl, rfl⟩, fun _ => pe_bl⟩
      | _ => simp [chkL] at h
    | _ => simp [chkL] at h
  | non =>
    cases y with
    | Constant k kk pos =>
      cases k with
      | none => exact ⟨_, .non, rfl, fun _ _ => ⟨rfl, rfl⟩, fun _ => pe_non⟩
      | _ => simp [chkL] at h
    | _ => simp [chkL] at h
  | _ => simp [chkL] at h
/-! {x: c for x in xs} -/
theorem dcF_snoc (v : D) (xs : List D) (k : D) : dcF v (xs ++ [k]) = dput (dcF v xs).1 (dcF v xs).2 k v := by
  unfold dcF; rw [List.foldl_append]; rfl
theorem keys_pu : ∀ {xs : List D}, xs.all isKey = true → puL xs = true
  | [], _ => rfl
  | x :: xs, h => by
    simp only [List.all_cons, Bool.and_eq_true] at h
    simp only [puL, Bool.and_eq_true]
    exact ⟨by cases x <;> first | rfl | (simp [isKey] at h; done), keys_pu h.2⟩
def gSet (i : Nat) : TG := fun v σ H N => N (σ.set i (some v)) H
theorem dcl_sem {i : Nat} {a lv : E} {d : D} {v : V} (hd : litD lv = some d) (hv : ∀ K H, Rp K H d v []) {σ : Sg} {H : Hp} {Q : VK} (h : tE G W X (.dcl i a lv) σ H Q) : tDc (tSrc G W X (.e a)) (gSet i) tYes (tVar i) (tC v) [i] σ H Q := by
  obtain ⟨ρ, Ws, e0, q⟩ := h
  refine ⟨ρ, Ws, e0, (show Aft X.K G.XR W (wrE a) σ Ws H (((evE G.Γ a ρ).bd fun x ρ => lift (items x) ρ).bd _) _ from q).bd.mono fun xs ρ1 q J H1 Ws1 B M St e1 g1 wk st kd => ?_⟩
  obtain ⟨⟨hk, hcap, hi⟩, q⟩ := q.ite
  obtain ⟨z, hz, q⟩ := q.lift
  rw [hd] at hz
  cases hz
  have hM : M = [] := wk.pur st (keys_pu hk)
  subst hM
  intro Dl hD
  have nB : ∀ b ∈ B, b ≠ Dl := fun b hb z => by
    have := wk.mt st b (List.mem_append_left _ hb)
    rw [z, hD] at this; exact notMut_none this
  have hcs : cap < sizeLine := by rw [sizeLine_eq]; decide
  have hlen : σ.length = ρ1.length := e1.len
  refine ⟨fun n m Hi => m = xs.length - n ∧ n ≤ xs.length ∧ St n Hi [] ∧ Same H1 Hi ∧ ∃ kvs, Hi Dl = some (.dK kvs) ∧ (kvs.map (·.1)).Nodup ∧ (dcF d (xs.take n)).1 = kvs.map (fun p => keyD p.1) ∧ (∀ p ∈ kvs, okKey p.1) ∧ Rps X.K Hi (dcF d (xs.take n)).2 (kvs.map (·.2)) [] ∧ kvs.length ≤ n,
    ⟨_, rfl, Nat.zero_le _, wk.keep st (Keep.same (same_upd hD)) (fun _ _ z => z), same_upd hD, [], upd_same, List.nodup_nil, rfl, (fun _ z => nomatch z), Rps.nil, Nat.le_refl _⟩, ?_⟩
  rintro n m Hi ⟨rfl, hn, stn, sm, kvs, eD, nd, ek, ok, rs, hl⟩
  by_cases lt : n < xs.length
  · obtain ⟨hgo, hy⟩ := wk.go stn (List.getElem?_eq_getElem lt)
    refine .inr ⟨hgo, fun Hj => n + 1 ≤ xs.length ∧ St (n + 1) Hj [] ∧ Same H1 Hj ∧ ∃ kvs, Hj Dl = some (.dK kvs) ∧ (kvs.map (·.1)).Nodup ∧ (dcF d (xs.take (n + 1))).1 = kvs.map (fun p => keyD p.1) ∧ (∀ p ∈ kvs, okKey p.1) ∧ Rps X.K Hj (dcF d (xs.take (n + 1))).2 (kvs.map (·.2)) [] ∧ kvs.length ≤ n + 1,
      fun H' p => ⟨xs.length - (n + 1), by omega, rfl, p⟩, fun x H' y => ?_⟩
    obtain ⟨s2, Wx, M', eM, r, st2⟩ := hy x H' y
    have eW : Wx = [] ∧ M' = [] := by simpa using eM.symm
    obtain ⟨rfl, rfl⟩ := eW
    have hkx : isKey xs[n] = true := List.all_eq_true.mp hk _ (List.getElem_mem lt)
    obtain ⟨kq, ekq, exq, okq, _⟩ := key_of_d r hkx
    subst exq
    show wipe ((wipe σ [i]).set i (some (kV kq))) [i] = wipe σ [i] ∧ _
    refine ⟨?_, ?_⟩
    · refine wipe_of (by rw [List.length_set, wipe_length]) fun j hj => ?_
      exact gV_set_ne fun z => hj (by rw [z]; exact List.mem_singleton.mpr rfl)
    refine ⟨kV kq, by rw [List.getElem?_set]; simp [wipe_length, hlen, hi], ?_⟩
    have eD' := s2 _ _ eD
    have et : xs.take (n + 1) = xs.take n ++ [keyD kq] := by rw [List.take_add_one, List.getElem?_eq_getElem lt, ekq]; rfl
    have km : Keep (fun b => b = Dl) H' (upd H' Dl (.dK (putK kvs kq v))) := keep_upd (.inr (.inl ⟨_, eD'⟩))
    refine ⟨kvs, kq, rfl, eD', by omega, lt, wk.keep st2 km (fun b hb z => nB b (by simpa using hb) z), fun b o hb => ?_, putK kvs kq v, upd_same, putK_nd nd kq v, ?_⟩
    · have ne : b ≠ Dl := fun z => by rw [z, hD] at hb; cases hb
      rw [upd_ne ne]; exact s2 _ _ (sm _ _ hb)
    · obtain ⟨p1, p2, U, u1, u2, u3⟩ := putK_d (H := upd H' Dl (.dK (putK kvs kq v))) (v := v) nd ek d ok okq ((rs.same s2).keep km _ fun _ z => nomatch z) List.nodup_nil (hv _ _) List.nodup_nil (fun b hb => nomatch hb)
      have hU : U = [] := by
        cases U with
        | nil => rfl
        | cons b U => exact ((u3 b List.mem_cons_self).elim (fun z => nomatch z) fun z => nomatch z)
      subst hU
      rw [et, dcF_snoc]
      exact ⟨p1, p2, u1, by have := length_putK kvs kq v; omega⟩
  · have en : n = xs.length := by omega
    subst en
    rw [List.take_length] at ek rs
    refine .inl ⟨wk.stop stn, q (.ref Dl) Hi Ws1 [Dl] (e1.same sm) ⟨Dl, _, [], rfl, ⟨kvs, eD, ek, rfl, ok⟩, rs, rfl⟩ (g1.tr (Go.same sm)) ⟨by simp, fun a ha => ?_⟩⟩
    rw [List.mem_singleton.mp ha]
    refine ⟨fun j z => ?_, g1.origin hD⟩
    have := e1.mut z
    rw [hD] at this; exact notMut_none this
theorem s_dcl (c : Cg G S W X) {i : Nat} {a lv : E} {x y : Str} {p1 p2 : Pos} {iter vx : Expr} {scope : Scope} {pos : Pos} {d : D} {v : V} (hd : litD lv = some d) (hv : ∀ K H, Rp K H d v []) (he : ∀ X : Cx, PE X vx (tC v)) (hb : blkC S.N S.sc scope (ownS S [i]) = true)
    (ht : chkT (S.blk scope) (.v i) (.Name y p2) = true) (hx : nmOk (S.blk scope) i x = true) (hi : PI X (.Name y p2) iter (tSrc G W X (.e a))) (hs : isSet iter = false) : PE X (.DictComp (.Name x p1) vx [⟨.Name y p2, iter, [], 0⟩] scope pos) (tE G W X (.dcl i a lv)) := by
  have bo := blkOk_by hb
  refine pe_imp (pe_dc (g := gSet i) (tt := tYes) (tk := tVar i) (tv := tC v) c.calm c.nd' hi (by rw [c.N, c.sc]; exact bo) (fun s H C cl fp => ?_) (fun s H C cl fp => pts_nil) (fun s H C cl fp => (c.blk bo.kind).var hx) (fun s H C cl fp => he _) fun x => folded0 hs x) fun σ H Q q => ?_
  · have cb := c.blk (s := s) (H := H) (scope := scope) (C := C) (cl := cl) (fp := fp) bo.kind
    obtain ⟨h1, h2, h3⟩ := st_of cb (show stOk (S.blk scope) i y = true by simpa [chkT] using ht)
    exact pg_name cb.nd' h1 h2 h3
  · rw [ownS_ix]
    exact dcl_sem hd hv q
end
end G

/-! G4n: every expression's code is sound -/
namespace G
open PySem PySem.Spec PyProof.Rows L2
variable {G : Glob}
theorem mkS_of {x : Str} {l : List Nat} (h : x = mkS l) (ok : l.all (fun c => decide (c < 1114112)) = true) {K : PySem.W.Frag} {H : Hp} : Rp K H (.str l) (.str x) [] :=
  ⟨by rw [h], rfl, fun c hc => by simpa using List.all_eq_true.mp ok c hc⟩
mutual
theorem sE : ∀ (c : E) {S : Sx} {W : WX} {X : Cx} (e : Expr), Cg G S W X → chkE G.fn S c e = true → SndE G W X c e
  | .var i, S, W, X, e, cg, h => by
    cases e with
    | Name x pos => exact SndE.plain (s_var (cg.var (by simpa [chkE] using h))) (fun _ => rfl) (fun _ _ _ q => nomatch q)
    | _ => simp [chkE] at h
  | .mv i, S, W, X, e, cg, h => by
    cases e with
    | Name x pos => exact SndE.plain (s_mv (cg.var (by simpa [chkE] using h))) (fun _ => rfl) (fun _ _ _ q => nomatch q)
    | _ => simp [chkE] at h
  | .int i, S, W, X, e, cg, h => by
    cases e with
    | Constant k kk pos =>
      cases k with
      | int j =>
        have : i = j := by simpa [chkE] using h
        subst this
        exact SndE.plain (s_const pe_int (fun _ => rfl) fun H => ⟨rfl, rfl⟩) (fun _ => rfl) (fun _ _ _ q => nomatch q)
      | _ => simp [chkE] at h
    | Name x pos =>
      simp only [chkE, Bool.and_eq_true, decide_eq_true_eq] at h
      obtain ⟨t, ht⟩ := cg.tb.mc x i h.2
      exact SndE.plain (s_const (pe_glob (v := .int i) (cg.gl h.1.1) ht ⟨t, rfl⟩ (dbg_of h.1.2).1) (fun _ => rfl) fun H => ⟨rfl, rfl⟩) (fun _ => rfl) (fun _ _ _ q => nomatch q)
    | _ => simp [chkE] at h
  | .str l, S, W, X, e, cg, h => by
    cases e with
    | Constant k kk pos =>
      cases k with
      | str x =>
        simp only [chkE, Bool.and_eq_true, decide_eq_true_eq] at h
        exact SndE.plain (s_const pe_str (fun _ => rfl) fun H => mkS_of h.1 h.2) (fun _ => rfl) (fun _ _ _ q => nomatch q)
      | _ => simp [chkE] at h
    | _ => simp [chkE] at h
  | .bl b, S, W, X, e, cg, h => by
    cases e with
    | Constant k kk pos =>
      cases k with
      | bool j =>
        have : b = j := by simpa [chkE] using h
        subst this
        exact SndE.plain (s_const pe_bl (fun _ => rfl) fun H => ⟨rfl, rfl⟩) (fun _ => rfl) (fun _ _ _ q => nomatch q)
      | _ => simp [chkE] at h
    | _ => simp [chkE] at h
  | .non, S, W, X, e, cg, h => by
    cases e with
    | Constant k kk pos =>
      cases k with
      | none => exact SndE.plain (s_const pe_non (fun _ => rfl) fun H => ⟨rfl, rfl⟩) (fun _ => rfl) (fun _ _ _ q => nomatch q)
      | _ => simp [chkE] at h
    | _ => simp [chkE] at h
  | .neg a, S, W, X, e, cg, h => by
    cases e with
    | UnaryOp o x pos =>
      cases o with
      | USub => exact SndE.plain (s_neg (sE a x cg (by simpa [chkE] using h)).pe) (fun _ => rfl) (fun _ _ _ q => nomatch q)
      | _ => simp [chkE] at h
    | _ => simp [chkE] at h
  | .bin o a b, S, W, X, e, cg, h => by
    cases e with
    | BinOp x p y pos =>
      simp only [chkE, Bool.and_eq_true] at h
      rw [opB_eq h.1.1]
      exact SndE.plain (s_bin (sE a x cg h.1.2).pe (sE b y cg h.2).pe) (fun _ => rfl) (fun _ _ _ q => nomatch q)
    | _ => simp [chkE] at h
  | .cmp o a b, S, W, X, e, cg, h => by
    cases e with
    | Compare x ps ys pos =>
      match ps, ys, h with
      | [p], [y], h =>
        simp only [chkE, Bool.and_eq_true, Bool.not_eq_true'] at h
        have hb := h.2
        rw [copB_eq h.1.1.1] at hb ⊢
        exact s_cmp cg (sE a x cg h.1.1.2).pe (sE b y cg h.1.2).pe hb
      | [], ys, h => simp [chkE] at h
      | _ :: _ :: _, ys, h => simp [chkE] at h
      | [_], [], h => simp [chkE] at h
      | [_], _ :: _ :: _, h => simp [chkE] at h
    | _ => simp [chkE] at h
  | .and a b, S, W, X, e, cg, h => by
    cases e with
    | BoolOp o vs pos =>
      cases o with
      | Or => simp [chkE] at h
      | And =>
        match vs, h with
        | [], h => simp [chkE] at h
        | [_], h => simp [chkE] at h
        | [x, y], h =>
          simp only [chkE, Bool.and_eq_true] at h
          have ha := sE a x cg h.1.1.1
          have hb := sE b y cg h.1.1.2
          have pw := w_and (pos := pos) (ha.pt h.1.2) (pw_and1 (hb.pt h.2))
          exact ⟨s_and ha.pe (pe_one hb.pe), fun _ => pw.pt, fun op vs pos' q => by cases q; exact pw⟩
        | x :: y :: z :: r, h =>
          simp only [chkE, Bool.and_eq_true] at h
          have ha := sE a x cg h.1.1
          have hb := sE b (.BoolOp .And (y :: z :: r) pos) cg h.2
          have pw := w_and (pos := pos) (ha.pt h.1.2) (hb.pw _ _ _ rfl)
          exact ⟨s_and ha.pe hb.pe, fun _ => pw.pt, fun op vs pos' q => by cases q; exact pw⟩
    | _ => simp [chkE] at h
  | .or a b, S, W, X, e, cg, h => by
    cases e with
    | BoolOp o vs pos =>
      cases o with
      | And => simp [chkE] at h
      | Or =>
        match vs, h with
        | [], h => simp [chkE] at h
        | [_], h => simp [chkE] at h
        | [x, y], h =>
          simp only [chkE, Bool.and_eq_true] at h
          have ha := sE a x cg h.1.1.1
          have hb := sE b y cg h.1.1.2
          have pw := w_or (pos := pos) (ha.pt h.1.2) (pw_or1 (hb.pt h.2))
          exact ⟨s_or ha.pe (pe_one hb.pe), fun _ => pw.pt, fun op vs pos' q => by cases q; exact pw⟩
        | x :: y :: z :: r, h =>
          simp only [chkE, Bool.and_eq_true] at h
          have ha := sE a x cg h.1.1
          have hb := sE b (.BoolOp .Or (y :: z :: r) pos) cg h.2
          have pw := w_or (pos := pos) (ha.pt h.1.2) (hb.pw _ _ _ rfl)
          exact ⟨s_or ha.pe hb.pe, fun _ => pw.pt, fun op vs pos' q => by cases q; exact pw⟩
    | _ => simp [chkE] at h
  | .not a, S, W, X, e, cg, h => by
    cases e with
    | UnaryOp o x pos =>
      cases o with
      | Not =>
        simp only [chkE, Bool.and_eq_true] at h
        have ha := sE a x cg h.1
        exact s_not ha.pe (ha.pt h.2)
      | _ => simp [chkE] at h
    | _ => simp [chkE] at h
  | .ite c a b, S, W, X, e, cg, h => by
    cases e with
    | IfExp x y z pos =>
      simp only [chkE, Bool.and_eq_true] at h
      have hp := s_ite (pos := pos) ((sE c x cg h.1.1.1).pt h.1.1.2) (sE a y cg h.1.2).pe (sE b z cg h.2).pe
      exact ⟨hp, fun q => by simp [testOk] at q, fun _ _ _ q => nomatch q⟩
    | _ => simp [chkE] at h
  | .tup es, S, W, X, e, cg, h => by
    cases e with
    | Tuple l k pos =>
      simp only [chkE, Bool.and_eq_true, decide_eq_true_eq] at h
      obtain ⟨hp, hl⟩ := sEs es l cg h.1
      exact SndE.plain (s_tup hp (by rw [hl]; exact h.2)) (fun _ => rfl) (fun _ _ _ q => nomatch q)
    | _ => simp [chkE] at h
  | .lst es, S, W, X, e, cg, h => by
    cases e with
    | List l pos =>
      simp only [chkE, Bool.and_eq_true, decide_eq_true_eq] at h
      obtain ⟨hp, hl⟩ := sEs es l cg h.1
      exact SndE.plain (s_lst hp (by rw [hl]; exact h.2)) (fun _ => rfl) (fun _ _ _ q => nomatch q)
    | _ => simp [chkE] at h
  | .dis kvs, S, W, X, e, cg, h => by
    cases e with
    | Dict ks vs pos =>
      simp only [chkE, Bool.and_eq_true, decide_eq_true_eq] at h
      obtain ⟨a1, a2, a3, a4⟩ := ks_of kvs ks vs h.1
      exact SndE.plain (s_dis (sKs kvs ks vs cg h.1 pos) a1 a2 a3 h.2 a4) (fun _ => rfl) (fun _ _ _ q => nomatch q)
    | _ => simp [chkE] at h
  | .ix a i, S, W, X, e, cg, h => by
    cases e with
    | Subscript x y pos =>
      simp only [chkE, Bool.and_eq_true] at h
      exact SndE.plain (s_ix cg (sE a x cg h.1.1).pe (sE i y cg h.1.2).pe h.2) (fun _ => rfl) (fun _ _ _ q => nomatch q)
    | _ => simp [chkE] at h
  | .sl a lo hi, S, W, X, e, cg, h => by
    cases e with
    | Subscript x y pos =>
      cases y with
      | Slice l u st p2 =>
        cases st with
        | none =>
          simp only [chkE, Bool.and_eq_true] at h
          exact SndE.plain (s_sl (sE a x cg h.1.1).pe (sEo lo l cg h.1.2) (sEo hi u cg h.2)) (fun _ => rfl) (fun _ _ _ q => nomatch q)
        | some _ => simp [chkE] at h
      | _ => simp [chkE] at h
    | _ => simp [chkE] at h
  | .rev a, S, W, X, e, cg, h => by
    cases e with
    | Subscript x y pos =>
      cases y with
      | Slice l u st p3 =>
        match l, u, st, h with
        | none, none, some z, h =>
          simp only [chkE, Bool.and_eq_true, decide_eq_true_eq] at h
          obtain ⟨kk, p1, p2, rfl⟩ := negLit_of h.2
          exact SndE.plain (s_rev (sE a x cg h.1).pe) (fun _ => rfl) (fun _ _ _ q => nomatch q)
        | some _, _, _, h => simp [chkE] at h
        | none, some _, _, h => simp [chkE] at h
        | none, none, none, h => simp [chkE] at h
      | _ => simp [chkE] at h
    | _ => simp [chkE] at h
  | .call f as, S, W, X, e, cg, h => by
    cases e with
    | Call fn args kws pos =>
      cases fn with
      | Name x p =>
        cases kws with
        | cons _ _ => simp [chkE] at h
        | nil =>
          simp only [chkE, Bool.and_eq_true, decide_eq_true_eq] at h
          obtain ⟨n1, n2⟩ := asLen_of as args h.1.2
          cases args with
          | nil => simp at h
          | cons y ys => exact SndE.plain (s_call cg h.1.1.1.1 h.1.1.1.2 h.1.1.2 (sAs as (y :: ys) cg h.1.2) n1 n2) (fun _ => rfl) (fun _ _ _ q => nomatch q)
      | _ => simp [chkE] at h
    | _ => simp [chkE] at h
  | .bi b a, S, W, X, e, cg, h => by
    cases e with
    | Call fn args kws pos =>
      cases fn with
      | Name x p =>
        match args, kws, h with
        | [y], [], h =>
          simp only [chkE, Bool.and_eq_true] at h
          exact SndE.plain (s_bi cg h.1.1.1 h.1.1.2 (sE a y cg h.1.2).pe h.2) (fun _ => rfl) (fun _ _ _ q => nomatch q)
        | [], _, h => simp [chkE] at h
        | _ :: _ :: _, _, h => simp [chkE] at h
        | [_], _ :: _, h => simp [chkE] at h
      | _ => simp [chkE] at h
    | _ => simp [chkE] at h
  | .bi2 b a a', S, W, X, e, cg, h => by
    cases e with
    | Call fn args kws pos =>
      cases fn with
      | Name x p =>
        match args, kws, h with
        | [y, z], [], h =>
          simp only [chkE, Bool.and_eq_true] at h
          exact SndE.plain (s_bi2 cg h.1.1.1.1.1 h.1.1.1.1.2 (sE a y cg h.1.1.1.2).pe h.1.1.2 (sE a' z cg h.1.2).pe h.2) (fun _ => rfl) (fun _ _ _ q => nomatch q)
        | [], _, h => simp [chkE] at h
        | [_], _, h => simp [chkE] at h
        | _ :: _ :: _ :: _, _, h => simp [chkE] at h
        | [_, _], _ :: _, h => simp [chkE] at h
      | _ => simp [chkE] at h
    | _ => simp [chkE] at h
  | .lset a, S, W, X, e, cg, h => by
    unfold chkE at h
    split at h <;> first | (cases h; done) | contradiction | skip
    all_goals first
      | (rename_i h0; cases h0
         simp only [Bool.and_eq_true] at h
         exact SndE.plain (s_lset cg h.1.1.1 h.1.1.2 (sE a _ cg h.1.2).pe h.2) (fun _ => rfl) (fun _ _ _ q => nomatch q))
  | .dcl i a v, S, W, X, e, cg, h => by
    unfold chkE at h
    split at h <;> first | (cases h; done) | contradiction | skip
    all_goals first
      | (rename_i h0; cases h0
         simp only [Bool.and_eq_true, Bool.not_eq_true', decide_eq_true_eq] at h
         obtain ⟨⟨⟨⟨⟨⟨h0, h1⟩, h2⟩, h3⟩, h4⟩, h5⟩, h6⟩ := h
         subst h0
         obtain ⟨d, v', hd, hv, he⟩ := pe_lit h5
         exact SndE.plain (s_dcl cg hd hv he h1 h2 h3 (src_e (sE a _ cg h4).pe) h6) (fun _ => rfl) (fun _ _ _ q => nomatch q))
  | .sidx a b, S, W, X, e, cg, h => by
    unfold chkE at h
    split at h <;> first | (cases h; done) | contradiction | skip
    all_goals first
      | (rename_i h0; cases h0
         simp only [Bool.and_eq_true, decide_eq_true_eq] at h
         obtain ⟨⟨⟨⟨⟨h1, h2⟩, h3⟩, h4⟩, h5⟩, h6⟩ := h
         subst h1
         exact SndE.plain (s_sidx (sE a _ cg h2).pe (sE b _ cg h3).pe h4 h5 h6) (fun _ => rfl) (fun _ _ _ q => nomatch q))
  | .join a b, S, W, X, e, cg, h => by
    cases e with
    | Call fn args kws cpos =>
      cases fn with
      | Attribute x m apos =>
        match args, kws, h with
        | [y], [], h =>
          simp only [chkE, Bool.and_eq_true, decide_eq_true_eq] at h
          obtain ⟨⟨⟨⟨⟨h1, h2⟩, h3⟩, h4⟩, h5⟩, h6⟩ := h
          subst h1
          exact SndE.plain (s_join (sE a x cg h2).pe (sE b y cg h3).pe h4 h5 h6) (fun _ => rfl) (fun _ _ _ q => nomatch q)
        | [], _, h => simp [chkE] at h
        | _ :: _ :: _, _, h => simp [chkE] at h
        | [_], _ :: _, h => simp [chkE] at h
      | _ => simp [chkE] at h
    | _ => simp [chkE] at h
  | .get a k b, S, W, X, e, cg, h => by
    cases e with
    | Call fn args kws cpos =>
      cases fn with
      | Attribute x m apos =>
        match args, kws, h with
        | [y, z], [], h =>
          simp only [chkE, Bool.and_eq_true, decide_eq_true_eq] at h
          obtain ⟨⟨⟨⟨⟨⟨⟨h1, h2⟩, h3⟩, h4⟩, h5⟩, h6⟩, h7⟩, h8⟩ := h
          subst h1
          exact SndE.plain (s_get cg (sE a x cg h2).pe (sE k y cg h3).pe (sE b z cg h4).pe h5 h6 h7 h8) (fun _ => rfl) (fun _ _ _ q => nomatch q)
        | [], _, h => simp [chkE] at h
        | [_], _, h => simp [chkE] at h
        | _ :: _ :: _ :: _, _, h => simp [chkE] at h
        | [_, _], _ :: _, h => simp [chkE] at h
      | _ => simp [chkE] at h
    | _ => simp [chkE] at h
  | .comp tg src cd c, S, W, X, e, cg, h => by
    cases e with
    | ListComp elt gs scope pos =>
      match gs, h with
      | [⟨t, iter, ifs, sy⟩], h =>
        simp only [chkE, Bool.and_eq_true, Bool.not_eq_true', decide_eq_true_eq] at h
        obtain ⟨⟨⟨⟨⟨⟨h0, h1⟩, h2⟩, h3⟩, h4⟩, h5⟩, h6⟩ := h
        subst h0
        exact SndE.plain (s_comp cg h1 h2 (sSrc src t iter cg h3) h6 (fun X' c' k => sEi cd ifs c' k h4) fun X' c' k => by
          have := (sE c elt c' h5).pe
          exact this) (fun _ => rfl) (fun _ _ _ q => nomatch q)
      | [], h => simp [chkE] at h
      | _ :: _ :: _, h => simp [chkE] at h
    | _ => simp [chkE] at h
  | .pop p, S, W, X, e, cg, h => by
    cases e with
    | Call fn args kws cpos =>
      cases fn with
      | Attribute x m apos =>
        match args, kws, h with
        | [], [], h =>
          simp only [chkE, Bool.and_eq_true, decide_eq_true_eq] at h
          obtain ⟨⟨⟨h1, h2⟩, h3⟩, h4⟩ := h
          subst h1
          exact SndE.plain (s_pop (sP p x cg h2) h3 h4) (fun _ => rfl) (fun _ _ _ q => nomatch q)
        | _ :: _, _, h => simp [chkE] at h
        | [], _ :: _, h => simp [chkE] at h
      | _ => simp [chkE] at h
    | _ => simp [chkE] at h
  | .bi3 b a a' a'', S, W, X, e, cg, h => by
    cases e with
    | Call fn args kws pos =>
      cases fn with
      | Name x p =>
        match args, kws, h with
        | [y, z, u], [], h =>
          simp only [chkE, Bool.and_eq_true] at h
          exact SndE.plain (s_bi3 cg h.1.1.1.1.1.1.1 h.1.1.1.1.1.1.2 (sE a y cg h.1.1.1.1.1.2).pe h.1.1.1.1.2 (sE a' z cg h.1.1.1.2).pe h.1.1.2 (sE a'' u cg h.1.2).pe h.2) (fun _ => rfl) (fun _ _ _ q => nomatch q)
        | [], _, h => simp [chkE] at h
        | [_], _, h => simp [chkE] at h
        | [_, _], _, h => simp [chkE] at h
        | _ :: _ :: _ :: _ :: _, _, h => simp [chkE] at h
        | [_, _, _], _ :: _, h => simp [chkE] at h
      | _ => simp [chkE] at h
    | _ => simp [chkE] at h
  | .lcp a, S, W, X, e, cg, h => by
    cases e with
    | Call fn args kws pos =>
      cases fn with
      | Name x p =>
        match args, kws, h with
        | [y], [], h =>
          simp only [chkE, Bool.and_eq_true] at h
          exact SndE.plain (s_lcp cg h.1.1 (sE a y cg h.1.2).pe h.2) (fun _ => rfl) (fun _ _ _ q => nomatch q)
        | [], _, h => simp [chkE] at h
        | _ :: _ :: _, _, h => simp [chkE] at h
        | [_], _ :: _, h => simp [chkE] at h
      | _ => simp [chkE] at h
    | _ => simp [chkE] at h
  | .cmp2 o o' a b c3, S, W, X, e, cg, h => by
    cases e with
    | Compare x ps ys pos =>
      match ps, ys, h with
      | [p, p'], [y, z], h =>
        simp only [chkE, Bool.and_eq_true, Bool.not_eq_true'] at h
        have hb := h.2
        rw [copB_eq h.1.1.1.1.1, copB_eq h.1.1.1.1.2] at hb ⊢
        exact s_cmp2 cg (sE a x cg h.1.1.1.2).pe (sE b y cg h.1.1.2).pe (sE c3 z cg h.1.2).pe hb
      | [], ys, h => simp [chkE] at h
      | [_], ys, h => simp [chkE] at h
      | _ :: _ :: _ :: _, ys, h => simp [chkE] at h
      | [_, _], [], h => simp [chkE] at h
      | [_, _], [_], h => simp [chkE] at h
      | [_, _], _ :: _ :: _ :: _, h => simp [chkE] at h
    | _ => simp [chkE] at h
  | .tr1 t a, S, W, X, e, cg, h => by
    cases e with
    | Call fn args kws pos =>
      cases fn with
      | Name x p =>
        match args, kws, h with
        | [.Call (.Name n p2) [y] [] pos2], [], h =>
          simp only [chkE, Bool.and_eq_true] at h
          exact SndE.plain (s_tr1 cg h.1.1.1 h.1.1.2 (sE a y cg h.1.2).pe h.2) (fun _ => rfl) (fun _ _ _ q => nomatch q)
      | _ => simp [chkE] at h
    | _ => simp [chkE] at h
  | .tr2 t a b, S, W, X, e, cg, h => by
    cases e with
    | Call fn args kws pos =>
      cases fn with
      | Name x p =>
        match args, kws, h with
        | [.Call (.Name n p2) [y, z] [] pos2], [], h =>
          simp only [chkE, Bool.and_eq_true] at h
          exact SndE.plain (s_tr2 cg h.1.1.1.1.1 h.1.1.1.1.2 (sE a y cg h.1.1.1.2).pe h.1.1.2 (sE b z cg h.1.2).pe h.2) (fun _ => rfl) (fun _ _ _ q => nomatch q)
      | _ => simp [chkE] at h
    | _ => simp [chkE] at h
theorem sEs : ∀ (c : Es) {S : Sx} {W : WX} {X : Cx} (es : List Expr), Cg G S W X → chkEs G.fn S c es = true → PA X es (tEs G W X c) ∧ esLen c = es.length
  | .nil, S, W, X, [], cg, h => ⟨s_nil, rfl⟩
  | .nil, S, W, X, _ :: _, cg, h => by simp [chkEs] at h
  | .cons _ _, S, W, X, [], cg, h => by simp [chkEs] at h
  | .cons c r, S, W, X, x :: xs, cg, h => by
    simp only [chkEs, Bool.and_eq_true] at h
    obtain ⟨a, b⟩ := sEs r xs cg h.2
    exact ⟨s_cons (sE c x cg h.1.1).pe a h.1.2, by show esLen r + 1 = _; rw [b, List.length_cons]⟩
theorem sKs : ∀ (c : Es) {S : Sx} {W : WX} {X : Cx} (ks : List (Option Expr)) (vs : List Expr), Cg G S W X → chkKs G.fn S c ks vs = true → ∀ pos, PPs X pos ks vs (trs G W X c)
  | .nil, S, W, X, [], [], cg, h, pos => pps_nil
  | .cons k (.cons v r), S, W, X, some x :: xs, y :: ys, cg, h, pos => by
    simp only [chkKs, Bool.and_eq_true] at h
    exact pps_cons (sE k x cg h.1.1).pe (sE v y cg h.1.2).pe (sKs r xs ys cg h.2 pos)
  | .nil, S, W, X, [], _ :: _, cg, h, pos => by simp [chkKs] at h
  | .nil, S, W, X, _ :: _, _, cg, h, pos => by simp [chkKs] at h
  | .cons _ .nil, S, W, X, _, _, cg, h, pos => by simp [chkKs] at h
  | .cons _ (.cons _ _), S, W, X, [], _, cg, h, pos => by simp [chkKs] at h
  | .cons _ (.cons _ _), S, W, X, none :: _, _, cg, h, pos => by simp [chkKs] at h
  | .cons _ (.cons _ _), S, W, X, some _ :: _, [], cg, h, pos => by simp [chkKs] at h
theorem sEo : ∀ (c : Eo) {S : Sx} {W : WX} {X : Cx} (o : Option Expr), Cg G S W X → chkEo G.fn S c o = true → PO X o (tO G W X c)
  | .non, S, W, X, none, cg, h => s_onon
  | .non, S, W, X, some _, cg, h => by simp [chkEo] at h
  | .som _, S, W, X, none, cg, h => by simp [chkEo] at h
  | .som c, S, W, X, some x, cg, h => s_osom (sE c x cg (by simpa [chkEo] using h)).pe
theorem sEi : ∀ (c : Eo) {S : Sx} {X' X : Cx} (ifs : List Expr), Cg G S W0 X' → X'.K = X.K → chkEi G.fn S c ifs = true → PTs X' ifs (tCt G X' c)
  | .non, S, X', X, [], cg, k, h => pts_nil
  | .non, S, X', X, _ :: _, cg, k, h => by simp [chkEi] at h
  | .som _, S, X', X, [], cg, k, h => by simp [chkEi] at h
  | .som _, S, X', X, _ :: _ :: _, cg, k, h => by simp [chkEi] at h
  | .som c, S, X', X, [x], cg, k, h => by
    simp only [chkEi, Bool.and_eq_true] at h
    exact pts_one ((sE c x cg h.1).pt h.2)
theorem sAs : ∀ (c : As) {S : Sx} {W : WX} {X : Cx} (es : List Expr), Cg G S W X → chkAs G.fn S c es = true → PA X es (tAs G W X c)
  | .nil, S, W, X, [], cg, h => as_nil
  | .nil, S, W, X, _ :: _, cg, h => by simp [chkAs] at h
  | .val _ _, S, W, X, [], cg, h => by simp [chkAs] at h
  | .ref _ _, S, W, X, [], cg, h => by simp [chkAs] at h
  | .val c r, S, W, X, x :: xs, cg, h => by
    simp only [chkAs, Bool.and_eq_true] at h
    exact as_val (sE c x cg h.1.1).pe (sAs r xs cg h.2) h.1.2
  | .ref i r, S, W, X, x :: xs, cg, h => by
    cases x with
    | Name n pos =>
      simp only [chkAs, Bool.and_eq_true] at h
      exact as_ref (cg.var h.1) (sAs r xs cg h.2) rfl
    | _ => simp [chkAs] at h
theorem sSrc : ∀ (c : Src) {S : Sx} {W : WX} {X : Cx} (t x : Expr), Cg G S W X → chkSrc G.fn S c t x = true → PI X t x (tSrc G W X c)
  | .e a, S, W, X, t, x, cg, h => src_e (sE a x cg (by simpa [chkSrc] using h)).pe
  | .r1 a, S, W, X, t, x, cg, h => by
    cases x with
    | Call fn args kws pos =>
      cases fn with
      | Name n p =>
        match args, kws, h with
        | [x], [], h =>
          simp only [chkSrc, Bool.and_eq_true] at h
          exact src_r1 cg h.1.1 (sE a x cg h.1.2).pe h.2
        | [], _, h => simp [chkSrc] at h
        | _ :: _ :: _, _, h => simp [chkSrc] at h
        | [_], _ :: _, h => simp [chkSrc] at h
      | _ => simp [chkSrc] at h
    | _ => simp [chkSrc] at h
  | .r2 a b, S, W, X, t, x, cg, h => by
    cases x with
    | Call fn args kws pos =>
      cases fn with
      | Name n p =>
        match args, kws, h with
        | [x, y], [], h =>
          simp only [chkSrc, Bool.and_eq_true] at h
          exact src_r2 cg h.1.1.1.1 (sE a x cg h.1.1.1.2).pe h.1.1.2 (sE b y cg h.1.2).pe h.2
        | [], _, h => simp [chkSrc] at h
        | [_], _, h => simp [chkSrc] at h
        | _ :: _ :: _ :: _, _, h => simp [chkSrc] at h
        | [_, _], _ :: _, h => simp [chkSrc] at h
      | _ => simp [chkSrc] at h
    | _ => simp [chkSrc] at h
  | .r3 a b k, S, W, X, t, x, cg, h => by
    cases x with
    | Call fn args kws pos =>
      cases fn with
      | Name n p =>
        match args, kws, h with
        | [x, y, z], [], h =>
          simp only [chkSrc, Bool.and_eq_true, decide_eq_true_eq] at h
          obtain ⟨⟨⟨⟨⟨h1, h2⟩, h3⟩, h4⟩, h5⟩, h6⟩ := h
          obtain ⟨kk, p1, p2, rfl⟩ := negLit_of h6
          exact src_r3 cg h1 (sE a x cg h2).pe h3 (sE b y cg h4).pe h5 (by omega)
        | [], _, h => simp [chkSrc] at h
        | [_], _, h => simp [chkSrc] at h
        | [_, _], _, h => simp [chkSrc] at h
        | _ :: _ :: _ :: _ :: _, _, h => simp [chkSrc] at h
        | [_, _, _], _ :: _, h => simp [chkSrc] at h
      | _ => simp [chkSrc] at h
    | _ => simp [chkSrc] at h
  | .enum a, S, W, X, t, x, cg, h => by
    cases t with
    | Tuple es kk tp =>
      cases x with
      | Call fn args kws pos =>
        cases fn with
        | Name n p =>
          match args, kws, h with
          | [x], [], h =>
            simp only [chkSrc, Bool.and_eq_true] at h
            exact src_enum cg h.1.1 (sE a x cg h.1.2).pe h.2
          | [], _, h => simp [chkSrc] at h
          | _ :: _ :: _, _, h => simp [chkSrc] at h
          | [_], _ :: _, h => simp [chkSrc] at h
        | _ => simp [chkSrc] at h
      | _ => simp [chkSrc] at h
    | _ => simp [chkSrc] at h
  | .zip _ _, S, W, X, t, x, cg, h => by simp [chkSrc] at h
theorem sP : ∀ (c : P) {S : Sx} {W : WX} {X : Cx} (e : Expr), Cg G S W X → chkP G.fn S c e = true → PE X e (tP G W X c)
  | .v i, S, W, X, e, cg, h => by
    cases e with
    | Name x pos => exact p_var (cg.var (by simpa [chkP] using h))
    | _ => simp [chkP] at h
  | .ix p a, S, W, X, e, cg, h => by
    cases e with
    | Subscript x y pos =>
      simp only [chkP, Bool.and_eq_true] at h
      exact p_ix cg (sP p x cg h.1.1) (sE a y cg h.1.2).pe h.2
    | _ => simp [chkP] at h
end
end G

/-! G5a: statements: the readings -/
namespace G
open PySem PySem.Spec PyProof.Rows L2
/-- but for the slots of asg the names are as they were -/
def Fr (asg : List Nat) (σ σ' : Sg) : Prop := σ'.length = σ.length ∧ ∀ j, j ∉ asg → gV σ' j = gV σ j
theorem Fr.refl {asg : List Nat} {σ : Sg} : Fr asg σ σ := ⟨rfl, fun _ _ => rfl⟩
theorem Fr.tr {a1 a2 asg : List Nat} {σ σ1 σ2 : Sg} (x : Fr a1 σ σ1) (y : Fr a2 σ1 σ2) (h1 : ∀ i ∈ a1, i ∈ asg) (h2 : ∀ i ∈ a2, i ∈ asg) : Fr asg σ σ2 :=
  ⟨y.1.trans x.1, fun j hj => (y.2 j fun z => hj (h2 j z)).trans (x.2 j fun z => hj (h1 j z))⟩
theorem Fr.set {asg : List Nat} {σ : Sg} {i : Nat} {v : V} (h : i ∈ asg) : Fr asg σ (σ.set i (some v)) :=
  ⟨List.length_set .., fun j hj => gV_set_ne fun z => hj (z ▸ h)⟩
section
variable (K : PySem.W.Frag) (XR : XRT) (W : WX)
/-- what a statement's run leaves -/
def AftS (wr asg : List Nat) (σ : Sg) (Ws : WsT) (H : Hp) (r : R Out) (D : Ends) : Prop := match r with
  | .ok .nx ρ => ∀ σ' H' Ws', EnvOk K H' σ' ρ Ws' → Go wr Ws H Ws' H' → Fr asg σ σ' → D.nx σ' H'
  | .ok .bk ρ => ∀ σ' H' Ws', EnvOk K H' σ' ρ Ws' → Go wr Ws H Ws' H' → Fr asg σ σ' → D.bk σ' H'
  | .ok .ct ρ => ∀ σ' H' Ws', EnvOk K H' σ' ρ Ws' → Go wr Ws H Ws' H' → Fr asg σ σ' → D.ct σ' H'
  | .ok (.rt d) ρ => ∀ v σ' H' Ws' W', EnvOk K H' σ' ρ Ws' → Rp K H' d v W' → Go wr Ws H Ws' H' → Kd none wr Ws H Ws' W' → Fr asg σ σ' → D.rt v H'
  | .er x ρ => ∀ cls dx σ' H' Ws', XR x cls dx H' → EnvOk K H' σ' ρ Ws' → Go wr Ws H Ws' H' → Fr asg σ σ' → W cls dx σ' H'
  | .no => False
abbrev TRS (wr asg : List Nat) (f : Env → R Out) : TS := fun D σ H => ∃ ρ Ws, EnvOk K H σ ρ Ws ∧ AftS K XR W wr asg σ Ws H (f ρ) D
end
section
variable {K : PySem.W.Frag} {XR : XRT} {W : WX} {wr w2 asg a2 : List Nat} {σ σ2 : Sg} {ρ : Env} {Ws Ws2 : WsT} {H H2 : Hp} {D : Ends}
theorem AftS.bd {α : Type} {r : R α} {f : α → Env → R Out} (h : AftS K XR W wr asg σ Ws H (r.bd f) D) (hw : ∀ i ∈ w2, i ∈ wr) : Aft K XR W w2 σ Ws H r fun a ρ => AftS K XR W wr asg σ Ws H (f a ρ) D := by
  cases r with
  | ok a ρ => exact h
  | er x ρ => exact fun cls dx H' Ws' q e y => h cls dx σ H' Ws' q e (y.mono hw) Fr.refl
  | no => exact h
theorem AftS.ite {c : Prop} [Decidable c] {r : R Out} (h : AftS K XR W wr asg σ Ws H (if c then r else .no) D) : c ∧ AftS K XR W wr asg σ Ws H r D := by
  by_cases z : c
  · rw [if_pos z] at h; exact ⟨z, h⟩
  · rw [if_neg z] at h; exact h.elim
theorem AftS.lift {α : Type} {o : Option α} {ρ : Env} {f : α → Env → R Out} (h : AftS K XR W wr asg σ Ws H ((lift o ρ).bd f) D) : ∃ a, o = some a ∧ AftS K XR W wr asg σ Ws H (f a ρ) D := by
  cases o with
  | none => exact h.elim
  | some a => exact ⟨a, rfl, h⟩
/-- a slot that nobody sees, dropped -/
theorem Go.drop {Ws0 : WsT} {H0 : Hp} {k : Nat} {M : List Addr} (x : Go (k :: wr) Ws0 H0 (setW Ws k M) H) (h0 : Ws0 k = []) (h1 : Ws k = []) (hk : k ∉ wr) : Go wr Ws0 H0 Ws H := by
  refine ⟨fun a o e n => x.fr a o e fun i hi z => ?_, fun i a hi z => ?_, fun i hi => ?_⟩
  · rcases List.mem_cons.mp hi with rfl | hi
    · rw [h0] at z; cases z
    · exact n i hi z
  · have ne : i ≠ k := fun q => hk (q ▸ hi)
    rcases x.sub i a (List.mem_cons_of_mem _ hi) (by rw [setW_ne ne]; exact z) with ⟨j, hj, y⟩ | y
    · rcases List.mem_cons.mp hj with rfl | hj
      · rw [h0] at y; cases y
      · exact .inl ⟨j, hj, y⟩
    · exact .inr y
  · by_cases q : i = k
    · subst q; rw [h0, h1]
    · rw [← x.eq i fun z => (List.mem_cons.mp z).elim q hi, setW_ne q]
/-- seen from a state on the way -/
theorem AftS.via {k : Nat} {M : List Addr} {r : R Out} (h : AftS K XR W wr asg σ Ws H r D) (x : Go (k :: wr) Ws H (setW Ws2 k M) H2) (f : Fr asg σ σ2) (hk : k ∉ wr) (hs : σ.length ≤ k) (h0 : Ws k = []) (hM : ∀ a ∈ M, MutO (H2 a) ∧ ∀ j, a ∉ Ws2 j) (hw : ∀ i ∈ w2, i ∈ wr) (ha : ∀ i ∈ a2, i ∈ asg) :
    AftS K XR W w2 a2 σ2 Ws2 H2 r D := by
  have hk2 : k ∉ w2 := fun z => hk (hw k z)
  have go : ∀ {σ' : Sg} {ρ' : Env} {H' : Hp} {Ws' : WsT}, EnvOk K H' σ' ρ' Ws' → Go w2 Ws2 H2 Ws' H' → Fr a2 σ2 σ' → Go wr Ws H Ws' H' ∧ Fr asg σ σ' := fun {σ' ρ' H' Ws'} e g fr => by
    have g2 := (g.slot (k := k) (M := M) (M' := M) hk2 fun _ z => z).mono (wr' := k :: wr) fun j hj => (List.mem_cons.mp hj).elim (fun z => z ▸ List.mem_cons_self) fun z => List.mem_cons_of_mem _ (hw j z)
    refine ⟨(x.tr g2).drop h0 (e.out (by rw [fr.1, f.1]; exact hs)) hk, f.tr fr (fun _ z => z) ha⟩
  cases r with
  | no => exact h
  | er z ρ => exact fun cls dx σ' H' Ws' q e g fr => let ⟨g', f'⟩ := go e g fr; h cls dx σ' H' Ws' q e g' f'
  | ok o ρ =>
    cases o with
    | nx => exact fun σ' H' Ws' e g fr => let ⟨g', f'⟩ := go e g fr; h σ' H' Ws' e g' f'
    | bk => exact fun σ' H' Ws' e g fr => let ⟨g', f'⟩ := go e g fr; h σ' H' Ws' e g' f'
    | ct => exact fun σ' H' Ws' e g fr => let ⟨g', f'⟩ := go e g fr; h σ' H' Ws' e g' f'
    | rt d =>
      intro v σ' H' Ws' W' e r g kd fr
      obtain ⟨g', f'⟩ := go e g fr
      refine h v σ' H' Ws' W' e r g' ⟨kd.1, fun a ha => ⟨(kd.2 a ha).1, ?_⟩⟩ f'
      have base : ∀ j, j ∈ k :: wr → a ∈ Ws j → ∃ i ∈ wr, a ∈ Ws i := fun j hj z => by
        rcases List.mem_cons.mp hj with rfl | hj
        · rw [h0] at z; cases z
        · exact ⟨j, hj, z⟩
      rcases (kd.2 a ha).2 with ⟨j, hj, z⟩ | z
      · have ne : j ≠ k := fun q => hk2 (q ▸ hj)
        rcases x.sub j a (List.mem_cons_of_mem _ (hw j hj)) (by rw [setW_ne ne]; exact z) with ⟨i, hi, y⟩ | y
        · exact .inl (base i hi y)
        · exact .inr y
      · exact (x.origin z).imp (fun ⟨i, hi, y⟩ => base i hi y) id
theorem fresh_slot (wr : List Nat) (n : Nat) : ∃ k, k ∉ wr ∧ n ≤ k := by
  refine ⟨n + wr.foldr max 0 + 1, fun z => ?_, by omega⟩
  have := le_fold _ _ z; omega
theorem Go.withNil {k : Nat} (x : Go wr Ws H Ws2 H2) (hk : k ∉ wr) (h0 : Ws k = []) (h2 : Ws2 k = []) : Go (k :: wr) Ws H (setW Ws2 k []) H2 := by
  refine ⟨fun a o e n => x.fr a o e fun i hi z => n i (List.mem_cons_of_mem _ hi) z, fun i a hi z => ?_, fun i hi => ?_⟩
  · by_cases q : i = k
    · subst q; rw [setW_same] at z; cases z
    · rw [setW_ne q] at z
      exact (x.sub i a ((List.mem_cons.mp hi).resolve_left q) z).imp (fun ⟨j, hj, y⟩ => ⟨j, List.mem_cons_of_mem _ hj, y⟩) id
  · have q : i ≠ k := fun q => hi (q ▸ List.mem_cons_self)
    rw [setW_ne q]; exact x.eq i fun z => hi (List.mem_cons_of_mem _ z)
theorem AftS.from {w1 : List Nat} {r : R Out} {ρ0 ρ2 : Env} (h : AftS K XR W wr asg σ Ws H r D) (e0 : EnvOk K H σ ρ0 Ws) (e2 : EnvOk K H2 σ2 ρ2 Ws2) (x : Go w1 Ws H Ws2 H2) (f : Fr asg σ σ2) (h1 : ∀ i ∈ w1, i ∈ wr) (hw : ∀ i ∈ w2, i ∈ wr) (ha : ∀ i ∈ a2, i ∈ asg) : AftS K XR W w2 a2 σ2 Ws2 H2 r D := by
  obtain ⟨k, hk, hn⟩ := fresh_slot wr σ.length
  exact h.via ((x.mono h1).withNil hk (e0.out hn) (e2.out (by rw [f.1]; exact hn))) f hk hn (e0.out hn) (fun a z => nomatch z) hw ha
/-- slots emptied -/
theorem EnvOk.kills (e : EnvOk K H σ ρ Ws) (ks : List Nat) : EnvOk K H σ (clr ρ ks) (clrW Ws ks) := by
  refine ⟨by rw [clr_len, e.len], fun i d h => ?_, fun i h => ?_, fun i => ?_, fun i j a h1 h2 => e.dj i j a (clrW_sub h1).2 (clrW_sub h2).2⟩
  · rw [g_clr] at h
    by_cases z : i ∈ ks
    · rw [if_pos z] at h; cases h
    · rw [if_neg z] at h
      obtain ⟨v, h1, h2⟩ := e.slot i d h
      exact ⟨v, h1, by unfold clrW; rw [if_neg z]; exact h2⟩
  · rw [g_clr] at h
    unfold clrW
    by_cases z : i ∈ ks
    · rw [if_pos z]
    · rw [if_neg z] at h ⊢; exact e.non i h
  · unfold clrW
    by_cases z : i ∈ ks
    · rw [if_pos z]; exact List.nodup_nil
    · rw [if_neg z]; exact e.nd i
theorem Go.kills {ks : List Nat} (x : Go wr Ws H Ws2 H2) (hk : ∀ j ∈ ks, j ∈ wr) : Go wr Ws H (clrW Ws2 ks) H2 :=
  ⟨x.fr, fun i a hi z => x.sub i a hi (clrW_sub z).2, fun i hi => by
    rw [← x.eq i hi]; unfold clrW; rw [if_neg fun z => hi (hk i z)]⟩
theorem Kd.clr {m : List Addr} {ks : List Nat} (k : Kd none wr Ws H Ws2 m) : Kd none wr Ws H (clrW Ws2 ks) m := ⟨k.1, fun a ha => ⟨fun i z => (k.2 a ha).1 i (clrW_sub z).2, (k.2 a ha).2⟩⟩
end
end G

/-! G5b: statements, one after another -/
namespace G
open PySem PySem.Spec PyProof.Rows L2
abbrev StC := S
section
variable {G : Glob} {S : Sx} {W : WX} {X : Cx}
abbrev tS (G : Glob) (W : WX) (X : Cx) (s : StC) : TS := TRS X.K G.XR W (wrS s) (asgS s) (evS G.Γ s)
abbrev tSs (G : Glob) (W : WX) (X : Cx) (s : Ss) : TS := TRS X.K G.XR W (wrSs s) (asgSs s) (evSs G.Γ s)
theorem swap0 {e : Expr} {t : Option Expr} {l : Nat} {env : PySem.Env} (h : isComp e = false) : swapsWith e t l env = pure false := by
  cases e <;> first | rfl | (simp [isComp] at h; done)
theorem swapT {e : Expr} {es : List Expr} {k : Nat} {p : Pos} {l : Nat} {env : PySem.Env} : swapsWithSole [.Tuple es k p] e l env = pure false := by
  cases e <;> rfl
theorem swapI {e o i : Expr} {p : Pos} {l : Nat} {env : PySem.Env} : swapsWithSole [.Subscript o i p] e l env = pure false := by
  cases e <;> rfl
def notTup : Expr → Bool
  | .Tuple .. => false
  | _ => true
theorem stores0 {e : Expr} {t : Expr} {env : PySem.Env} (h : notTup e = true ∨ notTup t = true) (hl : ∀ a b, t ≠ .List a b) : swappedStores [t] e env = pure none := by
  cases t <;> cases e <;> first | rfl | (simp [notTup] at h; done) | (exact absurd rfl (hl _ _))
theorem asg1 {t : Expr} {env : PySem.Env} (h : notStar t = true) : (assignEach [t] env).map (·.2) = [assign t env] := by
  cases t <;> first | rfl | (simp [notStar] at h; done)
/-- a name's value stored -/
theorem set_sem {i : Nat} {c : E} {D : Ends} {σ : Sg} {H : Hp} (h : tS G W X (.set i c) D σ H) : tE G W X c σ H fun x H1 => D.nx (σ.set i (some x)) H1 := by
  obtain ⟨ρ, Ws, e, q⟩ := h
  refine ⟨ρ, Ws, e, (show AftS X.K G.XR W (i :: wrE c) [i] σ Ws H ((evE G.Γ c ρ).bd _) D from q).bd (fun j hj => List.mem_cons_of_mem _ hj) |>.mono fun d ρ1 q v H1 Ws1 W1 e1 r1 g1 k1 => ?_⟩
  obtain ⟨⟨ho, hi⟩, q⟩ := q.ite
  have k1 := k1.own r1 ho
  refine q (σ.set i (some v)) H1 (setW Ws1 i W1) (e1.set hi r1 k1.1 fun a ha j _ => (k1.2 a ha).1 j) ?_ (Fr.set List.mem_cons_self)
  have g1' : Go (i :: wrE c) Ws H Ws1 H1 := g1.mono fun j hj => List.mem_cons_of_mem _ hj
  refine ⟨g1'.fr, fun j a hj z => ?_, fun j hj => ?_⟩
  · by_cases y : j = i
    · subst y; rw [setW_same] at z
      exact ((k1.2 a z).2).imp (fun ⟨j, hj, w⟩ => ⟨j, List.mem_cons_of_mem _ hj, w⟩) id
    · rw [setW_ne y] at z; exact g1'.sub j a hj z
  · have ne : j ≠ i := fun y => hj (by rw [y]; exact List.mem_cons_self)
    rw [setW_ne ne]; exact g1'.eq j hj
theorem st_set (c : Cg G S W X) {i : Nat} {x : Str} {a : E} {e : Expr} {py pos : Pos} (hx : stOk S i x = true) (he : PE X e (tE G W X a)) (hc : isComp e = false) : PS X (.Assign [.Name x py] e pos) (tS G W X (.set i a)) := by
  obtain ⟨h1, h2, h3⟩ := st_of c hx
  exact ps_imp (ps_set c.nd' h1 h2 he (swap0 hc) h3) fun D σ H h => set_sem h
theorem swF {v : Expr} {scope : Scope} {p : Pos} {x : Str} {py : Pos} {l : Nat} {env : PySem.Env} (hk : env.scope.kind = .function) (hv : (∃ elt gs, v = .ListComp elt gs scope p) ∨ ∃ kx vx gs, v = .DictComp kx vx gs scope p) (h : swB env.scope x py p scope = false) : swapsWith v (some (.Name x py)) l env = pure false := by
  have hb : env.blockKind = .function := by unfold PySem.Env.blockKind; rw [hk]; rfl
  have key : (env.blockKind == .function && env.kindOf x == some .local && py.line == p.line && !(scope.names.any fun (n, k) => n == x && (k == .local || k == .cell))) = false := by
    rw [hb]
    unfold swB at h
    by_cases e : env.scope.names.lookup x = some .local
    · rw [decide_eq_true e] at h
      have e2 : env.kindOf x = some .local := e
      rw [e2]
      simpa using h
    · have e2 : (env.kindOf x == some .local) = false := by
        rw [beq_eq_false_iff_ne]; exact e
      rw [e2]; simp
  rcases hv with ⟨elt, gs, rfl⟩ | ⟨kx, vx, gs, rfl⟩
  · unfold swapsWith
    simp only [Expr.pos, key]
  · unfold swapsWith
    simp only [Expr.pos, key]
theorem st_setP (c : Cg G S W X) {i : Nat} {x : Str} {a : E} {v : Expr} {scope : Scope} {p py pos : Pos} (hx : stOk S i x = true) (he : PE X v (tE G W X a)) (hv : (∃ elt gs, v = .ListComp elt gs scope p) ∨ ∃ kx vx gs, v = .DictComp kx vx gs scope p) (hs : swB S.sc x py p scope = false) : PS X (.Assign [.Name x py] v pos) (tS G W X (.set i a)) := by
  obtain ⟨h1, h2, h3⟩ := st_of c hx
  exact ps_imp (ps_set c.nd' h1 h2 he (swF (by rw [c.sc]; exact c.kind) hv (by rw [c.sc]; exact hs)) h3) fun D σ H h => set_sem h
/-- name = [..] -/
theorem st_setC (c : Cg G S W X) {i : Nat} {x : Str} {tg : Tg} {src : Src} {cd : Eo} {e : E} {t iter elt : Expr} {ifs : List Expr} {scope : Scope} {pos py sp : Pos} (hx : stOk S i x = true) (hloc : S.sc.names.lookup x = some .local) (hline : (py.line == pos.line) = true)
    (hany : (scope.names.any fun (n, k) => n == x && (k == NameKind.local || k == NameKind.cell)) = false)
    (hb : blkC S.N S.sc scope (ownS S tg.slots) = true) (ht : chkT (S.blk scope) tg t = true) (hi : PI X t iter (tSrc G W X src))
    (hs : isSet iter = false) (hc : ∀ X', Cg G (S.blk scope) W0 X' → X'.K = X.K → PTs X' ifs (tCt G X' cd)) (he : ∀ X', Cg G (S.blk scope) W0 X' → X'.K = X.K → PE X' elt (tE G W0 X' e)) : PS X (.Assign [.Name x py] (.ListComp elt [⟨t, iter, ifs, 0⟩] scope pos) sp) (tS G W X (.set i (.comp tg src cd e))) := by
  have bo := blkOk_by hb
  obtain ⟨h1, h2, h3⟩ := st_of c hx
  have hl : X.env.scope.names.lookup x = some .local := by rw [c.sc]; exact hloc
  refine ps_imp (ps_setLc (g := gT X.K tg) (tt := tCt G X cd) (te := tE G W0 X e) c.calm c.nd' h1 hl (sw_true (by rw [c.sc]; exact c.kind) hl hline hany) hi (by rw [c.N, c.sc]; exact bo) (fun s H C cl fp => s_tg (c.blk bo.kind) tg t ht) (fun s H C cl fp => hc _ (c.blk bo.kind) rfl) (fun s H C cl fp => he _ (c.blk bo.kind) rfl) fun x => folded0 hs x) fun D σ H h => ?_
  rw [ownS_ix]
  exact lc_sem (set_sem h)
theorem st_tset (c : Cg G S W X) {ts : Tgs} {a : E} {es : List Expr} {e : Expr} {k : Nat} {p pos : Pos} (ht : chkTs S ts es = true) (he : PE X e (tE G W X a)) (hn : notTup e = true) : PS X (.Assign [.Tuple es k p] e pos) (tS G W X (.tset ts a)) := by
  have hg := s_tg c (.t ts) (.Tuple es k p) (by simpa [chkT] using ht)
  refine ps_imp (ps_asg he hg swapT (stores0 (.inl hn) (fun _ _ q => nomatch q)) (asg1 rfl)) fun D σ H ⟨ρ, Ws, e, q⟩ => ?_
  refine ⟨ρ, Ws, e, (show AftS X.K G.XR W (ts.slots ++ wrE a) ts.slots σ Ws H ((evE G.Γ a ρ).bd _) D from q).bd mem_r |>.mono fun d ρ1 q v H1 Ws1 W1 e1 r1 g1 k1 => ?_⟩
  obtain ⟨ho, q⟩ := q.ite
  have k1 := k1.own r1 ho
  cases d <;> first | exact q.elim | skip
  obtain ⟨ρ2, hb, q⟩ := q.lift
  refine ⟨ρ1, Ws1, W1, _, ρ2, e1, r1, k1.1, fun a ha j => (k1.2 a ha).1 j, hb, fun σ2 Ws2 e2 f2 s2 => ?_⟩
  have g1' : Go (ts.slots ++ wrE a) Ws H Ws1 H1 := g1.mono mem_r
  refine q σ2 H1 Ws2 e2 ⟨g1'.fr, fun j b hj z => ?_, fun j hj => ?_⟩ ⟨?_, fun j hj => (f2 j hj).2⟩
  · rcases s2 j b z with y | y
    · exact g1'.sub j b hj y
    · exact ((k1.2 b y).2).imp (fun ⟨j, hj, w⟩ => ⟨j, mem_r j hj, w⟩) id
  · rw [(f2 j fun z => hj (mem_l j z)).1]; exact g1'.eq j hj
  · rw [e2.len, bindT_len (.t ts) (.tup _) ρ1 ρ2 hb, e1.len]
theorem st_aug (c : Cg G S W X) {i : Nat} {x : Str} {o : BOp} {a : E} {e : Expr} {py pos : Pos} (hx : stOk S i x = true) (ho : iopOk o = true) (he : PE X e (tE G W X a)) : PS X (.AugAssign (.Name x py) (bop o) e pos) (tS G W X (.aug i o a)) := by
  obtain ⟨h1, h2, h3⟩ := st_of c hx
  refine ps_imp (ps_aug c.nd' h1 h2 he (ip_data o ho) h3) fun D σ H ⟨ρ, Ws, e, q⟩ => ?_
  obtain ⟨dx, hdx, q⟩ := (show AftS X.K G.XR W (i :: wrE a) [i] σ Ws H ((lift (g ρ i) ρ).bd _) D from q).lift
  obtain ⟨vx, hvx, rx⟩ := e.slot i dx hdx
  refine ⟨vx, gV_some hvx, ρ, Ws, e, (show AftS X.K G.XR W (i :: wrE a) [i] σ Ws H ((evE G.Γ a ρ).bd _) D from q).bd (fun j hj => List.mem_cons_of_mem _ hj) |>.mono fun dy ρ1 q vy H1 Ws1 W1 e1 r1 g1 k1 => ?_⟩
  by_cases hc : (wrE a).contains i = true
  · rw [if_pos hc] at q; exact q.elim
  · rw [if_neg hc] at q
    obtain ⟨ha, q⟩ := q.ite
    obtain ⟨z, hz, q⟩ := q.lift
    have px : pu dx = true ∧ pu dy = true := by
      cases o <;> cases dx <;> cases dy <;> first | exact ⟨rfl, rfl⟩ | (simp [iaug] at ha; done)
    have w0 := Rp.pu_nil dx px.1 rx
    have w1 := Rp.pu_nil dy px.2 r1
    subst w1
    have rx1 : Rp X.K H1 dx vx [] := by
      have := (Kd.stay (m := none) (d := dx) (w0 := []) (W := []) (Ws := Ws) (H := H) Kd.nil e (by rw [← w0]; exact rx) rfl g1).1
      exact this
    refine ⟨dx, dy, z, ha, hz, rx1, r1, fun v H2 W2 sm fr nd r2 => ?_⟩
    have hi : i < ρ1.length := by rw [← e1.len, e.len]; exact g_lt hdx
    have fresh : ∀ b ∈ W2, ∀ j, b ∉ Ws1 j := fun b hb j z => by have := e1.mut z; rw [fr b hb] at this; exact notMut_none this
    refine q (σ.set i (some v)) H2 (setW Ws1 i W2) ((e1.same sm).set hi r2 nd fun b hb j _ => fresh b hb j) ?_ (Fr.set List.mem_cons_self)
    have g1' : Go (i :: wrE a) Ws H Ws1 H1 := g1.mono fun j hj => List.mem_cons_of_mem _ hj
    have g2 : Go (i :: wrE a) Ws H Ws1 H2 := g1'.tr (Go.same sm)
    refine ⟨g2.fr, fun j b hj z => ?_, fun j hj => ?_⟩
    · by_cases y : j = i
      · subst y; rw [setW_same] at z
        exact g1'.origin (fr b z)
      · rw [setW_ne y] at z; exact g2.sub j b hj z
    · have ne : j ≠ i := fun y => hj (by rw [y]; exact List.mem_cons_self)
      rw [setW_ne ne]; exact g2.eq j hj
theorem st_ex {a : E} {e : Expr} {pos : Pos} (he : PE X e (tE G W X a)) (hc : isComp e = false) : PS X (.Expr e pos) (tS G W X (.ex a)) :=
  ps_imp (ps_expr he (swap0 hc)) fun D σ H ⟨ρ, Ws, e, q⟩ => ⟨ρ, Ws, e, (show AftS X.K G.XR W (wrE a) [] σ Ws H ((evE G.Γ a ρ).bd _) D from q).bd (fun _ h => h) |>.mono fun d ρ1 q v H1 Ws1 W1 e1 r1 g1 k1 => q σ H1 Ws1 e1 g1 Fr.refl⟩
theorem st_ret {a : E} {e : Expr} {pos : Pos} (he : PE X e (tE G W X a)) : PS X (.Return (some e) pos) (tS G W X (.ret a)) :=
  ps_imp (ps_ret he) fun D σ H ⟨ρ, Ws, e, q⟩ => ⟨ρ, Ws, e, (show AftS X.K G.XR W (wrE a) [] σ Ws H ((evE G.Γ a ρ).bd _) D from q).bd (fun _ h => h) |>.mono fun d ρ1 q v H1 Ws1 W1 e1 r1 g1 k1 => by
    obtain ⟨ho, q⟩ := q.ite
    exact q v σ H1 Ws1 W1 e1 r1 g1 (k1.own r1 ho) Fr.refl⟩
theorem st_retN {pos : Pos} : PS X (.Return none pos) (tS G W X .retN) := ps_imp ps_retN fun D σ H ⟨ρ, Ws, e, q⟩ => q .non σ H Ws [] e ⟨rfl, rfl⟩ Go.refl Kd.nil Fr.refl
theorem st_brk {pos : Pos} : PS X (.Break pos) (tS G W X .brk) := ps_imp ps_break fun D σ H ⟨ρ, Ws, e, q⟩ => q σ H Ws e Go.refl Fr.refl
theorem st_cnt {pos : Pos} : PS X (.Continue pos) (tS G W X .cnt) := ps_imp ps_continue fun D σ H ⟨ρ, Ws, e, q⟩ => q σ H Ws e Go.refl Fr.refl
theorem st_pass {pos : Pos} : PS X (.Pass pos) (tS G W X .pass) := ps_imp ps_pass fun D σ H ⟨ρ, Ws, e, q⟩ => q σ H Ws e Go.refl Fr.refl
theorem sts_nil : PSs X [] (tSs G W X .nil) := pss_imp pss_nil fun D σ H ⟨ρ, Ws, e, q⟩ => q σ H Ws e Go.refl Fr.refl
theorem sts_kill {ks : List Nat} {r : Ss} {xs : List Stmt} (h : PSs X xs (tSs G W X r)) : PSs X xs (tSs G W X (.kill ks r)) := pss_imp h fun D σ H ⟨ρ, Ws, e, q⟩ => by
  have q : AftS X.K G.XR W (ks ++ wrSs r) (asgSs r) σ Ws H (evSs G.Γ r (clr ρ ks)) D := q
  exact ⟨clr ρ ks, clrW Ws ks, e.kills ks, q.from e (e.kills ks) ((Go.refl (wr := ks)).kills fun _ h => h) Fr.refl mem_l mem_r fun _ h => h⟩
theorem sts_cons {s : StC} {r : Ss} {x : Stmt} {xs : List Stmt} (h1 : PS X x (tS G W X s)) (h2 : PSs X xs (tSs G W X r)) : PSs X (x :: xs) (tSs G W X (.cons s r)) := pss_imp (pss_cons h1 h2) fun D σ H ⟨ρ, Ws, e, q⟩ => by
  have q : AftS X.K G.XR W (wrS s ++ wrSs r) (asgS s ++ asgSs r) σ Ws H ((evS G.Γ s ρ).bd fun o ρ => match o with
    | .nx => evSs G.Γ r ρ
    | o => .ok o ρ) D := q
  refine ⟨ρ, Ws, e, ?_⟩
  have low : ∀ {r0 : R Out}, AftS X.K G.XR W (wrS s ++ wrSs r) (asgS s ++ asgSs r) σ Ws H r0 D → AftS X.K G.XR W (wrS s) (asgS s) σ Ws H r0 D := fun {r0} h => h.from e e (Go.refl (wr := [])) Fr.refl (fun _ h => nomatch h) mem_l mem_l
  cases hv : evS G.Γ s ρ with
  | no => rw [hv] at q; exact q.elim
  | er z ρ1 =>
    rw [hv] at q
    exact low (r0 := .er z ρ1) q
  | ok o ρ1 =>
    rw [hv, R.bd_ok] at q
    cases o with
    | nx => exact fun σ1 H1 Ws1 e1 g1 f1 => ⟨ρ1, Ws1, e1, q.from e e1 g1 (f1.tr Fr.refl mem_l (a2 := []) fun _ h => nomatch h) mem_l mem_r mem_r⟩
    | bk => exact low (r0 := .ok .bk ρ1) q
    | ct => exact low (r0 := .ok .ct ρ1) q
    | rt d => exact low (r0 := .ok (.rt d) ρ1) q
theorem st_ite {c : E} {a b : Ss} {x : Expr} {y z : List Stmt} {pos : Pos} (hc : PT X x (tT G W X c)) (ha : PSs X y (tSs G W X a)) (hb : PSs X z (tSs G W X b)) : PS X (.If x y z pos) (tS G W X (.ite c a b)) := ps_imp (ps_if hc ha hb) fun D σ H ⟨ρ, Ws, e, q⟩ => by
  have q : AftS X.K G.XR W (wrE c ++ (wrSs a ++ wrSs b)) (asgSs a ++ asgSs b) σ Ws H ((evE G.Γ c ρ).bd fun x ρ => (lift (tru x) ρ).bd fun t ρ => if t = true then evSs G.Γ a ρ else evSs G.Γ b ρ) D := q
  rw [← bd_bd] at q
  refine ⟨ρ, Ws, e, (q.bd mem_l).mono fun t ρ1 q H1 Ws1 e1 g1 => ?_⟩
  cases t with
  | true =>
    simp only [if_true] at q ⊢
    exact ⟨ρ1, Ws1, e1, q.from e e1 g1 Fr.refl mem_l (fun i hi => mem_r i (mem_l i hi)) mem_l⟩
  | false =>
    simp only [Bool.false_eq_true, if_false] at q ⊢
    exact ⟨ρ1, Ws1, e1, q.from e e1 g1 Fr.refl mem_l (fun i hi => mem_r i (mem_r i hi)) mem_r⟩
end
end G

/-! G5c: changes in place -/
namespace G
open PySem PySem.Spec PyProof.Rows L2
section
variable {K : PySem.W.Frag} {H H' H0 : Hp} {σ : Sg} {ρ : Env} {Ws Ws0 : WsT}
theorem Go.change {wr : List Nat} {i : Nat} {W' : List Addr} (x : Go wr Ws0 H0 Ws H) (hi : i ∈ wr) (fr : ∀ b o, H b = some o → b ∉ Ws i → H' b = some o) (org : ∀ b ∈ W', b ∈ Ws i ∨ (∃ j ∈ wr, b ∈ Ws0 j) ∨ H0 b = none) : Go wr Ws0 H0 (setW Ws i W') H' := by
  refine ⟨fun a o e n => fr a o (x.fr a o e n) fun z => ?_, fun j a hj z => ?_, fun j hj => ?_⟩
  · rcases x.sub i a hi z with ⟨k, hk, y⟩ | y
    · exact n k hk y
    · rw [e] at y; cases y
  · by_cases q : j = i
    · subst q
      rw [setW_same] at z
      rcases org a z with y | y
      · exact x.sub j a hj y
      · exact y
    · rw [setW_ne q] at z; exact x.sub j a hj z
  · have ne : j ≠ i := fun y => hj (by rw [y]; exact hi)
    rw [setW_ne ne]; exact x.eq j hj
end
section
variable {G : Glob} {S : Sx} {W : WX} {X : Cx}
/-- a list or a dict is given an item -/
def rPut (r1 r2 : TSet) : TSet := fun o i v H Q => r1 o i v H Q ∨ r2 o i v H Q
theorem set_any (hu : X.A.units + 200 < cLine) : PSet X (rPut rSetL rSetD) := by
  intro pins s σ H o i v ov iv u Q I ro ri rv h
  rcases h with h | h
  · exact set_list pins s σ H o i v ov iv u Q I ro ri rv h
  · exact set_dict (by omega) pins s σ H o i v ov iv u Q I ro ri rv h
theorem st_put (c : Cg G S W X) {p : P} {k a : E} {x y e : Expr} {p1 pos : Pos} (hx : PE X x (tP G W X p)) (hk : PE X y (tE G W X k)) (he : PE X e (tE G W X a)) (hp : plainIx y = true) : PS X (.Assign [.Subscript x y p1] e pos) (tS G W X (.put p k a)) := by
  have hg : PG X (.Subscript x y p1) _ := pg_sub (pos := p1) (pe_saneQ hx) (pe_saneQ hk) (set_any c.hu) (by cases y <;> first | (intro _; rfl) | (simp [plainIx] at hp; done))
  refine ps_imp (ps_asg he hg swapI (stores0 (.inr rfl) (fun _ _ q => nomatch q)) (asg1 rfl)) fun D σ H ⟨ρ, Ws, e, q⟩ => ?_
  have q : AftS X.K G.XR W (p.root :: (wrP p ++ (wrE k ++ wrE a))) [] σ Ws H ((evE G.Γ a ρ).bd fun v ρ => if own (md a) v = true then (evP G.Γ p ρ).bd fun js ρ => (evE G.Γ k ρ).bd fun kd ρ => if (wrE k).contains p.root = true then .no else atP p js ρ fun x => putF x kd v else .no) D := q
  have ia : ∀ i ∈ wrE a, i ∈ p.root :: (wrP p ++ (wrE k ++ wrE a)) := fun i hi => List.mem_cons_of_mem _ (mem_r i (mem_r i hi))
  have ip : ∀ i ∈ wrP p, i ∈ p.root :: (wrP p ++ (wrE k ++ wrE a)) := fun i hi => List.mem_cons_of_mem _ (mem_l i hi)
  have ik : ∀ i ∈ wrE k, i ∈ p.root :: (wrP p ++ (wrE k ++ wrE a)) := fun i hi => List.mem_cons_of_mem _ (mem_r i (mem_l i hi))
  refine ⟨ρ, Ws, e, (q.bd ia).mono fun d ρ1 q v H1 Ws1 W1 e1 r1 g1 k1 => ?_⟩
  obtain ⟨ho, q⟩ := q.ite
  have k1 := k1.own r1 ho
  have q1 := (q.bd (w2 := p.root :: (wrP p ++ (wrE k ++ wrE a))) fun _ h => h).from g1 ia ip
  refine ⟨ρ1, Ws1, e1, ?_⟩
  cases hv : evP G.Γ p ρ1 with
  | no => rw [hv] at q1; exact q1.elim
  | er z ρ2 => rw [hv] at q1; exact q1
  | ok js ρ2 =>
    rw [hv, R.bd_ok] at q
    clear q1
    intro v0 vx H2 Ws2 e2 hv0 at2 g2 sn2
    have g12 : Go (p.root :: (wrP p ++ (wrE k ++ wrE a))) Ws H Ws2 H2 := g1.tr2 g2 ia ip
    refine ⟨ρ2, Ws2, e2, ((q.bd (w2 := p.root :: (wrP p ++ (wrE k ++ wrE a))) fun _ h => h).from g12 (fun _ h => h) ik).mono fun kd ρ3 q vy H3 Ws3 W3 e3 r3 g3 k3 sn3 => ?_⟩
    by_cases hc : (wrE k).contains p.root = true
    · rw [if_pos hc] at q; exact q.elim
    · rw [if_neg hc] at q
      obtain ⟨ρ4, hq, fin⟩ := q.lift
      clear q
      obtain ⟨d3, hd3, hq2⟩ := Option.bind_eq_some_iff.mp hq
      obtain ⟨x3, hx3, hq3⟩ := Option.bind_eq_some_iff.mp hq2
      obtain ⟨x4, hx4, hq4⟩ := Option.map_eq_some_iff.mp hq3
      clear hq hq2 hq3
      subst hq4
      have nr : p.root ∉ wrE k := fun z => hc (List.contains_iff_mem.mpr z)
      obtain ⟨d2, x2, hd2, hx2⟩ := p_root hv
      obtain ⟨v2, hv2, rp2⟩ := e2.slot p.root d2 hd2
      rw [hv0] at hv2; cases hv2
      have at3 : VAt X.K H3 v0 js vx := VAt.keep (g3.keep e2) js sn2 rp2 hx2 (fun b hb ⟨i, hi, z⟩ => nr (e2.dj i _ b z hb ▸ hi)) at2
      have g23 : Go (wrP p ++ wrE k) Ws1 H1 Ws3 H3 := g2.tr2 g3 mem_l mem_r
      have g13 : Go (p.root :: (wrP p ++ (wrE k ++ wrE a))) Ws H Ws3 H3 := g12.tr2 g3 (fun _ h => h) ik
      obtain ⟨rv, kv⟩ := Kd.stay (d := d) k1 e1 r1 rfl g23
      have kv := kv.mono ia
      obtain ⟨Wx, rx, nx, sx, step⟩ := change_at sn3 e3 hd3 hv0 hx3 at3
      have apart : ∀ b ∈ W1, b ∉ Wx := fun b hb z => (kv.2 b hb).1 _ (sx b z)
      have done : ∀ H' b Wx', vx = .ref b → Chg X.K H3 H' b x4 Wx W1 Wx' → D.nx σ H' := fun H' b Wx' eb ch => by
        obtain ⟨W', e4, s4, k4⟩ := step H' b x4 W1 Wx' eb ch fun b hb j => (kv.2 b hb).1 j
        refine fin σ H' (setW Ws3 p.root W') e4 (g13.change List.mem_cons_self k4 fun b hb => ?_) Fr.refl
        rcases s4 b hb with ⟨y, _⟩ | y
        · exact .inl y
        · rcases ch.sub b y with y | y
          · exact .inl (sx b y)
          · exact .inr (kv.2 b y).2
      cases x3 <;> first | (simp [putF] at hx4; done) | skip
      · -- a list
        cases kd <;> first | (simp [putF] at hx4; done) | skip
        rename_i l i
        simp only [putF] at hx4
        obtain ⟨j, hj, hx5⟩ := Option.bind_eq_some_iff.mp hx4
        obtain ⟨old, ho1, hx6⟩ := Option.bind_eq_some_iff.mp hx5
        have hx7 := Option.some.inj hx6
        subst hx7
        obtain ⟨b, vs, W0, rfl, hs, rs, rfl⟩ := rx
        have lj : j < l.length := (List.getElem?_eq_some_iff.mp ho1).1
        obtain ⟨Wx', ch⟩ := chg_set hs rs nx lj rv k1.1 apart
        exact .inl ⟨b, vs, i, j, rfl, r3.1, hs, by rw [rs.length, ← nIx_ixN]; exact hj, done _ b Wx' rfl ch⟩
      · rename_i ks l
        have hx4' : (if isKey kd && decide (ks.length < cap) then some (.dct (dput ks l kd d).1 (dput ks l kd d).2) else none) = some x4 := by cases kd <;> exact hx4
        split at hx4' <;> first | (cases hx4'; done) | skip
        rename_i hk2
        simp only [Bool.and_eq_true, decide_eq_true_eq] at hk2
        have hx7 := Option.some.inj hx4'
        subst hx7
        obtain ⟨b, vs, W0, rfl, ⟨kvs, eb, ek, ev, ok⟩, rs, rfl⟩ := rx
        obtain ⟨qk, rfl, rfl, oq, rfl⟩ := key_of_d r3 hk2.1
        subst ev
        obtain ⟨Wx', ch⟩ := chg_dput eb (sn3.dk _ _ eb) ek ok oq rs nx rv k1.1 apart
        have hlen : kvs.length < sizeLine := by
          have : ks.length = kvs.length := by rw [ek, List.length_map]
          have := hk2.2
          have h2 := cap_le (n := cap) (Nat.le_refl _)
          omega
        exact .inr ⟨b, _, rfl, .inl ⟨kvs, qk, eb, rfl, hlen, rfl⟩, done _ b Wx' rfl ch⟩
theorem st_app (c : Cg G S W X) {p : P} {a : E} {x y : Expr} {apos cpos pos : Pos} (hx : PE X x (tP G W X p)) (hy : PE X y (tE G W X a)) (ns : notStar y = true) (at0 : attrOk x = true) (hl : (apos.endLine == cpos.line) = true) :
    PS X (.Expr (.Call (.Attribute x "append" apos) [y] [] cpos) pos) (tS G W X (.app p a)) := by
  refine ps_imp (ps_expr (pe_bm PySem.F.plainAttrs_list PySem.F.slot_list_append PySem.F.type_list_append mt_append (pe_saneQ hx) (pa_cons (pe_saneQ hy) pa_nil (star1 ns)) (attr0 at0) (few1 ns) hl (star1 ns)) (by rfl)) fun D σ H ⟨ρ, Ws, e, q⟩ => ?_
  have q : AftS X.K G.XR W (p.root :: (wrP p ++ wrE a)) [] σ Ws H ((evP G.Γ p ρ).bd fun js ρ => if isLst ρ p js = true then (evE G.Γ a ρ).bd fun v ρ => if own (md a) v = true ∧ (wrE a).contains p.root = false then atP p js ρ fun x => appF x v else .no else .no) D := q
  have ia : ∀ i ∈ wrE a, i ∈ p.root :: (wrP p ++ wrE a) := fun i hi => List.mem_cons_of_mem _ (mem_r i hi)
  have ip : ∀ i ∈ wrP p, i ∈ p.root :: (wrP p ++ wrE a) := fun i hi => List.mem_cons_of_mem _ (mem_l i hi)
  have q1 := q.bd (w2 := wrP p) ip
  refine ⟨ρ, Ws, e, ?_⟩
  cases hv : evP G.Γ p ρ with
  | no => rw [hv] at q1; exact q1.elim
  | er z ρ2 => rw [hv] at q1; exact q1
  | ok js ρ2 =>
    rw [hv, R.bd_ok] at q
    clear q1
    intro v0 vx H2 Ws2 e2 hv0 at2 g2 sn2
    obtain ⟨hL, q⟩ := q.ite
    -- a list stands there
    obtain ⟨d2, x2, hd2, hx2⟩ := p_root hv
    obtain ⟨v2, hv2, rp2⟩ := e2.slot p.root d2 hd2
    rw [hv0] at hv2; cases hv2
    have hx2l : ∃ l, x2 = .lst l := by
      unfold isLst at hL
      rw [hd2, Option.bind_some, hx2] at hL
      split at hL
      · rename_i l hq; exact ⟨l, Option.some.inj hq⟩
      · cases hL
    obtain ⟨l2, rfl⟩ := hx2l
    obtain ⟨Wy, ry, _⟩ := VAt.rp js sn2 rp2 hx2 at2
    obtain ⟨b, vs2, _, eb, hs2, _, _⟩ := ry
    subst eb
    refine ⟨.inl ⟨rfl, vs2, SqL.of hs2⟩, ρ2, Ws2, e2, ((q.bd (w2 := p.root :: (wrP p ++ wrE a)) fun _ h => h).from g2 ip ia).mono fun d ρ3 q vy H3 Ws3 W1 e3 r1 g3 k1 sn3 => ?_⟩
    obtain ⟨⟨ho, hc⟩, q⟩ := q.ite
    have k1 := k1.own r1 ho
    have nr : p.root ∉ wrE a := fun z => by rw [List.contains_iff_mem.mpr z] at hc; cases hc
    have at3 : VAt X.K H3 v0 js (.ref b) := VAt.keep (g3.keep e2) js sn2 rp2 hx2 (fun b hb ⟨i, hi, z⟩ => nr (e2.dj i _ b z hb ▸ hi)) at2
    have g13 : Go (p.root :: (wrP p ++ wrE a)) Ws H Ws3 H3 := g2.tr2 g3 ip ia
    have kv : Kd none (p.root :: (wrP p ++ wrE a)) Ws H Ws3 W1 := k1.back g2 ip ia
    obtain ⟨ρ4, hq, fin⟩ := q.lift
    clear q
    obtain ⟨d3, hd3, hq2⟩ := Option.bind_eq_some_iff.mp hq
    obtain ⟨x3, hx3, hq3⟩ := Option.bind_eq_some_iff.mp hq2
    obtain ⟨x4, hx4, hq4⟩ := Option.map_eq_some_iff.mp hq3
    clear hq hq2 hq3
    subst hq4
    obtain ⟨Wx, rx, nx, sx, step⟩ := change_at sn3 e3 hd3 hv0 hx3 at3
    have apart : ∀ c ∈ W1, c ∉ Wx := fun c hb z => (kv.2 c hb).1 _ (sx c z)
    cases x3 <;> first | (simp [appF] at hx4; done) | skip
    rename_i l
    simp only [appF] at hx4
    split at hx4 <;> first | (cases hx4; done) | skip
    rename_i hlen
    have hx7 := Option.some.inj hx4
    subst hx7
    obtain ⟨b', vs, W0, eb', hs, rs, rfl⟩ := rx
    cases eb'
    obtain ⟨Wx', ch⟩ := chg_app hs rs nx r1 k1.1 apart
    refine ⟨b, vs, vy, rfl, rfl, hs, by rw [rs.length]; exact Nat.lt_of_lt_of_le hlen (cap_le (Nat.le_refl _)), ?_⟩
    obtain ⟨W', e4, s4, k4⟩ := step _ b _ W1 Wx' rfl ch fun c hb j => (kv.2 c hb).1 j
    refine fin σ _ (setW Ws3 p.root W') e4 (g13.change List.mem_cons_self k4 fun c hb => ?_) Fr.refl
    rcases s4 c hb with ⟨y, _⟩ | y
    · exact .inl y
    · rcases ch.sub c y with y | y
      · exact .inl (sx c y)
      · exact .inr (kv.2 c y).2
theorem st_ext (c : Cg G S W X) {p : P} {a : E} {x y : Expr} {apos cpos pos : Pos} (hx : PE X x (tP G W X p)) (hy : PE X y (tE G W X a)) (ns : notStar y = true) (at0 : attrOk x = true) (hl : (apos.endLine == cpos.line) = true) :
    PS X (.Expr (.Call (.Attribute x "extend" apos) [y] [] cpos) pos) (tS G W X (.ext p a)) := by
  refine ps_imp (ps_expr (pe_bm PySem.F.plainAttrs_list PySem.F.slot_list_extend PySem.F.type_list_extend mt_extend (pe_saneQ hx) (pa_cons (pe_saneQ hy) pa_nil (star1 ns)) (attr0 at0) (few1 ns) hl (star1 ns)) (by rfl)) fun D σ H ⟨ρ, Ws, e, q⟩ => ?_
  have q : AftS X.K G.XR W (p.root :: (wrP p ++ wrE a)) [] σ Ws H ((evP G.Γ p ρ).bd fun js ρ => if isLst ρ p js = true then (evE G.Γ a ρ).bd fun v ρ => if own (md a) v = true ∧ (wrE a).contains p.root = false then (match v with
      | .lst vs => atP p js ρ fun x => extF x vs
      | _ => .no) else .no else .no) D := q
  have ia : ∀ i ∈ wrE a, i ∈ p.root :: (wrP p ++ wrE a) := fun i hi => List.mem_cons_of_mem _ (mem_r i hi)
  have ip : ∀ i ∈ wrP p, i ∈ p.root :: (wrP p ++ wrE a) := fun i hi => List.mem_cons_of_mem _ (mem_l i hi)
  have q1 := q.bd (w2 := wrP p) ip
  refine ⟨ρ, Ws, e, ?_⟩
  cases hv : evP G.Γ p ρ with
  | no => rw [hv] at q1; exact q1.elim
  | er z ρ2 => rw [hv] at q1; exact q1
  | ok js ρ2 =>
    rw [hv, R.bd_ok] at q
    clear q1
    intro v0 vx H2 Ws2 e2 hv0 at2 g2 sn2
    obtain ⟨hL, q⟩ := q.ite
    -- a list stands there
    obtain ⟨d2, x2, hd2, hx2⟩ := p_root hv
    obtain ⟨v2, hv2, rp2⟩ := e2.slot p.root d2 hd2
    rw [hv0] at hv2; cases hv2
    have hx2l : ∃ l, x2 = .lst l := by
      unfold isLst at hL
      rw [hd2, Option.bind_some, hx2] at hL
      split at hL
      · rename_i l hq; exact ⟨l, Option.some.inj hq⟩
      · cases hL
    obtain ⟨l2, rfl⟩ := hx2l
    obtain ⟨Wy, ry, _⟩ := VAt.rp js sn2 rp2 hx2 at2
    obtain ⟨b, vs2, _, eb, hs2, _, _⟩ := ry
    subst eb
    refine ⟨.inl ⟨rfl, vs2, SqL.of hs2⟩, ρ2, Ws2, e2, ((q.bd (w2 := p.root :: (wrP p ++ wrE a)) fun _ h => h).from g2 ip ia).mono fun d ρ3 q vy H3 Ws3 W1 e3 r1 g3 k1 sn3 => ?_⟩
    obtain ⟨⟨ho, hc⟩, q⟩ := q.ite
    have k1 := k1.own r1 ho
    have nr : p.root ∉ wrE a := fun z => by rw [List.contains_iff_mem.mpr z] at hc; cases hc
    have at3 : VAt X.K H3 v0 js (.ref b) := VAt.keep (g3.keep e2) js sn2 rp2 hx2 (fun b hb ⟨i, hi, z⟩ => nr (e2.dj i _ b z hb ▸ hi)) at2
    have g13 : Go (p.root :: (wrP p ++ wrE a)) Ws H Ws3 H3 := g2.tr2 g3 ip ia
    have kv : Kd none (p.root :: (wrP p ++ wrE a)) Ws H Ws3 W1 := k1.back g2 ip ia
    cases d <;> first | exact q.elim | skip
    rename_i ys
    obtain ⟨ρ4, hq, fin⟩ := q.lift
    clear q
    obtain ⟨d3, hd3, hq2⟩ := Option.bind_eq_some_iff.mp hq
    obtain ⟨x3, hx3, hq3⟩ := Option.bind_eq_some_iff.mp hq2
    obtain ⟨x4, hx4, hq4⟩ := Option.map_eq_some_iff.mp hq3
    clear hq hq2 hq3
    subst hq4
    obtain ⟨Wx, rx, nx, sx, step⟩ := change_at sn3 e3 hd3 hv0 hx3 at3
    obtain ⟨b2, us, Wu, eu, hu, ru, eW⟩ := r1
    subst eu eW
    have apart : ∀ c ∈ Wu, c ∉ Wx := fun c hb z => (kv.2 c (List.mem_cons_of_mem _ hb)).1 _ (sx c z)
    cases x3 <;> first | (simp [extF] at hx4; done) | skip
    rename_i l
    simp only [extF] at hx4
    split at hx4 <;> first | (cases hx4; done) | skip
    rename_i hlen
    have hx7 := Option.some.inj hx4
    subst hx7
    obtain ⟨b', vs, W0, eb', hs, rs, rfl⟩ := rx
    cases eb'
    obtain ⟨Wx', ch⟩ := chg_ext hs rs nx ru (List.nodup_cons.mp k1.1).2 apart
    refine ⟨b, b2, vs, us, rfl, rfl, hs, hu, by rw [rs.length, ru.length]; exact cap_le hlen, ?_⟩
    obtain ⟨W', e4, s4, k4⟩ := step _ b _ Wu Wx' rfl ch fun c hb j => (kv.2 c (List.mem_cons_of_mem _ hb)).1 j
    refine fin σ _ (setW Ws3 p.root W') e4 (g13.change List.mem_cons_self k4 fun c hb => ?_) Fr.refl
    rcases s4 c hb with ⟨y, _⟩ | y
    · exact .inl y
    · rcases ch.sub c y with y | y
      · exact .inl (sx c y)
      · exact .inr (kv.2 c (List.mem_cons_of_mem _ y)).2
end
end G

/-! G5d: loops -/
namespace G
open PySem PySem.Spec PyProof.Rows L2
section
variable {K : PySem.W.Frag} {H H2 : Hp} {σ : Sg} {ρ : Env} {Ws Ws2 : WsT}
theorem Go.withM {wr : List Nat} {k : Nat} {M : List Addr} (x : Go wr Ws H Ws2 H2) (hk : k ∉ wr) (hM : ∀ a ∈ M, (∃ j ∈ wr, a ∈ Ws j) ∨ H a = none) : Go (k :: wr) Ws H (setW Ws2 k M) H2 := by
  refine ⟨fun a o e n => x.fr a o e fun i hi z => n i (List.mem_cons_of_mem _ hi) z, fun i a hi z => ?_, fun i hi => ?_⟩
  · by_cases q : i = k
    · subst q; rw [setW_same] at z
      exact (hM a z).imp (fun ⟨j, hj, y⟩ => ⟨j, List.mem_cons_of_mem _ hj, y⟩) id
    · rw [setW_ne q] at z
      exact (x.sub i a ((List.mem_cons.mp hi).resolve_left q) z).imp (fun ⟨j, hj, y⟩ => ⟨j, List.mem_cons_of_mem _ hj, y⟩) id
  · have q : i ≠ k := fun q => hi (q ▸ List.mem_cons_self)
    rw [setW_ne q]; exact x.eq i fun z => hi (List.mem_cons_of_mem _ z)
/-- a target bound from what slot k holds -/
theorem Go.bind {wr sl : List Nat} {Ws0 : WsT} {H0 : Hp} {k : Nat} {Wx M : List Addr} (x : Go (k :: wr) Ws0 H0 (setW Ws k (Wx ++ M)) H) (hs : ∀ j ∈ sl, j ∈ wr) (f : ∀ j, j ∉ sl → Ws2 j = Ws j) (s : ∀ j, ∀ a ∈ Ws2 j, a ∈ Ws j ∨ a ∈ Wx) : Go (k :: wr) Ws0 H0 (setW Ws2 k M) H :=
  x.tr ⟨fun a o z _ => z, fun j a hj z => by
    by_cases q : j = k
    · subst q
      rw [setW_same] at z
      exact .inl ⟨j, List.mem_cons_self, by rw [setW_same]; exact List.mem_append_right _ z⟩
    · rw [setW_ne q] at z
      rcases s j a z with y | y
      · exact .inl ⟨j, hj, by rw [setW_ne q]; exact y⟩
      · exact .inl ⟨k, List.mem_cons_self, by rw [setW_same]; exact List.mem_append_left _ y⟩, fun j hj => by
    have q : j ≠ k := fun q => hj (q ▸ List.mem_cons_self)
    rw [setW_ne q, setW_ne q]
    exact f j fun z => hj (List.mem_cons_of_mem _ (hs j z))⟩
end
section
variable {G : Glob} {S : Sx} {W : WX} {X : Cx}
/-- how a for loop stands at turn i -/
def ForInv (G : Glob) (W : WX) (X : Cx) (wr asg wl : List Nat) (tg : Tg) (b : Ss) (ks : List Nat) (k : Nat) (σ : Sg) (Ws : WsT) (H : Hp) (D : Ends) (J : It) (xs : List _root_.G.D) (B : List Addr) (St : Nat → Hp → List Addr → Prop) (i : Nat) (σ' : Sg) (H' : Hp) : Prop :=
  ∃ ρ' Ws' M, EnvOk X.K H' σ' ρ' Ws' ∧ Go (k :: wr) Ws H (setW Ws' k M) H' ∧ Fr asg σ σ' ∧ St i H' M ∧ (B ++ M).Nodup ∧ (∀ a ∈ B, ∀ j ∈ wl, a ∉ Ws' j) ∧ (∀ a ∈ M, ∀ j, a ∉ Ws' j) ∧
    AftS X.K G.XR W wr asg σ Ws H (forL (bindT tg) (fun ρ => evSs G.Γ b ρ) ks (xs.drop i) ρ') D
theorem st_for (c : Cg G S W X) {tg : Tg} {src : Src} {b : Ss} {ks : List Nat} {t iter : Expr} {body : List Stmt} {pos : Pos} (ht : chkT S tg t = true) (hi : PI X t iter (tSrc G W X src)) (hs : isSet iter = false) (hb : PSs X body (tSs G W X b)) :
    PS X (.For t iter body [] pos) (tS G W X (.for tg src b ks)) := by
  refine ps_imp (ps_for c.own c.calm hi (s_tg c tg t ht) hb fun x => folded0 hs x) fun D σ H ⟨ρ, Ws, e, q⟩ => ?_
  have q : AftS X.K G.XR W (tg.slots ++ (wrSrc src ++ (wrSs b ++ ks))) (tg.slots ++ asgSs b) σ Ws H ((evSrc G.Γ src ρ).bd fun xs ρ =>
      if safe (mdS src) (wrSs b ++ tg.slots ++ ks) (.lst xs) = true ∧ own (mdS src) (.tup xs) = true then forL (bindT tg) (fun ρ => evSs G.Γ b ρ) ks xs (clr ρ ks) else .no) D := q
  have is : ∀ i ∈ wrSrc src, i ∈ tg.slots ++ (wrSrc src ++ (wrSs b ++ ks)) := fun i h => mem_r i (mem_l i h)
  have ib : ∀ i ∈ wrSs b, i ∈ tg.slots ++ (wrSrc src ++ (wrSs b ++ ks)) := fun i h => mem_r i (mem_r i (mem_l i h))
  have ik : ∀ i ∈ ks, i ∈ tg.slots ++ (wrSrc src ++ (wrSs b ++ ks)) := fun i h => mem_r i (mem_r i (mem_r i h))
  refine ⟨ρ, Ws, e, (q.bd is).mono fun xs ρ1 q J H1 Ws1 B M St e1 g1 wk st kd => ?_⟩
  obtain ⟨⟨hsf, hown⟩, q⟩ := q.ite
  obtain ⟨k, hk, hn⟩ := fresh_slot (tg.slots ++ (wrSrc src ++ (wrSs b ++ ks))) σ.length
  have h0 : Ws k = [] := e.out hn
  have pM : ∀ a ∈ M, (∀ j, a ∉ Ws1 j) ∧ ((∃ j ∈ tg.slots ++ (wrSrc src ++ (wrSs b ++ ks)), a ∈ Ws j) ∨ H a = none) := fun a ha => by
    cases hm : mdS src with
    | none => rw [hm] at kd; exact ⟨(kd.2 a (List.mem_append_right _ ha)).1, ((kd.2 a (List.mem_append_right _ ha)).2).imp (fun ⟨j, hj, z⟩ => ⟨j, is j hj, z⟩) id⟩
    | some i =>
      rw [hm] at hown
      have p : puL xs = true := by simpa [own, pu] using hown
      rw [wk.pur st p] at ha; cases ha
  have pB : ∀ a ∈ B, ∀ j ∈ wrSs b ++ tg.slots ++ ks, a ∉ Ws1 j := fun a ha j hj z => by
    cases hm : mdS src with
    | none => rw [hm] at kd; exact (kd.2 a (List.mem_append_left _ ha)).1 j z
    | some i =>
      rw [hm] at kd hsf
      have z2 := kd.2 a (List.mem_append_left _ ha)
      have ej := e1.dj j i a z z2
      subst ej
      simp only [safe, pu, Bool.or_false, Bool.not_eq_true'] at hsf
      rw [List.contains_iff_mem.mpr hj] at hsf
      cases hsf
  have inv0 : ForInv G W X (tg.slots ++ (wrSrc src ++ (wrSs b ++ ks))) (tg.slots ++ asgSs b) (wrSs b ++ tg.slots ++ ks) tg b ks k σ Ws H D J xs B St 0 σ H1 :=
    ⟨clr ρ1 ks, clrW Ws1 ks, M, e1.kills ks, ((g1.mono is).kills ik).withM hk fun a ha => (pM a ha).2, Fr.refl, st, kd.nd, fun a ha j hj => clrW_not (pB a ha j hj), fun a ha j => clrW_not ((pM a ha).1 j), by simpa using q⟩
  refine ⟨fun i m σ' H' => m = xs.length - i ∧ i ≤ xs.length ∧ ForInv G W X (tg.slots ++ (wrSrc src ++ (wrSs b ++ ks))) (tg.slots ++ asgSs b) (wrSs b ++ tg.slots ++ ks) tg b ks k σ Ws H D J xs B St i σ' H', ⟨_, rfl, Nat.zero_le _, inv0⟩, ?_⟩
  rintro i m σ' H' ⟨rfl, hle, iv⟩
  obtain ⟨ρ', Ws', M', e', go', fr', st', nBM, dB, dM, q'⟩ := iv
  by_cases lt : i < xs.length
  · have hy : xs[i]? = some xs[i] := List.getElem?_eq_getElem lt
    obtain ⟨hgo, hyl⟩ := wk.go st' hy
    refine .inr ⟨hgo, fun σ' H' => ForInv G W X (tg.slots ++ (wrSrc src ++ (wrSs b ++ ks))) (tg.slots ++ asgSs b) (wrSs b ++ tg.slots ++ ks) tg b ks k σ Ws H D J xs B St (i + 1) σ' H', fun σ'' H'' p => ⟨xs.length - (i + 1), by omega, rfl, lt, p⟩, fun x Hx yl => ?_⟩
    obtain ⟨sm, Wx, M2, eM, rx, st2⟩ := hyl x Hx yl
    subst eM
    rw [List.drop_eq_getElem_cons lt] at q'
    obtain ⟨ρ0, hbd, q2⟩ := q'.lift
    replace q2 : AftS X.K G.XR W (tg.slots ++ (wrSrc src ++ (wrSs b ++ ks))) (tg.slots ++ asgSs b) σ Ws H ((evSs G.Γ b ρ0).bd _) D := q2
    have nM := List.nodup_append.mp nBM
    have nx := List.nodup_append.mp nM.2.1
    refine ⟨ρ', Ws', Wx, xs[i], ρ0, e'.same sm, rx, nx.1, fun a ha j => dM a (List.mem_append_left _ ha) j, hbd, fun σ2 Ws2 e2 f2 s2 => ⟨ρ0, Ws2, e2, ?_⟩⟩
    have goA : Go (k :: (tg.slots ++ (wrSrc src ++ (wrSs b ++ ks)))) Ws H (setW Ws2 k M2) Hx := (go'.tr (Go.same sm)).bind (sl := tg.slots) (fun j hj => mem_l j hj) (fun j hj => (f2 j hj).1) s2
    have frA : Fr (tg.slots ++ asgSs b) σ σ2 := fr'.tr (a2 := tg.slots) ⟨by rw [e2.len, bindT_len tg _ _ _ hbd, ← e'.len], fun j hj => (f2 j hj).2⟩ (fun _ h => h) mem_l
    have mt2 := wk.mt st2
    have pB2 : ∀ a ∈ B, ∀ j ∈ wrSs b ++ tg.slots ++ ks, a ∉ Ws2 j := fun a ha j hj z => by
      rcases s2 j a z with y | y
      · exact dB a ha j hj y
      · exact nM.2.2 a ha a (List.mem_append_left _ y) rfl
    have pM2 : ∀ a ∈ M2, ∀ j, a ∉ Ws2 j := fun a ha j z => by
      rcases s2 j a z with y | y
      · exact dM a (List.mem_append_right _ ha) j y
      · exact nx.2.2 a y a ha rfl
    have low : ∀ {r0 : R Out}, AftS X.K G.XR W (tg.slots ++ (wrSrc src ++ (wrSs b ++ ks))) (tg.slots ++ asgSs b) σ Ws H r0 D → AftS X.K G.XR W (wrSs b) (asgSs b) σ2 Ws2 Hx r0 D := fun {r0} h =>
      h.via goA frA hk hn h0 (fun a ha => ⟨mt2 a (List.mem_append_right _ ha), pM2 a ha⟩) ib mem_r
    have hkb : k ∉ wrSs b := fun z => hk (ib k z)
    have goB : ∀ {Ws3 : WsT} {H3 : Hp}, Go (wrSs b) Ws2 Hx Ws3 H3 → Go (k :: (tg.slots ++ (wrSrc src ++ (wrSs b ++ ks)))) Ws H (setW Ws3 k M2) H3 := fun g3 =>
      goA.tr ((g3.slot (k := k) (M := M2) (M' := M2) hkb fun _ h => h).mono fun j hj => (List.mem_cons.mp hj).elim (fun z => z ▸ List.mem_cons_self) fun z => List.mem_cons_of_mem _ (ib j z))
    have again : ∀ (ρ3 : Env), AftS X.K G.XR W (tg.slots ++ (wrSrc src ++ (wrSs b ++ ks))) (tg.slots ++ asgSs b) σ Ws H (forL (bindT tg) (fun ρ => evSs G.Γ b ρ) ks (xs.drop (i + 1)) (clr ρ3 ks)) D → ∀ σ3 H3 Ws3, EnvOk X.K H3 σ3 ρ3 Ws3 → Go (wrSs b) Ws2 Hx Ws3 H3 → Fr (asgSs b) σ2 σ3 →
        ForInv G W X (tg.slots ++ (wrSrc src ++ (wrSs b ++ ks))) (tg.slots ++ asgSs b) (wrSs b ++ tg.slots ++ ks) tg b ks k σ Ws H D J xs B St (i + 1) σ3 H3 := fun ρ3 h σ3 H3 Ws3 e3 g3 f3 => by
      refine ⟨clr ρ3 ks, clrW Ws3 ks, M2, e3.kills ks, ?_, frA.tr f3 (fun _ h => h) mem_r, ?_, List.nodup_append.mpr ⟨nM.1, nx.2.1, fun a ha b hb e => nM.2.2 a ha b (List.mem_append_right _ hb) e⟩, fun a ha j hj => clrW_not (g3.neverIn (mt2 a (List.mem_append_left _ ha)) (fun j hj => mem_l j (mem_l j hj)) (pB2 a ha) j hj), fun a ha j => clrW_not (g3.never (mt2 a (List.mem_append_right _ ha)) (pM2 a ha) j), h⟩
      · exact (goB g3).clrs ik
      · refine wk.keep st2 (g3.keep e2) fun a ha ⟨j, hj, z⟩ => ?_
        rcases List.mem_append.mp ha with y | y
        · exact pB2 a y j (mem_l j (mem_l j hj)) z
        · exact pM2 a y j z
    show AftS X.K G.XR W (wrSs b) (asgSs b) σ2 Ws2 Hx (evSs G.Γ b ρ0) _
    cases hv : evSs G.Γ b ρ0 with
    | no => rw [hv] at q2; exact q2.elim
    | er z ρ3 =>
      rw [hv] at q2
      exact low (r0 := .er z ρ3) q2
    | ok o ρ3 =>
      rw [hv, R.bd_ok] at q2
      cases o with
      | nx => exact again ρ3 q2
      | ct => exact again ρ3 q2
      | bk =>
        intro σ3 H3 Ws3 e3 g3 f3
        exact q2 σ3 H3 (clrW Ws3 ks) (e3.kills ks) (((goB g3).drop h0 (e3.out (by rw [f3.1, frA.1]; exact hn)) hk).kills ik) (frA.tr f3 (fun _ h => h) mem_r)
      | rt d => exact low (r0 := .ok (.rt d) ρ3) q2
  · have ei : i = xs.length := by omega
    subst ei
    rw [List.drop_length] at q'
    exact .inl ⟨wk.stop st', q' σ' H' Ws' e' (go'.drop h0 (e'.out (by rw [fr'.1]; exact hn)) hk) fr'⟩
theorem st_wh (c : Cg G S W X) {a : E} {b : Ss} {ks : List Nat} {x : Expr} {body : List Stmt} {pos : Pos} (ha : PT X x (tT G W X a)) (hb : PSs X body (tSs G W X b)) : PS X (.While x body [] pos) (tS G W X (.wh a b ks)) := by
  refine ps_imp (ps_while c.own ha hb) fun D σ H ⟨ρ, Ws, e, q⟩ => ?_
  have q : AftS X.K G.XR W (wrE a ++ (wrSs b ++ ks)) (asgSs b) σ Ws H (whL (fun ρ => (evE G.Γ a ρ).bd fun x ρ => lift (tru x) ρ) (fun ρ => evSs G.Γ b ρ) ks fuelW (clr ρ ks)) D := q
  have ib : ∀ i ∈ wrSs b, i ∈ wrE a ++ (wrSs b ++ ks) := fun i h => mem_r i (mem_l i h)
  have ik : ∀ i ∈ ks, i ∈ wrE a ++ (wrSs b ++ ks) := fun i h => mem_r i (mem_r i h)
  refine ⟨fun m σ' H' => ∃ ρ' Ws', EnvOk X.K H' σ' ρ' Ws' ∧ Go (wrE a ++ (wrSs b ++ ks)) Ws H Ws' H' ∧ Fr (asgSs b) σ σ' ∧ AftS X.K G.XR W (wrE a ++ (wrSs b ++ ks)) (asgSs b) σ Ws H (whL (fun ρ => (evE G.Γ a ρ).bd fun x ρ => lift (tru x) ρ) (fun ρ => evSs G.Γ b ρ) ks m ρ') D, ⟨fuelW, clr ρ ks, clrW Ws ks, e.kills ks, Go.refl.kills ik, Fr.refl, q⟩, ?_⟩
  rintro m σ' H' ⟨ρ', Ws', e', g', f', q'⟩
  cases m with
  | zero => exact q'.elim
  | succ n =>
    refine ⟨ρ', Ws', e', ?_⟩
    -- the test
    have z2 : Aft X.K G.XR W (wrE a) σ' Ws' H' ((evE G.Γ a ρ').bd fun x ρ => lift (tru x) ρ) fun t ρ0 => AftS X.K G.XR W (wrE a ++ (wrSs b ++ ks)) (asgSs b) σ Ws H (if t = true then (evSs G.Γ b ρ0).bd fun o ρ1 => match o with
      | .nx => whL (fun ρ => (evE G.Γ a ρ).bd fun x ρ => lift (tru x) ρ) (fun ρ => evSs G.Γ b ρ) ks n (clr ρ1 ks)
      | .ct => whL (fun ρ => (evE G.Γ a ρ).bd fun x ρ => lift (tru x) ρ) (fun ρ => evSs G.Γ b ρ) ks n (clr ρ1 ks)
      | .bk => .ok .nx (clr ρ1 ks)
      | .rt d => .ok (.rt d) ρ1
      else .ok .nx (clr ρ0 ks)) D := by
      have q3 : AftS X.K G.XR W (wrE a ++ (wrSs b ++ ks)) (asgSs b) σ Ws H (((evE G.Γ a ρ').bd fun x ρ => lift (tru x) ρ).bd _) D := q'
      cases hr : (evE G.Γ a ρ').bd fun x ρ => lift (tru x) ρ with
      | no => rw [hr] at q3; exact q3.elim
      | ok t ρ0 => rw [hr] at q3; exact q3
      | er y ρ0 =>
        rw [hr] at q3
        exact fun cls dx H3 Ws3 xr e3 g3 => q3 cls dx σ' H3 Ws3 xr e3 (g'.tr (g3.mono mem_l)) f'
    refine z2.mono fun t ρ0 q4 H1 Ws1 e1 g1 => ?_
    have g01 := g'.tr (g1.mono (wr' := wrE a ++ (wrSs b ++ ks)) mem_l)
    cases t with
    | false =>
      simp only [Bool.false_eq_true, if_false] at q4 ⊢
      exact q4 σ' H1 (clrW Ws1 ks) (e1.kills ks) (g01.kills ik) f'
    | true =>
      simp only [if_true] at q4 ⊢
      refine ⟨fun σ3 H3 => ∃ ρ' Ws', EnvOk X.K H3 σ3 ρ' Ws' ∧ Go (wrE a ++ (wrSs b ++ ks)) Ws H Ws' H3 ∧ Fr (asgSs b) σ σ3 ∧ AftS X.K G.XR W (wrE a ++ (wrSs b ++ ks)) (asgSs b) σ Ws H (whL (fun ρ => (evE G.Γ a ρ).bd fun x ρ => lift (tru x) ρ) (fun ρ => evSs G.Γ b ρ) ks n ρ') D, fun σ3 H3 p => ⟨n, Nat.lt_succ_self _, p⟩, ρ0, Ws1, e1, ?_⟩
      have low : ∀ {r0 : R Out}, AftS X.K G.XR W (wrE a ++ (wrSs b ++ ks)) (asgSs b) σ Ws H r0 D → AftS X.K G.XR W (wrSs b) (asgSs b) σ' Ws1 H1 r0 D := fun {r0} h => h.from e e1 g01 f' (fun _ h => h) ib fun _ h => h
      have again : ∀ (ρ3 : Env), AftS X.K G.XR W (wrE a ++ (wrSs b ++ ks)) (asgSs b) σ Ws H (whL (fun ρ => (evE G.Γ a ρ).bd fun x ρ => lift (tru x) ρ) (fun ρ => evSs G.Γ b ρ) ks n (clr ρ3 ks)) D → ∀ σ3 H3 Ws3, EnvOk X.K H3 σ3 ρ3 Ws3 → Go (wrSs b) Ws1 H1 Ws3 H3 → Fr (asgSs b) σ' σ3 →
          ∃ ρ' Ws', EnvOk X.K H3 σ3 ρ' Ws' ∧ Go (wrE a ++ (wrSs b ++ ks)) Ws H Ws' H3 ∧ Fr (asgSs b) σ σ3 ∧ AftS X.K G.XR W (wrE a ++ (wrSs b ++ ks)) (asgSs b) σ Ws H (whL (fun ρ => (evE G.Γ a ρ).bd fun x ρ => lift (tru x) ρ) (fun ρ => evSs G.Γ b ρ) ks n ρ') D := fun ρ3 h σ3 H3 Ws3 e3 g3 f3 =>
        ⟨clr ρ3 ks, clrW Ws3 ks, e3.kills ks, (g01.tr (g3.mono ib)).kills ik, f'.tr f3 (fun _ h => h) fun _ h => h, h⟩
      show AftS X.K G.XR W (wrSs b) (asgSs b) σ' Ws1 H1 (evSs G.Γ b ρ0) _
      cases hv : evSs G.Γ b ρ0 with
      | no => rw [hv] at q4; exact q4.elim
      | er y ρ3 =>
        rw [hv] at q4
        exact low (r0 := .er y ρ3) q4
      | ok o ρ3 =>
        rw [hv, R.bd_ok] at q4
        cases o with
        | nx => exact again ρ3 q4
        | ct => exact again ρ3 q4
        | bk =>
          intro σ3 H3 Ws3 e3 g3 f3
          exact q4 σ3 H3 (clrW Ws3 ks) (e3.kills ks) ((g01.tr (g3.mono ib)).kills ik) (f'.tr f3 (fun _ h => h) fun _ h => h)
        | rt d => exact low (r0 := .ok (.rt d) ρ3) q4
end

/-! raise, try -/
section
variable {G : Glob} {S : Sx} {W : WX} {X : Cx}
theorem Cg.tr (c : Cg G S W X) {W' : WX} {pn : List (Addr × Obj)} {xe : Value → Shared → Prop} (tk : Takes (X.tr pn xe) W') (ow : PassesOwn (model X.prog X.w) X.A X.env xe) : Cg G S W' (X.tr pn xe) where
  N := c.N
  sc := c.sc
  kind := c.kind
  fn := c.fn
  calm := c.calm
  nd := c.nd
  tk := tk
  own := ow
  room := c.room
  blt := c.blt
  tb := c.tb
  xr := c.xr
  top := c.top
  fns := c.fns
theorem pmk_own0 {C : Addr} {x : Str} {p pos : Pos} (k : ClsR X.K C) (gC : X.mg x = some (.ref C)) (hg : Gl X x) (hdb : (x == ("__debug__" : Str)) = false) : PMk X (.Call (.Name x p) [] [] pos) (fun _ H Q => Q (.ref C) none H) := by
  intro pins s σ H Q I h
  refine wpAny_Call_Name_kw (ld_glob I hg gC ?_ hdb)
  refine PySem.W.callWith_K0 I.kIn k.kp ?_
  show wpAny _ _ (call (.ref C) []) _ _ _
  obtain ⟨bm, N, nm, qn, bs, hdct, sn, sub, ab, col, dd, k0, k1, k2, k3, k5, mN, hC, hN, hni, T⟩ := exc_obj I.kIn k.ex
  refine wpAny_call_exc_subT F.excBase_ValueError T hC hN hni (fun h' e hm => ?_) (Nat.zero_le _)
  exact mk_of I hm (raises_own k.sub k.ty) h (I.hok.gone hm.new)
theorem st_rai (cg : Cg G S W X) {c : Nat} {x : Str} {p pos pos' : Pos} (h1 : S.tb.cs[c]? = some (x, 0)) (h2 : glB S.sc x = true) (h3 : dbgOk x = true) : PS X (.Raise (some (.Call (.Name x p) [] [] pos)) none pos') (tS G W X (.rai c none)) := by
  obtain ⟨C, mC, k⟩ := cg.tb.cls c x 0 h1
  refine ps_imp (ps_raise cg.calm cg.tk (pmk_own0 (k rfl) mC (cg.gl h2) (dbg_of h3).1)) fun D σ H ⟨ρ, Ws, e, q⟩ => ?_
  refine q (.ref C) none σ H Ws ?_ e Go.refl Fr.refl
  rw [cg.xr]
  exact ⟨x, 0, C, h1, mC, rfl, rfl, rfl, rfl⟩
theorem st_try (cg : Cg G S W X) {b : Ss} {c : Nat} {e : E} {body : List Stmt} {x : Str} {np : Pos} {y : Expr} {rp pos pos' : Pos} (ht : S.top = true) (h1 : S.tb.cs[c]? = some (x, 0)) (h2 : glB S.sc x = true) (h3 : dbgOk x = true) (h4 : chkL e y = true)
    (hb : ∀ (W' : WX) (X' : Cx), Cg G S W' X' → X'.K = X.K → PSs X' body (tSs G W' X' b)) : PS X (.Try body [.ExceptHandler (some (.Name x np)) none [.Return (some y) rp] pos'] [] [] pos) (tS G W X (.tryR b c (.lit e))) := by
  obtain ⟨C, mC, k⟩ := cg.tb.cls c x 0 h1
  obtain ⟨d, v, hd, hr, he⟩ := pe_lit h4
  obtain ⟨t1, t2⟩ := cg.top ht
  refine ps_imp (ps_try_only (c := .ref C) (tb := fun W' => tSs G W' X b) (ts := fun a cls dx D σ H => D.rt v H) t1 t2 ⟨cg.gl h2, (dbg_of h3).1, .inl mC⟩ cg.tk (fun W' pn xe tk ow => hb W' _ (cg.tr tk ow) rfl) (fun a oe cls dx pn _ _ => pss_imp (pss_cons (ps_ret (he _)) pss_nil) fun D σ H q => q)) fun D σ H ⟨ρ, Ws, e0, q⟩ => ?_
  refine ⟨ρ, Ws, e0, ?_⟩
  have q : AftS X.K G.XR W (wrSs b) (asgSs b) σ Ws H (match evSs G.Γ b ρ with
    | .er x ρ' => if x.cls = c then hdR (.lit e) x ρ' else .er x ρ'
    | .ok o ρ' => .ok o ρ'
    | .no => .no) D := q
  show AftS X.K G.XR _ (wrSs b) (asgSs b) σ Ws H (evSs G.Γ b ρ) D
  cases hv : evSs G.Γ b ρ with
  | ok o ρ' =>
    rw [hv] at q
    cases o <;> exact q
  | no => rw [hv] at q; exact q.elim
  | er z ρ' =>
    rw [hv] at q
    intro cls dx σ' H' Ws' xr e' g' f'
    have xr' := xr
    rw [cg.xr] at xr'
    obtain ⟨nm, kk, C', hz, mC', rfl, _⟩ := xr'
    refine ⟨_, cg.tb.exm z.cls c nm x kk 0 C' C hz h1 mC' mC, fun hy a ha => ?_, fun hn => ?_⟩
    · have hy := of_decide_eq_true hy
      simp only [hy, if_true] at q
      unfold hdR at q
      rw [show hdF (.lit e) z = some d from by cases z; exact hd] at q
      exact q v σ' H' Ws' [] e' (hr _ _) g' Kd.nil f'
    · have hn := of_decide_eq_false hn
      simp only [hn, if_false] at q
      exact q (.ref C') dx σ' H' Ws' xr e' g' f'
end
end G

/-! G5e: every statement's code is sound -/
namespace G
open PySem PySem.Spec PyProof.Rows L2
variable {G : Glob}
mutual
theorem sS : ∀ (c : StC) {S : Sx} {W : WX} {X : Cx} (s : Stmt), Cg G S W X → chkS G.fn S c s = true → PS X s (tS G W X c)
  | .set i e, S, W, X, s, cg, h => by
    cases s with
    | Assign ts v pos =>
      match ts, h with
      | [z], h =>
        cases z with
        | Name x py =>
          cases hv : isComp v with
          | false =>
            have h2 : stOk S i x = true ∧ chkE G.fn S e v = true := by
              cases v <;> first | (simp [isComp] at hv; done) | (simp only [chkS, Bool.and_eq_true] at h; exact ⟨h.1.1, h.1.2⟩)
            exact st_set cg h2.1 (sE e v cg h2.2).pe hv
          | true =>
            cases v with
            | ListComp elt gs scope p =>
              simp only [chkS, Bool.and_eq_true, and_true] at h
              obtain ⟨h1, h2⟩ := h
              cases hsw : swB S.sc x py p scope with
              | false => exact st_setP cg h1 (sE e _ cg h2).pe (.inl ⟨_, _, rfl⟩) hsw
              | true =>
              simp only [swB, Bool.and_eq_true, Bool.not_eq_true', decide_eq_true_eq] at hsw
              obtain ⟨⟨h3, h4⟩, h5⟩ := hsw
              cases e with
              | comp tg src cd c =>
                match gs, h2 with
                | [⟨t, iter, ifs, sy⟩], h2 =>
                  simp only [chkE, Bool.and_eq_true, Bool.not_eq_true', decide_eq_true_eq] at h2
                  obtain ⟨⟨⟨⟨⟨⟨k0, k1⟩, k2⟩, k3⟩, k4⟩, k5⟩, k6⟩ := h2
                  subst k0
                  exact st_setC cg h1 h3 h4 h5 k1 k2 (sSrc src t iter cg k3) k6 (fun X' c' k => sEi cd ifs c' k k4) fun X' c' k => (sE c elt c' k5).pe
                | [], h2 => simp [chkE] at h2
                | _ :: _ :: _, h2 => simp [chkE] at h2
              | _ => simp [chkE] at h2
            | SetComp _ _ _ _ => simp [chkS] at h
            | DictComp kx vx gs scope p =>
              simp only [chkS, Bool.and_eq_true, Bool.not_eq_true'] at h
              exact st_setP cg h.1.1 (sE e _ cg h.1.2).pe (.inr ⟨_, _, _, rfl⟩) h.2
            | _ => simp [isComp] at hv
        | _ => simp [chkS] at h
      | [], h => cases (show false = true from h)
      | z :: _ :: _, h => cases z <;> cases (show false = true from h)
    | _ => simp [chkS] at h
  | .tset ts e, S, W, X, s, cg, h => by
    cases s with
    | Assign tl v pos =>
      match tl, h with
      | [z], h =>
        cases z with
        | Tuple es k p =>
          have h2 : chkTs S ts es = true ∧ chkE G.fn S e v = true ∧ notTup v = true := by
            cases v <;> first | (simp [chkS] at h; done) | (simp only [chkS, Bool.and_eq_true] at h; exact ⟨h.1.1.1, h.1.1.2, rfl⟩)
          exact st_tset cg h2.1 (sE e v cg h2.2.1).pe h2.2.2
        | _ => simp [chkS] at h
      | [], h => cases (show false = true from h)
      | z :: _ :: _, h => cases z <;> cases (show false = true from h)
    | _ => simp [chkS] at h
  | .aug i o e, S, W, X, s, cg, h => by
    cases s with
    | AugAssign t p v pos =>
      cases t with
      | Name x py =>
        simp only [chkS, Bool.and_eq_true] at h
        rw [opB_eq h.1.1.2]
        exact st_aug cg h.1.1.1 h.1.2 (sE e v cg h.2).pe
      | _ => simp [chkS] at h
    | _ => simp [chkS] at h
  | .put p k e, S, W, X, s, cg, h => by
    cases s with
    | Assign tl v pos =>
      match tl, h with
      | [z], h =>
        cases z with
        | Subscript x y p1 =>
          simp only [chkS, Bool.and_eq_true] at h
          exact st_put cg (sP p x cg h.1.1.1.1) (sE k y cg h.1.1.1.2).pe (sE e v cg h.1.1.2).pe h.2
        | _ => simp [chkS] at h
      | [], h => cases (show false = true from h)
      | z :: _ :: _, h => cases z <;> cases (show false = true from h)
    | _ => simp [chkS] at h
  | .app p e, S, W, X, s, cg, h => by
    cases s with
    | Expr v pos =>
      cases v with
      | Call fn args kws cpos =>
        cases fn with
        | Attribute x m apos =>
          match args, kws, h with
          | [y], [], h =>
            simp only [chkS, Bool.and_eq_true, decide_eq_true_eq] at h
            obtain ⟨⟨⟨⟨⟨h1, h2⟩, h3⟩, h4⟩, h5⟩, h6⟩ := h
            subst h1
            exact st_app cg (sP p x cg h2) (sE e y cg h3).pe h4 h5 h6
          | [], _, h => simp [chkS] at h
          | _ :: _ :: _, _, h => simp [chkS] at h
          | [_], _ :: _, h => simp [chkS] at h
        | _ => simp [chkS] at h
      | _ => simp [chkS] at h
    | _ => simp [chkS] at h
  | .ext p e, S, W, X, s, cg, h => by
    cases s with
    | Expr v pos =>
      cases v with
      | Call fn args kws cpos =>
        cases fn with
        | Attribute x m apos =>
          match args, kws, h with
          | [y], [], h =>
            simp only [chkS, Bool.and_eq_true, decide_eq_true_eq] at h
            obtain ⟨⟨⟨⟨⟨h1, h2⟩, h3⟩, h4⟩, h5⟩, h6⟩ := h
            subst h1
            exact st_ext cg (sP p x cg h2) (sE e y cg h3).pe h4 h5 h6
          | [], _, h => simp [chkS] at h
          | _ :: _ :: _, _, h => simp [chkS] at h
          | [_], _ :: _, h => simp [chkS] at h
        | _ => simp [chkS] at h
      | _ => simp [chkS] at h
    | _ => simp [chkS] at h
  | .ex e, S, W, X, s, cg, h => by
    cases s with
    | Expr v pos =>
      simp only [chkS, Bool.and_eq_true, Bool.not_eq_true'] at h
      exact st_ex (sE e v cg h.1).pe h.2
    | _ => simp [chkS] at h
  | .ret e, S, W, X, s, cg, h => by
    cases s with
    | Return o pos =>
      cases o with
      | none => simp [chkS] at h
      | some v => exact st_ret (sE e v cg (by simpa [chkS] using h)).pe
    | _ => simp [chkS] at h
  | .retN, S, W, X, s, cg, h => by
    cases s with
    | Return o pos =>
      cases o with
      | none => exact st_retN
      | some v => simp [chkS] at h
    | _ => simp [chkS] at h
  | .ite c a b, S, W, X, s, cg, h => by
    cases s with
    | If x y z pos =>
      simp only [chkS, Bool.and_eq_true] at h
      exact st_ite ((sE c x cg h.1.1.1).pt h.1.1.2) (sSs a y cg h.1.2) (sSs b z cg h.2)
    | _ => simp [chkS] at h
  | .for tg src b ks, S, W, X, s, cg, h => by
    cases s with
    | For t iter body oe pos =>
      cases oe with
      | nil =>
        simp only [chkS, Bool.and_eq_true, Bool.not_eq_true'] at h
        exact st_for cg h.1.1.1 (sSrc src t iter cg h.1.1.2) h.2 (sSs b body cg h.1.2)
      | cons _ _ => simp [chkS] at h
    | _ => simp [chkS] at h
  | .wh c b ks, S, W, X, s, cg, h => by
    cases s with
    | While x body oe pos =>
      cases oe with
      | nil =>
        simp only [chkS, Bool.and_eq_true] at h
        exact st_wh cg ((sE c x cg h.1.1).pt h.1.2) (sSs b body cg h.2)
      | cons _ _ => simp [chkS] at h
    | _ => simp [chkS] at h
  | .brk, S, W, X, s, cg, h => by
    cases s with
    | Break pos => exact st_brk
    | _ => simp [chkS] at h
  | .cnt, S, W, X, s, cg, h => by
    cases s with
    | Continue pos => exact st_cnt
    | _ => simp [chkS] at h
  | .pass, S, W, X, s, cg, h => by
    cases s with
    | Pass pos => exact st_pass
    | _ => simp [chkS] at h
  | .rai c m, S, W, X, s, cg, h => by
    unfold chkS at h
    split at h <;> first | (cases h; done) | contradiction | skip
    rename_i h0
    cases h0
    simp only [Bool.and_eq_true, decide_eq_true_eq] at h
    exact st_rai cg h.1.1 h.1.2 h.2
  | .tryR b c hd, S, W, X, s, cg, h => by
    unfold chkS at h
    split at h <;> first | (cases h; done) | contradiction | skip
    rename_i h0
    cases h0
    simp only [Bool.and_eq_true, decide_eq_true_eq] at h
    obtain ⟨⟨⟨⟨⟨h1, h2⟩, h3⟩, h4⟩, h5⟩, h6⟩ := h
    exact st_try cg h1 h2 h3 h4 h6 fun W' X' c' k => sSs b _ c' h5
theorem sSs : ∀ (c : Ss) {S : Sx} {W : WX} {X : Cx} (xs : List Stmt), Cg G S W X → chkSs G.fn S c xs = true → PSs X xs (tSs G W X c)
  | .nil, S, W, X, [], cg, h => sts_nil
  | .nil, S, W, X, _ :: _, cg, h => by simp [chkSs] at h
  | .cons _ _, S, W, X, [], cg, h => by simp [chkSs] at h
  | .cons s r, S, W, X, x :: xs, cg, h => by
    simp only [chkSs, Bool.and_eq_true] at h
    exact sts_cons (sS s x cg h.1) (sSs r xs cg h.2)
  | .kill ks r, S, W, X, xs, cg, h => sts_kill (sSs r xs cg (by simpa [chkSs] using h))
end
end G

/-! G5f: defs -/
namespace G
open PySem PySem.Spec PyProof.Rows L2
theorem g_app (ds : List D) (n i : Nat) : g (ds.map some ++ List.replicate n none) i = ds[i]? := by
  unfold g
  by_cases h : i < ds.length
  · rw [List.getElem?_append_left (by simpa using h), List.getElem?_map]
    cases ds[i]? <;> rfl
  · rw [List.getElem?_append_right (by simpa using Nat.le_of_not_lt h), List.getElem?_eq_none (Nat.le_of_not_lt h), List.getElem?_replicate]
    split <;> rfl
theorem gV_app (vs : List V) (n i : Nat) : gV (vs.map some ++ List.replicate n none) i = vs[i]? := by
  unfold gV
  by_cases h : i < vs.length
  · rw [List.getElem?_append_left (by simpa using h), List.getElem?_map]
    cases vs[i]? <;> rfl
  · rw [List.getElem?_append_right (by simpa using Nat.le_of_not_lt h), List.getElem?_eq_none (Nat.le_of_not_lt h), List.getElem?_replicate]
    split <;> rfl
theorem g_map (ds : List D) (i : Nat) : g (ds.map some) i = ds[i]? := by
  have := g_app ds 0 i
  simpa using this
theorem gV_map (vs : List V) (i : Nat) : gV (vs.map some) i = vs[i]? := by
  have := gV_app vs 0 i
  simpa using this
theorem keepR_len (rs : List Nat) : ∀ (ρ : Env) (i : Nat), (keepR rs i ρ).length = ρ.length
  | [], _ => rfl
  | o :: r, i => by show (keepR rs (i + 1) r).length + 1 = r.length + 1; rw [keepR_len rs r]
theorem g_keepR (rs : List Nat) : ∀ (ρ : Env) (i j : Nat), g (keepR rs i ρ) j = if rs.contains (i + j) = true then g ρ j else none
  | [], i, j => by simp [keepR, g]
  | o :: r, i, 0 => by
    show g ((if rs.contains i = true then o else none) :: keepR rs (i + 1) r) 0 = _
    rw [g_cons0, g_cons0]
    rfl
  | o :: r, i, j + 1 => by
    show g (_ :: keepR rs (i + 1) r) (j + 1) = _
    rw [g_consS, g_consS, g_keepR rs r (i + 1) j]
    have : i + 1 + j = i + (j + 1) := by omega
    rw [this]
theorem g_take (ρ : Env) (n j : Nat) : g (ρ.take n) j = if j < n then g ρ j else none := by
  unfold g
  rw [List.getElem?_take]
  split <;> rfl
section
variable {P : Program} {w : World} {K : PySem.W.Frag} {mg : Str → Option Value} {base : Heap}
/-- a table of defs stands in the module -/
structure Defs (K : PySem.W.Frag) (mg : Str → Option Value) (tb : Tb) (fn : List (Str × Nat)) (T : List Fn) : Prop where
  tbk : TbOk K mg tb
  blt : ∀ x ∈ bltN, mg x = none
  defs : ∀ (i : Nat) (x : Str) (m : Nat), fn[i]? = some (x, m) → ∃ (qual : Str) (st : Stmt) (f : Addr) (fd : FuncData) (N ps : List Str) (F : Fn), mg x = some (.ref f) ∧ PySem.W.keepIn K (.ref f) = true ∧ Binds K fd ps [] ∧ Fun K x qual st f fd ∧ FnScope N ps (defScope st) ∧ ps.length = m ∧ T[i]? = some F ∧ F.pars = m ∧ F.size = N.length ∧
    (∀ r ∈ F.refs, r ∉ asgSs F.body) ∧ chkSs fn ⟨N, defScope st, fun _ => true, true, tb⟩ F.body (defBody st) = true
theorem spF_len {XR : XRT} {np : Nat} {F : List D → FR} : ∀ vs H Q E, spF K XR np F vs H Q E → vs.length = np := fun _ _ _ _ h => h.1
theorem ok1 {tb : Tb} {fn : List (Str × Nat)} {T : List Fn} (tbk : TbOk K mg tb) (blt : ∀ x ∈ bltN, mg x = none) {n i m : Nat} {x qual : Str} {st : Stmt} {f : Addr} {fd : FuncData} {N ps : List Str} {F : Fn}
    (ih : ∀ (i : Nat) (x : Str) (m : Nat), fn[i]? = some (x, m) → ∃ f fd ps, mg x = some (.ref f) ∧ PySem.W.keepIn K (.ref f) = true ∧ Binds K fd ps [] ∧ ps.length = m ∧ FnOk P w K mg base (L2.CX P w) n f fd ps (spF K (XRc mg tb) m (fns T n i)))
    (h4 : Fun K x qual st f fd) (h5 : FnScope N ps (defScope st)) (h6 : ps.length = m) (h7 : T[i]? = some F) (h8 : F.pars = m) (h9 : F.size = N.length) (h10 : ∀ r ∈ F.refs, r ∉ asgSs F.body) (h11 : chkSs fn ⟨N, defScope st, fun _ => true, true, tb⟩ F.body (defBody st) = true) :
    FnOk P w K mg base (L2.CX P w) (n + 1) f fd ps (spF K (XRc mg tb) m (fns T (n + 1) i)) := by
  refine h4.okX h5 (fun vs H Q E q => by rw [h6]; exact q.1) fun cdv A outer s H vs Q E hr hsp => ?_
  have cg : Cg ⟨fn, fns T n, XRc mg tb, n⟩ ⟨N, defScope st, fun _ => true, true, tb⟩ (fun cls dx _ H => E cls dx H) (cxOf (L2.CX P w) P w K mg base N qual (defScope st) f cdv A outer s H E) :=
    { N := rfl, sc := rfl, kind := h5.kind, fn := fun _ _ => rfl, calm := rfl, nd := h5.nd, tk := takes_of rfl rfl rfl rfl, own := passes_of rfl, room := hr, blt := blt, tb := tbk, xr := rfl, top := fun _ => ⟨rfl, rfl⟩
      fns := fun j y k hj => by
        obtain ⟨f', fd', ps', a1, a2, a3, a4, a5⟩ := ih j y k hj
        exact ⟨f', fd', ps', a1, a2, a3, a5⟩ }
  refine ⟨_, sSs F.body (defBody st) cg h11, ?_⟩
  obtain ⟨hl, ds, Wl, hdl, el, hsp⟩ := hsp
  have hrun : fns T (n + 1) i ds = runF (fns T n) F ds := by show (match T[i]? with | some F => runF (fns T n) F ds | none => .no) = _; rw [h7]
  rw [hrun] at hsp
  unfold runF at hsp
  have hlen : ds.length = F.pars := by rw [hdl, hl, h8]
  rw [if_pos hlen] at hsp
  have hpN : ps.length ≤ N.length := by
    have := congrArg List.length h5.pre
    rw [List.length_take] at this; omega
  have e0 : EnvOk K H (start N vs) (ds.map some ++ List.replicate (F.size - F.pars) none) Wl := by
    refine ⟨?_, fun j dd hj => ?_, fun j hj => ?_, el.nd, el.dj⟩
    · show (vs.map some ++ List.replicate (N.length - vs.length) none).length = _
      simp only [List.length_append, List.length_map, List.length_replicate]
      omega
    · rw [g_app] at hj
      obtain ⟨v, a, b⟩ := el.slot j dd (by rw [g_map]; exact hj)
      refine ⟨v, ?_, b⟩
      rw [gV_map] at a
      show gV (vs.map some ++ List.replicate (N.length - vs.length) none) j = _
      rw [gV_app]; exact a
    · rw [g_app] at hj
      exact el.non j (by rw [g_map]; exact hj)
  have big : ∀ k, m ≤ k → Wl k = [] := fun k hk => el.non k (by rw [g_map, List.getElem?_eq_none (by omega)])
  refine ⟨_, Wl, e0, ?_⟩
  show AftS K (XRc mg tb) (fun cls dx _ H => E cls dx H) (wrSs F.body) (asgSs F.body) (start N vs) Wl H (evSs (fns T n) F.body (ds.map some ++ List.replicate (F.size - F.pars) none)) { nx := fun _ H' => Q .non H', rt := Q }
  -- the way back
  have back : ∀ (dd : D) (ρ' : Env), (∀ v H' Wl' Wv, EnvOk K H' (vs.map some) (keepR F.refs 0 (ρ'.take F.pars)) Wl' → Rp K H' dd v Wv → Go (List.range m) Wl H Wl' H' → Kd none (List.range m) Wl H Wl' Wv → Q v H') →
      ∀ v σ' H' Ws' W', EnvOk K H' σ' ρ' Ws' → Rp K H' dd v W' → Go (wrSs F.body) Wl H Ws' H' → Kd none (wrSs F.body) Wl H Ws' W' → Fr (asgSs F.body) (start N vs) σ' → Q v H' := fun dd ρ' q v σ' H' Ws' W' e' r' g' k' f' => by
    have hlr : σ'.length = N.length := by
      rw [f'.1]
      show (vs.map some ++ List.replicate (N.length - vs.length) none).length = _
      simp only [List.length_append, List.length_map, List.length_replicate]
      omega
    have org : ∀ a, (∃ j ∈ wrSs F.body, a ∈ Wl j) ∨ H a = none → (∃ j ∈ List.range m, a ∈ Wl j) ∨ H a = none := fun a h => h.imp (fun ⟨j, _, z⟩ => ⟨j, List.mem_range.mpr (by
      by_cases y : j < m
      · exact y
      · rw [big j (Nat.le_of_not_lt y)] at z; cases z), z⟩) id
    have sub : ∀ j a, a ∈ Ws' j → (∃ j ∈ List.range m, a ∈ Wl j) ∨ H a = none := fun j a z => by
      by_cases hj : j ∈ wrSs F.body
      · exact org a (g'.sub j a hj z)
      · rw [g'.eq j hj] at z
        refine .inl ⟨j, List.mem_range.mpr ?_, z⟩
        by_cases y : j < m
        · exact y
        · rw [big j (Nat.le_of_not_lt y)] at z; cases z
    have inn : ∀ {j a}, a ∈ (if F.refs.contains j = true ∧ j < m then Ws' j else []) → F.refs.contains j = true ∧ j < m ∧ a ∈ Ws' j := fun {j a} z => by
      by_cases c : F.refs.contains j = true ∧ j < m
      · rw [if_pos c] at z; exact ⟨c.1, c.2, z⟩
      · rw [if_neg c] at z; cases z
    refine q v H' (fun j => if F.refs.contains j = true ∧ j < m then Ws' j else []) W' ⟨?_, fun j d2 hj => ?_, fun j hj => ?_, fun j => ?_, fun i j a h1 h2 => e'.dj i j a (inn h1).2.2 (inn h2).2.2⟩ r' ⟨fun a o z nn => ?_, fun j a hj z => sub j a (inn z).2.2, fun j hj => ?_⟩ ⟨k'.1, fun a ha => ⟨fun j z => (k'.2 a ha).1 j (inn z).2.2, org a (k'.2 a ha).2⟩⟩
    · rw [keepR_len, List.length_take, List.length_map, ← e'.len, hlr]
      omega
    · rw [g_keepR, g_take, Nat.zero_add] at hj
      by_cases c1 : F.refs.contains j = true
      · rw [if_pos c1] at hj
        by_cases c2 : j < F.pars
        · rw [if_pos c2] at hj
          obtain ⟨u, a1, a2⟩ := e'.slot j d2 hj
          have nj : j ∉ asgSs F.body := h10 j (List.contains_iff_mem.mp c1)
          rw [f'.2 j nj] at a1
          have a3 : gV (vs.map some ++ List.replicate (N.length - vs.length) none) j = some u := a1
          rw [gV_app] at a3
          refine ⟨u, by rw [gV_map]; exact a3, ?_⟩
          rw [if_pos ⟨c1, by omega⟩]; exact a2
        · rw [if_neg c2] at hj; cases hj
      · rw [if_neg c1] at hj; cases hj
    · rw [g_keepR, g_take, Nat.zero_add] at hj
      by_cases c : F.refs.contains j = true ∧ j < m
      · rw [if_pos c]
        rw [if_pos c.1, if_pos (by omega)] at hj
        exact e'.non j hj
      · rw [if_neg c]
    · by_cases c : F.refs.contains j = true ∧ j < m
      · rw [if_pos c]; exact e'.nd j
      · rw [if_neg c]; exact List.nodup_nil
    · refine g'.fr a o z fun j hj y => ?_
      by_cases lt : j < m
      · exact nn j (List.mem_range.mpr lt) y
      · rw [big j (Nat.le_of_not_lt lt)] at y; cases y
    · have lt : ¬ j < m := fun y => hj (List.mem_range.mpr y)
      rw [if_neg fun c => lt c.2, big j (Nat.le_of_not_lt lt)]
  cases hv : evSs (fns T n) F.body (ds.map some ++ List.replicate (F.size - F.pars) none) with
  | no => rw [hv] at hsp; exact hsp.elim
  | er z ρ' =>
    rw [hv] at hsp
    exact fun cls dx σ' H' Ws' xr e' g' f' => hsp cls dx H' xr fun a o ha hn => g'.fr a o ha fun j _ => hn j
  | ok o ρ' =>
    rw [hv] at hsp
    cases o with
    | nx => exact fun σ' H' Ws' e' g' f' => back .non ρ' hsp .non σ' H' Ws' [] e' ⟨rfl, rfl⟩ g' Kd.nil f'
    | bk => exact hsp.elim
    | ct => exact hsp.elim
    | rt dd => exact back dd ρ' hsp
theorem Defs.ok {tb : Tb} {fn : List (Str × Nat)} {T : List Fn} (d : Defs K mg tb fn T) : ∀ (n i : Nat) (x : Str) (m : Nat), fn[i]? = some (x, m) →
    ∃ f fd ps, mg x = some (.ref f) ∧ PySem.W.keepIn K (.ref f) = true ∧ Binds K fd ps [] ∧ ps.length = m ∧ FnOk P w K mg base (L2.CX P w) n f fd ps (spF K (XRc mg tb) m (fns T n i))
  | 0, i, x, m, h => by
    obtain ⟨qual, st, f, fd, N, ps, F, h1, h2, h3, h4, h5, h6, _⟩ := d.defs i x m h
    refine ⟨f, fd, ps, h1, h2, h3, h6, ⟨fun vs H Q E q => by rw [h6]; exact q.1, fun A outer s H args us vs Q E _ _ _ _ q => ?_⟩⟩
    obtain ⟨_, ds, Wl, _, _, q⟩ := q
    exact False.elim q
  | n + 1, i, x, m, h => by
    obtain ⟨qual, st, f, fd, N, ps, F, h1, h2, h3, h4, h5, h6, h7, h8, h9, h10, h11⟩ := d.defs i x m h
    exact ⟨f, fd, ps, h1, h2, h3, h6, ok1 d.tbk d.blt (Defs.ok d n) h4 h5 h6 h7 h8 h9 h10 h11⟩
end
end G

/-! G5g: the law's end -/
namespace G
open PySem PySem.Spec PyProof.Rows L2
theorem rps_ints {K : PySem.W.Frag} {H : Hp} : ∀ ns : List Int, Rps K H (ns.map D.int) (ns.map V.int) []
  | [] => Rps.nil
  | n :: ns => Rps.cons (W := []) ⟨rfl, rfl⟩ (rps_ints ns)
theorem sqF_of {K : PySem.W.Frag} {H : Hp} {a : Addr} {xs : List V} (o : Only H) (h : SqL K H a xs) : SqF K H a xs := by
  rcases h with (h | ⟨ob, h⟩) | h
  · rcases o a with z | ⟨ob, ys, z⟩
    · rw [z] at h; cases h
    · rw [z] at h; cases h
  · exact .inl ⟨ob, h⟩
  · exact .inr h
/-- the law's promise from its evaluation -/
theorem law_sp {K : PySem.W.Frag} {XR : XRT} {F : List D → FR} {ns : List Int} {rs : Env} {H : Hp} {a : Addr} (h : F [.fls (ns.map D.int)] = .ok (.bl true) rs) (o : Only H) (s : SqL K H a (ns.map V.int)) : spF K XR 1 F [.ref a] H (fun v _ => v = .bl true) fun _ _ _ => False := by
  refine ⟨rfl, [.fls (ns.map D.int)], _, rfl, EnvOk.cons (v := .ref a) (x := .fls (ns.map D.int)) (W := []) EnvOk.nil ⟨a, _, rfl, sqF_of o s, rps_ints ns⟩ List.nodup_nil (fun _ z => nomatch z), ?_⟩
  rw [h]
  intro v H' Wl' Wv _ r _ _
  exact r.1
theorem cx_none {P : Program} {w : World} {H : Hp} {s : Shared} {e : Value} {s' : Shared} (h : L2.CX P w [] H s (fun _ _ _ => False) e s') : False := by
  obtain ⟨_, _, _, _, _, _, _, _, _, _, _, _, z⟩ := h
  exact z
/-- every exception may stand for one of ours -/
def XR1 : XRT := fun _ _ _ _ => True
theorem spF_top {P : Program} {w : World} {K : PySem.W.Frag} {mg : Str → Option Value} {base : Heap} {XR : XRT} {n np : Nat} {f : Addr} {fd : FuncData} {ps : List Str} {F : List D → FR} (h : FnOk P w K mg base (L2.CX P w) n f fd ps (spF K XR np F)) : FnOk P w K mg base (L2.CX P w) n f fd ps (spF K XR1 np F) := by
  have im : ∀ vs H Q E, spF K XR1 np F vs H Q E → spF K XR np F vs H Q E := fun vs H Q E ⟨h1, ds, Wl, h2, h3, h4⟩ => by
    refine ⟨h1, ds, Wl, h2, h3, ?_⟩
    cases hF : F ds with
    | ok d rs => rw [hF] at h4; exact h4
    | no => rw [hF] at h4; exact h4.elim
    | er x => rw [hF] at h4; exact fun cls dx H' _ fr => h4 cls dx H' trivial fr
  exact ⟨fun vs H Q E q => h.len vs H Q E (im vs H Q E q), fun A outer s H args us vs Q E h1 h2 h3 h4 q => h.run A outer s H args us vs Q E h1 h2 h3 h4 (im vs H Q E q)⟩
theorem lookup_mem {α β : Type} [BEq α] [LawfulBEq α] : ∀ {l : List (α × β)} {x : α} {y : β}, l.lookup x = some y → (x, y) ∈ l
  | [], _, _, h => nomatch h
  | (a, b) :: l, x, y, h => by
    rw [List.lookup_cons] at h
    split at h
    · rename_i e
      cases h
      have := eq_of_beq e
      subst this
      exact List.mem_cons_self
    · exact List.mem_cons_of_mem _ (lookup_mem h)
/-- how one def stands -/
theorem def_mk {K : PySem.W.Frag} {mg : Str → Option Value} {tb : Tb} {fn : List (Str × Nat)} {T : List Fn} {x : Str} {m i : Nat} {qual : Str} {st : Stmt} {f : Addr} {fd : FuncData} {N ps : List Str} (F : Fn) (h1 : mg x = some (.ref f)) (Fu : Fun K x qual st f fd) (b : Binds K fd ps []) (sc : FnScope N ps (defScope st))
    (hF : T[i]? = some F) (hc : (decide (ps.length = m) && decide (F.pars = m) && decide (F.size = N.length) && F.refs.all (fun r => !(asgSs F.body).contains r) && chkSs fn ⟨N, defScope st, fun _ => true, true, tb⟩ F.body (defBody st)) = true) :
    ∃ (qual : Str) (st : Stmt) (f : Addr) (fd : FuncData) (N ps : List Str) (F : Fn), mg x = some (.ref f) ∧ PySem.W.keepIn K (.ref f) = true ∧ Binds K fd ps [] ∧ Fun K x qual st f fd ∧ FnScope N ps (defScope st) ∧ ps.length = m ∧ T[i]? = some F ∧ F.pars = m ∧ F.size = N.length ∧
    (∀ r ∈ F.refs, r ∉ asgSs F.body) ∧ chkSs fn ⟨N, defScope st, fun _ => true, true, tb⟩ F.body (defBody st) = true := by
  simp only [Bool.and_eq_true, decide_eq_true_eq, List.all_eq_true, Bool.not_eq_true'] at hc
  obtain ⟨⟨⟨⟨c1, c2⟩, c3⟩, c4⟩, c5⟩ := hc
  exact ⟨qual, st, f, fd, N, ps, F, h1, Fu.kp, b, Fu, sc, c1, hF, c2, c3, (fun r hr z => by have := c4 r hr; rw [List.contains_iff_mem.mpr z] at this; cases this), c5⟩
end G

/-! the codes of k14_squares_and_round_words, printed by gen.py -/
namespace C_k14
open G
/-- has_square: 0 word 1 place 2 length -/
def c0 : Ss := (.cons (.for (.v 1) (.r1 (.bi .len (.var 0))) (.cons (.for (.v 2) (.r2 (.int 1) (.bin .add (.bin .fdiv (.bin .sub (.bi .len (.var 0)) (.var 1)) (.int 2)) (.int 1))) (.cons (.ite (.cmp .eq (.sl (.var 0) (.som (.var 1)) (.som (.bin .add (.var 1) (.var 2)))) (.sl (.var 0) (.som (.bin .add (.var 1) (.var 2))) (.som (.bin .add (.var 1) (.bin .mul (.int 2) (.var 2)))))) (.cons (.ret (.tup (.cons (.var 1) (.cons (.var 2) .nil)))) .nil) .nil) .nil) [2]) .nil) [1, 2]) (.cons (.ret .non) .nil))
def f0 : Fn := ⟨3, 1, [], c0⟩
/-- power: 0 base 1 exponent 2 found 3 _ -/
def c1 : Ss := (.cons (.set 2 (.int 1)) (.cons (.for (.v 3) (.r1 (.var 1)) (.cons (.aug 2 .mul (.var 0)) .nil) [3]) (.cons (.ret (.var 2)) .nil)))
def f1 : Fn := ⟨4, 2, [], c1⟩
/-- rings: 0 word 1 n 2 closed 3 place -/
def c2 : Ss := (.cons (.set 2 (.bin .add (.var 0) (.sl (.var 0) .non (.som (.bin .sub (.var 1) (.int 1)))))) (.cons (.ret (.comp (.v 3) (.r1 (.bi .len (.var 0))) .non (.sl (.var 2) (.som (.var 3)) (.som (.bin .add (.var 3) (.var 1)))))) .nil))
def f2 : Fn := ⟨4, 2, [], c2⟩
/-- stands_once: 0 alphabet 1 n 2 word 3 found 4 sign 5 own -/
def c3 : Ss := (.cons (.ite (.or (.not (.bi .all (.comp (.v 4) (.e (.var 2)) .non (.cmp .inn (.var 4) (.var 0))))) (.cmp .lt (.bi .len (.var 2)) (.var 1))) (.cons (.ret (.bl false)) .nil) .nil) (.cons (.set 3 (.call 2 (.val (.var 2) (.val (.var 1) .nil)))) (.cons (.ret (.cmp2 .eq .eq (.bi .len (.var 3)) (.call 1 (.val (.bi .len (.var 0)) (.val (.var 1) .nil))) (.bi .len (.dcl 5 (.var 3) (.bl true))))) .nil)))
def f3 : Fn := ⟨6, 3, [], c3⟩
/-- prime_words: 0 alphabet 1 most 2 found 3 word 4 longer -/
def c4 : Ss := (.cons (.set 2 (.lst .nil)) (.cons (.set 3 (.ix (.var 0) (.int 0))) (.cons (.wh (.cmp .ne (.var 3) (.str [])) (.cons (.app (.v 2) (.var 3)) (.cons (.set 4 (.sl (.bin .mul (.var 3) (.bin .add (.bin .fdiv (.var 1) (.bi .len (.var 3))) (.int 1))) .non (.som (.var 1)))) (.cons (.wh (.and (.cmp .ne (.var 4) (.str [])) (.cmp .eq (.ix (.var 4) (.neg (.int 1))) (.ix (.var 0) (.neg (.int 1))))) (.cons (.set 4 (.sl (.var 4) .non (.som (.neg (.int 1))))) .nil) []) (.cons (.set 3 (.ite (.cmp .ne (.var 4) (.str [])) (.bin .add (.sl (.var 4) .non (.som (.neg (.int 1)))) (.ix (.var 0) (.bin .add (.sidx (.var 0) (.ix (.var 4) (.neg (.int 1)))) (.int 1)))) (.str []))) .nil)))) [4]) (.cons (.ret (.mv 2)) .nil))))
def f4 : Fn := ⟨5, 2, [], c4⟩
/-- round_word: 0 alphabet 1 n 2 word -/
def c5 : Ss := (.cons (.ite (.cmp .gt (.call 1 (.val (.bi .len (.var 0)) (.val (.var 1) .nil))) (.int 300)) (.cons (.rai 0 none) .nil) .nil) (.cons (.ret (.join (.str []) (.comp (.v 2) (.e (.call 4 (.val (.var 0) (.val (.var 1) .nil)))) (.som (.cmp .eq (.bin .mod (.var 1) (.bi .len (.var 2))) (.int 0))) (.var 2)))) .nil))
def f5 : Fn := ⟨3, 2, [], c5⟩
/-- _law_begin: 0 script 1 seed 2 cell -/
def c6 : Ss := (.cons (.set 1 (.int 1)) (.cons (.for (.v 2) (.e (.var 0)) (.cons (.set 1 (.bin .mod (.bin .add (.bin .add (.bin .mul (.var 1) (.int 69621)) (.bin .mod (.bi .int (.var 2)) (.int 2147483629))) (.int 7)) (.int 2147483647))) .nil) [2]) (.cons (.ret (.lst (.cons (.bi .list (.var 0)) (.cons (.int 0) (.cons (.int 0) (.cons (.var 1) .nil)))))) .nil)))
def f6 : Fn := ⟨3, 1, [], c6⟩
/-- _law_take: 0 d 1 many 2 small 3 digit -/
def c7 : Ss := (.cons (.ite (.and (.cmp .eq (.ix (.var 0) (.int 2)) (.int 0)) (.cmp .lt (.ix (.var 0) (.int 1)) (.bi .len (.ix (.var 0) (.int 0))))) (.cons (.put (.v 0) (.int 2) (.bi .abs (.bi .int (.ix (.ix (.var 0) (.int 0)) (.ix (.var 0) (.int 1)))))) (.cons (.put (.v 0) (.int 1) (.bin .add (.ix (.var 0) (.int 1)) (.int 1))) (.cons (.ite (.cmp .lt (.ix (.var 0) (.int 2)) (.bin .pow (.int 10) (.int 18))) (.cons (.set 2 (.bi .int (.ix (.var 0) (.int 2)))) (.cons (.put (.v 0) (.int 2) (.int 0)) (.cons (.ret (.bin .mod (.var 2) (.var 1))) .nil))) .nil) .nil))) .nil) (.cons (.ite (.cmp .gt (.ix (.var 0) (.int 2)) (.int 0)) (.cons (.set 3 (.bin .mod (.bi .int (.ix (.var 0) (.int 2))) (.var 1))) (.cons (.put (.v 0) (.int 2) (.bin .fdiv (.bi .int (.ix (.var 0) (.int 2))) (.var 1))) (.cons (.ret (.var 3)) .nil))) .nil) (.cons (.put (.v 0) (.int 3) (.bin .mod (.bi .int (.bin .add (.bin .mul (.ix (.var 0) (.int 3)) (.int 48271)) (.int 11))) (.int 2147483647))) (.cons (.ret (.bin .mod (.bi .int (.bin .fdiv (.ix (.var 0) (.int 3)) (.int 3))) (.var 1))) .nil))))
def f7 : Fn := ⟨4, 2, [0], c7⟩
/-- _law_pick: 0 d 1 menu -/
def c8 : Ss := (.cons (.ret (.ix (.var 1) (.call 7 (.ref 0 (.val (.bi .len (.var 1)) .nil))))) .nil)
def f8 : Fn := ⟨2, 2, [0], c8⟩
/-- _law_all: 0 alphabet 1 length 2 level 3 words 4 k -/
def c9 : Ss := (.cons (.set 2 (.lst (.cons (.str []) .nil))) (.cons (.set 3 (.lst (.cons (.str []) .nil))) (.cons (.for (.v 4) (.r1 (.var 1)) (.cons (.set 2 (.call 10 (.val (.var 0) (.val (.mv 2) .nil)))) (.cons (.set 3 (.bin .add (.var 3) (.var 2))) .nil)) [4]) (.cons (.ret (.mv 3)) .nil))))
def f9 : Fn := ⟨5, 2, [], c9⟩
/-- _law_longer: 0 alphabet 1 level 2 words 3 word 4 sign -/
def c10 : Ss := (.cons (.set 2 (.lst .nil)) (.cons (.for (.v 3) (.e (.mv 1)) (.cons (.ext (.v 2) (.comp (.v 4) (.e (.var 0)) .non (.bin .add (.var 3) (.var 4)))) .nil) [3, 4]) (.cons (.ret (.mv 2)) .nil)))
def f10 : Fn := ⟨5, 2, [], c10⟩
/-- _law_is_large: 0 alphabet 1 n -/
def c11 : Ss := (.cons (.tryR (.cons (.ex (.call 5 (.val (.var 0) (.val (.var 1) .nil)))) .nil) 0 (.lit (.bl true))) (.cons (.ret (.bl false)) .nil))
def f11 : Fn := ⟨2, 2, [], c11⟩
/-- _law_once: 0 alphabet 1 n 2 word 3 closed 4 parts 5 many 6 k 7 good 8 sign -/
def c12 : Ss := (.cons (.set 3 (.bin .add (.var 2) (.sl (.var 2) .non (.som (.bin .sub (.var 1) (.int 1)))))) (.cons (.set 4 (.comp (.v 6) (.r1 (.bi .len (.var 2))) .non (.sl (.var 3) (.som (.var 6)) (.som (.bin .add (.var 6) (.var 1)))))) (.cons (.set 5 (.int 1)) (.cons (.for (.v 6) (.r1 (.var 1)) (.cons (.set 5 (.bin .mul (.var 5) (.bi .len (.var 0)))) .nil) [6]) (.cons (.set 7 (.and (.cmp .ge (.bi .len (.var 2)) (.var 1)) (.bi .all (.comp (.v 8) (.e (.var 2)) .non (.cmp .inn (.var 8) (.var 0)))))) (.cons (.ret (.and (.var 7) (.and (.cmp .eq (.bi .len (.var 4)) (.var 5)) (.cmp .eq (.lset (.var 4)) (.var 5))))) .nil))))))
def f12 : Fn := ⟨9, 3, [], c12⟩
/-- law: 0 script 1 d 2 word 3 due 4 a 5 size 6 alphabet 7 n 8 told 9 best 10 own 11 turn 12 at 13 sign 14 bent 15 k -/
def c13 : Ss := (.cons (.set 1 (.call 6 (.val (.var 0) .nil))) (.cons (.set 2 (.join (.str []) (.comp (.v 15) (.r1 (.call 7 (.ref 1 (.val (.int 13) .nil)))) .non (.call 8 (.ref 1 (.val (.str [97, 98, 99]) .nil)))))) (.cons (.set 3 .non) (.cons (.for (.v 4) (.r1 (.bi .len (.var 2))) (.cons (.for (.v 5) (.r2 (.int 1) (.bi .len (.var 2))) (.cons (.ite (.and (.cmp .isn (.var 3) .non) (.and (.cmp .le (.bin .add (.var 4) (.bin .mul (.int 2) (.var 5))) (.bi .len (.var 2))) (.cmp .eq (.sl (.var 2) (.som (.var 4)) (.som (.bin .add (.var 4) (.var 5)))) (.sl (.var 2) (.som (.bin .add (.var 4) (.var 5))) (.som (.bin .add (.var 4) (.bin .mul (.int 2) (.var 5)))))))) (.cons (.set 3 (.tup (.cons (.var 4) (.cons (.var 5) .nil)))) .nil) .nil) .nil) [5]) .nil) [4, 5]) (.cons (.ite (.cmp .ne (.call 0 (.val (.var 2) .nil)) (.var 3)) (.cons (.ret (.bl false)) .nil) .nil) (.cons (.tset (.cons (.v 6) (.cons (.v 7) .nil)) (.call 8 (.ref 1 (.val (.lst (.cons (.tup (.cons (.str [97, 98]) (.cons (.int 1) .nil))) (.cons (.tup (.cons (.str [97, 98]) (.cons (.int 2) .nil))) (.cons (.tup (.cons (.str [97, 98]) (.cons (.int 3) .nil))) (.cons (.tup (.cons (.str [97, 98]) (.cons (.int 4) .nil))) (.cons (.tup (.cons (.str [97, 98, 99]) (.cons (.int 1) .nil))) (.cons (.tup (.cons (.str [97, 98, 99]) (.cons (.int 2) .nil))) (.cons (.tup (.cons (.str [97]) (.cons (.int 1) .nil))) (.cons (.tup (.cons (.str [97]) (.cons (.int 3) .nil))) (.cons (.tup (.cons (.str [97, 98, 99, 100]) (.cons (.int 2) .nil))) (.cons (.tup (.cons (.str [97, 98, 99]) (.cons (.int 3) .nil))) .nil))))))))))) .nil)))) (.cons (.set 8 (.call 5 (.val (.var 6) (.val (.var 7) .nil)))) (.cons (.ite (.and (.cmp .ge (.bi .len (.var 8)) (.var 7)) (.not (.call 12 (.val (.var 6) (.val (.var 7) (.val (.var 8) .nil)))))) (.cons (.ret (.bl false)) .nil) .nil) (.cons (.ite (.and (.cmp .inn (.var 6) (.tup (.cons (.str [97, 98]) (.cons (.str [97, 98, 99]) .nil)))) (.and (.cmp .le (.bi .len (.var 8)) (.int 9)) (.cmp .gt (.var 7) (.int 1)))) (.cons (.set 9 .non) (.cons (.for (.v 10) (.e (.call 9 (.val (.var 6) (.val (.bi .len (.var 8)) .nil)))) (.cons (.ite (.and (.cmp .isn (.var 9) .non) (.and (.cmp .eq (.bi .len (.var 10)) (.bi .len (.var 8))) (.call 12 (.val (.var 6) (.val (.var 7) (.val (.var 10) .nil)))))) (.cons (.set 9 (.var 10)) .nil) .nil) .nil) [10]) (.cons (.ite (.cmp .ne (.var 8) (.var 9)) (.cons (.ret (.bl false)) .nil) .nil) .nil))) .nil) (.cons (.for (.v 11) (.r1 (.int 4)) (.cons (.set 12 (.call 7 (.ref 1 (.val (.bin .add (.bi .len (.var 8)) (.int 1)) .nil)))) (.cons (.set 13 (.call 8 (.ref 1 (.val (.bin .add (.bi .list (.var 6)) (.lst (.cons (.str [122]) .nil))) .nil)))) (.cons (.set 14 (.call 8 (.ref 1 (.val (.lst (.cons (.bin .add (.sl (.var 8) (.som (.var 12)) .non) (.sl (.var 8) .non (.som (.var 12)))) (.cons (.bin .add (.bin .add (.sl (.var 8) .non (.som (.var 12))) (.var 13)) (.sl (.var 8) (.som (.bin .add (.var 12) (.int 1))) .non)) (.cons (.bin .add (.sl (.var 8) .non (.som (.var 12))) (.sl (.var 8) (.som (.bin .add (.var 12) (.int 1))) .non)) (.cons (.var 8) .nil))))) .nil)))) (.cons (.ite (.cmp .ne (.call 3 (.val (.var 6) (.val (.var 7) (.val (.var 14) .nil)))) (.call 12 (.val (.var 6) (.val (.var 7) (.val (.var 14) .nil))))) (.cons (.ret (.bl false)) .nil) .nil) .nil)))) [11, 12, 13, 14]) (.cons (.ret (.and (.call 11 (.val (.str [97, 98, 99, 100]) (.val (.int 5) .nil))) (.not (.call 11 (.val (.str [97, 98, 99, 100]) (.val (.int 4) .nil)))))) .nil)))))))))))
def f13 : Fn := ⟨16, 1, [], c13⟩
def T : List Fn := [f0, f1, f2, f3, f4, f5, f6, f7, f8, f9, f10, f11, f12, f13]
end C_k14

/-! H1: plain reasoning about the evaluator -/
namespace Wk
open G
/-- the run comes to something with Q -/
def Wp {α : Type} (r : R α) (Q : α → Env → Prop) : Prop := match r with
  | .ok a ρ => Q a ρ
  | _ => False
def WpF (r : FR) (Q : D → Env → Prop) : Prop := match r with
  | .ok d rs => Q d rs
  | _ => False
theorem wp_ok {α : Type} (a : α) (ρ : Env) (Q : α → Env → Prop) : Wp (.ok a ρ) Q = Q a ρ := rfl
theorem wp_bd {α β : Type} (r : R α) (f : α → Env → R β) (Q : β → Env → Prop) : Wp (r.bd f) Q = Wp r fun a ρ => Wp (f a ρ) Q := by cases r <;> rfl
theorem wp_lift {α : Type} (o : Option α) (ρ : Env) (Q : α → Env → Prop) : Wp (lift o ρ) Q = ∃ a, o = some a ∧ Q a ρ := by
  cases o with
  | none => exact propext ⟨fun h => h.elim, fun ⟨_, h, _⟩ => nomatch h⟩
  | some b => exact propext ⟨fun h => ⟨b, rfl, h⟩, fun ⟨_, h, q⟩ => by cases h; exact q⟩
theorem wp_some {α : Type} (a : α) (ρ : Env) (Q : α → Env → Prop) : Wp (lift (some a) ρ) Q = Q a ρ := rfl
theorem wp_mono {α : Type} {r : R α} {Q Q' : α → Env → Prop} (h : Wp r Q) (m : ∀ a ρ, Q a ρ → Q' a ρ) : Wp r Q' := by
  cases r with
  | ok a ρ => exact m a ρ h
  | er x ρ => exact h.elim
  | no => exact h.elim
theorem wpf_mono {r : FR} {Q Q' : D → Env → Prop} (h : WpF r Q) (m : ∀ a ρ, Q a ρ → Q' a ρ) : WpF r Q' := by
  cases r with
  | ok a ρ => exact m a ρ h
  | er x => exact h.elim
  | no => exact h.elim
theorem wp_ite {α : Type} {c : Prop} [Decidable c] {r s : R α} {Q : α → Env → Prop} : Wp (if c then r else s) Q = if c then Wp r Q else Wp s Q := by split <;> rfl
/-- a call -/
theorem wp_call {Γ : Fns} {f : Nat} {as : List Ag} {ρ ρ1 : Env} {ds : List D} {Q : D → Env → Prop} {P : D → Env → Prop} (ht : takeA as ρ = some (ds, ρ1)) (h : WpF (Γ f ds) P) (q : ∀ d rs, P d rs → ∃ ρ2, giveA as rs ρ1 = some ρ2 ∧ Q d ρ2) : Wp (callR Γ f as ρ) Q := by
  unfold callR
  rw [ht]
  cases hr : Γ f ds with
  | no => rw [hr] at h; exact h.elim
  | er x => rw [hr] at h; exact h.elim
  | ok d rs =>
    rw [hr] at h
    obtain ⟨ρ2, e, q⟩ := q d rs h
    show Wp (match Γ f ds with
      | .ok d refs => (match giveA as refs ρ1 with
        | some ρ2 => R.ok d ρ2
        | none => .no)
      | .er x => .er x ρ1
      | .no => .no) Q
    rw [hr]
    show Wp (match giveA as rs ρ1 with
        | some ρ2 => R.ok d ρ2
        | none => .no) Q
    rw [e]
    exact q
/-- a for loop, by what holds when the items xs are still to come -/
theorem wp_for {bind : D → Env → Option Env} {body : Env → R Out} {ks : List Nat} {Q : Out → Env → Prop} (I : List D → Env → Prop) : ∀ (xs : List D) (ρ : Env), I xs ρ → (∀ ρ, I [] ρ → Q .nx ρ) →
    (∀ x xs ρ, I (x :: xs) ρ → ∃ ρ0, bind x ρ = some ρ0 ∧ Wp (body ρ0) fun o ρ1 => match o with
      | .nx => I xs (clr ρ1 ks)
      | .ct => I xs (clr ρ1 ks)
      | .bk => Q .nx (clr ρ1 ks)
      | .rt d => Q (.rt d) ρ1) → Wp (forL bind body ks xs ρ) Q
  | [], ρ, i, e, s => e ρ i
  | x :: xs, ρ, i, e, s => by
    obtain ⟨ρ0, hb, hw⟩ := s x xs ρ i
    show Wp ((lift (bind x ρ) ρ).bd _) Q
    rw [hb, wp_bd, wp_some, wp_bd]
    refine wp_mono hw fun o ρ1 h => ?_
    cases o with
    | nx => exact wp_for I xs _ h e s
    | ct => exact wp_for I xs _ h e s
    | bk => exact h
    | rt d => exact h
/-- a while loop, with a measure -/
theorem wp_wh {c : Env → R Bool} {body : Env → R Out} {ks : List Nat} {Q : Out → Env → Prop} (I : Nat → Env → Prop) (s : ∀ m ρ, I m ρ → Wp (c ρ) fun b ρ0 => if b = true then Wp (body ρ0) fun o ρ1 => match o with
      | .nx => ∃ k, k < m ∧ I k (clr ρ1 ks)
      | .ct => ∃ k, k < m ∧ I k (clr ρ1 ks)
      | .bk => Q .nx (clr ρ1 ks)
      | .rt d => Q (.rt d) ρ1
    else Q .nx (clr ρ0 ks)) : ∀ (n m : Nat) (ρ : Env), m < n → I m ρ → Wp (whL c body ks n ρ) Q
  | 0, m, ρ, h, _ => by omega
  | n + 1, m, ρ, h, i => by
    show Wp ((c ρ).bd _) Q
    rw [wp_bd]
    refine wp_mono (s m ρ i) fun b ρ0 hb => ?_
    cases b with
    | false =>
      simp only [Bool.false_eq_true, if_false] at hb ⊢
      exact hb
    | true =>
      simp only [if_true] at hb ⊢
      rw [wp_bd]
      refine wp_mono hb fun o ρ1 ho => ?_
      cases o with
      | nx => obtain ⟨k, hk, q⟩ := ho; exact wp_wh I s n k _ (by omega) q
      | ct => obtain ⟨k, hk, q⟩ := ho; exact wp_wh I s n k _ (by omega) q
      | bk => exact ho
      | rt d => exact ho
/-- a comprehension, its values told one by one -/
theorem wp_comp {bind : D → Env → Option Env} {c : Env → R Bool} {e : Env → R D} {Q : List D → Env → Prop} (I : List D → List D → Env → Prop) : ∀ (xs ys : List D) (ρ : Env), I xs ys ρ → (∀ ys ρ, I [] ys ρ → ∀ zs, zs = ys → Q zs ρ) →
    (∀ x xs ys ρ, I (x :: xs) ys ρ → ∃ ρ0, bind x ρ = some ρ0 ∧ Wp (c ρ0) fun b ρ1 => if b = true then Wp (e ρ1) fun d ρ2 => I xs (ys ++ [d]) ρ2 else I xs ys ρ1) → Wp (compL bind c e xs ρ) fun zs ρ => Q (ys ++ zs) ρ
  | [], ys, ρ, i, q, s => by show Q (ys ++ []) ρ; rw [List.append_nil]; exact q ys ρ i ys rfl
  | x :: xs, ys, ρ, i, q, s => by
    obtain ⟨ρ0, hb, hw⟩ := s x xs ys ρ i
    show Wp ((lift (bind x ρ) ρ).bd _) _
    rw [hb, wp_bd, wp_some, wp_bd]
    refine wp_mono hw fun b ρ1 h => ?_
    cases b with
    | false =>
      simp only [Bool.false_eq_true, if_false] at h ⊢
      exact wp_comp I xs ys ρ1 h q s
    | true =>
      simp only [if_true] at h ⊢
      rw [wp_bd]
      refine wp_mono h fun d ρ2 h => ?_
      rw [wp_bd]
      refine wp_mono (wp_comp I xs (ys ++ [d]) ρ2 h q s) fun zs ρ3 h => ?_
      rw [wp_ok]
      simpa using h
/-! ### codes, one after another -/
section
variable {Γ : Fns} {ρ : Env} {Q : D → Env → Prop} {QO : Out → Env → Prop}
theorem e_var {i : Nat} {d : D} (h : g ρ i = some d) (q : Q d ρ) : Wp (evE Γ (.var i) ρ) Q := by show Wp (lift (g ρ i) ρ) Q; rw [h]; exact q
theorem e_mv {i : Nat} {d : D} (h : g ρ i = some d) (q : Q d (ρ.set i none)) : Wp (evE Γ (.mv i) ρ) Q := by show Wp ((lift (g ρ i) ρ).bd _) Q; rw [h]; exact q
theorem e_int {i : Int} (q : Q (.int i) ρ) : Wp (evE Γ (.int i) ρ) Q := q
theorem e_str {l : List Nat} (q : Q (.str l) ρ) : Wp (evE Γ (.str l) ρ) Q := q
theorem e_bl {b : Bool} (q : Q (.bl b) ρ) : Wp (evE Γ (.bl b) ρ) Q := q
theorem e_non (q : Q .non ρ) : Wp (evE Γ .non ρ) Q := q
theorem e_neg {a : E} (q : Wp (evE Γ a ρ) fun x ρ => ∃ i, x = .int i ∧ Q (.int (-i)) ρ) : Wp (evE Γ (.neg a) ρ) Q := by
  show Wp ((evE Γ a ρ).bd _) Q
  rw [wp_bd]
  exact wp_mono q fun x ρ ⟨i, h, q⟩ => by subst h; exact q
theorem e_bin {o : BOp} {a b : E} (q : Wp (evE Γ a ρ) fun x ρ => Wp (evE Γ b ρ) fun y ρ => safe (md a) (wrE b) x = true ∧ ∃ z, binF o x y = some z ∧ Q z ρ) : Wp (evE Γ (.bin o a b) ρ) Q := by
  show Wp ((evE Γ a ρ).bd _) Q
  rw [wp_bd]
  refine wp_mono q fun x ρ q => ?_
  rw [wp_bd]
  refine wp_mono q fun y ρ ⟨s, z, h, q⟩ => ?_
  rw [if_pos s, h]
  exact q
theorem e_cmp {o : COp} {a b : E} (q : Wp (evE Γ a ρ) fun x ρ => Wp (evE Γ b ρ) fun y ρ => safe (md a) (wrE b) x = true ∧ ∃ z, cmpF o x y = some z ∧ Q (.bl z) ρ) : Wp (evE Γ (.cmp o a b) ρ) Q := by
  show Wp ((evE Γ a ρ).bd _) Q
  rw [wp_bd]
  refine wp_mono q fun x ρ q => ?_
  rw [wp_bd]
  refine wp_mono q fun y ρ ⟨s, z, h, q⟩ => ?_
  rw [if_pos s, h]
  exact q
theorem e_and {a b : E} (q : Wp (evE Γ a ρ) fun x ρ => ∃ t, x = .bl t ∧ (t = true → Wp (evE Γ b ρ) fun y ρ => ∃ c, y = .bl c ∧ Q (.bl c) ρ) ∧ (t = false → Q (.bl false) ρ)) : Wp (evE Γ (.and a b) ρ) Q := by
  show Wp ((evE Γ a ρ).bd _) Q
  rw [wp_bd]
  refine wp_mono q fun x ρ ⟨t, h, q1, q2⟩ => ?_
  subst h
  cases t with
  | false => exact q2 rfl
  | true =>
    show Wp ((evE Γ b ρ).bd _) Q
    rw [wp_bd]
    exact wp_mono (q1 rfl) fun y ρ ⟨c, h, q⟩ => by subst h; exact q
theorem e_or {a b : E} (q : Wp (evE Γ a ρ) fun x ρ => ∃ t, x = .bl t ∧ (t = false → Wp (evE Γ b ρ) fun y ρ => ∃ c, y = .bl c ∧ Q (.bl c) ρ) ∧ (t = true → Q (.bl true) ρ)) : Wp (evE Γ (.or a b) ρ) Q := by
  show Wp ((evE Γ a ρ).bd _) Q
  rw [wp_bd]
  refine wp_mono q fun x ρ ⟨t, h, q1, q2⟩ => ?_
  subst h
  cases t with
  | true => exact q2 rfl
  | false =>
    show Wp ((evE Γ b ρ).bd _) Q
    rw [wp_bd]
    exact wp_mono (q1 rfl) fun y ρ ⟨c, h, q⟩ => by subst h; exact q
theorem e_not {a : E} (q : Wp (evE Γ a ρ) fun x ρ => ∃ t, tru x = some t ∧ Q (.bl (!t)) ρ) : Wp (evE Γ (.not a) ρ) Q := by
  show Wp ((evE Γ a ρ).bd _) Q
  rw [wp_bd]
  exact wp_mono q fun x ρ ⟨t, h, q⟩ => by rw [h]; exact q
theorem e_ite {c a b : E} (q : Wp (evE Γ c ρ) fun x ρ => ∃ t, tru x = some t ∧ (t = true → Wp (evE Γ a ρ) fun d ρ => own (md a) d = true ∧ Q d ρ) ∧ (t = false → Wp (evE Γ b ρ) fun d ρ => own (md b) d = true ∧ Q d ρ)) : Wp (evE Γ (.ite c a b) ρ) Q := by
  show Wp ((evE Γ c ρ).bd _) Q
  rw [wp_bd]
  refine wp_mono q fun x ρ ⟨t, h, q1, q2⟩ => ?_
  rw [h]
  show Wp ((lift (some t) ρ).bd _) Q
  rw [wp_bd, wp_some]
  cases t with
  | true =>
    simp only [if_true]
    rw [wp_bd]
    exact wp_mono (q1 rfl) fun d ρ ⟨o, q⟩ => by rw [if_pos o]; exact q
  | false =>
    simp only [Bool.false_eq_true, if_false]
    rw [wp_bd]
    exact wp_mono (q2 rfl) fun d ρ ⟨o, q⟩ => by rw [if_pos o]; exact q
theorem e_tup {es : Es} (q : Wp (evEs Γ es ρ) fun ds ρ => Q (.tup ds) ρ) : Wp (evE Γ (.tup es) ρ) Q := by
  show Wp ((evEs Γ es ρ).bd _) Q
  rw [wp_bd]; exact q
theorem e_lst {es : Es} (q : Wp (evEs Γ es ρ) fun ds ρ => Q (.lst ds) ρ) : Wp (evE Γ (.lst es) ρ) Q := by
  show Wp ((evEs Γ es ρ).bd _) Q
  rw [wp_bd]; exact q
theorem e_dis {es : Es} (q : Wp (evEs Γ es ρ) fun ds ρ => ∃ p, pairs2 [] [] ds = some p ∧ Q (.dct p.1 p.2) ρ) : Wp (evE Γ (.dis es) ρ) Q := by
  show Wp ((evEs Γ es ρ).bd _) Q
  rw [wp_bd]
  exact wp_mono q fun ds ρ ⟨p, h, q⟩ => by rw [h]; exact q
theorem es_nil {Q : List D → Env → Prop} (q : Q [] ρ) : Wp (evEs Γ .nil ρ) Q := q
theorem es_con {e : E} {r : Es} {Q : List D → Env → Prop} (q : Wp (evE Γ e ρ) fun d ρ => own (md e) d = true ∧ Wp (evEs Γ r ρ) fun ds ρ => Q (d :: ds) ρ) : Wp (evEs Γ (.cons e r) ρ) Q := by
  show Wp ((evE Γ e ρ).bd _) Q
  rw [wp_bd]
  refine wp_mono q fun d ρ ⟨o, q⟩ => ?_
  rw [if_pos o, wp_bd]
  exact q
theorem e_ix {a i : E} (q : Wp (evE Γ a ρ) fun x ρ => Wp (evE Γ i ρ) fun y ρ => safe (md a) (wrE i) x = true ∧ ∃ z, ixF x y = some z ∧ Q z ρ) : Wp (evE Γ (.ix a i) ρ) Q := by
  show Wp ((evE Γ a ρ).bd _) Q
  rw [wp_bd]
  refine wp_mono q fun x ρ q => ?_
  rw [wp_bd]
  refine wp_mono q fun y ρ ⟨s, z, h, q⟩ => ?_
  rw [if_pos s, h]
  exact q
theorem eo_non {Q : Option Int → Env → Prop} (q : Q none ρ) : Wp (evEo Γ .non ρ) Q := q
theorem eo_som {a : E} {Q : Option Int → Env → Prop} (q : Wp (evE Γ a ρ) fun x ρ => ∃ i, x = .int i ∧ Q (some i) ρ) : Wp (evEo Γ (.som a) ρ) Q := by
  show Wp ((evE Γ a ρ).bd _) Q
  rw [wp_bd]
  exact wp_mono q fun x ρ ⟨i, h, q⟩ => by subst h; exact q
theorem e_sl {a : E} {lo hi : Eo} (q : Wp (evE Γ a ρ) fun x ρ => Wp (evEo Γ lo ρ) fun l ρ => Wp (evEo Γ hi ρ) fun h ρ => safe (md a) (wrEo lo ++ wrEo hi) x = true ∧ ∃ z, slF x l h = some z ∧ Q z ρ) : Wp (evE Γ (.sl a lo hi) ρ) Q := by
  show Wp ((evE Γ a ρ).bd _) Q
  rw [wp_bd]
  refine wp_mono q fun x ρ q => ?_
  rw [wp_bd]
  refine wp_mono q fun l ρ q => ?_
  rw [wp_bd]
  refine wp_mono q fun h ρ ⟨s, z, e, q⟩ => ?_
  rw [if_pos s, e]
  exact q
theorem e_rev {a : E} (q : Wp (evE Γ a ρ) fun x ρ => ∃ z, revF x = some z ∧ Q z ρ) : Wp (evE Γ (.rev a) ρ) Q := by
  show Wp ((evE Γ a ρ).bd _) Q
  rw [wp_bd]
  exact wp_mono q fun x ρ ⟨z, h, q⟩ => by rw [h]; exact q
theorem e_bi {b : BI} {a : E} (q : Wp (evE Γ a ρ) fun x ρ => ∃ z, biF b x = some z ∧ Q z ρ) : Wp (evE Γ (.bi b a) ρ) Q := by
  show Wp ((evE Γ a ρ).bd _) Q
  rw [wp_bd]
  exact wp_mono q fun x ρ ⟨z, h, q⟩ => by rw [h]; exact q
theorem e_bi2 {o : BI} {a b : E} (q : Wp (evE Γ a ρ) fun x ρ => Wp (evE Γ b ρ) fun y ρ => (pu x = true ∧ pu y = true) ∧ ∃ z, bi2F o x y = some z ∧ Q z ρ) : Wp (evE Γ (.bi2 o a b) ρ) Q := by
  show Wp ((evE Γ a ρ).bd _) Q
  rw [wp_bd]
  refine wp_mono q fun x ρ q => ?_
  rw [wp_bd]
  refine wp_mono q fun y ρ ⟨s, z, h, q⟩ => ?_
  rw [if_pos s, h]
  exact q
theorem e_join {a b : E} (q : Wp (evE Γ a ρ) fun x ρ => isStr x = true ∧ Wp (evE Γ b ρ) fun y ρ => ∃ z, joinF x y = some z ∧ Q z ρ) : Wp (evE Γ (.join a b) ρ) Q := by
  show Wp ((evE Γ a ρ).bd _) Q
  rw [wp_bd]
  refine wp_mono q fun x ρ ⟨s, q⟩ => ?_
  rw [if_pos s, wp_bd]
  exact wp_mono q fun y ρ ⟨z, h, q⟩ => by rw [h]; exact q
theorem e_get {a k b : E} (q : Wp (evE Γ a ρ) fun x ρ => isDct x = true ∧ Wp (evE Γ k ρ) fun y ρ => Wp (evE Γ b ρ) fun z ρ => (safe (md a) (wrE k ++ wrE b) x = true ∧ pu y = true ∧ pu z = true) ∧ ∃ w, getF x y z = some w ∧ Q w ρ) : Wp (evE Γ (.get a k b) ρ) Q := by
  show Wp ((evE Γ a ρ).bd _) Q
  rw [wp_bd]
  refine wp_mono q fun x ρ ⟨s, q⟩ => ?_
  rw [if_pos s, wp_bd]
  refine wp_mono q fun y ρ q => ?_
  rw [wp_bd]
  refine wp_mono q fun z ρ ⟨s, w, h, q⟩ => ?_
  rw [if_pos s, h]
  exact q
/-! statements -/
theorem t_nil (q : QO .nx ρ) : Wp (evSs Γ .nil ρ) QO := q
theorem t_kill {ks : List Nat} {r : Ss} (q : Wp (evSs Γ r (clr ρ ks)) QO) : Wp (evSs Γ (.kill ks r) ρ) QO := q
/-- what comes behind -/
def Nxt (Γ : Fns) (r : Ss) (QO : Out → Env → Prop) (o : Out) (ρ : Env) : Prop := match o with
  | .nx => Wp (evSs Γ r ρ) QO
  | o => QO o ρ
theorem t_cons {s : S} {r : Ss} (q : Wp (evS Γ s ρ) (Nxt Γ r QO)) : Wp (evSs Γ (.cons s r) ρ) QO := by
  show Wp ((evS Γ s ρ).bd _) QO
  rw [wp_bd]
  refine wp_mono q fun o ρ q => ?_
  cases o <;> exact q
theorem t_set {i : Nat} {e : E} (q : Wp (evE Γ e ρ) fun d ρ => (own (md e) d = true ∧ i < ρ.length) ∧ QO .nx (ρ.set i (some d))) : Wp (evS Γ (.set i e) ρ) QO := by
  show Wp ((evE Γ e ρ).bd _) QO
  rw [wp_bd]
  exact wp_mono q fun d ρ ⟨o, q⟩ => by rw [if_pos o]; exact q
theorem t_tset {ts : Tgs} {e : E} (q : Wp (evE Γ e ρ) fun d ρ => own (md e) d = true ∧ ∃ ds ρ', d = .tup ds ∧ bindTs ts ds ρ = some ρ' ∧ QO .nx ρ') : Wp (evS Γ (.tset ts e) ρ) QO := by
  show Wp ((evE Γ e ρ).bd _) QO
  rw [wp_bd]
  refine wp_mono q fun d ρ ⟨o, ds, ρ', h, hb, q⟩ => ?_
  subst h
  rw [if_pos o]
  show Wp ((lift (bindTs ts ds ρ) ρ).bd _) QO
  rw [hb]
  exact q
theorem t_aug {i : Nat} {o : BOp} {e : E} {x : D} (h : g ρ i = some x) (q : Wp (evE Γ e ρ) fun y ρ => (wrE e).contains i = false ∧ iaug o x y = true ∧ ∃ z, binF o x y = some z ∧ QO .nx (ρ.set i (some z))) : Wp (evS Γ (.aug i o e) ρ) QO := by
  show Wp ((lift (g ρ i) ρ).bd _) QO
  rw [h]
  show Wp ((evE Γ e ρ).bd _) QO
  rw [wp_bd]
  refine wp_mono q fun y ρ ⟨c, a, z, hz, q⟩ => ?_
  rw [if_neg (by rw [c]; simp), if_pos a, hz]
  exact q
theorem t_ex {e : E} (q : Wp (evE Γ e ρ) fun _ ρ => QO .nx ρ) : Wp (evS Γ (.ex e) ρ) QO := by
  show Wp ((evE Γ e ρ).bd _) QO
  rw [wp_bd]; exact q
theorem t_ret {e : E} (q : Wp (evE Γ e ρ) fun d ρ => own (md e) d = true ∧ QO (.rt d) ρ) : Wp (evS Γ (.ret e) ρ) QO := by
  show Wp ((evE Γ e ρ).bd _) QO
  rw [wp_bd]
  exact wp_mono q fun d ρ ⟨o, q⟩ => by rw [if_pos o]; exact q
theorem t_retN (q : QO (.rt .non) ρ) : Wp (evS Γ .retN ρ) QO := q
theorem t_brk (q : QO .bk ρ) : Wp (evS Γ .brk ρ) QO := q
theorem t_cnt (q : QO .ct ρ) : Wp (evS Γ .cnt ρ) QO := q
theorem t_pass (q : QO .nx ρ) : Wp (evS Γ .pass ρ) QO := q
theorem t_ite {c : E} {a b : Ss} (q : Wp (evE Γ c ρ) fun x ρ => ∃ t, tru x = some t ∧ (t = true → Wp (evSs Γ a ρ) QO) ∧ (t = false → Wp (evSs Γ b ρ) QO)) : Wp (evS Γ (.ite c a b) ρ) QO := by
  show Wp ((evE Γ c ρ).bd _) QO
  rw [wp_bd]
  refine wp_mono q fun x ρ ⟨t, h, q1, q2⟩ => ?_
  rw [h]
  show Wp ((lift (some t) ρ).bd _) QO
  rw [wp_bd, wp_some]
  cases t with
  | true => exact q1 rfl
  | false => exact q2 rfl
/-! calls, places, loops -/
theorem a_nil {Q : List Ag → Env → Prop} (q : Q [] ρ) : Wp (evAs Γ .nil ρ) Q := q
theorem a_val {e : E} {r : As} {Q : List Ag → Env → Prop} (q : Wp (evE Γ e ρ) fun d ρ => own (md e) d = true ∧ Wp (evAs Γ r ρ) fun ds ρ => Q (.d d :: ds) ρ) : Wp (evAs Γ (.val e r) ρ) Q := by
  show Wp ((evE Γ e ρ).bd _) Q
  rw [wp_bd]
  refine wp_mono q fun d ρ ⟨o, q⟩ => ?_
  rw [if_pos o, wp_bd]
  exact q
theorem a_ref {i : Nat} {d : D} {r : As} {Q : List Ag → Env → Prop} (h : g ρ i = some d) (q : Wp (evAs Γ r ρ) fun ds ρ => Q (.r i :: ds) ρ) : Wp (evAs Γ (.ref i r) ρ) Q := by
  show Wp ((lift (g ρ i) ρ).bd _) Q
  rw [h]
  show Wp ((evAs Γ r ρ).bd _) Q
  rw [wp_bd]; exact q
theorem e_call {f : Nat} {as : As} (q : Wp (evAs Γ as ρ) fun ags ρ => Wp (callR Γ f ags ρ) Q) : Wp (evE Γ (.call f as) ρ) Q := by
  show Wp ((evAs Γ as ρ).bd _) Q
  rw [wp_bd]; exact q
theorem p_v {i : Nat} {d : D} {Q : List Nat → Env → Prop} (h : g ρ i = some d) (q : Q [] ρ) : Wp (evP Γ (.v i) ρ) Q := by
  show Wp ((lift (g ρ i) ρ).bd _) Q
  rw [h]; exact q
theorem p_x {p : P} {e : E} {Q : List Nat → Env → Prop} (q : Wp (evP Γ p ρ) fun js ρ => Wp (evE Γ e ρ) fun k ρ => (wrE e).contains p.root = false ∧ ∃ js', ((g ρ p.root).bind fun d => (getAt d js).bind fun x => (posOf x k).bind fun j => (stepG x j).bind fun _ => some (js ++ [j])) = some js' ∧ Q js' ρ) : Wp (evP Γ (.ix p e) ρ) Q := by
  show Wp ((evP Γ p ρ).bd _) Q
  rw [wp_bd]
  refine wp_mono q fun js ρ q => ?_
  rw [wp_bd]
  refine wp_mono q fun k ρ ⟨c, js', h, q⟩ => ?_
  rw [if_neg (by rw [c]; simp), h]
  exact q
def atF (p : P) (js : List Nat) (ρ : Env) (f : D → Option D) : Option Env := (g ρ p.root).bind fun d => (getAt d js).bind fun x => (f x).map fun x' => ρ.set p.root (some (setAt d js x'))
theorem at_ok {p : P} {js : List Nat} {f : D → Option D} {ρ' : Env} (h : atF p js ρ f = some ρ') (q : QO .nx ρ') : Wp (atP p js ρ f) QO := by
  show Wp ((lift (atF p js ρ f) ρ).bd _) QO
  rw [h]; exact q
theorem t_put {p : P} {k e : E} (q : Wp (evE Γ e ρ) fun v ρ => own (md e) v = true ∧ Wp (evP Γ p ρ) fun js ρ => Wp (evE Γ k ρ) fun kd ρ => (wrE k).contains p.root = false ∧ ∃ ρ', atF p js ρ (fun x => putF x kd v) = some ρ' ∧ QO .nx ρ') : Wp (evS Γ (.put p k e) ρ) QO := by
  show Wp ((evE Γ e ρ).bd _) QO
  rw [wp_bd]
  refine wp_mono q fun v ρ ⟨o, q⟩ => ?_
  rw [if_pos o, wp_bd]
  refine wp_mono q fun js ρ q => ?_
  rw [wp_bd]
  refine wp_mono q fun kd ρ ⟨c, ρ', h, q⟩ => ?_
  rw [if_neg (by rw [c]; simp)]
  exact at_ok h q
theorem t_app {p : P} {e : E} (q : Wp (evP Γ p ρ) fun js ρ => isLst ρ p js = true ∧ Wp (evE Γ e ρ) fun v ρ => (own (md e) v = true ∧ (wrE e).contains p.root = false) ∧ ∃ ρ', atF p js ρ (fun x => appF x v) = some ρ' ∧ QO .nx ρ') : Wp (evS Γ (.app p e) ρ) QO := by
  show Wp ((evP Γ p ρ).bd _) QO
  rw [wp_bd]
  refine wp_mono q fun js ρ ⟨l, q⟩ => ?_
  rw [if_pos l, wp_bd]
  refine wp_mono q fun v ρ ⟨c, ρ', h, q⟩ => ?_
  rw [if_pos c]
  exact at_ok h q
theorem t_ext {p : P} {e : E} (q : Wp (evP Γ p ρ) fun js ρ => isLst ρ p js = true ∧ Wp (evE Γ e ρ) fun v ρ => (own (md e) v = true ∧ (wrE e).contains p.root = false) ∧ ∃ vs ρ', v = .lst vs ∧ atF p js ρ (fun x => extF x vs) = some ρ' ∧ QO .nx ρ') : Wp (evS Γ (.ext p e) ρ) QO := by
  show Wp ((evP Γ p ρ).bd _) QO
  rw [wp_bd]
  refine wp_mono q fun js ρ ⟨l, q⟩ => ?_
  rw [if_pos l, wp_bd]
  refine wp_mono q fun v ρ ⟨c, vs, ρ', e, h, q⟩ => ?_
  subst e
  rw [if_pos c]
  exact at_ok h q
theorem e_pop {p : P} (q : Wp (evP Γ p ρ) fun js ρ => ∃ d x y x', g ρ p.root = some d ∧ getAt d js = some x ∧ popF x = some (y, x') ∧ Q y (ρ.set p.root (some (setAt d js x')))) : Wp (evE Γ (.pop p) ρ) Q := by
  show Wp ((evP Γ p ρ).bd _) Q
  rw [wp_bd]
  refine wp_mono q fun js ρ ⟨d, x, y, x', h1, h2, h3, q⟩ => ?_
  rw [h1]
  show Wp ((lift ((getAt d js).bind _) ρ).bd _) Q
  rw [h2]
  show Wp ((lift ((popF x).map _) ρ).bd _) Q
  rw [h3]
  exact q
theorem s_e {a : E} {Q : List D → Env → Prop} (q : Wp (evE Γ a ρ) fun x ρ => ∃ xs, items x = some xs ∧ Q xs ρ) : Wp (evSrc Γ (.e a) ρ) Q := by
  show Wp ((evE Γ a ρ).bd _) Q
  rw [wp_bd]
  exact wp_mono q fun x ρ ⟨xs, h, q⟩ => by rw [h]; exact q
theorem s_r1 {a : E} {Q : List D → Env → Prop} (q : Wp (evE Γ a ρ) fun x ρ => ∃ j : Int, x = .int j ∧ (-1000000 ≤ j ∧ j ≤ 1000000) ∧ Q (rngL 0 1 j.toNat) ρ) : Wp (evSrc Γ (.r1 a) ρ) Q := by
  show Wp ((evE Γ a ρ).bd _) Q
  rw [wp_bd]
  refine wp_mono q fun x ρ ⟨j, h, c, q⟩ => ?_
  subst h
  show Wp (if -1000000 ≤ j ∧ j ≤ 1000000 then R.ok (rngL 0 1 j.toNat) ρ else .no) Q
  rw [if_pos c]; exact q
theorem s_r2 {a b : E} {Q : List D → Env → Prop} (q : Wp (evE Γ a ρ) fun x ρ => Wp (evE Γ b ρ) fun y ρ => ∃ i j : Int, x = .int i ∧ y = .int j ∧ (i ≤ 1000000 ∧ j ≤ 1000000 ∧ -1000000 ≤ i ∧ -1000000 ≤ j) ∧ Q (rngL i 1 (j - i).toNat) ρ) : Wp (evSrc Γ (.r2 a b) ρ) Q := by
  show Wp ((evE Γ a ρ).bd _) Q
  rw [wp_bd]
  refine wp_mono q fun x ρ q => ?_
  rw [wp_bd]
  refine wp_mono q fun y ρ ⟨i, j, h1, h2, c, q2⟩ => ?_
  subst h1 h2
  show Wp (if (decide (i ≤ 1000000) && decide (j ≤ 1000000) && decide (-1000000 ≤ i) && decide (-1000000 ≤ j)) = true then R.ok (rngL i 1 (j - i).toNat) ρ else .no) Q
  rw [if_pos (by simp [c])]; exact q2
theorem s_r3 {a b : E} {Q : List D → Env → Prop} (q : Wp (evE Γ a ρ) fun x ρ => Wp (evE Γ b ρ) fun y ρ => ∃ i j : Int, x = .int i ∧ y = .int j ∧ (i ≤ 1000000 ∧ j ≤ 1000000 ∧ -1000000 ≤ i ∧ -1000000 ≤ j) ∧ Q (rngL i (-1) (i - j).toNat) ρ) : Wp (evSrc Γ (.r3 a b (-1)) ρ) Q := by
  show Wp ((evE Γ a ρ).bd _) Q
  rw [wp_bd]
  refine wp_mono q fun x ρ q => ?_
  rw [wp_bd]
  refine wp_mono q fun y ρ ⟨i, j, h1, h2, c, q2⟩ => ?_
  subst h1 h2
  show Wp (if (decide (-1000000 ≤ i) && decide (i ≤ 1000000) && decide (-1000000 ≤ j) && decide (j ≤ 1000000) && decide ((-1 : Int) = -1)) = true then R.ok (rngL i (-1) (i - j).toNat) ρ else .no) Q
  rw [if_pos (by simp [c])]; exact q2
theorem s_en {a : E} {Q : List D → Env → Prop} (q : Wp (evE Γ a ρ) fun x ρ => ∃ xs, items x = some xs ∧ xs.length ≤ cap ∧ Q (enumL 0 xs) ρ) : Wp (evSrc Γ (.enum a) ρ) Q := by
  show Wp ((evE Γ a ρ).bd _) Q
  rw [wp_bd]
  refine wp_mono q fun x ρ ⟨xs, h, c, q⟩ => ?_
  rw [h]
  show Wp (if xs.length ≤ cap then R.ok (enumL 0 xs) ρ else .no) Q
  rw [if_pos c]; exact q
theorem t_for {tg : Tg} {src : Src} {b : Ss} {ks : List Nat} (q : Wp (evSrc Γ src ρ) fun xs ρ => (safe (mdS src) (wrSs b ++ tg.slots ++ ks) (.lst xs) = true ∧ own (mdS src) (.tup xs) = true) ∧ Wp (forL (bindT tg) (fun ρ => evSs Γ b ρ) ks xs (clr ρ ks)) QO) : Wp (evS Γ (.for tg src b ks) ρ) QO := by
  show Wp ((evSrc Γ src ρ).bd _) QO
  rw [wp_bd]
  refine wp_mono q fun xs ρ ⟨c, q⟩ => ?_
  rw [if_pos c]; exact q
theorem t_wh {c : E} {b : Ss} {ks : List Nat} (q : Wp (whL (fun ρ => (evE Γ c ρ).bd fun x ρ => lift (tru x) ρ) (fun ρ => evSs Γ b ρ) ks fuelW (clr ρ ks)) QO) : Wp (evS Γ (.wh c b ks) ρ) QO := q
theorem c_non {Q : Bool → Env → Prop} (q : Q true ρ) : Wp (evC Γ .non ρ) Q := q
theorem c_som {e : E} {Q : Bool → Env → Prop} (q : Wp (evE Γ e ρ) fun d ρ => ∃ t, tru d = some t ∧ Q t ρ) : Wp (evC Γ (.som e) ρ) Q := by
  show Wp ((evE Γ e ρ).bd _) Q
  rw [wp_bd]
  exact wp_mono q fun d ρ ⟨t, h, q⟩ => by rw [h]; exact q
theorem wp_calm {α : Type} {r : R α} {Q : α → Env → Prop} (h : Wp r Q) : Wp (calm r) Q := by cases r <;> first | exact h | exact h.elim
theorem e_comp {tg : Tg} {src : Src} {c : Eo} {e : E} (q : Wp (evSrc Γ src ρ) fun xs ρ1 => (safe (mdS src) (wrEo c ++ wrE e) (.lst xs) = true ∧ own (mdS src) (.tup xs) = true ∧ xs.length ≤ cap) ∧
    Wp (compL (fun x ρ => bindT tg x (clr ρ tg.slots)) (fun ρ => evC Γ c ρ) (fun ρ => (evE Γ e ρ).bd fun d ρ => if own (md e) d = true then .ok d ρ else .no) xs ρ1) fun ys ρ2 => Q (.lst ys) (bck ρ1 ρ2 tg.slots)) : Wp (evE Γ (.comp tg src c e) ρ) Q := by
  refine wp_calm ?_
  show Wp ((evSrc Γ src ρ).bd _) Q
  rw [wp_bd]
  refine wp_mono q fun xs ρ1 ⟨h, q⟩ => ?_
  rw [if_pos h, wp_bd]
  exact q
theorem n_nx {r : Ss} (q : Wp (evSs Γ r ρ) QO) : Nxt Γ r QO .nx ρ := q
theorem n_rt {r : Ss} {d : D} (q : QO (.rt d) ρ) : Nxt Γ r QO (.rt d) ρ := q
theorem n_bk {r : Ss} (q : QO .bk ρ) : Nxt Γ r QO .bk ρ := q
theorem n_ct {r : Ss} (q : QO .ct ρ) : Nxt Γ r QO .ct ρ := q
theorem b_mul {i j : Int} (h : small j = true) : binF .mul (.int i) (.int j) = some (.int (i * j)) := by simp [binF, h]
theorem b_mod {i j : Int} (h : 0 < j) : binF .mod (.int i) (.int j) = some (.int (i % j)) := by simp [binF, h]
theorem b_div {i j : Int} (h : 0 < j) (h2 : j < 18446744073709551616) : binF .fdiv (.int i) (.int j) = some (.int (i / j)) := by
  show (if (decide (0 < j) && decide (j < 2 ^ 64)) = true then some (D.int (i / j)) else none) = _
  rw [if_pos (by simp only [Bool.and_eq_true, decide_eq_true_eq]; exact ⟨h, by omega⟩)]
end
end Wk

/-! W1: the evaluator's rules as rewriting rules, from the outside in -/
namespace Wk
open G
/-! small continuations -/
def gK (i : Nat) (ρ : Env) (Q : D → Prop) : Prop := ∃ d, g ρ i = some d ∧ Q d
theorem gK0 {ρ : Env} {d : D} {Q : D → Prop} : gK 0 (some d :: ρ) Q = Q d := by simp [gK, g]
theorem gKs {i : Nat} {ρ : Env} {d : Option D} {Q : D → Prop} : gK (i+1) (d :: ρ) Q = gK i ρ Q := by simp [gK, g]
def setK (i : Nat) (x : Option D) (ρ : Env) (Q : Env → Prop) : Prop := i < ρ.length ∧ Q (ρ.set i x)
theorem setK0 {ρ : Env} {d x : Option D} {Q : Env → Prop} : setK 0 x (d :: ρ) Q = Q (x :: ρ) := by simp [setK]
theorem setKs {i : Nat} {ρ : Env} {d x : Option D} {Q : Env → Prop} : setK (i+1) x (d :: ρ) Q = setK i x ρ fun r => Q (d :: r) := by simp [setK]
def setN (i : Nat) (ρ : Env) (Q : Env → Prop) : Prop := Q (ρ.set i none)
theorem setN0 {ρ : Env} {d : Option D} {Q : Env → Prop} : setN 0 (d :: ρ) Q = Q (none :: ρ) := rfl
theorem setNs {i : Nat} {ρ : Env} {d : Option D} {Q : Env → Prop} : setN (i+1) (d :: ρ) Q = setN i ρ fun r => Q (d :: r) := rfl
def clrK (ks : List Nat) (ρ : Env) (Q : Env → Prop) : Prop := Q (clr ρ ks)
theorem clrK0 {ρ : Env} {Q : Env → Prop} : clrK [] ρ Q = Q ρ := rfl
theorem clrKs {i : Nat} {ks : List Nat} {ρ : Env} {Q : Env → Prop} : clrK (i :: ks) ρ Q = setN i ρ fun r => clrK ks r Q := rfl
def bK (x : D) (Q : Bool → Prop) : Prop := ∃ t, x = .bl t ∧ Q t
theorem bK_bl {t : Bool} {Q : Bool → Prop} : bK (.bl t) Q = Q t := by simp [bK]
def iK (x : D) (Q : Int → Prop) : Prop := ∃ t, x = .int t ∧ Q t
theorem iK_int {t : Int} {Q : Int → Prop} : iK (.int t) Q = Q t := by simp [iK]
/-- both ways of a test -/
def brK (t : Bool) (A B : Prop) : Prop := (t = true → A) ∧ (t = false → B)
theorem brK_true {A B : Prop} : brK true A B = A := by simp [brK]
theorem brK_false {A B : Prop} : brK false A B = B := by simp [brK]
theorem brK_dec {p : Prop} [Decidable p] {A B : Prop} : brK (decide p) A B = ((p → A) ∧ (¬p → B)) := by simp [brK]
theorem brK_not {t : Bool} {A B : Prop} : brK (!t) A B = brK t B A := by cases t <;> simp [brK]
theorem brK_and {t s : Bool} {A B : Prop} : brK (t && s) A B = ((t = true → s = true → A) ∧ (¬(t = true ∧ s = true) → B)) := by cases t <;> cases s <;> simp [brK]
/-- i stands in js -/
def hasN : List Nat → Nat → Bool
  | [], _ => false
  | j :: r, i => decide (i = j) || hasN r i
theorem hasN_eq : ∀ {js : List Nat} {i : Nat}, js.contains i = hasN js i
  | [], _ => rfl
  | j :: r, i => by rw [List.contains_cons, hasN_eq (js := r)]; rfl
def safeB (m : Option Nat) (js : List Nat) : Bool := match m with
  | none => true
  | some i => !hasN js i
theorem safeB_none {js : List Nat} : safeB none js = true := rfl
theorem safeB_nil {m : Option Nat} : safeB m [] = true := by cases m <;> rfl
theorem safeB_some {i : Nat} {js : List Nat} : safeB (some i) js = !hasN js i := rfl
theorem safe_of {m : Option Nat} {js : List Nat} {d : D} (h : safeB m js = true) : safe m js d = true := by
  cases m with
  | none => rfl
  | some i => exact Bool.or_eq_true_iff.mpr (.inl (by rw [hasN_eq]; exact h))
theorem own_none {d : D} : own none d = true := rfl
theorem own_some {i : Nat} {d : D} : own (some i) d = pu d := rfl
section
variable {Γ : Fns} {ρ : Env} {Q : D → Env → Prop} {QO : Out → Env → Prop}
theorem eqp {α : Type} {r : R α} {Q : α → Env → Prop} {P : Prop} (a : P → Wp r Q) (b : Wp r Q → P) : Wp r Q = P := propext ⟨b, a⟩
theorem wp_cg {α : Type} {r : R α} {Q Q' : α → Env → Prop} (h : ∀ a ρ, Q a ρ = Q' a ρ) : Wp r Q = Wp r Q' := by
  have : Q = Q' := funext fun a => funext fun ρ => h a ρ
  rw [this]
theorem wp_no {α : Type} {Q : α → Env → Prop} : Wp (.no : R α) Q = False := rfl
theorem wp_if {α : Type} {p : Prop} [Decidable p] {r : R α} {Q : α → Env → Prop} : Wp (if p then r else .no) Q = (p ∧ Wp r Q) := by
  split <;> simp_all [Wp]
theorem wp_liftif {α : Type} {p : Prop} [Decidable p] {a : α} {ρ : Env} {Q : α → Env → Prop} : Wp (lift (if p then some a else none) ρ) Q = (p ∧ Q a ρ) := by
  split <;> simp_all [Wp, lift]
theorem wp_liftmap {α β : Type} {o : Option α} {f : α → β} {ρ : Env} {Q : β → Env → Prop} : Wp (lift (o.map f) ρ) Q = Wp (lift o ρ) fun a ρ => Q (f a) ρ := by cases o <;> rfl
theorem wp_liftbind {α β : Type} {o : Option α} {f : α → Option β} {ρ : Env} {Q : β → Env → Prop} : Wp (lift (o.bind f) ρ) Q = Wp (lift o ρ) fun a ρ => Wp (lift (f a) ρ) Q := by cases o <;> rfl
/-! expressions -/
theorem w_ok {α : Type} {a : α} {Q : α → Env → Prop} : Wp (.ok a ρ) Q = Q a ρ := rfl
theorem w_var {i : Nat} : Wp (evE Γ (.var i) ρ) Q = gK i ρ fun d => Q d ρ := by show Wp (lift (g ρ i) ρ) Q = _; rw [wp_lift]; rfl
theorem w_mv {i : Nat} : Wp (evE Γ (.mv i) ρ) Q = gK i ρ fun d => setN i ρ fun ρ => Q d ρ := by show Wp ((lift (g ρ i) ρ).bd _) Q = _; rw [wp_bd, wp_lift]; rfl
theorem w_int {i : Int} : Wp (evE Γ (.int i) ρ) Q = Q (.int i) ρ := rfl
theorem w_str {l : List Nat} : Wp (evE Γ (.str l) ρ) Q = Q (.str l) ρ := rfl
theorem w_bl {b : Bool} : Wp (evE Γ (.bl b) ρ) Q = Q (.bl b) ρ := rfl
theorem w_non : Wp (evE Γ .non ρ) Q = Q .non ρ := rfl
theorem w_neg {a : E} : Wp (evE Γ (.neg a) ρ) Q = Wp (evE Γ a ρ) fun x ρ => iK x fun i => Q (.int (-i)) ρ := by
  show Wp ((evE Γ a ρ).bd _) Q = _
  rw [wp_bd]
  refine wp_cg fun x ρ => ?_
  cases x <;> simp [iK, Wp]
theorem w_bin {o : BOp} {a b : E} (h : safeB (md a) (wrE b) = true) : Wp (evE Γ (.bin o a b) ρ) Q = Wp (evE Γ a ρ) fun x ρ => Wp (evE Γ b ρ) fun y ρ => Wp (lift (binF o x y) ρ) Q := by
  show Wp ((evE Γ a ρ).bd _) Q = _
  rw [wp_bd]
  refine wp_cg fun x ρ => ?_
  rw [wp_bd]
  refine wp_cg fun y ρ => ?_
  rw [if_pos (safe_of h)]
theorem w_cmp {o : COp} {a b : E} (h : safeB (md a) (wrE b) = true) : Wp (evE Γ (.cmp o a b) ρ) Q = Wp (evE Γ a ρ) fun x ρ => Wp (evE Γ b ρ) fun y ρ => Wp (lift (cmpF o x y) ρ) fun t ρ => Q (.bl t) ρ := by
  show Wp ((evE Γ a ρ).bd _) Q = _
  rw [wp_bd]
  refine wp_cg fun x ρ => ?_
  rw [wp_bd]
  refine wp_cg fun y ρ => ?_
  rw [if_pos (safe_of h), wp_liftmap]
theorem w_and {a b : E} : Wp (evE Γ (.and a b) ρ) Q = Wp (evE Γ a ρ) fun x ρ => bK x fun t => brK t (Wp (evE Γ b ρ) fun y ρ => bK y fun c => Q (.bl c) ρ) (Q (.bl false) ρ) := by
  show Wp ((evE Γ a ρ).bd _) Q = _
  rw [wp_bd]
  refine wp_cg fun x ρ => ?_
  cases x with
  | bl t =>
    rw [bK_bl]
    cases t
    · rw [brK_false]; rfl
    · rw [brK_true]
      show Wp ((evE Γ b ρ).bd _) Q = _
      rw [wp_bd]
      refine wp_cg fun y ρ => ?_
      cases y <;> simp [bK, Wp]
  | _ => simp [bK, Wp]
theorem w_or {a b : E} : Wp (evE Γ (.or a b) ρ) Q = Wp (evE Γ a ρ) fun x ρ => bK x fun t => brK t (Q (.bl true) ρ) (Wp (evE Γ b ρ) fun y ρ => bK y fun c => Q (.bl c) ρ) := by
  show Wp ((evE Γ a ρ).bd _) Q = _
  rw [wp_bd]
  refine wp_cg fun x ρ => ?_
  cases x with
  | bl t =>
    rw [bK_bl]
    cases t
    · rw [brK_false]
      show Wp ((evE Γ b ρ).bd _) Q = _
      rw [wp_bd]
      refine wp_cg fun y ρ => ?_
      cases y <;> simp [bK, Wp]
    · rw [brK_true]; rfl
  | _ => simp [bK, Wp]
theorem w_not {a : E} : Wp (evE Γ (.not a) ρ) Q = Wp (evE Γ a ρ) fun x ρ => Wp (lift (tru x) ρ) fun t ρ => Q (.bl (!t)) ρ := by
  show Wp ((evE Γ a ρ).bd _) Q = _
  rw [wp_bd]
  refine wp_cg fun x ρ => ?_
  rw [wp_liftmap]
theorem w_ite {c a b : E} : Wp (evE Γ (.ite c a b) ρ) Q = Wp (evE Γ c ρ) fun x ρ => Wp (lift (tru x) ρ) fun t ρ => brK t (Wp (evE Γ a ρ) fun d ρ => own (md a) d = true ∧ Q d ρ) (Wp (evE Γ b ρ) fun d ρ => own (md b) d = true ∧ Q d ρ) := by
  show Wp ((evE Γ c ρ).bd _) Q = _
  rw [wp_bd]
  refine wp_cg fun x ρ => ?_
  rw [wp_bd]
  refine wp_cg fun t ρ => ?_
  cases t
  · rw [brK_false, if_neg (by simp), wp_bd]
    exact wp_cg fun d ρ => wp_if
  · rw [brK_true, if_pos rfl, wp_bd]
    exact wp_cg fun d ρ => wp_if
theorem w_tup {es : Es} : Wp (evE Γ (.tup es) ρ) Q = Wp (evEs Γ es ρ) fun ds ρ => Q (.tup ds) ρ := by
  show Wp ((evEs Γ es ρ).bd _) Q = _
  rw [wp_bd]; rfl
theorem w_lst {es : Es} : Wp (evE Γ (.lst es) ρ) Q = Wp (evEs Γ es ρ) fun ds ρ => Q (.lst ds) ρ := by
  show Wp ((evEs Γ es ρ).bd _) Q = _
  rw [wp_bd]; rfl
theorem w_nil {Q : List D → Env → Prop} : Wp (evEs Γ .nil ρ) Q = Q [] ρ := rfl
theorem w_con {e : E} {r : Es} {Q : List D → Env → Prop} : Wp (evEs Γ (.cons e r) ρ) Q = Wp (evE Γ e ρ) fun d ρ => own (md e) d = true ∧ Wp (evEs Γ r ρ) fun ds ρ => Q (d :: ds) ρ := by
  show Wp ((evE Γ e ρ).bd _) Q = _
  rw [wp_bd]
  refine wp_cg fun d ρ => ?_
  rw [wp_if, wp_bd]; rfl
theorem w_ix {a i : E} (h : safeB (md a) (wrE i) = true) : Wp (evE Γ (.ix a i) ρ) Q = Wp (evE Γ a ρ) fun x ρ => Wp (evE Γ i ρ) fun y ρ => Wp (lift (ixF x y) ρ) Q := by
  show Wp ((evE Γ a ρ).bd _) Q = _
  rw [wp_bd]
  refine wp_cg fun x ρ => ?_
  rw [wp_bd]
  refine wp_cg fun y ρ => ?_
  rw [if_pos (safe_of h)]
theorem w_eo0 {Q : Option Int → Env → Prop} : Wp (evEo Γ .non ρ) Q = Q none ρ := rfl
theorem w_eo1 {a : E} {Q : Option Int → Env → Prop} : Wp (evEo Γ (.som a) ρ) Q = Wp (evE Γ a ρ) fun x ρ => iK x fun i => Q (some i) ρ := by
  show Wp ((evE Γ a ρ).bd _) Q = _
  rw [wp_bd]
  refine wp_cg fun x ρ => ?_
  cases x <;> simp [iK, Wp]
theorem w_sl {a : E} {lo hi : Eo} (h : safeB (md a) (wrEo lo ++ wrEo hi) = true) : Wp (evE Γ (.sl a lo hi) ρ) Q = Wp (evE Γ a ρ) fun x ρ => Wp (evEo Γ lo ρ) fun l ρ => Wp (evEo Γ hi ρ) fun h ρ => Wp (lift (slF x l h) ρ) Q := by
  show Wp ((evE Γ a ρ).bd _) Q = _
  rw [wp_bd]
  refine wp_cg fun x ρ => ?_
  rw [wp_bd]
  refine wp_cg fun y ρ => ?_
  rw [wp_bd]
  refine wp_cg fun z ρ => ?_
  rw [if_pos (safe_of h)]
theorem w_rev {a : E} : Wp (evE Γ (.rev a) ρ) Q = Wp (evE Γ a ρ) fun x ρ => Wp (lift (revF x) ρ) Q := by
  show Wp ((evE Γ a ρ).bd _) Q = _
  rw [wp_bd]
theorem w_bi {b : BI} {a : E} : Wp (evE Γ (.bi b a) ρ) Q = Wp (evE Γ a ρ) fun x ρ => Wp (lift (biF b x) ρ) Q := by
  show Wp ((evE Γ a ρ).bd _) Q = _
  rw [wp_bd]
theorem w_bi2 {o : BI} {a b : E} : Wp (evE Γ (.bi2 o a b) ρ) Q = Wp (evE Γ a ρ) fun x ρ => Wp (evE Γ b ρ) fun y ρ => (pu x = true ∧ pu y = true) ∧ Wp (lift (bi2F o x y) ρ) Q := by
  show Wp ((evE Γ a ρ).bd _) Q = _
  rw [wp_bd]
  refine wp_cg fun x ρ => ?_
  rw [wp_bd]
  refine wp_cg fun y ρ => ?_
  rw [wp_if]
theorem w_join {a b : E} : Wp (evE Γ (.join a b) ρ) Q = Wp (evE Γ a ρ) fun x ρ => isStr x = true ∧ Wp (evE Γ b ρ) fun y ρ => Wp (lift (joinF x y) ρ) Q := by
  show Wp ((evE Γ a ρ).bd _) Q = _
  rw [wp_bd]
  refine wp_cg fun x ρ => ?_
  rw [wp_if, wp_bd]
theorem w_get {a k b : E} (h : safeB (md a) (wrE k ++ wrE b) = true) : Wp (evE Γ (.get a k b) ρ) Q = Wp (evE Γ a ρ) fun x ρ => isDct x = true ∧ Wp (evE Γ k ρ) fun y ρ => Wp (evE Γ b ρ) fun z ρ => (pu y = true ∧ pu z = true) ∧ Wp (lift (getF x y z) ρ) Q := by
  show Wp ((evE Γ a ρ).bd _) Q = _
  rw [wp_bd]
  refine wp_cg fun x ρ => ?_
  rw [wp_if, wp_bd]
  congr 1
  refine wp_cg fun y ρ => ?_
  rw [wp_bd]
  refine wp_cg fun z ρ => ?_
  rw [wp_if]
  simp [safe_of h]
/-! statements -/
theorem w_ssn : Wp (evSs Γ .nil ρ) QO = QO .nx ρ := rfl
theorem w_kill {ks : List Nat} {r : Ss} : Wp (evSs Γ (.kill ks r) ρ) QO = clrK ks ρ fun ρ => Wp (evSs Γ r ρ) QO := rfl
theorem w_ssc {s : S} {r : Ss} : Wp (evSs Γ (.cons s r) ρ) QO = Wp (evS Γ s ρ) (Nxt Γ r QO) := by
  show Wp ((evS Γ s ρ).bd _) QO = _
  rw [wp_bd]
  refine wp_cg fun o ρ => ?_
  cases o <;> rfl
theorem nxt_nx {r : Ss} : Nxt Γ r QO .nx ρ = Wp (evSs Γ r ρ) QO := rfl
theorem nxt_rt {r : Ss} {d : D} : Nxt Γ r QO (.rt d) ρ = QO (.rt d) ρ := rfl
theorem nxt_bk {r : Ss} : Nxt Γ r QO .bk ρ = QO .bk ρ := rfl
theorem nxt_ct {r : Ss} : Nxt Γ r QO .ct ρ = QO .ct ρ := rfl
theorem w_set {i : Nat} {e : E} : Wp (evS Γ (.set i e) ρ) QO = Wp (evE Γ e ρ) fun d ρ => own (md e) d = true ∧ setK i (some d) ρ (QO .nx) := by
  show Wp ((evE Γ e ρ).bd _) QO = _
  rw [wp_bd]
  refine wp_cg fun d ρ => ?_
  rw [wp_if]
  simp [setK, w_ok, and_assoc]
/-- targets -/
def tsK (ts : Tgs) (ds : List D) (ρ : Env) (Q : Env → Prop) : Prop := ∃ ρ', bindTs ts ds ρ = some ρ' ∧ Q ρ'
def tgK (t : Tg) (d : D) (ρ : Env) (Q : Env → Prop) : Prop := ∃ ρ', bindT t d ρ = some ρ' ∧ Q ρ'
theorem tsK0 {Q : Env → Prop} : tsK .nil [] ρ Q = Q ρ := by simp [tsK, bindTs]
theorem tsKs {t : Tg} {r : Tgs} {d : D} {ds : List D} {Q : Env → Prop} : tsK (.cons t r) (d :: ds) ρ Q = tgK t d ρ fun ρ => tsK r ds ρ Q := by
  simp only [tsK, tgK, bindTs]
  cases bindT t d ρ <;> simp
theorem tgKv {i : Nat} {d : D} {Q : Env → Prop} : tgK (.v i) d ρ Q = setK i (some d) ρ Q := by
  simp only [tgK, bindT, setK]
  by_cases h : i < ρ.length <;> simp [h]
theorem tgKt {ts : Tgs} {ds : List D} {Q : Env → Prop} : tgK (.t ts) (.tup ds) ρ Q = tsK ts ds ρ Q := rfl
def tupK (d : D) (Q : List D → Prop) : Prop := ∃ ds, d = .tup ds ∧ Q ds
theorem tupK_t {ds : List D} {Q : List D → Prop} : tupK (.tup ds) Q = Q ds := by simp [tupK]
theorem w_tset {ts : Tgs} {e : E} : Wp (evS Γ (.tset ts e) ρ) QO = Wp (evE Γ e ρ) fun d ρ => own (md e) d = true ∧ tupK d fun ds => tsK ts ds ρ (QO .nx) := by
  show Wp ((evE Γ e ρ).bd _) QO = _
  rw [wp_bd]
  refine wp_cg fun d ρ => ?_
  rw [wp_if]
  congr 1
  cases d with
  | tup ds =>
    rw [tupK_t]
    show Wp ((lift (bindTs ts ds ρ) ρ).bd _) QO = _
    rw [wp_bd, wp_lift]; rfl
  | _ => simp [tupK, Wp]
/-- a store without a look at the length -/
def setM (i : Nat) (x : Option D) (ρ : Env) (Q : Env → Prop) : Prop := Q (ρ.set i x)
theorem setM0 {ρ : Env} {d x : Option D} {Q : Env → Prop} : setM 0 x (d :: ρ) Q = Q (x :: ρ) := rfl
theorem setMs {i : Nat} {ρ : Env} {d x : Option D} {Q : Env → Prop} : setM (i+1) x (d :: ρ) Q = setM i x ρ fun r => Q (d :: r) := rfl
theorem w_aug {i : Nat} {o : BOp} {e : E} (h : hasN (wrE e) i = false) : Wp (evS Γ (.aug i o e) ρ) QO = gK i ρ fun x => Wp (evE Γ e ρ) fun y ρ => iaug o x y = true ∧ Wp (lift (binF o x y) ρ) fun z ρ => setM i (some z) ρ (QO .nx) := by
  show Wp ((lift (g ρ i) ρ).bd _) QO = _
  rw [wp_bd, wp_lift]
  refine congrArg _ (funext fun x => ?_)
  congr 1
  rw [wp_bd]
  refine wp_cg fun y ρ => ?_
  rw [if_neg (by rw [hasN_eq, h]; simp), wp_if, wp_bd]
  rfl
end
end Wk

/-! W2: statements, calls, loops, as rewriting rules -/
namespace Wk
open G
section
variable {Γ : Fns} {ρ : Env} {Q : D → Env → Prop} {QO : Out → Env → Prop}
/-! places -/
theorem gK_v {i : Nat} {Q : D → Prop} : gK (P.root (.v i)) ρ Q = gK i ρ Q := rfl
theorem gK_x {p : P} {e : E} {Q : D → Prop} : gK (P.root (.ix p e)) ρ Q = gK p.root ρ Q := rfl
theorem setM_v {i : Nat} {x : Option D} {Q : Env → Prop} : setM (P.root (.v i)) x ρ Q = setM i x ρ Q := rfl
theorem setM_x {p : P} {e : E} {x : Option D} {Q : Env → Prop} : setM (P.root (.ix p e)) x ρ Q = setM p.root x ρ Q := rfl
def stepK (d : D) (j : Nat) (Q : D → Prop) : Prop := ∃ y, stepG d j = some y ∧ Q y
def atK (d : D) (js : List Nat) (Q : D → Prop) : Prop := ∃ x, getAt d js = some x ∧ Q x
def posK (d k : D) (Q : Nat → Prop) : Prop := ∃ j y, posOf d k = some j ∧ stepG d j = some y ∧ Q j
theorem atK0 {d : D} {Q : D → Prop} : atK d [] Q = Q d := by simp [atK, getAt]
theorem atKs {d : D} {j : Nat} {r : List Nat} {Q : D → Prop} : atK d (j :: r) Q = stepK d j fun y => atK y r Q := by
  simp only [atK, stepK, getAt]
  cases stepG d j <;> simp
theorem atK0a {d : D} {s : List Nat} {Q : D → Prop} : atK d ([] ++ s) Q = atK d s Q := rfl
theorem atKsa {d : D} {j : Nat} {r s : List Nat} {Q : D → Prop} : atK d ((j :: r) ++ s) Q = stepK d j fun y => atK y (r ++ s) Q := atKs
theorem w_pv {i : Nat} {Q : List Nat → Env → Prop} : Wp (evP Γ (.v i) ρ) Q = gK i ρ fun _ => Q [] ρ := by
  show Wp ((lift (g ρ i) ρ).bd _) Q = _
  rw [wp_bd, wp_lift]; rfl
theorem w_px {p : P} {e : E} {Q : List Nat → Env → Prop} (h : hasN (wrE e) p.root = false) : Wp (evP Γ (.ix p e) ρ) Q = Wp (evP Γ p ρ) fun js ρ => Wp (evE Γ e ρ) fun k ρ => gK p.root ρ fun d => atK d js fun x => posK x k fun j => Q (js ++ [j]) ρ := by
  show Wp ((evP Γ p ρ).bd _) Q = _
  rw [wp_bd]
  refine wp_cg fun js ρ => ?_
  rw [wp_bd]
  refine wp_cg fun k ρ => ?_
  rw [if_neg (by rw [hasN_eq, h]; simp)]
  simp only [wp_liftbind]
  simp only [gK, atK, posK, wp_lift]
  refine propext ⟨?_, ?_⟩
  · rintro ⟨d, h1, x, h2, j, h3, y, h4, z, h5, q⟩
    cases h5
    exact ⟨d, h1, x, h2, j, y, h3, h4, q⟩
  · rintro ⟨d, h1, x, h2, j, y, h3, h4, q⟩
    exact ⟨d, h1, x, h2, j, h3, y, h4, _, rfl, q⟩
theorem w_at {p : P} {js : List Nat} {f : D → Option D} : Wp (atP p js ρ f) QO = gK p.root ρ fun d => atK d js fun x => Wp (lift (f x) ρ) fun x' ρ => setM p.root (some (setAt d js x')) ρ (QO .nx) := by
  show Wp ((lift _ ρ).bd _) QO = _
  rw [wp_bd]
  simp only [wp_liftbind, wp_liftmap]
  simp only [gK, atK, wp_lift]
  refine propext ⟨?_, ?_⟩
  · rintro ⟨d, h1, x, h2, y, h3, q⟩
    exact ⟨d, h1, x, h2, y, h3, q⟩
  · rintro ⟨d, h1, x, h2, y, h3, q⟩
    exact ⟨d, h1, x, h2, y, h3, q⟩
theorem w_put {p : P} {k e : E} (h : hasN (wrE k) p.root = false) : Wp (evS Γ (.put p k e) ρ) QO = Wp (evE Γ e ρ) fun v ρ => own (md e) v = true ∧ Wp (evP Γ p ρ) fun js ρ => Wp (evE Γ k ρ) fun kd ρ => gK p.root ρ fun d => atK d js fun x => Wp (lift (putF x kd v) ρ) fun x' ρ => setM p.root (some (setAt d js x')) ρ (QO .nx) := by
  show Wp ((evE Γ e ρ).bd _) QO = _
  rw [wp_bd]
  refine wp_cg fun v ρ => ?_
  rw [wp_if]
  congr 1
  rw [wp_bd]
  refine wp_cg fun js ρ => ?_
  rw [wp_bd]
  refine wp_cg fun kd ρ => ?_
  rw [if_neg (by rw [hasN_eq, h]; simp), w_at]
def lstK (d : D) (Q : Prop) : Prop := (∃ l, d = .lst l) ∧ Q
theorem lstK_l {l : List D} {Q : Prop} : lstK (.lst l) Q = Q := by simp [lstK]
theorem isl_eq {p : P} {js : List Nat} {Q : Prop} : (isLst ρ p js = true ∧ Q) = gK p.root ρ fun d => atK d js fun x => lstK x Q := by
  simp only [isLst, gK, atK, lstK]
  cases g ρ p.root with
  | none => simp
  | some d =>
    cases h : getAt d js with
    | none => simp [h]
    | some x => cases x <;> simp [h]
theorem w_app {p : P} {e : E} (h : hasN (wrE e) p.root = false) : Wp (evS Γ (.app p e) ρ) QO = Wp (evP Γ p ρ) fun js ρ => gK p.root ρ fun d => atK d js fun x => lstK x (Wp (evE Γ e ρ) fun v ρ => own (md e) v = true ∧ gK p.root ρ fun d => atK d js fun x => Wp (lift (appF x v) ρ) fun x' ρ => setM p.root (some (setAt d js x')) ρ (QO .nx)) := by
  show Wp ((evP Γ p ρ).bd _) QO = _
  rw [wp_bd]
  refine wp_cg fun js ρ => ?_
  rw [wp_if, isl_eq]
  congr 1; funext d; congr 1; funext x; congr 1
  rw [wp_bd]
  refine wp_cg fun v ρ => ?_
  rw [wp_if, w_at]
  simp only [hasN_eq, h, and_true]
def lsK (d : D) (Q : List D → Prop) : Prop := ∃ l, d = .lst l ∧ Q l
theorem lsK_l {l : List D} {Q : List D → Prop} : lsK (.lst l) Q = Q l := by simp [lsK]
theorem w_ext {p : P} {e : E} (h : hasN (wrE e) p.root = false) : Wp (evS Γ (.ext p e) ρ) QO = Wp (evP Γ p ρ) fun js ρ => gK p.root ρ fun d => atK d js fun x => lstK x (Wp (evE Γ e ρ) fun v ρ => own (md e) v = true ∧ lsK v fun vs => gK p.root ρ fun d => atK d js fun x => Wp (lift (extF x vs) ρ) fun x' ρ => setM p.root (some (setAt d js x')) ρ (QO .nx)) := by
  show Wp ((evP Γ p ρ).bd _) QO = _
  rw [wp_bd]
  refine wp_cg fun js ρ => ?_
  rw [wp_if, isl_eq]
  congr 1; funext d; congr 1; funext x; congr 1
  rw [wp_bd]
  refine wp_cg fun v ρ => ?_
  rw [wp_if]
  simp only [hasN_eq, h, and_true]
  congr 1
  cases v with
  | lst vs => rw [lsK_l]; exact w_at
  | _ => simp [lsK, Wp]
def popK (d : D) (Q : D → D → Prop) : Prop := ∃ x d', popF d = some (x, d') ∧ Q x d'
theorem popK_app {l : List D} {x : D} {Q : D → D → Prop} : popK (.lst (l ++ [x])) Q = Q x (.lst l) := by
  have : popF (.lst (l ++ [x])) = some (x, .lst l) := by simp [popF]
  exact propext ⟨fun ⟨_, _, h, q⟩ => by rw [this] at h; cases h; exact q, fun q => ⟨_, _, this, q⟩⟩
theorem popK_con {x : D} {Q : D → D → Prop} : popK (.lst [x]) Q = Q x (.lst []) := popK_app (l := [])
theorem w_pop {p : P} : Wp (evE Γ (.pop p) ρ) Q = Wp (evP Γ p ρ) fun js ρ => gK p.root ρ fun d => atK d js fun x => popK x fun y x' => setM p.root (some (setAt d js x')) ρ fun ρ => Q y ρ := by
  show Wp ((evP Γ p ρ).bd _) Q = _
  rw [wp_bd]
  refine wp_cg fun js ρ => ?_
  rw [wp_bd]
  simp only [wp_liftbind, wp_liftmap]
  simp only [gK, atK, wp_lift, popK]
  refine propext ⟨?_, ?_⟩
  · rintro ⟨d, h1, x, h2, ⟨y, x'⟩, h3, q⟩
    exact ⟨d, h1, x, h2, y, x', h3, q⟩
  · rintro ⟨d, h1, x, h2, y, x', h3, q⟩
    exact ⟨d, h1, x, h2, (y, x'), h3, q⟩
/-! other statements -/
theorem w_ex {e : E} : Wp (evS Γ (.ex e) ρ) QO = Wp (evE Γ e ρ) fun _ ρ => QO .nx ρ := by
  show Wp ((evE Γ e ρ).bd _) QO = _
  rw [wp_bd]; rfl
theorem w_ret {e : E} : Wp (evS Γ (.ret e) ρ) QO = Wp (evE Γ e ρ) fun d ρ => own (md e) d = true ∧ QO (.rt d) ρ := by
  show Wp ((evE Γ e ρ).bd _) QO = _
  rw [wp_bd]
  refine wp_cg fun d ρ => ?_
  rw [wp_if]; rfl
theorem w_retN : Wp (evS Γ .retN ρ) QO = QO (.rt .non) ρ := rfl
theorem w_brk : Wp (evS Γ .brk ρ) QO = QO .bk ρ := rfl
theorem w_cnt : Wp (evS Γ .cnt ρ) QO = QO .ct ρ := rfl
theorem w_pass : Wp (evS Γ .pass ρ) QO = QO .nx ρ := rfl
theorem w_if {c : E} {a b : Ss} : Wp (evS Γ (.ite c a b) ρ) QO = Wp (evE Γ c ρ) fun x ρ => Wp (lift (tru x) ρ) fun t ρ => brK t (Wp (evSs Γ a ρ) QO) (Wp (evSs Γ b ρ) QO) := by
  show Wp ((evE Γ c ρ).bd _) QO = _
  rw [wp_bd]
  refine wp_cg fun x ρ => ?_
  rw [wp_bd]
  refine wp_cg fun t ρ => ?_
  cases t <;> simp [brK]
/-! calls -/
theorem w_an {Q : List Ag → Env → Prop} : Wp (evAs Γ .nil ρ) Q = Q [] ρ := rfl
theorem w_av {e : E} {r : As} {Q : List Ag → Env → Prop} : Wp (evAs Γ (.val e r) ρ) Q = Wp (evE Γ e ρ) fun d ρ => own (md e) d = true ∧ Wp (evAs Γ r ρ) fun ds ρ => Q (.d d :: ds) ρ := by
  show Wp ((evE Γ e ρ).bd _) Q = _
  rw [wp_bd]
  refine wp_cg fun d ρ => ?_
  rw [wp_if, wp_bd]; rfl
theorem w_ar {i : Nat} {r : As} {Q : List Ag → Env → Prop} : Wp (evAs Γ (.ref i r) ρ) Q = gK i ρ fun _ => Wp (evAs Γ r ρ) fun ds ρ => Q (.r i :: ds) ρ := by
  show Wp ((lift (g ρ i) ρ).bd _) Q = _
  rw [wp_bd, wp_lift]
  refine congrArg _ (funext fun x => ?_)
  congr 1
  rw [wp_bd]; rfl
def takK (as : List Ag) (ρ : Env) (Q : List D → Env → Prop) : Prop := ∃ ds ρ1, takeA as ρ = some (ds, ρ1) ∧ Q ds ρ1
def givK (as : List Ag) (rs ρ : Env) (Q : Env → Prop) : Prop := ∃ ρ1, giveA as rs ρ = some ρ1 ∧ Q ρ1
theorem takK0 {Q : List D → Env → Prop} : takK [] ρ Q = Q [] ρ := propext ⟨fun ⟨_, _, h, q⟩ => by cases h; exact q, fun q => ⟨_, _, rfl, q⟩⟩
theorem takKd {x : D} {r : List Ag} {Q : List D → Env → Prop} : takK (.d x :: r) ρ Q = takK r ρ fun ds ρ => Q (x :: ds) ρ := by
  simp only [takK, takeA]
  cases takeA r ρ with
  | none => simp
  | some p => exact propext ⟨fun ⟨_, _, h, q⟩ => by cases h; exact ⟨_, _, rfl, q⟩, fun ⟨_, _, h, q⟩ => by cases h; exact ⟨_, _, rfl, q⟩⟩
theorem takKr {i : Nat} {r : List Ag} {Q : List D → Env → Prop} : takK (.r i :: r) ρ Q = gK i ρ fun x => setN i ρ fun ρ => takK r ρ fun ds ρ => Q (x :: ds) ρ := by
  simp only [takK, takeA, gK, setN]
  cases g ρ i with
  | none => simp
  | some x =>
    cases takeA r (ρ.set i none) with
    | none => simp
    | some p => exact propext ⟨fun ⟨_, _, h, q⟩ => by cases h; exact ⟨_, rfl, _, _, rfl, q⟩, fun ⟨_, e, _, _, h, q⟩ => by cases e; cases h; exact ⟨_, _, rfl, q⟩⟩
theorem givK0 {Q : Env → Prop} : givK [] [] ρ Q = Q ρ := by simp [givK, giveA]
theorem givKd {x : D} {o : Option D} {r : List Ag} {rs : Env} {Q : Env → Prop} : givK (.d x :: r) (o :: rs) ρ Q = givK r rs ρ Q := by simp [givK, giveA]
theorem givKr {i : Nat} {x : D} {r : List Ag} {rs : Env} {Q : Env → Prop} : givK (.r i :: r) (some x :: rs) ρ Q = setM i (some x) ρ fun ρ => givK r rs ρ Q := by simp [givK, giveA, setM]
theorem w_callR {f : Nat} {as : List Ag} : Wp (callR Γ f as ρ) Q = takK as ρ fun ds ρ1 => WpF (Γ f ds) fun d rs => givK as rs ρ1 fun ρ2 => Q d ρ2 := by
  unfold callR takK
  cases takeA as ρ with
  | none => simp [Wp]
  | some p =>
    obtain ⟨ds, ρ1⟩ := p
    have e : (∃ ds' ρ1', some (ds, ρ1) = some (ds', ρ1') ∧ WpF (Γ f ds') fun d rs => givK as rs ρ1' fun ρ2 => Q d ρ2) = WpF (Γ f ds) fun d rs => givK as rs ρ1 fun ρ2 => Q d ρ2 := propext ⟨fun ⟨_, _, h, q⟩ => by cases h; exact q, fun q => ⟨_, _, rfl, q⟩⟩
    rw [e]
    simp only
    cases Γ f ds with
    | no => rfl
    | er x => rfl
    | ok d rs =>
      simp only [givK, WpF]
      cases giveA as rs ρ1 <;> simp [Wp]
theorem w_call {f : Nat} {as : As} : Wp (evE Γ (.call f as) ρ) Q = Wp (evAs Γ as ρ) fun ags ρ => takK ags ρ fun ds ρ1 => WpF (Γ f ds) fun d rs => givK ags rs ρ1 fun ρ2 => Q d ρ2 := by
  show Wp ((evAs Γ as ρ).bd _) Q = _
  rw [wp_bd]
  exact wp_cg fun ags ρ => w_callR
theorem wpf_ok {d : D} {rs : Env} {Q : D → Env → Prop} : WpF (.ok d rs) Q = Q d rs := rfl
/-! sources, loops -/
theorem w_se {a : E} {Q : List D → Env → Prop} : Wp (evSrc Γ (.e a) ρ) Q = Wp (evE Γ a ρ) fun x ρ => Wp (lift (items x) ρ) Q := by
  show Wp ((evE Γ a ρ).bd _) Q = _
  rw [wp_bd]
theorem rngL_up : ∀ (n : Nat) (a : Int), rngL a 1 n = (List.range n).map fun (k : Nat) => .int (a + k) := by
    intro n
    induction n with
    | zero => intro a; rfl
    | succ n ih =>
      intro a
      rw [List.range_succ_eq_map, List.map_cons, List.map_map]
      show D.int a :: rngL (a + 1) 1 n = _
      rw [ih]
      congr 1
      · simp
      · refine List.map_congr_left fun k _ => ?_
        simp only [Function.comp]
        congr 1; omega
theorem rngL_dn : ∀ (n : Nat) (a : Int), rngL a (-1) n = (List.range n).map fun (k : Nat) => .int (a - k) := by
    intro n
    induction n with
    | zero => intro a; rfl
    | succ n ih =>
      intro a
      rw [List.range_succ_eq_map, List.map_cons, List.map_map]
      show D.int a :: rngL (a + -1) (-1) n = _
      rw [ih]
      congr 1
      · simp
      · refine List.map_congr_left fun k _ => ?_
        simp only [Function.comp]
        congr 1; omega
theorem w_s1 {a : E} {Q : List D → Env → Prop} : Wp (evSrc Γ (.r1 a) ρ) Q = Wp (evE Γ a ρ) fun x ρ => iK x fun j => (-1000000 ≤ j ∧ j ≤ 1000000) ∧ Q ((List.range j.toNat).map fun (k : Nat) => .int k) ρ := by
  show Wp ((evE Γ a ρ).bd _) Q = _
  rw [wp_bd]
  refine wp_cg fun x ρ => ?_
  cases x with
  | int j =>
    rw [iK_int]
    show Wp (if -1000000 ≤ j ∧ j ≤ 1000000 then R.ok (rngL 0 1 j.toNat) ρ else .no) Q = _
    rw [wp_if, rngL_up]; simp only [Int.zero_add]; rfl
  | _ => simp [iK, Wp]
theorem w_s2 {a b : E} {Q : List D → Env → Prop} : Wp (evSrc Γ (.r2 a b) ρ) Q = Wp (evE Γ a ρ) fun x ρ => Wp (evE Γ b ρ) fun y ρ => iK x fun i => iK y fun j => (i ≤ 1000000 ∧ j ≤ 1000000 ∧ -1000000 ≤ i ∧ -1000000 ≤ j) ∧ Q ((List.range (j - i).toNat).map fun (k : Nat) => .int (i + k)) ρ := by
  show Wp ((evE Γ a ρ).bd _) Q = _
  rw [wp_bd]
  refine wp_cg fun x ρ => ?_
  rw [wp_bd]
  refine wp_cg fun y ρ => ?_
  cases x with
  | int i =>
    rw [iK_int]
    cases y with
    | int j =>
      rw [iK_int]
      show Wp (if (decide (i ≤ 1000000) && decide (j ≤ 1000000) && decide (-1000000 ≤ i) && decide (-1000000 ≤ j)) = true then R.ok (rngL i 1 (j - i).toNat) ρ else .no) Q = _
      rw [wp_if, rngL_up]
      simp only [Bool.and_eq_true, decide_eq_true_eq, and_assoc, w_ok]
    | _ => simp [iK, Wp]
  | _ => simp [iK, Wp]
theorem w_s3 {a b : E} {Q : List D → Env → Prop} : Wp (evSrc Γ (.r3 a b (-1)) ρ) Q = Wp (evE Γ a ρ) fun x ρ => Wp (evE Γ b ρ) fun y ρ => iK x fun i => iK y fun j => (i ≤ 1000000 ∧ j ≤ 1000000 ∧ -1000000 ≤ i ∧ -1000000 ≤ j) ∧ Q ((List.range (i - j).toNat).map fun (k : Nat) => .int (i - k)) ρ := by
  show Wp ((evE Γ a ρ).bd _) Q = _
  rw [wp_bd]
  refine wp_cg fun x ρ => ?_
  rw [wp_bd]
  refine wp_cg fun y ρ => ?_
  cases x with
  | int i =>
    rw [iK_int]
    cases y with
    | int j =>
      rw [iK_int]
      show Wp (if (decide (-1000000 ≤ i) && decide (i ≤ 1000000) && decide (-1000000 ≤ j) && decide (j ≤ 1000000) && decide ((-1 : Int) = -1)) = true then R.ok (rngL i (-1) (i - j).toNat) ρ else .no) Q = _
      rw [wp_if, rngL_dn]
      simp only [Bool.and_eq_true, decide_eq_true_eq, w_ok, and_true]
      refine propext ⟨fun ⟨⟨⟨⟨a, b⟩, c⟩, d⟩, q⟩ => ⟨⟨b, d, a, c⟩, q⟩, fun ⟨⟨b, d, a, c⟩, q⟩ => ⟨⟨⟨⟨a, b⟩, c⟩, d⟩, q⟩⟩
    | _ => simp [iK, Wp]
  | _ => simp [iK, Wp]
theorem w_sn {a : E} {Q : List D → Env → Prop} : Wp (evSrc Γ (.enum a) ρ) Q = Wp (evE Γ a ρ) fun x ρ => Wp (lift (items x) ρ) fun xs ρ => xs.length ≤ cap ∧ Q (enumL 0 xs) ρ := by
  show Wp ((evE Γ a ρ).bd _) Q = _
  rw [wp_bd]
  refine wp_cg fun x ρ => ?_
  rw [wp_bd]
  refine wp_cg fun xs ρ => ?_
  rw [wp_if]; rfl
theorem w_for {tg : Tg} {src : Src} {b : Ss} {ks : List Nat} (h : safeB (mdS src) (wrSs b ++ tg.slots ++ ks) = true) : Wp (evS Γ (.for tg src b ks) ρ) QO = Wp (evSrc Γ src ρ) fun xs ρ => own (mdS src) (.tup xs) = true ∧ clrK ks ρ fun ρ => Wp (forL (bindT tg) (fun ρ => evSs Γ b ρ) ks xs ρ) QO := by
  show Wp ((evSrc Γ src ρ).bd _) QO = _
  rw [wp_bd]
  refine wp_cg fun xs ρ => ?_
  rw [wp_if]
  simp only [safe_of h, true_and]
  rfl
theorem w_wh {c : E} {b : Ss} {ks : List Nat} : Wp (evS Γ (.wh c b ks) ρ) QO = clrK ks ρ fun ρ => Wp (whL (fun ρ => (evE Γ c ρ).bd fun x ρ => lift (tru x) ρ) (fun ρ => evSs Γ b ρ) ks fuelW ρ) QO := rfl
/-- what is to be shown at the end of a loop's body -/
def LpQ (ks : List Nat) (I : Env → Prop) (QO : Out → Env → Prop) (o : Out) (ρ : Env) : Prop := match o with
  | .nx => clrK ks ρ I
  | .ct => clrK ks ρ I
  | .bk => clrK ks ρ (QO .nx)
  | .rt d => QO (.rt d) ρ
variable {ks : List Nat} {I : Env → Prop}
theorem lpq_nx : LpQ ks I QO .nx ρ = clrK ks ρ I := rfl
theorem lpq_ct : LpQ ks I QO .ct ρ = clrK ks ρ I := rfl
theorem lpq_bk : LpQ ks I QO .bk ρ = clrK ks ρ (QO .nx) := rfl
theorem lpq_rt {d : D} : LpQ ks I QO (.rt d) ρ = QO (.rt d) ρ := rfl
/-- a for loop over what is made of xs, by how many are done -/
theorem for_map {α : Type} {tg : Tg} {b : Ss} {f : α → D} {xs : List α} (I : Nat → Env → Prop) (h0 : I 0 ρ) (he : ∀ ρ, I xs.length ρ → QO .nx ρ)
    (hs : ∀ k (hk : k < xs.length) ρ, I k ρ → tgK tg (f xs[k]) ρ fun ρ => Wp (evSs Γ b ρ) (LpQ ks (I (k + 1)) QO)) : Wp (forL (bindT tg) (fun ρ => evSs Γ b ρ) ks (xs.map f) ρ) QO := by
  refine wp_for (I := fun ys ρ => ∃ k, k ≤ xs.length ∧ ys = (xs.drop k).map f ∧ I k ρ) _ _ ⟨0, by omega, by simp, h0⟩ ?_ ?_
  · rintro ρ ⟨k, hk, h1, h2⟩
    have : k = xs.length := by
      have := congrArg List.length h1
      simp at this; omega
    subst this; exact he _ h2
  · rintro x ys ρ ⟨k, hk, h1, h2⟩
    have hk' : k < xs.length := by
      have := congrArg List.length h1
      simp at this; omega
    rw [List.drop_eq_getElem_cons hk', List.map_cons] at h1
    obtain ⟨rfl, rfl⟩ := List.cons.inj h1
    obtain ⟨ρ0, hb, hw⟩ := hs k hk' ρ h2
    refine ⟨ρ0, hb, wp_mono hw fun o ρ1 h => ?_⟩
    cases o with
    | nx => exact ⟨k + 1, hk', rfl, h⟩
    | ct => exact ⟨k + 1, hk', rfl, h⟩
    | bk => exact h
    | rt d => exact h
theorem for_range {tg : Tg} {b : Ss} {f : Nat → D} {n : Nat} (I : Nat → Env → Prop) (h0 : I 0 ρ) (he : ∀ ρ, I n ρ → QO .nx ρ)
    (hs : ∀ k (_ : k < n) ρ, I k ρ → tgK tg (f k) ρ fun ρ => Wp (evSs Γ b ρ) (LpQ ks (I (k + 1)) QO)) : Wp (forL (bindT tg) (fun ρ => evSs Γ b ρ) ks ((List.range n).map f) ρ) QO := by
  refine for_map I h0 (fun ρ h => he ρ ?_) (fun k hk ρ h => ?_)
  · rwa [List.length_range] at h
  · rw [List.getElem_range]
    exact hs k (by simpa using hk) ρ h
theorem enumL_eq {α : Type} (f : α → D) : ∀ (xs : List α) (i : Nat), enumL i (xs.map f) = (xs.zipIdx i).map fun p => .tup [.int p.2, f p.1]
  | [], i => rfl
  | x :: xs, i => by
    show D.tup [.int i, f x] :: enumL ((i : Int) + 1) (xs.map f) = _
    rw [show ((i : Int) + 1) = ((i + 1 : Nat) : Int) from rfl, enumL_eq f xs (i + 1)]
    rfl
/-- enumerate -/
theorem for_enum {α : Type} {tg : Tg} {b : Ss} {f : α → D} {xs : List α} (I : Nat → Env → Prop) (h0 : I 0 ρ) (he : ∀ ρ, I xs.length ρ → QO .nx ρ)
    (hs : ∀ k (hk : k < xs.length) ρ, I k ρ → tgK tg (.tup [.int k, f xs[k]]) ρ fun ρ => Wp (evSs Γ b ρ) (LpQ ks (I (k + 1)) QO)) : Wp (forL (bindT tg) (fun ρ => evSs Γ b ρ) ks (enumL 0 (xs.map f)) ρ) QO := by
  rw [show (0 : Int) = ((0 : Nat) : Int) from rfl, enumL_eq]
  refine for_map I h0 (fun ρ h => he ρ (by simpa using h)) (fun k hk ρ h => ?_)
  have := hs k (by simpa using hk) ρ h
  simpa using this
/-- a while loop, with a measure -/
theorem wh_m {c : E} {b : Ss} (I : Nat → Env → Prop) (m : Nat) (hm : m < fuelW) (h0 : I m ρ) (hs : ∀ m ρ, I m ρ → Wp (evE Γ c ρ) fun x ρ => Wp (lift (tru x) ρ) fun t ρ => brK t (Wp (evSs Γ b ρ) (LpQ ks (fun ρ => ∃ k, k < m ∧ I k ρ) QO)) (clrK ks ρ (QO .nx))) :
    Wp (whL (fun ρ => (evE Γ c ρ).bd fun x ρ => lift (tru x) ρ) (fun ρ => evSs Γ b ρ) ks fuelW ρ) QO := by
  refine wp_wh (I := I) (fun m ρ h => ?_) fuelW m ρ hm h0
  rw [wp_bd]
  refine wp_mono (hs m ρ h) fun x ρ h => wp_mono h fun t ρ h => ?_
  cases t with
  | false => rw [brK_false] at h; simp only [Bool.false_eq_true, if_false]; exact h
  | true =>
    rw [brK_true] at h
    simp only [if_true]
    refine wp_mono h fun o ρ h => ?_
    cases o <;> exact h
/-! comprehensions -/
theorem w_cn {Q : Bool → Env → Prop} : Wp (evC Γ .non ρ) Q = Q true ρ := rfl
theorem w_cs {e : E} {Q : Bool → Env → Prop} : Wp (evC Γ (.som e) ρ) Q = Wp (evE Γ e ρ) fun d ρ => Wp (lift (tru d) ρ) Q := by
  show Wp ((evE Γ e ρ).bd _) Q = _
  rw [wp_bd]
/-- a comprehension, stuck -/
def CompW (Γ : Fns) (tg : Tg) (c : Eo) (e : E) (xs : List D) (ρ : Env) (Q : D → Env → Prop) : Prop := xs.length ≤ cap ∧ Wp (compL (fun x ρ => bindT tg x (clr ρ tg.slots)) (fun ρ => evC Γ c ρ) (fun ρ => (evE Γ e ρ).bd fun d ρ => if own (md e) d = true then .ok d ρ else .no) xs ρ) fun ys ρ2 => Q (.lst ys) (bck ρ ρ2 tg.slots)
theorem wp_calmE {α : Type} {r : R α} {Q : α → Env → Prop} : Wp (calm r) Q = Wp r Q := by cases r <;> rfl
theorem w_comp {tg : Tg} {src : Src} {c : Eo} {e : E} (h : safeB (mdS src) (wrEo c ++ wrE e) = true) : Wp (evE Γ (.comp tg src c e) ρ) Q = Wp (evSrc Γ src ρ) fun xs ρ => own (mdS src) (.tup xs) = true ∧ CompW Γ tg c e xs ρ Q := by
  show Wp (calm ((evSrc Γ src ρ).bd _)) Q = _
  rw [wp_calmE, wp_bd]
  refine wp_cg fun xs ρ => ?_
  rw [wp_if, wp_bd]
  simp only [safe_of h, true_and, and_assoc]
  rfl
/-- a comprehension whose parts change nothing -/
theorem comp_pure {α : Type} {tg : Tg} {c : Eo} {e : E} {enc : α → D} {xs : List α} (up : α → Env) (p : α → Bool) (v : α → D) (hc : xs.length ≤ cap)
    (hb : ∀ x, bindT tg (enc x) (clr ρ tg.slots) = some (up x)) (hu : ∀ x, clr (up x) tg.slots = clr ρ tg.slots) (hk : ∀ x, bck ρ (up x) tg.slots = ρ) (hk0 : bck ρ ρ tg.slots = ρ)
    (hp : ∀ x ∈ xs, Wp (evC Γ c (up x)) fun b ρ' => b = p x ∧ ρ' = up x)
    (he : ∀ x ∈ xs, p x = true → Wp (evE Γ e (up x)) fun d ρ' => own (md e) d = true ∧ d = v x ∧ ρ' = up x)
    (q : Q (.lst ((xs.filter p).map v)) ρ) : CompW Γ tg c e (xs.map enc) ρ Q := by
  refine ⟨by simpa using hc, ?_⟩
  have main : ∀ (xs : List α) (ρ' : Env), clr ρ' tg.slots = clr ρ tg.slots → bck ρ ρ' tg.slots = ρ →
      (∀ x ∈ xs, Wp (evC Γ c (up x)) fun b ρ' => b = p x ∧ ρ' = up x) →
      (∀ x ∈ xs, p x = true → Wp (evE Γ e (up x)) fun d ρ' => own (md e) d = true ∧ d = v x ∧ ρ' = up x) →
      Wp (compL (fun x ρ => bindT tg x (clr ρ tg.slots)) (fun ρ => evC Γ c ρ) (fun ρ => (evE Γ e ρ).bd fun d ρ => if own (md e) d = true then .ok d ρ else .no) (xs.map enc) ρ') fun ys ρ2 => ys = (xs.filter p).map v ∧ bck ρ ρ2 tg.slots = ρ := by
    intro xs
    induction xs with
    | nil => intro ρ' h1 h2 _ _; exact ⟨rfl, h2⟩
    | cons x xs ih =>
      intro ρ' h1 h2 hp he
      show Wp ((lift (bindT tg (enc x) (clr ρ' tg.slots)) ρ').bd _) _
      rw [h1, hb, wp_bd, wp_some, wp_bd]
      refine wp_mono (hp x (by simp)) ?_
      rintro b ρ1 ⟨rfl, rfl⟩
      cases hpx : p x with
      | false =>
        simp only [Bool.false_eq_true, if_false]
        rw [List.filter_cons_of_neg (by simp [hpx])]
        exact ih _ (hu x) (hk x) (fun y hy => hp y (by simp [hy])) (fun y hy => he y (by simp [hy]))
      | true =>
        simp only [if_true]
        rw [wp_bd, wp_bd]
        refine wp_mono (he x (by simp) hpx) ?_
        rintro d ρ2 ⟨o, rfl, rfl⟩
        rw [if_pos o, w_ok, wp_bd]
        refine wp_mono (ih _ (hu x) (hk x) (fun y hy => hp y (by simp [hy])) (fun y hy => he y (by simp [hy]))) ?_
        rintro ys ρ3 ⟨rfl, h3⟩
        rw [w_ok, List.filter_cons_of_pos hpx]
        exact ⟨rfl, h3⟩
  refine wp_mono (main xs ρ rfl hk0 hp he) ?_
  rintro ys ρ2 ⟨rfl, h⟩
  rw [h]; exact q
/-! later codes -/
theorem w_bi3 {b : BI} {a a' a'' : E} : Wp (evE Γ (.bi3 b a a' a'') ρ) Q = Wp (evE Γ a ρ) fun x ρ => Wp (evE Γ a' ρ) fun y ρ => Wp (evE Γ a'' ρ) fun z ρ => Wp (lift (bi3F b x y z) ρ) Q := by
  show Wp ((evE Γ a ρ).bd _) Q = _
  rw [wp_bd]
  refine wp_cg fun x ρ => ?_
  rw [wp_bd]
  refine wp_cg fun y ρ => ?_
  rw [wp_bd]
theorem w_lcp {a : E} (h : (md a).isNone = true) : Wp (evE Γ (.lcp a) ρ) Q = Wp (evE Γ a ρ) fun x ρ => lsK x fun l => Q (.lst l) ρ := by
  show Wp ((evE Γ a ρ).bd _) Q = _
  rw [wp_bd]
  refine wp_cg fun x ρ => ?_
  cases x with
  | lst l =>
    rw [lsK_l]
    show Wp (if (md a).isNone = true then _ else _) Q = _
    rw [if_pos h]; rfl
  | _ => simp [lsK, Wp]
theorem w_cmp2 {o p : COp} {a b c : E} : Wp (evE Γ (.cmp2 o p a b c) ρ) Q = Wp (evE Γ a ρ) fun x ρ => Wp (evE Γ b ρ) fun y ρ => (pu x = true ∧ pu y = true) ∧ Wp (lift (cmpF o x y) ρ) fun t ρ => brK t (Wp (evE Γ c ρ) fun z ρ => pu z = true ∧ Wp (lift (cmpF p y z) ρ) fun t ρ => Q (.bl t) ρ) (Q (.bl false) ρ) := by
  show Wp ((evE Γ a ρ).bd _) Q = _
  rw [wp_bd]
  refine wp_cg fun x ρ => ?_
  rw [wp_bd]
  refine wp_cg fun y ρ => ?_
  rw [wp_if]
  congr 1
  rw [wp_bd]
  refine wp_cg fun t ρ => ?_
  cases t with
  | false => rw [brK_false]; rfl
  | true =>
    rw [brK_true, if_pos rfl, wp_bd]
    refine wp_cg fun z ρ => ?_
    rw [wp_if, wp_liftmap]
theorem m_min3 {i j k : Int} : Wp (lift (bi3F .min3 (.int i) (.int j) (.int k)) ρ) Q = Q (.int (min (min i j) k)) ρ := by
  show Q (.int (if k < (if j < i then j else i) then k else (if j < i then j else i))) ρ = _
  congr 2
  split <;> split at * <;> omega
theorem m_max3 {i j k : Int} : Wp (lift (bi3F .max3 (.int i) (.int j) (.int k)) ρ) Q = Q (.int (max (max i j) k)) ρ := by
  show Q (.int (if (if i < j then j else i) < k then k else (if i < j then j else i))) ρ = _
  congr 2
  split <;> split at * <;> omega
theorem w_tr1 {t : Bool} {a : E} : Wp (evE Γ (.tr1 t a) ρ) Q = Wp (evE Γ a ρ) fun x ρ => iK x fun j => (j ≤ 1000000 ∧ -1000000 ≤ j) ∧ Q (bif t then .tup ((List.range j.toNat).map fun (k : Nat) => .int k) else .lst ((List.range j.toNat).map fun (k : Nat) => .int k)) ρ := by
  show Wp ((evE Γ a ρ).bd _) Q = _
  rw [wp_bd]
  refine wp_cg fun x ρ => ?_
  cases x with
  | int j =>
    rw [iK_int]
    show Wp (if j ≤ 1000000 ∧ -1000000 ≤ j then R.ok (if t = true then .tup (rngL 0 1 j.toNat) else .lst (rngL 0 1 j.toNat)) ρ else .no) Q = _
    rw [wp_if, rngL_up]
    simp only [Int.zero_add, w_ok]
    cases t <;> rfl
  | _ => simp [iK, Wp]
theorem w_tr2 {t : Bool} {a b : E} : Wp (evE Γ (.tr2 t a b) ρ) Q = Wp (evE Γ a ρ) fun x ρ => Wp (evE Γ b ρ) fun y ρ => iK x fun i => iK y fun j => (i ≤ 1000000 ∧ j ≤ 1000000 ∧ -1000000 ≤ i ∧ -1000000 ≤ j) ∧ Q (bif t then .tup ((List.range (j - i).toNat).map fun (k : Nat) => .int (i + k)) else .lst ((List.range (j - i).toNat).map fun (k : Nat) => .int (i + k))) ρ := by
  show Wp ((evE Γ a ρ).bd _) Q = _
  rw [wp_bd]
  refine wp_cg fun x ρ => ?_
  rw [wp_bd]
  refine wp_cg fun y ρ => ?_
  cases x with
  | int i =>
    rw [iK_int]
    cases y with
    | int j =>
      rw [iK_int]
      show Wp (if i ≤ 1000000 ∧ j ≤ 1000000 ∧ -1000000 ≤ i ∧ -1000000 ≤ j then R.ok (if t = true then .tup (rngL i 1 (j - i).toNat) else .lst (rngL i 1 (j - i).toNat)) ρ else .no) Q = _
      rw [wp_if, rngL_up]
      simp only [w_ok]
      cases t <;> rfl
    | _ => simp [iK, Wp]
  | _ => simp [iK, Wp]
theorem w_dis {es : Es} : Wp (evE Γ (.dis es) ρ) Q = Wp (evEs Γ es ρ) fun ds ρ => Wp (lift (pairs2 [] [] ds) ρ) fun p ρ => Q (.dct p.1 p.2) ρ := by
  show Wp ((evEs Γ es ρ).bd _) Q = _
  rw [wp_bd]
  refine wp_cg fun ds ρ => ?_
  rw [wp_liftmap]
theorem comp_pure2 {α : Type} {tg : Tg} {c : Eo} {e : E} {enc : α → D} {l : List D} (xs : List α) (hl : l = xs.map enc) (up : α → Env) (p : α → Bool) (v : α → D) (hc : xs.length ≤ cap)
    (hb : ∀ x, bindT tg (enc x) (clr ρ tg.slots) = some (up x)) (hu : ∀ x, clr (up x) tg.slots = clr ρ tg.slots) (hk : ∀ x, bck ρ (up x) tg.slots = ρ) (hk0 : bck ρ ρ tg.slots = ρ)
    (hp : ∀ x ∈ xs, Wp (evC Γ c (up x)) fun b ρ' => b = p x ∧ ρ' = up x)
    (he : ∀ x ∈ xs, p x = true → Wp (evE Γ e (up x)) fun d ρ' => own (md e) d = true ∧ d = v x ∧ ρ' = up x)
    (q : Q (.lst ((xs.filter p).map v)) ρ) : CompW Γ tg c e l ρ Q := by
  subst hl
  exact comp_pure up p v hc hb hu hk hk0 hp he q
end
end Wk

/-! W3: operations, as rewriting rules -/
namespace Wk
open G
section
variable {ρ : Env} {Q : D → Env → Prop} {QB : Bool → Env → Prop} {QL : List D → Env → Prop}
theorem small_ofNat {n : Nat} : small (no_index (OfNat.ofNat n)) = decide (n < 18446744073709551616) := rfl
theorem small_neg {n : Nat} : small (-(no_index (OfNat.ofNat n))) = decide (n < 18446744073709551616) := by
  show decide ((-(OfNat.ofNat n : Int)).natAbs < 2 ^ 64) = _
  rw [Int.natAbs_neg]; rfl
theorem o_add {i j : Int} : Wp (lift (binF .add (.int i) (.int j)) ρ) Q = Q (.int (i + j)) ρ := rfl
theorem o_sub {i j : Int} : Wp (lift (binF .sub (.int i) (.int j)) ρ) Q = Q (.int (i - j)) ρ := rfl
theorem o_adds {a b : List Nat} : Wp (lift (binF .add (.str a) (.str b)) ρ) Q = (a.length + b.length ≤ cap ∧ Q (.str (a ++ b)) ρ) := wp_liftif
theorem o_addt {a b : List D} : Wp (lift (binF .add (.tup a) (.tup b)) ρ) Q = ((puL a = true ∧ puL b = true ∧ a.length + b.length ≤ cap) ∧ Q (.tup (a ++ b)) ρ) := by
  show Wp (lift (if (puL a && puL b && decide (a.length + b.length ≤ cap)) = true then _ else _) ρ) Q = _
  rw [wp_liftif]; simp [and_assoc]
theorem o_addl {a b : List D} : Wp (lift (binF .add (.lst a) (.lst b)) ρ) Q = ((puL a = true ∧ puL b = true ∧ a.length + b.length ≤ cap) ∧ Q (.lst (a ++ b)) ρ) := by
  show Wp (lift (if (puL a && puL b && decide (a.length + b.length ≤ cap)) = true then _ else _) ρ) Q = _
  rw [wp_liftif]; simp [and_assoc]
theorem o_mul {i j : Int} : Wp (lift (binF .mul (.int i) (.int j)) ρ) Q = ((small i || small j) = true ∧ Q (.int (i * j)) ρ) := wp_liftif
theorem o_muls {a : List Nat} {k : Int} : Wp (lift (binF .mul (.str a) (.int k)) ρ) Q = ((k.toNat * a.length ≤ cap ∧ k.natAbs < 2 ^ 62) ∧ Q (.str (List.replicate k.toNat a).flatten) ρ) := by
  show Wp (lift (if (decide (k.toNat * a.length ≤ cap) && decide (k.natAbs < 2 ^ 62)) = true then _ else _) ρ) Q = _
  rw [wp_liftif]; simp [and_assoc]
theorem o_mull {a : List D} {k : Int} : Wp (lift (binF .mul (.lst a) (.int k)) ρ) Q = ((puL a = true ∧ k.toNat * a.length ≤ cap ∧ k.natAbs < 2 ^ 62) ∧ Q (.lst (List.replicate k.toNat a).flatten) ρ) := by
  show Wp (lift (if (puL a && decide (k.toNat * a.length ≤ cap) && decide (k.natAbs < 2 ^ 62)) = true then _ else _) ρ) Q = _
  rw [wp_liftif]; simp [and_assoc]
theorem o_div {i j : Int} : Wp (lift (binF .fdiv (.int i) (.int j)) ρ) Q = ((0 < j ∧ j < 18446744073709551616) ∧ Q (.int (i / j)) ρ) := by
  show Wp (lift (if (decide (0 < j) && decide (j < 2 ^ 64)) = true then _ else _) ρ) Q = _
  rw [wp_liftif]; simp [and_assoc]
theorem o_mod {i j : Int} : Wp (lift (binF .mod (.int i) (.int j)) ρ) Q = (0 < j ∧ Q (.int (i % j)) ρ) := wp_liftif
theorem o_pow {i j : Int} : Wp (lift (binF .pow (.int i) (.int j)) ρ) Q = ((0 ≤ j ∧ j ≤ 1000 ∧ small i = true) ∧ Q (.int (i ^ j.toNat)) ρ) := by
  show Wp (lift (if (decide (0 ≤ j) && decide (j ≤ 1000) && small i) = true then _ else _) ρ) Q = _
  rw [wp_liftif]; simp [and_assoc]
theorem g_addi {i j : Int} : iaug .add (.int i) (.int j) = true := rfl
theorem g_adds {i j : List Nat} : iaug .add (.str i) (.str j) = true := rfl
theorem g_subi {i j : Int} : iaug .sub (.int i) (.int j) = true := rfl
theorem g_muli {i j : Int} : iaug .mul (.int i) (.int j) = true := rfl
/-! comparisons -/
theorem c_eq {i j : Int} : Wp (lift (cmpF .eq (.int i) (.int j)) ρ) QB = QB (decide (i = j)) ρ := rfl
theorem c_ne {i j : Int} : Wp (lift (cmpF .ne (.int i) (.int j)) ρ) QB = QB (!decide (i = j)) ρ := rfl
theorem c_lt {i j : Int} : Wp (lift (cmpF .lt (.int i) (.int j)) ρ) QB = QB (decide (i < j)) ρ := rfl
theorem c_le {i j : Int} : Wp (lift (cmpF .le (.int i) (.int j)) ρ) QB = QB (decide (i ≤ j)) ρ := rfl
theorem c_gt {i j : Int} : Wp (lift (cmpF .gt (.int i) (.int j)) ρ) QB = QB (decide (j < i)) ρ := rfl
theorem c_ge {i j : Int} : Wp (lift (cmpF .ge (.int i) (.int j)) ρ) QB = QB (decide (j ≤ i)) ρ := rfl
theorem c_eqs {i j : List Nat} : Wp (lift (cmpF .eq (.str i) (.str j)) ρ) QB = QB (decide (i = j)) ρ := rfl
theorem c_nes {i j : List Nat} : Wp (lift (cmpF .ne (.str i) (.str j)) ρ) QB = QB (!decide (i = j)) ρ := rfl
theorem c_lts {i j : List Nat} : Wp (lift (cmpF .lt (.str i) (.str j)) ρ) QB = QB (sLt i j) ρ := rfl
theorem c_gts {i j : List Nat} : Wp (lift (cmpF .gt (.str i) (.str j)) ρ) QB = QB (sLt j i) ρ := rfl
theorem c_les {i j : List Nat} : Wp (lift (cmpF .le (.str i) (.str j)) ρ) QB = QB (!sLt j i) ρ := rfl
theorem c_ges {i j : List Nat} : Wp (lift (cmpF .ge (.str i) (.str j)) ρ) QB = QB (!sLt i j) ρ := rfl
theorem c_neb {i j : Bool} : Wp (lift (cmpF .ne (.bl i) (.bl j)) ρ) QB = QB (!decide (i = j)) ρ := by
  show QB (!(i == j)) ρ = _
  cases i <;> cases j <;> rfl
theorem c_eqb {i j : Bool} : Wp (lift (cmpF .eq (.bl i) (.bl j)) ρ) QB = QB (decide (i = j)) ρ := by
  show QB (i == j) ρ = _
  cases i <;> cases j <;> rfl
theorem c_ins {c : Nat} {t : List Nat} : Wp (lift (cmpF .inn (.str [c]) (.str t)) ρ) QB = QB (decide (c ∈ t)) ρ := rfl
theorem c_isn {x : D} : Wp (lift (cmpF .isn x .non) ρ) QB = QB (isNon x) ρ := by cases x <;> rfl
theorem c_ntn {x : D} : Wp (lift (cmpF .ntn x .non) ρ) QB = QB (!isNon x) ρ := by cases x <;> rfl
theorem c_same {x : D} (h : nod x = true) (hd : dep x ≤ 64) (hq : deq x x = true) : Wp (lift (cmpF .ne x x) ρ) QB = QB false ρ := by
  show Wp (lift (if eqOk x x = true then some (!deq x x) else none) ρ) QB = _
  rw [if_pos (by simp [eqOk, h]; omega), hq]; rfl
theorem t_bl {b : Bool} : Wp (lift (tru (.bl b)) ρ) QB = QB b ρ := rfl
theorem t_int {i : Int} : Wp (lift (tru (.int i)) ρ) QB = QB (!decide (i = 0)) ρ := by
  show QB (i != 0) ρ = _
  congr 1
theorem t_str {l : List Nat} : Wp (lift (tru (.str l)) ρ) QB = (l.length ≤ cap ∧ QB (!l.isEmpty) ρ) := wp_liftif
theorem t_non : Wp (lift (tru .non) ρ) QB = QB false ρ := rfl
theorem t_lst {l : List D} : Wp (lift (tru (.lst l)) ρ) QB = QB (!l.isEmpty) ρ := rfl
theorem t_tup {l : List D} : Wp (lift (tru (.tup l)) ρ) QB = QB (!l.isEmpty) ρ := rfl
/-! subscripts -/
def ixOk (n : Nat) (i : Int) : Prop := -(n : Int) ≤ i ∧ i < n
def ixN (n : Nat) (i : Int) : Nat := if 0 ≤ i then i.toNat else (i + n).toNat
instance (n : Nat) (i : Int) : Decidable (ixOk n i) := inferInstanceAs (Decidable (_ ∧ _))
theorem ixOk_nat {n k : Nat} : ixOk n (k : Int) = (k < n) := by simp only [ixOk]; refine propext ⟨fun h => by omega, fun h => by omega⟩
theorem ixN_nat {n k : Nat} : ixN n (k : Int) = k := by simp [ixN]
theorem ixOk_lit {n k : Nat} : ixOk n (no_index (OfNat.ofNat k)) = (k < n) := ixOk_nat
theorem ixN_lit {n k : Nat} : ixN n (no_index (OfNat.ofNat k)) = k := ixN_nat
theorem ixOk_pos {n : Nat} {i : Int} (h : 0 ≤ i) : ixOk n i = (i.toNat < n) := by simp only [ixOk]; refine propext ⟨fun h => by omega, fun h => by omega⟩
theorem ixN_pos {n : Nat} {i : Int} (h : 0 ≤ i) : ixN n i = i.toNat := by simp [ixN, h]
theorem ixOk_sub {n a b : Nat} (h : b ≤ a) : ixOk n ((a : Int) - (b : Int)) = (a - b < n) := by
  rw [show (a : Int) - (b : Int) = ((a - b : Nat) : Int) by omega, ixOk_nat]
theorem ixN_sub {n a b : Nat} (h : b ≤ a) : ixN n ((a : Int) - (b : Int)) = a - b := by
  rw [show (a : Int) - (b : Int) = ((a - b : Nat) : Int) by omega, ixN_nat]
theorem ixOk_sub1 {n a : Nat} (h : 1 ≤ a) : ixOk n ((a : Int) - 1) = (a - 1 < n) := ixOk_sub h
theorem ixN_sub1 {n a : Nat} (h : 1 ≤ a) : ixN n ((a : Int) - 1) = a - 1 := ixN_sub h
theorem ixOk_add {n a b : Nat} : ixOk n ((a : Int) + (b : Int)) = (a + b < n) := ixOk_nat (k := a + b)
theorem ixN_add {n a b : Nat} : ixN n ((a : Int) + (b : Int)) = a + b := ixN_nat (k := a + b)
theorem ixOk_addl {n a b : Nat} : ixOk n ((a : Int) + no_index (OfNat.ofNat b)) = (a + b < n) := ixOk_nat (k := a + b)
theorem ixN_addl {n a b : Nat} : ixN n ((a : Int) + no_index (OfNat.ofNat b)) = a + b := ixN_nat (k := a + b)
theorem ixOk_ladd {n a b : Nat} : ixOk n (no_index (OfNat.ofNat a) + (b : Int)) = (a + b < n) := ixOk_nat (k := a + b)
theorem ixN_ladd {n a b : Nat} : ixN n (no_index (OfNat.ofNat a) + (b : Int)) = a + b := ixN_nat (k := a + b)
theorem ixOk_m1 {n : Nat} : ixOk n (-1) = (0 < n) := by simp only [ixOk]; refine propext ⟨fun h => by omega, fun h => by omega⟩
theorem ixN_m1 {n : Nat} : ixN n (-1) = n - 1 := by unfold ixN; rw [if_neg (by omega)]; omega
theorem ixN_lt {n : Nat} {i : Int} (h : ixOk n i) : ixN n i < n := by
  simp only [ixOk, ixN] at *; split <;> omega
theorem nIx_eq (n : Nat) (i : Int) : nIx n i = if ixOk n i then some (ixN n i) else none := by
  simp only [nIx, ixOk, ixN]
  repeat' split
  all_goals first | rfl | (exfalso; omega)
def ixK (l : List D) (i : Int) (Q : D → Prop) : Prop := ∃ j d, nIx l.length i = some j ∧ l[j]? = some d ∧ Q d
theorem ixK_map {α : Type} [Inhabited α] {l : List α} {f : α → D} {i : Int} {Q : D → Prop} : ixK (l.map f) i Q = (ixOk l.length i ∧ Q (f (l[ixN l.length i]?.getD default))) := by
  simp only [ixK, nIx_eq, List.length_map]
  by_cases h : ixOk l.length i
  · have := ixN_lt h
    simp [h, List.getElem?_eq_getElem this]
  · simp [h]
theorem ixK_0 {a : D} {l : List D} {Q : D → Prop} : ixK (a :: l) 0 Q = Q a := by
  have h : nIx (a :: l).length 0 = some 0 := by
    rw [nIx_eq, if_pos (by simp [ixOk]; omega)]; rfl
  exact propext ⟨fun ⟨j, d, h1, h2, q⟩ => by rw [h] at h1; cases h1; cases h2; exact q, fun q => ⟨0, a, h, rfl, q⟩⟩
theorem ixK_s {a : D} {l : List D} {n : Nat} {Q : D → Prop} : ixK (a :: l) (no_index (OfNat.ofNat (n + 1))) Q = ixK l (OfNat.ofNat n) Q := by
  simp only [ixK, nIx_eq, ixOk_lit, ixN_lit, List.length_cons]
  by_cases h : n < l.length
  · simp [h]
  · simp [h]
theorem ixK_1 {a b : D} {l : List D} {Q : D → Prop} : ixK (a :: b :: l) 1 Q = Q b := (ixK_s (n := 0)).trans ixK_0
theorem ixK_2 {a b c : D} {l : List D} {Q : D → Prop} : ixK (a :: b :: c :: l) 2 Q = Q c := (ixK_s (n := 1)).trans ixK_1
theorem ixK_3 {a b c d : D} {l : List D} {Q : D → Prop} : ixK (a :: b :: c :: d :: l) 3 Q = Q d := (ixK_s (n := 2)).trans ixK_2
theorem ixK_m1 {a : D} {l : List D} {Q : D → Prop} : ixK (l ++ [a]) (-1) Q = Q a := by
  have h : ixOk (l ++ [a]).length (-1) := by simp [ixOk]; omega
  have e : ixN (l ++ [a]).length (-1) = l.length := by simp [ixN]; omega
  refine propext ⟨fun ⟨j, d, h1, h2, q⟩ => ?_, fun q => ⟨l.length, a, ?_, ?_, q⟩⟩
  · rw [nIx_eq, if_pos h, e] at h1
    cases h1
    simp at h2
    subst h2; exact q
  · rw [nIx_eq, if_pos h, e]
  · simp
theorem ixK_l1 {a : D} {Q : D → Prop} : ixK [a] (-1) Q = Q a := ixK_m1 (l := [])
theorem ixK_l2 {a b : D} {Q : D → Prop} : ixK [a, b] (-1) Q = Q b := ixK_m1 (l := [a])
theorem ixK_l3 {a b c : D} {Q : D → Prop} : ixK [a, b, c] (-1) Q = Q c := ixK_m1 (l := [a, b])
theorem x_str {l : List Nat} {i : Int} : Wp (lift (ixF (.str l) (.int i)) ρ) Q = ((l.length ≤ cap ∧ ixOk l.length i) ∧ Q (.str [l[ixN l.length i]?.getD 0]) ρ) := by
  show Wp (lift (if l.length ≤ cap then _ else none) ρ) Q = _
  by_cases h : l.length ≤ cap
  · rw [if_pos h, nIx_eq]
    by_cases h2 : ixOk l.length i
    · have := ixN_lt h2
      simp [h, h2, List.getElem?_eq_getElem this, lift, Wp]
    · simp [h2, lift, Wp]
  · simp [h, lift, Wp]
theorem x_tup {l : List D} {i : Int} : Wp (lift (ixF (.tup l) (.int i)) ρ) Q = ixK l i fun d => Q d ρ := by
  show Wp (lift ((nIx l.length i).bind fun j => l[j]?) ρ) Q = _
  rw [wp_liftbind]; simp only [wp_lift, ixK]
  exact propext ⟨fun ⟨j, h, d, h2, q⟩ => ⟨j, d, h, h2, q⟩, fun ⟨j, d, h, h2, q⟩ => ⟨j, h, d, h2, q⟩⟩
theorem x_lst {l : List D} {i : Int} : Wp (lift (ixF (.lst l) (.int i)) ρ) Q = ixK l i fun d => Q d ρ := x_tup
theorem x_fls {l : List D} {i : Int} : Wp (lift (ixF (.fls l) (.int i)) ρ) Q = ixK l i fun d => Q d ρ := x_tup
theorem l_str {l : List Nat} {lo hi : Option Int} : Wp (lift (slF (.str l) lo hi) ρ) Q = (l.length ≤ cap ∧ Q (.str (cut l lo hi)) ρ) := wp_liftif
theorem l_tup {l : List D} {lo hi : Option Int} : Wp (lift (slF (.tup l) lo hi) ρ) Q = (puL l = true ∧ Q (.tup (cut l lo hi)) ρ) := wp_liftif
theorem l_lst {l : List D} {lo hi : Option Int} : Wp (lift (slF (.lst l) lo hi) ρ) Q = (puL l = true ∧ Q (.lst (cut l lo hi)) ρ) := wp_liftif
theorem r_str {l : List Nat} : Wp (lift (revF (.str l)) ρ) Q = (l.length ≤ cap ∧ Q (.str l.reverse) ρ) := wp_liftif
theorem r_lst {l : List D} : Wp (lift (revF (.lst l)) ρ) Q = (puL l = true ∧ Q (.lst l.reverse) ρ) := wp_liftif
/-! cuts -/
theorem cut_to {α : Type} {l : List α} {k : Nat} : cut l none (some (k : Int)) = l.take k := by
  simp only [cut, sIx, show ¬ (k : Int) < 0 by omega, if_false, List.drop_zero, Int.toNat_natCast, Nat.sub_zero]
  rcases Nat.le_total k l.length with h | h
  · rw [Nat.min_eq_left h]
  · rw [Nat.min_eq_right h, List.take_of_length_le h, List.take_of_length_le (Nat.le_refl _)]
theorem cut_from {α : Type} {l : List α} {k : Nat} : cut l (some (k : Int)) none = l.drop k := by
  simp [cut, sIx, show ¬ (k : Int) < 0 by omega]
  rw [List.take_of_length_le (by simp)]
  rcases Nat.le_total k l.length with h | h
  · rw [Nat.min_eq_left h]
  · rw [Nat.min_eq_right h, List.drop_of_length_le h, List.drop_of_length_le (Nat.le_refl _)]
theorem cut_ft {α : Type} {l : List α} {a b : Nat} : cut l (some (a : Int)) (some (b : Int)) = (l.drop a).take (b - a) := by
  simp [cut, sIx, show ¬ (a : Int) < 0 by omega, show ¬ (b : Int) < 0 by omega]
  rcases Nat.le_total a l.length with h | h
  · rw [Nat.min_eq_left h]
    rcases Nat.le_total b l.length with h2 | h2
    · rw [Nat.min_eq_left h2]
    · rw [Nat.min_eq_right h2, List.take_of_length_le (by simp), List.take_of_length_le (by simp; omega)]
  · rw [Nat.min_eq_right h, List.drop_of_length_le (Nat.le_refl _), List.drop_of_length_le h]; simp
theorem cut_int {α : Type} {l : List α} {a b : Int} (ha : 0 ≤ a) (hb : 0 ≤ b) : cut l (some a) (some b) = (l.drop a.toNat).take (b.toNat - a.toNat) := by
  have := cut_ft (l := l) (a := a.toNat) (b := b.toNat)
  rwa [Int.toNat_of_nonneg ha, Int.toNat_of_nonneg hb] at this
theorem cut_to1 {α : Type} {l : List α} {b : Int} (hb : 0 ≤ b) : cut l none (some b) = l.take b.toNat := by
  have := cut_to (l := l) (k := b.toNat)
  rwa [Int.toNat_of_nonneg hb] at this
theorem cut_from1 {α : Type} {l : List α} {b : Int} (hb : 0 ≤ b) : cut l (some b) none = l.drop b.toNat := by
  have := cut_from (l := l) (k := b.toNat)
  rwa [Int.toNat_of_nonneg hb] at this
theorem cut_tol {α : Type} {l : List α} {k : Nat} : cut l none (some (no_index (OfNat.ofNat k))) = l.take k := cut_to
theorem cut_froml {α : Type} {l : List α} {k : Nat} : cut l (some (no_index (OfNat.ofNat k))) none = l.drop k := cut_from
theorem cut_all {α : Type} {l : List α} : cut l none none = l := by simp [cut, sIx]
theorem cut_map {α β : Type} {f : α → β} {l : List α} {a b : Option Int} : cut (l.map f) a b = (cut l a b).map f := by
  simp [cut, List.map_take, List.map_drop]
/-! builtins -/
theorem b_lens {l : List Nat} : Wp (lift (biF .len (.str l)) ρ) Q = (l.length ≤ cap ∧ Q (.int l.length) ρ) := wp_liftif
theorem b_lenl {l : List D} : Wp (lift (biF .len (.lst l)) ρ) Q = Q (.int l.length) ρ := rfl
theorem b_lent {l : List D} : Wp (lift (biF .len (.tup l)) ρ) Q = Q (.int l.length) ρ := rfl
theorem b_lenf {l : List D} : Wp (lift (biF .len (.fls l)) ρ) Q = Q (.int l.length) ρ := rfl
theorem b_lend {l v : List D} : Wp (lift (biF .len (.dct l v)) ρ) Q = Q (.int l.length) ρ := rfl
theorem b_abs {i : Int} : Wp (lift (biF .abs (.int i)) ρ) Q = Q (.int (if i < 0 then -i else i)) ρ := rfl
theorem b_int {i : Int} : Wp (lift (biF .int (.int i)) ρ) Q = Q (.int i) ρ := rfl
theorem b_intb {b : Bool} : Wp (lift (biF .int (.bl b)) ρ) Q = Q (.int (if b then 1 else 0)) ρ := rfl
theorem b_tupt {l : List D} : Wp (lift (biF .tuple (.tup l)) ρ) Q = (puL l = true ∧ Q (.tup l) ρ) := wp_liftif
theorem b_tupl {l : List D} : Wp (lift (biF .tuple (.lst l)) ρ) Q = (puL l = true ∧ Q (.tup l) ρ) := wp_liftif
theorem b_lstt {l : List D} : Wp (lift (biF .list (.tup l)) ρ) Q = (puL l = true ∧ Q (.lst l) ρ) := wp_liftif
theorem b_lstl {l : List D} : Wp (lift (biF .list (.lst l)) ρ) Q = (puL l = true ∧ Q (.lst l) ρ) := wp_liftif
theorem b_lstf {l : List D} : Wp (lift (biF .list (.fls l)) ρ) Q = (puL l = true ∧ Q (.lst l) ρ) := wp_liftif
theorem dInts_map {α : Type} {f : α → Int} : ∀ {l : List α}, dInts (l.map fun x => D.int (f x)) = some (l.map f)
  | [] => rfl
  | x :: l => by show (dInts (l.map fun x => D.int (f x))).map _ = _; rw [dInts_map]; rfl
theorem dBools_map {α : Type} {f : α → Bool} : ∀ {l : List α}, dBools (l.map fun x => D.bl (f x)) = some (l.map f)
  | [] => rfl
  | x :: l => by show (dBools (l.map fun x => D.bl (f x))).map _ = _; rw [dBools_map]; rfl
theorem dStrs_map {α : Type} {f : α → List Nat} : ∀ {l : List α}, dStrs (l.map fun x => D.str (f x)) = some (l.map f)
  | [] => rfl
  | x :: l => by show (dStrs (l.map fun x => D.str (f x))).map _ = _; rw [dStrs_map]; rfl
theorem b_sum {α : Type} {f : α → Int} {l : List α} : Wp (lift (biF .sum (.lst (l.map fun x => D.int (f x)))) ρ) Q = Q (.int (l.map f).sum) ρ := by
  show Wp (lift ((dInts _).map _) ρ) Q = _
  rw [dInts_map]; rfl
theorem b_any {α : Type} {f : α → Bool} {l : List α} : Wp (lift (biF .any (.lst (l.map fun x => D.bl (f x)))) ρ) Q = Q (.bl (l.any f)) ρ := by
  show Wp (lift ((dBools _).map _) ρ) Q = _
  rw [dBools_map]
  show Q (.bl ((l.map f).any id)) ρ = _
  simp
theorem b_all {α : Type} {f : α → Bool} {l : List α} : Wp (lift (biF .all (.lst (l.map fun x => D.bl (f x)))) ρ) Q = Q (.bl (l.all f)) ρ := by
  show Wp (lift ((dBools _).map _) ρ) Q = _
  rw [dBools_map]
  show Q (.bl ((l.map f).all id)) ρ = _
  simp
theorem joinS_nil : ∀ ss : List (List Nat), joinS [] ss = ss.flatten
  | [] => rfl
  | [a] => by simp [joinS]
  | a :: b :: r => by
    show a ++ [] ++ joinS [] (b :: r) = _
    rw [joinS_nil]; simp
theorem j_map {α : Type} {f : α → List Nat} {l : List α} : Wp (lift (joinF (.str []) (.lst (l.map fun x => D.str (f x)))) ρ) Q = ((l.map f).flatten.length ≤ cap ∧ Q (.str (l.map f).flatten) ρ) := by
  show Wp (lift ((dStrs _).bind _) ρ) Q = _
  rw [dStrs_map]
  show Wp (lift (if (joinS [] (l.map f)).length ≤ cap ∧ ([] : List Nat).length ≤ cap then _ else none) ρ) Q = _
  rw [wp_liftif, joinS_nil]
  simp [cap]
theorem i_str {l : List Nat} : Wp (lift (items (.str l)) ρ) QL = (l.length ≤ cap ∧ QL (l.map fun c => .str [c]) ρ) := wp_liftif
theorem i_lst {l : List D} : Wp (lift (items (.lst l)) ρ) QL = QL l ρ := rfl
theorem i_tup {l : List D} : Wp (lift (items (.tup l)) ρ) QL = QL l ρ := rfl
theorem i_fls {l : List D} : Wp (lift (items (.fls l)) ρ) QL = QL l ρ := rfl
theorem m_min {i j : Int} : Wp (lift (bi2F .min2 (.int i) (.int j)) ρ) Q = Q (.int (min i j)) ρ := by
  show Q (.int (if j < i then j else i)) ρ = _
  congr 2
  split <;> omega
theorem m_max {i j : Int} : Wp (lift (bi2F .max2 (.int i) (.int j)) ρ) Q = Q (.int (max i j)) ρ := by
  show Q (.int (if j > i then j else i)) ρ = _
  congr 2
  split <;> omega
theorem p_app {l : List D} {v : D} : Wp (lift (appF (.lst l) v) ρ) Q = (l.length < cap ∧ Q (.lst (l ++ [v])) ρ) := wp_liftif
theorem p_app0 {v : D} : Wp (lift (appF (.lst []) v) ρ) Q = Q (.lst [v]) ρ := by
  rw [p_app]; simp [cap]
theorem p_appc {a v : D} {l : List D} : Wp (lift (appF (.lst (a :: l)) v) ρ) Q = (l.length + 1 < cap ∧ Q (.lst (a :: l ++ [v])) ρ) := p_app
theorem p_appa {a l : List D} {v : D} : Wp (lift (appF (.lst (a ++ l)) v) ρ) Q = ((a ++ l).length < cap ∧ Q (.lst (a ++ l ++ [v])) ρ) := p_app
theorem p_appn {l : List Nat} {x : Nat} : Wp (lift (appF (.lst (l.map fun (k : Nat) => .int k)) (.int x)) ρ) Q = (l.length < cap ∧ Q (.lst ((l ++ [x]).map fun (k : Nat) => .int k)) ρ) := by
  rw [p_app, List.length_map, List.map_append]; rfl
theorem p_appl {l : List Nat} {x : Nat} : Wp (lift (appF (.lst (l.map fun (k : Nat) => .int k)) (.int (no_index (OfNat.ofNat x)))) ρ) Q = (l.length < cap ∧ Q (.lst ((l ++ [x]).map fun (k : Nat) => .int k)) ρ) := p_appn
theorem p_appi {l : List Int} {x : Int} : Wp (lift (appF (.lst (l.map D.int)) (.int x)) ρ) Q = (l.length < cap ∧ Q (.lst ((l ++ [x]).map D.int)) ρ) := by
  rw [p_app, List.length_map, List.map_append]; rfl
theorem p_apps {l : List (List Nat)} {x : List Nat} : Wp (lift (appF (.lst (l.map D.str)) (.str x)) ρ) Q = (l.length < cap ∧ Q (.lst ((l ++ [x]).map D.str)) ρ) := by
  rw [p_app, List.length_map, List.map_append]; rfl
theorem popK_appm {α : Type} {l : List α} {x : α} {f : α → D} {Q : D → D → Prop} : popK (.lst ((l ++ [x]).map f)) Q = Q (f x) (.lst (l.map f)) := by
  rw [List.map_append]; exact popK_app
theorem sing_eq {a b : Nat} : ([a] = [b]) = (a = b) := by simp
theorem n_add {a b : Nat} : (a : Int) + (b : Int) = ((a + b : Nat) : Int) := rfl
theorem n_addl {a b : Nat} : (a : Int) + no_index (OfNat.ofNat b) = ((a + OfNat.ofNat b : Nat) : Int) := rfl
theorem n_ladd {a b : Nat} : no_index (OfNat.ofNat a) + (b : Int) = ((OfNat.ofNat a + b : Nat) : Int) := rfl
theorem n_mul {a b : Nat} : (a : Int) * (b : Int) = ((a * b : Nat) : Int) := rfl
theorem n_sub0 {a : Nat} : (a : Int) - 0 = (a : Int) := by omega
theorem n_subt {a b : Nat} : ((a : Int) - (b : Int)).toNat = a - b := by omega
theorem n_sublt {a b : Nat} : ((a : Int) - no_index (OfNat.ofNat b)).toNat = a - OfNat.ofNat b := Int.toNat_sub a b
theorem n_ss {a : Nat} : ((a + 1 : Nat) : Int) - 1 = (a : Int) := by omega
theorem n_lt {a b : Nat} : ((a : Int) < (b : Int)) = (a < b) := by simp
theorem n_le {a b : Nat} : ((a : Int) ≤ (b : Int)) = (a ≤ b) := by simp
theorem n_eq {a b : Nat} : ((a : Int) = (b : Int)) = (a = b) := propext ⟨fun h => by omega, fun h => by omega⟩
theorem n_0lt {a : Nat} : (0 < (a : Int)) = (0 < a) := by simp
theorem n_1le {a : Nat} : ((1 : Int) ≤ (a : Int)) = (1 ≤ a) := propext ⟨fun h => by omega, fun h => by omega⟩
theorem n_eq0 {a : Nat} : ((a : Int) = 0) = (a = 0) := propext ⟨fun h => by omega, fun h => by omega⟩
theorem n_leb {a : Nat} : ((a : Int) ≤ 1000000) = (a ≤ 1000000) := propext ⟨fun h => by omega, fun h => by omega⟩
theorem n_geb {a : Nat} : (-1000000 ≤ (a : Int)) = True := propext ⟨fun h => trivial, fun h => by omega⟩
theorem n_natAbs {a : Nat} : ((a : Int)).natAbs = a := rfl
theorem p_ext {l vs : List D} : Wp (lift (extF (.lst l) vs) ρ) Q = (l.length + vs.length ≤ cap ∧ Q (.lst (l ++ vs)) ρ) := wp_liftif
theorem p_put {l : List D} {i : Int} {v : D} : Wp (lift (putF (.lst l) (.int i) v) ρ) Q = (ixOk l.length i ∧ Q (.lst (l.set (ixN l.length i) v)) ρ) := by
  show Wp (lift ((nIx l.length i).bind fun j => (l[j]?).bind fun old => _) ρ) Q = _
  rw [nIx_eq]
  by_cases h : ixOk l.length i
  · have := ixN_lt h
    simp [h, List.getElem?_eq_getElem this, lift, Wp]
  · simp [h, lift, Wp]
theorem p_putm {α : Type} {l : List α} {f : α → D} {i : Int} {v : D} : Wp (lift (putF (.lst (l.map f)) (.int i) v) ρ) Q = (ixOk l.length i ∧ Q (.lst ((l.map f).set (ixN l.length i) v)) ρ) := by rw [p_put, List.length_map]
theorem p_put0 {a v : D} {l : List D} : Wp (lift (putF (.lst (a :: l)) (.int 0) v) ρ) Q = Q (.lst (v :: l)) ρ := by
  rw [p_put, ixOk_lit, ixN_lit]; simp
theorem p_put1 {a b v : D} {l : List D} : Wp (lift (putF (.lst (a :: b :: l)) (.int 1) v) ρ) Q = Q (.lst (a :: v :: l)) ρ := by
  rw [p_put, ixOk_lit, ixN_lit]; simp
theorem p_put2 {a b c v : D} {l : List D} : Wp (lift (putF (.lst (a :: b :: c :: l)) (.int 2) v) ρ) Q = Q (.lst (a :: b :: v :: l)) ρ := by
  rw [p_put, ixOk_lit, ixN_lit]; simp
theorem p_put3 {a b c d v : D} {l : List D} : Wp (lift (putF (.lst (a :: b :: c :: d :: l)) (.int 3) v) ρ) Q = Q (.lst (a :: b :: c :: v :: l)) ρ := by
  rw [p_put, ixOk_lit, ixN_lit]; simp
theorem stepK_l {l : List D} {j : Nat} {Q : D → Prop} : stepK (.lst l) j Q = ∃ y, l[j]? = some y ∧ Q y := rfl
theorem stepK_map {α : Type} [Inhabited α] {l : List α} {f : α → D} {j : Nat} {Q : D → Prop} : stepK (.lst (l.map f)) j Q = (j < l.length ∧ Q (f (l[j]?.getD default))) := by
  simp only [stepK, stepG]
  by_cases h : j < l.length
  · simp [h]
  · simp [h]
theorem posK_map {α : Type} {l : List α} {f : α → D} {i : Int} {Q : Nat → Prop} : posK (.lst (l.map f)) (.int i) Q = (ixOk l.length i ∧ Q (ixN l.length i)) := by
  simp only [posK, posOf, nIx_eq, stepG, List.length_map]
  by_cases h : ixOk l.length i
  · have := ixN_lt h
    simp [h, List.getElem?_eq_getElem this]
  · simp [h]
theorem setAt0 {d x : D} : setAt d [] x = x := rfl
theorem setAt1 {l : List D} {j : Nat} {x : D} : setAt (.lst l) [j] x = .lst (l.set j x) := by
  show (match l[j]? with | some y => D.lst (l.set j x) | none => D.lst l) = _
  split
  · rfl
  · next h => rw [List.set_eq_of_length_le (by simpa using h)]
/-! purity -/
theorem pu_non : pu .non = true := rfl
theorem pu_bl {b : Bool} : pu (.bl b) = true := rfl
theorem pu_int {i : Int} : pu (.int i) = true := rfl
theorem pu_str {l : List Nat} : pu (.str l) = true := rfl
theorem pu_tup {l : List D} : pu (.tup l) = puL l := rfl
theorem pu_fls {l : List D} : pu (.fls l) = puL l := rfl
theorem puL_nil : puL [] = true := rfl
theorem puL_con {d : D} {l : List D} : puL (d :: l) = (pu d && puL l) := rfl
theorem puL_map {α : Type} {f : α → D} (h : ∀ x, pu (f x) = true) : ∀ {l : List α}, puL (l.map f) = true
  | [] => rfl
  | x :: l => by rw [List.map_cons, puL_con, h, puL_map h]; rfl
theorem puL_app : ∀ {a b : List D}, puL (a ++ b) = (puL a && puL b)
  | [], b => rfl
  | x :: a, b => by rw [List.cons_append, puL_con, puL_con, puL_app, Bool.and_assoc]
theorem puL_enum : ∀ {l : List D} {i : Int}, puL (enumL i l) = puL l
  | [], _ => rfl
  | x :: l, i => by
    show (pu (.tup [.int i, x]) && puL (enumL (i + 1) l)) = _
    rw [puL_enum, puL_con]
    simp [pu, puL]
theorem isStr_str {l : List Nat} : isStr (.str l) = true := rfl
theorem isDct_dct {l v : List D} : isDct (.dct l v) = true := rfl
theorem isNon_non : isNon .non = true := rfl
theorem isNon_int {i : Int} : isNon (.int i) = false := rfl
theorem isNon_str {i : List Nat} : isNon (.str i) = false := rfl
theorem isNon_tup {i : List D} : isNon (.tup i) = false := rfl
theorem isNon_lst {i : List D} : isNon (.lst i) = false := rfl
/-! a def's run -/
theorem runF_wp {Γ : Fns} {F : Fn} {ds : List D} {Q : D → Env → Prop} (hl : ds.length = F.pars) (h : Wp (evSs Γ F.body (ds.map some ++ List.replicate (F.size - F.pars) none)) fun o ρ => match o with
    | .rt d => Q d (keepR F.refs 0 (ρ.take F.pars))
    | .nx => Q .non (keepR F.refs 0 (ρ.take F.pars))
    | _ => False) : WpF (runF Γ F ds) Q := by
  unfold runF
  rw [if_pos hl]
  cases hr : evSs Γ F.body (ds.map some ++ List.replicate (F.size - F.pars) none) with
  | no => rw [hr] at h; exact h.elim
  | er x ρ => rw [hr] at h; exact h.elim
  | ok o ρ =>
    rw [hr] at h
    cases o with
    | nx => exact h
    | bk => exact h.elim
    | ct => exact h.elim
    | rt d => exact h
/-- what is to be shown at the end of a def -/
def EndQ (F : Fn) (Q : D → Env → Prop) (o : Out) (ρ : Env) : Prop := match o with
  | .rt d => Q d (keepR F.refs 0 (ρ.take F.pars))
  | .nx => Q .non (keepR F.refs 0 (ρ.take F.pars))
  | _ => False
theorem end_rt {F : Fn} {d : D} : EndQ F Q (.rt d) ρ = Q d (keepR F.refs 0 (ρ.take F.pars)) := rfl
theorem end_nx {F : Fn} : EndQ F Q .nx ρ = Q .non (keepR F.refs 0 (ρ.take F.pars)) := rfl
/-- a call of the table's def i -/
theorem fns_wp {T : List Fn} {n i : Nat} {F : Fn} {ds : List D} {Q : D → Env → Prop} (hT : T[i]? = some F) (hl : ds.length = F.pars) {c : Ss} (hc : F.body = c) {ρ : Env} (hρ : ds.map some ++ List.replicate (F.size - F.pars) none = ρ) (h : Wp (evSs (fns T n) c ρ) (EndQ F Q)) : WpF (fns T (n + 1) i ds) Q := by
  show WpF (match T[i]? with
    | some F => runF (fns T n) F ds
    | none => .no) _
  rw [hT]
  refine runF_wp hl ?_
  subst hc hρ
  refine wp_mono h fun o ρ h => ?_
  cases o <;> exact h
end
/-! sets of texts, {x: c for x in xs}, the place of a sign -/
section
variable {Γ : Fns} {ρ : Env} {Q : D → Env → Prop}
theorem w_lset {a : E} : Wp (evE Γ (.lset a) ρ) Q = Wp (evE Γ a ρ) fun x ρ => Wp (lift (lsetF x) ρ) Q := by
  show Wp ((evE Γ a ρ).bd _) Q = _
  rw [wp_bd]
theorem w_sidx {a b : E} : Wp (evE Γ (.sidx a b) ρ) Q = Wp (evE Γ a ρ) fun x ρ => isStr x = true ∧ Wp (evE Γ b ρ) fun y ρ => Wp (lift (sidxF x y) ρ) Q := by
  show Wp ((evE Γ a ρ).bd _) Q = _
  rw [wp_bd]
  refine wp_cg fun x ρ => ?_
  rw [wp_if, wp_bd]
theorem w_dcl {i : Nat} {a v : E} : Wp (evE Γ (.dcl i a v) ρ) Q = Wp (evE Γ a ρ) fun x ρ => Wp (lift (items x) ρ) fun xs ρ => (xs.all isKey = true ∧ xs.length ≤ cap ∧ i < ρ.length) ∧ Wp (lift ((litD v).map fun d => D.dct (dcF d xs).1 (dcF d xs).2) ρ) Q := by
  show Wp (((evE Γ a ρ).bd _).bd _) Q = _
  rw [wp_bd, wp_bd]
  refine wp_cg fun x ρ => wp_cg fun xs ρ => ?_
  rw [wp_if]
theorem s_set {α : Type} {f : α → List Nat} {l : List α} : Wp (lift (lsetF (.lst (l.map fun x => D.str (f x)))) ρ) Q = (l.length ≤ 4000 ∧ Q (.int (ddl (l.map f)).length) ρ) := by
  simp only [lsetF, dStrs_map, Option.bind_some]
  rw [wp_liftif, List.length_map]
theorem b_lstx {l : List Nat} : Wp (lift (biF .list (.str l)) ρ) Q = (l.length ≤ cap ∧ Q (.lst (l.map fun c => D.str [c])) ρ) := wp_liftif
end
end Wk

/-! D1: draws, alike in all laws -/
namespace Wk
open G
def beginC : Ss := (.cons (.set 1 (.int 1)) (.cons (.for (.v 2) (.e (.var 0)) (.cons (.set 1 (.bin .mod (.bin .add (.bin .add (.bin .mul (.var 1) (.int 69621)) (.bin .mod (.bi .int (.var 2)) (.int 2147483629))) (.int 7)) (.int 2147483647))) .nil) [2]) (.cons (.ret (.lst (.cons (.bi .list (.var 0)) (.cons (.int 0) (.cons (.int 0) (.cons (.var 1) .nil)))))) .nil)))
def beginF : Fn := ⟨3, 1, [], beginC⟩
def takeC : Ss := (.cons (.ite (.and (.cmp .eq (.ix (.var 0) (.int 2)) (.int 0)) (.cmp .lt (.ix (.var 0) (.int 1)) (.bi .len (.ix (.var 0) (.int 0))))) (.cons (.put (.v 0) (.int 2) (.bi .abs (.bi .int (.ix (.ix (.var 0) (.int 0)) (.ix (.var 0) (.int 1)))))) (.cons (.put (.v 0) (.int 1) (.bin .add (.ix (.var 0) (.int 1)) (.int 1))) (.cons (.ite (.cmp .lt (.ix (.var 0) (.int 2)) (.bin .pow (.int 10) (.int 18))) (.cons (.set 2 (.bi .int (.ix (.var 0) (.int 2)))) (.cons (.put (.v 0) (.int 2) (.int 0)) (.cons (.ret (.bin .mod (.var 2) (.var 1))) .nil))) .nil) .nil))) .nil) (.cons (.ite (.cmp .gt (.ix (.var 0) (.int 2)) (.int 0)) (.cons (.set 3 (.bin .mod (.bi .int (.ix (.var 0) (.int 2))) (.var 1))) (.cons (.put (.v 0) (.int 2) (.bin .fdiv (.bi .int (.ix (.var 0) (.int 2))) (.var 1))) (.cons (.ret (.var 3)) .nil))) .nil) (.cons (.put (.v 0) (.int 3) (.bin .mod (.bi .int (.bin .add (.bin .mul (.ix (.var 0) (.int 3)) (.int 48271)) (.int 11))) (.int 2147483647))) (.cons (.ret (.bin .mod (.bi .int (.bin .fdiv (.ix (.var 0) (.int 3)) (.int 3))) (.var 1))) .nil))))
def takeF : Fn := ⟨4, 2, [0], takeC⟩
def pickC (it : Nat) : Ss := (.cons (.ret (.ix (.var 1) (.call it (.ref 0 (.val (.bi .len (.var 1)) .nil))))) .nil)
def pickF (it : Nat) : Fn := ⟨2, 2, [0], pickC it⟩
def DOk (d : D) : Prop := ∃ (l : List Int) (i : Nat) (n s : Int), d = .lst [.lst (l.map D.int), .int i, .int n, .int s]
def TQ (many : Int) (r : D) (rs : Env) : Prop := ∃ (k : Nat) (d' : D), r = .int k ∧ (k : Int) < many ∧ DOk d' ∧ rs = [some d', none]
theorem tq_of {many a : Int} {d : D} {rs : Env} {i : Nat} (h : 0 < many) (l : List Int) (n s : Int) (hd : d = .lst [.lst (l.map D.int), .int i, .int n, .int s]) (hr : rs = [some d, none]) : TQ many (.int (a % many)) rs := by
  have h1 := Int.emod_nonneg a (show many ≠ 0 by omega)
  have h2 := Int.emod_lt_of_pos a h
  exact ⟨(a % many).toNat, d, by rw [Int.toNat_of_nonneg h1], by rw [Int.toNat_of_nonneg h1]; exact h2, ⟨l, i, n, s, hd⟩, hr⟩
theorem takeC_ok (Γ : Fns) {many : Int} (h : 0 < many) (h2 : many < 1000000000) {d : D} (hd : DOk d) : Wp (evSs Γ takeC [some d, some (.int many), none, none]) (EndQ takeF (TQ many)) := by
  obtain ⟨l, i, n, s, rfl⟩ := hd
  unfold takeC
  simp -failIfUnchanged -implicitDefEqProofs only [↓gK0, ↓gKs, ↓setK0, ↓setKs, ↓setN0, ↓setNs, ↓setM0, ↓setMs, ↓clrK0, ↓clrKs, ↓bK_bl, ↓iK_int, ↓brK_true, ↓brK_false, ↓brK_dec, ↓brK_not, ↓brK_and, ↓w_ok, ↓w_var, ↓w_mv, ↓w_int, ↓w_str, ↓w_bl, ↓w_non, ↓w_neg, ↓w_bin, ↓w_cmp, ↓w_and, ↓w_or, ↓w_not, ↓w_ite, ↓w_tup, ↓w_lst, ↓w_nil, ↓w_con, ↓w_ix, ↓w_eo0, ↓w_eo1, ↓w_sl, ↓w_rev, ↓w_bi, ↓w_bi2, ↓w_bi3, ↓w_lcp, ↓w_cmp2, ↓w_tr1, ↓w_tr2, ↓w_lset, ↓w_sidx, ↓w_dcl, ↓w_dis, ↓w_join, ↓w_get, ↓w_ssn, ↓w_kill, ↓w_ssc, ↓nxt_nx, ↓nxt_rt, ↓nxt_bk, ↓nxt_ct, ↓w_set, ↓tsK0, ↓tsKs, ↓tgKv, ↓tgKt, ↓tupK_t, ↓w_tset, ↓w_aug, ↓gK_v, ↓gK_x, ↓setM_v, ↓setM_x, ↓atK0, ↓atKs, ↓atK0a, ↓atKsa, ↓w_pv, ↓w_px, ↓w_put, ↓lstK_l, ↓w_app, ↓lsK_l, ↓w_ext, ↓popK_appm, ↓popK_app, ↓popK_con, ↓w_pop, ↓w_ex, ↓w_ret, ↓w_retN, ↓w_brk, ↓w_cnt, ↓w_pass, ↓w_if, ↓w_an, ↓w_av, ↓w_ar, ↓takK0, ↓takKd, ↓takKr, ↓givK0, ↓givKd, ↓givKr, ↓w_call, ↓w_se, ↓w_s1, ↓w_s2, ↓w_s3, ↓w_sn, ↓w_for, ↓w_wh, ↓lpq_nx, ↓lpq_ct, ↓lpq_bk, ↓lpq_rt, ↓w_cn, ↓w_cs, ↓w_comp, ↓o_add, ↓o_sub, ↓o_adds, ↓o_addt, ↓o_addl, ↓o_mul, ↓o_muls, ↓o_mull, ↓o_div, ↓o_mod, ↓o_pow, ↓c_eq, ↓c_ne, ↓c_lt, ↓c_le, ↓c_gt, ↓c_ge, ↓c_eqs, ↓c_nes, ↓c_lts, ↓c_gts, ↓c_les, ↓c_ges, ↓c_neb, ↓c_eqb, ↓c_ins, ↓c_isn, ↓c_ntn, ↓t_bl, ↓t_int, ↓t_str, ↓t_non, ↓t_lst, ↓t_tup, ↓ixK_0, ↓ixK_1, ↓ixK_2, ↓ixK_3, ↓ixK_l1, ↓ixK_l2, ↓ixK_l3, ↓ixK_m1, ↓ixK_map, ↓x_str, ↓x_tup, ↓x_lst, ↓x_fls, ↓l_str, ↓l_tup, ↓l_lst, ↓r_str, ↓r_lst, ↓b_lens, ↓b_lenl, ↓b_lent, ↓b_lenf, ↓b_lend, ↓b_abs, ↓b_int, ↓b_intb, ↓b_tupt, ↓b_tupl, ↓b_lstt, ↓b_lstl, ↓b_lstf, ↓b_lstx, ↓s_set, ↓b_sum, ↓b_any, ↓b_all, ↓j_map, ↓i_str, ↓i_lst, ↓i_tup, ↓i_fls, ↓m_min, ↓m_max, ↓m_min3, ↓m_max3, ↓p_appn, ↓p_appl, ↓p_appi, ↓p_apps, ↓p_app0, ↓p_appc, ↓p_appa, ↓p_ext, ↓p_putm, ↓p_put0, ↓p_put1, ↓p_put2, ↓p_put3, ↓stepK_map, ↓posK_map, ↓end_rt, ↓end_nx, cond_true, cond_false, Option.isNone_none, n_add, n_addl, n_ladd, n_mul, n_sub0, n_ss, n_subt, n_sublt, n_lt, n_le, n_eq, n_0lt, n_1le, n_eq0, n_leb, n_geb, n_natAbs, sing_eq, safeB_none, safeB_nil, safeB_some, own_none, own_some, g_addi, g_adds, g_subi, g_muli, wrE, wrEs, wrEo, wrAs, wrSrc, wrP, wrS, wrSs, md, mdS, Tg.slots, Tgs.slots, P.root, small_ofNat, small_neg, pu_non, pu_bl, pu_int, pu_str, pu_tup, pu_fls, puL_nil, puL_con, puL_map, puL_app, puL_enum, isStr_str, isDct_dct, isNon_non, isNon_int, isNon_str, isNon_tup, isNon_lst, setAt0, setAt1, cut_to, cut_from, cut_ft, cut_tol, cut_froml, cut_all, cut_map, ixOk_nat, ixN_nat, ixOk_lit, ixN_lit, ixOk_m1, ixN_m1, List.nil_append, List.append_nil, List.cons_append, hasN, List.length_map, List.length_range, List.length_cons, List.length_nil, Bool.not_true, Bool.not_false, Bool.not_not, Bool.true_and, Bool.and_true, Bool.or_true, Bool.true_or, Bool.false_or, Bool.or_false, Bool.and_self, Bool.not_eq_true', Bool.false_eq_true, decide_true, decide_false, decide_eq_true_eq, decide_eq_false_iff_not, true_and, and_true, implies_true, and_self, ne_eq, not_true_eq_false, not_false_eq_true, false_implies, true_implies, eq_self, forall_const, Nat.reduceBEq, Nat.reduceEqDiff, Nat.reduceLT, Nat.reduceAdd, Nat.reduceSub, Nat.reduceLeDiff, Nat.reducePow, Int.reduceLT, Int.reduceLE, Int.reduceNeg, Int.reduceAdd, Int.reduceSub, Int.reducePow, Int.reduceToNat, Int.toNat_natCast, beq_self_eq_true, Bool.and_eq_true, Bool.or_eq_true]
  have h3 : many < 18446744073709551616 := by omega
  refine ⟨fun _ => ⟨fun hi => ⟨by omega, fun _ => ⟨h, ?_⟩, fun _ => ⟨fun _ => ⟨h, ⟨h, h3⟩, ?_⟩, fun _ => ⟨h, ?_⟩⟩⟩, fun _ => ⟨fun _ => ⟨h, ⟨h, h3⟩, ?_⟩, fun _ => ⟨h, ?_⟩⟩⟩, fun _ => ⟨fun _ => ⟨h, ⟨h, h3⟩, ?_⟩, fun _ => ⟨h, ?_⟩⟩⟩
  · exact tq_of (i := i + 1) h l _ s rfl rfl
  · exact tq_of (i := i + 1) h l _ s rfl rfl
  · exact tq_of (i := i + 1) h l _ _ rfl rfl
  · exact tq_of (i := i) h l _ _ rfl rfl
  · exact tq_of (i := i) h l _ _ rfl rfl
  · exact tq_of (i := i) h l _ _ rfl rfl
  · exact tq_of (i := i) h l _ _ rfl rfl
theorem beginC_ok (Γ : Fns) (ns : List Int) : Wp (evSs Γ beginC [some (.fls (ns.map D.int)), none, none]) (EndQ beginF fun r rs => rs = [none] ∧ DOk r) := by
  unfold beginC
  simp -failIfUnchanged -implicitDefEqProofs only [↓gK0, ↓gKs, ↓setK0, ↓setKs, ↓setN0, ↓setNs, ↓setM0, ↓setMs, ↓clrK0, ↓clrKs, ↓bK_bl, ↓iK_int, ↓brK_true, ↓brK_false, ↓brK_dec, ↓brK_not, ↓brK_and, ↓w_ok, ↓w_var, ↓w_mv, ↓w_int, ↓w_str, ↓w_bl, ↓w_non, ↓w_neg, ↓w_bin, ↓w_cmp, ↓w_and, ↓w_or, ↓w_not, ↓w_ite, ↓w_tup, ↓w_lst, ↓w_nil, ↓w_con, ↓w_ix, ↓w_eo0, ↓w_eo1, ↓w_sl, ↓w_rev, ↓w_bi, ↓w_bi2, ↓w_bi3, ↓w_lcp, ↓w_cmp2, ↓w_tr1, ↓w_tr2, ↓w_lset, ↓w_sidx, ↓w_dcl, ↓w_dis, ↓w_join, ↓w_get, ↓w_ssn, ↓w_kill, ↓w_ssc, ↓nxt_nx, ↓nxt_rt, ↓nxt_bk, ↓nxt_ct, ↓w_set, ↓tsK0, ↓tsKs, ↓tgKv, ↓tgKt, ↓tupK_t, ↓w_tset, ↓w_aug, ↓gK_v, ↓gK_x, ↓setM_v, ↓setM_x, ↓atK0, ↓atKs, ↓atK0a, ↓atKsa, ↓w_pv, ↓w_px, ↓w_put, ↓lstK_l, ↓w_app, ↓lsK_l, ↓w_ext, ↓popK_appm, ↓popK_app, ↓popK_con, ↓w_pop, ↓w_ex, ↓w_ret, ↓w_retN, ↓w_brk, ↓w_cnt, ↓w_pass, ↓w_if, ↓w_an, ↓w_av, ↓w_ar, ↓takK0, ↓takKd, ↓takKr, ↓givK0, ↓givKd, ↓givKr, ↓w_call, ↓w_se, ↓w_s1, ↓w_s2, ↓w_s3, ↓w_sn, ↓w_for, ↓w_wh, ↓lpq_nx, ↓lpq_ct, ↓lpq_bk, ↓lpq_rt, ↓w_cn, ↓w_cs, ↓w_comp, ↓o_add, ↓o_sub, ↓o_adds, ↓o_addt, ↓o_addl, ↓o_mul, ↓o_muls, ↓o_mull, ↓o_div, ↓o_mod, ↓o_pow, ↓c_eq, ↓c_ne, ↓c_lt, ↓c_le, ↓c_gt, ↓c_ge, ↓c_eqs, ↓c_nes, ↓c_lts, ↓c_gts, ↓c_les, ↓c_ges, ↓c_neb, ↓c_eqb, ↓c_ins, ↓c_isn, ↓c_ntn, ↓t_bl, ↓t_int, ↓t_str, ↓t_non, ↓t_lst, ↓t_tup, ↓ixK_0, ↓ixK_1, ↓ixK_2, ↓ixK_3, ↓ixK_l1, ↓ixK_l2, ↓ixK_l3, ↓ixK_m1, ↓ixK_map, ↓x_str, ↓x_tup, ↓x_lst, ↓x_fls, ↓l_str, ↓l_tup, ↓l_lst, ↓r_str, ↓r_lst, ↓b_lens, ↓b_lenl, ↓b_lent, ↓b_lenf, ↓b_lend, ↓b_abs, ↓b_int, ↓b_intb, ↓b_tupt, ↓b_tupl, ↓b_lstt, ↓b_lstl, ↓b_lstf, ↓b_lstx, ↓s_set, ↓b_sum, ↓b_any, ↓b_all, ↓j_map, ↓i_str, ↓i_lst, ↓i_tup, ↓i_fls, ↓m_min, ↓m_max, ↓m_min3, ↓m_max3, ↓p_appn, ↓p_appl, ↓p_appi, ↓p_apps, ↓p_app0, ↓p_appc, ↓p_appa, ↓p_ext, ↓p_putm, ↓p_put0, ↓p_put1, ↓p_put2, ↓p_put3, ↓stepK_map, ↓posK_map, ↓end_rt, ↓end_nx, cond_true, cond_false, Option.isNone_none, n_add, n_addl, n_ladd, n_mul, n_sub0, n_ss, n_subt, n_sublt, n_lt, n_le, n_eq, n_0lt, n_1le, n_eq0, n_leb, n_geb, n_natAbs, sing_eq, safeB_none, safeB_nil, safeB_some, own_none, own_some, g_addi, g_adds, g_subi, g_muli, wrE, wrEs, wrEo, wrAs, wrSrc, wrP, wrS, wrSs, md, mdS, Tg.slots, Tgs.slots, P.root, small_ofNat, small_neg, pu_non, pu_bl, pu_int, pu_str, pu_tup, pu_fls, puL_nil, puL_con, puL_map, puL_app, puL_enum, isStr_str, isDct_dct, isNon_non, isNon_int, isNon_str, isNon_tup, isNon_lst, setAt0, setAt1, cut_to, cut_from, cut_ft, cut_tol, cut_froml, cut_all, cut_map, ixOk_nat, ixN_nat, ixOk_lit, ixN_lit, ixOk_m1, ixN_m1, List.nil_append, List.append_nil, List.cons_append, hasN, List.length_map, List.length_range, List.length_cons, List.length_nil, Bool.not_true, Bool.not_false, Bool.not_not, Bool.true_and, Bool.and_true, Bool.or_true, Bool.true_or, Bool.false_or, Bool.or_false, Bool.and_self, Bool.not_eq_true', Bool.false_eq_true, decide_true, decide_false, decide_eq_true_eq, decide_eq_false_iff_not, true_and, and_true, implies_true, and_self, ne_eq, not_true_eq_false, not_false_eq_true, false_implies, true_implies, eq_self, forall_const, Nat.reduceBEq, Nat.reduceEqDiff, Nat.reduceLT, Nat.reduceAdd, Nat.reduceSub, Nat.reduceLeDiff, Nat.reducePow, Int.reduceLT, Int.reduceLE, Int.reduceNeg, Int.reduceAdd, Int.reduceSub, Int.reducePow, Int.reduceToNat, Int.toNat_natCast, beq_self_eq_true, Bool.and_eq_true, Bool.or_eq_true]
  refine for_map (fun k ρ => ∃ seed : Int, ρ = [some (.fls (ns.map D.int)), some (.int seed), none]) ⟨1, rfl⟩ ?_ ?_
  · rintro ρ ⟨seed, rfl⟩
    simp -failIfUnchanged -implicitDefEqProofs only [↓gK0, ↓gKs, ↓setK0, ↓setKs, ↓setN0, ↓setNs, ↓setM0, ↓setMs, ↓clrK0, ↓clrKs, ↓bK_bl, ↓iK_int, ↓brK_true, ↓brK_false, ↓brK_dec, ↓brK_not, ↓brK_and, ↓w_ok, ↓w_var, ↓w_mv, ↓w_int, ↓w_str, ↓w_bl, ↓w_non, ↓w_neg, ↓w_bin, ↓w_cmp, ↓w_and, ↓w_or, ↓w_not, ↓w_ite, ↓w_tup, ↓w_lst, ↓w_nil, ↓w_con, ↓w_ix, ↓w_eo0, ↓w_eo1, ↓w_sl, ↓w_rev, ↓w_bi, ↓w_bi2, ↓w_bi3, ↓w_lcp, ↓w_cmp2, ↓w_tr1, ↓w_tr2, ↓w_lset, ↓w_sidx, ↓w_dcl, ↓w_dis, ↓w_join, ↓w_get, ↓w_ssn, ↓w_kill, ↓w_ssc, ↓nxt_nx, ↓nxt_rt, ↓nxt_bk, ↓nxt_ct, ↓w_set, ↓tsK0, ↓tsKs, ↓tgKv, ↓tgKt, ↓tupK_t, ↓w_tset, ↓w_aug, ↓gK_v, ↓gK_x, ↓setM_v, ↓setM_x, ↓atK0, ↓atKs, ↓atK0a, ↓atKsa, ↓w_pv, ↓w_px, ↓w_put, ↓lstK_l, ↓w_app, ↓lsK_l, ↓w_ext, ↓popK_appm, ↓popK_app, ↓popK_con, ↓w_pop, ↓w_ex, ↓w_ret, ↓w_retN, ↓w_brk, ↓w_cnt, ↓w_pass, ↓w_if, ↓w_an, ↓w_av, ↓w_ar, ↓takK0, ↓takKd, ↓takKr, ↓givK0, ↓givKd, ↓givKr, ↓w_call, ↓w_se, ↓w_s1, ↓w_s2, ↓w_s3, ↓w_sn, ↓w_for, ↓w_wh, ↓lpq_nx, ↓lpq_ct, ↓lpq_bk, ↓lpq_rt, ↓w_cn, ↓w_cs, ↓w_comp, ↓o_add, ↓o_sub, ↓o_adds, ↓o_addt, ↓o_addl, ↓o_mul, ↓o_muls, ↓o_mull, ↓o_div, ↓o_mod, ↓o_pow, ↓c_eq, ↓c_ne, ↓c_lt, ↓c_le, ↓c_gt, ↓c_ge, ↓c_eqs, ↓c_nes, ↓c_lts, ↓c_gts, ↓c_les, ↓c_ges, ↓c_neb, ↓c_eqb, ↓c_ins, ↓c_isn, ↓c_ntn, ↓t_bl, ↓t_int, ↓t_str, ↓t_non, ↓t_lst, ↓t_tup, ↓ixK_0, ↓ixK_1, ↓ixK_2, ↓ixK_3, ↓ixK_l1, ↓ixK_l2, ↓ixK_l3, ↓ixK_m1, ↓ixK_map, ↓x_str, ↓x_tup, ↓x_lst, ↓x_fls, ↓l_str, ↓l_tup, ↓l_lst, ↓r_str, ↓r_lst, ↓b_lens, ↓b_lenl, ↓b_lent, ↓b_lenf, ↓b_lend, ↓b_abs, ↓b_int, ↓b_intb, ↓b_tupt, ↓b_tupl, ↓b_lstt, ↓b_lstl, ↓b_lstf, ↓b_lstx, ↓s_set, ↓b_sum, ↓b_any, ↓b_all, ↓j_map, ↓i_str, ↓i_lst, ↓i_tup, ↓i_fls, ↓m_min, ↓m_max, ↓m_min3, ↓m_max3, ↓p_appn, ↓p_appl, ↓p_appi, ↓p_apps, ↓p_app0, ↓p_appc, ↓p_appa, ↓p_ext, ↓p_putm, ↓p_put0, ↓p_put1, ↓p_put2, ↓p_put3, ↓stepK_map, ↓posK_map, ↓end_rt, ↓end_nx, cond_true, cond_false, Option.isNone_none, n_add, n_addl, n_ladd, n_mul, n_sub0, n_ss, n_subt, n_sublt, n_lt, n_le, n_eq, n_0lt, n_1le, n_eq0, n_leb, n_geb, n_natAbs, sing_eq, safeB_none, safeB_nil, safeB_some, own_none, own_some, g_addi, g_adds, g_subi, g_muli, wrE, wrEs, wrEo, wrAs, wrSrc, wrP, wrS, wrSs, md, mdS, Tg.slots, Tgs.slots, P.root, small_ofNat, small_neg, pu_non, pu_bl, pu_int, pu_str, pu_tup, pu_fls, puL_nil, puL_con, puL_map, puL_app, puL_enum, isStr_str, isDct_dct, isNon_non, isNon_int, isNon_str, isNon_tup, isNon_lst, setAt0, setAt1, cut_to, cut_from, cut_ft, cut_tol, cut_froml, cut_all, cut_map, ixOk_nat, ixN_nat, ixOk_lit, ixN_lit, ixOk_m1, ixN_m1, List.nil_append, List.append_nil, List.cons_append, hasN, List.length_map, List.length_range, List.length_cons, List.length_nil, Bool.not_true, Bool.not_false, Bool.not_not, Bool.true_and, Bool.and_true, Bool.or_true, Bool.true_or, Bool.false_or, Bool.or_false, Bool.and_self, Bool.not_eq_true', Bool.false_eq_true, decide_true, decide_false, decide_eq_true_eq, decide_eq_false_iff_not, true_and, and_true, implies_true, and_self, ne_eq, not_true_eq_false, not_false_eq_true, false_implies, true_implies, eq_self, forall_const, Nat.reduceBEq, Nat.reduceEqDiff, Nat.reduceLT, Nat.reduceAdd, Nat.reduceSub, Nat.reduceLeDiff, Nat.reducePow, Int.reduceLT, Int.reduceLE, Int.reduceNeg, Int.reduceAdd, Int.reduceSub, Int.reducePow, Int.reduceToNat, Int.toNat_natCast, beq_self_eq_true, Bool.and_eq_true, Bool.or_eq_true]
    exact ⟨rfl, ns, 0, 0, seed, rfl⟩
  · rintro k hk ρ ⟨seed, rfl⟩
    simp -failIfUnchanged -implicitDefEqProofs only [↓gK0, ↓gKs, ↓setK0, ↓setKs, ↓setN0, ↓setNs, ↓setM0, ↓setMs, ↓clrK0, ↓clrKs, ↓bK_bl, ↓iK_int, ↓brK_true, ↓brK_false, ↓brK_dec, ↓brK_not, ↓brK_and, ↓w_ok, ↓w_var, ↓w_mv, ↓w_int, ↓w_str, ↓w_bl, ↓w_non, ↓w_neg, ↓w_bin, ↓w_cmp, ↓w_and, ↓w_or, ↓w_not, ↓w_ite, ↓w_tup, ↓w_lst, ↓w_nil, ↓w_con, ↓w_ix, ↓w_eo0, ↓w_eo1, ↓w_sl, ↓w_rev, ↓w_bi, ↓w_bi2, ↓w_bi3, ↓w_lcp, ↓w_cmp2, ↓w_tr1, ↓w_tr2, ↓w_lset, ↓w_sidx, ↓w_dcl, ↓w_dis, ↓w_join, ↓w_get, ↓w_ssn, ↓w_kill, ↓w_ssc, ↓nxt_nx, ↓nxt_rt, ↓nxt_bk, ↓nxt_ct, ↓w_set, ↓tsK0, ↓tsKs, ↓tgKv, ↓tgKt, ↓tupK_t, ↓w_tset, ↓w_aug, ↓gK_v, ↓gK_x, ↓setM_v, ↓setM_x, ↓atK0, ↓atKs, ↓atK0a, ↓atKsa, ↓w_pv, ↓w_px, ↓w_put, ↓lstK_l, ↓w_app, ↓lsK_l, ↓w_ext, ↓popK_appm, ↓popK_app, ↓popK_con, ↓w_pop, ↓w_ex, ↓w_ret, ↓w_retN, ↓w_brk, ↓w_cnt, ↓w_pass, ↓w_if, ↓w_an, ↓w_av, ↓w_ar, ↓takK0, ↓takKd, ↓takKr, ↓givK0, ↓givKd, ↓givKr, ↓w_call, ↓w_se, ↓w_s1, ↓w_s2, ↓w_s3, ↓w_sn, ↓w_for, ↓w_wh, ↓lpq_nx, ↓lpq_ct, ↓lpq_bk, ↓lpq_rt, ↓w_cn, ↓w_cs, ↓w_comp, ↓o_add, ↓o_sub, ↓o_adds, ↓o_addt, ↓o_addl, ↓o_mul, ↓o_muls, ↓o_mull, ↓o_div, ↓o_mod, ↓o_pow, ↓c_eq, ↓c_ne, ↓c_lt, ↓c_le, ↓c_gt, ↓c_ge, ↓c_eqs, ↓c_nes, ↓c_lts, ↓c_gts, ↓c_les, ↓c_ges, ↓c_neb, ↓c_eqb, ↓c_ins, ↓c_isn, ↓c_ntn, ↓t_bl, ↓t_int, ↓t_str, ↓t_non, ↓t_lst, ↓t_tup, ↓ixK_0, ↓ixK_1, ↓ixK_2, ↓ixK_3, ↓ixK_l1, ↓ixK_l2, ↓ixK_l3, ↓ixK_m1, ↓ixK_map, ↓x_str, ↓x_tup, ↓x_lst, ↓x_fls, ↓l_str, ↓l_tup, ↓l_lst, ↓r_str, ↓r_lst, ↓b_lens, ↓b_lenl, ↓b_lent, ↓b_lenf, ↓b_lend, ↓b_abs, ↓b_int, ↓b_intb, ↓b_tupt, ↓b_tupl, ↓b_lstt, ↓b_lstl, ↓b_lstf, ↓b_lstx, ↓s_set, ↓b_sum, ↓b_any, ↓b_all, ↓j_map, ↓i_str, ↓i_lst, ↓i_tup, ↓i_fls, ↓m_min, ↓m_max, ↓m_min3, ↓m_max3, ↓p_appn, ↓p_appl, ↓p_appi, ↓p_apps, ↓p_app0, ↓p_appc, ↓p_appa, ↓p_ext, ↓p_putm, ↓p_put0, ↓p_put1, ↓p_put2, ↓p_put3, ↓stepK_map, ↓posK_map, ↓end_rt, ↓end_nx, cond_true, cond_false, Option.isNone_none, n_add, n_addl, n_ladd, n_mul, n_sub0, n_ss, n_subt, n_sublt, n_lt, n_le, n_eq, n_0lt, n_1le, n_eq0, n_leb, n_geb, n_natAbs, sing_eq, safeB_none, safeB_nil, safeB_some, own_none, own_some, g_addi, g_adds, g_subi, g_muli, wrE, wrEs, wrEo, wrAs, wrSrc, wrP, wrS, wrSs, md, mdS, Tg.slots, Tgs.slots, P.root, small_ofNat, small_neg, pu_non, pu_bl, pu_int, pu_str, pu_tup, pu_fls, puL_nil, puL_con, puL_map, puL_app, puL_enum, isStr_str, isDct_dct, isNon_non, isNon_int, isNon_str, isNon_tup, isNon_lst, setAt0, setAt1, cut_to, cut_from, cut_ft, cut_tol, cut_froml, cut_all, cut_map, ixOk_nat, ixN_nat, ixOk_lit, ixN_lit, ixOk_m1, ixN_m1, List.nil_append, List.append_nil, List.cons_append, hasN, List.length_map, List.length_range, List.length_cons, List.length_nil, Bool.not_true, Bool.not_false, Bool.not_not, Bool.true_and, Bool.and_true, Bool.or_true, Bool.true_or, Bool.false_or, Bool.or_false, Bool.and_self, Bool.not_eq_true', Bool.false_eq_true, decide_true, decide_false, decide_eq_true_eq, decide_eq_false_iff_not, true_and, and_true, implies_true, and_self, ne_eq, not_true_eq_false, not_false_eq_true, false_implies, true_implies, eq_self, forall_const, Nat.reduceBEq, Nat.reduceEqDiff, Nat.reduceLT, Nat.reduceAdd, Nat.reduceSub, Nat.reduceLeDiff, Nat.reducePow, Int.reduceLT, Int.reduceLE, Int.reduceNeg, Int.reduceAdd, Int.reduceSub, Int.reducePow, Int.reduceToNat, Int.toNat_natCast, beq_self_eq_true, Bool.and_eq_true, Bool.or_eq_true]
    exact ⟨_, rfl⟩
/-- a draw -/
theorem take_ok {T : List Fn} {it : Nat} (hT : T[it]? = some takeF) (n : Nat) {many : Int} (h : 0 < many) (h2 : many < 1000000000) {d : D} (hd : DOk d) : WpF (fns T (n + 1) it [d, .int many]) (TQ many) :=
  fns_wp hT rfl rfl rfl (takeC_ok _ h h2 hd)
theorem begin_ok {T : List Fn} {it : Nat} (hT : T[it]? = some beginF) (n : Nat) (ns : List Int) : WpF (fns T (n + 1) it [.fls (ns.map D.int)]) fun r rs => rs = [none] ∧ DOk r :=
  fns_wp hT rfl rfl rfl (beginC_ok _ ns)
def PQ (P : D → Prop) (r : D) (rs : Env) : Prop := ∃ d' : D, P r ∧ DOk d' ∧ rs = [some d', none]
theorem pick_lst {T : List Fn} {it ip : Nat} (hT : T[it]? = some takeF) (hP : T[ip]? = some (pickF it)) (n : Nat) {w : List D} (hw : w ≠ []) (hc : w.length ≤ cap) (hp : ∀ x ∈ w, pu x = true) {d : D} (hd : DOk d) : WpF (fns T (n + 2) ip [d, .lst w]) (PQ fun r => r ∈ w) := by
  have hl : 0 < w.length := List.length_pos_iff.mpr hw
  have hcap : cap = 1000000 := rfl
  refine fns_wp (c := pickC it) (ρ := [some d, some (.lst w)]) hP rfl rfl rfl ?_
  unfold pickC
  simp -failIfUnchanged -implicitDefEqProofs only [↓gK0, ↓gKs, ↓setK0, ↓setKs, ↓setN0, ↓setNs, ↓setM0, ↓setMs, ↓clrK0, ↓clrKs, ↓bK_bl, ↓iK_int, ↓brK_true, ↓brK_false, ↓brK_dec, ↓brK_not, ↓brK_and, ↓w_ok, ↓w_var, ↓w_mv, ↓w_int, ↓w_str, ↓w_bl, ↓w_non, ↓w_neg, ↓w_bin, ↓w_cmp, ↓w_and, ↓w_or, ↓w_not, ↓w_ite, ↓w_tup, ↓w_lst, ↓w_nil, ↓w_con, ↓w_ix, ↓w_eo0, ↓w_eo1, ↓w_sl, ↓w_rev, ↓w_bi, ↓w_bi2, ↓w_bi3, ↓w_lcp, ↓w_cmp2, ↓w_tr1, ↓w_tr2, ↓w_lset, ↓w_sidx, ↓w_dcl, ↓w_dis, ↓w_join, ↓w_get, ↓w_ssn, ↓w_kill, ↓w_ssc, ↓nxt_nx, ↓nxt_rt, ↓nxt_bk, ↓nxt_ct, ↓w_set, ↓tsK0, ↓tsKs, ↓tgKv, ↓tgKt, ↓tupK_t, ↓w_tset, ↓w_aug, ↓gK_v, ↓gK_x, ↓setM_v, ↓setM_x, ↓atK0, ↓atKs, ↓atK0a, ↓atKsa, ↓w_pv, ↓w_px, ↓w_put, ↓lstK_l, ↓w_app, ↓lsK_l, ↓w_ext, ↓popK_appm, ↓popK_app, ↓popK_con, ↓w_pop, ↓w_ex, ↓w_ret, ↓w_retN, ↓w_brk, ↓w_cnt, ↓w_pass, ↓w_if, ↓w_an, ↓w_av, ↓w_ar, ↓takK0, ↓takKd, ↓takKr, ↓givK0, ↓givKd, ↓givKr, ↓w_call, ↓w_se, ↓w_s1, ↓w_s2, ↓w_s3, ↓w_sn, ↓w_for, ↓w_wh, ↓lpq_nx, ↓lpq_ct, ↓lpq_bk, ↓lpq_rt, ↓w_cn, ↓w_cs, ↓w_comp, ↓o_add, ↓o_sub, ↓o_adds, ↓o_addt, ↓o_addl, ↓o_mul, ↓o_muls, ↓o_mull, ↓o_div, ↓o_mod, ↓o_pow, ↓c_eq, ↓c_ne, ↓c_lt, ↓c_le, ↓c_gt, ↓c_ge, ↓c_eqs, ↓c_nes, ↓c_lts, ↓c_gts, ↓c_les, ↓c_ges, ↓c_neb, ↓c_eqb, ↓c_ins, ↓c_isn, ↓c_ntn, ↓t_bl, ↓t_int, ↓t_str, ↓t_non, ↓t_lst, ↓t_tup, ↓ixK_0, ↓ixK_1, ↓ixK_2, ↓ixK_3, ↓ixK_l1, ↓ixK_l2, ↓ixK_l3, ↓ixK_m1, ↓ixK_map, ↓x_str, ↓x_tup, ↓x_lst, ↓x_fls, ↓l_str, ↓l_tup, ↓l_lst, ↓r_str, ↓r_lst, ↓b_lens, ↓b_lenl, ↓b_lent, ↓b_lenf, ↓b_lend, ↓b_abs, ↓b_int, ↓b_intb, ↓b_tupt, ↓b_tupl, ↓b_lstt, ↓b_lstl, ↓b_lstf, ↓b_lstx, ↓s_set, ↓b_sum, ↓b_any, ↓b_all, ↓j_map, ↓i_str, ↓i_lst, ↓i_tup, ↓i_fls, ↓m_min, ↓m_max, ↓m_min3, ↓m_max3, ↓p_appn, ↓p_appl, ↓p_appi, ↓p_apps, ↓p_app0, ↓p_appc, ↓p_appa, ↓p_ext, ↓p_putm, ↓p_put0, ↓p_put1, ↓p_put2, ↓p_put3, ↓stepK_map, ↓posK_map, ↓end_rt, ↓end_nx, cond_true, cond_false, Option.isNone_none, n_add, n_addl, n_ladd, n_mul, n_sub0, n_ss, n_subt, n_sublt, n_lt, n_le, n_eq, n_0lt, n_1le, n_eq0, n_leb, n_geb, n_natAbs, sing_eq, safeB_none, safeB_nil, safeB_some, own_none, own_some, g_addi, g_adds, g_subi, g_muli, wrE, wrEs, wrEo, wrAs, wrSrc, wrP, wrS, wrSs, md, mdS, Tg.slots, Tgs.slots, P.root, small_ofNat, small_neg, pu_non, pu_bl, pu_int, pu_str, pu_tup, pu_fls, puL_nil, puL_con, puL_map, puL_app, puL_enum, isStr_str, isDct_dct, isNon_non, isNon_int, isNon_str, isNon_tup, isNon_lst, setAt0, setAt1, cut_to, cut_from, cut_ft, cut_tol, cut_froml, cut_all, cut_map, ixOk_nat, ixN_nat, ixOk_lit, ixN_lit, ixOk_m1, ixN_m1, List.nil_append, List.append_nil, List.cons_append, hasN, List.length_map, List.length_range, List.length_cons, List.length_nil, Bool.not_true, Bool.not_false, Bool.not_not, Bool.true_and, Bool.and_true, Bool.or_true, Bool.true_or, Bool.false_or, Bool.or_false, Bool.and_self, Bool.not_eq_true', Bool.false_eq_true, decide_true, decide_false, decide_eq_true_eq, decide_eq_false_iff_not, true_and, and_true, implies_true, and_self, ne_eq, not_true_eq_false, not_false_eq_true, false_implies, true_implies, eq_self, forall_const, Nat.reduceBEq, Nat.reduceEqDiff, Nat.reduceLT, Nat.reduceAdd, Nat.reduceSub, Nat.reduceLeDiff, Nat.reducePow, Int.reduceLT, Int.reduceLE, Int.reduceNeg, Int.reduceAdd, Int.reduceSub, Int.reducePow, Int.reduceToNat, Int.toNat_natCast, beq_self_eq_true, Bool.and_eq_true, Bool.or_eq_true]
  refine wpf_mono (take_ok hT n (by omega) (by omega) hd) ?_
  rintro r rs ⟨k, d', rfl, hk, hd', rfl⟩
  have hk' : k < w.length := by omega
  simp -failIfUnchanged -implicitDefEqProofs only [↓gK0, ↓gKs, ↓setK0, ↓setKs, ↓setN0, ↓setNs, ↓setM0, ↓setMs, ↓clrK0, ↓clrKs, ↓bK_bl, ↓iK_int, ↓brK_true, ↓brK_false, ↓brK_dec, ↓brK_not, ↓brK_and, ↓w_ok, ↓w_var, ↓w_mv, ↓w_int, ↓w_str, ↓w_bl, ↓w_non, ↓w_neg, ↓w_bin, ↓w_cmp, ↓w_and, ↓w_or, ↓w_not, ↓w_ite, ↓w_tup, ↓w_lst, ↓w_nil, ↓w_con, ↓w_ix, ↓w_eo0, ↓w_eo1, ↓w_sl, ↓w_rev, ↓w_bi, ↓w_bi2, ↓w_bi3, ↓w_lcp, ↓w_cmp2, ↓w_tr1, ↓w_tr2, ↓w_lset, ↓w_sidx, ↓w_dcl, ↓w_dis, ↓w_join, ↓w_get, ↓w_ssn, ↓w_kill, ↓w_ssc, ↓nxt_nx, ↓nxt_rt, ↓nxt_bk, ↓nxt_ct, ↓w_set, ↓tsK0, ↓tsKs, ↓tgKv, ↓tgKt, ↓tupK_t, ↓w_tset, ↓w_aug, ↓gK_v, ↓gK_x, ↓setM_v, ↓setM_x, ↓atK0, ↓atKs, ↓atK0a, ↓atKsa, ↓w_pv, ↓w_px, ↓w_put, ↓lstK_l, ↓w_app, ↓lsK_l, ↓w_ext, ↓popK_appm, ↓popK_app, ↓popK_con, ↓w_pop, ↓w_ex, ↓w_ret, ↓w_retN, ↓w_brk, ↓w_cnt, ↓w_pass, ↓w_if, ↓w_an, ↓w_av, ↓w_ar, ↓takK0, ↓takKd, ↓takKr, ↓givK0, ↓givKd, ↓givKr, ↓w_call, ↓w_se, ↓w_s1, ↓w_s2, ↓w_s3, ↓w_sn, ↓w_for, ↓w_wh, ↓lpq_nx, ↓lpq_ct, ↓lpq_bk, ↓lpq_rt, ↓w_cn, ↓w_cs, ↓w_comp, ↓o_add, ↓o_sub, ↓o_adds, ↓o_addt, ↓o_addl, ↓o_mul, ↓o_muls, ↓o_mull, ↓o_div, ↓o_mod, ↓o_pow, ↓c_eq, ↓c_ne, ↓c_lt, ↓c_le, ↓c_gt, ↓c_ge, ↓c_eqs, ↓c_nes, ↓c_lts, ↓c_gts, ↓c_les, ↓c_ges, ↓c_neb, ↓c_eqb, ↓c_ins, ↓c_isn, ↓c_ntn, ↓t_bl, ↓t_int, ↓t_str, ↓t_non, ↓t_lst, ↓t_tup, ↓ixK_0, ↓ixK_1, ↓ixK_2, ↓ixK_3, ↓ixK_l1, ↓ixK_l2, ↓ixK_l3, ↓ixK_m1, ↓ixK_map, ↓x_str, ↓x_tup, ↓x_lst, ↓x_fls, ↓l_str, ↓l_tup, ↓l_lst, ↓r_str, ↓r_lst, ↓b_lens, ↓b_lenl, ↓b_lent, ↓b_lenf, ↓b_lend, ↓b_abs, ↓b_int, ↓b_intb, ↓b_tupt, ↓b_tupl, ↓b_lstt, ↓b_lstl, ↓b_lstf, ↓b_lstx, ↓s_set, ↓b_sum, ↓b_any, ↓b_all, ↓j_map, ↓i_str, ↓i_lst, ↓i_tup, ↓i_fls, ↓m_min, ↓m_max, ↓m_min3, ↓m_max3, ↓p_appn, ↓p_appl, ↓p_appi, ↓p_apps, ↓p_app0, ↓p_appc, ↓p_appa, ↓p_ext, ↓p_putm, ↓p_put0, ↓p_put1, ↓p_put2, ↓p_put3, ↓stepK_map, ↓posK_map, ↓end_rt, ↓end_nx, cond_true, cond_false, Option.isNone_none, n_add, n_addl, n_ladd, n_mul, n_sub0, n_ss, n_subt, n_sublt, n_lt, n_le, n_eq, n_0lt, n_1le, n_eq0, n_leb, n_geb, n_natAbs, sing_eq, safeB_none, safeB_nil, safeB_some, own_none, own_some, g_addi, g_adds, g_subi, g_muli, wrE, wrEs, wrEo, wrAs, wrSrc, wrP, wrS, wrSs, md, mdS, Tg.slots, Tgs.slots, P.root, small_ofNat, small_neg, pu_non, pu_bl, pu_int, pu_str, pu_tup, pu_fls, puL_nil, puL_con, puL_map, puL_app, puL_enum, isStr_str, isDct_dct, isNon_non, isNon_int, isNon_str, isNon_tup, isNon_lst, setAt0, setAt1, cut_to, cut_from, cut_ft, cut_tol, cut_froml, cut_all, cut_map, ixOk_nat, ixN_nat, ixOk_lit, ixN_lit, ixOk_m1, ixN_m1, List.nil_append, List.append_nil, List.cons_append, hasN, List.length_map, List.length_range, List.length_cons, List.length_nil, Bool.not_true, Bool.not_false, Bool.not_not, Bool.true_and, Bool.and_true, Bool.or_true, Bool.true_or, Bool.false_or, Bool.or_false, Bool.and_self, Bool.not_eq_true', Bool.false_eq_true, decide_true, decide_false, decide_eq_true_eq, decide_eq_false_iff_not, true_and, and_true, implies_true, and_self, ne_eq, not_true_eq_false, not_false_eq_true, false_implies, true_implies, eq_self, forall_const, Nat.reduceBEq, Nat.reduceEqDiff, Nat.reduceLT, Nat.reduceAdd, Nat.reduceSub, Nat.reduceLeDiff, Nat.reducePow, Int.reduceLT, Int.reduceLE, Int.reduceNeg, Int.reduceAdd, Int.reduceSub, Int.reducePow, Int.reduceToNat, Int.toNat_natCast, beq_self_eq_true, Bool.and_eq_true, Bool.or_eq_true]
  have hx : nIx w.length (k : Int) = some k := by rw [nIx_eq]; simp [ixOk_nat, ixN_nat, hk']
  exact ⟨k, w[k], hx, List.getElem?_eq_getElem hk', hp _ (List.getElem_mem hk'), ⟨d', List.getElem_mem hk', hd', rfl⟩⟩
theorem pick_str {T : List Fn} {it ip : Nat} (hT : T[it]? = some takeF) (hP : T[ip]? = some (pickF it)) (n : Nat) {w : List Nat} (hw : w ≠ []) (hc : w.length ≤ cap) {d : D} (hd : DOk d) : WpF (fns T (n + 2) ip [d, .str w]) (PQ fun r => ∃ c ∈ w, r = .str [c]) := by
  have hl : 0 < w.length := List.length_pos_iff.mpr hw
  have hcap : cap = 1000000 := rfl
  refine fns_wp (c := pickC it) (ρ := [some d, some (.str w)]) hP rfl rfl rfl ?_
  unfold pickC
  simp -failIfUnchanged -implicitDefEqProofs only [↓gK0, ↓gKs, ↓setK0, ↓setKs, ↓setN0, ↓setNs, ↓setM0, ↓setMs, ↓clrK0, ↓clrKs, ↓bK_bl, ↓iK_int, ↓brK_true, ↓brK_false, ↓brK_dec, ↓brK_not, ↓brK_and, ↓w_ok, ↓w_var, ↓w_mv, ↓w_int, ↓w_str, ↓w_bl, ↓w_non, ↓w_neg, ↓w_bin, ↓w_cmp, ↓w_and, ↓w_or, ↓w_not, ↓w_ite, ↓w_tup, ↓w_lst, ↓w_nil, ↓w_con, ↓w_ix, ↓w_eo0, ↓w_eo1, ↓w_sl, ↓w_rev, ↓w_bi, ↓w_bi2, ↓w_bi3, ↓w_lcp, ↓w_cmp2, ↓w_tr1, ↓w_tr2, ↓w_lset, ↓w_sidx, ↓w_dcl, ↓w_dis, ↓w_join, ↓w_get, ↓w_ssn, ↓w_kill, ↓w_ssc, ↓nxt_nx, ↓nxt_rt, ↓nxt_bk, ↓nxt_ct, ↓w_set, ↓tsK0, ↓tsKs, ↓tgKv, ↓tgKt, ↓tupK_t, ↓w_tset, ↓w_aug, ↓gK_v, ↓gK_x, ↓setM_v, ↓setM_x, ↓atK0, ↓atKs, ↓atK0a, ↓atKsa, ↓w_pv, ↓w_px, ↓w_put, ↓lstK_l, ↓w_app, ↓lsK_l, ↓w_ext, ↓popK_appm, ↓popK_app, ↓popK_con, ↓w_pop, ↓w_ex, ↓w_ret, ↓w_retN, ↓w_brk, ↓w_cnt, ↓w_pass, ↓w_if, ↓w_an, ↓w_av, ↓w_ar, ↓takK0, ↓takKd, ↓takKr, ↓givK0, ↓givKd, ↓givKr, ↓w_call, ↓w_se, ↓w_s1, ↓w_s2, ↓w_s3, ↓w_sn, ↓w_for, ↓w_wh, ↓lpq_nx, ↓lpq_ct, ↓lpq_bk, ↓lpq_rt, ↓w_cn, ↓w_cs, ↓w_comp, ↓o_add, ↓o_sub, ↓o_adds, ↓o_addt, ↓o_addl, ↓o_mul, ↓o_muls, ↓o_mull, ↓o_div, ↓o_mod, ↓o_pow, ↓c_eq, ↓c_ne, ↓c_lt, ↓c_le, ↓c_gt, ↓c_ge, ↓c_eqs, ↓c_nes, ↓c_lts, ↓c_gts, ↓c_les, ↓c_ges, ↓c_neb, ↓c_eqb, ↓c_ins, ↓c_isn, ↓c_ntn, ↓t_bl, ↓t_int, ↓t_str, ↓t_non, ↓t_lst, ↓t_tup, ↓ixK_0, ↓ixK_1, ↓ixK_2, ↓ixK_3, ↓ixK_l1, ↓ixK_l2, ↓ixK_l3, ↓ixK_m1, ↓ixK_map, ↓x_str, ↓x_tup, ↓x_lst, ↓x_fls, ↓l_str, ↓l_tup, ↓l_lst, ↓r_str, ↓r_lst, ↓b_lens, ↓b_lenl, ↓b_lent, ↓b_lenf, ↓b_lend, ↓b_abs, ↓b_int, ↓b_intb, ↓b_tupt, ↓b_tupl, ↓b_lstt, ↓b_lstl, ↓b_lstf, ↓b_lstx, ↓s_set, ↓b_sum, ↓b_any, ↓b_all, ↓j_map, ↓i_str, ↓i_lst, ↓i_tup, ↓i_fls, ↓m_min, ↓m_max, ↓m_min3, ↓m_max3, ↓p_appn, ↓p_appl, ↓p_appi, ↓p_apps, ↓p_app0, ↓p_appc, ↓p_appa, ↓p_ext, ↓p_putm, ↓p_put0, ↓p_put1, ↓p_put2, ↓p_put3, ↓stepK_map, ↓posK_map, ↓end_rt, ↓end_nx, cond_true, cond_false, Option.isNone_none, n_add, n_addl, n_ladd, n_mul, n_sub0, n_ss, n_subt, n_sublt, n_lt, n_le, n_eq, n_0lt, n_1le, n_eq0, n_leb, n_geb, n_natAbs, sing_eq, safeB_none, safeB_nil, safeB_some, own_none, own_some, g_addi, g_adds, g_subi, g_muli, wrE, wrEs, wrEo, wrAs, wrSrc, wrP, wrS, wrSs, md, mdS, Tg.slots, Tgs.slots, P.root, small_ofNat, small_neg, pu_non, pu_bl, pu_int, pu_str, pu_tup, pu_fls, puL_nil, puL_con, puL_map, puL_app, puL_enum, isStr_str, isDct_dct, isNon_non, isNon_int, isNon_str, isNon_tup, isNon_lst, setAt0, setAt1, cut_to, cut_from, cut_ft, cut_tol, cut_froml, cut_all, cut_map, ixOk_nat, ixN_nat, ixOk_lit, ixN_lit, ixOk_m1, ixN_m1, List.nil_append, List.append_nil, List.cons_append, hasN, List.length_map, List.length_range, List.length_cons, List.length_nil, Bool.not_true, Bool.not_false, Bool.not_not, Bool.true_and, Bool.and_true, Bool.or_true, Bool.true_or, Bool.false_or, Bool.or_false, Bool.and_self, Bool.not_eq_true', Bool.false_eq_true, decide_true, decide_false, decide_eq_true_eq, decide_eq_false_iff_not, true_and, and_true, implies_true, and_self, ne_eq, not_true_eq_false, not_false_eq_true, false_implies, true_implies, eq_self, forall_const, Nat.reduceBEq, Nat.reduceEqDiff, Nat.reduceLT, Nat.reduceAdd, Nat.reduceSub, Nat.reduceLeDiff, Nat.reducePow, Int.reduceLT, Int.reduceLE, Int.reduceNeg, Int.reduceAdd, Int.reduceSub, Int.reducePow, Int.reduceToNat, Int.toNat_natCast, beq_self_eq_true, Bool.and_eq_true, Bool.or_eq_true]
  refine ⟨hc, wpf_mono (take_ok hT n (by omega) (by omega) hd) ?_⟩
  rintro r rs ⟨k, d', rfl, hk, hd', rfl⟩
  have hk' : k < w.length := by omega
  simp -failIfUnchanged -implicitDefEqProofs only [↓gK0, ↓gKs, ↓setK0, ↓setKs, ↓setN0, ↓setNs, ↓setM0, ↓setMs, ↓clrK0, ↓clrKs, ↓bK_bl, ↓iK_int, ↓brK_true, ↓brK_false, ↓brK_dec, ↓brK_not, ↓brK_and, ↓w_ok, ↓w_var, ↓w_mv, ↓w_int, ↓w_str, ↓w_bl, ↓w_non, ↓w_neg, ↓w_bin, ↓w_cmp, ↓w_and, ↓w_or, ↓w_not, ↓w_ite, ↓w_tup, ↓w_lst, ↓w_nil, ↓w_con, ↓w_ix, ↓w_eo0, ↓w_eo1, ↓w_sl, ↓w_rev, ↓w_bi, ↓w_bi2, ↓w_bi3, ↓w_lcp, ↓w_cmp2, ↓w_tr1, ↓w_tr2, ↓w_lset, ↓w_sidx, ↓w_dcl, ↓w_dis, ↓w_join, ↓w_get, ↓w_ssn, ↓w_kill, ↓w_ssc, ↓nxt_nx, ↓nxt_rt, ↓nxt_bk, ↓nxt_ct, ↓w_set, ↓tsK0, ↓tsKs, ↓tgKv, ↓tgKt, ↓tupK_t, ↓w_tset, ↓w_aug, ↓gK_v, ↓gK_x, ↓setM_v, ↓setM_x, ↓atK0, ↓atKs, ↓atK0a, ↓atKsa, ↓w_pv, ↓w_px, ↓w_put, ↓lstK_l, ↓w_app, ↓lsK_l, ↓w_ext, ↓popK_appm, ↓popK_app, ↓popK_con, ↓w_pop, ↓w_ex, ↓w_ret, ↓w_retN, ↓w_brk, ↓w_cnt, ↓w_pass, ↓w_if, ↓w_an, ↓w_av, ↓w_ar, ↓takK0, ↓takKd, ↓takKr, ↓givK0, ↓givKd, ↓givKr, ↓w_call, ↓w_se, ↓w_s1, ↓w_s2, ↓w_s3, ↓w_sn, ↓w_for, ↓w_wh, ↓lpq_nx, ↓lpq_ct, ↓lpq_bk, ↓lpq_rt, ↓w_cn, ↓w_cs, ↓w_comp, ↓o_add, ↓o_sub, ↓o_adds, ↓o_addt, ↓o_addl, ↓o_mul, ↓o_muls, ↓o_mull, ↓o_div, ↓o_mod, ↓o_pow, ↓c_eq, ↓c_ne, ↓c_lt, ↓c_le, ↓c_gt, ↓c_ge, ↓c_eqs, ↓c_nes, ↓c_lts, ↓c_gts, ↓c_les, ↓c_ges, ↓c_neb, ↓c_eqb, ↓c_ins, ↓c_isn, ↓c_ntn, ↓t_bl, ↓t_int, ↓t_str, ↓t_non, ↓t_lst, ↓t_tup, ↓ixK_0, ↓ixK_1, ↓ixK_2, ↓ixK_3, ↓ixK_l1, ↓ixK_l2, ↓ixK_l3, ↓ixK_m1, ↓ixK_map, ↓x_str, ↓x_tup, ↓x_lst, ↓x_fls, ↓l_str, ↓l_tup, ↓l_lst, ↓r_str, ↓r_lst, ↓b_lens, ↓b_lenl, ↓b_lent, ↓b_lenf, ↓b_lend, ↓b_abs, ↓b_int, ↓b_intb, ↓b_tupt, ↓b_tupl, ↓b_lstt, ↓b_lstl, ↓b_lstf, ↓b_lstx, ↓s_set, ↓b_sum, ↓b_any, ↓b_all, ↓j_map, ↓i_str, ↓i_lst, ↓i_tup, ↓i_fls, ↓m_min, ↓m_max, ↓m_min3, ↓m_max3, ↓p_appn, ↓p_appl, ↓p_appi, ↓p_apps, ↓p_app0, ↓p_appc, ↓p_appa, ↓p_ext, ↓p_putm, ↓p_put0, ↓p_put1, ↓p_put2, ↓p_put3, ↓stepK_map, ↓posK_map, ↓end_rt, ↓end_nx, cond_true, cond_false, Option.isNone_none, n_add, n_addl, n_ladd, n_mul, n_sub0, n_ss, n_subt, n_sublt, n_lt, n_le, n_eq, n_0lt, n_1le, n_eq0, n_leb, n_geb, n_natAbs, sing_eq, safeB_none, safeB_nil, safeB_some, own_none, own_some, g_addi, g_adds, g_subi, g_muli, wrE, wrEs, wrEo, wrAs, wrSrc, wrP, wrS, wrSs, md, mdS, Tg.slots, Tgs.slots, P.root, small_ofNat, small_neg, pu_non, pu_bl, pu_int, pu_str, pu_tup, pu_fls, puL_nil, puL_con, puL_map, puL_app, puL_enum, isStr_str, isDct_dct, isNon_non, isNon_int, isNon_str, isNon_tup, isNon_lst, setAt0, setAt1, cut_to, cut_from, cut_ft, cut_tol, cut_froml, cut_all, cut_map, ixOk_nat, ixN_nat, ixOk_lit, ixN_lit, ixOk_m1, ixN_m1, List.nil_append, List.append_nil, List.cons_append, hasN, List.length_map, List.length_range, List.length_cons, List.length_nil, Bool.not_true, Bool.not_false, Bool.not_not, Bool.true_and, Bool.and_true, Bool.or_true, Bool.true_or, Bool.false_or, Bool.or_false, Bool.and_self, Bool.not_eq_true', Bool.false_eq_true, decide_true, decide_false, decide_eq_true_eq, decide_eq_false_iff_not, true_and, and_true, implies_true, and_self, ne_eq, not_true_eq_false, not_false_eq_true, false_implies, true_implies, eq_self, forall_const, Nat.reduceBEq, Nat.reduceEqDiff, Nat.reduceLT, Nat.reduceAdd, Nat.reduceSub, Nat.reduceLeDiff, Nat.reducePow, Int.reduceLT, Int.reduceLE, Int.reduceNeg, Int.reduceAdd, Int.reduceSub, Int.reducePow, Int.reduceToNat, Int.toNat_natCast, beq_self_eq_true, Bool.and_eq_true, Bool.or_eq_true]
  refine ⟨⟨hc, hk'⟩, d', ⟨w[k], List.getElem_mem hk', ?_⟩, hd', rfl⟩
  simp [hk']
/-- a pick whose menu is lent too -/
def pickF2 (it : Nat) : Fn := ⟨2, 2, [0, 1], pickC it⟩
def PQo (P : D → Prop) (mo : Option D) (r : D) (rs : Env) : Prop := ∃ d' : D, P r ∧ DOk d' ∧ rs = [some d', mo]
theorem pick_lst2 {T : List Fn} {it ip : Nat} (hT : T[it]? = some takeF) (hP : T[ip]? = some (pickF2 it)) (n : Nat) {w : List D} (hw : w ≠ []) (hc : w.length ≤ cap) (hp : ∀ x ∈ w, pu x = true) {d : D} (hd : DOk d) : WpF (fns T (n + 2) ip [d, .lst w]) (PQo (fun r => r ∈ w) (some (.lst w))) := by
  have hl : 0 < w.length := List.length_pos_iff.mpr hw
  have hcap : cap = 1000000 := rfl
  refine fns_wp (c := pickC it) (ρ := [some d, some (.lst w)]) hP rfl rfl rfl ?_
  unfold pickC
  simp -failIfUnchanged -implicitDefEqProofs only [↓gK0, ↓gKs, ↓setK0, ↓setKs, ↓setN0, ↓setNs, ↓setM0, ↓setMs, ↓clrK0, ↓clrKs, ↓bK_bl, ↓iK_int, ↓brK_true, ↓brK_false, ↓brK_dec, ↓brK_not, ↓brK_and, ↓w_ok, ↓w_var, ↓w_mv, ↓w_int, ↓w_str, ↓w_bl, ↓w_non, ↓w_neg, ↓w_bin, ↓w_cmp, ↓w_and, ↓w_or, ↓w_not, ↓w_ite, ↓w_tup, ↓w_lst, ↓w_nil, ↓w_con, ↓w_ix, ↓w_eo0, ↓w_eo1, ↓w_sl, ↓w_rev, ↓w_bi, ↓w_bi2, ↓w_bi3, ↓w_lcp, ↓w_cmp2, ↓w_tr1, ↓w_tr2, ↓w_lset, ↓w_sidx, ↓w_dcl, ↓w_dis, ↓w_join, ↓w_get, ↓w_ssn, ↓w_kill, ↓w_ssc, ↓nxt_nx, ↓nxt_rt, ↓nxt_bk, ↓nxt_ct, ↓w_set, ↓tsK0, ↓tsKs, ↓tgKv, ↓tgKt, ↓tupK_t, ↓w_tset, ↓w_aug, ↓gK_v, ↓gK_x, ↓setM_v, ↓setM_x, ↓atK0, ↓atKs, ↓atK0a, ↓atKsa, ↓w_pv, ↓w_px, ↓w_put, ↓lstK_l, ↓w_app, ↓lsK_l, ↓w_ext, ↓popK_appm, ↓popK_app, ↓popK_con, ↓w_pop, ↓w_ex, ↓w_ret, ↓w_retN, ↓w_brk, ↓w_cnt, ↓w_pass, ↓w_if, ↓w_an, ↓w_av, ↓w_ar, ↓takK0, ↓takKd, ↓takKr, ↓givK0, ↓givKd, ↓givKr, ↓w_call, ↓w_se, ↓w_s1, ↓w_s2, ↓w_s3, ↓w_sn, ↓w_for, ↓w_wh, ↓lpq_nx, ↓lpq_ct, ↓lpq_bk, ↓lpq_rt, ↓w_cn, ↓w_cs, ↓w_comp, ↓o_add, ↓o_sub, ↓o_adds, ↓o_addt, ↓o_addl, ↓o_mul, ↓o_muls, ↓o_mull, ↓o_div, ↓o_mod, ↓o_pow, ↓c_eq, ↓c_ne, ↓c_lt, ↓c_le, ↓c_gt, ↓c_ge, ↓c_eqs, ↓c_nes, ↓c_lts, ↓c_gts, ↓c_les, ↓c_ges, ↓c_neb, ↓c_eqb, ↓c_ins, ↓c_isn, ↓c_ntn, ↓t_bl, ↓t_int, ↓t_str, ↓t_non, ↓t_lst, ↓t_tup, ↓ixK_0, ↓ixK_1, ↓ixK_2, ↓ixK_3, ↓ixK_l1, ↓ixK_l2, ↓ixK_l3, ↓ixK_m1, ↓ixK_map, ↓x_str, ↓x_tup, ↓x_lst, ↓x_fls, ↓l_str, ↓l_tup, ↓l_lst, ↓r_str, ↓r_lst, ↓b_lens, ↓b_lenl, ↓b_lent, ↓b_lenf, ↓b_lend, ↓b_abs, ↓b_int, ↓b_intb, ↓b_tupt, ↓b_tupl, ↓b_lstt, ↓b_lstl, ↓b_lstf, ↓b_lstx, ↓s_set, ↓b_sum, ↓b_any, ↓b_all, ↓j_map, ↓i_str, ↓i_lst, ↓i_tup, ↓i_fls, ↓m_min, ↓m_max, ↓m_min3, ↓m_max3, ↓p_appn, ↓p_appl, ↓p_appi, ↓p_apps, ↓p_app0, ↓p_appc, ↓p_appa, ↓p_ext, ↓p_putm, ↓p_put0, ↓p_put1, ↓p_put2, ↓p_put3, ↓stepK_map, ↓posK_map, ↓end_rt, ↓end_nx, cond_true, cond_false, Option.isNone_none, n_add, n_addl, n_ladd, n_mul, n_sub0, n_ss, n_subt, n_sublt, n_lt, n_le, n_eq, n_0lt, n_1le, n_eq0, n_leb, n_geb, n_natAbs, sing_eq, safeB_none, safeB_nil, safeB_some, own_none, own_some, g_addi, g_adds, g_subi, g_muli, wrE, wrEs, wrEo, wrAs, wrSrc, wrP, wrS, wrSs, md, mdS, Tg.slots, Tgs.slots, P.root, small_ofNat, small_neg, pu_non, pu_bl, pu_int, pu_str, pu_tup, pu_fls, puL_nil, puL_con, puL_map, puL_app, puL_enum, isStr_str, isDct_dct, isNon_non, isNon_int, isNon_str, isNon_tup, isNon_lst, setAt0, setAt1, cut_to, cut_from, cut_ft, cut_tol, cut_froml, cut_all, cut_map, ixOk_nat, ixN_nat, ixOk_lit, ixN_lit, ixOk_m1, ixN_m1, List.nil_append, List.append_nil, List.cons_append, hasN, List.length_map, List.length_range, List.length_cons, List.length_nil, Bool.not_true, Bool.not_false, Bool.not_not, Bool.true_and, Bool.and_true, Bool.or_true, Bool.true_or, Bool.false_or, Bool.or_false, Bool.and_self, Bool.not_eq_true', Bool.false_eq_true, decide_true, decide_false, decide_eq_true_eq, decide_eq_false_iff_not, true_and, and_true, implies_true, and_self, ne_eq, not_true_eq_false, not_false_eq_true, false_implies, true_implies, eq_self, forall_const, Nat.reduceBEq, Nat.reduceEqDiff, Nat.reduceLT, Nat.reduceAdd, Nat.reduceSub, Nat.reduceLeDiff, Nat.reducePow, Int.reduceLT, Int.reduceLE, Int.reduceNeg, Int.reduceAdd, Int.reduceSub, Int.reducePow, Int.reduceToNat, Int.toNat_natCast, beq_self_eq_true, Bool.and_eq_true, Bool.or_eq_true]
  refine wpf_mono (take_ok hT n (by omega) (by omega) hd) ?_
  rintro r rs ⟨k, d', rfl, hk, hd', rfl⟩
  have hk' : k < w.length := by omega
  simp -failIfUnchanged -implicitDefEqProofs only [↓gK0, ↓gKs, ↓setK0, ↓setKs, ↓setN0, ↓setNs, ↓setM0, ↓setMs, ↓clrK0, ↓clrKs, ↓bK_bl, ↓iK_int, ↓brK_true, ↓brK_false, ↓brK_dec, ↓brK_not, ↓brK_and, ↓w_ok, ↓w_var, ↓w_mv, ↓w_int, ↓w_str, ↓w_bl, ↓w_non, ↓w_neg, ↓w_bin, ↓w_cmp, ↓w_and, ↓w_or, ↓w_not, ↓w_ite, ↓w_tup, ↓w_lst, ↓w_nil, ↓w_con, ↓w_ix, ↓w_eo0, ↓w_eo1, ↓w_sl, ↓w_rev, ↓w_bi, ↓w_bi2, ↓w_bi3, ↓w_lcp, ↓w_cmp2, ↓w_tr1, ↓w_tr2, ↓w_lset, ↓w_sidx, ↓w_dcl, ↓w_dis, ↓w_join, ↓w_get, ↓w_ssn, ↓w_kill, ↓w_ssc, ↓nxt_nx, ↓nxt_rt, ↓nxt_bk, ↓nxt_ct, ↓w_set, ↓tsK0, ↓tsKs, ↓tgKv, ↓tgKt, ↓tupK_t, ↓w_tset, ↓w_aug, ↓gK_v, ↓gK_x, ↓setM_v, ↓setM_x, ↓atK0, ↓atKs, ↓atK0a, ↓atKsa, ↓w_pv, ↓w_px, ↓w_put, ↓lstK_l, ↓w_app, ↓lsK_l, ↓w_ext, ↓popK_appm, ↓popK_app, ↓popK_con, ↓w_pop, ↓w_ex, ↓w_ret, ↓w_retN, ↓w_brk, ↓w_cnt, ↓w_pass, ↓w_if, ↓w_an, ↓w_av, ↓w_ar, ↓takK0, ↓takKd, ↓takKr, ↓givK0, ↓givKd, ↓givKr, ↓w_call, ↓w_se, ↓w_s1, ↓w_s2, ↓w_s3, ↓w_sn, ↓w_for, ↓w_wh, ↓lpq_nx, ↓lpq_ct, ↓lpq_bk, ↓lpq_rt, ↓w_cn, ↓w_cs, ↓w_comp, ↓o_add, ↓o_sub, ↓o_adds, ↓o_addt, ↓o_addl, ↓o_mul, ↓o_muls, ↓o_mull, ↓o_div, ↓o_mod, ↓o_pow, ↓c_eq, ↓c_ne, ↓c_lt, ↓c_le, ↓c_gt, ↓c_ge, ↓c_eqs, ↓c_nes, ↓c_lts, ↓c_gts, ↓c_les, ↓c_ges, ↓c_neb, ↓c_eqb, ↓c_ins, ↓c_isn, ↓c_ntn, ↓t_bl, ↓t_int, ↓t_str, ↓t_non, ↓t_lst, ↓t_tup, ↓ixK_0, ↓ixK_1, ↓ixK_2, ↓ixK_3, ↓ixK_l1, ↓ixK_l2, ↓ixK_l3, ↓ixK_m1, ↓ixK_map, ↓x_str, ↓x_tup, ↓x_lst, ↓x_fls, ↓l_str, ↓l_tup, ↓l_lst, ↓r_str, ↓r_lst, ↓b_lens, ↓b_lenl, ↓b_lent, ↓b_lenf, ↓b_lend, ↓b_abs, ↓b_int, ↓b_intb, ↓b_tupt, ↓b_tupl, ↓b_lstt, ↓b_lstl, ↓b_lstf, ↓b_lstx, ↓s_set, ↓b_sum, ↓b_any, ↓b_all, ↓j_map, ↓i_str, ↓i_lst, ↓i_tup, ↓i_fls, ↓m_min, ↓m_max, ↓m_min3, ↓m_max3, ↓p_appn, ↓p_appl, ↓p_appi, ↓p_apps, ↓p_app0, ↓p_appc, ↓p_appa, ↓p_ext, ↓p_putm, ↓p_put0, ↓p_put1, ↓p_put2, ↓p_put3, ↓stepK_map, ↓posK_map, ↓end_rt, ↓end_nx, cond_true, cond_false, Option.isNone_none, n_add, n_addl, n_ladd, n_mul, n_sub0, n_ss, n_subt, n_sublt, n_lt, n_le, n_eq, n_0lt, n_1le, n_eq0, n_leb, n_geb, n_natAbs, sing_eq, safeB_none, safeB_nil, safeB_some, own_none, own_some, g_addi, g_adds, g_subi, g_muli, wrE, wrEs, wrEo, wrAs, wrSrc, wrP, wrS, wrSs, md, mdS, Tg.slots, Tgs.slots, P.root, small_ofNat, small_neg, pu_non, pu_bl, pu_int, pu_str, pu_tup, pu_fls, puL_nil, puL_con, puL_map, puL_app, puL_enum, isStr_str, isDct_dct, isNon_non, isNon_int, isNon_str, isNon_tup, isNon_lst, setAt0, setAt1, cut_to, cut_from, cut_ft, cut_tol, cut_froml, cut_all, cut_map, ixOk_nat, ixN_nat, ixOk_lit, ixN_lit, ixOk_m1, ixN_m1, List.nil_append, List.append_nil, List.cons_append, hasN, List.length_map, List.length_range, List.length_cons, List.length_nil, Bool.not_true, Bool.not_false, Bool.not_not, Bool.true_and, Bool.and_true, Bool.or_true, Bool.true_or, Bool.false_or, Bool.or_false, Bool.and_self, Bool.not_eq_true', Bool.false_eq_true, decide_true, decide_false, decide_eq_true_eq, decide_eq_false_iff_not, true_and, and_true, implies_true, and_self, ne_eq, not_true_eq_false, not_false_eq_true, false_implies, true_implies, eq_self, forall_const, Nat.reduceBEq, Nat.reduceEqDiff, Nat.reduceLT, Nat.reduceAdd, Nat.reduceSub, Nat.reduceLeDiff, Nat.reducePow, Int.reduceLT, Int.reduceLE, Int.reduceNeg, Int.reduceAdd, Int.reduceSub, Int.reducePow, Int.reduceToNat, Int.toNat_natCast, beq_self_eq_true, Bool.and_eq_true, Bool.or_eq_true]
  have hx : nIx w.length (k : Int) = some k := by rw [nIx_eq]; simp [ixOk_nat, ixN_nat, hk']
  exact ⟨k, w[k], hx, List.getElem?_eq_getElem hk', hp _ (List.getElem_mem hk'), ⟨d', List.getElem_mem hk', hd', rfl⟩⟩
theorem pick_str2 {T : List Fn} {it ip : Nat} (hT : T[it]? = some takeF) (hP : T[ip]? = some (pickF2 it)) (n : Nat) {w : List Nat} (hw : w ≠ []) (hc : w.length ≤ cap) {d : D} (hd : DOk d) : WpF (fns T (n + 2) ip [d, .str w]) (PQo (fun r => ∃ c ∈ w, r = .str [c]) (some (.str w))) := by
  have hl : 0 < w.length := List.length_pos_iff.mpr hw
  have hcap : cap = 1000000 := rfl
  refine fns_wp (c := pickC it) (ρ := [some d, some (.str w)]) hP rfl rfl rfl ?_
  unfold pickC
  simp -failIfUnchanged -implicitDefEqProofs only [↓gK0, ↓gKs, ↓setK0, ↓setKs, ↓setN0, ↓setNs, ↓setM0, ↓setMs, ↓clrK0, ↓clrKs, ↓bK_bl, ↓iK_int, ↓brK_true, ↓brK_false, ↓brK_dec, ↓brK_not, ↓brK_and, ↓w_ok, ↓w_var, ↓w_mv, ↓w_int, ↓w_str, ↓w_bl, ↓w_non, ↓w_neg, ↓w_bin, ↓w_cmp, ↓w_and, ↓w_or, ↓w_not, ↓w_ite, ↓w_tup, ↓w_lst, ↓w_nil, ↓w_con, ↓w_ix, ↓w_eo0, ↓w_eo1, ↓w_sl, ↓w_rev, ↓w_bi, ↓w_bi2, ↓w_bi3, ↓w_lcp, ↓w_cmp2, ↓w_tr1, ↓w_tr2, ↓w_lset, ↓w_sidx, ↓w_dcl, ↓w_dis, ↓w_join, ↓w_get, ↓w_ssn, ↓w_kill, ↓w_ssc, ↓nxt_nx, ↓nxt_rt, ↓nxt_bk, ↓nxt_ct, ↓w_set, ↓tsK0, ↓tsKs, ↓tgKv, ↓tgKt, ↓tupK_t, ↓w_tset, ↓w_aug, ↓gK_v, ↓gK_x, ↓setM_v, ↓setM_x, ↓atK0, ↓atKs, ↓atK0a, ↓atKsa, ↓w_pv, ↓w_px, ↓w_put, ↓lstK_l, ↓w_app, ↓lsK_l, ↓w_ext, ↓popK_appm, ↓popK_app, ↓popK_con, ↓w_pop, ↓w_ex, ↓w_ret, ↓w_retN, ↓w_brk, ↓w_cnt, ↓w_pass, ↓w_if, ↓w_an, ↓w_av, ↓w_ar, ↓takK0, ↓takKd, ↓takKr, ↓givK0, ↓givKd, ↓givKr, ↓w_call, ↓w_se, ↓w_s1, ↓w_s2, ↓w_s3, ↓w_sn, ↓w_for, ↓w_wh, ↓lpq_nx, ↓lpq_ct, ↓lpq_bk, ↓lpq_rt, ↓w_cn, ↓w_cs, ↓w_comp, ↓o_add, ↓o_sub, ↓o_adds, ↓o_addt, ↓o_addl, ↓o_mul, ↓o_muls, ↓o_mull, ↓o_div, ↓o_mod, ↓o_pow, ↓c_eq, ↓c_ne, ↓c_lt, ↓c_le, ↓c_gt, ↓c_ge, ↓c_eqs, ↓c_nes, ↓c_lts, ↓c_gts, ↓c_les, ↓c_ges, ↓c_neb, ↓c_eqb, ↓c_ins, ↓c_isn, ↓c_ntn, ↓t_bl, ↓t_int, ↓t_str, ↓t_non, ↓t_lst, ↓t_tup, ↓ixK_0, ↓ixK_1, ↓ixK_2, ↓ixK_3, ↓ixK_l1, ↓ixK_l2, ↓ixK_l3, ↓ixK_m1, ↓ixK_map, ↓x_str, ↓x_tup, ↓x_lst, ↓x_fls, ↓l_str, ↓l_tup, ↓l_lst, ↓r_str, ↓r_lst, ↓b_lens, ↓b_lenl, ↓b_lent, ↓b_lenf, ↓b_lend, ↓b_abs, ↓b_int, ↓b_intb, ↓b_tupt, ↓b_tupl, ↓b_lstt, ↓b_lstl, ↓b_lstf, ↓b_lstx, ↓s_set, ↓b_sum, ↓b_any, ↓b_all, ↓j_map, ↓i_str, ↓i_lst, ↓i_tup, ↓i_fls, ↓m_min, ↓m_max, ↓m_min3, ↓m_max3, ↓p_appn, ↓p_appl, ↓p_appi, ↓p_apps, ↓p_app0, ↓p_appc, ↓p_appa, ↓p_ext, ↓p_putm, ↓p_put0, ↓p_put1, ↓p_put2, ↓p_put3, ↓stepK_map, ↓posK_map, ↓end_rt, ↓end_nx, cond_true, cond_false, Option.isNone_none, n_add, n_addl, n_ladd, n_mul, n_sub0, n_ss, n_subt, n_sublt, n_lt, n_le, n_eq, n_0lt, n_1le, n_eq0, n_leb, n_geb, n_natAbs, sing_eq, safeB_none, safeB_nil, safeB_some, own_none, own_some, g_addi, g_adds, g_subi, g_muli, wrE, wrEs, wrEo, wrAs, wrSrc, wrP, wrS, wrSs, md, mdS, Tg.slots, Tgs.slots, P.root, small_ofNat, small_neg, pu_non, pu_bl, pu_int, pu_str, pu_tup, pu_fls, puL_nil, puL_con, puL_map, puL_app, puL_enum, isStr_str, isDct_dct, isNon_non, isNon_int, isNon_str, isNon_tup, isNon_lst, setAt0, setAt1, cut_to, cut_from, cut_ft, cut_tol, cut_froml, cut_all, cut_map, ixOk_nat, ixN_nat, ixOk_lit, ixN_lit, ixOk_m1, ixN_m1, List.nil_append, List.append_nil, List.cons_append, hasN, List.length_map, List.length_range, List.length_cons, List.length_nil, Bool.not_true, Bool.not_false, Bool.not_not, Bool.true_and, Bool.and_true, Bool.or_true, Bool.true_or, Bool.false_or, Bool.or_false, Bool.and_self, Bool.not_eq_true', Bool.false_eq_true, decide_true, decide_false, decide_eq_true_eq, decide_eq_false_iff_not, true_and, and_true, implies_true, and_self, ne_eq, not_true_eq_false, not_false_eq_true, false_implies, true_implies, eq_self, forall_const, Nat.reduceBEq, Nat.reduceEqDiff, Nat.reduceLT, Nat.reduceAdd, Nat.reduceSub, Nat.reduceLeDiff, Nat.reducePow, Int.reduceLT, Int.reduceLE, Int.reduceNeg, Int.reduceAdd, Int.reduceSub, Int.reducePow, Int.reduceToNat, Int.toNat_natCast, beq_self_eq_true, Bool.and_eq_true, Bool.or_eq_true]
  refine ⟨hc, wpf_mono (take_ok hT n (by omega) (by omega) hd) ?_⟩
  rintro r rs ⟨k, d', rfl, hk, hd', rfl⟩
  have hk' : k < w.length := by omega
  simp -failIfUnchanged -implicitDefEqProofs only [↓gK0, ↓gKs, ↓setK0, ↓setKs, ↓setN0, ↓setNs, ↓setM0, ↓setMs, ↓clrK0, ↓clrKs, ↓bK_bl, ↓iK_int, ↓brK_true, ↓brK_false, ↓brK_dec, ↓brK_not, ↓brK_and, ↓w_ok, ↓w_var, ↓w_mv, ↓w_int, ↓w_str, ↓w_bl, ↓w_non, ↓w_neg, ↓w_bin, ↓w_cmp, ↓w_and, ↓w_or, ↓w_not, ↓w_ite, ↓w_tup, ↓w_lst, ↓w_nil, ↓w_con, ↓w_ix, ↓w_eo0, ↓w_eo1, ↓w_sl, ↓w_rev, ↓w_bi, ↓w_bi2, ↓w_bi3, ↓w_lcp, ↓w_cmp2, ↓w_tr1, ↓w_tr2, ↓w_lset, ↓w_sidx, ↓w_dcl, ↓w_dis, ↓w_join, ↓w_get, ↓w_ssn, ↓w_kill, ↓w_ssc, ↓nxt_nx, ↓nxt_rt, ↓nxt_bk, ↓nxt_ct, ↓w_set, ↓tsK0, ↓tsKs, ↓tgKv, ↓tgKt, ↓tupK_t, ↓w_tset, ↓w_aug, ↓gK_v, ↓gK_x, ↓setM_v, ↓setM_x, ↓atK0, ↓atKs, ↓atK0a, ↓atKsa, ↓w_pv, ↓w_px, ↓w_put, ↓lstK_l, ↓w_app, ↓lsK_l, ↓w_ext, ↓popK_appm, ↓popK_app, ↓popK_con, ↓w_pop, ↓w_ex, ↓w_ret, ↓w_retN, ↓w_brk, ↓w_cnt, ↓w_pass, ↓w_if, ↓w_an, ↓w_av, ↓w_ar, ↓takK0, ↓takKd, ↓takKr, ↓givK0, ↓givKd, ↓givKr, ↓w_call, ↓w_se, ↓w_s1, ↓w_s2, ↓w_s3, ↓w_sn, ↓w_for, ↓w_wh, ↓lpq_nx, ↓lpq_ct, ↓lpq_bk, ↓lpq_rt, ↓w_cn, ↓w_cs, ↓w_comp, ↓o_add, ↓o_sub, ↓o_adds, ↓o_addt, ↓o_addl, ↓o_mul, ↓o_muls, ↓o_mull, ↓o_div, ↓o_mod, ↓o_pow, ↓c_eq, ↓c_ne, ↓c_lt, ↓c_le, ↓c_gt, ↓c_ge, ↓c_eqs, ↓c_nes, ↓c_lts, ↓c_gts, ↓c_les, ↓c_ges, ↓c_neb, ↓c_eqb, ↓c_ins, ↓c_isn, ↓c_ntn, ↓t_bl, ↓t_int, ↓t_str, ↓t_non, ↓t_lst, ↓t_tup, ↓ixK_0, ↓ixK_1, ↓ixK_2, ↓ixK_3, ↓ixK_l1, ↓ixK_l2, ↓ixK_l3, ↓ixK_m1, ↓ixK_map, ↓x_str, ↓x_tup, ↓x_lst, ↓x_fls, ↓l_str, ↓l_tup, ↓l_lst, ↓r_str, ↓r_lst, ↓b_lens, ↓b_lenl, ↓b_lent, ↓b_lenf, ↓b_lend, ↓b_abs, ↓b_int, ↓b_intb, ↓b_tupt, ↓b_tupl, ↓b_lstt, ↓b_lstl, ↓b_lstf, ↓b_lstx, ↓s_set, ↓b_sum, ↓b_any, ↓b_all, ↓j_map, ↓i_str, ↓i_lst, ↓i_tup, ↓i_fls, ↓m_min, ↓m_max, ↓m_min3, ↓m_max3, ↓p_appn, ↓p_appl, ↓p_appi, ↓p_apps, ↓p_app0, ↓p_appc, ↓p_appa, ↓p_ext, ↓p_putm, ↓p_put0, ↓p_put1, ↓p_put2, ↓p_put3, ↓stepK_map, ↓posK_map, ↓end_rt, ↓end_nx, cond_true, cond_false, Option.isNone_none, n_add, n_addl, n_ladd, n_mul, n_sub0, n_ss, n_subt, n_sublt, n_lt, n_le, n_eq, n_0lt, n_1le, n_eq0, n_leb, n_geb, n_natAbs, sing_eq, safeB_none, safeB_nil, safeB_some, own_none, own_some, g_addi, g_adds, g_subi, g_muli, wrE, wrEs, wrEo, wrAs, wrSrc, wrP, wrS, wrSs, md, mdS, Tg.slots, Tgs.slots, P.root, small_ofNat, small_neg, pu_non, pu_bl, pu_int, pu_str, pu_tup, pu_fls, puL_nil, puL_con, puL_map, puL_app, puL_enum, isStr_str, isDct_dct, isNon_non, isNon_int, isNon_str, isNon_tup, isNon_lst, setAt0, setAt1, cut_to, cut_from, cut_ft, cut_tol, cut_froml, cut_all, cut_map, ixOk_nat, ixN_nat, ixOk_lit, ixN_lit, ixOk_m1, ixN_m1, List.nil_append, List.append_nil, List.cons_append, hasN, List.length_map, List.length_range, List.length_cons, List.length_nil, Bool.not_true, Bool.not_false, Bool.not_not, Bool.true_and, Bool.and_true, Bool.or_true, Bool.true_or, Bool.false_or, Bool.or_false, Bool.and_self, Bool.not_eq_true', Bool.false_eq_true, decide_true, decide_false, decide_eq_true_eq, decide_eq_false_iff_not, true_and, and_true, implies_true, and_self, ne_eq, not_true_eq_false, not_false_eq_true, false_implies, true_implies, eq_self, forall_const, Nat.reduceBEq, Nat.reduceEqDiff, Nat.reduceLT, Nat.reduceAdd, Nat.reduceSub, Nat.reduceLeDiff, Nat.reducePow, Int.reduceLT, Int.reduceLE, Int.reduceNeg, Int.reduceAdd, Int.reduceSub, Int.reducePow, Int.reduceToNat, Int.toNat_natCast, beq_self_eq_true, Bool.and_eq_true, Bool.or_eq_true]
  refine ⟨⟨hc, hk'⟩, d', ⟨w[k], List.getElem_mem hk', ?_⟩, hd', rfl⟩
  simp [hk']
end Wk

/-! D2: comprehensions with draws, texts drawn, least of lists -/
namespace Wk
open G
section
variable {Γ : Fns} {ρ : Env} {Q : D → Env → Prop}
/-- a comprehension without a test that keeps J -/
theorem comp_draw {tg : Tg} {e : E} {xs : List D} (J : Env → Prop) (P : D → Prop) (hc : xs.length ≤ cap) (h0 : J ρ)
    (hs : ∀ x ∈ xs, ∀ ρ', J ρ' → ∃ ρ0, bindT tg x (clr ρ' tg.slots) = some ρ0 ∧ Wp (evE Γ e ρ0) fun d ρ2 => own (md e) d = true ∧ P d ∧ J ρ2)
    (q : ∀ ys ρ2, ys.length = xs.length → (∀ y ∈ ys, P y) → J ρ2 → Q (.lst ys) (bck ρ ρ2 tg.slots)) : CompW Γ tg .non e xs ρ Q := by
  refine ⟨hc, ?_⟩
  have main : ∀ (xs : List D) (ρ' : Env), J ρ' → (∀ x ∈ xs, ∀ ρ', J ρ' → ∃ ρ0, bindT tg x (clr ρ' tg.slots) = some ρ0 ∧ Wp (evE Γ e ρ0) fun d ρ2 => own (md e) d = true ∧ P d ∧ J ρ2) →
      Wp (compL (fun x ρ => bindT tg x (clr ρ tg.slots)) (fun ρ => evC Γ .non ρ) (fun ρ => (evE Γ e ρ).bd fun d ρ => if own (md e) d = true then .ok d ρ else .no) xs ρ') fun ys ρ2 => ys.length = xs.length ∧ (∀ y ∈ ys, P y) ∧ J ρ2 := by
    intro xs
    induction xs with
    | nil => intro ρ' h _; exact ⟨rfl, by simp, h⟩
    | cons x xs ih =>
      intro ρ' h hs
      obtain ⟨ρ0, hb, hw⟩ := hs x (by simp) ρ' h
      show Wp ((lift (bindT tg x (clr ρ' tg.slots)) ρ').bd _) _
      rw [hb, wp_bd, wp_some, wp_bd]
      simp only [evC, w_ok, if_true]
      rw [wp_bd, wp_bd]
      refine wp_mono hw ?_
      rintro d ρ2 ⟨o, p, j⟩
      rw [if_pos o, w_ok, wp_bd]
      refine wp_mono (ih ρ2 j fun y hy => hs y (by simp [hy])) ?_
      rintro ys ρ3 ⟨h1, h2, h3⟩
      rw [w_ok]
      refine ⟨by simp [h1], ?_, h3⟩
      intro y hy
      rcases List.mem_cons.mp hy with rfl | hy
      · exact p
      · exact h2 y hy
  refine wp_mono (main xs ρ h0 hs) ?_
  rintro ys ρ2 ⟨h1, h2, h3⟩
  exact q ys ρ2 h1 h2 h3
theorem chars_of {al : List Nat} : ∀ {ys : List D}, (∀ y ∈ ys, ∃ c ∈ al, y = .str [c]) → ∃ cs : List Nat, ys = cs.map (fun c => .str [c]) ∧ (∀ c ∈ cs, c ∈ al) ∧ cs.length = ys.length
  | [], _ => ⟨[], rfl, by simp, rfl⟩
  | y :: ys, h => by
    obtain ⟨c, hc, rfl⟩ := h y (by simp)
    obtain ⟨cs, rfl, h2, h3⟩ := chars_of (ys := ys) fun z hz => h z (List.mem_cons_of_mem _ hz)
    refine ⟨c :: cs, rfl, ?_, by simp⟩
    intro x hx
    rcases List.mem_cons.mp hx with rfl | hx
    · exact hc
    · exact h2 x hx
theorem flat_sing : ∀ (cs : List Nat), (cs.map fun c => [c]).flatten = cs
  | [] => rfl
  | c :: cs => by simp [flat_sing cs]
/-- signs joined -/
theorem j_chars {cs : List Nat} : Wp (lift (joinF (.str []) (.lst (cs.map fun c => D.str [c]))) ρ) Q = (cs.length ≤ cap ∧ Q (.str cs) ρ) := by
  rw [j_map, flat_sing]
theorem g_set {ρ : Env} {i : Nat} {x : Option D} (h : i < ρ.length) : g (ρ.set i x) i = x := by simp [g, h]
theorem g_set_ne {ρ : Env} {i j : Nat} {x : Option D} (h : i ≠ j) : g (ρ.set i x) j = g ρ j := by simp [g, List.getElem?_set_ne h]
theorem g_lt {ρ : Env} {i : Nat} {d : D} (h : g ρ i = some d) : i < ρ.length := by
  unfold g at h
  refine Nat.lt_of_not_le fun h2 => ?_
  rw [List.getElem?_eq_none h2] at h; cases h
theorem gK_of {ρ : Env} {i : Nat} {d : D} {Q : D → Prop} (h : g ρ i = some d) (q : Q d) : gK i ρ Q := ⟨d, h, q⟩
/-- a comprehension that draws signs -/
theorem comp_charsO {Γ : Fns} {ip : Nat} {al : List Nat} {mo : Option D} (hpk : ∀ d, DOk d → WpF (Γ ip [d, .str al]) (PQo (fun r => ∃ c ∈ al, r = .str [c]) mo)) {s i : Nat} (hsi : i ≠ s) {ρ : Env} {d : D} (hg : g ρ s = some d) (hi : i < ρ.length) (hd : DOk d) {xs : List D} (hx : xs.length ≤ cap) {Q : D → Env → Prop} (q : ∀ (cs : List Nat) (d' : D), cs.length = xs.length → (∀ c ∈ cs, c ∈ al) → DOk d' → setM s (some d') ρ (Q (.lst (cs.map fun c => .str [c])))) : CompW Γ (.v i) .non (.call ip (.ref s (.val (.str al) .nil))) xs ρ Q := by
  have hs := g_lt hg
  refine comp_draw (fun ρ' => ∃ d o, DOk d ∧ ρ' = (ρ.set s (some d)).set i o) (fun r => ∃ c ∈ al, r = .str [c]) hx ⟨d, g ρ i, hd, ?_⟩ ?_ ?_
  · have e1 : ρ.set s (some d) = ρ := by
      refine List.ext_getElem? fun j => ?_
      by_cases e : s = j
      · subst e
        rw [List.getElem?_set_self hs]
        unfold g at hg
        rw [List.getElem?_eq_getElem hs] at hg ⊢
        exact congrArg some hg.symm
      · rw [List.getElem?_set_ne e]
    rw [e1]
    refine List.ext_getElem? fun j => ?_
    by_cases e : i = j
    · subst e
      rw [List.getElem?_set_self hi]
      unfold g
      rw [List.getElem?_eq_getElem hi]; rfl
    · rw [List.getElem?_set_ne e]
  · rintro x _ ρ' ⟨d1, o, hd1, rfl⟩
    refine ⟨(ρ.set s (some d1)).set i (some x), ?_, ?_⟩
    · show (if i < (((ρ.set s (some d1)).set i o).set i none).length then some ((((ρ.set s (some d1)).set i o).set i none).set i (some x)) else none) = _
      rw [if_pos (by simpa using hi)]
      simp
    · have g1 : g ((ρ.set s (some d1)).set i (some x)) s = some d1 := by rw [g_set_ne hsi, g_set hs]
      rw [w_call, w_ar]
      refine gK_of g1 ?_
      rw [w_av, w_str]
      refine ⟨rfl, ?_⟩
      rw [w_an, takKr]
      refine gK_of g1 ?_
      show takK _ _ _
      rw [takKd, takK0]
      refine wpf_mono (hpk _ hd1) ?_
      rintro r rs ⟨d2, hr, hd2, rfl⟩
      rw [givKr]
      show givK _ _ _ _
      rw [givKd, givK0]
      refine ⟨rfl, hr, d2, some x, hd2, ?_⟩
      rw [List.set_set, List.set_comm _ _ hsi, List.set_set]
  · rintro ys ρ' hl hy ⟨d1, o, hd1, rfl⟩
    obtain ⟨cs, rfl, h2, h3⟩ := chars_of hy
    have := q cs d1 (by simpa using hl) h2 hd1
    unfold setM at this
    have e : bck ρ ((ρ.set s (some d1)).set i o) (Tg.slots (.v i)) = ρ.set s (some d1) := by
      show ((ρ.set s (some d1)).set i o).set i (g ρ i) = _
      rw [List.set_set]
      refine List.ext_getElem? fun j => ?_
      by_cases e : i = j
      · subst e
        rw [List.getElem?_set_self (by simpa using hi), List.getElem?_set_ne (Ne.symm hsi)]
        unfold g
        rw [List.getElem?_eq_getElem hi]; rfl
      · rw [List.getElem?_set_ne e]
    rw [e]; exact this
theorem comp_chars {T : List Fn} {it ip n : Nat} (hT : T[it]? = some takeF) (hP : T[ip]? = some (pickF it)) {al : List Nat} (h : al ≠ []) (hc : al.length ≤ 1000) {s i : Nat} (hsi : i ≠ s) {ρ : Env} {d : D} (hg : g ρ s = some d) (hi : i < ρ.length) (hd : DOk d) {xs : List D} (hx : xs.length ≤ cap) {Q : D → Env → Prop} (q : ∀ (cs : List Nat) (d' : D), cs.length = xs.length → (∀ c ∈ cs, c ∈ al) → DOk d' → setM s (some d') ρ (Q (.lst (cs.map fun c => .str [c])))) : CompW (fns T (n + 2)) (.v i) .non (.call ip (.ref s (.val (.str al) .nil))) xs ρ Q :=
  comp_charsO (mo := none) (fun d hd => pick_str hT hP n h (by unfold cap; omega) hd) hsi hg hi hd hx q
theorem comp_chars2 {T : List Fn} {it ip n : Nat} (hT : T[it]? = some takeF) (hP : T[ip]? = some (pickF2 it)) {al : List Nat} (h : al ≠ []) (hc : al.length ≤ 1000) {s i : Nat} (hsi : i ≠ s) {ρ : Env} {d : D} (hg : g ρ s = some d) (hi : i < ρ.length) (hd : DOk d) {xs : List D} (hx : xs.length ≤ cap) {Q : D → Env → Prop} (q : ∀ (cs : List Nat) (d' : D), cs.length = xs.length → (∀ c ∈ cs, c ∈ al) → DOk d' → setM s (some d') ρ (Q (.lst (cs.map fun c => .str [c])))) : CompW (fns T (n + 2)) (.v i) .non (.call ip (.ref s (.val (.str al) .nil))) xs ρ Q :=
  comp_charsO (fun d hd => pick_str2 hT hP n h (by unfold cap; omega) hd) hsi hg hi hd hx q
theorem filter_tt {α : Type} {l : List α} : l.filter (fun _ => true) = l := by simp
theorem mr_succ {α : Type} {f : Nat → α} {n : Nat} : (List.range (n + 1)).map f = (List.range n).map f ++ [f n] := by rw [List.range_succ, List.map_append]; rfl
/-! the least of a list -/
def mn {α : Type} (lt : α → α → Bool) (a b : α) : α := if lt b a = true then b else a
structure SO {α : Type} (lt : α → α → Bool) : Prop where
  irr : ∀ a, lt a a = false
  tr : ∀ a b c, lt a b = true → lt b c = true → lt a c = true
  tri : ∀ a b, lt a b = true ∨ a = b ∨ lt b a = true
theorem SO.le_tr {α : Type} {lt : α → α → Bool} (h : SO lt) {a b c : α} (h1 : lt b a = false) (h2 : lt c b = false) : lt c a = false := by
  rw [Bool.eq_false_iff]; intro h3
  rcases h.tri a b with e | e | e
  · have := h.tr _ _ _ h3 e; rw [this] at h2; cases h2
  · subst e; rw [h3] at h2; cases h2
  · rw [e] at h1; cases h1
theorem SO.asy {α : Type} {lt : α → α → Bool} (h : SO lt) {a b : α} (h1 : lt a b = true) : lt b a = false := by
  rw [Bool.eq_false_iff]; intro h2
  have := h.tr _ _ _ h1 h2; rw [h.irr] at this; cases this
theorem SO.anti {α : Type} {lt : α → α → Bool} (h : SO lt) {a b : α} (h1 : lt b a = false) (h2 : lt a b = false) : a = b := by
  rcases h.tri a b with e | e | e
  · rw [e] at h2; cases h2
  · exact e
  · rw [e] at h1; cases h1
theorem minL_map {α : Type} {f : α → D} {lt : α → α → Bool} (hl : ∀ a b, ltOk (f a) (f b) = true) (hd : ∀ a b, dlt (f a) (f b) = lt a b) : ∀ {l : List α} {b : α}, minL (f b) (l.map f) = some (f (l.foldl (mn lt) b))
  | [], b => rfl
  | x :: l, b => by
    show (if ltOk (f x) (f b) = true then (if dlt (f x) (f b) = true then minL (f x) (l.map f) else minL (f b) (l.map f)) else none) = _
    rw [if_pos (hl x b), hd, List.foldl_cons, minL_map hl hd, minL_map hl hd]
    unfold mn
    split <;> rfl
theorem fold_mn {α : Type} {lt : α → α → Bool} (h : SO lt) : ∀ {l : List α} {b : α}, (l.foldl (mn lt) b = b ∨ l.foldl (mn lt) b ∈ l) ∧ lt b (l.foldl (mn lt) b) = false ∧ ∀ s ∈ l, lt s (l.foldl (mn lt) b) = false
  | [], b => ⟨.inl rfl, h.irr b, by simp⟩
  | x :: l, b => by
    obtain ⟨h1, h2, h3⟩ := fold_mn h (l := l) (b := mn lt b x)
    rw [List.foldl_cons]
    have ml : lt b (mn lt b x) = false := by
      unfold mn; split
      · next e => exact h.asy e
      · exact h.irr b
    have mr : lt x (mn lt b x) = false := by
      unfold mn; split
      · exact h.irr x
      · next e => exact Bool.eq_false_iff.mpr e
    refine ⟨?_, h.le_tr h2 ml, fun s hs => ?_⟩
    · rcases h1 with h1 | h1
      · by_cases e : lt x b = true
        · right; rw [h1]; simp [mn, e]
        · left; rw [h1]; simp [mn, e]
      · right; simp [h1]
    · rcases List.mem_cons.mp hs with rfl | hs
      · exact h.le_tr h2 mr
      · exact h3 s hs
/-- pairs of numbers -/
def pairD (p : Int × Int) : D := .tup [.int p.1, .int p.2]
def pLt (p q : Int × Int) : Bool := if p.1 = q.1 then decide (p.2 < q.2) else decide (p.1 < q.1)
theorem so_pLt : SO pLt := by
  refine ⟨fun a => by simp [pLt], fun a b c h k => ?_, fun a b => ?_⟩
  · unfold pLt at *
    split at h <;> split at k <;> simp at h k
    · rw [if_pos (by omega)]; simp; omega
    · rw [if_neg (by omega)]; simp; omega
    · rw [if_neg (by omega)]; simp; omega
    · rw [if_neg (by omega)]; simp; omega
  · unfold pLt
    by_cases e : a.1 = b.1
    · rw [if_pos e, if_pos e.symm]
      by_cases e2 : a.2 = b.2
      · right; left; exact Prod.ext e e2
      · simp; omega
    · rw [if_neg e, if_neg (fun h => e h.symm)]
      simp; omega
theorem dlt_pair (p q : Int × Int) : dlt (pairD p) (pairD q) = pLt p q := by
  show (if (p.1 == q.1) = true then (if (p.2 == q.2) = true then false else decide (p.2 < q.2)) else decide (p.1 < q.1)) = _
  unfold pLt
  by_cases h : p.1 = q.1
  · simp only [h, beq_self_eq_true, if_true]
    by_cases h2 : p.2 = q.2
    · simp [h2]
    · simp [h2]
  · simp [h]
theorem minL_pair {l : List (Int × Int)} {b : Int × Int} : minL (pairD b) (l.map pairD) = some (pairD (l.foldl (mn pLt) b)) := minL_map (fun _ _ => rfl) dlt_pair
theorem dInts_ints {l : List Int} : dInts (l.map D.int) = some l := by
  have := dInts_map (f := fun i : Int => i) (l := l)
  rwa [List.map_id'] at this
/-- texts in lists -/
theorem nodL_map {α : Type} {f : α → D} (h : ∀ x, nod (f x) = true) : ∀ {l : List α}, nodL (l.map f) = true
  | [] => rfl
  | x :: l => by
    show (nod (f x) && nodL (l.map f)) = true
    rw [h, nodL_map h]; rfl
theorem anyEq_strs {x : List Nat} : ∀ {l : List (List Nat)}, anyEq (.str x) (l.map D.str) = decide (x ∈ l)
  | [] => rfl
  | y :: l => by
    show (decide (y = x) || anyEq (.str x) (l.map D.str)) = _
    rw [anyEq_strs]
    by_cases h : y = x
    · simp [h]
    · simp [h, Ne.symm h]
theorem in_strs {x : List Nat} {l : List (List Nat)} {QB : Bool → Env → Prop} : Wp (lift (cmpF .inn (.str x) (.lst (l.map D.str))) ρ) QB = QB (decide (x ∈ l)) ρ := by
  show Wp (lift (if eqOk (.str x) (.lst (l.map D.str)) = true then some _ else none) ρ) QB = _
  rw [if_pos, anyEq_strs]; rfl
  show (true && nodL (l.map D.str) && decide (min 0 _ ≤ 64)) = true
  rw [nodL_map (fun _ => rfl)]
  simp
/-! lists of alike data compared -/
structure Em {α : Type} [DecidableEq α] (m : Nat) (f : α → D) : Prop where
  q : ∀ x y, deq (f x) (f y) = decide (x = y)
  n : ∀ x, nod (f x) = true
  d : ∀ x, dep (f x) ≤ m
theorem deqL_map {α : Type} [DecidableEq α] {f : α → D} (h : ∀ x y, deq (f x) (f y) = decide (x = y)) : ∀ {a b : List α}, deqL (a.map f) (b.map f) = decide (a = b)
  | [], [] => rfl
  | [], _ :: _ => rfl
  | _ :: _, [] => rfl
  | x :: a, y :: b => by
    show (deq (f x) (f y) && deqL (a.map f) (b.map f)) = _
    rw [h, deqL_map h]
    by_cases e : x = y <;> by_cases e2 : a = b <;> simp [e, e2]
theorem depL_map {α : Type} {f : α → D} {m : Nat} (h : ∀ x, dep (f x) ≤ m) : ∀ {l : List α}, depL (l.map f) ≤ m
  | [] => Nat.zero_le _
  | x :: l => by
    show max (dep (f x)) (depL (l.map f)) ≤ m
    have := h x
    have := depL_map h (l := l)
    omega
theorem em_nat : Em 0 fun (k : Nat) => D.int k := ⟨fun x y => by show ((x : Int) == (y : Int)) = _; rw [Bool.eq_iff_iff]; simp; omega, fun _ => rfl, fun _ => Nat.le_refl _⟩
theorem em_int : Em 0 D.int := ⟨fun x y => by show ((x : Int) == (y : Int)) = _; rw [Bool.eq_iff_iff]; simp, fun _ => rfl, fun _ => Nat.le_refl _⟩
theorem em_str : Em 0 D.str := ⟨fun x y => rfl, fun _ => rfl, fun _ => Nat.le_refl _⟩
section
variable {α : Type} [DecidableEq α] {m : Nat} {f : α → D} {a b : List α} {QB : Bool → Env → Prop}
theorem Em.okl (h : Em m f) (hm : m ≤ 60) {a b : List α} : eqOk (.lst (a.map f)) (.lst (b.map f)) = true := by
  have := depL_map h.d (l := a)
  show (nodL _ && nodL _ && decide (min (depL _ + 1) (depL _ + 1) ≤ 64)) = true
  rw [nodL_map h.n, nodL_map h.n]
  simp; omega
theorem Em.okt (h : Em m f) (hm : m ≤ 60) {a b : List α} : eqOk (.tup (a.map f)) (.tup (b.map f)) = true := h.okl hm
theorem Em.nel (h : Em m f) (hm : m ≤ 60 := by decide) : Wp (lift (cmpF .ne (.lst (a.map f)) (.lst (b.map f))) ρ) QB = QB (!decide (a = b)) ρ := by
  show Wp (lift (if eqOk (.lst (a.map f)) (.lst (b.map f)) = true then some (!deqL (a.map f) (b.map f)) else none) ρ) QB = _
  rw [if_pos (h.okl hm), deqL_map h.q]; rfl
theorem Em.eql (h : Em m f) (hm : m ≤ 60 := by decide) : Wp (lift (cmpF .eq (.lst (a.map f)) (.lst (b.map f))) ρ) QB = QB (decide (a = b)) ρ := by
  show Wp (lift (if eqOk (.lst (a.map f)) (.lst (b.map f)) = true then some (deqL (a.map f) (b.map f)) else none) ρ) QB = _
  rw [if_pos (h.okl hm), deqL_map h.q]; rfl
theorem Em.net (h : Em m f) (hm : m ≤ 60 := by decide) : Wp (lift (cmpF .ne (.tup (a.map f)) (.tup (b.map f))) ρ) QB = QB (!decide (a = b)) ρ := by
  show Wp (lift (if eqOk (.tup (a.map f)) (.tup (b.map f)) = true then some (!deqL (a.map f) (b.map f)) else none) ρ) QB = _
  rw [if_pos (h.okt hm), deqL_map h.q]; rfl
theorem Em.eqt (h : Em m f) (hm : m ≤ 60 := by decide) : Wp (lift (cmpF .eq (.tup (a.map f)) (.tup (b.map f))) ρ) QB = QB (decide (a = b)) ρ := by
  show Wp (lift (if eqOk (.tup (a.map f)) (.tup (b.map f)) = true then some (deqL (a.map f) (b.map f)) else none) ρ) QB = _
  rw [if_pos (h.okt hm), deqL_map h.q]; rfl
end
theorem Em.tup {α : Type} [DecidableEq α] {m : Nat} {f : α → D} (h : Em m f) : Em (m + 1) fun l : List α => .tup (l.map f) :=
  ⟨fun _ _ => deqL_map h.q, fun _ => nodL_map h.n, fun _ => Nat.succ_le_succ (depL_map h.d)⟩
theorem Em.lst {α : Type} [DecidableEq α] {m : Nat} {f : α → D} (h : Em m f) : Em (m + 1) fun l : List α => .lst (l.map f) :=
  ⟨fun _ _ => deqL_map h.q, fun _ => nodL_map h.n, fun _ => Nat.succ_le_succ (depL_map h.d)⟩
theorem Em.eq {α : Type} [DecidableEq α] {m : Nat} {f : α → D} (h : Em m f) (hm : m ≤ 60 := by decide) {a b : α} {QB : Bool → Env → Prop} : Wp (lift (cmpF .eq (f a) (f b)) ρ) QB = QB (decide (a = b)) ρ := by
  show Wp (lift (if eqOk (f a) (f b) = true then some (deq (f a) (f b)) else none) ρ) QB = _
  have := h.d a
  rw [if_pos (by simp [eqOk, h.n]; omega), h.q]; rfl
theorem Em.ne {α : Type} [DecidableEq α] {m : Nat} {f : α → D} (h : Em m f) (hm : m ≤ 60 := by decide) {a b : α} {QB : Bool → Env → Prop} : Wp (lift (cmpF .ne (f a) (f b)) ρ) QB = QB (!decide (a = b)) ρ := by
  show Wp (lift (if eqOk (f a) (f b) = true then some (!deq (f a) (f b)) else none) ρ) QB = _
  have := h.d a
  rw [if_pos (by simp [eqOk, h.n]; omega), h.q]; rfl
/-! the greatest of a list -/
theorem b_maxn {l : List Nat} (h : l ≠ []) (q : ∀ m ∈ l, (∀ x ∈ l, x ≤ m) → Q (.int (m : Nat)) ρ) : Wp (lift (biF .max (.lst (l.map fun (k : Nat) => .int k))) ρ) Q := by
  show Wp (lift ((dInts (l.map fun (k : Nat) => D.int k)).bind fun is => is.max?.map D.int) ρ) Q
  rw [dInts_map (f := fun k : Nat => (k : Int))]
  have : ∃ m ∈ l, (∀ x ∈ l, x ≤ m) ∧ (l.map fun k : Nat => (k : Int)).max? = some (m : Int) := by
    cases e : (l.map fun k : Nat => (k : Int)).max? with
    | none =>
      rw [List.max?_eq_none_iff] at e
      exact absurd (List.map_eq_nil_iff.mp e) h
    | some v =>
      rw [List.max?_eq_some_iff] at e
      obtain ⟨h1, h2⟩ := e
      obtain ⟨m, hm, rfl⟩ := List.mem_map.mp h1
      exact ⟨m, hm, fun x hx => by have := h2 x (List.mem_map.mpr ⟨x, hx, rfl⟩); omega, rfl⟩
  obtain ⟨m, hm, hx, e⟩ := this
  show Wp (lift ((List.max? _).map D.int) ρ) Q
  rw [e]
  exact q m hm hx
/-! dicts of texts -/
theorem kIx_strs {x : List Nat} : ∀ {l : List (List Nat)}, (kIx (.str x) (l.map D.str)).isSome = decide (x ∈ l)
  | [] => rfl
  | y :: l => by
    show (if decide (y = x) = true then some 0 else (kIx (.str x) (l.map D.str)).map (· + 1)).isSome = _
    by_cases h : y = x
    · simp [h]
    · simp [h, Ne.symm h, kIx_strs]
theorem pairsD_strs {v : D} : ∀ {l : List (List Nat)} {ks : List (List Nat)} {vs : List D}, ∃ ks' vs', pairsD (ks.map D.str) vs (l.map fun r => .tup [.str r, v]) = some (List.map D.str ks', vs') ∧ ∀ r, r ∈ ks' ↔ r ∈ ks ∨ r ∈ l
  | [], ks, vs => ⟨ks, vs, rfl, fun r => by simp⟩
  | x :: l, ks, vs => by
    show ∃ ks' vs', pairsD (dput (ks.map D.str) vs (.str x) v).1 (dput (ks.map D.str) vs (.str x) v).2 (l.map fun r => .tup [.str r, v]) = some (List.map D.str ks', vs') ∧ _
    have hk := kIx_strs (x := x) (l := ks)
    unfold dput
    cases e : kIx (.str x) (ks.map D.str) with
    | some j =>
      rw [e] at hk
      obtain ⟨ks', vs', h1, h2⟩ := pairsD_strs (v := v) (l := l) (ks := ks) (vs := vs.set j v)
      refine ⟨ks', vs', h1, fun r => ?_⟩
      rw [h2, List.mem_cons]
      have hx : x ∈ ks := by simpa using hk.symm
      constructor
      · rintro (h | h)
        · exact .inl h
        · exact .inr (.inr h)
      · rintro (h | h | h)
        · exact .inl h
        · subst h; exact .inl hx
        · exact .inr h
    | none =>
      obtain ⟨ks', vs', h1, h2⟩ := pairsD_strs (v := v) (l := l) (ks := ks ++ [x]) (vs := vs ++ [v])
      rw [List.map_append] at h1
      refine ⟨ks', vs', h1, fun r => ?_⟩
      rw [h2, List.mem_cons, List.mem_append, List.mem_singleton, or_assoc]
theorem dict_strs {v : D} (hv : pu v = true) {l : List (List Nat)} (hl : l.length ≤ cap) (q : ∀ ks vs, (∀ r, r ∈ ks ↔ r ∈ l) → Q (.dct (List.map D.str ks) vs) ρ) : Wp (lift (biF .dict (.lst (l.map fun r => .tup [.str r, v]))) ρ) Q := by
  show Wp (lift (if (puL _ && decide (_ ≤ cap)) = true then (pairsD [] [] _).map _ else none) ρ) Q
  rw [if_pos]
  · obtain ⟨ks, vs, h1, h2⟩ := pairsD_strs (v := v) (l := l) (ks := []) (vs := [])
    rw [List.map_nil] at h1
    rw [h1]
    exact q ks vs fun r => by rw [h2]; simp
  · rw [puL_map fun x => by simp [pu, puL, hv]]
    simpa using hl
theorem in_dct {x : List Nat} {ks : List (List Nat)} {vs : List D} {QB : Bool → Env → Prop} : Wp (lift (cmpF .inn (.str x) (.dct (ks.map D.str) vs)) ρ) QB = QB (decide (x ∈ ks)) ρ := by
  show Wp (lift (some (kIx (.str x) (ks.map D.str)).isSome) ρ) QB = _
  rw [kIx_strs]; rfl
theorem c_neln {a b : List Nat} {QB : Bool → Env → Prop} : Wp (lift (cmpF .ne (.lst (a.map fun (k : Nat) => .int k)) (.lst (b.map fun (k : Nat) => .int k))) ρ) QB = QB (!decide (a = b)) ρ := em_nat.nel
theorem c_netn {a b : List Nat} {QB : Bool → Env → Prop} : Wp (lift (cmpF .ne (.tup (a.map fun (k : Nat) => .int k)) (.tup (b.map fun (k : Nat) => .int k))) ρ) QB = QB (!decide (a = b)) ρ := em_nat.net
end
end Wk

/-! N14: squares, counting of texts (k14) -/
namespace Wk
open G
abbrev Wrd := List Nat
/-- a square of s signs at a -/
def sqAt (w : Wrd) (a s : Nat) : Bool := decide ((w.drop a).take s = (w.drop (a + s)).take s)
def sqOk (w : Wrd) (a s : Nat) : Prop := 1 ≤ s ∧ a + 2 * s ≤ w.length ∧ sqAt w a s = true
instance {w : Wrd} {a s : Nat} : Decidable (sqOk w a s) := inferInstanceAs (Decidable (_ ∧ _ ∧ _))
/-- the first in a row of places -/
def FstIn (P : Nat → Prop) (n : Nat) (o : Option Nat) : Prop := match o with
  | none => ∀ k, k < n → ¬ P k
  | some k => k < n ∧ P k ∧ ∀ j, j < k → ¬ P j
theorem kIx_in {k : Wrd} : ∀ {l : List Wrd}, k ∈ l → ∃ j, kIx (.str k) (l.map D.str) = some j
  | x :: l, h => by
    by_cases e : x = k
    · exact ⟨0, by simp [kIx, deq, e]⟩
    · obtain ⟨j, hj⟩ := kIx_in (l := l) ((List.mem_cons.mp h).resolve_left fun z => e z.symm)
      exact ⟨j + 1, by simp [kIx, deq, e, hj]⟩
theorem kIx_no {k : Wrd} : ∀ {l : List Wrd}, k ∉ l → kIx (.str k) (l.map D.str) = none
  | [], _ => rfl
  | x :: l, h => by
    rw [List.mem_cons, not_or] at h
    have : ¬ x = k := fun z => h.1 z.symm
    simp [kIx, deq, this, kIx_no h.2]
theorem dc_fold {v : D} : ∀ (l acc : List Wrd) (vs : List D), ((l.map D.str).foldl (fun p k => dput p.1 p.2 k v) (acc.map D.str, vs)).1 = (l.foldl (fun acc k => if k ∈ acc then acc else acc ++ [k]) acc).map D.str
  | [], acc, vs => rfl
  | x :: l, acc, vs => by
    rw [List.map_cons, List.foldl_cons, List.foldl_cons]
    by_cases h : x ∈ acc
    · obtain ⟨j, hj⟩ := kIx_in h
      rw [if_pos h]
      show ((l.map D.str).foldl _ (dput (acc.map D.str) vs (.str x) v)).1 = _
      unfold dput
      rw [hj]
      exact dc_fold l acc _
    · rw [if_neg h]
      show ((l.map D.str).foldl _ (dput (acc.map D.str) vs (.str x) v)).1 = _
      unfold dput
      rw [kIx_no h]
      have := dc_fold (v := v) l (acc ++ [x]) (vs ++ [v])
      rw [List.map_append] at this
      exact this
theorem dc_strs {v : D} {l : List Wrd} : (dcF v (l.map D.str)).1 = (ddl l).map D.str := dc_fold l [] []
theorem keys_strs {α : Type} {f : α → Wrd} : ∀ {l : List α}, (l.map fun x => D.str (f x)).all isKey = true
  | [] => rfl
  | x :: l => by simp [isKey]
/-- the words of n signs, in order -/
def lvl (al : Wrd) : Nat → List Wrd
  | 0 => [[]]
  | n + 1 => (lvl al n).flatMap fun w => al.map fun c => w ++ [c]
def lvls (al : Wrd) : Nat → List Wrd
  | 0 => [[]]
  | n + 1 => lvls al n ++ lvl al (n + 1)
theorem fm_len {f : Wrd → List Wrd} {m : Nat} (h : ∀ w, (f w).length = m) : ∀ l : List Wrd, (l.flatMap f).length = l.length * m
  | [] => by simp
  | w :: l => by rw [List.flatMap_cons, List.length_append, h, fm_len h l, List.length_cons, Nat.succ_mul, Nat.add_comm]
theorem lvl_len {al : Wrd} : ∀ n, (lvl al n).length = al.length ^ n
  | 0 => rfl
  | n + 1 => by
    show ((lvl al n).flatMap _).length = _
    rw [fm_len (m := al.length) (fun w => by simp), lvl_len n, Nat.pow_succ]
theorem lvl_sz {al : Wrd} : ∀ {n : Nat} {w : Wrd}, w ∈ lvl al n → w.length = n
  | 0, w, h => by simp [lvl] at h; simp [h]
  | n + 1, w, h => by
    obtain ⟨u, hu, hw⟩ := List.mem_flatMap.mp h
    obtain ⟨c, _, rfl⟩ := List.mem_map.mp hw
    simp [lvl_sz hu]
theorem lvls_sz {al : Wrd} : ∀ {n : Nat} {w : Wrd}, w ∈ lvls al n → w.length ≤ n
  | 0, w, h => by simp [lvls] at h; simp [h]
  | n + 1, w, h => by
    rcases List.mem_append.mp h with h | h
    · have := lvls_sz h; omega
    · rw [lvl_sz h]; omega
theorem lvls_len {al : Wrd} {n : Nat} (ha : al.length ≤ 3) (hn : n ≤ 9) : (lvls al n).length ≤ (n + 1) * 19683 := by
  induction n with
  | zero => simp [lvls]
  | succ n ih =>
    show (lvls al n ++ lvl al (n + 1)).length ≤ _
    have h1 := ih (by omega)
    have h2 : al.length ^ (n + 1) ≤ 3 ^ 9 := Nat.le_trans (Nat.pow_le_pow_left ha _) (Nat.pow_le_pow_right (by omega) hn)
    rw [List.length_append, lvl_len]
    omega
/-- the parts of n signs of a word closed to a ring -/
def ringP (n : Nat) (w : Wrd) : List Wrd := (List.range w.length).map fun k => ((w ++ w.take (n - 1)).drop k).take n
def onceB (al : Wrd) (n : Nat) (w : Wrd) : Bool := decide (n ≤ w.length) && w.all (fun c => decide (c ∈ al)) && decide (w.length = al.length ^ n) && decide ((ddl (ringP n w)).length = al.length ^ n)
/-- the first square, if there is one -/
def Fst2 (w : Wrd) : Option (Nat × Nat) → Prop
  | none => ∀ a s, ¬ sqOk w a s
  | some (a, s) => sqOk w a s ∧ ∀ a' s', sqOk w a' s' → a < a' ∨ (a = a' ∧ s ≤ s')
theorem Fst2.uniq {w : Wrd} {o p : Option (Nat × Nat)} (h : Fst2 w o) (k : Fst2 w p) : o = p := by
  match o, p, h, k with
  | none, none, _, _ => rfl
  | none, some (a, s), h, k => exact absurd k.1 (h a s)
  | some (a, s), none, h, k => exact absurd h.1 (k a s)
  | some (a, s), some (b, t), h, k =>
    have h1 := h.2 b t k.1
    have h2 := k.2 a s h.1
    have e : a = b := by omega
    have e2 : s = t := by omega
    rw [e, e2]
def sqD : Option (Nat × Nat) → D
  | none => .non
  | some (a, s) => .tup [.int a, .int s]
end Wk

/-! S1: k14's defs, walked -/
namespace Wk
open G
open C_k14
theorem n_lmul {a b : Nat} : (no_index (OfNat.ofNat a) : Int) * (b : Int) = ((OfNat.ofNat a * b : Nat) : Int) := by
  rw [Int.natCast_mul]; rfl
theorem sl_sq {w : Wrd} {a s : Nat} : ((w.drop a).take (a + s - a) = (w.drop (a + s)).take (a + 2 * s - (a + s))) ↔ sqAt w a s = true := by
  rw [show a + s - a = s by omega, show a + 2 * s - (a + s) = s by omega]
  simp [sqAt]
theorem has_c {Γ : Fns} {w : Wrd} (hw : w.length ≤ 1000) : Wp (evSs Γ c0 [some (.str w), none, none]) (EndQ f0 fun r rs => rs = [none] ∧ ∃ o, Fst2 w o ∧ r = sqD o) := by
  have hc : w.length ≤ cap := by unfold cap; omega
  unfold c0
  simp -failIfUnchanged -implicitDefEqProofs only [↓gK0, ↓gKs, ↓setK0, ↓setKs, ↓setN0, ↓setNs, ↓setM0, ↓setMs, ↓clrK0, ↓clrKs, ↓bK_bl, ↓iK_int, ↓brK_true, ↓brK_false, ↓brK_dec, ↓brK_not, ↓brK_and, ↓w_ok, ↓w_var, ↓w_mv, ↓w_int, ↓w_str, ↓w_bl, ↓w_non, ↓w_neg, ↓w_bin, ↓w_cmp, ↓w_and, ↓w_or, ↓w_not, ↓w_ite, ↓w_tup, ↓w_lst, ↓w_nil, ↓w_con, ↓w_ix, ↓w_eo0, ↓w_eo1, ↓w_sl, ↓w_rev, ↓w_bi, ↓w_bi2, ↓w_bi3, ↓w_lcp, ↓w_cmp2, ↓w_tr1, ↓w_tr2, ↓w_lset, ↓w_sidx, ↓w_dcl, ↓w_dis, ↓w_join, ↓w_get, ↓w_ssn, ↓w_kill, ↓w_ssc, ↓nxt_nx, ↓nxt_rt, ↓nxt_bk, ↓nxt_ct, ↓w_set, ↓tsK0, ↓tsKs, ↓tgKv, ↓tgKt, ↓tupK_t, ↓w_tset, ↓w_aug, ↓gK_v, ↓gK_x, ↓setM_v, ↓setM_x, ↓atK0, ↓atKs, ↓atK0a, ↓atKsa, ↓w_pv, ↓w_px, ↓w_put, ↓lstK_l, ↓w_app, ↓lsK_l, ↓w_ext, ↓popK_appm, ↓popK_app, ↓popK_con, ↓w_pop, ↓w_ex, ↓w_ret, ↓w_retN, ↓w_brk, ↓w_cnt, ↓w_pass, ↓w_if, ↓w_an, ↓w_av, ↓w_ar, ↓takK0, ↓takKd, ↓takKr, ↓givK0, ↓givKd, ↓givKr, ↓w_call, ↓w_se, ↓w_s1, ↓w_s2, ↓w_s3, ↓w_sn, ↓w_for, ↓w_wh, ↓lpq_nx, ↓lpq_ct, ↓lpq_bk, ↓lpq_rt, ↓w_cn, ↓w_cs, ↓w_comp, ↓o_add, ↓o_sub, ↓o_adds, ↓o_addt, ↓o_addl, ↓o_mul, ↓o_muls, ↓o_mull, ↓o_div, ↓o_mod, ↓o_pow, ↓c_eq, ↓c_ne, ↓c_lt, ↓c_le, ↓c_gt, ↓c_ge, ↓c_eqs, ↓c_nes, ↓c_lts, ↓c_gts, ↓c_les, ↓c_ges, ↓c_neb, ↓c_eqb, ↓c_ins, ↓c_isn, ↓c_ntn, ↓t_bl, ↓t_int, ↓t_str, ↓t_non, ↓t_lst, ↓t_tup, ↓ixK_0, ↓ixK_1, ↓ixK_2, ↓ixK_3, ↓ixK_l1, ↓ixK_l2, ↓ixK_l3, ↓ixK_m1, ↓ixK_map, ↓x_str, ↓x_tup, ↓x_lst, ↓x_fls, ↓l_str, ↓l_tup, ↓l_lst, ↓r_str, ↓r_lst, ↓b_lens, ↓b_lenl, ↓b_lent, ↓b_lenf, ↓b_lend, ↓b_abs, ↓b_int, ↓b_intb, ↓b_tupt, ↓b_tupl, ↓b_lstt, ↓b_lstl, ↓b_lstf, ↓b_lstx, ↓s_set, ↓b_sum, ↓b_any, ↓b_all, ↓j_map, ↓i_str, ↓i_lst, ↓i_tup, ↓i_fls, ↓m_min, ↓m_max, ↓m_min3, ↓m_max3, ↓p_appn, ↓p_appl, ↓p_appi, ↓p_apps, ↓p_app0, ↓p_appc, ↓p_appa, ↓p_ext, ↓p_putm, ↓p_put0, ↓p_put1, ↓p_put2, ↓p_put3, ↓stepK_map, ↓posK_map, ↓end_rt, ↓end_nx, cond_true, cond_false, Option.isNone_none, n_add, n_addl, n_ladd, n_mul, n_sub0, n_ss, n_subt, n_sublt, n_lt, n_le, n_eq, n_0lt, n_1le, n_eq0, n_leb, n_geb, n_natAbs, sing_eq, safeB_none, safeB_nil, safeB_some, own_none, own_some, g_addi, g_adds, g_subi, g_muli, wrE, wrEs, wrEo, wrAs, wrSrc, wrP, wrS, wrSs, md, mdS, Tg.slots, Tgs.slots, P.root, small_ofNat, small_neg, pu_non, pu_bl, pu_int, pu_str, pu_tup, pu_fls, puL_nil, puL_con, puL_map, puL_app, puL_enum, isStr_str, isDct_dct, isNon_non, isNon_int, isNon_str, isNon_tup, isNon_lst, setAt0, setAt1, cut_to, cut_from, cut_ft, cut_tol, cut_froml, cut_all, cut_map, ixOk_nat, ixN_nat, ixOk_lit, ixN_lit, ixOk_m1, ixN_m1, List.nil_append, List.append_nil, List.cons_append, hasN, List.length_map, List.length_range, List.length_cons, List.length_nil, Bool.not_true, Bool.not_false, Bool.not_not, Bool.true_and, Bool.and_true, Bool.or_true, Bool.true_or, Bool.false_or, Bool.or_false, Bool.and_self, Bool.not_eq_true', Bool.false_eq_true, decide_true, decide_false, decide_eq_true_eq, decide_eq_false_iff_not, true_and, and_true, implies_true, and_self, ne_eq, not_true_eq_false, not_false_eq_true, false_implies, true_implies, eq_self, forall_const, Nat.reduceBEq, Nat.reduceEqDiff, Nat.reduceLT, Nat.reduceAdd, Nat.reduceSub, Nat.reduceLeDiff, Nat.reducePow, Int.reduceLT, Int.reduceLE, Int.reduceNeg, Int.reduceAdd, Int.reduceSub, Int.reducePow, Int.reduceToNat, Int.toNat_natCast, beq_self_eq_true, Bool.and_eq_true, Bool.or_eq_true]
  refine ⟨hc, by omega, for_range (fun k ρ => ρ = [some (.str w), none, none] ∧ ∀ a, a < k → ∀ s, ¬ sqOk w a s) ⟨rfl, fun a h => by omega⟩ ?_ ?_⟩
  · rintro ρ ⟨rfl, h⟩
    simp -failIfUnchanged -implicitDefEqProofs only [↓gK0, ↓gKs, ↓setK0, ↓setKs, ↓setN0, ↓setNs, ↓setM0, ↓setMs, ↓clrK0, ↓clrKs, ↓bK_bl, ↓iK_int, ↓brK_true, ↓brK_false, ↓brK_dec, ↓brK_not, ↓brK_and, ↓w_ok, ↓w_var, ↓w_mv, ↓w_int, ↓w_str, ↓w_bl, ↓w_non, ↓w_neg, ↓w_bin, ↓w_cmp, ↓w_and, ↓w_or, ↓w_not, ↓w_ite, ↓w_tup, ↓w_lst, ↓w_nil, ↓w_con, ↓w_ix, ↓w_eo0, ↓w_eo1, ↓w_sl, ↓w_rev, ↓w_bi, ↓w_bi2, ↓w_bi3, ↓w_lcp, ↓w_cmp2, ↓w_tr1, ↓w_tr2, ↓w_lset, ↓w_sidx, ↓w_dcl, ↓w_dis, ↓w_join, ↓w_get, ↓w_ssn, ↓w_kill, ↓w_ssc, ↓nxt_nx, ↓nxt_rt, ↓nxt_bk, ↓nxt_ct, ↓w_set, ↓tsK0, ↓tsKs, ↓tgKv, ↓tgKt, ↓tupK_t, ↓w_tset, ↓w_aug, ↓gK_v, ↓gK_x, ↓setM_v, ↓setM_x, ↓atK0, ↓atKs, ↓atK0a, ↓atKsa, ↓w_pv, ↓w_px, ↓w_put, ↓lstK_l, ↓w_app, ↓lsK_l, ↓w_ext, ↓popK_appm, ↓popK_app, ↓popK_con, ↓w_pop, ↓w_ex, ↓w_ret, ↓w_retN, ↓w_brk, ↓w_cnt, ↓w_pass, ↓w_if, ↓w_an, ↓w_av, ↓w_ar, ↓takK0, ↓takKd, ↓takKr, ↓givK0, ↓givKd, ↓givKr, ↓w_call, ↓w_se, ↓w_s1, ↓w_s2, ↓w_s3, ↓w_sn, ↓w_for, ↓w_wh, ↓lpq_nx, ↓lpq_ct, ↓lpq_bk, ↓lpq_rt, ↓w_cn, ↓w_cs, ↓w_comp, ↓o_add, ↓o_sub, ↓o_adds, ↓o_addt, ↓o_addl, ↓o_mul, ↓o_muls, ↓o_mull, ↓o_div, ↓o_mod, ↓o_pow, ↓c_eq, ↓c_ne, ↓c_lt, ↓c_le, ↓c_gt, ↓c_ge, ↓c_eqs, ↓c_nes, ↓c_lts, ↓c_gts, ↓c_les, ↓c_ges, ↓c_neb, ↓c_eqb, ↓c_ins, ↓c_isn, ↓c_ntn, ↓t_bl, ↓t_int, ↓t_str, ↓t_non, ↓t_lst, ↓t_tup, ↓ixK_0, ↓ixK_1, ↓ixK_2, ↓ixK_3, ↓ixK_l1, ↓ixK_l2, ↓ixK_l3, ↓ixK_m1, ↓ixK_map, ↓x_str, ↓x_tup, ↓x_lst, ↓x_fls, ↓l_str, ↓l_tup, ↓l_lst, ↓r_str, ↓r_lst, ↓b_lens, ↓b_lenl, ↓b_lent, ↓b_lenf, ↓b_lend, ↓b_abs, ↓b_int, ↓b_intb, ↓b_tupt, ↓b_tupl, ↓b_lstt, ↓b_lstl, ↓b_lstf, ↓b_lstx, ↓s_set, ↓b_sum, ↓b_any, ↓b_all, ↓j_map, ↓i_str, ↓i_lst, ↓i_tup, ↓i_fls, ↓m_min, ↓m_max, ↓m_min3, ↓m_max3, ↓p_appn, ↓p_appl, ↓p_appi, ↓p_apps, ↓p_app0, ↓p_appc, ↓p_appa, ↓p_ext, ↓p_putm, ↓p_put0, ↓p_put1, ↓p_put2, ↓p_put3, ↓stepK_map, ↓posK_map, ↓end_rt, ↓end_nx, cond_true, cond_false, Option.isNone_none, n_add, n_addl, n_ladd, n_mul, n_sub0, n_ss, n_subt, n_sublt, n_lt, n_le, n_eq, n_0lt, n_1le, n_eq0, n_leb, n_geb, n_natAbs, sing_eq, safeB_none, safeB_nil, safeB_some, own_none, own_some, g_addi, g_adds, g_subi, g_muli, wrE, wrEs, wrEo, wrAs, wrSrc, wrP, wrS, wrSs, md, mdS, Tg.slots, Tgs.slots, P.root, small_ofNat, small_neg, pu_non, pu_bl, pu_int, pu_str, pu_tup, pu_fls, puL_nil, puL_con, puL_map, puL_app, puL_enum, isStr_str, isDct_dct, isNon_non, isNon_int, isNon_str, isNon_tup, isNon_lst, setAt0, setAt1, cut_to, cut_from, cut_ft, cut_tol, cut_froml, cut_all, cut_map, ixOk_nat, ixN_nat, ixOk_lit, ixN_lit, ixOk_m1, ixN_m1, List.nil_append, List.append_nil, List.cons_append, hasN, List.length_map, List.length_range, List.length_cons, List.length_nil, Bool.not_true, Bool.not_false, Bool.not_not, Bool.true_and, Bool.and_true, Bool.or_true, Bool.true_or, Bool.false_or, Bool.or_false, Bool.and_self, Bool.not_eq_true', Bool.false_eq_true, decide_true, decide_false, decide_eq_true_eq, decide_eq_false_iff_not, true_and, and_true, implies_true, and_self, ne_eq, not_true_eq_false, not_false_eq_true, false_implies, true_implies, eq_self, forall_const, Nat.reduceBEq, Nat.reduceEqDiff, Nat.reduceLT, Nat.reduceAdd, Nat.reduceSub, Nat.reduceLeDiff, Nat.reducePow, Int.reduceLT, Int.reduceLE, Int.reduceNeg, Int.reduceAdd, Int.reduceSub, Int.reducePow, Int.reduceToNat, Int.toNat_natCast, beq_self_eq_true, Bool.and_eq_true, Bool.or_eq_true]
    refine ⟨rfl, none, fun a s q => h a ?_ s q, rfl⟩
    obtain ⟨q1, q2, _⟩ := q
    omega
  · rintro a ha ρ ⟨rfl, h⟩
    simp -failIfUnchanged -implicitDefEqProofs only [↓gK0, ↓gKs, ↓setK0, ↓setKs, ↓setN0, ↓setNs, ↓setM0, ↓setMs, ↓clrK0, ↓clrKs, ↓bK_bl, ↓iK_int, ↓brK_true, ↓brK_false, ↓brK_dec, ↓brK_not, ↓brK_and, ↓w_ok, ↓w_var, ↓w_mv, ↓w_int, ↓w_str, ↓w_bl, ↓w_non, ↓w_neg, ↓w_bin, ↓w_cmp, ↓w_and, ↓w_or, ↓w_not, ↓w_ite, ↓w_tup, ↓w_lst, ↓w_nil, ↓w_con, ↓w_ix, ↓w_eo0, ↓w_eo1, ↓w_sl, ↓w_rev, ↓w_bi, ↓w_bi2, ↓w_bi3, ↓w_lcp, ↓w_cmp2, ↓w_tr1, ↓w_tr2, ↓w_lset, ↓w_sidx, ↓w_dcl, ↓w_dis, ↓w_join, ↓w_get, ↓w_ssn, ↓w_kill, ↓w_ssc, ↓nxt_nx, ↓nxt_rt, ↓nxt_bk, ↓nxt_ct, ↓w_set, ↓tsK0, ↓tsKs, ↓tgKv, ↓tgKt, ↓tupK_t, ↓w_tset, ↓w_aug, ↓gK_v, ↓gK_x, ↓setM_v, ↓setM_x, ↓atK0, ↓atKs, ↓atK0a, ↓atKsa, ↓w_pv, ↓w_px, ↓w_put, ↓lstK_l, ↓w_app, ↓lsK_l, ↓w_ext, ↓popK_appm, ↓popK_app, ↓popK_con, ↓w_pop, ↓w_ex, ↓w_ret, ↓w_retN, ↓w_brk, ↓w_cnt, ↓w_pass, ↓w_if, ↓w_an, ↓w_av, ↓w_ar, ↓takK0, ↓takKd, ↓takKr, ↓givK0, ↓givKd, ↓givKr, ↓w_call, ↓w_se, ↓w_s1, ↓w_s2, ↓w_s3, ↓w_sn, ↓w_for, ↓w_wh, ↓lpq_nx, ↓lpq_ct, ↓lpq_bk, ↓lpq_rt, ↓w_cn, ↓w_cs, ↓w_comp, ↓o_add, ↓o_sub, ↓o_adds, ↓o_addt, ↓o_addl, ↓o_mul, ↓o_muls, ↓o_mull, ↓o_div, ↓o_mod, ↓o_pow, ↓c_eq, ↓c_ne, ↓c_lt, ↓c_le, ↓c_gt, ↓c_ge, ↓c_eqs, ↓c_nes, ↓c_lts, ↓c_gts, ↓c_les, ↓c_ges, ↓c_neb, ↓c_eqb, ↓c_ins, ↓c_isn, ↓c_ntn, ↓t_bl, ↓t_int, ↓t_str, ↓t_non, ↓t_lst, ↓t_tup, ↓ixK_0, ↓ixK_1, ↓ixK_2, ↓ixK_3, ↓ixK_l1, ↓ixK_l2, ↓ixK_l3, ↓ixK_m1, ↓ixK_map, ↓x_str, ↓x_tup, ↓x_lst, ↓x_fls, ↓l_str, ↓l_tup, ↓l_lst, ↓r_str, ↓r_lst, ↓b_lens, ↓b_lenl, ↓b_lent, ↓b_lenf, ↓b_lend, ↓b_abs, ↓b_int, ↓b_intb, ↓b_tupt, ↓b_tupl, ↓b_lstt, ↓b_lstl, ↓b_lstf, ↓b_lstx, ↓s_set, ↓b_sum, ↓b_any, ↓b_all, ↓j_map, ↓i_str, ↓i_lst, ↓i_tup, ↓i_fls, ↓m_min, ↓m_max, ↓m_min3, ↓m_max3, ↓p_appn, ↓p_appl, ↓p_appi, ↓p_apps, ↓p_app0, ↓p_appc, ↓p_appa, ↓p_ext, ↓p_putm, ↓p_put0, ↓p_put1, ↓p_put2, ↓p_put3, ↓stepK_map, ↓posK_map, ↓end_rt, ↓end_nx, cond_true, cond_false, Option.isNone_none, n_add, n_addl, n_ladd, n_mul, n_sub0, n_ss, n_subt, n_sublt, n_lt, n_le, n_eq, n_0lt, n_1le, n_eq0, n_leb, n_geb, n_natAbs, sing_eq, safeB_none, safeB_nil, safeB_some, own_none, own_some, g_addi, g_adds, g_subi, g_muli, wrE, wrEs, wrEo, wrAs, wrSrc, wrP, wrS, wrSs, md, mdS, Tg.slots, Tgs.slots, P.root, small_ofNat, small_neg, pu_non, pu_bl, pu_int, pu_str, pu_tup, pu_fls, puL_nil, puL_con, puL_map, puL_app, puL_enum, isStr_str, isDct_dct, isNon_non, isNon_int, isNon_str, isNon_tup, isNon_lst, setAt0, setAt1, cut_to, cut_from, cut_ft, cut_tol, cut_froml, cut_all, cut_map, ixOk_nat, ixN_nat, ixOk_lit, ixN_lit, ixOk_m1, ixN_m1, List.nil_append, List.append_nil, List.cons_append, hasN, List.length_map, List.length_range, List.length_cons, List.length_nil, Bool.not_true, Bool.not_false, Bool.not_not, Bool.true_and, Bool.and_true, Bool.or_true, Bool.true_or, Bool.false_or, Bool.or_false, Bool.and_self, Bool.not_eq_true', Bool.false_eq_true, decide_true, decide_false, decide_eq_true_eq, decide_eq_false_iff_not, true_and, and_true, implies_true, and_self, ne_eq, not_true_eq_false, not_false_eq_true, false_implies, true_implies, eq_self, forall_const, Nat.reduceBEq, Nat.reduceEqDiff, Nat.reduceLT, Nat.reduceAdd, Nat.reduceSub, Nat.reduceLeDiff, Nat.reducePow, Int.reduceLT, Int.reduceLE, Int.reduceNeg, Int.reduceAdd, Int.reduceSub, Int.reducePow, Int.reduceToNat, Int.toNat_natCast, beq_self_eq_true, Bool.and_eq_true, Bool.or_eq_true]
    refine ⟨hc, by omega, for_range (fun j ρ => ρ = [some (.str w), some (.int a), none] ∧ ∀ s, s ≤ j → ¬ sqOk w a s) ⟨rfl, fun s h q => by have := q.1; omega⟩ ?_ ?_⟩
    · rintro ρ ⟨rfl, h2⟩
      simp -failIfUnchanged -implicitDefEqProofs only [↓gK0, ↓gKs, ↓setK0, ↓setKs, ↓setN0, ↓setNs, ↓setM0, ↓setMs, ↓clrK0, ↓clrKs, ↓bK_bl, ↓iK_int, ↓brK_true, ↓brK_false, ↓brK_dec, ↓brK_not, ↓brK_and, ↓w_ok, ↓w_var, ↓w_mv, ↓w_int, ↓w_str, ↓w_bl, ↓w_non, ↓w_neg, ↓w_bin, ↓w_cmp, ↓w_and, ↓w_or, ↓w_not, ↓w_ite, ↓w_tup, ↓w_lst, ↓w_nil, ↓w_con, ↓w_ix, ↓w_eo0, ↓w_eo1, ↓w_sl, ↓w_rev, ↓w_bi, ↓w_bi2, ↓w_bi3, ↓w_lcp, ↓w_cmp2, ↓w_tr1, ↓w_tr2, ↓w_lset, ↓w_sidx, ↓w_dcl, ↓w_dis, ↓w_join, ↓w_get, ↓w_ssn, ↓w_kill, ↓w_ssc, ↓nxt_nx, ↓nxt_rt, ↓nxt_bk, ↓nxt_ct, ↓w_set, ↓tsK0, ↓tsKs, ↓tgKv, ↓tgKt, ↓tupK_t, ↓w_tset, ↓w_aug, ↓gK_v, ↓gK_x, ↓setM_v, ↓setM_x, ↓atK0, ↓atKs, ↓atK0a, ↓atKsa, ↓w_pv, ↓w_px, ↓w_put, ↓lstK_l, ↓w_app, ↓lsK_l, ↓w_ext, ↓popK_appm, ↓popK_app, ↓popK_con, ↓w_pop, ↓w_ex, ↓w_ret, ↓w_retN, ↓w_brk, ↓w_cnt, ↓w_pass, ↓w_if, ↓w_an, ↓w_av, ↓w_ar, ↓takK0, ↓takKd, ↓takKr, ↓givK0, ↓givKd, ↓givKr, ↓w_call, ↓w_se, ↓w_s1, ↓w_s2, ↓w_s3, ↓w_sn, ↓w_for, ↓w_wh, ↓lpq_nx, ↓lpq_ct, ↓lpq_bk, ↓lpq_rt, ↓w_cn, ↓w_cs, ↓w_comp, ↓o_add, ↓o_sub, ↓o_adds, ↓o_addt, ↓o_addl, ↓o_mul, ↓o_muls, ↓o_mull, ↓o_div, ↓o_mod, ↓o_pow, ↓c_eq, ↓c_ne, ↓c_lt, ↓c_le, ↓c_gt, ↓c_ge, ↓c_eqs, ↓c_nes, ↓c_lts, ↓c_gts, ↓c_les, ↓c_ges, ↓c_neb, ↓c_eqb, ↓c_ins, ↓c_isn, ↓c_ntn, ↓t_bl, ↓t_int, ↓t_str, ↓t_non, ↓t_lst, ↓t_tup, ↓ixK_0, ↓ixK_1, ↓ixK_2, ↓ixK_3, ↓ixK_l1, ↓ixK_l2, ↓ixK_l3, ↓ixK_m1, ↓ixK_map, ↓x_str, ↓x_tup, ↓x_lst, ↓x_fls, ↓l_str, ↓l_tup, ↓l_lst, ↓r_str, ↓r_lst, ↓b_lens, ↓b_lenl, ↓b_lent, ↓b_lenf, ↓b_lend, ↓b_abs, ↓b_int, ↓b_intb, ↓b_tupt, ↓b_tupl, ↓b_lstt, ↓b_lstl, ↓b_lstf, ↓b_lstx, ↓s_set, ↓b_sum, ↓b_any, ↓b_all, ↓j_map, ↓i_str, ↓i_lst, ↓i_tup, ↓i_fls, ↓m_min, ↓m_max, ↓m_min3, ↓m_max3, ↓p_appn, ↓p_appl, ↓p_appi, ↓p_apps, ↓p_app0, ↓p_appc, ↓p_appa, ↓p_ext, ↓p_putm, ↓p_put0, ↓p_put1, ↓p_put2, ↓p_put3, ↓stepK_map, ↓posK_map, ↓end_rt, ↓end_nx, cond_true, cond_false, Option.isNone_none, n_add, n_addl, n_ladd, n_mul, n_sub0, n_ss, n_subt, n_sublt, n_lt, n_le, n_eq, n_0lt, n_1le, n_eq0, n_leb, n_geb, n_natAbs, sing_eq, safeB_none, safeB_nil, safeB_some, own_none, own_some, g_addi, g_adds, g_subi, g_muli, wrE, wrEs, wrEo, wrAs, wrSrc, wrP, wrS, wrSs, md, mdS, Tg.slots, Tgs.slots, P.root, small_ofNat, small_neg, pu_non, pu_bl, pu_int, pu_str, pu_tup, pu_fls, puL_nil, puL_con, puL_map, puL_app, puL_enum, isStr_str, isDct_dct, isNon_non, isNon_int, isNon_str, isNon_tup, isNon_lst, setAt0, setAt1, cut_to, cut_from, cut_ft, cut_tol, cut_froml, cut_all, cut_map, ixOk_nat, ixN_nat, ixOk_lit, ixN_lit, ixOk_m1, ixN_m1, List.nil_append, List.append_nil, List.cons_append, hasN, List.length_map, List.length_range, List.length_cons, List.length_nil, Bool.not_true, Bool.not_false, Bool.not_not, Bool.true_and, Bool.and_true, Bool.or_true, Bool.true_or, Bool.false_or, Bool.or_false, Bool.and_self, Bool.not_eq_true', Bool.false_eq_true, decide_true, decide_false, decide_eq_true_eq, decide_eq_false_iff_not, true_and, and_true, implies_true, and_self, ne_eq, not_true_eq_false, not_false_eq_true, false_implies, true_implies, eq_self, forall_const, Nat.reduceBEq, Nat.reduceEqDiff, Nat.reduceLT, Nat.reduceAdd, Nat.reduceSub, Nat.reduceLeDiff, Nat.reducePow, Int.reduceLT, Int.reduceLE, Int.reduceNeg, Int.reduceAdd, Int.reduceSub, Int.reducePow, Int.reduceToNat, Int.toNat_natCast, beq_self_eq_true, Bool.and_eq_true, Bool.or_eq_true]
      refine fun b hb s q => ?_
      by_cases e : b = a
      · subst e
        obtain ⟨q1, q2, q3⟩ := q
        exact h2 s (by omega) ⟨q1, q2, q3⟩
      · exact h b (by omega) s q
    · rintro j hj ρ ⟨rfl, h2⟩
      simp -failIfUnchanged -implicitDefEqProofs only [n_lmul, ↓gK0, ↓gKs, ↓setK0, ↓setKs, ↓setN0, ↓setNs, ↓setM0, ↓setMs, ↓clrK0, ↓clrKs, ↓bK_bl, ↓iK_int, ↓brK_true, ↓brK_false, ↓brK_dec, ↓brK_not, ↓brK_and, ↓w_ok, ↓w_var, ↓w_mv, ↓w_int, ↓w_str, ↓w_bl, ↓w_non, ↓w_neg, ↓w_bin, ↓w_cmp, ↓w_and, ↓w_or, ↓w_not, ↓w_ite, ↓w_tup, ↓w_lst, ↓w_nil, ↓w_con, ↓w_ix, ↓w_eo0, ↓w_eo1, ↓w_sl, ↓w_rev, ↓w_bi, ↓w_bi2, ↓w_bi3, ↓w_lcp, ↓w_cmp2, ↓w_tr1, ↓w_tr2, ↓w_lset, ↓w_sidx, ↓w_dcl, ↓w_dis, ↓w_join, ↓w_get, ↓w_ssn, ↓w_kill, ↓w_ssc, ↓nxt_nx, ↓nxt_rt, ↓nxt_bk, ↓nxt_ct, ↓w_set, ↓tsK0, ↓tsKs, ↓tgKv, ↓tgKt, ↓tupK_t, ↓w_tset, ↓w_aug, ↓gK_v, ↓gK_x, ↓setM_v, ↓setM_x, ↓atK0, ↓atKs, ↓atK0a, ↓atKsa, ↓w_pv, ↓w_px, ↓w_put, ↓lstK_l, ↓w_app, ↓lsK_l, ↓w_ext, ↓popK_appm, ↓popK_app, ↓popK_con, ↓w_pop, ↓w_ex, ↓w_ret, ↓w_retN, ↓w_brk, ↓w_cnt, ↓w_pass, ↓w_if, ↓w_an, ↓w_av, ↓w_ar, ↓takK0, ↓takKd, ↓takKr, ↓givK0, ↓givKd, ↓givKr, ↓w_call, ↓w_se, ↓w_s1, ↓w_s2, ↓w_s3, ↓w_sn, ↓w_for, ↓w_wh, ↓lpq_nx, ↓lpq_ct, ↓lpq_bk, ↓lpq_rt, ↓w_cn, ↓w_cs, ↓w_comp, ↓o_add, ↓o_sub, ↓o_adds, ↓o_addt, ↓o_addl, ↓o_mul, ↓o_muls, ↓o_mull, ↓o_div, ↓o_mod, ↓o_pow, ↓c_eq, ↓c_ne, ↓c_lt, ↓c_le, ↓c_gt, ↓c_ge, ↓c_eqs, ↓c_nes, ↓c_lts, ↓c_gts, ↓c_les, ↓c_ges, ↓c_neb, ↓c_eqb, ↓c_ins, ↓c_isn, ↓c_ntn, ↓t_bl, ↓t_int, ↓t_str, ↓t_non, ↓t_lst, ↓t_tup, ↓ixK_0, ↓ixK_1, ↓ixK_2, ↓ixK_3, ↓ixK_l1, ↓ixK_l2, ↓ixK_l3, ↓ixK_m1, ↓ixK_map, ↓x_str, ↓x_tup, ↓x_lst, ↓x_fls, ↓l_str, ↓l_tup, ↓l_lst, ↓r_str, ↓r_lst, ↓b_lens, ↓b_lenl, ↓b_lent, ↓b_lenf, ↓b_lend, ↓b_abs, ↓b_int, ↓b_intb, ↓b_tupt, ↓b_tupl, ↓b_lstt, ↓b_lstl, ↓b_lstf, ↓b_lstx, ↓s_set, ↓b_sum, ↓b_any, ↓b_all, ↓j_map, ↓i_str, ↓i_lst, ↓i_tup, ↓i_fls, ↓m_min, ↓m_max, ↓m_min3, ↓m_max3, ↓p_appn, ↓p_appl, ↓p_appi, ↓p_apps, ↓p_app0, ↓p_appc, ↓p_appa, ↓p_ext, ↓p_putm, ↓p_put0, ↓p_put1, ↓p_put2, ↓p_put3, ↓stepK_map, ↓posK_map, ↓end_rt, ↓end_nx, cond_true, cond_false, Option.isNone_none, n_add, n_addl, n_ladd, n_mul, n_sub0, n_ss, n_subt, n_sublt, n_lt, n_le, n_eq, n_0lt, n_1le, n_eq0, n_leb, n_geb, n_natAbs, sing_eq, safeB_none, safeB_nil, safeB_some, own_none, own_some, g_addi, g_adds, g_subi, g_muli, wrE, wrEs, wrEo, wrAs, wrSrc, wrP, wrS, wrSs, md, mdS, Tg.slots, Tgs.slots, P.root, small_ofNat, small_neg, pu_non, pu_bl, pu_int, pu_str, pu_tup, pu_fls, puL_nil, puL_con, puL_map, puL_app, puL_enum, isStr_str, isDct_dct, isNon_non, isNon_int, isNon_str, isNon_tup, isNon_lst, setAt0, setAt1, cut_to, cut_from, cut_ft, cut_tol, cut_froml, cut_all, cut_map, ixOk_nat, ixN_nat, ixOk_lit, ixN_lit, ixOk_m1, ixN_m1, List.nil_append, List.append_nil, List.cons_append, hasN, List.length_map, List.length_range, List.length_cons, List.length_nil, Bool.not_true, Bool.not_false, Bool.not_not, Bool.true_and, Bool.and_true, Bool.or_true, Bool.true_or, Bool.false_or, Bool.or_false, Bool.and_self, Bool.not_eq_true', Bool.false_eq_true, decide_true, decide_false, decide_eq_true_eq, decide_eq_false_iff_not, true_and, and_true, implies_true, and_self, ne_eq, not_true_eq_false, not_false_eq_true, false_implies, true_implies, eq_self, forall_const, Nat.reduceBEq, Nat.reduceEqDiff, Nat.reduceLT, Nat.reduceAdd, Nat.reduceSub, Nat.reduceLeDiff, Nat.reducePow, Int.reduceLT, Int.reduceLE, Int.reduceNeg, Int.reduceAdd, Int.reduceSub, Int.reducePow, Int.reduceToNat, Int.toNat_natCast, beq_self_eq_true, Bool.and_eq_true, Bool.or_eq_true]
      have hlen : a + 2 * (1 + j) ≤ w.length := by omega
      refine ⟨hc, hc, fun e => ⟨rfl, some (a, 1 + j), ⟨⟨by omega, hlen, sl_sq.mp e⟩, fun b t q => ?_⟩, rfl⟩, fun e s hs q => ?_⟩
      · by_cases h3 : b < a
        · exact absurd q (h b h3 t)
        · by_cases h4 : a < b
          · exact .inl h4
          · refine .inr ⟨by omega, ?_⟩
            have e : b = a := by omega
            subst e
            by_cases h5 : t ≤ j
            · exact absurd q (h2 t h5)
            · omega
      · by_cases h5 : s ≤ j
        · exact h2 s h5 q
        · have : s = 1 + j := by omega
          subst this
          exact e (sl_sq.mpr q.2.2)
theorem pow_c {Γ : Fns} {b n : Nat} (hb : b ≤ 1000) (hn : n ≤ 1000) : Wp (evSs Γ c1 [some (.int b), some (.int n), none, none]) (EndQ f1 fun r rs => rs = [none, none] ∧ r = .int ((b ^ n : Nat) : Int)) := by
  unfold c1
  simp -failIfUnchanged -implicitDefEqProofs only [↓gK0, ↓gKs, ↓setK0, ↓setKs, ↓setN0, ↓setNs, ↓setM0, ↓setMs, ↓clrK0, ↓clrKs, ↓bK_bl, ↓iK_int, ↓brK_true, ↓brK_false, ↓brK_dec, ↓brK_not, ↓brK_and, ↓w_ok, ↓w_var, ↓w_mv, ↓w_int, ↓w_str, ↓w_bl, ↓w_non, ↓w_neg, ↓w_bin, ↓w_cmp, ↓w_and, ↓w_or, ↓w_not, ↓w_ite, ↓w_tup, ↓w_lst, ↓w_nil, ↓w_con, ↓w_ix, ↓w_eo0, ↓w_eo1, ↓w_sl, ↓w_rev, ↓w_bi, ↓w_bi2, ↓w_bi3, ↓w_lcp, ↓w_cmp2, ↓w_tr1, ↓w_tr2, ↓w_lset, ↓w_sidx, ↓w_dcl, ↓w_dis, ↓w_join, ↓w_get, ↓w_ssn, ↓w_kill, ↓w_ssc, ↓nxt_nx, ↓nxt_rt, ↓nxt_bk, ↓nxt_ct, ↓w_set, ↓tsK0, ↓tsKs, ↓tgKv, ↓tgKt, ↓tupK_t, ↓w_tset, ↓w_aug, ↓gK_v, ↓gK_x, ↓setM_v, ↓setM_x, ↓atK0, ↓atKs, ↓atK0a, ↓atKsa, ↓w_pv, ↓w_px, ↓w_put, ↓lstK_l, ↓w_app, ↓lsK_l, ↓w_ext, ↓popK_appm, ↓popK_app, ↓popK_con, ↓w_pop, ↓w_ex, ↓w_ret, ↓w_retN, ↓w_brk, ↓w_cnt, ↓w_pass, ↓w_if, ↓w_an, ↓w_av, ↓w_ar, ↓takK0, ↓takKd, ↓takKr, ↓givK0, ↓givKd, ↓givKr, ↓w_call, ↓w_se, ↓w_s1, ↓w_s2, ↓w_s3, ↓w_sn, ↓w_for, ↓w_wh, ↓lpq_nx, ↓lpq_ct, ↓lpq_bk, ↓lpq_rt, ↓w_cn, ↓w_cs, ↓w_comp, ↓o_add, ↓o_sub, ↓o_adds, ↓o_addt, ↓o_addl, ↓o_mul, ↓o_muls, ↓o_mull, ↓o_div, ↓o_mod, ↓o_pow, ↓c_eq, ↓c_ne, ↓c_lt, ↓c_le, ↓c_gt, ↓c_ge, ↓c_eqs, ↓c_nes, ↓c_lts, ↓c_gts, ↓c_les, ↓c_ges, ↓c_neb, ↓c_eqb, ↓c_ins, ↓c_isn, ↓c_ntn, ↓t_bl, ↓t_int, ↓t_str, ↓t_non, ↓t_lst, ↓t_tup, ↓ixK_0, ↓ixK_1, ↓ixK_2, ↓ixK_3, ↓ixK_l1, ↓ixK_l2, ↓ixK_l3, ↓ixK_m1, ↓ixK_map, ↓x_str, ↓x_tup, ↓x_lst, ↓x_fls, ↓l_str, ↓l_tup, ↓l_lst, ↓r_str, ↓r_lst, ↓b_lens, ↓b_lenl, ↓b_lent, ↓b_lenf, ↓b_lend, ↓b_abs, ↓b_int, ↓b_intb, ↓b_tupt, ↓b_tupl, ↓b_lstt, ↓b_lstl, ↓b_lstf, ↓b_lstx, ↓s_set, ↓b_sum, ↓b_any, ↓b_all, ↓j_map, ↓i_str, ↓i_lst, ↓i_tup, ↓i_fls, ↓m_min, ↓m_max, ↓m_min3, ↓m_max3, ↓p_appn, ↓p_appl, ↓p_appi, ↓p_apps, ↓p_app0, ↓p_appc, ↓p_appa, ↓p_ext, ↓p_putm, ↓p_put0, ↓p_put1, ↓p_put2, ↓p_put3, ↓stepK_map, ↓posK_map, ↓end_rt, ↓end_nx, cond_true, cond_false, Option.isNone_none, n_add, n_addl, n_ladd, n_mul, n_sub0, n_ss, n_subt, n_sublt, n_lt, n_le, n_eq, n_0lt, n_1le, n_eq0, n_leb, n_geb, n_natAbs, sing_eq, safeB_none, safeB_nil, safeB_some, own_none, own_some, g_addi, g_adds, g_subi, g_muli, wrE, wrEs, wrEo, wrAs, wrSrc, wrP, wrS, wrSs, md, mdS, Tg.slots, Tgs.slots, P.root, small_ofNat, small_neg, pu_non, pu_bl, pu_int, pu_str, pu_tup, pu_fls, puL_nil, puL_con, puL_map, puL_app, puL_enum, isStr_str, isDct_dct, isNon_non, isNon_int, isNon_str, isNon_tup, isNon_lst, setAt0, setAt1, cut_to, cut_from, cut_ft, cut_tol, cut_froml, cut_all, cut_map, ixOk_nat, ixN_nat, ixOk_lit, ixN_lit, ixOk_m1, ixN_m1, List.nil_append, List.append_nil, List.cons_append, hasN, List.length_map, List.length_range, List.length_cons, List.length_nil, Bool.not_true, Bool.not_false, Bool.not_not, Bool.true_and, Bool.and_true, Bool.or_true, Bool.true_or, Bool.false_or, Bool.or_false, Bool.and_self, Bool.not_eq_true', Bool.false_eq_true, decide_true, decide_false, decide_eq_true_eq, decide_eq_false_iff_not, true_and, and_true, implies_true, and_self, ne_eq, not_true_eq_false, not_false_eq_true, false_implies, true_implies, eq_self, forall_const, Nat.reduceBEq, Nat.reduceEqDiff, Nat.reduceLT, Nat.reduceAdd, Nat.reduceSub, Nat.reduceLeDiff, Nat.reducePow, Int.reduceLT, Int.reduceLE, Int.reduceNeg, Int.reduceAdd, Int.reduceSub, Int.reducePow, Int.reduceToNat, Int.toNat_natCast, beq_self_eq_true, Bool.and_eq_true, Bool.or_eq_true]
  refine ⟨by omega, for_range (fun k ρ => ρ = [some (.int b), some (.int n), some (.int ((b ^ k : Nat) : Int)), none]) rfl ?_ ?_⟩
  · rintro ρ rfl
    simp -failIfUnchanged -implicitDefEqProofs only [↓gK0, ↓gKs, ↓setK0, ↓setKs, ↓setN0, ↓setNs, ↓setM0, ↓setMs, ↓clrK0, ↓clrKs, ↓bK_bl, ↓iK_int, ↓brK_true, ↓brK_false, ↓brK_dec, ↓brK_not, ↓brK_and, ↓w_ok, ↓w_var, ↓w_mv, ↓w_int, ↓w_str, ↓w_bl, ↓w_non, ↓w_neg, ↓w_bin, ↓w_cmp, ↓w_and, ↓w_or, ↓w_not, ↓w_ite, ↓w_tup, ↓w_lst, ↓w_nil, ↓w_con, ↓w_ix, ↓w_eo0, ↓w_eo1, ↓w_sl, ↓w_rev, ↓w_bi, ↓w_bi2, ↓w_bi3, ↓w_lcp, ↓w_cmp2, ↓w_tr1, ↓w_tr2, ↓w_lset, ↓w_sidx, ↓w_dcl, ↓w_dis, ↓w_join, ↓w_get, ↓w_ssn, ↓w_kill, ↓w_ssc, ↓nxt_nx, ↓nxt_rt, ↓nxt_bk, ↓nxt_ct, ↓w_set, ↓tsK0, ↓tsKs, ↓tgKv, ↓tgKt, ↓tupK_t, ↓w_tset, ↓w_aug, ↓gK_v, ↓gK_x, ↓setM_v, ↓setM_x, ↓atK0, ↓atKs, ↓atK0a, ↓atKsa, ↓w_pv, ↓w_px, ↓w_put, ↓lstK_l, ↓w_app, ↓lsK_l, ↓w_ext, ↓popK_appm, ↓popK_app, ↓popK_con, ↓w_pop, ↓w_ex, ↓w_ret, ↓w_retN, ↓w_brk, ↓w_cnt, ↓w_pass, ↓w_if, ↓w_an, ↓w_av, ↓w_ar, ↓takK0, ↓takKd, ↓takKr, ↓givK0, ↓givKd, ↓givKr, ↓w_call, ↓w_se, ↓w_s1, ↓w_s2, ↓w_s3, ↓w_sn, ↓w_for, ↓w_wh, ↓lpq_nx, ↓lpq_ct, ↓lpq_bk, ↓lpq_rt, ↓w_cn, ↓w_cs, ↓w_comp, ↓o_add, ↓o_sub, ↓o_adds, ↓o_addt, ↓o_addl, ↓o_mul, ↓o_muls, ↓o_mull, ↓o_div, ↓o_mod, ↓o_pow, ↓c_eq, ↓c_ne, ↓c_lt, ↓c_le, ↓c_gt, ↓c_ge, ↓c_eqs, ↓c_nes, ↓c_lts, ↓c_gts, ↓c_les, ↓c_ges, ↓c_neb, ↓c_eqb, ↓c_ins, ↓c_isn, ↓c_ntn, ↓t_bl, ↓t_int, ↓t_str, ↓t_non, ↓t_lst, ↓t_tup, ↓ixK_0, ↓ixK_1, ↓ixK_2, ↓ixK_3, ↓ixK_l1, ↓ixK_l2, ↓ixK_l3, ↓ixK_m1, ↓ixK_map, ↓x_str, ↓x_tup, ↓x_lst, ↓x_fls, ↓l_str, ↓l_tup, ↓l_lst, ↓r_str, ↓r_lst, ↓b_lens, ↓b_lenl, ↓b_lent, ↓b_lenf, ↓b_lend, ↓b_abs, ↓b_int, ↓b_intb, ↓b_tupt, ↓b_tupl, ↓b_lstt, ↓b_lstl, ↓b_lstf, ↓b_lstx, ↓s_set, ↓b_sum, ↓b_any, ↓b_all, ↓j_map, ↓i_str, ↓i_lst, ↓i_tup, ↓i_fls, ↓m_min, ↓m_max, ↓m_min3, ↓m_max3, ↓p_appn, ↓p_appl, ↓p_appi, ↓p_apps, ↓p_app0, ↓p_appc, ↓p_appa, ↓p_ext, ↓p_putm, ↓p_put0, ↓p_put1, ↓p_put2, ↓p_put3, ↓stepK_map, ↓posK_map, ↓end_rt, ↓end_nx, cond_true, cond_false, Option.isNone_none, n_add, n_addl, n_ladd, n_mul, n_sub0, n_ss, n_subt, n_sublt, n_lt, n_le, n_eq, n_0lt, n_1le, n_eq0, n_leb, n_geb, n_natAbs, sing_eq, safeB_none, safeB_nil, safeB_some, own_none, own_some, g_addi, g_adds, g_subi, g_muli, wrE, wrEs, wrEo, wrAs, wrSrc, wrP, wrS, wrSs, md, mdS, Tg.slots, Tgs.slots, P.root, small_ofNat, small_neg, pu_non, pu_bl, pu_int, pu_str, pu_tup, pu_fls, puL_nil, puL_con, puL_map, puL_app, puL_enum, isStr_str, isDct_dct, isNon_non, isNon_int, isNon_str, isNon_tup, isNon_lst, setAt0, setAt1, cut_to, cut_from, cut_ft, cut_tol, cut_froml, cut_all, cut_map, ixOk_nat, ixN_nat, ixOk_lit, ixN_lit, ixOk_m1, ixN_m1, List.nil_append, List.append_nil, List.cons_append, hasN, List.length_map, List.length_range, List.length_cons, List.length_nil, Bool.not_true, Bool.not_false, Bool.not_not, Bool.true_and, Bool.and_true, Bool.or_true, Bool.true_or, Bool.false_or, Bool.or_false, Bool.and_self, Bool.not_eq_true', Bool.false_eq_true, decide_true, decide_false, decide_eq_true_eq, decide_eq_false_iff_not, true_and, and_true, implies_true, and_self, ne_eq, not_true_eq_false, not_false_eq_true, false_implies, true_implies, eq_self, forall_const, Nat.reduceBEq, Nat.reduceEqDiff, Nat.reduceLT, Nat.reduceAdd, Nat.reduceSub, Nat.reduceLeDiff, Nat.reducePow, Int.reduceLT, Int.reduceLE, Int.reduceNeg, Int.reduceAdd, Int.reduceSub, Int.reducePow, Int.reduceToNat, Int.toNat_natCast, beq_self_eq_true, Bool.and_eq_true, Bool.or_eq_true]
    rfl
  · rintro k hk ρ rfl
    simp -failIfUnchanged -implicitDefEqProofs only [↓gK0, ↓gKs, ↓setK0, ↓setKs, ↓setN0, ↓setNs, ↓setM0, ↓setMs, ↓clrK0, ↓clrKs, ↓bK_bl, ↓iK_int, ↓brK_true, ↓brK_false, ↓brK_dec, ↓brK_not, ↓brK_and, ↓w_ok, ↓w_var, ↓w_mv, ↓w_int, ↓w_str, ↓w_bl, ↓w_non, ↓w_neg, ↓w_bin, ↓w_cmp, ↓w_and, ↓w_or, ↓w_not, ↓w_ite, ↓w_tup, ↓w_lst, ↓w_nil, ↓w_con, ↓w_ix, ↓w_eo0, ↓w_eo1, ↓w_sl, ↓w_rev, ↓w_bi, ↓w_bi2, ↓w_bi3, ↓w_lcp, ↓w_cmp2, ↓w_tr1, ↓w_tr2, ↓w_lset, ↓w_sidx, ↓w_dcl, ↓w_dis, ↓w_join, ↓w_get, ↓w_ssn, ↓w_kill, ↓w_ssc, ↓nxt_nx, ↓nxt_rt, ↓nxt_bk, ↓nxt_ct, ↓w_set, ↓tsK0, ↓tsKs, ↓tgKv, ↓tgKt, ↓tupK_t, ↓w_tset, ↓w_aug, ↓gK_v, ↓gK_x, ↓setM_v, ↓setM_x, ↓atK0, ↓atKs, ↓atK0a, ↓atKsa, ↓w_pv, ↓w_px, ↓w_put, ↓lstK_l, ↓w_app, ↓lsK_l, ↓w_ext, ↓popK_appm, ↓popK_app, ↓popK_con, ↓w_pop, ↓w_ex, ↓w_ret, ↓w_retN, ↓w_brk, ↓w_cnt, ↓w_pass, ↓w_if, ↓w_an, ↓w_av, ↓w_ar, ↓takK0, ↓takKd, ↓takKr, ↓givK0, ↓givKd, ↓givKr, ↓w_call, ↓w_se, ↓w_s1, ↓w_s2, ↓w_s3, ↓w_sn, ↓w_for, ↓w_wh, ↓lpq_nx, ↓lpq_ct, ↓lpq_bk, ↓lpq_rt, ↓w_cn, ↓w_cs, ↓w_comp, ↓o_add, ↓o_sub, ↓o_adds, ↓o_addt, ↓o_addl, ↓o_mul, ↓o_muls, ↓o_mull, ↓o_div, ↓o_mod, ↓o_pow, ↓c_eq, ↓c_ne, ↓c_lt, ↓c_le, ↓c_gt, ↓c_ge, ↓c_eqs, ↓c_nes, ↓c_lts, ↓c_gts, ↓c_les, ↓c_ges, ↓c_neb, ↓c_eqb, ↓c_ins, ↓c_isn, ↓c_ntn, ↓t_bl, ↓t_int, ↓t_str, ↓t_non, ↓t_lst, ↓t_tup, ↓ixK_0, ↓ixK_1, ↓ixK_2, ↓ixK_3, ↓ixK_l1, ↓ixK_l2, ↓ixK_l3, ↓ixK_m1, ↓ixK_map, ↓x_str, ↓x_tup, ↓x_lst, ↓x_fls, ↓l_str, ↓l_tup, ↓l_lst, ↓r_str, ↓r_lst, ↓b_lens, ↓b_lenl, ↓b_lent, ↓b_lenf, ↓b_lend, ↓b_abs, ↓b_int, ↓b_intb, ↓b_tupt, ↓b_tupl, ↓b_lstt, ↓b_lstl, ↓b_lstf, ↓b_lstx, ↓s_set, ↓b_sum, ↓b_any, ↓b_all, ↓j_map, ↓i_str, ↓i_lst, ↓i_tup, ↓i_fls, ↓m_min, ↓m_max, ↓m_min3, ↓m_max3, ↓p_appn, ↓p_appl, ↓p_appi, ↓p_apps, ↓p_app0, ↓p_appc, ↓p_appa, ↓p_ext, ↓p_putm, ↓p_put0, ↓p_put1, ↓p_put2, ↓p_put3, ↓stepK_map, ↓posK_map, ↓end_rt, ↓end_nx, cond_true, cond_false, Option.isNone_none, n_add, n_addl, n_ladd, n_mul, n_sub0, n_ss, n_subt, n_sublt, n_lt, n_le, n_eq, n_0lt, n_1le, n_eq0, n_leb, n_geb, n_natAbs, sing_eq, safeB_none, safeB_nil, safeB_some, own_none, own_some, g_addi, g_adds, g_subi, g_muli, wrE, wrEs, wrEo, wrAs, wrSrc, wrP, wrS, wrSs, md, mdS, Tg.slots, Tgs.slots, P.root, small_ofNat, small_neg, pu_non, pu_bl, pu_int, pu_str, pu_tup, pu_fls, puL_nil, puL_con, puL_map, puL_app, puL_enum, isStr_str, isDct_dct, isNon_non, isNon_int, isNon_str, isNon_tup, isNon_lst, setAt0, setAt1, cut_to, cut_from, cut_ft, cut_tol, cut_froml, cut_all, cut_map, ixOk_nat, ixN_nat, ixOk_lit, ixN_lit, ixOk_m1, ixN_m1, List.nil_append, List.append_nil, List.cons_append, hasN, List.length_map, List.length_range, List.length_cons, List.length_nil, Bool.not_true, Bool.not_false, Bool.not_not, Bool.true_and, Bool.and_true, Bool.or_true, Bool.true_or, Bool.false_or, Bool.or_false, Bool.and_self, Bool.not_eq_true', Bool.false_eq_true, decide_true, decide_false, decide_eq_true_eq, decide_eq_false_iff_not, true_and, and_true, implies_true, and_self, ne_eq, not_true_eq_false, not_false_eq_true, false_implies, true_implies, eq_self, forall_const, Nat.reduceBEq, Nat.reduceEqDiff, Nat.reduceLT, Nat.reduceAdd, Nat.reduceSub, Nat.reduceLeDiff, Nat.reducePow, Int.reduceLT, Int.reduceLE, Int.reduceNeg, Int.reduceAdd, Int.reduceSub, Int.reducePow, Int.reduceToNat, Int.toNat_natCast, beq_self_eq_true, Bool.and_eq_true, Bool.or_eq_true]
    refine ⟨by simp [small]; omega, ?_⟩
    rw [Nat.pow_succ]
theorem rings_c {Γ : Fns} {w : Wrd} {m : Nat} (hw : w.length ≤ 1000) (hm : m ≤ 100) : Wp (evSs Γ c2 [some (.str w), some (.int ((m + 1 : Nat) : Int)), none, none]) (EndQ f2 fun r rs => rs = [none, none] ∧ r = .lst ((ringP (m + 1) w).map D.str)) := by
  have hc : w.length ≤ cap := by unfold cap; omega
  have hc2 : (w.take m).length ≤ m := by rw [List.length_take]; omega
  unfold c2
  simp -failIfUnchanged -implicitDefEqProofs only [↓gK0, ↓gKs, ↓setK0, ↓setKs, ↓setN0, ↓setNs, ↓setM0, ↓setMs, ↓clrK0, ↓clrKs, ↓bK_bl, ↓iK_int, ↓brK_true, ↓brK_false, ↓brK_dec, ↓brK_not, ↓brK_and, ↓w_ok, ↓w_var, ↓w_mv, ↓w_int, ↓w_str, ↓w_bl, ↓w_non, ↓w_neg, ↓w_bin, ↓w_cmp, ↓w_and, ↓w_or, ↓w_not, ↓w_ite, ↓w_tup, ↓w_lst, ↓w_nil, ↓w_con, ↓w_ix, ↓w_eo0, ↓w_eo1, ↓w_sl, ↓w_rev, ↓w_bi, ↓w_bi2, ↓w_bi3, ↓w_lcp, ↓w_cmp2, ↓w_tr1, ↓w_tr2, ↓w_lset, ↓w_sidx, ↓w_dcl, ↓w_dis, ↓w_join, ↓w_get, ↓w_ssn, ↓w_kill, ↓w_ssc, ↓nxt_nx, ↓nxt_rt, ↓nxt_bk, ↓nxt_ct, ↓w_set, ↓tsK0, ↓tsKs, ↓tgKv, ↓tgKt, ↓tupK_t, ↓w_tset, ↓w_aug, ↓gK_v, ↓gK_x, ↓setM_v, ↓setM_x, ↓atK0, ↓atKs, ↓atK0a, ↓atKsa, ↓w_pv, ↓w_px, ↓w_put, ↓lstK_l, ↓w_app, ↓lsK_l, ↓w_ext, ↓popK_appm, ↓popK_app, ↓popK_con, ↓w_pop, ↓w_ex, ↓w_ret, ↓w_retN, ↓w_brk, ↓w_cnt, ↓w_pass, ↓w_if, ↓w_an, ↓w_av, ↓w_ar, ↓takK0, ↓takKd, ↓takKr, ↓givK0, ↓givKd, ↓givKr, ↓w_call, ↓w_se, ↓w_s1, ↓w_s2, ↓w_s3, ↓w_sn, ↓w_for, ↓w_wh, ↓lpq_nx, ↓lpq_ct, ↓lpq_bk, ↓lpq_rt, ↓w_cn, ↓w_cs, ↓w_comp, ↓o_add, ↓o_sub, ↓o_adds, ↓o_addt, ↓o_addl, ↓o_mul, ↓o_muls, ↓o_mull, ↓o_div, ↓o_mod, ↓o_pow, ↓c_eq, ↓c_ne, ↓c_lt, ↓c_le, ↓c_gt, ↓c_ge, ↓c_eqs, ↓c_nes, ↓c_lts, ↓c_gts, ↓c_les, ↓c_ges, ↓c_neb, ↓c_eqb, ↓c_ins, ↓c_isn, ↓c_ntn, ↓t_bl, ↓t_int, ↓t_str, ↓t_non, ↓t_lst, ↓t_tup, ↓ixK_0, ↓ixK_1, ↓ixK_2, ↓ixK_3, ↓ixK_l1, ↓ixK_l2, ↓ixK_l3, ↓ixK_m1, ↓ixK_map, ↓x_str, ↓x_tup, ↓x_lst, ↓x_fls, ↓l_str, ↓l_tup, ↓l_lst, ↓r_str, ↓r_lst, ↓b_lens, ↓b_lenl, ↓b_lent, ↓b_lenf, ↓b_lend, ↓b_abs, ↓b_int, ↓b_intb, ↓b_tupt, ↓b_tupl, ↓b_lstt, ↓b_lstl, ↓b_lstf, ↓b_lstx, ↓s_set, ↓b_sum, ↓b_any, ↓b_all, ↓j_map, ↓i_str, ↓i_lst, ↓i_tup, ↓i_fls, ↓m_min, ↓m_max, ↓m_min3, ↓m_max3, ↓p_appn, ↓p_appl, ↓p_appi, ↓p_apps, ↓p_app0, ↓p_appc, ↓p_appa, ↓p_ext, ↓p_putm, ↓p_put0, ↓p_put1, ↓p_put2, ↓p_put3, ↓stepK_map, ↓posK_map, ↓end_rt, ↓end_nx, cond_true, cond_false, Option.isNone_none, n_add, n_addl, n_ladd, n_mul, n_sub0, n_ss, n_subt, n_sublt, n_lt, n_le, n_eq, n_0lt, n_1le, n_eq0, n_leb, n_geb, n_natAbs, sing_eq, safeB_none, safeB_nil, safeB_some, own_none, own_some, g_addi, g_adds, g_subi, g_muli, wrE, wrEs, wrEo, wrAs, wrSrc, wrP, wrS, wrSs, md, mdS, Tg.slots, Tgs.slots, P.root, small_ofNat, small_neg, pu_non, pu_bl, pu_int, pu_str, pu_tup, pu_fls, puL_nil, puL_con, puL_map, puL_app, puL_enum, isStr_str, isDct_dct, isNon_non, isNon_int, isNon_str, isNon_tup, isNon_lst, setAt0, setAt1, cut_to, cut_from, cut_ft, cut_tol, cut_froml, cut_all, cut_map, ixOk_nat, ixN_nat, ixOk_lit, ixN_lit, ixOk_m1, ixN_m1, List.nil_append, List.append_nil, List.cons_append, hasN, List.length_map, List.length_range, List.length_cons, List.length_nil, Bool.not_true, Bool.not_false, Bool.not_not, Bool.true_and, Bool.and_true, Bool.or_true, Bool.true_or, Bool.false_or, Bool.or_false, Bool.and_self, Bool.not_eq_true', Bool.false_eq_true, decide_true, decide_false, decide_eq_true_eq, decide_eq_false_iff_not, true_and, and_true, implies_true, and_self, ne_eq, not_true_eq_false, not_false_eq_true, false_implies, true_implies, eq_self, forall_const, Nat.reduceBEq, Nat.reduceEqDiff, Nat.reduceLT, Nat.reduceAdd, Nat.reduceSub, Nat.reduceLeDiff, Nat.reducePow, Int.reduceLT, Int.reduceLE, Int.reduceNeg, Int.reduceAdd, Int.reduceSub, Int.reducePow, Int.reduceToNat, Int.toNat_natCast, beq_self_eq_true, Bool.and_eq_true, Bool.or_eq_true]
  refine ⟨hc, by unfold cap; omega, hc, by omega, comp_pure (fun k => [some (.str w), some (.int ((m + 1 : Nat) : Int)), some (.str (w ++ w.take m)), some (.int (k : Nat))]) (fun _ => true) (fun k => .str (((w ++ w.take m).drop k).take (m + 1))) (by simp; unfold cap; omega) (fun _ => rfl) (fun _ => rfl) (fun _ => rfl) rfl (fun k hk => ?_) (fun k hk _ => ?_) ?_⟩
  · exact ⟨rfl, rfl⟩
  · simp -failIfUnchanged -implicitDefEqProofs only [↓gK0, ↓gKs, ↓setK0, ↓setKs, ↓setN0, ↓setNs, ↓setM0, ↓setMs, ↓clrK0, ↓clrKs, ↓bK_bl, ↓iK_int, ↓brK_true, ↓brK_false, ↓brK_dec, ↓brK_not, ↓brK_and, ↓w_ok, ↓w_var, ↓w_mv, ↓w_int, ↓w_str, ↓w_bl, ↓w_non, ↓w_neg, ↓w_bin, ↓w_cmp, ↓w_and, ↓w_or, ↓w_not, ↓w_ite, ↓w_tup, ↓w_lst, ↓w_nil, ↓w_con, ↓w_ix, ↓w_eo0, ↓w_eo1, ↓w_sl, ↓w_rev, ↓w_bi, ↓w_bi2, ↓w_bi3, ↓w_lcp, ↓w_cmp2, ↓w_tr1, ↓w_tr2, ↓w_lset, ↓w_sidx, ↓w_dcl, ↓w_dis, ↓w_join, ↓w_get, ↓w_ssn, ↓w_kill, ↓w_ssc, ↓nxt_nx, ↓nxt_rt, ↓nxt_bk, ↓nxt_ct, ↓w_set, ↓tsK0, ↓tsKs, ↓tgKv, ↓tgKt, ↓tupK_t, ↓w_tset, ↓w_aug, ↓gK_v, ↓gK_x, ↓setM_v, ↓setM_x, ↓atK0, ↓atKs, ↓atK0a, ↓atKsa, ↓w_pv, ↓w_px, ↓w_put, ↓lstK_l, ↓w_app, ↓lsK_l, ↓w_ext, ↓popK_appm, ↓popK_app, ↓popK_con, ↓w_pop, ↓w_ex, ↓w_ret, ↓w_retN, ↓w_brk, ↓w_cnt, ↓w_pass, ↓w_if, ↓w_an, ↓w_av, ↓w_ar, ↓takK0, ↓takKd, ↓takKr, ↓givK0, ↓givKd, ↓givKr, ↓w_call, ↓w_se, ↓w_s1, ↓w_s2, ↓w_s3, ↓w_sn, ↓w_for, ↓w_wh, ↓lpq_nx, ↓lpq_ct, ↓lpq_bk, ↓lpq_rt, ↓w_cn, ↓w_cs, ↓w_comp, ↓o_add, ↓o_sub, ↓o_adds, ↓o_addt, ↓o_addl, ↓o_mul, ↓o_muls, ↓o_mull, ↓o_div, ↓o_mod, ↓o_pow, ↓c_eq, ↓c_ne, ↓c_lt, ↓c_le, ↓c_gt, ↓c_ge, ↓c_eqs, ↓c_nes, ↓c_lts, ↓c_gts, ↓c_les, ↓c_ges, ↓c_neb, ↓c_eqb, ↓c_ins, ↓c_isn, ↓c_ntn, ↓t_bl, ↓t_int, ↓t_str, ↓t_non, ↓t_lst, ↓t_tup, ↓ixK_0, ↓ixK_1, ↓ixK_2, ↓ixK_3, ↓ixK_l1, ↓ixK_l2, ↓ixK_l3, ↓ixK_m1, ↓ixK_map, ↓x_str, ↓x_tup, ↓x_lst, ↓x_fls, ↓l_str, ↓l_tup, ↓l_lst, ↓r_str, ↓r_lst, ↓b_lens, ↓b_lenl, ↓b_lent, ↓b_lenf, ↓b_lend, ↓b_abs, ↓b_int, ↓b_intb, ↓b_tupt, ↓b_tupl, ↓b_lstt, ↓b_lstl, ↓b_lstf, ↓b_lstx, ↓s_set, ↓b_sum, ↓b_any, ↓b_all, ↓j_map, ↓i_str, ↓i_lst, ↓i_tup, ↓i_fls, ↓m_min, ↓m_max, ↓m_min3, ↓m_max3, ↓p_appn, ↓p_appl, ↓p_appi, ↓p_apps, ↓p_app0, ↓p_appc, ↓p_appa, ↓p_ext, ↓p_putm, ↓p_put0, ↓p_put1, ↓p_put2, ↓p_put3, ↓stepK_map, ↓posK_map, ↓end_rt, ↓end_nx, cond_true, cond_false, Option.isNone_none, n_add, n_addl, n_ladd, n_mul, n_sub0, n_ss, n_subt, n_sublt, n_lt, n_le, n_eq, n_0lt, n_1le, n_eq0, n_leb, n_geb, n_natAbs, sing_eq, safeB_none, safeB_nil, safeB_some, own_none, own_some, g_addi, g_adds, g_subi, g_muli, wrE, wrEs, wrEo, wrAs, wrSrc, wrP, wrS, wrSs, md, mdS, Tg.slots, Tgs.slots, P.root, small_ofNat, small_neg, pu_non, pu_bl, pu_int, pu_str, pu_tup, pu_fls, puL_nil, puL_con, puL_map, puL_app, puL_enum, isStr_str, isDct_dct, isNon_non, isNon_int, isNon_str, isNon_tup, isNon_lst, setAt0, setAt1, cut_to, cut_from, cut_ft, cut_tol, cut_froml, cut_all, cut_map, ixOk_nat, ixN_nat, ixOk_lit, ixN_lit, ixOk_m1, ixN_m1, List.nil_append, List.append_nil, List.cons_append, hasN, List.length_map, List.length_range, List.length_cons, List.length_nil, Bool.not_true, Bool.not_false, Bool.not_not, Bool.true_and, Bool.and_true, Bool.or_true, Bool.true_or, Bool.false_or, Bool.or_false, Bool.and_self, Bool.not_eq_true', Bool.false_eq_true, decide_true, decide_false, decide_eq_true_eq, decide_eq_false_iff_not, true_and, and_true, implies_true, and_self, ne_eq, not_true_eq_false, not_false_eq_true, false_implies, true_implies, eq_self, forall_const, Nat.reduceBEq, Nat.reduceEqDiff, Nat.reduceLT, Nat.reduceAdd, Nat.reduceSub, Nat.reduceLeDiff, Nat.reducePow, Int.reduceLT, Int.reduceLE, Int.reduceNeg, Int.reduceAdd, Int.reduceSub, Int.reducePow, Int.reduceToNat, Int.toNat_natCast, beq_self_eq_true, Bool.and_eq_true, Bool.or_eq_true]
    refine ⟨by rw [List.length_append]; unfold cap; omega, ?_⟩
    rw [show k + (m + 1) - k = m + 1 by omega]
  · simp -failIfUnchanged -implicitDefEqProofs only [↓gK0, ↓gKs, ↓setK0, ↓setKs, ↓setN0, ↓setNs, ↓setM0, ↓setMs, ↓clrK0, ↓clrKs, ↓bK_bl, ↓iK_int, ↓brK_true, ↓brK_false, ↓brK_dec, ↓brK_not, ↓brK_and, ↓w_ok, ↓w_var, ↓w_mv, ↓w_int, ↓w_str, ↓w_bl, ↓w_non, ↓w_neg, ↓w_bin, ↓w_cmp, ↓w_and, ↓w_or, ↓w_not, ↓w_ite, ↓w_tup, ↓w_lst, ↓w_nil, ↓w_con, ↓w_ix, ↓w_eo0, ↓w_eo1, ↓w_sl, ↓w_rev, ↓w_bi, ↓w_bi2, ↓w_bi3, ↓w_lcp, ↓w_cmp2, ↓w_tr1, ↓w_tr2, ↓w_lset, ↓w_sidx, ↓w_dcl, ↓w_dis, ↓w_join, ↓w_get, ↓w_ssn, ↓w_kill, ↓w_ssc, ↓nxt_nx, ↓nxt_rt, ↓nxt_bk, ↓nxt_ct, ↓w_set, ↓tsK0, ↓tsKs, ↓tgKv, ↓tgKt, ↓tupK_t, ↓w_tset, ↓w_aug, ↓gK_v, ↓gK_x, ↓setM_v, ↓setM_x, ↓atK0, ↓atKs, ↓atK0a, ↓atKsa, ↓w_pv, ↓w_px, ↓w_put, ↓lstK_l, ↓w_app, ↓lsK_l, ↓w_ext, ↓popK_appm, ↓popK_app, ↓popK_con, ↓w_pop, ↓w_ex, ↓w_ret, ↓w_retN, ↓w_brk, ↓w_cnt, ↓w_pass, ↓w_if, ↓w_an, ↓w_av, ↓w_ar, ↓takK0, ↓takKd, ↓takKr, ↓givK0, ↓givKd, ↓givKr, ↓w_call, ↓w_se, ↓w_s1, ↓w_s2, ↓w_s3, ↓w_sn, ↓w_for, ↓w_wh, ↓lpq_nx, ↓lpq_ct, ↓lpq_bk, ↓lpq_rt, ↓w_cn, ↓w_cs, ↓w_comp, ↓o_add, ↓o_sub, ↓o_adds, ↓o_addt, ↓o_addl, ↓o_mul, ↓o_muls, ↓o_mull, ↓o_div, ↓o_mod, ↓o_pow, ↓c_eq, ↓c_ne, ↓c_lt, ↓c_le, ↓c_gt, ↓c_ge, ↓c_eqs, ↓c_nes, ↓c_lts, ↓c_gts, ↓c_les, ↓c_ges, ↓c_neb, ↓c_eqb, ↓c_ins, ↓c_isn, ↓c_ntn, ↓t_bl, ↓t_int, ↓t_str, ↓t_non, ↓t_lst, ↓t_tup, ↓ixK_0, ↓ixK_1, ↓ixK_2, ↓ixK_3, ↓ixK_l1, ↓ixK_l2, ↓ixK_l3, ↓ixK_m1, ↓ixK_map, ↓x_str, ↓x_tup, ↓x_lst, ↓x_fls, ↓l_str, ↓l_tup, ↓l_lst, ↓r_str, ↓r_lst, ↓b_lens, ↓b_lenl, ↓b_lent, ↓b_lenf, ↓b_lend, ↓b_abs, ↓b_int, ↓b_intb, ↓b_tupt, ↓b_tupl, ↓b_lstt, ↓b_lstl, ↓b_lstf, ↓b_lstx, ↓s_set, ↓b_sum, ↓b_any, ↓b_all, ↓j_map, ↓i_str, ↓i_lst, ↓i_tup, ↓i_fls, ↓m_min, ↓m_max, ↓m_min3, ↓m_max3, ↓p_appn, ↓p_appl, ↓p_appi, ↓p_apps, ↓p_app0, ↓p_appc, ↓p_appa, ↓p_ext, ↓p_putm, ↓p_put0, ↓p_put1, ↓p_put2, ↓p_put3, ↓stepK_map, ↓posK_map, ↓end_rt, ↓end_nx, cond_true, cond_false, Option.isNone_none, n_add, n_addl, n_ladd, n_mul, n_sub0, n_ss, n_subt, n_sublt, n_lt, n_le, n_eq, n_0lt, n_1le, n_eq0, n_leb, n_geb, n_natAbs, sing_eq, safeB_none, safeB_nil, safeB_some, own_none, own_some, g_addi, g_adds, g_subi, g_muli, wrE, wrEs, wrEo, wrAs, wrSrc, wrP, wrS, wrSs, md, mdS, Tg.slots, Tgs.slots, P.root, small_ofNat, small_neg, pu_non, pu_bl, pu_int, pu_str, pu_tup, pu_fls, puL_nil, puL_con, puL_map, puL_app, puL_enum, isStr_str, isDct_dct, isNon_non, isNon_int, isNon_str, isNon_tup, isNon_lst, setAt0, setAt1, cut_to, cut_from, cut_ft, cut_tol, cut_froml, cut_all, cut_map, ixOk_nat, ixN_nat, ixOk_lit, ixN_lit, ixOk_m1, ixN_m1, List.nil_append, List.append_nil, List.cons_append, hasN, List.length_map, List.length_range, List.length_cons, List.length_nil, Bool.not_true, Bool.not_false, Bool.not_not, Bool.true_and, Bool.and_true, Bool.or_true, Bool.true_or, Bool.false_or, Bool.or_false, Bool.and_self, Bool.not_eq_true', Bool.false_eq_true, decide_true, decide_false, decide_eq_true_eq, decide_eq_false_iff_not, true_and, and_true, implies_true, and_self, ne_eq, not_true_eq_false, not_false_eq_true, false_implies, true_implies, eq_self, forall_const, Nat.reduceBEq, Nat.reduceEqDiff, Nat.reduceLT, Nat.reduceAdd, Nat.reduceSub, Nat.reduceLeDiff, Nat.reducePow, Int.reduceLT, Int.reduceLE, Int.reduceNeg, Int.reduceAdd, Int.reduceSub, Int.reducePow, Int.reduceToNat, Int.toNat_natCast, beq_self_eq_true, Bool.and_eq_true, Bool.or_eq_true]
    refine ⟨rfl, ?_⟩
    rw [filter_tt]
    unfold ringP
    rw [List.map_map]
    rfl
theorem powS {n b k : Nat} (hb : b ≤ 1000) (hk : k ≤ 1000) : WpF (fns T (n + 1) 1 [.int b, .int k]) (fun r rs => rs = [none, none] ∧ r = .int ((b ^ k : Nat) : Int)) := fns_wp rfl rfl rfl rfl (pow_c hb hk)
theorem ringsS {n m : Nat} {w : Wrd} (hw : w.length ≤ 1000) (hm : m ≤ 100) : WpF (fns T (n + 1) 2 [.str w, .int ((m + 1 : Nat) : Int)]) (fun r rs => rs = [none, none] ∧ r = .lst ((ringP (m + 1) w).map D.str)) := fns_wp rfl rfl rfl rfl (rings_c hw hm)
theorem ringP_len {n : Nat} {w : Wrd} : (ringP n w).length = w.length := by simp [ringP]
theorem chars_id {w : Wrd} : (w.map fun c => D.str [c]) = (w.map fun c => D.str [c]) := rfl
theorem stands_c {Γ : Fns} (sR : ∀ (w : Wrd) (m : Nat), w.length ≤ 1000 → m ≤ 100 → WpF (Γ 2 [.str w, .int ((m + 1 : Nat) : Int)]) (fun r rs => rs = [none, none] ∧ r = .lst ((ringP (m + 1) w).map D.str))) (sP : ∀ (b k : Nat), b ≤ 1000 → k ≤ 1000 → WpF (Γ 1 [.int b, .int k]) (fun r rs => rs = [none, none] ∧ r = .int ((b ^ k : Nat) : Int)))
    {m : Nat} {al w : Wrd} (ha : al.length ≤ 100) (hw : w.length ≤ 1000) (hm : m ≤ 100) : Wp (evSs Γ c3 [some (.str al), some (.int ((m + 1 : Nat) : Int)), some (.str w), none, none, none]) (EndQ f3 fun r rs => rs = [none, none, none] ∧ r = .bl (onceB al (m + 1) w)) := by
  have hc : w.length ≤ cap := by unfold cap; omega
  have hca : al.length ≤ cap := by unfold cap; omega
  unfold c3
  simp -failIfUnchanged -implicitDefEqProofs only [↓gK0, ↓gKs, ↓setK0, ↓setKs, ↓setN0, ↓setNs, ↓setM0, ↓setMs, ↓clrK0, ↓clrKs, ↓bK_bl, ↓iK_int, ↓brK_true, ↓brK_false, ↓brK_dec, ↓brK_not, ↓brK_and, ↓w_ok, ↓w_var, ↓w_mv, ↓w_int, ↓w_str, ↓w_bl, ↓w_non, ↓w_neg, ↓w_bin, ↓w_cmp, ↓w_and, ↓w_or, ↓w_not, ↓w_ite, ↓w_tup, ↓w_lst, ↓w_nil, ↓w_con, ↓w_ix, ↓w_eo0, ↓w_eo1, ↓w_sl, ↓w_rev, ↓w_bi, ↓w_bi2, ↓w_bi3, ↓w_lcp, ↓w_cmp2, ↓w_tr1, ↓w_tr2, ↓w_lset, ↓w_sidx, ↓w_dcl, ↓w_dis, ↓w_join, ↓w_get, ↓w_ssn, ↓w_kill, ↓w_ssc, ↓nxt_nx, ↓nxt_rt, ↓nxt_bk, ↓nxt_ct, ↓w_set, ↓tsK0, ↓tsKs, ↓tgKv, ↓tgKt, ↓tupK_t, ↓w_tset, ↓w_aug, ↓gK_v, ↓gK_x, ↓setM_v, ↓setM_x, ↓atK0, ↓atKs, ↓atK0a, ↓atKsa, ↓w_pv, ↓w_px, ↓w_put, ↓lstK_l, ↓w_app, ↓lsK_l, ↓w_ext, ↓popK_appm, ↓popK_app, ↓popK_con, ↓w_pop, ↓w_ex, ↓w_ret, ↓w_retN, ↓w_brk, ↓w_cnt, ↓w_pass, ↓w_if, ↓w_an, ↓w_av, ↓w_ar, ↓takK0, ↓takKd, ↓takKr, ↓givK0, ↓givKd, ↓givKr, ↓w_call, ↓w_se, ↓w_s1, ↓w_s2, ↓w_s3, ↓w_sn, ↓w_for, ↓w_wh, ↓lpq_nx, ↓lpq_ct, ↓lpq_bk, ↓lpq_rt, ↓w_cn, ↓w_cs, ↓w_comp, ↓o_add, ↓o_sub, ↓o_adds, ↓o_addt, ↓o_addl, ↓o_mul, ↓o_muls, ↓o_mull, ↓o_div, ↓o_mod, ↓o_pow, ↓c_eq, ↓c_ne, ↓c_lt, ↓c_le, ↓c_gt, ↓c_ge, ↓c_eqs, ↓c_nes, ↓c_lts, ↓c_gts, ↓c_les, ↓c_ges, ↓c_neb, ↓c_eqb, ↓c_ins, ↓c_isn, ↓c_ntn, ↓t_bl, ↓t_int, ↓t_str, ↓t_non, ↓t_lst, ↓t_tup, ↓ixK_0, ↓ixK_1, ↓ixK_2, ↓ixK_3, ↓ixK_l1, ↓ixK_l2, ↓ixK_l3, ↓ixK_m1, ↓ixK_map, ↓x_str, ↓x_tup, ↓x_lst, ↓x_fls, ↓l_str, ↓l_tup, ↓l_lst, ↓r_str, ↓r_lst, ↓b_lens, ↓b_lenl, ↓b_lent, ↓b_lenf, ↓b_lend, ↓b_abs, ↓b_int, ↓b_intb, ↓b_tupt, ↓b_tupl, ↓b_lstt, ↓b_lstl, ↓b_lstf, ↓b_lstx, ↓s_set, ↓b_sum, ↓b_any, ↓b_all, ↓j_map, ↓i_str, ↓i_lst, ↓i_tup, ↓i_fls, ↓m_min, ↓m_max, ↓m_min3, ↓m_max3, ↓p_appn, ↓p_appl, ↓p_appi, ↓p_apps, ↓p_app0, ↓p_appc, ↓p_appa, ↓p_ext, ↓p_putm, ↓p_put0, ↓p_put1, ↓p_put2, ↓p_put3, ↓stepK_map, ↓posK_map, ↓end_rt, ↓end_nx, cond_true, cond_false, Option.isNone_none, n_add, n_addl, n_ladd, n_mul, n_sub0, n_ss, n_subt, n_sublt, n_lt, n_le, n_eq, n_0lt, n_1le, n_eq0, n_leb, n_geb, n_natAbs, sing_eq, safeB_none, safeB_nil, safeB_some, own_none, own_some, g_addi, g_adds, g_subi, g_muli, wrE, wrEs, wrEo, wrAs, wrSrc, wrP, wrS, wrSs, md, mdS, Tg.slots, Tgs.slots, P.root, small_ofNat, small_neg, pu_non, pu_bl, pu_int, pu_str, pu_tup, pu_fls, puL_nil, puL_con, puL_map, puL_app, puL_enum, isStr_str, isDct_dct, isNon_non, isNon_int, isNon_str, isNon_tup, isNon_lst, setAt0, setAt1, cut_to, cut_from, cut_ft, cut_tol, cut_froml, cut_all, cut_map, ixOk_nat, ixN_nat, ixOk_lit, ixN_lit, ixOk_m1, ixN_m1, List.nil_append, List.append_nil, List.cons_append, hasN, List.length_map, List.length_range, List.length_cons, List.length_nil, Bool.not_true, Bool.not_false, Bool.not_not, Bool.true_and, Bool.and_true, Bool.or_true, Bool.true_or, Bool.false_or, Bool.or_false, Bool.and_self, Bool.not_eq_true', Bool.false_eq_true, decide_true, decide_false, decide_eq_true_eq, decide_eq_false_iff_not, true_and, and_true, implies_true, and_self, ne_eq, not_true_eq_false, not_false_eq_true, false_implies, true_implies, eq_self, forall_const, Nat.reduceBEq, Nat.reduceEqDiff, Nat.reduceLT, Nat.reduceAdd, Nat.reduceSub, Nat.reduceLeDiff, Nat.reducePow, Int.reduceLT, Int.reduceLE, Int.reduceNeg, Int.reduceAdd, Int.reduceSub, Int.reducePow, Int.reduceToNat, Int.toNat_natCast, beq_self_eq_true, Bool.and_eq_true, Bool.or_eq_true]
  refine ⟨hc, comp_pure (fun c => [some (.str al), some (.int ((m + 1 : Nat) : Int)), some (.str w), none, some (.str [c]), none]) (fun _ => true) (fun c => .bl (decide (c ∈ al))) hc (fun _ => rfl) (fun _ => rfl) (fun _ => rfl) rfl (fun k hk => ⟨rfl, rfl⟩) (fun k hk _ => ?_) ?_⟩
  · simp -failIfUnchanged -implicitDefEqProofs only [↓gK0, ↓gKs, ↓setK0, ↓setKs, ↓setN0, ↓setNs, ↓setM0, ↓setMs, ↓clrK0, ↓clrKs, ↓bK_bl, ↓iK_int, ↓brK_true, ↓brK_false, ↓brK_dec, ↓brK_not, ↓brK_and, ↓w_ok, ↓w_var, ↓w_mv, ↓w_int, ↓w_str, ↓w_bl, ↓w_non, ↓w_neg, ↓w_bin, ↓w_cmp, ↓w_and, ↓w_or, ↓w_not, ↓w_ite, ↓w_tup, ↓w_lst, ↓w_nil, ↓w_con, ↓w_ix, ↓w_eo0, ↓w_eo1, ↓w_sl, ↓w_rev, ↓w_bi, ↓w_bi2, ↓w_bi3, ↓w_lcp, ↓w_cmp2, ↓w_tr1, ↓w_tr2, ↓w_lset, ↓w_sidx, ↓w_dcl, ↓w_dis, ↓w_join, ↓w_get, ↓w_ssn, ↓w_kill, ↓w_ssc, ↓nxt_nx, ↓nxt_rt, ↓nxt_bk, ↓nxt_ct, ↓w_set, ↓tsK0, ↓tsKs, ↓tgKv, ↓tgKt, ↓tupK_t, ↓w_tset, ↓w_aug, ↓gK_v, ↓gK_x, ↓setM_v, ↓setM_x, ↓atK0, ↓atKs, ↓atK0a, ↓atKsa, ↓w_pv, ↓w_px, ↓w_put, ↓lstK_l, ↓w_app, ↓lsK_l, ↓w_ext, ↓popK_appm, ↓popK_app, ↓popK_con, ↓w_pop, ↓w_ex, ↓w_ret, ↓w_retN, ↓w_brk, ↓w_cnt, ↓w_pass, ↓w_if, ↓w_an, ↓w_av, ↓w_ar, ↓takK0, ↓takKd, ↓takKr, ↓givK0, ↓givKd, ↓givKr, ↓w_call, ↓w_se, ↓w_s1, ↓w_s2, ↓w_s3, ↓w_sn, ↓w_for, ↓w_wh, ↓lpq_nx, ↓lpq_ct, ↓lpq_bk, ↓lpq_rt, ↓w_cn, ↓w_cs, ↓w_comp, ↓o_add, ↓o_sub, ↓o_adds, ↓o_addt, ↓o_addl, ↓o_mul, ↓o_muls, ↓o_mull, ↓o_div, ↓o_mod, ↓o_pow, ↓c_eq, ↓c_ne, ↓c_lt, ↓c_le, ↓c_gt, ↓c_ge, ↓c_eqs, ↓c_nes, ↓c_lts, ↓c_gts, ↓c_les, ↓c_ges, ↓c_neb, ↓c_eqb, ↓c_ins, ↓c_isn, ↓c_ntn, ↓t_bl, ↓t_int, ↓t_str, ↓t_non, ↓t_lst, ↓t_tup, ↓ixK_0, ↓ixK_1, ↓ixK_2, ↓ixK_3, ↓ixK_l1, ↓ixK_l2, ↓ixK_l3, ↓ixK_m1, ↓ixK_map, ↓x_str, ↓x_tup, ↓x_lst, ↓x_fls, ↓l_str, ↓l_tup, ↓l_lst, ↓r_str, ↓r_lst, ↓b_lens, ↓b_lenl, ↓b_lent, ↓b_lenf, ↓b_lend, ↓b_abs, ↓b_int, ↓b_intb, ↓b_tupt, ↓b_tupl, ↓b_lstt, ↓b_lstl, ↓b_lstf, ↓b_lstx, ↓s_set, ↓b_sum, ↓b_any, ↓b_all, ↓j_map, ↓i_str, ↓i_lst, ↓i_tup, ↓i_fls, ↓m_min, ↓m_max, ↓m_min3, ↓m_max3, ↓p_appn, ↓p_appl, ↓p_appi, ↓p_apps, ↓p_app0, ↓p_appc, ↓p_appa, ↓p_ext, ↓p_putm, ↓p_put0, ↓p_put1, ↓p_put2, ↓p_put3, ↓stepK_map, ↓posK_map, ↓end_rt, ↓end_nx, cond_true, cond_false, Option.isNone_none, n_add, n_addl, n_ladd, n_mul, n_sub0, n_ss, n_subt, n_sublt, n_lt, n_le, n_eq, n_0lt, n_1le, n_eq0, n_leb, n_geb, n_natAbs, sing_eq, safeB_none, safeB_nil, safeB_some, own_none, own_some, g_addi, g_adds, g_subi, g_muli, wrE, wrEs, wrEo, wrAs, wrSrc, wrP, wrS, wrSs, md, mdS, Tg.slots, Tgs.slots, P.root, small_ofNat, small_neg, pu_non, pu_bl, pu_int, pu_str, pu_tup, pu_fls, puL_nil, puL_con, puL_map, puL_app, puL_enum, isStr_str, isDct_dct, isNon_non, isNon_int, isNon_str, isNon_tup, isNon_lst, setAt0, setAt1, cut_to, cut_from, cut_ft, cut_tol, cut_froml, cut_all, cut_map, ixOk_nat, ixN_nat, ixOk_lit, ixN_lit, ixOk_m1, ixN_m1, List.nil_append, List.append_nil, List.cons_append, hasN, List.length_map, List.length_range, List.length_cons, List.length_nil, Bool.not_true, Bool.not_false, Bool.not_not, Bool.true_and, Bool.and_true, Bool.or_true, Bool.true_or, Bool.false_or, Bool.or_false, Bool.and_self, Bool.not_eq_true', Bool.false_eq_true, decide_true, decide_false, decide_eq_true_eq, decide_eq_false_iff_not, true_and, and_true, implies_true, and_self, ne_eq, not_true_eq_false, not_false_eq_true, false_implies, true_implies, eq_self, forall_const, Nat.reduceBEq, Nat.reduceEqDiff, Nat.reduceLT, Nat.reduceAdd, Nat.reduceSub, Nat.reduceLeDiff, Nat.reducePow, Int.reduceLT, Int.reduceLE, Int.reduceNeg, Int.reduceAdd, Int.reduceSub, Int.reducePow, Int.reduceToNat, Int.toNat_natCast, beq_self_eq_true, Bool.and_eq_true, Bool.or_eq_true]
  rw [filter_tt]
  simp -failIfUnchanged -implicitDefEqProofs only [↓gK0, ↓gKs, ↓setK0, ↓setKs, ↓setN0, ↓setNs, ↓setM0, ↓setMs, ↓clrK0, ↓clrKs, ↓bK_bl, ↓iK_int, ↓brK_true, ↓brK_false, ↓brK_dec, ↓brK_not, ↓brK_and, ↓w_ok, ↓w_var, ↓w_mv, ↓w_int, ↓w_str, ↓w_bl, ↓w_non, ↓w_neg, ↓w_bin, ↓w_cmp, ↓w_and, ↓w_or, ↓w_not, ↓w_ite, ↓w_tup, ↓w_lst, ↓w_nil, ↓w_con, ↓w_ix, ↓w_eo0, ↓w_eo1, ↓w_sl, ↓w_rev, ↓w_bi, ↓w_bi2, ↓w_bi3, ↓w_lcp, ↓w_cmp2, ↓w_tr1, ↓w_tr2, ↓w_lset, ↓w_sidx, ↓w_dcl, ↓w_dis, ↓w_join, ↓w_get, ↓w_ssn, ↓w_kill, ↓w_ssc, ↓nxt_nx, ↓nxt_rt, ↓nxt_bk, ↓nxt_ct, ↓w_set, ↓tsK0, ↓tsKs, ↓tgKv, ↓tgKt, ↓tupK_t, ↓w_tset, ↓w_aug, ↓gK_v, ↓gK_x, ↓setM_v, ↓setM_x, ↓atK0, ↓atKs, ↓atK0a, ↓atKsa, ↓w_pv, ↓w_px, ↓w_put, ↓lstK_l, ↓w_app, ↓lsK_l, ↓w_ext, ↓popK_appm, ↓popK_app, ↓popK_con, ↓w_pop, ↓w_ex, ↓w_ret, ↓w_retN, ↓w_brk, ↓w_cnt, ↓w_pass, ↓w_if, ↓w_an, ↓w_av, ↓w_ar, ↓takK0, ↓takKd, ↓takKr, ↓givK0, ↓givKd, ↓givKr, ↓w_call, ↓w_se, ↓w_s1, ↓w_s2, ↓w_s3, ↓w_sn, ↓w_for, ↓w_wh, ↓lpq_nx, ↓lpq_ct, ↓lpq_bk, ↓lpq_rt, ↓w_cn, ↓w_cs, ↓w_comp, ↓o_add, ↓o_sub, ↓o_adds, ↓o_addt, ↓o_addl, ↓o_mul, ↓o_muls, ↓o_mull, ↓o_div, ↓o_mod, ↓o_pow, ↓c_eq, ↓c_ne, ↓c_lt, ↓c_le, ↓c_gt, ↓c_ge, ↓c_eqs, ↓c_nes, ↓c_lts, ↓c_gts, ↓c_les, ↓c_ges, ↓c_neb, ↓c_eqb, ↓c_ins, ↓c_isn, ↓c_ntn, ↓t_bl, ↓t_int, ↓t_str, ↓t_non, ↓t_lst, ↓t_tup, ↓ixK_0, ↓ixK_1, ↓ixK_2, ↓ixK_3, ↓ixK_l1, ↓ixK_l2, ↓ixK_l3, ↓ixK_m1, ↓ixK_map, ↓x_str, ↓x_tup, ↓x_lst, ↓x_fls, ↓l_str, ↓l_tup, ↓l_lst, ↓r_str, ↓r_lst, ↓b_lens, ↓b_lenl, ↓b_lent, ↓b_lenf, ↓b_lend, ↓b_abs, ↓b_int, ↓b_intb, ↓b_tupt, ↓b_tupl, ↓b_lstt, ↓b_lstl, ↓b_lstf, ↓b_lstx, ↓s_set, ↓b_sum, ↓b_any, ↓b_all, ↓j_map, ↓i_str, ↓i_lst, ↓i_tup, ↓i_fls, ↓m_min, ↓m_max, ↓m_min3, ↓m_max3, ↓p_appn, ↓p_appl, ↓p_appi, ↓p_apps, ↓p_app0, ↓p_appc, ↓p_appa, ↓p_ext, ↓p_putm, ↓p_put0, ↓p_put1, ↓p_put2, ↓p_put3, ↓stepK_map, ↓posK_map, ↓end_rt, ↓end_nx, cond_true, cond_false, Option.isNone_none, n_add, n_addl, n_ladd, n_mul, n_sub0, n_ss, n_subt, n_sublt, n_lt, n_le, n_eq, n_0lt, n_1le, n_eq0, n_leb, n_geb, n_natAbs, sing_eq, safeB_none, safeB_nil, safeB_some, own_none, own_some, g_addi, g_adds, g_subi, g_muli, wrE, wrEs, wrEo, wrAs, wrSrc, wrP, wrS, wrSs, md, mdS, Tg.slots, Tgs.slots, P.root, small_ofNat, small_neg, pu_non, pu_bl, pu_int, pu_str, pu_tup, pu_fls, puL_nil, puL_con, puL_map, puL_app, puL_enum, isStr_str, isDct_dct, isNon_non, isNon_int, isNon_str, isNon_tup, isNon_lst, setAt0, setAt1, cut_to, cut_from, cut_ft, cut_tol, cut_froml, cut_all, cut_map, ixOk_nat, ixN_nat, ixOk_lit, ixN_lit, ixOk_m1, ixN_m1, List.nil_append, List.append_nil, List.cons_append, hasN, List.length_map, List.length_range, List.length_cons, List.length_nil, Bool.not_true, Bool.not_false, Bool.not_not, Bool.true_and, Bool.and_true, Bool.or_true, Bool.true_or, Bool.false_or, Bool.or_false, Bool.and_self, Bool.not_eq_true', Bool.false_eq_true, decide_true, decide_false, decide_eq_true_eq, decide_eq_false_iff_not, true_and, and_true, implies_true, and_self, ne_eq, not_true_eq_false, not_false_eq_true, false_implies, true_implies, eq_self, forall_const, Nat.reduceBEq, Nat.reduceEqDiff, Nat.reduceLT, Nat.reduceAdd, Nat.reduceSub, Nat.reduceLeDiff, Nat.reducePow, Int.reduceLT, Int.reduceLE, Int.reduceNeg, Int.reduceAdd, Int.reduceSub, Int.reducePow, Int.reduceToNat, Int.toNat_natCast, beq_self_eq_true, Bool.and_eq_true, Bool.or_eq_true]
  have no1 : w.all (fun x => decide (x ∈ al)) = false → onceB al (m + 1) w = false := fun h => by simp [onceB, h]
  have no2 : w.length < m + 1 → onceB al (m + 1) w = false := fun h => by
    unfold onceB
    rw [show decide (m + 1 ≤ w.length) = false from decide_eq_false (by omega)]; rfl
  cases hal : w.all (fun x => decide (x ∈ al)) with
  | false =>
    rw [brK_false, no1 hal]
    exact ⟨rfl, rfl⟩
  | true =>
    rw [brK_true]
    refine ⟨hc, fun h => by rw [no2 h]; exact ⟨rfl, rfl⟩, fun h => wpf_mono (sR w m hw hm) ?_⟩
    rintro r rs ⟨rfl, rfl⟩
    have hrl := ringP_len (n := m + 1) (w := w)
    simp -failIfUnchanged -implicitDefEqProofs only [↓gK0, ↓gKs, ↓setK0, ↓setKs, ↓setN0, ↓setNs, ↓setM0, ↓setMs, ↓clrK0, ↓clrKs, ↓bK_bl, ↓iK_int, ↓brK_true, ↓brK_false, ↓brK_dec, ↓brK_not, ↓brK_and, ↓w_ok, ↓w_var, ↓w_mv, ↓w_int, ↓w_str, ↓w_bl, ↓w_non, ↓w_neg, ↓w_bin, ↓w_cmp, ↓w_and, ↓w_or, ↓w_not, ↓w_ite, ↓w_tup, ↓w_lst, ↓w_nil, ↓w_con, ↓w_ix, ↓w_eo0, ↓w_eo1, ↓w_sl, ↓w_rev, ↓w_bi, ↓w_bi2, ↓w_bi3, ↓w_lcp, ↓w_cmp2, ↓w_tr1, ↓w_tr2, ↓w_lset, ↓w_sidx, ↓w_dcl, ↓w_dis, ↓w_join, ↓w_get, ↓w_ssn, ↓w_kill, ↓w_ssc, ↓nxt_nx, ↓nxt_rt, ↓nxt_bk, ↓nxt_ct, ↓w_set, ↓tsK0, ↓tsKs, ↓tgKv, ↓tgKt, ↓tupK_t, ↓w_tset, ↓w_aug, ↓gK_v, ↓gK_x, ↓setM_v, ↓setM_x, ↓atK0, ↓atKs, ↓atK0a, ↓atKsa, ↓w_pv, ↓w_px, ↓w_put, ↓lstK_l, ↓w_app, ↓lsK_l, ↓w_ext, ↓popK_appm, ↓popK_app, ↓popK_con, ↓w_pop, ↓w_ex, ↓w_ret, ↓w_retN, ↓w_brk, ↓w_cnt, ↓w_pass, ↓w_if, ↓w_an, ↓w_av, ↓w_ar, ↓takK0, ↓takKd, ↓takKr, ↓givK0, ↓givKd, ↓givKr, ↓w_call, ↓w_se, ↓w_s1, ↓w_s2, ↓w_s3, ↓w_sn, ↓w_for, ↓w_wh, ↓lpq_nx, ↓lpq_ct, ↓lpq_bk, ↓lpq_rt, ↓w_cn, ↓w_cs, ↓w_comp, ↓o_add, ↓o_sub, ↓o_adds, ↓o_addt, ↓o_addl, ↓o_mul, ↓o_muls, ↓o_mull, ↓o_div, ↓o_mod, ↓o_pow, ↓c_eq, ↓c_ne, ↓c_lt, ↓c_le, ↓c_gt, ↓c_ge, ↓c_eqs, ↓c_nes, ↓c_lts, ↓c_gts, ↓c_les, ↓c_ges, ↓c_neb, ↓c_eqb, ↓c_ins, ↓c_isn, ↓c_ntn, ↓t_bl, ↓t_int, ↓t_str, ↓t_non, ↓t_lst, ↓t_tup, ↓ixK_0, ↓ixK_1, ↓ixK_2, ↓ixK_3, ↓ixK_l1, ↓ixK_l2, ↓ixK_l3, ↓ixK_m1, ↓ixK_map, ↓x_str, ↓x_tup, ↓x_lst, ↓x_fls, ↓l_str, ↓l_tup, ↓l_lst, ↓r_str, ↓r_lst, ↓b_lens, ↓b_lenl, ↓b_lent, ↓b_lenf, ↓b_lend, ↓b_abs, ↓b_int, ↓b_intb, ↓b_tupt, ↓b_tupl, ↓b_lstt, ↓b_lstl, ↓b_lstf, ↓b_lstx, ↓s_set, ↓b_sum, ↓b_any, ↓b_all, ↓j_map, ↓i_str, ↓i_lst, ↓i_tup, ↓i_fls, ↓m_min, ↓m_max, ↓m_min3, ↓m_max3, ↓p_appn, ↓p_appl, ↓p_appi, ↓p_apps, ↓p_app0, ↓p_appc, ↓p_appa, ↓p_ext, ↓p_putm, ↓p_put0, ↓p_put1, ↓p_put2, ↓p_put3, ↓stepK_map, ↓posK_map, ↓end_rt, ↓end_nx, cond_true, cond_false, Option.isNone_none, n_add, n_addl, n_ladd, n_mul, n_sub0, n_ss, n_subt, n_sublt, n_lt, n_le, n_eq, n_0lt, n_1le, n_eq0, n_leb, n_geb, n_natAbs, sing_eq, safeB_none, safeB_nil, safeB_some, own_none, own_some, g_addi, g_adds, g_subi, g_muli, wrE, wrEs, wrEo, wrAs, wrSrc, wrP, wrS, wrSs, md, mdS, Tg.slots, Tgs.slots, P.root, small_ofNat, small_neg, pu_non, pu_bl, pu_int, pu_str, pu_tup, pu_fls, puL_nil, puL_con, puL_map, puL_app, puL_enum, isStr_str, isDct_dct, isNon_non, isNon_int, isNon_str, isNon_tup, isNon_lst, setAt0, setAt1, cut_to, cut_from, cut_ft, cut_tol, cut_froml, cut_all, cut_map, ixOk_nat, ixN_nat, ixOk_lit, ixN_lit, ixOk_m1, ixN_m1, List.nil_append, List.append_nil, List.cons_append, hasN, List.length_map, List.length_range, List.length_cons, List.length_nil, Bool.not_true, Bool.not_false, Bool.not_not, Bool.true_and, Bool.and_true, Bool.or_true, Bool.true_or, Bool.false_or, Bool.or_false, Bool.and_self, Bool.not_eq_true', Bool.false_eq_true, decide_true, decide_false, decide_eq_true_eq, decide_eq_false_iff_not, true_and, and_true, implies_true, and_self, ne_eq, not_true_eq_false, not_false_eq_true, false_implies, true_implies, eq_self, forall_const, Nat.reduceBEq, Nat.reduceEqDiff, Nat.reduceLT, Nat.reduceAdd, Nat.reduceSub, Nat.reduceLeDiff, Nat.reducePow, Int.reduceLT, Int.reduceLE, Int.reduceNeg, Int.reduceAdd, Int.reduceSub, Int.reducePow, Int.reduceToNat, Int.toNat_natCast, beq_self_eq_true, Bool.and_eq_true, Bool.or_eq_true]
    refine ⟨hca, wpf_mono (sP al.length (m + 1) (by omega) (by omega)) ?_⟩
    rintro r rs ⟨rfl, rfl⟩
    simp -failIfUnchanged -implicitDefEqProofs only [litD, hrl, ↓gK0, ↓gKs, ↓setK0, ↓setKs, ↓setN0, ↓setNs, ↓setM0, ↓setMs, ↓clrK0, ↓clrKs, ↓bK_bl, ↓iK_int, ↓brK_true, ↓brK_false, ↓brK_dec, ↓brK_not, ↓brK_and, ↓w_ok, ↓w_var, ↓w_mv, ↓w_int, ↓w_str, ↓w_bl, ↓w_non, ↓w_neg, ↓w_bin, ↓w_cmp, ↓w_and, ↓w_or, ↓w_not, ↓w_ite, ↓w_tup, ↓w_lst, ↓w_nil, ↓w_con, ↓w_ix, ↓w_eo0, ↓w_eo1, ↓w_sl, ↓w_rev, ↓w_bi, ↓w_bi2, ↓w_bi3, ↓w_lcp, ↓w_cmp2, ↓w_tr1, ↓w_tr2, ↓w_lset, ↓w_sidx, ↓w_dcl, ↓w_dis, ↓w_join, ↓w_get, ↓w_ssn, ↓w_kill, ↓w_ssc, ↓nxt_nx, ↓nxt_rt, ↓nxt_bk, ↓nxt_ct, ↓w_set, ↓tsK0, ↓tsKs, ↓tgKv, ↓tgKt, ↓tupK_t, ↓w_tset, ↓w_aug, ↓gK_v, ↓gK_x, ↓setM_v, ↓setM_x, ↓atK0, ↓atKs, ↓atK0a, ↓atKsa, ↓w_pv, ↓w_px, ↓w_put, ↓lstK_l, ↓w_app, ↓lsK_l, ↓w_ext, ↓popK_appm, ↓popK_app, ↓popK_con, ↓w_pop, ↓w_ex, ↓w_ret, ↓w_retN, ↓w_brk, ↓w_cnt, ↓w_pass, ↓w_if, ↓w_an, ↓w_av, ↓w_ar, ↓takK0, ↓takKd, ↓takKr, ↓givK0, ↓givKd, ↓givKr, ↓w_call, ↓w_se, ↓w_s1, ↓w_s2, ↓w_s3, ↓w_sn, ↓w_for, ↓w_wh, ↓lpq_nx, ↓lpq_ct, ↓lpq_bk, ↓lpq_rt, ↓w_cn, ↓w_cs, ↓w_comp, ↓o_add, ↓o_sub, ↓o_adds, ↓o_addt, ↓o_addl, ↓o_mul, ↓o_muls, ↓o_mull, ↓o_div, ↓o_mod, ↓o_pow, ↓c_eq, ↓c_ne, ↓c_lt, ↓c_le, ↓c_gt, ↓c_ge, ↓c_eqs, ↓c_nes, ↓c_lts, ↓c_gts, ↓c_les, ↓c_ges, ↓c_neb, ↓c_eqb, ↓c_ins, ↓c_isn, ↓c_ntn, ↓t_bl, ↓t_int, ↓t_str, ↓t_non, ↓t_lst, ↓t_tup, ↓ixK_0, ↓ixK_1, ↓ixK_2, ↓ixK_3, ↓ixK_l1, ↓ixK_l2, ↓ixK_l3, ↓ixK_m1, ↓ixK_map, ↓x_str, ↓x_tup, ↓x_lst, ↓x_fls, ↓l_str, ↓l_tup, ↓l_lst, ↓r_str, ↓r_lst, ↓b_lens, ↓b_lenl, ↓b_lent, ↓b_lenf, ↓b_lend, ↓b_abs, ↓b_int, ↓b_intb, ↓b_tupt, ↓b_tupl, ↓b_lstt, ↓b_lstl, ↓b_lstf, ↓b_lstx, ↓s_set, ↓b_sum, ↓b_any, ↓b_all, ↓j_map, ↓i_str, ↓i_lst, ↓i_tup, ↓i_fls, ↓m_min, ↓m_max, ↓m_min3, ↓m_max3, ↓p_appn, ↓p_appl, ↓p_appi, ↓p_apps, ↓p_app0, ↓p_appc, ↓p_appa, ↓p_ext, ↓p_putm, ↓p_put0, ↓p_put1, ↓p_put2, ↓p_put3, ↓stepK_map, ↓posK_map, ↓end_rt, ↓end_nx, cond_true, cond_false, Option.isNone_none, n_add, n_addl, n_ladd, n_mul, n_sub0, n_ss, n_subt, n_sublt, n_lt, n_le, n_eq, n_0lt, n_1le, n_eq0, n_leb, n_geb, n_natAbs, sing_eq, safeB_none, safeB_nil, safeB_some, own_none, own_some, g_addi, g_adds, g_subi, g_muli, wrE, wrEs, wrEo, wrAs, wrSrc, wrP, wrS, wrSs, md, mdS, Tg.slots, Tgs.slots, P.root, small_ofNat, small_neg, pu_non, pu_bl, pu_int, pu_str, pu_tup, pu_fls, puL_nil, puL_con, puL_map, puL_app, puL_enum, isStr_str, isDct_dct, isNon_non, isNon_int, isNon_str, isNon_tup, isNon_lst, setAt0, setAt1, cut_to, cut_from, cut_ft, cut_tol, cut_froml, cut_all, cut_map, ixOk_nat, ixN_nat, ixOk_lit, ixN_lit, ixOk_m1, ixN_m1, List.nil_append, List.append_nil, List.cons_append, hasN, List.length_map, List.length_range, List.length_cons, List.length_nil, Bool.not_true, Bool.not_false, Bool.not_not, Bool.true_and, Bool.and_true, Bool.or_true, Bool.true_or, Bool.false_or, Bool.or_false, Bool.and_self, Bool.not_eq_true', Bool.false_eq_true, decide_true, decide_false, decide_eq_true_eq, decide_eq_false_iff_not, true_and, and_true, implies_true, and_self, ne_eq, not_true_eq_false, not_false_eq_true, false_implies, true_implies, eq_self, forall_const, Nat.reduceBEq, Nat.reduceEqDiff, Nat.reduceLT, Nat.reduceAdd, Nat.reduceSub, Nat.reduceLeDiff, Nat.reducePow, Int.reduceLT, Int.reduceLE, Int.reduceNeg, Int.reduceAdd, Int.reduceSub, Int.reducePow, Int.reduceToNat, Int.toNat_natCast, beq_self_eq_true, Bool.and_eq_true, Bool.or_eq_true]
    have hn : decide (m + 1 ≤ w.length) = true := decide_eq_true (by omega)
    refine ⟨fun e => ⟨⟨keys_strs (f := id), hc⟩, ?_⟩, fun e => ⟨rfl, ?_⟩⟩
    · rw [Option.map_some, wp_some]
      simp -failIfUnchanged -implicitDefEqProofs only [dc_strs, ↓gK0, ↓gKs, ↓setK0, ↓setKs, ↓setN0, ↓setNs, ↓setM0, ↓setMs, ↓clrK0, ↓clrKs, ↓bK_bl, ↓iK_int, ↓brK_true, ↓brK_false, ↓brK_dec, ↓brK_not, ↓brK_and, ↓w_ok, ↓w_var, ↓w_mv, ↓w_int, ↓w_str, ↓w_bl, ↓w_non, ↓w_neg, ↓w_bin, ↓w_cmp, ↓w_and, ↓w_or, ↓w_not, ↓w_ite, ↓w_tup, ↓w_lst, ↓w_nil, ↓w_con, ↓w_ix, ↓w_eo0, ↓w_eo1, ↓w_sl, ↓w_rev, ↓w_bi, ↓w_bi2, ↓w_bi3, ↓w_lcp, ↓w_cmp2, ↓w_tr1, ↓w_tr2, ↓w_lset, ↓w_sidx, ↓w_dcl, ↓w_dis, ↓w_join, ↓w_get, ↓w_ssn, ↓w_kill, ↓w_ssc, ↓nxt_nx, ↓nxt_rt, ↓nxt_bk, ↓nxt_ct, ↓w_set, ↓tsK0, ↓tsKs, ↓tgKv, ↓tgKt, ↓tupK_t, ↓w_tset, ↓w_aug, ↓gK_v, ↓gK_x, ↓setM_v, ↓setM_x, ↓atK0, ↓atKs, ↓atK0a, ↓atKsa, ↓w_pv, ↓w_px, ↓w_put, ↓lstK_l, ↓w_app, ↓lsK_l, ↓w_ext, ↓popK_appm, ↓popK_app, ↓popK_con, ↓w_pop, ↓w_ex, ↓w_ret, ↓w_retN, ↓w_brk, ↓w_cnt, ↓w_pass, ↓w_if, ↓w_an, ↓w_av, ↓w_ar, ↓takK0, ↓takKd, ↓takKr, ↓givK0, ↓givKd, ↓givKr, ↓w_call, ↓w_se, ↓w_s1, ↓w_s2, ↓w_s3, ↓w_sn, ↓w_for, ↓w_wh, ↓lpq_nx, ↓lpq_ct, ↓lpq_bk, ↓lpq_rt, ↓w_cn, ↓w_cs, ↓w_comp, ↓o_add, ↓o_sub, ↓o_adds, ↓o_addt, ↓o_addl, ↓o_mul, ↓o_muls, ↓o_mull, ↓o_div, ↓o_mod, ↓o_pow, ↓c_eq, ↓c_ne, ↓c_lt, ↓c_le, ↓c_gt, ↓c_ge, ↓c_eqs, ↓c_nes, ↓c_lts, ↓c_gts, ↓c_les, ↓c_ges, ↓c_neb, ↓c_eqb, ↓c_ins, ↓c_isn, ↓c_ntn, ↓t_bl, ↓t_int, ↓t_str, ↓t_non, ↓t_lst, ↓t_tup, ↓ixK_0, ↓ixK_1, ↓ixK_2, ↓ixK_3, ↓ixK_l1, ↓ixK_l2, ↓ixK_l3, ↓ixK_m1, ↓ixK_map, ↓x_str, ↓x_tup, ↓x_lst, ↓x_fls, ↓l_str, ↓l_tup, ↓l_lst, ↓r_str, ↓r_lst, ↓b_lens, ↓b_lenl, ↓b_lent, ↓b_lenf, ↓b_lend, ↓b_abs, ↓b_int, ↓b_intb, ↓b_tupt, ↓b_tupl, ↓b_lstt, ↓b_lstl, ↓b_lstf, ↓b_lstx, ↓s_set, ↓b_sum, ↓b_any, ↓b_all, ↓j_map, ↓i_str, ↓i_lst, ↓i_tup, ↓i_fls, ↓m_min, ↓m_max, ↓m_min3, ↓m_max3, ↓p_appn, ↓p_appl, ↓p_appi, ↓p_apps, ↓p_app0, ↓p_appc, ↓p_appa, ↓p_ext, ↓p_putm, ↓p_put0, ↓p_put1, ↓p_put2, ↓p_put3, ↓stepK_map, ↓posK_map, ↓end_rt, ↓end_nx, cond_true, cond_false, Option.isNone_none, n_add, n_addl, n_ladd, n_mul, n_sub0, n_ss, n_subt, n_sublt, n_lt, n_le, n_eq, n_0lt, n_1le, n_eq0, n_leb, n_geb, n_natAbs, sing_eq, safeB_none, safeB_nil, safeB_some, own_none, own_some, g_addi, g_adds, g_subi, g_muli, wrE, wrEs, wrEo, wrAs, wrSrc, wrP, wrS, wrSs, md, mdS, Tg.slots, Tgs.slots, P.root, small_ofNat, small_neg, pu_non, pu_bl, pu_int, pu_str, pu_tup, pu_fls, puL_nil, puL_con, puL_map, puL_app, puL_enum, isStr_str, isDct_dct, isNon_non, isNon_int, isNon_str, isNon_tup, isNon_lst, setAt0, setAt1, cut_to, cut_from, cut_ft, cut_tol, cut_froml, cut_all, cut_map, ixOk_nat, ixN_nat, ixOk_lit, ixN_lit, ixOk_m1, ixN_m1, List.nil_append, List.append_nil, List.cons_append, hasN, List.length_map, List.length_range, List.length_cons, List.length_nil, Bool.not_true, Bool.not_false, Bool.not_not, Bool.true_and, Bool.and_true, Bool.or_true, Bool.true_or, Bool.false_or, Bool.or_false, Bool.and_self, Bool.not_eq_true', Bool.false_eq_true, decide_true, decide_false, decide_eq_true_eq, decide_eq_false_iff_not, true_and, and_true, implies_true, and_self, ne_eq, not_true_eq_false, not_false_eq_true, false_implies, true_implies, eq_self, forall_const, Nat.reduceBEq, Nat.reduceEqDiff, Nat.reduceLT, Nat.reduceAdd, Nat.reduceSub, Nat.reduceLeDiff, Nat.reducePow, Int.reduceLT, Int.reduceLE, Int.reduceNeg, Int.reduceAdd, Int.reduceSub, Int.reducePow, Int.reduceToNat, Int.toNat_natCast, beq_self_eq_true, Bool.and_eq_true, Bool.or_eq_true]
      refine ⟨rfl, ?_⟩
      congr 1
      unfold onceB
      rw [hn, hal, decide_eq_true e]
      simp only [Bool.true_and, decide_eq_decide]
      exact eq_comm
    · congr 1
      unfold onceB
      rw [decide_eq_false e]
      simp
theorem standsS {n m : Nat} {al w : Wrd} (ha : al.length ≤ 100) (hw : w.length ≤ 1000) (hm : m ≤ 100) : WpF (fns T (n + 2) 3 [.str al, .int ((m + 1 : Nat) : Int), .str w]) (fun r rs => rs = [none, none, none] ∧ r = .bl (onceB al (m + 1) w)) := fns_wp rfl rfl rfl rfl (stands_c (fun w m h1 h2 => ringsS h1 h2) (fun b k h1 h2 => powS h1 h2) ha hw hm)
theorem s_set1 {l : List Wrd} {ρ : Env} {Q : D → Env → Prop} : Wp (lift (lsetF (.lst (l.map D.str))) ρ) Q = (l.length ≤ 4000 ∧ Q (.int (ddl l).length) ρ) := by
  have := s_set (f := fun x : Wrd => x) (l := l) (ρ := ρ) (Q := Q)
  rw [List.map_id'] at this
  exact this
theorem once_c {Γ : Fns} {m : Nat} {al w : Wrd} (ha : al.length ≤ 100) (hw : w.length ≤ 1000) (hm : m ≤ 100) : Wp (evSs Γ c12 [some (.str al), some (.int ((m + 1 : Nat) : Int)), some (.str w), none, none, none, none, none, none]) (EndQ f12 fun r rs => rs = [none, none, none] ∧ r = .bl (onceB al (m + 1) w)) := by
  have hc : w.length ≤ cap := by unfold cap; omega
  have hca : al.length ≤ cap := by unfold cap; omega
  have hc2 : (w.take m).length ≤ m := by rw [List.length_take]; omega
  unfold c12
  simp -failIfUnchanged -implicitDefEqProofs only [↓gK0, ↓gKs, ↓setK0, ↓setKs, ↓setN0, ↓setNs, ↓setM0, ↓setMs, ↓clrK0, ↓clrKs, ↓bK_bl, ↓iK_int, ↓brK_true, ↓brK_false, ↓brK_dec, ↓brK_not, ↓brK_and, ↓w_ok, ↓w_var, ↓w_mv, ↓w_int, ↓w_str, ↓w_bl, ↓w_non, ↓w_neg, ↓w_bin, ↓w_cmp, ↓w_and, ↓w_or, ↓w_not, ↓w_ite, ↓w_tup, ↓w_lst, ↓w_nil, ↓w_con, ↓w_ix, ↓w_eo0, ↓w_eo1, ↓w_sl, ↓w_rev, ↓w_bi, ↓w_bi2, ↓w_bi3, ↓w_lcp, ↓w_cmp2, ↓w_tr1, ↓w_tr2, ↓w_lset, ↓w_sidx, ↓w_dcl, ↓w_dis, ↓w_join, ↓w_get, ↓w_ssn, ↓w_kill, ↓w_ssc, ↓nxt_nx, ↓nxt_rt, ↓nxt_bk, ↓nxt_ct, ↓w_set, ↓tsK0, ↓tsKs, ↓tgKv, ↓tgKt, ↓tupK_t, ↓w_tset, ↓w_aug, ↓gK_v, ↓gK_x, ↓setM_v, ↓setM_x, ↓atK0, ↓atKs, ↓atK0a, ↓atKsa, ↓w_pv, ↓w_px, ↓w_put, ↓lstK_l, ↓w_app, ↓lsK_l, ↓w_ext, ↓popK_appm, ↓popK_app, ↓popK_con, ↓w_pop, ↓w_ex, ↓w_ret, ↓w_retN, ↓w_brk, ↓w_cnt, ↓w_pass, ↓w_if, ↓w_an, ↓w_av, ↓w_ar, ↓takK0, ↓takKd, ↓takKr, ↓givK0, ↓givKd, ↓givKr, ↓w_call, ↓w_se, ↓w_s1, ↓w_s2, ↓w_s3, ↓w_sn, ↓w_for, ↓w_wh, ↓lpq_nx, ↓lpq_ct, ↓lpq_bk, ↓lpq_rt, ↓w_cn, ↓w_cs, ↓w_comp, ↓o_add, ↓o_sub, ↓o_adds, ↓o_addt, ↓o_addl, ↓o_mul, ↓o_muls, ↓o_mull, ↓o_div, ↓o_mod, ↓o_pow, ↓c_eq, ↓c_ne, ↓c_lt, ↓c_le, ↓c_gt, ↓c_ge, ↓c_eqs, ↓c_nes, ↓c_lts, ↓c_gts, ↓c_les, ↓c_ges, ↓c_neb, ↓c_eqb, ↓c_ins, ↓c_isn, ↓c_ntn, ↓t_bl, ↓t_int, ↓t_str, ↓t_non, ↓t_lst, ↓t_tup, ↓ixK_0, ↓ixK_1, ↓ixK_2, ↓ixK_3, ↓ixK_l1, ↓ixK_l2, ↓ixK_l3, ↓ixK_m1, ↓ixK_map, ↓x_str, ↓x_tup, ↓x_lst, ↓x_fls, ↓l_str, ↓l_tup, ↓l_lst, ↓r_str, ↓r_lst, ↓b_lens, ↓b_lenl, ↓b_lent, ↓b_lenf, ↓b_lend, ↓b_abs, ↓b_int, ↓b_intb, ↓b_tupt, ↓b_tupl, ↓b_lstt, ↓b_lstl, ↓b_lstf, ↓b_lstx, ↓s_set, ↓b_sum, ↓b_any, ↓b_all, ↓j_map, ↓i_str, ↓i_lst, ↓i_tup, ↓i_fls, ↓m_min, ↓m_max, ↓m_min3, ↓m_max3, ↓p_appn, ↓p_appl, ↓p_appi, ↓p_apps, ↓p_app0, ↓p_appc, ↓p_appa, ↓p_ext, ↓p_putm, ↓p_put0, ↓p_put1, ↓p_put2, ↓p_put3, ↓stepK_map, ↓posK_map, ↓end_rt, ↓end_nx, cond_true, cond_false, Option.isNone_none, n_add, n_addl, n_ladd, n_mul, n_sub0, n_ss, n_subt, n_sublt, n_lt, n_le, n_eq, n_0lt, n_1le, n_eq0, n_leb, n_geb, n_natAbs, sing_eq, safeB_none, safeB_nil, safeB_some, own_none, own_some, g_addi, g_adds, g_subi, g_muli, wrE, wrEs, wrEo, wrAs, wrSrc, wrP, wrS, wrSs, md, mdS, Tg.slots, Tgs.slots, P.root, small_ofNat, small_neg, pu_non, pu_bl, pu_int, pu_str, pu_tup, pu_fls, puL_nil, puL_con, puL_map, puL_app, puL_enum, isStr_str, isDct_dct, isNon_non, isNon_int, isNon_str, isNon_tup, isNon_lst, setAt0, setAt1, cut_to, cut_from, cut_ft, cut_tol, cut_froml, cut_all, cut_map, ixOk_nat, ixN_nat, ixOk_lit, ixN_lit, ixOk_m1, ixN_m1, List.nil_append, List.append_nil, List.cons_append, hasN, List.length_map, List.length_range, List.length_cons, List.length_nil, Bool.not_true, Bool.not_false, Bool.not_not, Bool.true_and, Bool.and_true, Bool.or_true, Bool.true_or, Bool.false_or, Bool.or_false, Bool.and_self, Bool.not_eq_true', Bool.false_eq_true, decide_true, decide_false, decide_eq_true_eq, decide_eq_false_iff_not, true_and, and_true, implies_true, and_self, ne_eq, not_true_eq_false, not_false_eq_true, false_implies, true_implies, eq_self, forall_const, Nat.reduceBEq, Nat.reduceEqDiff, Nat.reduceLT, Nat.reduceAdd, Nat.reduceSub, Nat.reduceLeDiff, Nat.reducePow, Int.reduceLT, Int.reduceLE, Int.reduceNeg, Int.reduceAdd, Int.reduceSub, Int.reducePow, Int.reduceToNat, Int.toNat_natCast, beq_self_eq_true, Bool.and_eq_true, Bool.or_eq_true]
  refine ⟨hc, by unfold cap; omega, hc, by omega, comp_pure (fun k => [some (.str al), some (.int ((m + 1 : Nat) : Int)), some (.str w), some (.str (w ++ w.take m)), none, none, some (.int (k : Nat)), none, none]) (fun _ => true) (fun k => .str (((w ++ w.take m).drop k).take (m + 1))) (by simp; unfold cap; omega) (fun _ => rfl) (fun _ => rfl) (fun _ => rfl) rfl (fun k hk => ?_) (fun k hk _ => ?_) ?_⟩
  · exact ⟨rfl, rfl⟩
  · simp -failIfUnchanged -implicitDefEqProofs only [↓gK0, ↓gKs, ↓setK0, ↓setKs, ↓setN0, ↓setNs, ↓setM0, ↓setMs, ↓clrK0, ↓clrKs, ↓bK_bl, ↓iK_int, ↓brK_true, ↓brK_false, ↓brK_dec, ↓brK_not, ↓brK_and, ↓w_ok, ↓w_var, ↓w_mv, ↓w_int, ↓w_str, ↓w_bl, ↓w_non, ↓w_neg, ↓w_bin, ↓w_cmp, ↓w_and, ↓w_or, ↓w_not, ↓w_ite, ↓w_tup, ↓w_lst, ↓w_nil, ↓w_con, ↓w_ix, ↓w_eo0, ↓w_eo1, ↓w_sl, ↓w_rev, ↓w_bi, ↓w_bi2, ↓w_bi3, ↓w_lcp, ↓w_cmp2, ↓w_tr1, ↓w_tr2, ↓w_lset, ↓w_sidx, ↓w_dcl, ↓w_dis, ↓w_join, ↓w_get, ↓w_ssn, ↓w_kill, ↓w_ssc, ↓nxt_nx, ↓nxt_rt, ↓nxt_bk, ↓nxt_ct, ↓w_set, ↓tsK0, ↓tsKs, ↓tgKv, ↓tgKt, ↓tupK_t, ↓w_tset, ↓w_aug, ↓gK_v, ↓gK_x, ↓setM_v, ↓setM_x, ↓atK0, ↓atKs, ↓atK0a, ↓atKsa, ↓w_pv, ↓w_px, ↓w_put, ↓lstK_l, ↓w_app, ↓lsK_l, ↓w_ext, ↓popK_appm, ↓popK_app, ↓popK_con, ↓w_pop, ↓w_ex, ↓w_ret, ↓w_retN, ↓w_brk, ↓w_cnt, ↓w_pass, ↓w_if, ↓w_an, ↓w_av, ↓w_ar, ↓takK0, ↓takKd, ↓takKr, ↓givK0, ↓givKd, ↓givKr, ↓w_call, ↓w_se, ↓w_s1, ↓w_s2, ↓w_s3, ↓w_sn, ↓w_for, ↓w_wh, ↓lpq_nx, ↓lpq_ct, ↓lpq_bk, ↓lpq_rt, ↓w_cn, ↓w_cs, ↓w_comp, ↓o_add, ↓o_sub, ↓o_adds, ↓o_addt, ↓o_addl, ↓o_mul, ↓o_muls, ↓o_mull, ↓o_div, ↓o_mod, ↓o_pow, ↓c_eq, ↓c_ne, ↓c_lt, ↓c_le, ↓c_gt, ↓c_ge, ↓c_eqs, ↓c_nes, ↓c_lts, ↓c_gts, ↓c_les, ↓c_ges, ↓c_neb, ↓c_eqb, ↓c_ins, ↓c_isn, ↓c_ntn, ↓t_bl, ↓t_int, ↓t_str, ↓t_non, ↓t_lst, ↓t_tup, ↓ixK_0, ↓ixK_1, ↓ixK_2, ↓ixK_3, ↓ixK_l1, ↓ixK_l2, ↓ixK_l3, ↓ixK_m1, ↓ixK_map, ↓x_str, ↓x_tup, ↓x_lst, ↓x_fls, ↓l_str, ↓l_tup, ↓l_lst, ↓r_str, ↓r_lst, ↓b_lens, ↓b_lenl, ↓b_lent, ↓b_lenf, ↓b_lend, ↓b_abs, ↓b_int, ↓b_intb, ↓b_tupt, ↓b_tupl, ↓b_lstt, ↓b_lstl, ↓b_lstf, ↓b_lstx, ↓s_set, ↓b_sum, ↓b_any, ↓b_all, ↓j_map, ↓i_str, ↓i_lst, ↓i_tup, ↓i_fls, ↓m_min, ↓m_max, ↓m_min3, ↓m_max3, ↓p_appn, ↓p_appl, ↓p_appi, ↓p_apps, ↓p_app0, ↓p_appc, ↓p_appa, ↓p_ext, ↓p_putm, ↓p_put0, ↓p_put1, ↓p_put2, ↓p_put3, ↓stepK_map, ↓posK_map, ↓end_rt, ↓end_nx, cond_true, cond_false, Option.isNone_none, n_add, n_addl, n_ladd, n_mul, n_sub0, n_ss, n_subt, n_sublt, n_lt, n_le, n_eq, n_0lt, n_1le, n_eq0, n_leb, n_geb, n_natAbs, sing_eq, safeB_none, safeB_nil, safeB_some, own_none, own_some, g_addi, g_adds, g_subi, g_muli, wrE, wrEs, wrEo, wrAs, wrSrc, wrP, wrS, wrSs, md, mdS, Tg.slots, Tgs.slots, P.root, small_ofNat, small_neg, pu_non, pu_bl, pu_int, pu_str, pu_tup, pu_fls, puL_nil, puL_con, puL_map, puL_app, puL_enum, isStr_str, isDct_dct, isNon_non, isNon_int, isNon_str, isNon_tup, isNon_lst, setAt0, setAt1, cut_to, cut_from, cut_ft, cut_tol, cut_froml, cut_all, cut_map, ixOk_nat, ixN_nat, ixOk_lit, ixN_lit, ixOk_m1, ixN_m1, List.nil_append, List.append_nil, List.cons_append, hasN, List.length_map, List.length_range, List.length_cons, List.length_nil, Bool.not_true, Bool.not_false, Bool.not_not, Bool.true_and, Bool.and_true, Bool.or_true, Bool.true_or, Bool.false_or, Bool.or_false, Bool.and_self, Bool.not_eq_true', Bool.false_eq_true, decide_true, decide_false, decide_eq_true_eq, decide_eq_false_iff_not, true_and, and_true, implies_true, and_self, ne_eq, not_true_eq_false, not_false_eq_true, false_implies, true_implies, eq_self, forall_const, Nat.reduceBEq, Nat.reduceEqDiff, Nat.reduceLT, Nat.reduceAdd, Nat.reduceSub, Nat.reduceLeDiff, Nat.reducePow, Int.reduceLT, Int.reduceLE, Int.reduceNeg, Int.reduceAdd, Int.reduceSub, Int.reducePow, Int.reduceToNat, Int.toNat_natCast, beq_self_eq_true, Bool.and_eq_true, Bool.or_eq_true]
    refine ⟨by rw [List.length_append]; unfold cap; omega, ?_⟩
    rw [show k + (m + 1) - k = m + 1 by omega]
  rw [filter_tt, show (List.range w.length).map (fun k => D.str (((w ++ w.take m).drop k).take (m + 1))) = (ringP (m + 1) w).map D.str from by unfold ringP; rw [List.map_map]; rfl]
  simp -failIfUnchanged -implicitDefEqProofs only [↓gK0, ↓gKs, ↓setK0, ↓setKs, ↓setN0, ↓setNs, ↓setM0, ↓setMs, ↓clrK0, ↓clrKs, ↓bK_bl, ↓iK_int, ↓brK_true, ↓brK_false, ↓brK_dec, ↓brK_not, ↓brK_and, ↓w_ok, ↓w_var, ↓w_mv, ↓w_int, ↓w_str, ↓w_bl, ↓w_non, ↓w_neg, ↓w_bin, ↓w_cmp, ↓w_and, ↓w_or, ↓w_not, ↓w_ite, ↓w_tup, ↓w_lst, ↓w_nil, ↓w_con, ↓w_ix, ↓w_eo0, ↓w_eo1, ↓w_sl, ↓w_rev, ↓w_bi, ↓w_bi2, ↓w_bi3, ↓w_lcp, ↓w_cmp2, ↓w_tr1, ↓w_tr2, ↓w_lset, ↓w_sidx, ↓w_dcl, ↓w_dis, ↓w_join, ↓w_get, ↓w_ssn, ↓w_kill, ↓w_ssc, ↓nxt_nx, ↓nxt_rt, ↓nxt_bk, ↓nxt_ct, ↓w_set, ↓tsK0, ↓tsKs, ↓tgKv, ↓tgKt, ↓tupK_t, ↓w_tset, ↓w_aug, ↓gK_v, ↓gK_x, ↓setM_v, ↓setM_x, ↓atK0, ↓atKs, ↓atK0a, ↓atKsa, ↓w_pv, ↓w_px, ↓w_put, ↓lstK_l, ↓w_app, ↓lsK_l, ↓w_ext, ↓popK_appm, ↓popK_app, ↓popK_con, ↓w_pop, ↓w_ex, ↓w_ret, ↓w_retN, ↓w_brk, ↓w_cnt, ↓w_pass, ↓w_if, ↓w_an, ↓w_av, ↓w_ar, ↓takK0, ↓takKd, ↓takKr, ↓givK0, ↓givKd, ↓givKr, ↓w_call, ↓w_se, ↓w_s1, ↓w_s2, ↓w_s3, ↓w_sn, ↓w_for, ↓w_wh, ↓lpq_nx, ↓lpq_ct, ↓lpq_bk, ↓lpq_rt, ↓w_cn, ↓w_cs, ↓w_comp, ↓o_add, ↓o_sub, ↓o_adds, ↓o_addt, ↓o_addl, ↓o_mul, ↓o_muls, ↓o_mull, ↓o_div, ↓o_mod, ↓o_pow, ↓c_eq, ↓c_ne, ↓c_lt, ↓c_le, ↓c_gt, ↓c_ge, ↓c_eqs, ↓c_nes, ↓c_lts, ↓c_gts, ↓c_les, ↓c_ges, ↓c_neb, ↓c_eqb, ↓c_ins, ↓c_isn, ↓c_ntn, ↓t_bl, ↓t_int, ↓t_str, ↓t_non, ↓t_lst, ↓t_tup, ↓ixK_0, ↓ixK_1, ↓ixK_2, ↓ixK_3, ↓ixK_l1, ↓ixK_l2, ↓ixK_l3, ↓ixK_m1, ↓ixK_map, ↓x_str, ↓x_tup, ↓x_lst, ↓x_fls, ↓l_str, ↓l_tup, ↓l_lst, ↓r_str, ↓r_lst, ↓b_lens, ↓b_lenl, ↓b_lent, ↓b_lenf, ↓b_lend, ↓b_abs, ↓b_int, ↓b_intb, ↓b_tupt, ↓b_tupl, ↓b_lstt, ↓b_lstl, ↓b_lstf, ↓b_lstx, ↓s_set, ↓b_sum, ↓b_any, ↓b_all, ↓j_map, ↓i_str, ↓i_lst, ↓i_tup, ↓i_fls, ↓m_min, ↓m_max, ↓m_min3, ↓m_max3, ↓p_appn, ↓p_appl, ↓p_appi, ↓p_apps, ↓p_app0, ↓p_appc, ↓p_appa, ↓p_ext, ↓p_putm, ↓p_put0, ↓p_put1, ↓p_put2, ↓p_put3, ↓stepK_map, ↓posK_map, ↓end_rt, ↓end_nx, cond_true, cond_false, Option.isNone_none, n_add, n_addl, n_ladd, n_mul, n_sub0, n_ss, n_subt, n_sublt, n_lt, n_le, n_eq, n_0lt, n_1le, n_eq0, n_leb, n_geb, n_natAbs, sing_eq, safeB_none, safeB_nil, safeB_some, own_none, own_some, g_addi, g_adds, g_subi, g_muli, wrE, wrEs, wrEo, wrAs, wrSrc, wrP, wrS, wrSs, md, mdS, Tg.slots, Tgs.slots, P.root, small_ofNat, small_neg, pu_non, pu_bl, pu_int, pu_str, pu_tup, pu_fls, puL_nil, puL_con, puL_map, puL_app, puL_enum, isStr_str, isDct_dct, isNon_non, isNon_int, isNon_str, isNon_tup, isNon_lst, setAt0, setAt1, cut_to, cut_from, cut_ft, cut_tol, cut_froml, cut_all, cut_map, ixOk_nat, ixN_nat, ixOk_lit, ixN_lit, ixOk_m1, ixN_m1, List.nil_append, List.append_nil, List.cons_append, hasN, List.length_map, List.length_range, List.length_cons, List.length_nil, Bool.not_true, Bool.not_false, Bool.not_not, Bool.true_and, Bool.and_true, Bool.or_true, Bool.true_or, Bool.false_or, Bool.or_false, Bool.and_self, Bool.not_eq_true', Bool.false_eq_true, decide_true, decide_false, decide_eq_true_eq, decide_eq_false_iff_not, true_and, and_true, implies_true, and_self, ne_eq, not_true_eq_false, not_false_eq_true, false_implies, true_implies, eq_self, forall_const, Nat.reduceBEq, Nat.reduceEqDiff, Nat.reduceLT, Nat.reduceAdd, Nat.reduceSub, Nat.reduceLeDiff, Nat.reducePow, Int.reduceLT, Int.reduceLE, Int.reduceNeg, Int.reduceAdd, Int.reduceSub, Int.reducePow, Int.reduceToNat, Int.toNat_natCast, beq_self_eq_true, Bool.and_eq_true, Bool.or_eq_true]
  refine ⟨by omega, for_range (fun k ρ => ρ = [some (.str al), some (.int ((m + 1 : Nat) : Int)), some (.str w), some (.str (w ++ w.take m)), some (.lst ((ringP (m + 1) w).map D.str)), some (.int ((al.length ^ k : Nat) : Int)), none, none, none]) rfl ?_ ?_⟩
  · rintro ρ rfl
    simp -failIfUnchanged -implicitDefEqProofs only [↓gK0, ↓gKs, ↓setK0, ↓setKs, ↓setN0, ↓setNs, ↓setM0, ↓setMs, ↓clrK0, ↓clrKs, ↓bK_bl, ↓iK_int, ↓brK_true, ↓brK_false, ↓brK_dec, ↓brK_not, ↓brK_and, ↓w_ok, ↓w_var, ↓w_mv, ↓w_int, ↓w_str, ↓w_bl, ↓w_non, ↓w_neg, ↓w_bin, ↓w_cmp, ↓w_and, ↓w_or, ↓w_not, ↓w_ite, ↓w_tup, ↓w_lst, ↓w_nil, ↓w_con, ↓w_ix, ↓w_eo0, ↓w_eo1, ↓w_sl, ↓w_rev, ↓w_bi, ↓w_bi2, ↓w_bi3, ↓w_lcp, ↓w_cmp2, ↓w_tr1, ↓w_tr2, ↓w_lset, ↓w_sidx, ↓w_dcl, ↓w_dis, ↓w_join, ↓w_get, ↓w_ssn, ↓w_kill, ↓w_ssc, ↓nxt_nx, ↓nxt_rt, ↓nxt_bk, ↓nxt_ct, ↓w_set, ↓tsK0, ↓tsKs, ↓tgKv, ↓tgKt, ↓tupK_t, ↓w_tset, ↓w_aug, ↓gK_v, ↓gK_x, ↓setM_v, ↓setM_x, ↓atK0, ↓atKs, ↓atK0a, ↓atKsa, ↓w_pv, ↓w_px, ↓w_put, ↓lstK_l, ↓w_app, ↓lsK_l, ↓w_ext, ↓popK_appm, ↓popK_app, ↓popK_con, ↓w_pop, ↓w_ex, ↓w_ret, ↓w_retN, ↓w_brk, ↓w_cnt, ↓w_pass, ↓w_if, ↓w_an, ↓w_av, ↓w_ar, ↓takK0, ↓takKd, ↓takKr, ↓givK0, ↓givKd, ↓givKr, ↓w_call, ↓w_se, ↓w_s1, ↓w_s2, ↓w_s3, ↓w_sn, ↓w_for, ↓w_wh, ↓lpq_nx, ↓lpq_ct, ↓lpq_bk, ↓lpq_rt, ↓w_cn, ↓w_cs, ↓w_comp, ↓o_add, ↓o_sub, ↓o_adds, ↓o_addt, ↓o_addl, ↓o_mul, ↓o_muls, ↓o_mull, ↓o_div, ↓o_mod, ↓o_pow, ↓c_eq, ↓c_ne, ↓c_lt, ↓c_le, ↓c_gt, ↓c_ge, ↓c_eqs, ↓c_nes, ↓c_lts, ↓c_gts, ↓c_les, ↓c_ges, ↓c_neb, ↓c_eqb, ↓c_ins, ↓c_isn, ↓c_ntn, ↓t_bl, ↓t_int, ↓t_str, ↓t_non, ↓t_lst, ↓t_tup, ↓ixK_0, ↓ixK_1, ↓ixK_2, ↓ixK_3, ↓ixK_l1, ↓ixK_l2, ↓ixK_l3, ↓ixK_m1, ↓ixK_map, ↓x_str, ↓x_tup, ↓x_lst, ↓x_fls, ↓l_str, ↓l_tup, ↓l_lst, ↓r_str, ↓r_lst, ↓b_lens, ↓b_lenl, ↓b_lent, ↓b_lenf, ↓b_lend, ↓b_abs, ↓b_int, ↓b_intb, ↓b_tupt, ↓b_tupl, ↓b_lstt, ↓b_lstl, ↓b_lstf, ↓b_lstx, ↓s_set, ↓b_sum, ↓b_any, ↓b_all, ↓j_map, ↓i_str, ↓i_lst, ↓i_tup, ↓i_fls, ↓m_min, ↓m_max, ↓m_min3, ↓m_max3, ↓p_appn, ↓p_appl, ↓p_appi, ↓p_apps, ↓p_app0, ↓p_appc, ↓p_appa, ↓p_ext, ↓p_putm, ↓p_put0, ↓p_put1, ↓p_put2, ↓p_put3, ↓stepK_map, ↓posK_map, ↓end_rt, ↓end_nx, cond_true, cond_false, Option.isNone_none, n_add, n_addl, n_ladd, n_mul, n_sub0, n_ss, n_subt, n_sublt, n_lt, n_le, n_eq, n_0lt, n_1le, n_eq0, n_leb, n_geb, n_natAbs, sing_eq, safeB_none, safeB_nil, safeB_some, own_none, own_some, g_addi, g_adds, g_subi, g_muli, wrE, wrEs, wrEo, wrAs, wrSrc, wrP, wrS, wrSs, md, mdS, Tg.slots, Tgs.slots, P.root, small_ofNat, small_neg, pu_non, pu_bl, pu_int, pu_str, pu_tup, pu_fls, puL_nil, puL_con, puL_map, puL_app, puL_enum, isStr_str, isDct_dct, isNon_non, isNon_int, isNon_str, isNon_tup, isNon_lst, setAt0, setAt1, cut_to, cut_from, cut_ft, cut_tol, cut_froml, cut_all, cut_map, ixOk_nat, ixN_nat, ixOk_lit, ixN_lit, ixOk_m1, ixN_m1, List.nil_append, List.append_nil, List.cons_append, hasN, List.length_map, List.length_range, List.length_cons, List.length_nil, Bool.not_true, Bool.not_false, Bool.not_not, Bool.true_and, Bool.and_true, Bool.or_true, Bool.true_or, Bool.false_or, Bool.or_false, Bool.and_self, Bool.not_eq_true', Bool.false_eq_true, decide_true, decide_false, decide_eq_true_eq, decide_eq_false_iff_not, true_and, and_true, implies_true, and_self, ne_eq, not_true_eq_false, not_false_eq_true, false_implies, true_implies, eq_self, forall_const, Nat.reduceBEq, Nat.reduceEqDiff, Nat.reduceLT, Nat.reduceAdd, Nat.reduceSub, Nat.reduceLeDiff, Nat.reducePow, Int.reduceLT, Int.reduceLE, Int.reduceNeg, Int.reduceAdd, Int.reduceSub, Int.reducePow, Int.reduceToNat, Int.toNat_natCast, beq_self_eq_true, Bool.and_eq_true, Bool.or_eq_true]
    have hrl := ringP_len (n := m + 1) (w := w)
    refine ⟨hc, fun h => ⟨hc, comp_pure (fun c => [some (.str al), some (.int ((m + 1 : Nat) : Int)), some (.str w), some (.str (w ++ w.take m)), some (.lst ((ringP (m + 1) w).map D.str)), some (.int ((al.length ^ (m + 1) : Nat) : Int)), none, none, some (.str [c])]) (fun _ => true) (fun c => .bl (decide (c ∈ al))) hc (fun _ => rfl) (fun _ => rfl) (fun _ => rfl) rfl (fun k hk => ⟨rfl, rfl⟩) (fun k hk _ => ?_) ?_⟩, fun h => ⟨rfl, ?_⟩⟩
    · simp -failIfUnchanged -implicitDefEqProofs only [↓gK0, ↓gKs, ↓setK0, ↓setKs, ↓setN0, ↓setNs, ↓setM0, ↓setMs, ↓clrK0, ↓clrKs, ↓bK_bl, ↓iK_int, ↓brK_true, ↓brK_false, ↓brK_dec, ↓brK_not, ↓brK_and, ↓w_ok, ↓w_var, ↓w_mv, ↓w_int, ↓w_str, ↓w_bl, ↓w_non, ↓w_neg, ↓w_bin, ↓w_cmp, ↓w_and, ↓w_or, ↓w_not, ↓w_ite, ↓w_tup, ↓w_lst, ↓w_nil, ↓w_con, ↓w_ix, ↓w_eo0, ↓w_eo1, ↓w_sl, ↓w_rev, ↓w_bi, ↓w_bi2, ↓w_bi3, ↓w_lcp, ↓w_cmp2, ↓w_tr1, ↓w_tr2, ↓w_lset, ↓w_sidx, ↓w_dcl, ↓w_dis, ↓w_join, ↓w_get, ↓w_ssn, ↓w_kill, ↓w_ssc, ↓nxt_nx, ↓nxt_rt, ↓nxt_bk, ↓nxt_ct, ↓w_set, ↓tsK0, ↓tsKs, ↓tgKv, ↓tgKt, ↓tupK_t, ↓w_tset, ↓w_aug, ↓gK_v, ↓gK_x, ↓setM_v, ↓setM_x, ↓atK0, ↓atKs, ↓atK0a, ↓atKsa, ↓w_pv, ↓w_px, ↓w_put, ↓lstK_l, ↓w_app, ↓lsK_l, ↓w_ext, ↓popK_appm, ↓popK_app, ↓popK_con, ↓w_pop, ↓w_ex, ↓w_ret, ↓w_retN, ↓w_brk, ↓w_cnt, ↓w_pass, ↓w_if, ↓w_an, ↓w_av, ↓w_ar, ↓takK0, ↓takKd, ↓takKr, ↓givK0, ↓givKd, ↓givKr, ↓w_call, ↓w_se, ↓w_s1, ↓w_s2, ↓w_s3, ↓w_sn, ↓w_for, ↓w_wh, ↓lpq_nx, ↓lpq_ct, ↓lpq_bk, ↓lpq_rt, ↓w_cn, ↓w_cs, ↓w_comp, ↓o_add, ↓o_sub, ↓o_adds, ↓o_addt, ↓o_addl, ↓o_mul, ↓o_muls, ↓o_mull, ↓o_div, ↓o_mod, ↓o_pow, ↓c_eq, ↓c_ne, ↓c_lt, ↓c_le, ↓c_gt, ↓c_ge, ↓c_eqs, ↓c_nes, ↓c_lts, ↓c_gts, ↓c_les, ↓c_ges, ↓c_neb, ↓c_eqb, ↓c_ins, ↓c_isn, ↓c_ntn, ↓t_bl, ↓t_int, ↓t_str, ↓t_non, ↓t_lst, ↓t_tup, ↓ixK_0, ↓ixK_1, ↓ixK_2, ↓ixK_3, ↓ixK_l1, ↓ixK_l2, ↓ixK_l3, ↓ixK_m1, ↓ixK_map, ↓x_str, ↓x_tup, ↓x_lst, ↓x_fls, ↓l_str, ↓l_tup, ↓l_lst, ↓r_str, ↓r_lst, ↓b_lens, ↓b_lenl, ↓b_lent, ↓b_lenf, ↓b_lend, ↓b_abs, ↓b_int, ↓b_intb, ↓b_tupt, ↓b_tupl, ↓b_lstt, ↓b_lstl, ↓b_lstf, ↓b_lstx, ↓s_set, ↓b_sum, ↓b_any, ↓b_all, ↓j_map, ↓i_str, ↓i_lst, ↓i_tup, ↓i_fls, ↓m_min, ↓m_max, ↓m_min3, ↓m_max3, ↓p_appn, ↓p_appl, ↓p_appi, ↓p_apps, ↓p_app0, ↓p_appc, ↓p_appa, ↓p_ext, ↓p_putm, ↓p_put0, ↓p_put1, ↓p_put2, ↓p_put3, ↓stepK_map, ↓posK_map, ↓end_rt, ↓end_nx, cond_true, cond_false, Option.isNone_none, n_add, n_addl, n_ladd, n_mul, n_sub0, n_ss, n_subt, n_sublt, n_lt, n_le, n_eq, n_0lt, n_1le, n_eq0, n_leb, n_geb, n_natAbs, sing_eq, safeB_none, safeB_nil, safeB_some, own_none, own_some, g_addi, g_adds, g_subi, g_muli, wrE, wrEs, wrEo, wrAs, wrSrc, wrP, wrS, wrSs, md, mdS, Tg.slots, Tgs.slots, P.root, small_ofNat, small_neg, pu_non, pu_bl, pu_int, pu_str, pu_tup, pu_fls, puL_nil, puL_con, puL_map, puL_app, puL_enum, isStr_str, isDct_dct, isNon_non, isNon_int, isNon_str, isNon_tup, isNon_lst, setAt0, setAt1, cut_to, cut_from, cut_ft, cut_tol, cut_froml, cut_all, cut_map, ixOk_nat, ixN_nat, ixOk_lit, ixN_lit, ixOk_m1, ixN_m1, List.nil_append, List.append_nil, List.cons_append, hasN, List.length_map, List.length_range, List.length_cons, List.length_nil, Bool.not_true, Bool.not_false, Bool.not_not, Bool.true_and, Bool.and_true, Bool.or_true, Bool.true_or, Bool.false_or, Bool.or_false, Bool.and_self, Bool.not_eq_true', Bool.false_eq_true, decide_true, decide_false, decide_eq_true_eq, decide_eq_false_iff_not, true_and, and_true, implies_true, and_self, ne_eq, not_true_eq_false, not_false_eq_true, false_implies, true_implies, eq_self, forall_const, Nat.reduceBEq, Nat.reduceEqDiff, Nat.reduceLT, Nat.reduceAdd, Nat.reduceSub, Nat.reduceLeDiff, Nat.reducePow, Int.reduceLT, Int.reduceLE, Int.reduceNeg, Int.reduceAdd, Int.reduceSub, Int.reducePow, Int.reduceToNat, Int.toNat_natCast, beq_self_eq_true, Bool.and_eq_true, Bool.or_eq_true]
    · rw [filter_tt]
      simp -failIfUnchanged -implicitDefEqProofs only [↓gK0, ↓gKs, ↓setK0, ↓setKs, ↓setN0, ↓setNs, ↓setM0, ↓setMs, ↓clrK0, ↓clrKs, ↓bK_bl, ↓iK_int, ↓brK_true, ↓brK_false, ↓brK_dec, ↓brK_not, ↓brK_and, ↓w_ok, ↓w_var, ↓w_mv, ↓w_int, ↓w_str, ↓w_bl, ↓w_non, ↓w_neg, ↓w_bin, ↓w_cmp, ↓w_and, ↓w_or, ↓w_not, ↓w_ite, ↓w_tup, ↓w_lst, ↓w_nil, ↓w_con, ↓w_ix, ↓w_eo0, ↓w_eo1, ↓w_sl, ↓w_rev, ↓w_bi, ↓w_bi2, ↓w_bi3, ↓w_lcp, ↓w_cmp2, ↓w_tr1, ↓w_tr2, ↓w_lset, ↓w_sidx, ↓w_dcl, ↓w_dis, ↓w_join, ↓w_get, ↓w_ssn, ↓w_kill, ↓w_ssc, ↓nxt_nx, ↓nxt_rt, ↓nxt_bk, ↓nxt_ct, ↓w_set, ↓tsK0, ↓tsKs, ↓tgKv, ↓tgKt, ↓tupK_t, ↓w_tset, ↓w_aug, ↓gK_v, ↓gK_x, ↓setM_v, ↓setM_x, ↓atK0, ↓atKs, ↓atK0a, ↓atKsa, ↓w_pv, ↓w_px, ↓w_put, ↓lstK_l, ↓w_app, ↓lsK_l, ↓w_ext, ↓popK_appm, ↓popK_app, ↓popK_con, ↓w_pop, ↓w_ex, ↓w_ret, ↓w_retN, ↓w_brk, ↓w_cnt, ↓w_pass, ↓w_if, ↓w_an, ↓w_av, ↓w_ar, ↓takK0, ↓takKd, ↓takKr, ↓givK0, ↓givKd, ↓givKr, ↓w_call, ↓w_se, ↓w_s1, ↓w_s2, ↓w_s3, ↓w_sn, ↓w_for, ↓w_wh, ↓lpq_nx, ↓lpq_ct, ↓lpq_bk, ↓lpq_rt, ↓w_cn, ↓w_cs, ↓w_comp, ↓o_add, ↓o_sub, ↓o_adds, ↓o_addt, ↓o_addl, ↓o_mul, ↓o_muls, ↓o_mull, ↓o_div, ↓o_mod, ↓o_pow, ↓c_eq, ↓c_ne, ↓c_lt, ↓c_le, ↓c_gt, ↓c_ge, ↓c_eqs, ↓c_nes, ↓c_lts, ↓c_gts, ↓c_les, ↓c_ges, ↓c_neb, ↓c_eqb, ↓c_ins, ↓c_isn, ↓c_ntn, ↓t_bl, ↓t_int, ↓t_str, ↓t_non, ↓t_lst, ↓t_tup, ↓ixK_0, ↓ixK_1, ↓ixK_2, ↓ixK_3, ↓ixK_l1, ↓ixK_l2, ↓ixK_l3, ↓ixK_m1, ↓ixK_map, ↓x_str, ↓x_tup, ↓x_lst, ↓x_fls, ↓l_str, ↓l_tup, ↓l_lst, ↓r_str, ↓r_lst, ↓b_lens, ↓b_lenl, ↓b_lent, ↓b_lenf, ↓b_lend, ↓b_abs, ↓b_int, ↓b_intb, ↓b_tupt, ↓b_tupl, ↓b_lstt, ↓b_lstl, ↓b_lstf, ↓b_lstx, ↓s_set, ↓b_sum, ↓b_any, ↓b_all, ↓j_map, ↓i_str, ↓i_lst, ↓i_tup, ↓i_fls, ↓m_min, ↓m_max, ↓m_min3, ↓m_max3, ↓p_appn, ↓p_appl, ↓p_appi, ↓p_apps, ↓p_app0, ↓p_appc, ↓p_appa, ↓p_ext, ↓p_putm, ↓p_put0, ↓p_put1, ↓p_put2, ↓p_put3, ↓stepK_map, ↓posK_map, ↓end_rt, ↓end_nx, cond_true, cond_false, Option.isNone_none, n_add, n_addl, n_ladd, n_mul, n_sub0, n_ss, n_subt, n_sublt, n_lt, n_le, n_eq, n_0lt, n_1le, n_eq0, n_leb, n_geb, n_natAbs, sing_eq, safeB_none, safeB_nil, safeB_some, own_none, own_some, g_addi, g_adds, g_subi, g_muli, wrE, wrEs, wrEo, wrAs, wrSrc, wrP, wrS, wrSs, md, mdS, Tg.slots, Tgs.slots, P.root, small_ofNat, small_neg, pu_non, pu_bl, pu_int, pu_str, pu_tup, pu_fls, puL_nil, puL_con, puL_map, puL_app, puL_enum, isStr_str, isDct_dct, isNon_non, isNon_int, isNon_str, isNon_tup, isNon_lst, setAt0, setAt1, cut_to, cut_from, cut_ft, cut_tol, cut_froml, cut_all, cut_map, ixOk_nat, ixN_nat, ixOk_lit, ixN_lit, ixOk_m1, ixN_m1, List.nil_append, List.append_nil, List.cons_append, hasN, List.length_map, List.length_range, List.length_cons, List.length_nil, Bool.not_true, Bool.not_false, Bool.not_not, Bool.true_and, Bool.and_true, Bool.or_true, Bool.true_or, Bool.false_or, Bool.or_false, Bool.and_self, Bool.not_eq_true', Bool.false_eq_true, decide_true, decide_false, decide_eq_true_eq, decide_eq_false_iff_not, true_and, and_true, implies_true, and_self, ne_eq, not_true_eq_false, not_false_eq_true, false_implies, true_implies, eq_self, forall_const, Nat.reduceBEq, Nat.reduceEqDiff, Nat.reduceLT, Nat.reduceAdd, Nat.reduceSub, Nat.reduceLeDiff, Nat.reducePow, Int.reduceLT, Int.reduceLE, Int.reduceNeg, Int.reduceAdd, Int.reduceSub, Int.reducePow, Int.reduceToNat, Int.toNat_natCast, beq_self_eq_true, Bool.and_eq_true, Bool.or_eq_true]
      rw [hrl]
      have hn : decide (m + 1 ≤ w.length) = true := decide_eq_true h
      cases hal : w.all (fun x => decide (x ∈ al)) with
      | false =>
        rw [brK_false]
        refine ⟨rfl, ?_⟩
        congr 1
        simp [onceB, hal]
      | true =>
        rw [brK_true]
        refine ⟨fun e => ?_, fun e => ⟨rfl, ?_⟩⟩
        · rw [s_set1]
          refine ⟨by omega, ?_⟩
          simp -failIfUnchanged -implicitDefEqProofs only [↓gK0, ↓gKs, ↓setK0, ↓setKs, ↓setN0, ↓setNs, ↓setM0, ↓setMs, ↓clrK0, ↓clrKs, ↓bK_bl, ↓iK_int, ↓brK_true, ↓brK_false, ↓brK_dec, ↓brK_not, ↓brK_and, ↓w_ok, ↓w_var, ↓w_mv, ↓w_int, ↓w_str, ↓w_bl, ↓w_non, ↓w_neg, ↓w_bin, ↓w_cmp, ↓w_and, ↓w_or, ↓w_not, ↓w_ite, ↓w_tup, ↓w_lst, ↓w_nil, ↓w_con, ↓w_ix, ↓w_eo0, ↓w_eo1, ↓w_sl, ↓w_rev, ↓w_bi, ↓w_bi2, ↓w_bi3, ↓w_lcp, ↓w_cmp2, ↓w_tr1, ↓w_tr2, ↓w_lset, ↓w_sidx, ↓w_dcl, ↓w_dis, ↓w_join, ↓w_get, ↓w_ssn, ↓w_kill, ↓w_ssc, ↓nxt_nx, ↓nxt_rt, ↓nxt_bk, ↓nxt_ct, ↓w_set, ↓tsK0, ↓tsKs, ↓tgKv, ↓tgKt, ↓tupK_t, ↓w_tset, ↓w_aug, ↓gK_v, ↓gK_x, ↓setM_v, ↓setM_x, ↓atK0, ↓atKs, ↓atK0a, ↓atKsa, ↓w_pv, ↓w_px, ↓w_put, ↓lstK_l, ↓w_app, ↓lsK_l, ↓w_ext, ↓popK_appm, ↓popK_app, ↓popK_con, ↓w_pop, ↓w_ex, ↓w_ret, ↓w_retN, ↓w_brk, ↓w_cnt, ↓w_pass, ↓w_if, ↓w_an, ↓w_av, ↓w_ar, ↓takK0, ↓takKd, ↓takKr, ↓givK0, ↓givKd, ↓givKr, ↓w_call, ↓w_se, ↓w_s1, ↓w_s2, ↓w_s3, ↓w_sn, ↓w_for, ↓w_wh, ↓lpq_nx, ↓lpq_ct, ↓lpq_bk, ↓lpq_rt, ↓w_cn, ↓w_cs, ↓w_comp, ↓o_add, ↓o_sub, ↓o_adds, ↓o_addt, ↓o_addl, ↓o_mul, ↓o_muls, ↓o_mull, ↓o_div, ↓o_mod, ↓o_pow, ↓c_eq, ↓c_ne, ↓c_lt, ↓c_le, ↓c_gt, ↓c_ge, ↓c_eqs, ↓c_nes, ↓c_lts, ↓c_gts, ↓c_les, ↓c_ges, ↓c_neb, ↓c_eqb, ↓c_ins, ↓c_isn, ↓c_ntn, ↓t_bl, ↓t_int, ↓t_str, ↓t_non, ↓t_lst, ↓t_tup, ↓ixK_0, ↓ixK_1, ↓ixK_2, ↓ixK_3, ↓ixK_l1, ↓ixK_l2, ↓ixK_l3, ↓ixK_m1, ↓ixK_map, ↓x_str, ↓x_tup, ↓x_lst, ↓x_fls, ↓l_str, ↓l_tup, ↓l_lst, ↓r_str, ↓r_lst, ↓b_lens, ↓b_lenl, ↓b_lent, ↓b_lenf, ↓b_lend, ↓b_abs, ↓b_int, ↓b_intb, ↓b_tupt, ↓b_tupl, ↓b_lstt, ↓b_lstl, ↓b_lstf, ↓b_lstx, ↓s_set, ↓b_sum, ↓b_any, ↓b_all, ↓j_map, ↓i_str, ↓i_lst, ↓i_tup, ↓i_fls, ↓m_min, ↓m_max, ↓m_min3, ↓m_max3, ↓p_appn, ↓p_appl, ↓p_appi, ↓p_apps, ↓p_app0, ↓p_appc, ↓p_appa, ↓p_ext, ↓p_putm, ↓p_put0, ↓p_put1, ↓p_put2, ↓p_put3, ↓stepK_map, ↓posK_map, ↓end_rt, ↓end_nx, cond_true, cond_false, Option.isNone_none, n_add, n_addl, n_ladd, n_mul, n_sub0, n_ss, n_subt, n_sublt, n_lt, n_le, n_eq, n_0lt, n_1le, n_eq0, n_leb, n_geb, n_natAbs, sing_eq, safeB_none, safeB_nil, safeB_some, own_none, own_some, g_addi, g_adds, g_subi, g_muli, wrE, wrEs, wrEo, wrAs, wrSrc, wrP, wrS, wrSs, md, mdS, Tg.slots, Tgs.slots, P.root, small_ofNat, small_neg, pu_non, pu_bl, pu_int, pu_str, pu_tup, pu_fls, puL_nil, puL_con, puL_map, puL_app, puL_enum, isStr_str, isDct_dct, isNon_non, isNon_int, isNon_str, isNon_tup, isNon_lst, setAt0, setAt1, cut_to, cut_from, cut_ft, cut_tol, cut_froml, cut_all, cut_map, ixOk_nat, ixN_nat, ixOk_lit, ixN_lit, ixOk_m1, ixN_m1, List.nil_append, List.append_nil, List.cons_append, hasN, List.length_map, List.length_range, List.length_cons, List.length_nil, Bool.not_true, Bool.not_false, Bool.not_not, Bool.true_and, Bool.and_true, Bool.or_true, Bool.true_or, Bool.false_or, Bool.or_false, Bool.and_self, Bool.not_eq_true', Bool.false_eq_true, decide_true, decide_false, decide_eq_true_eq, decide_eq_false_iff_not, true_and, and_true, implies_true, and_self, ne_eq, not_true_eq_false, not_false_eq_true, false_implies, true_implies, eq_self, forall_const, Nat.reduceBEq, Nat.reduceEqDiff, Nat.reduceLT, Nat.reduceAdd, Nat.reduceSub, Nat.reduceLeDiff, Nat.reducePow, Int.reduceLT, Int.reduceLE, Int.reduceNeg, Int.reduceAdd, Int.reduceSub, Int.reducePow, Int.reduceToNat, Int.toNat_natCast, beq_self_eq_true, Bool.and_eq_true, Bool.or_eq_true]
          refine ⟨rfl, ?_⟩
          congr 1
          unfold onceB
          rw [hn, hal, decide_eq_true e]
          simp
        · congr 1
          unfold onceB
          rw [decide_eq_false e]
          simp
    · congr 1
      unfold onceB
      rw [decide_eq_false h]; rfl
  · rintro k hk ρ rfl
    simp -failIfUnchanged -implicitDefEqProofs only [↓gK0, ↓gKs, ↓setK0, ↓setKs, ↓setN0, ↓setNs, ↓setM0, ↓setMs, ↓clrK0, ↓clrKs, ↓bK_bl, ↓iK_int, ↓brK_true, ↓brK_false, ↓brK_dec, ↓brK_not, ↓brK_and, ↓w_ok, ↓w_var, ↓w_mv, ↓w_int, ↓w_str, ↓w_bl, ↓w_non, ↓w_neg, ↓w_bin, ↓w_cmp, ↓w_and, ↓w_or, ↓w_not, ↓w_ite, ↓w_tup, ↓w_lst, ↓w_nil, ↓w_con, ↓w_ix, ↓w_eo0, ↓w_eo1, ↓w_sl, ↓w_rev, ↓w_bi, ↓w_bi2, ↓w_bi3, ↓w_lcp, ↓w_cmp2, ↓w_tr1, ↓w_tr2, ↓w_lset, ↓w_sidx, ↓w_dcl, ↓w_dis, ↓w_join, ↓w_get, ↓w_ssn, ↓w_kill, ↓w_ssc, ↓nxt_nx, ↓nxt_rt, ↓nxt_bk, ↓nxt_ct, ↓w_set, ↓tsK0, ↓tsKs, ↓tgKv, ↓tgKt, ↓tupK_t, ↓w_tset, ↓w_aug, ↓gK_v, ↓gK_x, ↓setM_v, ↓setM_x, ↓atK0, ↓atKs, ↓atK0a, ↓atKsa, ↓w_pv, ↓w_px, ↓w_put, ↓lstK_l, ↓w_app, ↓lsK_l, ↓w_ext, ↓popK_appm, ↓popK_app, ↓popK_con, ↓w_pop, ↓w_ex, ↓w_ret, ↓w_retN, ↓w_brk, ↓w_cnt, ↓w_pass, ↓w_if, ↓w_an, ↓w_av, ↓w_ar, ↓takK0, ↓takKd, ↓takKr, ↓givK0, ↓givKd, ↓givKr, ↓w_call, ↓w_se, ↓w_s1, ↓w_s2, ↓w_s3, ↓w_sn, ↓w_for, ↓w_wh, ↓lpq_nx, ↓lpq_ct, ↓lpq_bk, ↓lpq_rt, ↓w_cn, ↓w_cs, ↓w_comp, ↓o_add, ↓o_sub, ↓o_adds, ↓o_addt, ↓o_addl, ↓o_mul, ↓o_muls, ↓o_mull, ↓o_div, ↓o_mod, ↓o_pow, ↓c_eq, ↓c_ne, ↓c_lt, ↓c_le, ↓c_gt, ↓c_ge, ↓c_eqs, ↓c_nes, ↓c_lts, ↓c_gts, ↓c_les, ↓c_ges, ↓c_neb, ↓c_eqb, ↓c_ins, ↓c_isn, ↓c_ntn, ↓t_bl, ↓t_int, ↓t_str, ↓t_non, ↓t_lst, ↓t_tup, ↓ixK_0, ↓ixK_1, ↓ixK_2, ↓ixK_3, ↓ixK_l1, ↓ixK_l2, ↓ixK_l3, ↓ixK_m1, ↓ixK_map, ↓x_str, ↓x_tup, ↓x_lst, ↓x_fls, ↓l_str, ↓l_tup, ↓l_lst, ↓r_str, ↓r_lst, ↓b_lens, ↓b_lenl, ↓b_lent, ↓b_lenf, ↓b_lend, ↓b_abs, ↓b_int, ↓b_intb, ↓b_tupt, ↓b_tupl, ↓b_lstt, ↓b_lstl, ↓b_lstf, ↓b_lstx, ↓s_set, ↓b_sum, ↓b_any, ↓b_all, ↓j_map, ↓i_str, ↓i_lst, ↓i_tup, ↓i_fls, ↓m_min, ↓m_max, ↓m_min3, ↓m_max3, ↓p_appn, ↓p_appl, ↓p_appi, ↓p_apps, ↓p_app0, ↓p_appc, ↓p_appa, ↓p_ext, ↓p_putm, ↓p_put0, ↓p_put1, ↓p_put2, ↓p_put3, ↓stepK_map, ↓posK_map, ↓end_rt, ↓end_nx, cond_true, cond_false, Option.isNone_none, n_add, n_addl, n_ladd, n_mul, n_sub0, n_ss, n_subt, n_sublt, n_lt, n_le, n_eq, n_0lt, n_1le, n_eq0, n_leb, n_geb, n_natAbs, sing_eq, safeB_none, safeB_nil, safeB_some, own_none, own_some, g_addi, g_adds, g_subi, g_muli, wrE, wrEs, wrEo, wrAs, wrSrc, wrP, wrS, wrSs, md, mdS, Tg.slots, Tgs.slots, P.root, small_ofNat, small_neg, pu_non, pu_bl, pu_int, pu_str, pu_tup, pu_fls, puL_nil, puL_con, puL_map, puL_app, puL_enum, isStr_str, isDct_dct, isNon_non, isNon_int, isNon_str, isNon_tup, isNon_lst, setAt0, setAt1, cut_to, cut_from, cut_ft, cut_tol, cut_froml, cut_all, cut_map, ixOk_nat, ixN_nat, ixOk_lit, ixN_lit, ixOk_m1, ixN_m1, List.nil_append, List.append_nil, List.cons_append, hasN, List.length_map, List.length_range, List.length_cons, List.length_nil, Bool.not_true, Bool.not_false, Bool.not_not, Bool.true_and, Bool.and_true, Bool.or_true, Bool.true_or, Bool.false_or, Bool.or_false, Bool.and_self, Bool.not_eq_true', Bool.false_eq_true, decide_true, decide_false, decide_eq_true_eq, decide_eq_false_iff_not, true_and, and_true, implies_true, and_self, ne_eq, not_true_eq_false, not_false_eq_true, false_implies, true_implies, eq_self, forall_const, Nat.reduceBEq, Nat.reduceEqDiff, Nat.reduceLT, Nat.reduceAdd, Nat.reduceSub, Nat.reduceLeDiff, Nat.reducePow, Int.reduceLT, Int.reduceLE, Int.reduceNeg, Int.reduceAdd, Int.reduceSub, Int.reducePow, Int.reduceToNat, Int.toNat_natCast, beq_self_eq_true, Bool.and_eq_true, Bool.or_eq_true]
    refine ⟨hca, .inr (by simp [small]; omega), ?_⟩
    rw [Nat.pow_succ]
theorem onceS {n m : Nat} {al w : Wrd} (ha : al.length ≤ 100) (hw : w.length ≤ 1000) (hm : m ≤ 100) : WpF (fns T (n + 1) 12 [.str al, .int ((m + 1 : Nat) : Int), .str w]) (fun r rs => rs = [none, none, none] ∧ r = .bl (onceB al (m + 1) w)) := fns_wp rfl rfl rfl rfl (once_c ha hw hm)
theorem hasS {n : Nat} {w : Wrd} (hw : w.length ≤ 1000) : WpF (fns T (n + 1) 0 [.str w]) (fun r rs => rs = [none] ∧ ∃ o, Fst2 w o ∧ r = sqD o) := fns_wp rfl rfl rfl rfl (has_c hw)
theorem longer_c {Γ : Fns} {al : Wrd} {l : List Wrd} (ha : al.length ≤ 3) (hl : l.length ≤ 30000) (hs : ∀ w ∈ l, w.length ≤ 20) : Wp (evSs Γ c10 [some (.str al), some (.lst (l.map D.str)), none, none, none]) (EndQ f10 fun r rs => rs = [none, none] ∧ r = .lst ((l.flatMap fun w => al.map fun c => w ++ [c]).map D.str)) := by
  have hca : al.length ≤ cap := by unfold cap; omega
  unfold c10
  simp -failIfUnchanged -implicitDefEqProofs only [↓gK0, ↓gKs, ↓setK0, ↓setKs, ↓setN0, ↓setNs, ↓setM0, ↓setMs, ↓clrK0, ↓clrKs, ↓bK_bl, ↓iK_int, ↓brK_true, ↓brK_false, ↓brK_dec, ↓brK_not, ↓brK_and, ↓w_ok, ↓w_var, ↓w_mv, ↓w_int, ↓w_str, ↓w_bl, ↓w_non, ↓w_neg, ↓w_bin, ↓w_cmp, ↓w_and, ↓w_or, ↓w_not, ↓w_ite, ↓w_tup, ↓w_lst, ↓w_nil, ↓w_con, ↓w_ix, ↓w_eo0, ↓w_eo1, ↓w_sl, ↓w_rev, ↓w_bi, ↓w_bi2, ↓w_bi3, ↓w_lcp, ↓w_cmp2, ↓w_tr1, ↓w_tr2, ↓w_lset, ↓w_sidx, ↓w_dcl, ↓w_dis, ↓w_join, ↓w_get, ↓w_ssn, ↓w_kill, ↓w_ssc, ↓nxt_nx, ↓nxt_rt, ↓nxt_bk, ↓nxt_ct, ↓w_set, ↓tsK0, ↓tsKs, ↓tgKv, ↓tgKt, ↓tupK_t, ↓w_tset, ↓w_aug, ↓gK_v, ↓gK_x, ↓setM_v, ↓setM_x, ↓atK0, ↓atKs, ↓atK0a, ↓atKsa, ↓w_pv, ↓w_px, ↓w_put, ↓lstK_l, ↓w_app, ↓lsK_l, ↓w_ext, ↓popK_appm, ↓popK_app, ↓popK_con, ↓w_pop, ↓w_ex, ↓w_ret, ↓w_retN, ↓w_brk, ↓w_cnt, ↓w_pass, ↓w_if, ↓w_an, ↓w_av, ↓w_ar, ↓takK0, ↓takKd, ↓takKr, ↓givK0, ↓givKd, ↓givKr, ↓w_call, ↓w_se, ↓w_s1, ↓w_s2, ↓w_s3, ↓w_sn, ↓w_for, ↓w_wh, ↓lpq_nx, ↓lpq_ct, ↓lpq_bk, ↓lpq_rt, ↓w_cn, ↓w_cs, ↓w_comp, ↓o_add, ↓o_sub, ↓o_adds, ↓o_addt, ↓o_addl, ↓o_mul, ↓o_muls, ↓o_mull, ↓o_div, ↓o_mod, ↓o_pow, ↓c_eq, ↓c_ne, ↓c_lt, ↓c_le, ↓c_gt, ↓c_ge, ↓c_eqs, ↓c_nes, ↓c_lts, ↓c_gts, ↓c_les, ↓c_ges, ↓c_neb, ↓c_eqb, ↓c_ins, ↓c_isn, ↓c_ntn, ↓t_bl, ↓t_int, ↓t_str, ↓t_non, ↓t_lst, ↓t_tup, ↓ixK_0, ↓ixK_1, ↓ixK_2, ↓ixK_3, ↓ixK_l1, ↓ixK_l2, ↓ixK_l3, ↓ixK_m1, ↓ixK_map, ↓x_str, ↓x_tup, ↓x_lst, ↓x_fls, ↓l_str, ↓l_tup, ↓l_lst, ↓r_str, ↓r_lst, ↓b_lens, ↓b_lenl, ↓b_lent, ↓b_lenf, ↓b_lend, ↓b_abs, ↓b_int, ↓b_intb, ↓b_tupt, ↓b_tupl, ↓b_lstt, ↓b_lstl, ↓b_lstf, ↓b_lstx, ↓s_set, ↓b_sum, ↓b_any, ↓b_all, ↓j_map, ↓i_str, ↓i_lst, ↓i_tup, ↓i_fls, ↓m_min, ↓m_max, ↓m_min3, ↓m_max3, ↓p_appn, ↓p_appl, ↓p_appi, ↓p_apps, ↓p_app0, ↓p_appc, ↓p_appa, ↓p_ext, ↓p_putm, ↓p_put0, ↓p_put1, ↓p_put2, ↓p_put3, ↓stepK_map, ↓posK_map, ↓end_rt, ↓end_nx, cond_true, cond_false, Option.isNone_none, n_add, n_addl, n_ladd, n_mul, n_sub0, n_ss, n_subt, n_sublt, n_lt, n_le, n_eq, n_0lt, n_1le, n_eq0, n_leb, n_geb, n_natAbs, sing_eq, safeB_none, safeB_nil, safeB_some, own_none, own_some, g_addi, g_adds, g_subi, g_muli, wrE, wrEs, wrEo, wrAs, wrSrc, wrP, wrS, wrSs, md, mdS, Tg.slots, Tgs.slots, P.root, small_ofNat, small_neg, pu_non, pu_bl, pu_int, pu_str, pu_tup, pu_fls, puL_nil, puL_con, puL_map, puL_app, puL_enum, isStr_str, isDct_dct, isNon_non, isNon_int, isNon_str, isNon_tup, isNon_lst, setAt0, setAt1, cut_to, cut_from, cut_ft, cut_tol, cut_froml, cut_all, cut_map, ixOk_nat, ixN_nat, ixOk_lit, ixN_lit, ixOk_m1, ixN_m1, List.nil_append, List.append_nil, List.cons_append, hasN, List.length_map, List.length_range, List.length_cons, List.length_nil, Bool.not_true, Bool.not_false, Bool.not_not, Bool.true_and, Bool.and_true, Bool.or_true, Bool.true_or, Bool.false_or, Bool.or_false, Bool.and_self, Bool.not_eq_true', Bool.false_eq_true, decide_true, decide_false, decide_eq_true_eq, decide_eq_false_iff_not, true_and, and_true, implies_true, and_self, ne_eq, not_true_eq_false, not_false_eq_true, false_implies, true_implies, eq_self, forall_const, Nat.reduceBEq, Nat.reduceEqDiff, Nat.reduceLT, Nat.reduceAdd, Nat.reduceSub, Nat.reduceLeDiff, Nat.reducePow, Int.reduceLT, Int.reduceLE, Int.reduceNeg, Int.reduceAdd, Int.reduceSub, Int.reducePow, Int.reduceToNat, Int.toNat_natCast, beq_self_eq_true, Bool.and_eq_true, Bool.or_eq_true]
  refine for_map (fun k ρ => ρ = [some (.str al), none, some (.lst (((l.take k).flatMap fun w => al.map fun c => w ++ [c]).map D.str)), none, none]) rfl ?_ ?_
  · rintro ρ rfl
    rw [List.take_length]
    simp -failIfUnchanged -implicitDefEqProofs only [↓gK0, ↓gKs, ↓setK0, ↓setKs, ↓setN0, ↓setNs, ↓setM0, ↓setMs, ↓clrK0, ↓clrKs, ↓bK_bl, ↓iK_int, ↓brK_true, ↓brK_false, ↓brK_dec, ↓brK_not, ↓brK_and, ↓w_ok, ↓w_var, ↓w_mv, ↓w_int, ↓w_str, ↓w_bl, ↓w_non, ↓w_neg, ↓w_bin, ↓w_cmp, ↓w_and, ↓w_or, ↓w_not, ↓w_ite, ↓w_tup, ↓w_lst, ↓w_nil, ↓w_con, ↓w_ix, ↓w_eo0, ↓w_eo1, ↓w_sl, ↓w_rev, ↓w_bi, ↓w_bi2, ↓w_bi3, ↓w_lcp, ↓w_cmp2, ↓w_tr1, ↓w_tr2, ↓w_lset, ↓w_sidx, ↓w_dcl, ↓w_dis, ↓w_join, ↓w_get, ↓w_ssn, ↓w_kill, ↓w_ssc, ↓nxt_nx, ↓nxt_rt, ↓nxt_bk, ↓nxt_ct, ↓w_set, ↓tsK0, ↓tsKs, ↓tgKv, ↓tgKt, ↓tupK_t, ↓w_tset, ↓w_aug, ↓gK_v, ↓gK_x, ↓setM_v, ↓setM_x, ↓atK0, ↓atKs, ↓atK0a, ↓atKsa, ↓w_pv, ↓w_px, ↓w_put, ↓lstK_l, ↓w_app, ↓lsK_l, ↓w_ext, ↓popK_appm, ↓popK_app, ↓popK_con, ↓w_pop, ↓w_ex, ↓w_ret, ↓w_retN, ↓w_brk, ↓w_cnt, ↓w_pass, ↓w_if, ↓w_an, ↓w_av, ↓w_ar, ↓takK0, ↓takKd, ↓takKr, ↓givK0, ↓givKd, ↓givKr, ↓w_call, ↓w_se, ↓w_s1, ↓w_s2, ↓w_s3, ↓w_sn, ↓w_for, ↓w_wh, ↓lpq_nx, ↓lpq_ct, ↓lpq_bk, ↓lpq_rt, ↓w_cn, ↓w_cs, ↓w_comp, ↓o_add, ↓o_sub, ↓o_adds, ↓o_addt, ↓o_addl, ↓o_mul, ↓o_muls, ↓o_mull, ↓o_div, ↓o_mod, ↓o_pow, ↓c_eq, ↓c_ne, ↓c_lt, ↓c_le, ↓c_gt, ↓c_ge, ↓c_eqs, ↓c_nes, ↓c_lts, ↓c_gts, ↓c_les, ↓c_ges, ↓c_neb, ↓c_eqb, ↓c_ins, ↓c_isn, ↓c_ntn, ↓t_bl, ↓t_int, ↓t_str, ↓t_non, ↓t_lst, ↓t_tup, ↓ixK_0, ↓ixK_1, ↓ixK_2, ↓ixK_3, ↓ixK_l1, ↓ixK_l2, ↓ixK_l3, ↓ixK_m1, ↓ixK_map, ↓x_str, ↓x_tup, ↓x_lst, ↓x_fls, ↓l_str, ↓l_tup, ↓l_lst, ↓r_str, ↓r_lst, ↓b_lens, ↓b_lenl, ↓b_lent, ↓b_lenf, ↓b_lend, ↓b_abs, ↓b_int, ↓b_intb, ↓b_tupt, ↓b_tupl, ↓b_lstt, ↓b_lstl, ↓b_lstf, ↓b_lstx, ↓s_set, ↓b_sum, ↓b_any, ↓b_all, ↓j_map, ↓i_str, ↓i_lst, ↓i_tup, ↓i_fls, ↓m_min, ↓m_max, ↓m_min3, ↓m_max3, ↓p_appn, ↓p_appl, ↓p_appi, ↓p_apps, ↓p_app0, ↓p_appc, ↓p_appa, ↓p_ext, ↓p_putm, ↓p_put0, ↓p_put1, ↓p_put2, ↓p_put3, ↓stepK_map, ↓posK_map, ↓end_rt, ↓end_nx, cond_true, cond_false, Option.isNone_none, n_add, n_addl, n_ladd, n_mul, n_sub0, n_ss, n_subt, n_sublt, n_lt, n_le, n_eq, n_0lt, n_1le, n_eq0, n_leb, n_geb, n_natAbs, sing_eq, safeB_none, safeB_nil, safeB_some, own_none, own_some, g_addi, g_adds, g_subi, g_muli, wrE, wrEs, wrEo, wrAs, wrSrc, wrP, wrS, wrSs, md, mdS, Tg.slots, Tgs.slots, P.root, small_ofNat, small_neg, pu_non, pu_bl, pu_int, pu_str, pu_tup, pu_fls, puL_nil, puL_con, puL_map, puL_app, puL_enum, isStr_str, isDct_dct, isNon_non, isNon_int, isNon_str, isNon_tup, isNon_lst, setAt0, setAt1, cut_to, cut_from, cut_ft, cut_tol, cut_froml, cut_all, cut_map, ixOk_nat, ixN_nat, ixOk_lit, ixN_lit, ixOk_m1, ixN_m1, List.nil_append, List.append_nil, List.cons_append, hasN, List.length_map, List.length_range, List.length_cons, List.length_nil, Bool.not_true, Bool.not_false, Bool.not_not, Bool.true_and, Bool.and_true, Bool.or_true, Bool.true_or, Bool.false_or, Bool.or_false, Bool.and_self, Bool.not_eq_true', Bool.false_eq_true, decide_true, decide_false, decide_eq_true_eq, decide_eq_false_iff_not, true_and, and_true, implies_true, and_self, ne_eq, not_true_eq_false, not_false_eq_true, false_implies, true_implies, eq_self, forall_const, Nat.reduceBEq, Nat.reduceEqDiff, Nat.reduceLT, Nat.reduceAdd, Nat.reduceSub, Nat.reduceLeDiff, Nat.reducePow, Int.reduceLT, Int.reduceLE, Int.reduceNeg, Int.reduceAdd, Int.reduceSub, Int.reducePow, Int.reduceToNat, Int.toNat_natCast, beq_self_eq_true, Bool.and_eq_true, Bool.or_eq_true]
    rfl
  · rintro k hk ρ rfl
    have hkl := hs _ (List.getElem_mem hk)
    have hfl : ((l.take k).flatMap fun w => al.map fun c => w ++ [c]).length = k * al.length := by
      rw [fm_len (m := al.length) (fun w => by simp), List.length_take]
      congr 1; omega
    simp -failIfUnchanged -implicitDefEqProofs only [↓gK0, ↓gKs, ↓setK0, ↓setKs, ↓setN0, ↓setNs, ↓setM0, ↓setMs, ↓clrK0, ↓clrKs, ↓bK_bl, ↓iK_int, ↓brK_true, ↓brK_false, ↓brK_dec, ↓brK_not, ↓brK_and, ↓w_ok, ↓w_var, ↓w_mv, ↓w_int, ↓w_str, ↓w_bl, ↓w_non, ↓w_neg, ↓w_bin, ↓w_cmp, ↓w_and, ↓w_or, ↓w_not, ↓w_ite, ↓w_tup, ↓w_lst, ↓w_nil, ↓w_con, ↓w_ix, ↓w_eo0, ↓w_eo1, ↓w_sl, ↓w_rev, ↓w_bi, ↓w_bi2, ↓w_bi3, ↓w_lcp, ↓w_cmp2, ↓w_tr1, ↓w_tr2, ↓w_lset, ↓w_sidx, ↓w_dcl, ↓w_dis, ↓w_join, ↓w_get, ↓w_ssn, ↓w_kill, ↓w_ssc, ↓nxt_nx, ↓nxt_rt, ↓nxt_bk, ↓nxt_ct, ↓w_set, ↓tsK0, ↓tsKs, ↓tgKv, ↓tgKt, ↓tupK_t, ↓w_tset, ↓w_aug, ↓gK_v, ↓gK_x, ↓setM_v, ↓setM_x, ↓atK0, ↓atKs, ↓atK0a, ↓atKsa, ↓w_pv, ↓w_px, ↓w_put, ↓lstK_l, ↓w_app, ↓lsK_l, ↓w_ext, ↓popK_appm, ↓popK_app, ↓popK_con, ↓w_pop, ↓w_ex, ↓w_ret, ↓w_retN, ↓w_brk, ↓w_cnt, ↓w_pass, ↓w_if, ↓w_an, ↓w_av, ↓w_ar, ↓takK0, ↓takKd, ↓takKr, ↓givK0, ↓givKd, ↓givKr, ↓w_call, ↓w_se, ↓w_s1, ↓w_s2, ↓w_s3, ↓w_sn, ↓w_for, ↓w_wh, ↓lpq_nx, ↓lpq_ct, ↓lpq_bk, ↓lpq_rt, ↓w_cn, ↓w_cs, ↓w_comp, ↓o_add, ↓o_sub, ↓o_adds, ↓o_addt, ↓o_addl, ↓o_mul, ↓o_muls, ↓o_mull, ↓o_div, ↓o_mod, ↓o_pow, ↓c_eq, ↓c_ne, ↓c_lt, ↓c_le, ↓c_gt, ↓c_ge, ↓c_eqs, ↓c_nes, ↓c_lts, ↓c_gts, ↓c_les, ↓c_ges, ↓c_neb, ↓c_eqb, ↓c_ins, ↓c_isn, ↓c_ntn, ↓t_bl, ↓t_int, ↓t_str, ↓t_non, ↓t_lst, ↓t_tup, ↓ixK_0, ↓ixK_1, ↓ixK_2, ↓ixK_3, ↓ixK_l1, ↓ixK_l2, ↓ixK_l3, ↓ixK_m1, ↓ixK_map, ↓x_str, ↓x_tup, ↓x_lst, ↓x_fls, ↓l_str, ↓l_tup, ↓l_lst, ↓r_str, ↓r_lst, ↓b_lens, ↓b_lenl, ↓b_lent, ↓b_lenf, ↓b_lend, ↓b_abs, ↓b_int, ↓b_intb, ↓b_tupt, ↓b_tupl, ↓b_lstt, ↓b_lstl, ↓b_lstf, ↓b_lstx, ↓s_set, ↓b_sum, ↓b_any, ↓b_all, ↓j_map, ↓i_str, ↓i_lst, ↓i_tup, ↓i_fls, ↓m_min, ↓m_max, ↓m_min3, ↓m_max3, ↓p_appn, ↓p_appl, ↓p_appi, ↓p_apps, ↓p_app0, ↓p_appc, ↓p_appa, ↓p_ext, ↓p_putm, ↓p_put0, ↓p_put1, ↓p_put2, ↓p_put3, ↓stepK_map, ↓posK_map, ↓end_rt, ↓end_nx, cond_true, cond_false, Option.isNone_none, n_add, n_addl, n_ladd, n_mul, n_sub0, n_ss, n_subt, n_sublt, n_lt, n_le, n_eq, n_0lt, n_1le, n_eq0, n_leb, n_geb, n_natAbs, sing_eq, safeB_none, safeB_nil, safeB_some, own_none, own_some, g_addi, g_adds, g_subi, g_muli, wrE, wrEs, wrEo, wrAs, wrSrc, wrP, wrS, wrSs, md, mdS, Tg.slots, Tgs.slots, P.root, small_ofNat, small_neg, pu_non, pu_bl, pu_int, pu_str, pu_tup, pu_fls, puL_nil, puL_con, puL_map, puL_app, puL_enum, isStr_str, isDct_dct, isNon_non, isNon_int, isNon_str, isNon_tup, isNon_lst, setAt0, setAt1, cut_to, cut_from, cut_ft, cut_tol, cut_froml, cut_all, cut_map, ixOk_nat, ixN_nat, ixOk_lit, ixN_lit, ixOk_m1, ixN_m1, List.nil_append, List.append_nil, List.cons_append, hasN, List.length_map, List.length_range, List.length_cons, List.length_nil, Bool.not_true, Bool.not_false, Bool.not_not, Bool.true_and, Bool.and_true, Bool.or_true, Bool.true_or, Bool.false_or, Bool.or_false, Bool.and_self, Bool.not_eq_true', Bool.false_eq_true, decide_true, decide_false, decide_eq_true_eq, decide_eq_false_iff_not, true_and, and_true, implies_true, and_self, ne_eq, not_true_eq_false, not_false_eq_true, false_implies, true_implies, eq_self, forall_const, Nat.reduceBEq, Nat.reduceEqDiff, Nat.reduceLT, Nat.reduceAdd, Nat.reduceSub, Nat.reduceLeDiff, Nat.reducePow, Int.reduceLT, Int.reduceLE, Int.reduceNeg, Int.reduceAdd, Int.reduceSub, Int.reducePow, Int.reduceToNat, Int.toNat_natCast, beq_self_eq_true, Bool.and_eq_true, Bool.or_eq_true]
    refine ⟨hca, comp_pure (fun c => [some (.str al), none, some (.lst (((l.take k).flatMap fun w => al.map fun c => w ++ [c]).map D.str)), some (.str l[k]), some (.str [c])]) (fun _ => true) (fun c => .str (l[k] ++ [c])) hca (fun _ => rfl) (fun _ => rfl) (fun _ => rfl) rfl (fun k hk => ⟨rfl, rfl⟩) (fun c hc _ => ?_) ?_⟩
    · simp -failIfUnchanged -implicitDefEqProofs only [↓gK0, ↓gKs, ↓setK0, ↓setKs, ↓setN0, ↓setNs, ↓setM0, ↓setMs, ↓clrK0, ↓clrKs, ↓bK_bl, ↓iK_int, ↓brK_true, ↓brK_false, ↓brK_dec, ↓brK_not, ↓brK_and, ↓w_ok, ↓w_var, ↓w_mv, ↓w_int, ↓w_str, ↓w_bl, ↓w_non, ↓w_neg, ↓w_bin, ↓w_cmp, ↓w_and, ↓w_or, ↓w_not, ↓w_ite, ↓w_tup, ↓w_lst, ↓w_nil, ↓w_con, ↓w_ix, ↓w_eo0, ↓w_eo1, ↓w_sl, ↓w_rev, ↓w_bi, ↓w_bi2, ↓w_bi3, ↓w_lcp, ↓w_cmp2, ↓w_tr1, ↓w_tr2, ↓w_lset, ↓w_sidx, ↓w_dcl, ↓w_dis, ↓w_join, ↓w_get, ↓w_ssn, ↓w_kill, ↓w_ssc, ↓nxt_nx, ↓nxt_rt, ↓nxt_bk, ↓nxt_ct, ↓w_set, ↓tsK0, ↓tsKs, ↓tgKv, ↓tgKt, ↓tupK_t, ↓w_tset, ↓w_aug, ↓gK_v, ↓gK_x, ↓setM_v, ↓setM_x, ↓atK0, ↓atKs, ↓atK0a, ↓atKsa, ↓w_pv, ↓w_px, ↓w_put, ↓lstK_l, ↓w_app, ↓lsK_l, ↓w_ext, ↓popK_appm, ↓popK_app, ↓popK_con, ↓w_pop, ↓w_ex, ↓w_ret, ↓w_retN, ↓w_brk, ↓w_cnt, ↓w_pass, ↓w_if, ↓w_an, ↓w_av, ↓w_ar, ↓takK0, ↓takKd, ↓takKr, ↓givK0, ↓givKd, ↓givKr, ↓w_call, ↓w_se, ↓w_s1, ↓w_s2, ↓w_s3, ↓w_sn, ↓w_for, ↓w_wh, ↓lpq_nx, ↓lpq_ct, ↓lpq_bk, ↓lpq_rt, ↓w_cn, ↓w_cs, ↓w_comp, ↓o_add, ↓o_sub, ↓o_adds, ↓o_addt, ↓o_addl, ↓o_mul, ↓o_muls, ↓o_mull, ↓o_div, ↓o_mod, ↓o_pow, ↓c_eq, ↓c_ne, ↓c_lt, ↓c_le, ↓c_gt, ↓c_ge, ↓c_eqs, ↓c_nes, ↓c_lts, ↓c_gts, ↓c_les, ↓c_ges, ↓c_neb, ↓c_eqb, ↓c_ins, ↓c_isn, ↓c_ntn, ↓t_bl, ↓t_int, ↓t_str, ↓t_non, ↓t_lst, ↓t_tup, ↓ixK_0, ↓ixK_1, ↓ixK_2, ↓ixK_3, ↓ixK_l1, ↓ixK_l2, ↓ixK_l3, ↓ixK_m1, ↓ixK_map, ↓x_str, ↓x_tup, ↓x_lst, ↓x_fls, ↓l_str, ↓l_tup, ↓l_lst, ↓r_str, ↓r_lst, ↓b_lens, ↓b_lenl, ↓b_lent, ↓b_lenf, ↓b_lend, ↓b_abs, ↓b_int, ↓b_intb, ↓b_tupt, ↓b_tupl, ↓b_lstt, ↓b_lstl, ↓b_lstf, ↓b_lstx, ↓s_set, ↓b_sum, ↓b_any, ↓b_all, ↓j_map, ↓i_str, ↓i_lst, ↓i_tup, ↓i_fls, ↓m_min, ↓m_max, ↓m_min3, ↓m_max3, ↓p_appn, ↓p_appl, ↓p_appi, ↓p_apps, ↓p_app0, ↓p_appc, ↓p_appa, ↓p_ext, ↓p_putm, ↓p_put0, ↓p_put1, ↓p_put2, ↓p_put3, ↓stepK_map, ↓posK_map, ↓end_rt, ↓end_nx, cond_true, cond_false, Option.isNone_none, n_add, n_addl, n_ladd, n_mul, n_sub0, n_ss, n_subt, n_sublt, n_lt, n_le, n_eq, n_0lt, n_1le, n_eq0, n_leb, n_geb, n_natAbs, sing_eq, safeB_none, safeB_nil, safeB_some, own_none, own_some, g_addi, g_adds, g_subi, g_muli, wrE, wrEs, wrEo, wrAs, wrSrc, wrP, wrS, wrSs, md, mdS, Tg.slots, Tgs.slots, P.root, small_ofNat, small_neg, pu_non, pu_bl, pu_int, pu_str, pu_tup, pu_fls, puL_nil, puL_con, puL_map, puL_app, puL_enum, isStr_str, isDct_dct, isNon_non, isNon_int, isNon_str, isNon_tup, isNon_lst, setAt0, setAt1, cut_to, cut_from, cut_ft, cut_tol, cut_froml, cut_all, cut_map, ixOk_nat, ixN_nat, ixOk_lit, ixN_lit, ixOk_m1, ixN_m1, List.nil_append, List.append_nil, List.cons_append, hasN, List.length_map, List.length_range, List.length_cons, List.length_nil, Bool.not_true, Bool.not_false, Bool.not_not, Bool.true_and, Bool.and_true, Bool.or_true, Bool.true_or, Bool.false_or, Bool.or_false, Bool.and_self, Bool.not_eq_true', Bool.false_eq_true, decide_true, decide_false, decide_eq_true_eq, decide_eq_false_iff_not, true_and, and_true, implies_true, and_self, ne_eq, not_true_eq_false, not_false_eq_true, false_implies, true_implies, eq_self, forall_const, Nat.reduceBEq, Nat.reduceEqDiff, Nat.reduceLT, Nat.reduceAdd, Nat.reduceSub, Nat.reduceLeDiff, Nat.reducePow, Int.reduceLT, Int.reduceLE, Int.reduceNeg, Int.reduceAdd, Int.reduceSub, Int.reducePow, Int.reduceToNat, Int.toNat_natCast, beq_self_eq_true, Bool.and_eq_true, Bool.or_eq_true]
      unfold cap; omega
    · rw [filter_tt]
      simp -failIfUnchanged -implicitDefEqProofs only [↓gK0, ↓gKs, ↓setK0, ↓setKs, ↓setN0, ↓setNs, ↓setM0, ↓setMs, ↓clrK0, ↓clrKs, ↓bK_bl, ↓iK_int, ↓brK_true, ↓brK_false, ↓brK_dec, ↓brK_not, ↓brK_and, ↓w_ok, ↓w_var, ↓w_mv, ↓w_int, ↓w_str, ↓w_bl, ↓w_non, ↓w_neg, ↓w_bin, ↓w_cmp, ↓w_and, ↓w_or, ↓w_not, ↓w_ite, ↓w_tup, ↓w_lst, ↓w_nil, ↓w_con, ↓w_ix, ↓w_eo0, ↓w_eo1, ↓w_sl, ↓w_rev, ↓w_bi, ↓w_bi2, ↓w_bi3, ↓w_lcp, ↓w_cmp2, ↓w_tr1, ↓w_tr2, ↓w_lset, ↓w_sidx, ↓w_dcl, ↓w_dis, ↓w_join, ↓w_get, ↓w_ssn, ↓w_kill, ↓w_ssc, ↓nxt_nx, ↓nxt_rt, ↓nxt_bk, ↓nxt_ct, ↓w_set, ↓tsK0, ↓tsKs, ↓tgKv, ↓tgKt, ↓tupK_t, ↓w_tset, ↓w_aug, ↓gK_v, ↓gK_x, ↓setM_v, ↓setM_x, ↓atK0, ↓atKs, ↓atK0a, ↓atKsa, ↓w_pv, ↓w_px, ↓w_put, ↓lstK_l, ↓w_app, ↓lsK_l, ↓w_ext, ↓popK_appm, ↓popK_app, ↓popK_con, ↓w_pop, ↓w_ex, ↓w_ret, ↓w_retN, ↓w_brk, ↓w_cnt, ↓w_pass, ↓w_if, ↓w_an, ↓w_av, ↓w_ar, ↓takK0, ↓takKd, ↓takKr, ↓givK0, ↓givKd, ↓givKr, ↓w_call, ↓w_se, ↓w_s1, ↓w_s2, ↓w_s3, ↓w_sn, ↓w_for, ↓w_wh, ↓lpq_nx, ↓lpq_ct, ↓lpq_bk, ↓lpq_rt, ↓w_cn, ↓w_cs, ↓w_comp, ↓o_add, ↓o_sub, ↓o_adds, ↓o_addt, ↓o_addl, ↓o_mul, ↓o_muls, ↓o_mull, ↓o_div, ↓o_mod, ↓o_pow, ↓c_eq, ↓c_ne, ↓c_lt, ↓c_le, ↓c_gt, ↓c_ge, ↓c_eqs, ↓c_nes, ↓c_lts, ↓c_gts, ↓c_les, ↓c_ges, ↓c_neb, ↓c_eqb, ↓c_ins, ↓c_isn, ↓c_ntn, ↓t_bl, ↓t_int, ↓t_str, ↓t_non, ↓t_lst, ↓t_tup, ↓ixK_0, ↓ixK_1, ↓ixK_2, ↓ixK_3, ↓ixK_l1, ↓ixK_l2, ↓ixK_l3, ↓ixK_m1, ↓ixK_map, ↓x_str, ↓x_tup, ↓x_lst, ↓x_fls, ↓l_str, ↓l_tup, ↓l_lst, ↓r_str, ↓r_lst, ↓b_lens, ↓b_lenl, ↓b_lent, ↓b_lenf, ↓b_lend, ↓b_abs, ↓b_int, ↓b_intb, ↓b_tupt, ↓b_tupl, ↓b_lstt, ↓b_lstl, ↓b_lstf, ↓b_lstx, ↓s_set, ↓b_sum, ↓b_any, ↓b_all, ↓j_map, ↓i_str, ↓i_lst, ↓i_tup, ↓i_fls, ↓m_min, ↓m_max, ↓m_min3, ↓m_max3, ↓p_appn, ↓p_appl, ↓p_appi, ↓p_apps, ↓p_app0, ↓p_appc, ↓p_appa, ↓p_ext, ↓p_putm, ↓p_put0, ↓p_put1, ↓p_put2, ↓p_put3, ↓stepK_map, ↓posK_map, ↓end_rt, ↓end_nx, cond_true, cond_false, Option.isNone_none, n_add, n_addl, n_ladd, n_mul, n_sub0, n_ss, n_subt, n_sublt, n_lt, n_le, n_eq, n_0lt, n_1le, n_eq0, n_leb, n_geb, n_natAbs, sing_eq, safeB_none, safeB_nil, safeB_some, own_none, own_some, g_addi, g_adds, g_subi, g_muli, wrE, wrEs, wrEo, wrAs, wrSrc, wrP, wrS, wrSs, md, mdS, Tg.slots, Tgs.slots, P.root, small_ofNat, small_neg, pu_non, pu_bl, pu_int, pu_str, pu_tup, pu_fls, puL_nil, puL_con, puL_map, puL_app, puL_enum, isStr_str, isDct_dct, isNon_non, isNon_int, isNon_str, isNon_tup, isNon_lst, setAt0, setAt1, cut_to, cut_from, cut_ft, cut_tol, cut_froml, cut_all, cut_map, ixOk_nat, ixN_nat, ixOk_lit, ixN_lit, ixOk_m1, ixN_m1, List.nil_append, List.append_nil, List.cons_append, hasN, List.length_map, List.length_range, List.length_cons, List.length_nil, Bool.not_true, Bool.not_false, Bool.not_not, Bool.true_and, Bool.and_true, Bool.or_true, Bool.true_or, Bool.false_or, Bool.or_false, Bool.and_self, Bool.not_eq_true', Bool.false_eq_true, decide_true, decide_false, decide_eq_true_eq, decide_eq_false_iff_not, true_and, and_true, implies_true, and_self, ne_eq, not_true_eq_false, not_false_eq_true, false_implies, true_implies, eq_self, forall_const, Nat.reduceBEq, Nat.reduceEqDiff, Nat.reduceLT, Nat.reduceAdd, Nat.reduceSub, Nat.reduceLeDiff, Nat.reducePow, Int.reduceLT, Int.reduceLE, Int.reduceNeg, Int.reduceAdd, Int.reduceSub, Int.reducePow, Int.reduceToNat, Int.toNat_natCast, beq_self_eq_true, Bool.and_eq_true, Bool.or_eq_true]
      rw [hfl]
      refine ⟨?_, ?_⟩
      · have : k * al.length ≤ 30000 * 3 := Nat.mul_le_mul (by omega) ha
        unfold cap; omega
      · rw [List.take_succ_eq_append_getElem hk, List.flatMap_append, List.map_append]
        simp only [List.flatMap_cons, List.flatMap_nil, List.append_nil, List.map_map]
        rfl
theorem longerS {n : Nat} {al : Wrd} {l : List Wrd} (ha : al.length ≤ 3) (hl : l.length ≤ 30000) (hs : ∀ w ∈ l, w.length ≤ 20) : WpF (fns T (n + 1) 10 [.str al, .lst (l.map D.str)]) (fun r rs => rs = [none, none] ∧ r = .lst ((l.flatMap fun w => al.map fun c => w ++ [c]).map D.str)) := fns_wp rfl rfl rfl rfl (longer_c ha hl hs)
theorem all_c {n k : Nat} {al : Wrd} (ha : al.length ≤ 3) (hk : k ≤ 9) : Wp (evSs (fns T (n + 1)) c9 [some (.str al), some (.int k), none, none, none]) (EndQ f9 fun r rs => rs = [none, none] ∧ r = .lst ((lvls al k).map D.str)) := by
  unfold c9
  simp -failIfUnchanged -implicitDefEqProofs only [↓gK0, ↓gKs, ↓setK0, ↓setKs, ↓setN0, ↓setNs, ↓setM0, ↓setMs, ↓clrK0, ↓clrKs, ↓bK_bl, ↓iK_int, ↓brK_true, ↓brK_false, ↓brK_dec, ↓brK_not, ↓brK_and, ↓w_ok, ↓w_var, ↓w_mv, ↓w_int, ↓w_str, ↓w_bl, ↓w_non, ↓w_neg, ↓w_bin, ↓w_cmp, ↓w_and, ↓w_or, ↓w_not, ↓w_ite, ↓w_tup, ↓w_lst, ↓w_nil, ↓w_con, ↓w_ix, ↓w_eo0, ↓w_eo1, ↓w_sl, ↓w_rev, ↓w_bi, ↓w_bi2, ↓w_bi3, ↓w_lcp, ↓w_cmp2, ↓w_tr1, ↓w_tr2, ↓w_lset, ↓w_sidx, ↓w_dcl, ↓w_dis, ↓w_join, ↓w_get, ↓w_ssn, ↓w_kill, ↓w_ssc, ↓nxt_nx, ↓nxt_rt, ↓nxt_bk, ↓nxt_ct, ↓w_set, ↓tsK0, ↓tsKs, ↓tgKv, ↓tgKt, ↓tupK_t, ↓w_tset, ↓w_aug, ↓gK_v, ↓gK_x, ↓setM_v, ↓setM_x, ↓atK0, ↓atKs, ↓atK0a, ↓atKsa, ↓w_pv, ↓w_px, ↓w_put, ↓lstK_l, ↓w_app, ↓lsK_l, ↓w_ext, ↓popK_appm, ↓popK_app, ↓popK_con, ↓w_pop, ↓w_ex, ↓w_ret, ↓w_retN, ↓w_brk, ↓w_cnt, ↓w_pass, ↓w_if, ↓w_an, ↓w_av, ↓w_ar, ↓takK0, ↓takKd, ↓takKr, ↓givK0, ↓givKd, ↓givKr, ↓w_call, ↓w_se, ↓w_s1, ↓w_s2, ↓w_s3, ↓w_sn, ↓w_for, ↓w_wh, ↓lpq_nx, ↓lpq_ct, ↓lpq_bk, ↓lpq_rt, ↓w_cn, ↓w_cs, ↓w_comp, ↓o_add, ↓o_sub, ↓o_adds, ↓o_addt, ↓o_addl, ↓o_mul, ↓o_muls, ↓o_mull, ↓o_div, ↓o_mod, ↓o_pow, ↓c_eq, ↓c_ne, ↓c_lt, ↓c_le, ↓c_gt, ↓c_ge, ↓c_eqs, ↓c_nes, ↓c_lts, ↓c_gts, ↓c_les, ↓c_ges, ↓c_neb, ↓c_eqb, ↓c_ins, ↓c_isn, ↓c_ntn, ↓t_bl, ↓t_int, ↓t_str, ↓t_non, ↓t_lst, ↓t_tup, ↓ixK_0, ↓ixK_1, ↓ixK_2, ↓ixK_3, ↓ixK_l1, ↓ixK_l2, ↓ixK_l3, ↓ixK_m1, ↓ixK_map, ↓x_str, ↓x_tup, ↓x_lst, ↓x_fls, ↓l_str, ↓l_tup, ↓l_lst, ↓r_str, ↓r_lst, ↓b_lens, ↓b_lenl, ↓b_lent, ↓b_lenf, ↓b_lend, ↓b_abs, ↓b_int, ↓b_intb, ↓b_tupt, ↓b_tupl, ↓b_lstt, ↓b_lstl, ↓b_lstf, ↓b_lstx, ↓s_set, ↓b_sum, ↓b_any, ↓b_all, ↓j_map, ↓i_str, ↓i_lst, ↓i_tup, ↓i_fls, ↓m_min, ↓m_max, ↓m_min3, ↓m_max3, ↓p_appn, ↓p_appl, ↓p_appi, ↓p_apps, ↓p_app0, ↓p_appc, ↓p_appa, ↓p_ext, ↓p_putm, ↓p_put0, ↓p_put1, ↓p_put2, ↓p_put3, ↓stepK_map, ↓posK_map, ↓end_rt, ↓end_nx, cond_true, cond_false, Option.isNone_none, n_add, n_addl, n_ladd, n_mul, n_sub0, n_ss, n_subt, n_sublt, n_lt, n_le, n_eq, n_0lt, n_1le, n_eq0, n_leb, n_geb, n_natAbs, sing_eq, safeB_none, safeB_nil, safeB_some, own_none, own_some, g_addi, g_adds, g_subi, g_muli, wrE, wrEs, wrEo, wrAs, wrSrc, wrP, wrS, wrSs, md, mdS, Tg.slots, Tgs.slots, P.root, small_ofNat, small_neg, pu_non, pu_bl, pu_int, pu_str, pu_tup, pu_fls, puL_nil, puL_con, puL_map, puL_app, puL_enum, isStr_str, isDct_dct, isNon_non, isNon_int, isNon_str, isNon_tup, isNon_lst, setAt0, setAt1, cut_to, cut_from, cut_ft, cut_tol, cut_froml, cut_all, cut_map, ixOk_nat, ixN_nat, ixOk_lit, ixN_lit, ixOk_m1, ixN_m1, List.nil_append, List.append_nil, List.cons_append, hasN, List.length_map, List.length_range, List.length_cons, List.length_nil, Bool.not_true, Bool.not_false, Bool.not_not, Bool.true_and, Bool.and_true, Bool.or_true, Bool.true_or, Bool.false_or, Bool.or_false, Bool.and_self, Bool.not_eq_true', Bool.false_eq_true, decide_true, decide_false, decide_eq_true_eq, decide_eq_false_iff_not, true_and, and_true, implies_true, and_self, ne_eq, not_true_eq_false, not_false_eq_true, false_implies, true_implies, eq_self, forall_const, Nat.reduceBEq, Nat.reduceEqDiff, Nat.reduceLT, Nat.reduceAdd, Nat.reduceSub, Nat.reduceLeDiff, Nat.reducePow, Int.reduceLT, Int.reduceLE, Int.reduceNeg, Int.reduceAdd, Int.reduceSub, Int.reducePow, Int.reduceToNat, Int.toNat_natCast, beq_self_eq_true, Bool.and_eq_true, Bool.or_eq_true]
  refine ⟨by omega, for_range (fun j ρ => ρ = [some (.str al), some (.int k), some (.lst ((lvl al j).map D.str)), some (.lst ((lvls al j).map D.str)), none]) rfl ?_ ?_⟩
  · rintro ρ rfl
    simp -failIfUnchanged -implicitDefEqProofs only [↓gK0, ↓gKs, ↓setK0, ↓setKs, ↓setN0, ↓setNs, ↓setM0, ↓setMs, ↓clrK0, ↓clrKs, ↓bK_bl, ↓iK_int, ↓brK_true, ↓brK_false, ↓brK_dec, ↓brK_not, ↓brK_and, ↓w_ok, ↓w_var, ↓w_mv, ↓w_int, ↓w_str, ↓w_bl, ↓w_non, ↓w_neg, ↓w_bin, ↓w_cmp, ↓w_and, ↓w_or, ↓w_not, ↓w_ite, ↓w_tup, ↓w_lst, ↓w_nil, ↓w_con, ↓w_ix, ↓w_eo0, ↓w_eo1, ↓w_sl, ↓w_rev, ↓w_bi, ↓w_bi2, ↓w_bi3, ↓w_lcp, ↓w_cmp2, ↓w_tr1, ↓w_tr2, ↓w_lset, ↓w_sidx, ↓w_dcl, ↓w_dis, ↓w_join, ↓w_get, ↓w_ssn, ↓w_kill, ↓w_ssc, ↓nxt_nx, ↓nxt_rt, ↓nxt_bk, ↓nxt_ct, ↓w_set, ↓tsK0, ↓tsKs, ↓tgKv, ↓tgKt, ↓tupK_t, ↓w_tset, ↓w_aug, ↓gK_v, ↓gK_x, ↓setM_v, ↓setM_x, ↓atK0, ↓atKs, ↓atK0a, ↓atKsa, ↓w_pv, ↓w_px, ↓w_put, ↓lstK_l, ↓w_app, ↓lsK_l, ↓w_ext, ↓popK_appm, ↓popK_app, ↓popK_con, ↓w_pop, ↓w_ex, ↓w_ret, ↓w_retN, ↓w_brk, ↓w_cnt, ↓w_pass, ↓w_if, ↓w_an, ↓w_av, ↓w_ar, ↓takK0, ↓takKd, ↓takKr, ↓givK0, ↓givKd, ↓givKr, ↓w_call, ↓w_se, ↓w_s1, ↓w_s2, ↓w_s3, ↓w_sn, ↓w_for, ↓w_wh, ↓lpq_nx, ↓lpq_ct, ↓lpq_bk, ↓lpq_rt, ↓w_cn, ↓w_cs, ↓w_comp, ↓o_add, ↓o_sub, ↓o_adds, ↓o_addt, ↓o_addl, ↓o_mul, ↓o_muls, ↓o_mull, ↓o_div, ↓o_mod, ↓o_pow, ↓c_eq, ↓c_ne, ↓c_lt, ↓c_le, ↓c_gt, ↓c_ge, ↓c_eqs, ↓c_nes, ↓c_lts, ↓c_gts, ↓c_les, ↓c_ges, ↓c_neb, ↓c_eqb, ↓c_ins, ↓c_isn, ↓c_ntn, ↓t_bl, ↓t_int, ↓t_str, ↓t_non, ↓t_lst, ↓t_tup, ↓ixK_0, ↓ixK_1, ↓ixK_2, ↓ixK_3, ↓ixK_l1, ↓ixK_l2, ↓ixK_l3, ↓ixK_m1, ↓ixK_map, ↓x_str, ↓x_tup, ↓x_lst, ↓x_fls, ↓l_str, ↓l_tup, ↓l_lst, ↓r_str, ↓r_lst, ↓b_lens, ↓b_lenl, ↓b_lent, ↓b_lenf, ↓b_lend, ↓b_abs, ↓b_int, ↓b_intb, ↓b_tupt, ↓b_tupl, ↓b_lstt, ↓b_lstl, ↓b_lstf, ↓b_lstx, ↓s_set, ↓b_sum, ↓b_any, ↓b_all, ↓j_map, ↓i_str, ↓i_lst, ↓i_tup, ↓i_fls, ↓m_min, ↓m_max, ↓m_min3, ↓m_max3, ↓p_appn, ↓p_appl, ↓p_appi, ↓p_apps, ↓p_app0, ↓p_appc, ↓p_appa, ↓p_ext, ↓p_putm, ↓p_put0, ↓p_put1, ↓p_put2, ↓p_put3, ↓stepK_map, ↓posK_map, ↓end_rt, ↓end_nx, cond_true, cond_false, Option.isNone_none, n_add, n_addl, n_ladd, n_mul, n_sub0, n_ss, n_subt, n_sublt, n_lt, n_le, n_eq, n_0lt, n_1le, n_eq0, n_leb, n_geb, n_natAbs, sing_eq, safeB_none, safeB_nil, safeB_some, own_none, own_some, g_addi, g_adds, g_subi, g_muli, wrE, wrEs, wrEo, wrAs, wrSrc, wrP, wrS, wrSs, md, mdS, Tg.slots, Tgs.slots, P.root, small_ofNat, small_neg, pu_non, pu_bl, pu_int, pu_str, pu_tup, pu_fls, puL_nil, puL_con, puL_map, puL_app, puL_enum, isStr_str, isDct_dct, isNon_non, isNon_int, isNon_str, isNon_tup, isNon_lst, setAt0, setAt1, cut_to, cut_from, cut_ft, cut_tol, cut_froml, cut_all, cut_map, ixOk_nat, ixN_nat, ixOk_lit, ixN_lit, ixOk_m1, ixN_m1, List.nil_append, List.append_nil, List.cons_append, hasN, List.length_map, List.length_range, List.length_cons, List.length_nil, Bool.not_true, Bool.not_false, Bool.not_not, Bool.true_and, Bool.and_true, Bool.or_true, Bool.true_or, Bool.false_or, Bool.or_false, Bool.and_self, Bool.not_eq_true', Bool.false_eq_true, decide_true, decide_false, decide_eq_true_eq, decide_eq_false_iff_not, true_and, and_true, implies_true, and_self, ne_eq, not_true_eq_false, not_false_eq_true, false_implies, true_implies, eq_self, forall_const, Nat.reduceBEq, Nat.reduceEqDiff, Nat.reduceLT, Nat.reduceAdd, Nat.reduceSub, Nat.reduceLeDiff, Nat.reducePow, Int.reduceLT, Int.reduceLE, Int.reduceNeg, Int.reduceAdd, Int.reduceSub, Int.reducePow, Int.reduceToNat, Int.toNat_natCast, beq_self_eq_true, Bool.and_eq_true, Bool.or_eq_true]
    rfl
  · rintro j hj ρ rfl
    have h1 : (lvl al j).length ≤ 30000 := by
      rw [lvl_len]
      have : al.length ^ j ≤ 3 ^ 9 := Nat.le_trans (Nat.pow_le_pow_left ha _) (Nat.pow_le_pow_right (by omega) (by omega))
      omega
    simp -failIfUnchanged -implicitDefEqProofs only [↓gK0, ↓gKs, ↓setK0, ↓setKs, ↓setN0, ↓setNs, ↓setM0, ↓setMs, ↓clrK0, ↓clrKs, ↓bK_bl, ↓iK_int, ↓brK_true, ↓brK_false, ↓brK_dec, ↓brK_not, ↓brK_and, ↓w_ok, ↓w_var, ↓w_mv, ↓w_int, ↓w_str, ↓w_bl, ↓w_non, ↓w_neg, ↓w_bin, ↓w_cmp, ↓w_and, ↓w_or, ↓w_not, ↓w_ite, ↓w_tup, ↓w_lst, ↓w_nil, ↓w_con, ↓w_ix, ↓w_eo0, ↓w_eo1, ↓w_sl, ↓w_rev, ↓w_bi, ↓w_bi2, ↓w_bi3, ↓w_lcp, ↓w_cmp2, ↓w_tr1, ↓w_tr2, ↓w_lset, ↓w_sidx, ↓w_dcl, ↓w_dis, ↓w_join, ↓w_get, ↓w_ssn, ↓w_kill, ↓w_ssc, ↓nxt_nx, ↓nxt_rt, ↓nxt_bk, ↓nxt_ct, ↓w_set, ↓tsK0, ↓tsKs, ↓tgKv, ↓tgKt, ↓tupK_t, ↓w_tset, ↓w_aug, ↓gK_v, ↓gK_x, ↓setM_v, ↓setM_x, ↓atK0, ↓atKs, ↓atK0a, ↓atKsa, ↓w_pv, ↓w_px, ↓w_put, ↓lstK_l, ↓w_app, ↓lsK_l, ↓w_ext, ↓popK_appm, ↓popK_app, ↓popK_con, ↓w_pop, ↓w_ex, ↓w_ret, ↓w_retN, ↓w_brk, ↓w_cnt, ↓w_pass, ↓w_if, ↓w_an, ↓w_av, ↓w_ar, ↓takK0, ↓takKd, ↓takKr, ↓givK0, ↓givKd, ↓givKr, ↓w_call, ↓w_se, ↓w_s1, ↓w_s2, ↓w_s3, ↓w_sn, ↓w_for, ↓w_wh, ↓lpq_nx, ↓lpq_ct, ↓lpq_bk, ↓lpq_rt, ↓w_cn, ↓w_cs, ↓w_comp, ↓o_add, ↓o_sub, ↓o_adds, ↓o_addt, ↓o_addl, ↓o_mul, ↓o_muls, ↓o_mull, ↓o_div, ↓o_mod, ↓o_pow, ↓c_eq, ↓c_ne, ↓c_lt, ↓c_le, ↓c_gt, ↓c_ge, ↓c_eqs, ↓c_nes, ↓c_lts, ↓c_gts, ↓c_les, ↓c_ges, ↓c_neb, ↓c_eqb, ↓c_ins, ↓c_isn, ↓c_ntn, ↓t_bl, ↓t_int, ↓t_str, ↓t_non, ↓t_lst, ↓t_tup, ↓ixK_0, ↓ixK_1, ↓ixK_2, ↓ixK_3, ↓ixK_l1, ↓ixK_l2, ↓ixK_l3, ↓ixK_m1, ↓ixK_map, ↓x_str, ↓x_tup, ↓x_lst, ↓x_fls, ↓l_str, ↓l_tup, ↓l_lst, ↓r_str, ↓r_lst, ↓b_lens, ↓b_lenl, ↓b_lent, ↓b_lenf, ↓b_lend, ↓b_abs, ↓b_int, ↓b_intb, ↓b_tupt, ↓b_tupl, ↓b_lstt, ↓b_lstl, ↓b_lstf, ↓b_lstx, ↓s_set, ↓b_sum, ↓b_any, ↓b_all, ↓j_map, ↓i_str, ↓i_lst, ↓i_tup, ↓i_fls, ↓m_min, ↓m_max, ↓m_min3, ↓m_max3, ↓p_appn, ↓p_appl, ↓p_appi, ↓p_apps, ↓p_app0, ↓p_appc, ↓p_appa, ↓p_ext, ↓p_putm, ↓p_put0, ↓p_put1, ↓p_put2, ↓p_put3, ↓stepK_map, ↓posK_map, ↓end_rt, ↓end_nx, cond_true, cond_false, Option.isNone_none, n_add, n_addl, n_ladd, n_mul, n_sub0, n_ss, n_subt, n_sublt, n_lt, n_le, n_eq, n_0lt, n_1le, n_eq0, n_leb, n_geb, n_natAbs, sing_eq, safeB_none, safeB_nil, safeB_some, own_none, own_some, g_addi, g_adds, g_subi, g_muli, wrE, wrEs, wrEo, wrAs, wrSrc, wrP, wrS, wrSs, md, mdS, Tg.slots, Tgs.slots, P.root, small_ofNat, small_neg, pu_non, pu_bl, pu_int, pu_str, pu_tup, pu_fls, puL_nil, puL_con, puL_map, puL_app, puL_enum, isStr_str, isDct_dct, isNon_non, isNon_int, isNon_str, isNon_tup, isNon_lst, setAt0, setAt1, cut_to, cut_from, cut_ft, cut_tol, cut_froml, cut_all, cut_map, ixOk_nat, ixN_nat, ixOk_lit, ixN_lit, ixOk_m1, ixN_m1, List.nil_append, List.append_nil, List.cons_append, hasN, List.length_map, List.length_range, List.length_cons, List.length_nil, Bool.not_true, Bool.not_false, Bool.not_not, Bool.true_and, Bool.and_true, Bool.or_true, Bool.true_or, Bool.false_or, Bool.or_false, Bool.and_self, Bool.not_eq_true', Bool.false_eq_true, decide_true, decide_false, decide_eq_true_eq, decide_eq_false_iff_not, true_and, and_true, implies_true, and_self, ne_eq, not_true_eq_false, not_false_eq_true, false_implies, true_implies, eq_self, forall_const, Nat.reduceBEq, Nat.reduceEqDiff, Nat.reduceLT, Nat.reduceAdd, Nat.reduceSub, Nat.reduceLeDiff, Nat.reducePow, Int.reduceLT, Int.reduceLE, Int.reduceNeg, Int.reduceAdd, Int.reduceSub, Int.reducePow, Int.reduceToNat, Int.toNat_natCast, beq_self_eq_true, Bool.and_eq_true, Bool.or_eq_true]
    refine wpf_mono (longerS ha h1 fun w hw => by rw [lvl_sz hw]; omega) ?_
    rintro r rs ⟨rfl, rfl⟩
    have h2 := lvls_len (al := al) (n := j + 1) ha (by omega)
    have h3 : (lvls al (j + 1)).length = (lvls al j).length + (lvl al (j + 1)).length := List.length_append
    have h4 : ((lvl al j).flatMap fun w => al.map fun c => w ++ [c]) = lvl al (j + 1) := rfl
    rw [h4]
    simp -failIfUnchanged -implicitDefEqProofs only [↓gK0, ↓gKs, ↓setK0, ↓setKs, ↓setN0, ↓setNs, ↓setM0, ↓setMs, ↓clrK0, ↓clrKs, ↓bK_bl, ↓iK_int, ↓brK_true, ↓brK_false, ↓brK_dec, ↓brK_not, ↓brK_and, ↓w_ok, ↓w_var, ↓w_mv, ↓w_int, ↓w_str, ↓w_bl, ↓w_non, ↓w_neg, ↓w_bin, ↓w_cmp, ↓w_and, ↓w_or, ↓w_not, ↓w_ite, ↓w_tup, ↓w_lst, ↓w_nil, ↓w_con, ↓w_ix, ↓w_eo0, ↓w_eo1, ↓w_sl, ↓w_rev, ↓w_bi, ↓w_bi2, ↓w_bi3, ↓w_lcp, ↓w_cmp2, ↓w_tr1, ↓w_tr2, ↓w_lset, ↓w_sidx, ↓w_dcl, ↓w_dis, ↓w_join, ↓w_get, ↓w_ssn, ↓w_kill, ↓w_ssc, ↓nxt_nx, ↓nxt_rt, ↓nxt_bk, ↓nxt_ct, ↓w_set, ↓tsK0, ↓tsKs, ↓tgKv, ↓tgKt, ↓tupK_t, ↓w_tset, ↓w_aug, ↓gK_v, ↓gK_x, ↓setM_v, ↓setM_x, ↓atK0, ↓atKs, ↓atK0a, ↓atKsa, ↓w_pv, ↓w_px, ↓w_put, ↓lstK_l, ↓w_app, ↓lsK_l, ↓w_ext, ↓popK_appm, ↓popK_app, ↓popK_con, ↓w_pop, ↓w_ex, ↓w_ret, ↓w_retN, ↓w_brk, ↓w_cnt, ↓w_pass, ↓w_if, ↓w_an, ↓w_av, ↓w_ar, ↓takK0, ↓takKd, ↓takKr, ↓givK0, ↓givKd, ↓givKr, ↓w_call, ↓w_se, ↓w_s1, ↓w_s2, ↓w_s3, ↓w_sn, ↓w_for, ↓w_wh, ↓lpq_nx, ↓lpq_ct, ↓lpq_bk, ↓lpq_rt, ↓w_cn, ↓w_cs, ↓w_comp, ↓o_add, ↓o_sub, ↓o_adds, ↓o_addt, ↓o_addl, ↓o_mul, ↓o_muls, ↓o_mull, ↓o_div, ↓o_mod, ↓o_pow, ↓c_eq, ↓c_ne, ↓c_lt, ↓c_le, ↓c_gt, ↓c_ge, ↓c_eqs, ↓c_nes, ↓c_lts, ↓c_gts, ↓c_les, ↓c_ges, ↓c_neb, ↓c_eqb, ↓c_ins, ↓c_isn, ↓c_ntn, ↓t_bl, ↓t_int, ↓t_str, ↓t_non, ↓t_lst, ↓t_tup, ↓ixK_0, ↓ixK_1, ↓ixK_2, ↓ixK_3, ↓ixK_l1, ↓ixK_l2, ↓ixK_l3, ↓ixK_m1, ↓ixK_map, ↓x_str, ↓x_tup, ↓x_lst, ↓x_fls, ↓l_str, ↓l_tup, ↓l_lst, ↓r_str, ↓r_lst, ↓b_lens, ↓b_lenl, ↓b_lent, ↓b_lenf, ↓b_lend, ↓b_abs, ↓b_int, ↓b_intb, ↓b_tupt, ↓b_tupl, ↓b_lstt, ↓b_lstl, ↓b_lstf, ↓b_lstx, ↓s_set, ↓b_sum, ↓b_any, ↓b_all, ↓j_map, ↓i_str, ↓i_lst, ↓i_tup, ↓i_fls, ↓m_min, ↓m_max, ↓m_min3, ↓m_max3, ↓p_appn, ↓p_appl, ↓p_appi, ↓p_apps, ↓p_app0, ↓p_appc, ↓p_appa, ↓p_ext, ↓p_putm, ↓p_put0, ↓p_put1, ↓p_put2, ↓p_put3, ↓stepK_map, ↓posK_map, ↓end_rt, ↓end_nx, cond_true, cond_false, Option.isNone_none, n_add, n_addl, n_ladd, n_mul, n_sub0, n_ss, n_subt, n_sublt, n_lt, n_le, n_eq, n_0lt, n_1le, n_eq0, n_leb, n_geb, n_natAbs, sing_eq, safeB_none, safeB_nil, safeB_some, own_none, own_some, g_addi, g_adds, g_subi, g_muli, wrE, wrEs, wrEo, wrAs, wrSrc, wrP, wrS, wrSs, md, mdS, Tg.slots, Tgs.slots, P.root, small_ofNat, small_neg, pu_non, pu_bl, pu_int, pu_str, pu_tup, pu_fls, puL_nil, puL_con, puL_map, puL_app, puL_enum, isStr_str, isDct_dct, isNon_non, isNon_int, isNon_str, isNon_tup, isNon_lst, setAt0, setAt1, cut_to, cut_from, cut_ft, cut_tol, cut_froml, cut_all, cut_map, ixOk_nat, ixN_nat, ixOk_lit, ixN_lit, ixOk_m1, ixN_m1, List.nil_append, List.append_nil, List.cons_append, hasN, List.length_map, List.length_range, List.length_cons, List.length_nil, Bool.not_true, Bool.not_false, Bool.not_not, Bool.true_and, Bool.and_true, Bool.or_true, Bool.true_or, Bool.false_or, Bool.or_false, Bool.and_self, Bool.not_eq_true', Bool.false_eq_true, decide_true, decide_false, decide_eq_true_eq, decide_eq_false_iff_not, true_and, and_true, implies_true, and_self, ne_eq, not_true_eq_false, not_false_eq_true, false_implies, true_implies, eq_self, forall_const, Nat.reduceBEq, Nat.reduceEqDiff, Nat.reduceLT, Nat.reduceAdd, Nat.reduceSub, Nat.reduceLeDiff, Nat.reducePow, Int.reduceLT, Int.reduceLE, Int.reduceNeg, Int.reduceAdd, Int.reduceSub, Int.reducePow, Int.reduceToNat, Int.toNat_natCast, beq_self_eq_true, Bool.and_eq_true, Bool.or_eq_true]
    refine ⟨by unfold cap; omega, ?_⟩
    rw [show lvls al (j + 1) = lvls al j ++ lvl al (j + 1) from rfl, List.map_append]
theorem allS {n k : Nat} {al : Wrd} (ha : al.length ≤ 3) (hk : k ≤ 9) : WpF (fns T (n + 2) 9 [.str al, .int k]) (fun r rs => rs = [none, none] ∧ r = .lst ((lvls al k).map D.str)) := fns_wp rfl rfl rfl rfl (all_c ha hk)
end Wk

/-! S2: k14's round words (by the kernel) -/
namespace Wk
open G
open C_k14
abbrev aS : Wrd := [97]
abbrev abS : Wrd := [97, 98]
abbrev abcS : Wrd := [97, 98, 99]
abbrev abcdS : Wrd := [97, 98, 99, 100]
/-- the alphabets, the lengths, the words told -/
def menu : List (Wrd × Nat × Wrd) := [(abS, 1, [97, 98]), (abS, 2, [97, 97, 98, 98]), (abS, 3, [97, 97, 97, 98, 97, 98, 98, 98]), (abS, 4, [97, 97, 97, 97, 98, 97, 97, 98, 98, 97, 98, 97, 98, 98, 98, 98]),
  (abcS, 1, [97, 98, 99]), (abcS, 2, [97, 97, 98, 97, 99, 98, 98, 99, 99]), (aS, 1, [97]), (aS, 3, [97]),
  (abcdS, 2, [97, 97, 98, 97, 99, 97, 100, 98, 98, 99, 98, 100, 99, 99, 100, 100]),
  (abcS, 3, [97, 97, 97, 98, 97, 97, 99, 97, 98, 98, 97, 98, 99, 97, 99, 98, 97, 99, 99, 98, 98, 98, 99, 98, 99, 99, 99])]
def strB (l : Wrd) : FR → Bool
  | .ok (.str t) [none, none] => decide (t = l)
  | _ => false
theorem strB_ok {l : Wrd} {r : FR} (h : strB l r = true) : WpF r fun d rs => rs = [none, none] ∧ d = .str l := by
  unfold strB at h
  split at h
  · have := of_decide_eq_true h
    exact ⟨rfl, by rw [this]⟩
  · cases h
def blB (b : Bool) : FR → Bool
  | .ok (.bl c) [none, none] => c == b
  | _ => false
theorem blB_ok {b : Bool} {r : FR} (h : blB b r = true) : WpF r fun d rs => rs = [none, none] ∧ d = .bl b := by
  unfold blB at h
  split at h
  · have := eq_of_beq h
    exact ⟨rfl, by rw [this]⟩
  · cases h
theorem told_all : menu.all (fun p => strB p.2.2 (fns T 4 5 [.str p.1, .int (p.2.1 : Nat)])) = true := by decide +kernel
theorem large5 : blB true (fns T 4 11 [.str abcdS, .int 5]) = true := by decide +kernel
theorem large4 : blB false (fns T 4 11 [.str abcdS, .int 4]) = true := by decide +kernel
theorem once_all : menu.all (fun p => decide (p.2.2.length < p.2.1) || onceB p.1 p.2.1 p.2.2) = true := by decide +kernel
theorem best_all : menu.all (fun p => !((p.1 == abS || p.1 == abcS) && decide (p.2.2.length ≤ 9) && decide (1 < p.2.1)) || decide ((lvl p.1 p.2.2.length).find? (onceB p.1 p.2.1) = some p.2.2)) = true := by decide +kernel
end Wk

/-! S3: the law k14 -/
namespace Wk
open G
open C_k14
def r13_11 : Ss := .nil
def r13_10 : Ss := .cons (.ret (.and (.call 11 (.val (.str [97, 98, 99, 100]) (.val (.int 5) .nil))) (.not (.call 11 (.val (.str [97, 98, 99, 100]) (.val (.int 4) .nil)))))) r13_11
def r13_9 : Ss := .cons (.for (.v 11) (.r1 (.int 4)) (.cons (.set 12 (.call 7 (.ref 1 (.val (.bin .add (.bi .len (.var 8)) (.int 1)) .nil)))) (.cons (.set 13 (.call 8 (.ref 1 (.val (.bin .add (.bi .list (.var 6)) (.lst (.cons (.str [122]) .nil))) .nil)))) (.cons (.set 14 (.call 8 (.ref 1 (.val (.lst (.cons (.bin .add (.sl (.var 8) (.som (.var 12)) .non) (.sl (.var 8) .non (.som (.var 12)))) (.cons (.bin .add (.bin .add (.sl (.var 8) .non (.som (.var 12))) (.var 13)) (.sl (.var 8) (.som (.bin .add (.var 12) (.int 1))) .non)) (.cons (.bin .add (.sl (.var 8) .non (.som (.var 12))) (.sl (.var 8) (.som (.bin .add (.var 12) (.int 1))) .non)) (.cons (.var 8) .nil))))) .nil)))) (.cons (.ite (.cmp .ne (.call 3 (.val (.var 6) (.val (.var 7) (.val (.var 14) .nil)))) (.call 12 (.val (.var 6) (.val (.var 7) (.val (.var 14) .nil))))) (.cons (.ret (.bl false)) .nil) .nil) .nil)))) [11, 12, 13, 14]) r13_10
def r13_8 : Ss := .cons (.ite (.and (.cmp .inn (.var 6) (.tup (.cons (.str [97, 98]) (.cons (.str [97, 98, 99]) .nil)))) (.and (.cmp .le (.bi .len (.var 8)) (.int 9)) (.cmp .gt (.var 7) (.int 1)))) (.cons (.set 9 .non) (.cons (.for (.v 10) (.e (.call 9 (.val (.var 6) (.val (.bi .len (.var 8)) .nil)))) (.cons (.ite (.and (.cmp .isn (.var 9) .non) (.and (.cmp .eq (.bi .len (.var 10)) (.bi .len (.var 8))) (.call 12 (.val (.var 6) (.val (.var 7) (.val (.var 10) .nil)))))) (.cons (.set 9 (.var 10)) .nil) .nil) .nil) [10]) (.cons (.ite (.cmp .ne (.var 8) (.var 9)) (.cons (.ret (.bl false)) .nil) .nil) .nil))) .nil) r13_9
def r13_7 : Ss := .cons (.ite (.and (.cmp .ge (.bi .len (.var 8)) (.var 7)) (.not (.call 12 (.val (.var 6) (.val (.var 7) (.val (.var 8) .nil)))))) (.cons (.ret (.bl false)) .nil) .nil) r13_8
theorem c13_eq : c13 = (.cons (.set 1 (.call 6 (.val (.var 0) .nil))) (.cons (.set 2 (.join (.str []) (.comp (.v 15) (.r1 (.call 7 (.ref 1 (.val (.int 13) .nil)))) .non (.call 8 (.ref 1 (.val (.str [97, 98, 99]) .nil)))))) (.cons (.set 3 .non) (.cons (.for (.v 4) (.r1 (.bi .len (.var 2))) (.cons (.for (.v 5) (.r2 (.int 1) (.bi .len (.var 2))) (.cons (.ite (.and (.cmp .isn (.var 3) .non) (.and (.cmp .le (.bin .add (.var 4) (.bin .mul (.int 2) (.var 5))) (.bi .len (.var 2))) (.cmp .eq (.sl (.var 2) (.som (.var 4)) (.som (.bin .add (.var 4) (.var 5)))) (.sl (.var 2) (.som (.bin .add (.var 4) (.var 5))) (.som (.bin .add (.var 4) (.bin .mul (.int 2) (.var 5)))))))) (.cons (.set 3 (.tup (.cons (.var 4) (.cons (.var 5) .nil)))) .nil) .nil) .nil) [5]) .nil) [4, 5]) (.cons (.ite (.cmp .ne (.call 0 (.val (.var 2) .nil)) (.var 3)) (.cons (.ret (.bl false)) .nil) .nil) (.cons (.tset (.cons (.v 6) (.cons (.v 7) .nil)) (.call 8 (.ref 1 (.val (.lst (.cons (.tup (.cons (.str [97, 98]) (.cons (.int 1) .nil))) (.cons (.tup (.cons (.str [97, 98]) (.cons (.int 2) .nil))) (.cons (.tup (.cons (.str [97, 98]) (.cons (.int 3) .nil))) (.cons (.tup (.cons (.str [97, 98]) (.cons (.int 4) .nil))) (.cons (.tup (.cons (.str [97, 98, 99]) (.cons (.int 1) .nil))) (.cons (.tup (.cons (.str [97, 98, 99]) (.cons (.int 2) .nil))) (.cons (.tup (.cons (.str [97]) (.cons (.int 1) .nil))) (.cons (.tup (.cons (.str [97]) (.cons (.int 3) .nil))) (.cons (.tup (.cons (.str [97, 98, 99, 100]) (.cons (.int 2) .nil))) (.cons (.tup (.cons (.str [97, 98, 99]) (.cons (.int 3) .nil))) .nil))))))))))) .nil)))) (.cons (.set 8 (.call 5 (.val (.var 6) (.val (.var 7) .nil)))) r13_7))))))) := rfl
theorem menu_f : menu.all (fun p => decide (1 ≤ p.2.1) && decide (p.2.1 ≤ 4) && decide (p.1.length ≤ 4) && decide (p.1.length ≤ 3 ∨ p.2.1 = 2) && decide (p.2.2.length ≤ 27)) = true := by decide +kernel
theorem menu_g {p : Wrd × Nat × Wrd} (h : p ∈ menu) : ∃ m, p.2.1 = m + 1 ∧ m ≤ 3 ∧ p.1.length ≤ 4 ∧ p.2.2.length ≤ 27 := by
  have := List.all_eq_true.mp menu_f p h
  simp only [Bool.and_eq_true, decide_eq_true_eq] at this
  obtain ⟨⟨⟨⟨h1, h2⟩, h3⟩, h4⟩, h5⟩ := this
  exact ⟨p.2.1 - 1, by omega, by omega, h3, h5⟩
/-- what the law calls -/
structure Sp14 (Γ : Fns) : Prop where
  beg : ∀ ns : List Int, WpF (Γ 6 [.fls (ns.map D.int)]) fun r rs => rs = [none] ∧ DOk r
  tk : ∀ (d : D) (many : Int), 0 < many → many < 1000000000 → DOk d → WpF (Γ 7 [d, .int many]) (TQ many)
  pick : ∀ (w : List D) (d : D), w ≠ [] → w.length ≤ cap → (∀ x ∈ w, pu x = true) → DOk d → WpF (Γ 8 [d, .lst w]) (PQ fun r => r ∈ w)
  chr : ∀ d : D, DOk d → WpF (Γ 8 [d, .str [97, 98, 99]]) (PQo (fun r => ∃ c ∈ [97, 98, 99], r = .str [c]) none)
  has : ∀ w : Wrd, w.length ≤ 1000 → WpF (Γ 0 [.str w]) fun r rs => rs = [none] ∧ ∃ o, Fst2 w o ∧ r = sqD o
  once : ∀ (al w : Wrd) (m : Nat), al.length ≤ 100 → w.length ≤ 1000 → m ≤ 100 → WpF (Γ 12 [.str al, .int ((m + 1 : Nat) : Int), .str w]) fun r rs => rs = [none, none, none] ∧ r = .bl (onceB al (m + 1) w)
  stands : ∀ (al w : Wrd) (m : Nat), al.length ≤ 100 → w.length ≤ 1000 → m ≤ 100 → WpF (Γ 3 [.str al, .int ((m + 1 : Nat) : Int), .str w]) fun r rs => rs = [none, none, none] ∧ r = .bl (onceB al (m + 1) w)
  all : ∀ (al : Wrd) (k : Nat), al.length ≤ 3 → k ≤ 9 → WpF (Γ 9 [.str al, .int k]) fun r rs => rs = [none, none] ∧ r = .lst ((lvls al k).map D.str)
  told : ∀ p ∈ menu, WpF (Γ 5 [.str p.1, .int (p.2.1 : Nat)]) fun r rs => rs = [none, none] ∧ r = .str p.2.2
  l5 : WpF (Γ 11 [.str abcdS, .int 5]) fun r rs => rs = [none, none] ∧ r = .bl true
  l4 : WpF (Γ 11 [.str abcdS, .int 4]) fun r rs => rs = [none, none] ∧ r = .bl false
theorem sp14 {Γ : Fns} (e : Γ = fns T 4) : Sp14 Γ where
  beg := fun ns => by rw [e]; exact begin_ok (it := 6) rfl 3 ns
  tk := fun d many h1 h2 hd => by rw [e]; exact take_ok (it := 7) rfl 3 h1 h2 hd
  pick := fun w d h1 h2 h3 hd => by rw [e]; exact pick_lst (it := 7) rfl rfl 2 h1 h2 h3 hd
  chr := fun d hd => by rw [e]; exact pick_str (it := 7) rfl rfl 2 (by simp) (by simp [cap]) hd
  has := fun w h => by rw [e]; exact hasS (n := 3) h
  once := fun al w m h1 h2 h3 => by rw [e]; exact onceS (n := 3) h1 h2 h3
  stands := fun al w m h1 h2 h3 => by rw [e]; exact standsS (n := 2) h1 h2 h3
  all := fun al k h1 h2 => by rw [e]; exact allS (n := 2) h1 h2
  told := fun p hp => strB_ok (by rw [e]; exact List.all_eq_true.mp told_all p hp)
  l5 := blB_ok (by rw [e]; exact large5)
  l4 := blB_ok (by rw [e]; exact large4)
theorem l10 {Γ : Fns} (S : Sp14 Γ) {ρ : Env} : Wp (evSs Γ r13_10 ρ) (EndQ f13 fun r _ => r = .bl true) := by
  unfold r13_10 r13_11
  simp -failIfUnchanged -implicitDefEqProofs only [↓gK0, ↓gKs, ↓setK0, ↓setKs, ↓setN0, ↓setNs, ↓setM0, ↓setMs, ↓clrK0, ↓clrKs, ↓bK_bl, ↓iK_int, ↓brK_true, ↓brK_false, ↓brK_dec, ↓brK_not, ↓brK_and, ↓w_ok, ↓w_var, ↓w_mv, ↓w_int, ↓w_str, ↓w_bl, ↓w_non, ↓w_neg, ↓w_bin, ↓w_cmp, ↓w_and, ↓w_or, ↓w_not, ↓w_ite, ↓w_tup, ↓w_lst, ↓w_nil, ↓w_con, ↓w_ix, ↓w_eo0, ↓w_eo1, ↓w_sl, ↓w_rev, ↓w_bi, ↓w_bi2, ↓w_bi3, ↓w_lcp, ↓w_cmp2, ↓w_tr1, ↓w_tr2, ↓w_lset, ↓w_sidx, ↓w_dcl, ↓w_dis, ↓w_join, ↓w_get, ↓w_ssn, ↓w_kill, ↓w_ssc, ↓nxt_nx, ↓nxt_rt, ↓nxt_bk, ↓nxt_ct, ↓w_set, ↓tsK0, ↓tsKs, ↓tgKv, ↓tgKt, ↓tupK_t, ↓w_tset, ↓w_aug, ↓gK_v, ↓gK_x, ↓setM_v, ↓setM_x, ↓atK0, ↓atKs, ↓atK0a, ↓atKsa, ↓w_pv, ↓w_px, ↓w_put, ↓lstK_l, ↓w_app, ↓lsK_l, ↓w_ext, ↓popK_appm, ↓popK_app, ↓popK_con, ↓w_pop, ↓w_ex, ↓w_ret, ↓w_retN, ↓w_brk, ↓w_cnt, ↓w_pass, ↓w_if, ↓w_an, ↓w_av, ↓w_ar, ↓takK0, ↓takKd, ↓takKr, ↓givK0, ↓givKd, ↓givKr, ↓w_call, ↓w_se, ↓w_s1, ↓w_s2, ↓w_s3, ↓w_sn, ↓w_for, ↓w_wh, ↓lpq_nx, ↓lpq_ct, ↓lpq_bk, ↓lpq_rt, ↓w_cn, ↓w_cs, ↓w_comp, ↓o_add, ↓o_sub, ↓o_adds, ↓o_addt, ↓o_addl, ↓o_mul, ↓o_muls, ↓o_mull, ↓o_div, ↓o_mod, ↓o_pow, ↓c_eq, ↓c_ne, ↓c_lt, ↓c_le, ↓c_gt, ↓c_ge, ↓c_eqs, ↓c_nes, ↓c_lts, ↓c_gts, ↓c_les, ↓c_ges, ↓c_neb, ↓c_eqb, ↓c_ins, ↓c_isn, ↓c_ntn, ↓t_bl, ↓t_int, ↓t_str, ↓t_non, ↓t_lst, ↓t_tup, ↓ixK_0, ↓ixK_1, ↓ixK_2, ↓ixK_3, ↓ixK_l1, ↓ixK_l2, ↓ixK_l3, ↓ixK_m1, ↓ixK_map, ↓x_str, ↓x_tup, ↓x_lst, ↓x_fls, ↓l_str, ↓l_tup, ↓l_lst, ↓r_str, ↓r_lst, ↓b_lens, ↓b_lenl, ↓b_lent, ↓b_lenf, ↓b_lend, ↓b_abs, ↓b_int, ↓b_intb, ↓b_tupt, ↓b_tupl, ↓b_lstt, ↓b_lstl, ↓b_lstf, ↓b_lstx, ↓s_set, ↓b_sum, ↓b_any, ↓b_all, ↓j_map, ↓i_str, ↓i_lst, ↓i_tup, ↓i_fls, ↓m_min, ↓m_max, ↓m_min3, ↓m_max3, ↓p_appn, ↓p_appl, ↓p_appi, ↓p_apps, ↓p_app0, ↓p_appc, ↓p_appa, ↓p_ext, ↓p_putm, ↓p_put0, ↓p_put1, ↓p_put2, ↓p_put3, ↓stepK_map, ↓posK_map, ↓end_rt, ↓end_nx, cond_true, cond_false, Option.isNone_none, n_add, n_addl, n_ladd, n_mul, n_sub0, n_ss, n_subt, n_sublt, n_lt, n_le, n_eq, n_0lt, n_1le, n_eq0, n_leb, n_geb, n_natAbs, sing_eq, safeB_none, safeB_nil, safeB_some, own_none, own_some, g_addi, g_adds, g_subi, g_muli, wrE, wrEs, wrEo, wrAs, wrSrc, wrP, wrS, wrSs, md, mdS, Tg.slots, Tgs.slots, P.root, small_ofNat, small_neg, pu_non, pu_bl, pu_int, pu_str, pu_tup, pu_fls, puL_nil, puL_con, puL_map, puL_app, puL_enum, isStr_str, isDct_dct, isNon_non, isNon_int, isNon_str, isNon_tup, isNon_lst, setAt0, setAt1, cut_to, cut_from, cut_ft, cut_tol, cut_froml, cut_all, cut_map, ixOk_nat, ixN_nat, ixOk_lit, ixN_lit, ixOk_m1, ixN_m1, List.nil_append, List.append_nil, List.cons_append, hasN, List.length_map, List.length_range, List.length_cons, List.length_nil, Bool.not_true, Bool.not_false, Bool.not_not, Bool.true_and, Bool.and_true, Bool.or_true, Bool.true_or, Bool.false_or, Bool.or_false, Bool.and_self, Bool.not_eq_true', Bool.false_eq_true, decide_true, decide_false, decide_eq_true_eq, decide_eq_false_iff_not, true_and, and_true, implies_true, and_self, ne_eq, not_true_eq_false, not_false_eq_true, false_implies, true_implies, eq_self, forall_const, Nat.reduceBEq, Nat.reduceEqDiff, Nat.reduceLT, Nat.reduceAdd, Nat.reduceSub, Nat.reduceLeDiff, Nat.reducePow, Int.reduceLT, Int.reduceLE, Int.reduceNeg, Int.reduceAdd, Int.reduceSub, Int.reducePow, Int.reduceToNat, Int.toNat_natCast, beq_self_eq_true, Bool.and_eq_true, Bool.or_eq_true]
  refine wpf_mono S.l5 ?_
  rintro r rs ⟨rfl, rfl⟩
  simp -failIfUnchanged -implicitDefEqProofs only [↓gK0, ↓gKs, ↓setK0, ↓setKs, ↓setN0, ↓setNs, ↓setM0, ↓setMs, ↓clrK0, ↓clrKs, ↓bK_bl, ↓iK_int, ↓brK_true, ↓brK_false, ↓brK_dec, ↓brK_not, ↓brK_and, ↓w_ok, ↓w_var, ↓w_mv, ↓w_int, ↓w_str, ↓w_bl, ↓w_non, ↓w_neg, ↓w_bin, ↓w_cmp, ↓w_and, ↓w_or, ↓w_not, ↓w_ite, ↓w_tup, ↓w_lst, ↓w_nil, ↓w_con, ↓w_ix, ↓w_eo0, ↓w_eo1, ↓w_sl, ↓w_rev, ↓w_bi, ↓w_bi2, ↓w_bi3, ↓w_lcp, ↓w_cmp2, ↓w_tr1, ↓w_tr2, ↓w_lset, ↓w_sidx, ↓w_dcl, ↓w_dis, ↓w_join, ↓w_get, ↓w_ssn, ↓w_kill, ↓w_ssc, ↓nxt_nx, ↓nxt_rt, ↓nxt_bk, ↓nxt_ct, ↓w_set, ↓tsK0, ↓tsKs, ↓tgKv, ↓tgKt, ↓tupK_t, ↓w_tset, ↓w_aug, ↓gK_v, ↓gK_x, ↓setM_v, ↓setM_x, ↓atK0, ↓atKs, ↓atK0a, ↓atKsa, ↓w_pv, ↓w_px, ↓w_put, ↓lstK_l, ↓w_app, ↓lsK_l, ↓w_ext, ↓popK_appm, ↓popK_app, ↓popK_con, ↓w_pop, ↓w_ex, ↓w_ret, ↓w_retN, ↓w_brk, ↓w_cnt, ↓w_pass, ↓w_if, ↓w_an, ↓w_av, ↓w_ar, ↓takK0, ↓takKd, ↓takKr, ↓givK0, ↓givKd, ↓givKr, ↓w_call, ↓w_se, ↓w_s1, ↓w_s2, ↓w_s3, ↓w_sn, ↓w_for, ↓w_wh, ↓lpq_nx, ↓lpq_ct, ↓lpq_bk, ↓lpq_rt, ↓w_cn, ↓w_cs, ↓w_comp, ↓o_add, ↓o_sub, ↓o_adds, ↓o_addt, ↓o_addl, ↓o_mul, ↓o_muls, ↓o_mull, ↓o_div, ↓o_mod, ↓o_pow, ↓c_eq, ↓c_ne, ↓c_lt, ↓c_le, ↓c_gt, ↓c_ge, ↓c_eqs, ↓c_nes, ↓c_lts, ↓c_gts, ↓c_les, ↓c_ges, ↓c_neb, ↓c_eqb, ↓c_ins, ↓c_isn, ↓c_ntn, ↓t_bl, ↓t_int, ↓t_str, ↓t_non, ↓t_lst, ↓t_tup, ↓ixK_0, ↓ixK_1, ↓ixK_2, ↓ixK_3, ↓ixK_l1, ↓ixK_l2, ↓ixK_l3, ↓ixK_m1, ↓ixK_map, ↓x_str, ↓x_tup, ↓x_lst, ↓x_fls, ↓l_str, ↓l_tup, ↓l_lst, ↓r_str, ↓r_lst, ↓b_lens, ↓b_lenl, ↓b_lent, ↓b_lenf, ↓b_lend, ↓b_abs, ↓b_int, ↓b_intb, ↓b_tupt, ↓b_tupl, ↓b_lstt, ↓b_lstl, ↓b_lstf, ↓b_lstx, ↓s_set, ↓b_sum, ↓b_any, ↓b_all, ↓j_map, ↓i_str, ↓i_lst, ↓i_tup, ↓i_fls, ↓m_min, ↓m_max, ↓m_min3, ↓m_max3, ↓p_appn, ↓p_appl, ↓p_appi, ↓p_apps, ↓p_app0, ↓p_appc, ↓p_appa, ↓p_ext, ↓p_putm, ↓p_put0, ↓p_put1, ↓p_put2, ↓p_put3, ↓stepK_map, ↓posK_map, ↓end_rt, ↓end_nx, cond_true, cond_false, Option.isNone_none, n_add, n_addl, n_ladd, n_mul, n_sub0, n_ss, n_subt, n_sublt, n_lt, n_le, n_eq, n_0lt, n_1le, n_eq0, n_leb, n_geb, n_natAbs, sing_eq, safeB_none, safeB_nil, safeB_some, own_none, own_some, g_addi, g_adds, g_subi, g_muli, wrE, wrEs, wrEo, wrAs, wrSrc, wrP, wrS, wrSs, md, mdS, Tg.slots, Tgs.slots, P.root, small_ofNat, small_neg, pu_non, pu_bl, pu_int, pu_str, pu_tup, pu_fls, puL_nil, puL_con, puL_map, puL_app, puL_enum, isStr_str, isDct_dct, isNon_non, isNon_int, isNon_str, isNon_tup, isNon_lst, setAt0, setAt1, cut_to, cut_from, cut_ft, cut_tol, cut_froml, cut_all, cut_map, ixOk_nat, ixN_nat, ixOk_lit, ixN_lit, ixOk_m1, ixN_m1, List.nil_append, List.append_nil, List.cons_append, hasN, List.length_map, List.length_range, List.length_cons, List.length_nil, Bool.not_true, Bool.not_false, Bool.not_not, Bool.true_and, Bool.and_true, Bool.or_true, Bool.true_or, Bool.false_or, Bool.or_false, Bool.and_self, Bool.not_eq_true', Bool.false_eq_true, decide_true, decide_false, decide_eq_true_eq, decide_eq_false_iff_not, true_and, and_true, implies_true, and_self, ne_eq, not_true_eq_false, not_false_eq_true, false_implies, true_implies, eq_self, forall_const, Nat.reduceBEq, Nat.reduceEqDiff, Nat.reduceLT, Nat.reduceAdd, Nat.reduceSub, Nat.reduceLeDiff, Nat.reducePow, Int.reduceLT, Int.reduceLE, Int.reduceNeg, Int.reduceAdd, Int.reduceSub, Int.reducePow, Int.reduceToNat, Int.toNat_natCast, beq_self_eq_true, Bool.and_eq_true, Bool.or_eq_true]
  refine wpf_mono S.l4 ?_
  rintro r rs ⟨rfl, rfl⟩
  simp -failIfUnchanged -implicitDefEqProofs only [↓gK0, ↓gKs, ↓setK0, ↓setKs, ↓setN0, ↓setNs, ↓setM0, ↓setMs, ↓clrK0, ↓clrKs, ↓bK_bl, ↓iK_int, ↓brK_true, ↓brK_false, ↓brK_dec, ↓brK_not, ↓brK_and, ↓w_ok, ↓w_var, ↓w_mv, ↓w_int, ↓w_str, ↓w_bl, ↓w_non, ↓w_neg, ↓w_bin, ↓w_cmp, ↓w_and, ↓w_or, ↓w_not, ↓w_ite, ↓w_tup, ↓w_lst, ↓w_nil, ↓w_con, ↓w_ix, ↓w_eo0, ↓w_eo1, ↓w_sl, ↓w_rev, ↓w_bi, ↓w_bi2, ↓w_bi3, ↓w_lcp, ↓w_cmp2, ↓w_tr1, ↓w_tr2, ↓w_lset, ↓w_sidx, ↓w_dcl, ↓w_dis, ↓w_join, ↓w_get, ↓w_ssn, ↓w_kill, ↓w_ssc, ↓nxt_nx, ↓nxt_rt, ↓nxt_bk, ↓nxt_ct, ↓w_set, ↓tsK0, ↓tsKs, ↓tgKv, ↓tgKt, ↓tupK_t, ↓w_tset, ↓w_aug, ↓gK_v, ↓gK_x, ↓setM_v, ↓setM_x, ↓atK0, ↓atKs, ↓atK0a, ↓atKsa, ↓w_pv, ↓w_px, ↓w_put, ↓lstK_l, ↓w_app, ↓lsK_l, ↓w_ext, ↓popK_appm, ↓popK_app, ↓popK_con, ↓w_pop, ↓w_ex, ↓w_ret, ↓w_retN, ↓w_brk, ↓w_cnt, ↓w_pass, ↓w_if, ↓w_an, ↓w_av, ↓w_ar, ↓takK0, ↓takKd, ↓takKr, ↓givK0, ↓givKd, ↓givKr, ↓w_call, ↓w_se, ↓w_s1, ↓w_s2, ↓w_s3, ↓w_sn, ↓w_for, ↓w_wh, ↓lpq_nx, ↓lpq_ct, ↓lpq_bk, ↓lpq_rt, ↓w_cn, ↓w_cs, ↓w_comp, ↓o_add, ↓o_sub, ↓o_adds, ↓o_addt, ↓o_addl, ↓o_mul, ↓o_muls, ↓o_mull, ↓o_div, ↓o_mod, ↓o_pow, ↓c_eq, ↓c_ne, ↓c_lt, ↓c_le, ↓c_gt, ↓c_ge, ↓c_eqs, ↓c_nes, ↓c_lts, ↓c_gts, ↓c_les, ↓c_ges, ↓c_neb, ↓c_eqb, ↓c_ins, ↓c_isn, ↓c_ntn, ↓t_bl, ↓t_int, ↓t_str, ↓t_non, ↓t_lst, ↓t_tup, ↓ixK_0, ↓ixK_1, ↓ixK_2, ↓ixK_3, ↓ixK_l1, ↓ixK_l2, ↓ixK_l3, ↓ixK_m1, ↓ixK_map, ↓x_str, ↓x_tup, ↓x_lst, ↓x_fls, ↓l_str, ↓l_tup, ↓l_lst, ↓r_str, ↓r_lst, ↓b_lens, ↓b_lenl, ↓b_lent, ↓b_lenf, ↓b_lend, ↓b_abs, ↓b_int, ↓b_intb, ↓b_tupt, ↓b_tupl, ↓b_lstt, ↓b_lstl, ↓b_lstf, ↓b_lstx, ↓s_set, ↓b_sum, ↓b_any, ↓b_all, ↓j_map, ↓i_str, ↓i_lst, ↓i_tup, ↓i_fls, ↓m_min, ↓m_max, ↓m_min3, ↓m_max3, ↓p_appn, ↓p_appl, ↓p_appi, ↓p_apps, ↓p_app0, ↓p_appc, ↓p_appa, ↓p_ext, ↓p_putm, ↓p_put0, ↓p_put1, ↓p_put2, ↓p_put3, ↓stepK_map, ↓posK_map, ↓end_rt, ↓end_nx, cond_true, cond_false, Option.isNone_none, n_add, n_addl, n_ladd, n_mul, n_sub0, n_ss, n_subt, n_sublt, n_lt, n_le, n_eq, n_0lt, n_1le, n_eq0, n_leb, n_geb, n_natAbs, sing_eq, safeB_none, safeB_nil, safeB_some, own_none, own_some, g_addi, g_adds, g_subi, g_muli, wrE, wrEs, wrEo, wrAs, wrSrc, wrP, wrS, wrSs, md, mdS, Tg.slots, Tgs.slots, P.root, small_ofNat, small_neg, pu_non, pu_bl, pu_int, pu_str, pu_tup, pu_fls, puL_nil, puL_con, puL_map, puL_app, puL_enum, isStr_str, isDct_dct, isNon_non, isNon_int, isNon_str, isNon_tup, isNon_lst, setAt0, setAt1, cut_to, cut_from, cut_ft, cut_tol, cut_froml, cut_all, cut_map, ixOk_nat, ixN_nat, ixOk_lit, ixN_lit, ixOk_m1, ixN_m1, List.nil_append, List.append_nil, List.cons_append, hasN, List.length_map, List.length_range, List.length_cons, List.length_nil, Bool.not_true, Bool.not_false, Bool.not_not, Bool.true_and, Bool.and_true, Bool.or_true, Bool.true_or, Bool.false_or, Bool.or_false, Bool.and_self, Bool.not_eq_true', Bool.false_eq_true, decide_true, decide_false, decide_eq_true_eq, decide_eq_false_iff_not, true_and, and_true, implies_true, and_self, ne_eq, not_true_eq_false, not_false_eq_true, false_implies, true_implies, eq_self, forall_const, Nat.reduceBEq, Nat.reduceEqDiff, Nat.reduceLT, Nat.reduceAdd, Nat.reduceSub, Nat.reduceLeDiff, Nat.reducePow, Int.reduceLT, Int.reduceLE, Int.reduceNeg, Int.reduceAdd, Int.reduceSub, Int.reducePow, Int.reduceToNat, Int.toNat_natCast, beq_self_eq_true, Bool.and_eq_true, Bool.or_eq_true]
theorem eqbl {b : Bool} {ρ : Env} {QB : Bool → Env → Prop} : Wp (lift (cmpF .ne (.bl b) (.bl b)) ρ) QB = QB false ρ := by cases b <;> rfl
theorem l9 {Γ : Fns} (S : Sp14 Γ) {m : Nat} {al told : Wrd} (ha : al.length ≤ 4) (hm : m ≤ 3) (ht : told.length ≤ 27) {sx due best : Option D} {d : D} (hd : DOk d) {w : Wrd} : Wp (evSs Γ r13_9 [sx, some d, some (.str w), due, none, none, some (.str al), some (.int ((m + 1 : Nat) : Int)), some (.str told), best, none, none, none, none, none, none]) (EndQ f13 fun r _ => r = .bl true) := by
  have hcap : cap = 1000000 := rfl
  have hct : told.length ≤ cap := by omega
  have hca : al.length ≤ cap := by omega
  unfold r13_9
  simp -failIfUnchanged -implicitDefEqProofs only [↓gK0, ↓gKs, ↓setK0, ↓setKs, ↓setN0, ↓setNs, ↓setM0, ↓setMs, ↓clrK0, ↓clrKs, ↓bK_bl, ↓iK_int, ↓brK_true, ↓brK_false, ↓brK_dec, ↓brK_not, ↓brK_and, ↓w_ok, ↓w_var, ↓w_mv, ↓w_int, ↓w_str, ↓w_bl, ↓w_non, ↓w_neg, ↓w_bin, ↓w_cmp, ↓w_and, ↓w_or, ↓w_not, ↓w_ite, ↓w_tup, ↓w_lst, ↓w_nil, ↓w_con, ↓w_ix, ↓w_eo0, ↓w_eo1, ↓w_sl, ↓w_rev, ↓w_bi, ↓w_bi2, ↓w_bi3, ↓w_lcp, ↓w_cmp2, ↓w_tr1, ↓w_tr2, ↓w_lset, ↓w_sidx, ↓w_dcl, ↓w_dis, ↓w_join, ↓w_get, ↓w_ssn, ↓w_kill, ↓w_ssc, ↓nxt_nx, ↓nxt_rt, ↓nxt_bk, ↓nxt_ct, ↓w_set, ↓tsK0, ↓tsKs, ↓tgKv, ↓tgKt, ↓tupK_t, ↓w_tset, ↓w_aug, ↓gK_v, ↓gK_x, ↓setM_v, ↓setM_x, ↓atK0, ↓atKs, ↓atK0a, ↓atKsa, ↓w_pv, ↓w_px, ↓w_put, ↓lstK_l, ↓w_app, ↓lsK_l, ↓w_ext, ↓popK_appm, ↓popK_app, ↓popK_con, ↓w_pop, ↓w_ex, ↓w_ret, ↓w_retN, ↓w_brk, ↓w_cnt, ↓w_pass, ↓w_if, ↓w_an, ↓w_av, ↓w_ar, ↓takK0, ↓takKd, ↓takKr, ↓givK0, ↓givKd, ↓givKr, ↓w_call, ↓w_se, ↓w_s1, ↓w_s2, ↓w_s3, ↓w_sn, ↓w_for, ↓w_wh, ↓lpq_nx, ↓lpq_ct, ↓lpq_bk, ↓lpq_rt, ↓w_cn, ↓w_cs, ↓w_comp, ↓o_add, ↓o_sub, ↓o_adds, ↓o_addt, ↓o_addl, ↓o_mul, ↓o_muls, ↓o_mull, ↓o_div, ↓o_mod, ↓o_pow, ↓c_eq, ↓c_ne, ↓c_lt, ↓c_le, ↓c_gt, ↓c_ge, ↓c_eqs, ↓c_nes, ↓c_lts, ↓c_gts, ↓c_les, ↓c_ges, ↓c_neb, ↓c_eqb, ↓c_ins, ↓c_isn, ↓c_ntn, ↓t_bl, ↓t_int, ↓t_str, ↓t_non, ↓t_lst, ↓t_tup, ↓ixK_0, ↓ixK_1, ↓ixK_2, ↓ixK_3, ↓ixK_l1, ↓ixK_l2, ↓ixK_l3, ↓ixK_m1, ↓ixK_map, ↓x_str, ↓x_tup, ↓x_lst, ↓x_fls, ↓l_str, ↓l_tup, ↓l_lst, ↓r_str, ↓r_lst, ↓b_lens, ↓b_lenl, ↓b_lent, ↓b_lenf, ↓b_lend, ↓b_abs, ↓b_int, ↓b_intb, ↓b_tupt, ↓b_tupl, ↓b_lstt, ↓b_lstl, ↓b_lstf, ↓b_lstx, ↓s_set, ↓b_sum, ↓b_any, ↓b_all, ↓j_map, ↓i_str, ↓i_lst, ↓i_tup, ↓i_fls, ↓m_min, ↓m_max, ↓m_min3, ↓m_max3, ↓p_appn, ↓p_appl, ↓p_appi, ↓p_apps, ↓p_app0, ↓p_appc, ↓p_appa, ↓p_ext, ↓p_putm, ↓p_put0, ↓p_put1, ↓p_put2, ↓p_put3, ↓stepK_map, ↓posK_map, ↓end_rt, ↓end_nx, cond_true, cond_false, Option.isNone_none, n_add, n_addl, n_ladd, n_mul, n_sub0, n_ss, n_subt, n_sublt, n_lt, n_le, n_eq, n_0lt, n_1le, n_eq0, n_leb, n_geb, n_natAbs, sing_eq, safeB_none, safeB_nil, safeB_some, own_none, own_some, g_addi, g_adds, g_subi, g_muli, wrE, wrEs, wrEo, wrAs, wrSrc, wrP, wrS, wrSs, md, mdS, Tg.slots, Tgs.slots, P.root, small_ofNat, small_neg, pu_non, pu_bl, pu_int, pu_str, pu_tup, pu_fls, puL_nil, puL_con, puL_map, puL_app, puL_enum, isStr_str, isDct_dct, isNon_non, isNon_int, isNon_str, isNon_tup, isNon_lst, setAt0, setAt1, cut_to, cut_from, cut_ft, cut_tol, cut_froml, cut_all, cut_map, ixOk_nat, ixN_nat, ixOk_lit, ixN_lit, ixOk_m1, ixN_m1, List.nil_append, List.append_nil, List.cons_append, hasN, List.length_map, List.length_range, List.length_cons, List.length_nil, Bool.not_true, Bool.not_false, Bool.not_not, Bool.true_and, Bool.and_true, Bool.or_true, Bool.true_or, Bool.false_or, Bool.or_false, Bool.and_self, Bool.not_eq_true', Bool.false_eq_true, decide_true, decide_false, decide_eq_true_eq, decide_eq_false_iff_not, true_and, and_true, implies_true, and_self, ne_eq, not_true_eq_false, not_false_eq_true, false_implies, true_implies, eq_self, forall_const, Nat.reduceBEq, Nat.reduceEqDiff, Nat.reduceLT, Nat.reduceAdd, Nat.reduceSub, Nat.reduceLeDiff, Nat.reducePow, Int.reduceLT, Int.reduceLE, Int.reduceNeg, Int.reduceAdd, Int.reduceSub, Int.reducePow, Int.reduceToNat, Int.toNat_natCast, beq_self_eq_true, Bool.and_eq_true, Bool.or_eq_true]
  refine for_range (fun k ρ => ∃ d, DOk d ∧ ρ = [sx, some d, some (.str w), due, none, none, some (.str al), some (.int ((m + 1 : Nat) : Int)), some (.str told), best, none, none, none, none, none, none]) ⟨d, hd, rfl⟩ (fun ρ _ => l10 S) ?_
  rintro k hk ρ ⟨d, hd, rfl⟩
  simp -failIfUnchanged -implicitDefEqProofs only [↓gK0, ↓gKs, ↓setK0, ↓setKs, ↓setN0, ↓setNs, ↓setM0, ↓setMs, ↓clrK0, ↓clrKs, ↓bK_bl, ↓iK_int, ↓brK_true, ↓brK_false, ↓brK_dec, ↓brK_not, ↓brK_and, ↓w_ok, ↓w_var, ↓w_mv, ↓w_int, ↓w_str, ↓w_bl, ↓w_non, ↓w_neg, ↓w_bin, ↓w_cmp, ↓w_and, ↓w_or, ↓w_not, ↓w_ite, ↓w_tup, ↓w_lst, ↓w_nil, ↓w_con, ↓w_ix, ↓w_eo0, ↓w_eo1, ↓w_sl, ↓w_rev, ↓w_bi, ↓w_bi2, ↓w_bi3, ↓w_lcp, ↓w_cmp2, ↓w_tr1, ↓w_tr2, ↓w_lset, ↓w_sidx, ↓w_dcl, ↓w_dis, ↓w_join, ↓w_get, ↓w_ssn, ↓w_kill, ↓w_ssc, ↓nxt_nx, ↓nxt_rt, ↓nxt_bk, ↓nxt_ct, ↓w_set, ↓tsK0, ↓tsKs, ↓tgKv, ↓tgKt, ↓tupK_t, ↓w_tset, ↓w_aug, ↓gK_v, ↓gK_x, ↓setM_v, ↓setM_x, ↓atK0, ↓atKs, ↓atK0a, ↓atKsa, ↓w_pv, ↓w_px, ↓w_put, ↓lstK_l, ↓w_app, ↓lsK_l, ↓w_ext, ↓popK_appm, ↓popK_app, ↓popK_con, ↓w_pop, ↓w_ex, ↓w_ret, ↓w_retN, ↓w_brk, ↓w_cnt, ↓w_pass, ↓w_if, ↓w_an, ↓w_av, ↓w_ar, ↓takK0, ↓takKd, ↓takKr, ↓givK0, ↓givKd, ↓givKr, ↓w_call, ↓w_se, ↓w_s1, ↓w_s2, ↓w_s3, ↓w_sn, ↓w_for, ↓w_wh, ↓lpq_nx, ↓lpq_ct, ↓lpq_bk, ↓lpq_rt, ↓w_cn, ↓w_cs, ↓w_comp, ↓o_add, ↓o_sub, ↓o_adds, ↓o_addt, ↓o_addl, ↓o_mul, ↓o_muls, ↓o_mull, ↓o_div, ↓o_mod, ↓o_pow, ↓c_eq, ↓c_ne, ↓c_lt, ↓c_le, ↓c_gt, ↓c_ge, ↓c_eqs, ↓c_nes, ↓c_lts, ↓c_gts, ↓c_les, ↓c_ges, ↓c_neb, ↓c_eqb, ↓c_ins, ↓c_isn, ↓c_ntn, ↓t_bl, ↓t_int, ↓t_str, ↓t_non, ↓t_lst, ↓t_tup, ↓ixK_0, ↓ixK_1, ↓ixK_2, ↓ixK_3, ↓ixK_l1, ↓ixK_l2, ↓ixK_l3, ↓ixK_m1, ↓ixK_map, ↓x_str, ↓x_tup, ↓x_lst, ↓x_fls, ↓l_str, ↓l_tup, ↓l_lst, ↓r_str, ↓r_lst, ↓b_lens, ↓b_lenl, ↓b_lent, ↓b_lenf, ↓b_lend, ↓b_abs, ↓b_int, ↓b_intb, ↓b_tupt, ↓b_tupl, ↓b_lstt, ↓b_lstl, ↓b_lstf, ↓b_lstx, ↓s_set, ↓b_sum, ↓b_any, ↓b_all, ↓j_map, ↓i_str, ↓i_lst, ↓i_tup, ↓i_fls, ↓m_min, ↓m_max, ↓m_min3, ↓m_max3, ↓p_appn, ↓p_appl, ↓p_appi, ↓p_apps, ↓p_app0, ↓p_appc, ↓p_appa, ↓p_ext, ↓p_putm, ↓p_put0, ↓p_put1, ↓p_put2, ↓p_put3, ↓stepK_map, ↓posK_map, ↓end_rt, ↓end_nx, cond_true, cond_false, Option.isNone_none, n_add, n_addl, n_ladd, n_mul, n_sub0, n_ss, n_subt, n_sublt, n_lt, n_le, n_eq, n_0lt, n_1le, n_eq0, n_leb, n_geb, n_natAbs, sing_eq, safeB_none, safeB_nil, safeB_some, own_none, own_some, g_addi, g_adds, g_subi, g_muli, wrE, wrEs, wrEo, wrAs, wrSrc, wrP, wrS, wrSs, md, mdS, Tg.slots, Tgs.slots, P.root, small_ofNat, small_neg, pu_non, pu_bl, pu_int, pu_str, pu_tup, pu_fls, puL_nil, puL_con, puL_map, puL_app, puL_enum, isStr_str, isDct_dct, isNon_non, isNon_int, isNon_str, isNon_tup, isNon_lst, setAt0, setAt1, cut_to, cut_from, cut_ft, cut_tol, cut_froml, cut_all, cut_map, ixOk_nat, ixN_nat, ixOk_lit, ixN_lit, ixOk_m1, ixN_m1, List.nil_append, List.append_nil, List.cons_append, hasN, List.length_map, List.length_range, List.length_cons, List.length_nil, Bool.not_true, Bool.not_false, Bool.not_not, Bool.true_and, Bool.and_true, Bool.or_true, Bool.true_or, Bool.false_or, Bool.or_false, Bool.and_self, Bool.not_eq_true', Bool.false_eq_true, decide_true, decide_false, decide_eq_true_eq, decide_eq_false_iff_not, true_and, and_true, implies_true, and_self, ne_eq, not_true_eq_false, not_false_eq_true, false_implies, true_implies, eq_self, forall_const, Nat.reduceBEq, Nat.reduceEqDiff, Nat.reduceLT, Nat.reduceAdd, Nat.reduceSub, Nat.reduceLeDiff, Nat.reducePow, Int.reduceLT, Int.reduceLE, Int.reduceNeg, Int.reduceAdd, Int.reduceSub, Int.reducePow, Int.reduceToNat, Int.toNat_natCast, beq_self_eq_true, Bool.and_eq_true, Bool.or_eq_true]
  refine ⟨hct, ?_⟩
  refine wpf_mono (S.tk _ _ (by omega) (by omega) hd) ?_
  rintro r rs ⟨i, d1, rfl, hi, hd1, rfl⟩
  simp -failIfUnchanged -implicitDefEqProofs only [↓gK0, ↓gKs, ↓setK0, ↓setKs, ↓setN0, ↓setNs, ↓setM0, ↓setMs, ↓clrK0, ↓clrKs, ↓bK_bl, ↓iK_int, ↓brK_true, ↓brK_false, ↓brK_dec, ↓brK_not, ↓brK_and, ↓w_ok, ↓w_var, ↓w_mv, ↓w_int, ↓w_str, ↓w_bl, ↓w_non, ↓w_neg, ↓w_bin, ↓w_cmp, ↓w_and, ↓w_or, ↓w_not, ↓w_ite, ↓w_tup, ↓w_lst, ↓w_nil, ↓w_con, ↓w_ix, ↓w_eo0, ↓w_eo1, ↓w_sl, ↓w_rev, ↓w_bi, ↓w_bi2, ↓w_bi3, ↓w_lcp, ↓w_cmp2, ↓w_tr1, ↓w_tr2, ↓w_lset, ↓w_sidx, ↓w_dcl, ↓w_dis, ↓w_join, ↓w_get, ↓w_ssn, ↓w_kill, ↓w_ssc, ↓nxt_nx, ↓nxt_rt, ↓nxt_bk, ↓nxt_ct, ↓w_set, ↓tsK0, ↓tsKs, ↓tgKv, ↓tgKt, ↓tupK_t, ↓w_tset, ↓w_aug, ↓gK_v, ↓gK_x, ↓setM_v, ↓setM_x, ↓atK0, ↓atKs, ↓atK0a, ↓atKsa, ↓w_pv, ↓w_px, ↓w_put, ↓lstK_l, ↓w_app, ↓lsK_l, ↓w_ext, ↓popK_appm, ↓popK_app, ↓popK_con, ↓w_pop, ↓w_ex, ↓w_ret, ↓w_retN, ↓w_brk, ↓w_cnt, ↓w_pass, ↓w_if, ↓w_an, ↓w_av, ↓w_ar, ↓takK0, ↓takKd, ↓takKr, ↓givK0, ↓givKd, ↓givKr, ↓w_call, ↓w_se, ↓w_s1, ↓w_s2, ↓w_s3, ↓w_sn, ↓w_for, ↓w_wh, ↓lpq_nx, ↓lpq_ct, ↓lpq_bk, ↓lpq_rt, ↓w_cn, ↓w_cs, ↓w_comp, ↓o_add, ↓o_sub, ↓o_adds, ↓o_addt, ↓o_addl, ↓o_mul, ↓o_muls, ↓o_mull, ↓o_div, ↓o_mod, ↓o_pow, ↓c_eq, ↓c_ne, ↓c_lt, ↓c_le, ↓c_gt, ↓c_ge, ↓c_eqs, ↓c_nes, ↓c_lts, ↓c_gts, ↓c_les, ↓c_ges, ↓c_neb, ↓c_eqb, ↓c_ins, ↓c_isn, ↓c_ntn, ↓t_bl, ↓t_int, ↓t_str, ↓t_non, ↓t_lst, ↓t_tup, ↓ixK_0, ↓ixK_1, ↓ixK_2, ↓ixK_3, ↓ixK_l1, ↓ixK_l2, ↓ixK_l3, ↓ixK_m1, ↓ixK_map, ↓x_str, ↓x_tup, ↓x_lst, ↓x_fls, ↓l_str, ↓l_tup, ↓l_lst, ↓r_str, ↓r_lst, ↓b_lens, ↓b_lenl, ↓b_lent, ↓b_lenf, ↓b_lend, ↓b_abs, ↓b_int, ↓b_intb, ↓b_tupt, ↓b_tupl, ↓b_lstt, ↓b_lstl, ↓b_lstf, ↓b_lstx, ↓s_set, ↓b_sum, ↓b_any, ↓b_all, ↓j_map, ↓i_str, ↓i_lst, ↓i_tup, ↓i_fls, ↓m_min, ↓m_max, ↓m_min3, ↓m_max3, ↓p_appn, ↓p_appl, ↓p_appi, ↓p_apps, ↓p_app0, ↓p_appc, ↓p_appa, ↓p_ext, ↓p_putm, ↓p_put0, ↓p_put1, ↓p_put2, ↓p_put3, ↓stepK_map, ↓posK_map, ↓end_rt, ↓end_nx, cond_true, cond_false, Option.isNone_none, n_add, n_addl, n_ladd, n_mul, n_sub0, n_ss, n_subt, n_sublt, n_lt, n_le, n_eq, n_0lt, n_1le, n_eq0, n_leb, n_geb, n_natAbs, sing_eq, safeB_none, safeB_nil, safeB_some, own_none, own_some, g_addi, g_adds, g_subi, g_muli, wrE, wrEs, wrEo, wrAs, wrSrc, wrP, wrS, wrSs, md, mdS, Tg.slots, Tgs.slots, P.root, small_ofNat, small_neg, pu_non, pu_bl, pu_int, pu_str, pu_tup, pu_fls, puL_nil, puL_con, puL_map, puL_app, puL_enum, isStr_str, isDct_dct, isNon_non, isNon_int, isNon_str, isNon_tup, isNon_lst, setAt0, setAt1, cut_to, cut_from, cut_ft, cut_tol, cut_froml, cut_all, cut_map, ixOk_nat, ixN_nat, ixOk_lit, ixN_lit, ixOk_m1, ixN_m1, List.nil_append, List.append_nil, List.cons_append, hasN, List.length_map, List.length_range, List.length_cons, List.length_nil, Bool.not_true, Bool.not_false, Bool.not_not, Bool.true_and, Bool.and_true, Bool.or_true, Bool.true_or, Bool.false_or, Bool.or_false, Bool.and_self, Bool.not_eq_true', Bool.false_eq_true, decide_true, decide_false, decide_eq_true_eq, decide_eq_false_iff_not, true_and, and_true, implies_true, and_self, ne_eq, not_true_eq_false, not_false_eq_true, false_implies, true_implies, eq_self, forall_const, Nat.reduceBEq, Nat.reduceEqDiff, Nat.reduceLT, Nat.reduceAdd, Nat.reduceSub, Nat.reduceLeDiff, Nat.reducePow, Int.reduceLT, Int.reduceLE, Int.reduceNeg, Int.reduceAdd, Int.reduceSub, Int.reducePow, Int.reduceToNat, Int.toNat_natCast, beq_self_eq_true, Bool.and_eq_true, Bool.or_eq_true]
  refine ⟨hca, by omega, ?_⟩
  refine wpf_mono (S.pick _ _ (by simp) (by simp; omega) (fun x hx => ?_) hd1) ?_
  · rcases List.mem_append.mp hx with hx | hx
    · obtain ⟨c, _, rfl⟩ := List.mem_map.mp hx
      rfl
    · rw [List.mem_singleton.mp hx]; rfl
  rintro r rs ⟨d2, hr, hd2, rfl⟩
  have hr2 : ∃ c, r = .str [c] := by
    rcases List.mem_append.mp hr with hx | hx
    · obtain ⟨c, _, rfl⟩ := List.mem_map.mp hx
      exact ⟨c, rfl⟩
    · exact ⟨122, List.mem_singleton.mp hx⟩
  obtain ⟨c, rfl⟩ := hr2
  simp -failIfUnchanged -implicitDefEqProofs only [↓gK0, ↓gKs, ↓setK0, ↓setKs, ↓setN0, ↓setNs, ↓setM0, ↓setMs, ↓clrK0, ↓clrKs, ↓bK_bl, ↓iK_int, ↓brK_true, ↓brK_false, ↓brK_dec, ↓brK_not, ↓brK_and, ↓w_ok, ↓w_var, ↓w_mv, ↓w_int, ↓w_str, ↓w_bl, ↓w_non, ↓w_neg, ↓w_bin, ↓w_cmp, ↓w_and, ↓w_or, ↓w_not, ↓w_ite, ↓w_tup, ↓w_lst, ↓w_nil, ↓w_con, ↓w_ix, ↓w_eo0, ↓w_eo1, ↓w_sl, ↓w_rev, ↓w_bi, ↓w_bi2, ↓w_bi3, ↓w_lcp, ↓w_cmp2, ↓w_tr1, ↓w_tr2, ↓w_lset, ↓w_sidx, ↓w_dcl, ↓w_dis, ↓w_join, ↓w_get, ↓w_ssn, ↓w_kill, ↓w_ssc, ↓nxt_nx, ↓nxt_rt, ↓nxt_bk, ↓nxt_ct, ↓w_set, ↓tsK0, ↓tsKs, ↓tgKv, ↓tgKt, ↓tupK_t, ↓w_tset, ↓w_aug, ↓gK_v, ↓gK_x, ↓setM_v, ↓setM_x, ↓atK0, ↓atKs, ↓atK0a, ↓atKsa, ↓w_pv, ↓w_px, ↓w_put, ↓lstK_l, ↓w_app, ↓lsK_l, ↓w_ext, ↓popK_appm, ↓popK_app, ↓popK_con, ↓w_pop, ↓w_ex, ↓w_ret, ↓w_retN, ↓w_brk, ↓w_cnt, ↓w_pass, ↓w_if, ↓w_an, ↓w_av, ↓w_ar, ↓takK0, ↓takKd, ↓takKr, ↓givK0, ↓givKd, ↓givKr, ↓w_call, ↓w_se, ↓w_s1, ↓w_s2, ↓w_s3, ↓w_sn, ↓w_for, ↓w_wh, ↓lpq_nx, ↓lpq_ct, ↓lpq_bk, ↓lpq_rt, ↓w_cn, ↓w_cs, ↓w_comp, ↓o_add, ↓o_sub, ↓o_adds, ↓o_addt, ↓o_addl, ↓o_mul, ↓o_muls, ↓o_mull, ↓o_div, ↓o_mod, ↓o_pow, ↓c_eq, ↓c_ne, ↓c_lt, ↓c_le, ↓c_gt, ↓c_ge, ↓c_eqs, ↓c_nes, ↓c_lts, ↓c_gts, ↓c_les, ↓c_ges, ↓c_neb, ↓c_eqb, ↓c_ins, ↓c_isn, ↓c_ntn, ↓t_bl, ↓t_int, ↓t_str, ↓t_non, ↓t_lst, ↓t_tup, ↓ixK_0, ↓ixK_1, ↓ixK_2, ↓ixK_3, ↓ixK_l1, ↓ixK_l2, ↓ixK_l3, ↓ixK_m1, ↓ixK_map, ↓x_str, ↓x_tup, ↓x_lst, ↓x_fls, ↓l_str, ↓l_tup, ↓l_lst, ↓r_str, ↓r_lst, ↓b_lens, ↓b_lenl, ↓b_lent, ↓b_lenf, ↓b_lend, ↓b_abs, ↓b_int, ↓b_intb, ↓b_tupt, ↓b_tupl, ↓b_lstt, ↓b_lstl, ↓b_lstf, ↓b_lstx, ↓s_set, ↓b_sum, ↓b_any, ↓b_all, ↓j_map, ↓i_str, ↓i_lst, ↓i_tup, ↓i_fls, ↓m_min, ↓m_max, ↓m_min3, ↓m_max3, ↓p_appn, ↓p_appl, ↓p_appi, ↓p_apps, ↓p_app0, ↓p_appc, ↓p_appa, ↓p_ext, ↓p_putm, ↓p_put0, ↓p_put1, ↓p_put2, ↓p_put3, ↓stepK_map, ↓posK_map, ↓end_rt, ↓end_nx, cond_true, cond_false, Option.isNone_none, n_add, n_addl, n_ladd, n_mul, n_sub0, n_ss, n_subt, n_sublt, n_lt, n_le, n_eq, n_0lt, n_1le, n_eq0, n_leb, n_geb, n_natAbs, sing_eq, safeB_none, safeB_nil, safeB_some, own_none, own_some, g_addi, g_adds, g_subi, g_muli, wrE, wrEs, wrEo, wrAs, wrSrc, wrP, wrS, wrSs, md, mdS, Tg.slots, Tgs.slots, P.root, small_ofNat, small_neg, pu_non, pu_bl, pu_int, pu_str, pu_tup, pu_fls, puL_nil, puL_con, puL_map, puL_app, puL_enum, isStr_str, isDct_dct, isNon_non, isNon_int, isNon_str, isNon_tup, isNon_lst, setAt0, setAt1, cut_to, cut_from, cut_ft, cut_tol, cut_froml, cut_all, cut_map, ixOk_nat, ixN_nat, ixOk_lit, ixN_lit, ixOk_m1, ixN_m1, List.nil_append, List.append_nil, List.cons_append, hasN, List.length_map, List.length_range, List.length_cons, List.length_nil, Bool.not_true, Bool.not_false, Bool.not_not, Bool.true_and, Bool.and_true, Bool.or_true, Bool.true_or, Bool.false_or, Bool.or_false, Bool.and_self, Bool.not_eq_true', Bool.false_eq_true, decide_true, decide_false, decide_eq_true_eq, decide_eq_false_iff_not, true_and, and_true, implies_true, and_self, ne_eq, not_true_eq_false, not_false_eq_true, false_implies, true_implies, eq_self, forall_const, Nat.reduceBEq, Nat.reduceEqDiff, Nat.reduceLT, Nat.reduceAdd, Nat.reduceSub, Nat.reduceLeDiff, Nat.reducePow, Int.reduceLT, Int.reduceLE, Int.reduceNeg, Int.reduceAdd, Int.reduceSub, Int.reducePow, Int.reduceToNat, Int.toNat_natCast, beq_self_eq_true, Bool.and_eq_true, Bool.or_eq_true]
  have l1 : (told.take i).length ≤ 27 := by rw [List.length_take]; omega
  have l2 : (told.drop i).length ≤ 27 := by rw [List.length_drop]; omega
  have l3 : (told.drop (i + 1)).length ≤ 27 := by rw [List.length_drop]; omega
  have l4 : (told.take i ++ [c]).length ≤ 28 := by rw [List.length_append]; simp only [List.length_cons, List.length_nil]; omega
  refine ⟨hct, hct, by omega, hct, by omega, hct, by omega, hct, hct, by omega, ?_⟩
  refine wpf_mono (S.pick _ _ (by simp) (by simp [cap]) (fun x hx => ?_) hd2) ?_
  · simp only [List.mem_cons, List.not_mem_nil, or_false] at hx
    rcases hx with rfl | rfl | rfl | rfl <;> rfl
  rintro r rs ⟨d3, hr3, hd3, rfl⟩
  have hb : ∃ b : Wrd, r = .str b ∧ b.length ≤ 100 := by
    simp only [List.mem_cons, List.not_mem_nil, or_false] at hr3
    rcases hr3 with rfl | rfl | rfl | rfl
    · exact ⟨_, rfl, by rw [List.length_append]; omega⟩
    · exact ⟨_, rfl, by rw [List.length_append]; omega⟩
    · exact ⟨_, rfl, by rw [List.length_append]; omega⟩
    · exact ⟨_, rfl, by omega⟩
  obtain ⟨b, rfl, hb⟩ := hb
  clear hr hr3
  simp -failIfUnchanged -implicitDefEqProofs only [↓gK0, ↓gKs, ↓setK0, ↓setKs, ↓setN0, ↓setNs, ↓setM0, ↓setMs, ↓clrK0, ↓clrKs, ↓bK_bl, ↓iK_int, ↓brK_true, ↓brK_false, ↓brK_dec, ↓brK_not, ↓brK_and, ↓w_ok, ↓w_var, ↓w_mv, ↓w_int, ↓w_str, ↓w_bl, ↓w_non, ↓w_neg, ↓w_bin, ↓w_cmp, ↓w_and, ↓w_or, ↓w_not, ↓w_ite, ↓w_tup, ↓w_lst, ↓w_nil, ↓w_con, ↓w_ix, ↓w_eo0, ↓w_eo1, ↓w_sl, ↓w_rev, ↓w_bi, ↓w_bi2, ↓w_bi3, ↓w_lcp, ↓w_cmp2, ↓w_tr1, ↓w_tr2, ↓w_lset, ↓w_sidx, ↓w_dcl, ↓w_dis, ↓w_join, ↓w_get, ↓w_ssn, ↓w_kill, ↓w_ssc, ↓nxt_nx, ↓nxt_rt, ↓nxt_bk, ↓nxt_ct, ↓w_set, ↓tsK0, ↓tsKs, ↓tgKv, ↓tgKt, ↓tupK_t, ↓w_tset, ↓w_aug, ↓gK_v, ↓gK_x, ↓setM_v, ↓setM_x, ↓atK0, ↓atKs, ↓atK0a, ↓atKsa, ↓w_pv, ↓w_px, ↓w_put, ↓lstK_l, ↓w_app, ↓lsK_l, ↓w_ext, ↓popK_appm, ↓popK_app, ↓popK_con, ↓w_pop, ↓w_ex, ↓w_ret, ↓w_retN, ↓w_brk, ↓w_cnt, ↓w_pass, ↓w_if, ↓w_an, ↓w_av, ↓w_ar, ↓takK0, ↓takKd, ↓takKr, ↓givK0, ↓givKd, ↓givKr, ↓w_call, ↓w_se, ↓w_s1, ↓w_s2, ↓w_s3, ↓w_sn, ↓w_for, ↓w_wh, ↓lpq_nx, ↓lpq_ct, ↓lpq_bk, ↓lpq_rt, ↓w_cn, ↓w_cs, ↓w_comp, ↓o_add, ↓o_sub, ↓o_adds, ↓o_addt, ↓o_addl, ↓o_mul, ↓o_muls, ↓o_mull, ↓o_div, ↓o_mod, ↓o_pow, ↓c_eq, ↓c_ne, ↓c_lt, ↓c_le, ↓c_gt, ↓c_ge, ↓c_eqs, ↓c_nes, ↓c_lts, ↓c_gts, ↓c_les, ↓c_ges, ↓c_neb, ↓c_eqb, ↓c_ins, ↓c_isn, ↓c_ntn, ↓t_bl, ↓t_int, ↓t_str, ↓t_non, ↓t_lst, ↓t_tup, ↓ixK_0, ↓ixK_1, ↓ixK_2, ↓ixK_3, ↓ixK_l1, ↓ixK_l2, ↓ixK_l3, ↓ixK_m1, ↓ixK_map, ↓x_str, ↓x_tup, ↓x_lst, ↓x_fls, ↓l_str, ↓l_tup, ↓l_lst, ↓r_str, ↓r_lst, ↓b_lens, ↓b_lenl, ↓b_lent, ↓b_lenf, ↓b_lend, ↓b_abs, ↓b_int, ↓b_intb, ↓b_tupt, ↓b_tupl, ↓b_lstt, ↓b_lstl, ↓b_lstf, ↓b_lstx, ↓s_set, ↓b_sum, ↓b_any, ↓b_all, ↓j_map, ↓i_str, ↓i_lst, ↓i_tup, ↓i_fls, ↓m_min, ↓m_max, ↓m_min3, ↓m_max3, ↓p_appn, ↓p_appl, ↓p_appi, ↓p_apps, ↓p_app0, ↓p_appc, ↓p_appa, ↓p_ext, ↓p_putm, ↓p_put0, ↓p_put1, ↓p_put2, ↓p_put3, ↓stepK_map, ↓posK_map, ↓end_rt, ↓end_nx, cond_true, cond_false, Option.isNone_none, n_add, n_addl, n_ladd, n_mul, n_sub0, n_ss, n_subt, n_sublt, n_lt, n_le, n_eq, n_0lt, n_1le, n_eq0, n_leb, n_geb, n_natAbs, sing_eq, safeB_none, safeB_nil, safeB_some, own_none, own_some, g_addi, g_adds, g_subi, g_muli, wrE, wrEs, wrEo, wrAs, wrSrc, wrP, wrS, wrSs, md, mdS, Tg.slots, Tgs.slots, P.root, small_ofNat, small_neg, pu_non, pu_bl, pu_int, pu_str, pu_tup, pu_fls, puL_nil, puL_con, puL_map, puL_app, puL_enum, isStr_str, isDct_dct, isNon_non, isNon_int, isNon_str, isNon_tup, isNon_lst, setAt0, setAt1, cut_to, cut_from, cut_ft, cut_tol, cut_froml, cut_all, cut_map, ixOk_nat, ixN_nat, ixOk_lit, ixN_lit, ixOk_m1, ixN_m1, List.nil_append, List.append_nil, List.cons_append, hasN, List.length_map, List.length_range, List.length_cons, List.length_nil, Bool.not_true, Bool.not_false, Bool.not_not, Bool.true_and, Bool.and_true, Bool.or_true, Bool.true_or, Bool.false_or, Bool.or_false, Bool.and_self, Bool.not_eq_true', Bool.false_eq_true, decide_true, decide_false, decide_eq_true_eq, decide_eq_false_iff_not, true_and, and_true, implies_true, and_self, ne_eq, not_true_eq_false, not_false_eq_true, false_implies, true_implies, eq_self, forall_const, Nat.reduceBEq, Nat.reduceEqDiff, Nat.reduceLT, Nat.reduceAdd, Nat.reduceSub, Nat.reduceLeDiff, Nat.reducePow, Int.reduceLT, Int.reduceLE, Int.reduceNeg, Int.reduceAdd, Int.reduceSub, Int.reducePow, Int.reduceToNat, Int.toNat_natCast, beq_self_eq_true, Bool.and_eq_true, Bool.or_eq_true]
  refine wpf_mono (S.stands _ _ _ (by omega) (by omega) (by omega)) ?_
  rintro r rs ⟨rfl, rfl⟩
  simp -failIfUnchanged -implicitDefEqProofs only [↓gK0, ↓gKs, ↓setK0, ↓setKs, ↓setN0, ↓setNs, ↓setM0, ↓setMs, ↓clrK0, ↓clrKs, ↓bK_bl, ↓iK_int, ↓brK_true, ↓brK_false, ↓brK_dec, ↓brK_not, ↓brK_and, ↓w_ok, ↓w_var, ↓w_mv, ↓w_int, ↓w_str, ↓w_bl, ↓w_non, ↓w_neg, ↓w_bin, ↓w_cmp, ↓w_and, ↓w_or, ↓w_not, ↓w_ite, ↓w_tup, ↓w_lst, ↓w_nil, ↓w_con, ↓w_ix, ↓w_eo0, ↓w_eo1, ↓w_sl, ↓w_rev, ↓w_bi, ↓w_bi2, ↓w_bi3, ↓w_lcp, ↓w_cmp2, ↓w_tr1, ↓w_tr2, ↓w_lset, ↓w_sidx, ↓w_dcl, ↓w_dis, ↓w_join, ↓w_get, ↓w_ssn, ↓w_kill, ↓w_ssc, ↓nxt_nx, ↓nxt_rt, ↓nxt_bk, ↓nxt_ct, ↓w_set, ↓tsK0, ↓tsKs, ↓tgKv, ↓tgKt, ↓tupK_t, ↓w_tset, ↓w_aug, ↓gK_v, ↓gK_x, ↓setM_v, ↓setM_x, ↓atK0, ↓atKs, ↓atK0a, ↓atKsa, ↓w_pv, ↓w_px, ↓w_put, ↓lstK_l, ↓w_app, ↓lsK_l, ↓w_ext, ↓popK_appm, ↓popK_app, ↓popK_con, ↓w_pop, ↓w_ex, ↓w_ret, ↓w_retN, ↓w_brk, ↓w_cnt, ↓w_pass, ↓w_if, ↓w_an, ↓w_av, ↓w_ar, ↓takK0, ↓takKd, ↓takKr, ↓givK0, ↓givKd, ↓givKr, ↓w_call, ↓w_se, ↓w_s1, ↓w_s2, ↓w_s3, ↓w_sn, ↓w_for, ↓w_wh, ↓lpq_nx, ↓lpq_ct, ↓lpq_bk, ↓lpq_rt, ↓w_cn, ↓w_cs, ↓w_comp, ↓o_add, ↓o_sub, ↓o_adds, ↓o_addt, ↓o_addl, ↓o_mul, ↓o_muls, ↓o_mull, ↓o_div, ↓o_mod, ↓o_pow, ↓c_eq, ↓c_ne, ↓c_lt, ↓c_le, ↓c_gt, ↓c_ge, ↓c_eqs, ↓c_nes, ↓c_lts, ↓c_gts, ↓c_les, ↓c_ges, ↓c_neb, ↓c_eqb, ↓c_ins, ↓c_isn, ↓c_ntn, ↓t_bl, ↓t_int, ↓t_str, ↓t_non, ↓t_lst, ↓t_tup, ↓ixK_0, ↓ixK_1, ↓ixK_2, ↓ixK_3, ↓ixK_l1, ↓ixK_l2, ↓ixK_l3, ↓ixK_m1, ↓ixK_map, ↓x_str, ↓x_tup, ↓x_lst, ↓x_fls, ↓l_str, ↓l_tup, ↓l_lst, ↓r_str, ↓r_lst, ↓b_lens, ↓b_lenl, ↓b_lent, ↓b_lenf, ↓b_lend, ↓b_abs, ↓b_int, ↓b_intb, ↓b_tupt, ↓b_tupl, ↓b_lstt, ↓b_lstl, ↓b_lstf, ↓b_lstx, ↓s_set, ↓b_sum, ↓b_any, ↓b_all, ↓j_map, ↓i_str, ↓i_lst, ↓i_tup, ↓i_fls, ↓m_min, ↓m_max, ↓m_min3, ↓m_max3, ↓p_appn, ↓p_appl, ↓p_appi, ↓p_apps, ↓p_app0, ↓p_appc, ↓p_appa, ↓p_ext, ↓p_putm, ↓p_put0, ↓p_put1, ↓p_put2, ↓p_put3, ↓stepK_map, ↓posK_map, ↓end_rt, ↓end_nx, cond_true, cond_false, Option.isNone_none, n_add, n_addl, n_ladd, n_mul, n_sub0, n_ss, n_subt, n_sublt, n_lt, n_le, n_eq, n_0lt, n_1le, n_eq0, n_leb, n_geb, n_natAbs, sing_eq, safeB_none, safeB_nil, safeB_some, own_none, own_some, g_addi, g_adds, g_subi, g_muli, wrE, wrEs, wrEo, wrAs, wrSrc, wrP, wrS, wrSs, md, mdS, Tg.slots, Tgs.slots, P.root, small_ofNat, small_neg, pu_non, pu_bl, pu_int, pu_str, pu_tup, pu_fls, puL_nil, puL_con, puL_map, puL_app, puL_enum, isStr_str, isDct_dct, isNon_non, isNon_int, isNon_str, isNon_tup, isNon_lst, setAt0, setAt1, cut_to, cut_from, cut_ft, cut_tol, cut_froml, cut_all, cut_map, ixOk_nat, ixN_nat, ixOk_lit, ixN_lit, ixOk_m1, ixN_m1, List.nil_append, List.append_nil, List.cons_append, hasN, List.length_map, List.length_range, List.length_cons, List.length_nil, Bool.not_true, Bool.not_false, Bool.not_not, Bool.true_and, Bool.and_true, Bool.or_true, Bool.true_or, Bool.false_or, Bool.or_false, Bool.and_self, Bool.not_eq_true', Bool.false_eq_true, decide_true, decide_false, decide_eq_true_eq, decide_eq_false_iff_not, true_and, and_true, implies_true, and_self, ne_eq, not_true_eq_false, not_false_eq_true, false_implies, true_implies, eq_self, forall_const, Nat.reduceBEq, Nat.reduceEqDiff, Nat.reduceLT, Nat.reduceAdd, Nat.reduceSub, Nat.reduceLeDiff, Nat.reducePow, Int.reduceLT, Int.reduceLE, Int.reduceNeg, Int.reduceAdd, Int.reduceSub, Int.reducePow, Int.reduceToNat, Int.toNat_natCast, beq_self_eq_true, Bool.and_eq_true, Bool.or_eq_true]
  refine wpf_mono (S.once _ _ _ (by omega) (by omega) (by omega)) ?_
  rintro r rs ⟨rfl, rfl⟩
  simp -failIfUnchanged -implicitDefEqProofs only [eqbl, ↓gK0, ↓gKs, ↓setK0, ↓setKs, ↓setN0, ↓setNs, ↓setM0, ↓setMs, ↓clrK0, ↓clrKs, ↓bK_bl, ↓iK_int, ↓brK_true, ↓brK_false, ↓brK_dec, ↓brK_not, ↓brK_and, ↓w_ok, ↓w_var, ↓w_mv, ↓w_int, ↓w_str, ↓w_bl, ↓w_non, ↓w_neg, ↓w_bin, ↓w_cmp, ↓w_and, ↓w_or, ↓w_not, ↓w_ite, ↓w_tup, ↓w_lst, ↓w_nil, ↓w_con, ↓w_ix, ↓w_eo0, ↓w_eo1, ↓w_sl, ↓w_rev, ↓w_bi, ↓w_bi2, ↓w_bi3, ↓w_lcp, ↓w_cmp2, ↓w_tr1, ↓w_tr2, ↓w_lset, ↓w_sidx, ↓w_dcl, ↓w_dis, ↓w_join, ↓w_get, ↓w_ssn, ↓w_kill, ↓w_ssc, ↓nxt_nx, ↓nxt_rt, ↓nxt_bk, ↓nxt_ct, ↓w_set, ↓tsK0, ↓tsKs, ↓tgKv, ↓tgKt, ↓tupK_t, ↓w_tset, ↓w_aug, ↓gK_v, ↓gK_x, ↓setM_v, ↓setM_x, ↓atK0, ↓atKs, ↓atK0a, ↓atKsa, ↓w_pv, ↓w_px, ↓w_put, ↓lstK_l, ↓w_app, ↓lsK_l, ↓w_ext, ↓popK_appm, ↓popK_app, ↓popK_con, ↓w_pop, ↓w_ex, ↓w_ret, ↓w_retN, ↓w_brk, ↓w_cnt, ↓w_pass, ↓w_if, ↓w_an, ↓w_av, ↓w_ar, ↓takK0, ↓takKd, ↓takKr, ↓givK0, ↓givKd, ↓givKr, ↓w_call, ↓w_se, ↓w_s1, ↓w_s2, ↓w_s3, ↓w_sn, ↓w_for, ↓w_wh, ↓lpq_nx, ↓lpq_ct, ↓lpq_bk, ↓lpq_rt, ↓w_cn, ↓w_cs, ↓w_comp, ↓o_add, ↓o_sub, ↓o_adds, ↓o_addt, ↓o_addl, ↓o_mul, ↓o_muls, ↓o_mull, ↓o_div, ↓o_mod, ↓o_pow, ↓c_eq, ↓c_ne, ↓c_lt, ↓c_le, ↓c_gt, ↓c_ge, ↓c_eqs, ↓c_nes, ↓c_lts, ↓c_gts, ↓c_les, ↓c_ges, ↓c_neb, ↓c_eqb, ↓c_ins, ↓c_isn, ↓c_ntn, ↓t_bl, ↓t_int, ↓t_str, ↓t_non, ↓t_lst, ↓t_tup, ↓ixK_0, ↓ixK_1, ↓ixK_2, ↓ixK_3, ↓ixK_l1, ↓ixK_l2, ↓ixK_l3, ↓ixK_m1, ↓ixK_map, ↓x_str, ↓x_tup, ↓x_lst, ↓x_fls, ↓l_str, ↓l_tup, ↓l_lst, ↓r_str, ↓r_lst, ↓b_lens, ↓b_lenl, ↓b_lent, ↓b_lenf, ↓b_lend, ↓b_abs, ↓b_int, ↓b_intb, ↓b_tupt, ↓b_tupl, ↓b_lstt, ↓b_lstl, ↓b_lstf, ↓b_lstx, ↓s_set, ↓b_sum, ↓b_any, ↓b_all, ↓j_map, ↓i_str, ↓i_lst, ↓i_tup, ↓i_fls, ↓m_min, ↓m_max, ↓m_min3, ↓m_max3, ↓p_appn, ↓p_appl, ↓p_appi, ↓p_apps, ↓p_app0, ↓p_appc, ↓p_appa, ↓p_ext, ↓p_putm, ↓p_put0, ↓p_put1, ↓p_put2, ↓p_put3, ↓stepK_map, ↓posK_map, ↓end_rt, ↓end_nx, cond_true, cond_false, Option.isNone_none, n_add, n_addl, n_ladd, n_mul, n_sub0, n_ss, n_subt, n_sublt, n_lt, n_le, n_eq, n_0lt, n_1le, n_eq0, n_leb, n_geb, n_natAbs, sing_eq, safeB_none, safeB_nil, safeB_some, own_none, own_some, g_addi, g_adds, g_subi, g_muli, wrE, wrEs, wrEo, wrAs, wrSrc, wrP, wrS, wrSs, md, mdS, Tg.slots, Tgs.slots, P.root, small_ofNat, small_neg, pu_non, pu_bl, pu_int, pu_str, pu_tup, pu_fls, puL_nil, puL_con, puL_map, puL_app, puL_enum, isStr_str, isDct_dct, isNon_non, isNon_int, isNon_str, isNon_tup, isNon_lst, setAt0, setAt1, cut_to, cut_from, cut_ft, cut_tol, cut_froml, cut_all, cut_map, ixOk_nat, ixN_nat, ixOk_lit, ixN_lit, ixOk_m1, ixN_m1, List.nil_append, List.append_nil, List.cons_append, hasN, List.length_map, List.length_range, List.length_cons, List.length_nil, Bool.not_true, Bool.not_false, Bool.not_not, Bool.true_and, Bool.and_true, Bool.or_true, Bool.true_or, Bool.false_or, Bool.or_false, Bool.and_self, Bool.not_eq_true', Bool.false_eq_true, decide_true, decide_false, decide_eq_true_eq, decide_eq_false_iff_not, true_and, and_true, implies_true, and_self, ne_eq, not_true_eq_false, not_false_eq_true, false_implies, true_implies, eq_self, forall_const, Nat.reduceBEq, Nat.reduceEqDiff, Nat.reduceLT, Nat.reduceAdd, Nat.reduceSub, Nat.reduceLeDiff, Nat.reducePow, Int.reduceLT, Int.reduceLE, Int.reduceNeg, Int.reduceAdd, Int.reduceSub, Int.reducePow, Int.reduceToNat, Int.toNat_natCast, beq_self_eq_true, Bool.and_eq_true, Bool.or_eq_true]
  exact ⟨d3, hd3, rfl⟩
/-! the least of all -/
theorem in_tup2 {x a b : Wrd} {ρ : Env} {QB : Bool → Env → Prop} : Wp (lift (cmpF .inn (.str x) (.tup [.str a, .str b])) ρ) QB = QB (decide (x = a ∨ x = b)) ρ := by
  have e : cmpF .inn (.str x) (.tup [.str a, .str b]) = some (decide (x = a ∨ x = b)) := by
    show (if eqOk (.str x) (.tup [.str a, .str b]) = true then some (anyEq (.str x) [.str a, .str b]) else none) = _
    rw [if_pos (by simp [eqOk, nod, nodL, dep, depL])]
    simp [anyEq, deq, eq_comm]
  rw [e, wp_some]
theorem find_lvls {al : Wrd} {q : Wrd → Bool} {n : Nat} : (lvls al n).find? (fun w => decide (w.length = n) && q w) = (lvl al n).find? q := by
  have same : ∀ l : List Wrd, (∀ w ∈ l, w.length = n) → l.find? (fun w => decide (w.length = n) && q w) = l.find? q := by
    intro l
    induction l with
    | nil => intro _; rfl
    | cons w l ih =>
      intro h
      rw [List.find?_cons, List.find?_cons, ih fun x hx => h x (List.mem_cons_of_mem _ hx), decide_eq_true (h w List.mem_cons_self), Bool.true_and]
  cases n with
  | zero => exact same _ fun w hw => by simp [lvls] at hw; simp [hw]
  | succ n =>
    rw [show lvls al (n + 1) = lvls al n ++ lvl al (n + 1) from rfl, List.find?_append]
    have : (lvls al n).find? (fun w => decide (w.length = n + 1) && q w) = none := by
      rw [List.find?_eq_none]
      intro w hw
      have := lvls_sz hw
      rw [decide_eq_false (by omega)]; simp
    rw [this, Option.none_or]
    exact same _ fun w hw => lvl_sz hw
def oD : Option Wrd → D
  | none => .non
  | some w => .str w
theorem l8 {Γ : Fns} (S : Sp14 Γ) {m : Nat} {al told : Wrd} (hm : m ≤ 3) (hp : (al, m + 1, told) ∈ menu) {sx due : Option D} {d : D} (hd : DOk d) {w : Wrd} : Wp (evSs Γ r13_8 [sx, some d, some (.str w), due, none, none, some (.str al), some (.int ((m + 1 : Nat) : Int)), some (.str told), none, none, none, none, none, none, none]) (EndQ f13 fun r _ => r = .bl true) := by
  obtain ⟨m', e, h1, h2, h3⟩ := menu_g hp
  cases e
  have h2 : al.length ≤ 4 := h2
  have h3 : told.length ≤ 27 := h3
  have hcap : cap = 1000000 := rfl
  have hct : told.length ≤ cap := by omega
  unfold r13_8
  simp -failIfUnchanged -implicitDefEqProofs only [in_tup2, ↓gK0, ↓gKs, ↓setK0, ↓setKs, ↓setN0, ↓setNs, ↓setM0, ↓setMs, ↓clrK0, ↓clrKs, ↓bK_bl, ↓iK_int, ↓brK_true, ↓brK_false, ↓brK_dec, ↓brK_not, ↓brK_and, ↓w_ok, ↓w_var, ↓w_mv, ↓w_int, ↓w_str, ↓w_bl, ↓w_non, ↓w_neg, ↓w_bin, ↓w_cmp, ↓w_and, ↓w_or, ↓w_not, ↓w_ite, ↓w_tup, ↓w_lst, ↓w_nil, ↓w_con, ↓w_ix, ↓w_eo0, ↓w_eo1, ↓w_sl, ↓w_rev, ↓w_bi, ↓w_bi2, ↓w_bi3, ↓w_lcp, ↓w_cmp2, ↓w_tr1, ↓w_tr2, ↓w_lset, ↓w_sidx, ↓w_dcl, ↓w_dis, ↓w_join, ↓w_get, ↓w_ssn, ↓w_kill, ↓w_ssc, ↓nxt_nx, ↓nxt_rt, ↓nxt_bk, ↓nxt_ct, ↓w_set, ↓tsK0, ↓tsKs, ↓tgKv, ↓tgKt, ↓tupK_t, ↓w_tset, ↓w_aug, ↓gK_v, ↓gK_x, ↓setM_v, ↓setM_x, ↓atK0, ↓atKs, ↓atK0a, ↓atKsa, ↓w_pv, ↓w_px, ↓w_put, ↓lstK_l, ↓w_app, ↓lsK_l, ↓w_ext, ↓popK_appm, ↓popK_app, ↓popK_con, ↓w_pop, ↓w_ex, ↓w_ret, ↓w_retN, ↓w_brk, ↓w_cnt, ↓w_pass, ↓w_if, ↓w_an, ↓w_av, ↓w_ar, ↓takK0, ↓takKd, ↓takKr, ↓givK0, ↓givKd, ↓givKr, ↓w_call, ↓w_se, ↓w_s1, ↓w_s2, ↓w_s3, ↓w_sn, ↓w_for, ↓w_wh, ↓lpq_nx, ↓lpq_ct, ↓lpq_bk, ↓lpq_rt, ↓w_cn, ↓w_cs, ↓w_comp, ↓o_add, ↓o_sub, ↓o_adds, ↓o_addt, ↓o_addl, ↓o_mul, ↓o_muls, ↓o_mull, ↓o_div, ↓o_mod, ↓o_pow, ↓c_eq, ↓c_ne, ↓c_lt, ↓c_le, ↓c_gt, ↓c_ge, ↓c_eqs, ↓c_nes, ↓c_lts, ↓c_gts, ↓c_les, ↓c_ges, ↓c_neb, ↓c_eqb, ↓c_ins, ↓c_isn, ↓c_ntn, ↓t_bl, ↓t_int, ↓t_str, ↓t_non, ↓t_lst, ↓t_tup, ↓ixK_0, ↓ixK_1, ↓ixK_2, ↓ixK_3, ↓ixK_l1, ↓ixK_l2, ↓ixK_l3, ↓ixK_m1, ↓ixK_map, ↓x_str, ↓x_tup, ↓x_lst, ↓x_fls, ↓l_str, ↓l_tup, ↓l_lst, ↓r_str, ↓r_lst, ↓b_lens, ↓b_lenl, ↓b_lent, ↓b_lenf, ↓b_lend, ↓b_abs, ↓b_int, ↓b_intb, ↓b_tupt, ↓b_tupl, ↓b_lstt, ↓b_lstl, ↓b_lstf, ↓b_lstx, ↓s_set, ↓b_sum, ↓b_any, ↓b_all, ↓j_map, ↓i_str, ↓i_lst, ↓i_tup, ↓i_fls, ↓m_min, ↓m_max, ↓m_min3, ↓m_max3, ↓p_appn, ↓p_appl, ↓p_appi, ↓p_apps, ↓p_app0, ↓p_appc, ↓p_appa, ↓p_ext, ↓p_putm, ↓p_put0, ↓p_put1, ↓p_put2, ↓p_put3, ↓stepK_map, ↓posK_map, ↓end_rt, ↓end_nx, cond_true, cond_false, Option.isNone_none, n_add, n_addl, n_ladd, n_mul, n_sub0, n_ss, n_subt, n_sublt, n_lt, n_le, n_eq, n_0lt, n_1le, n_eq0, n_leb, n_geb, n_natAbs, sing_eq, safeB_none, safeB_nil, safeB_some, own_none, own_some, g_addi, g_adds, g_subi, g_muli, wrE, wrEs, wrEo, wrAs, wrSrc, wrP, wrS, wrSs, md, mdS, Tg.slots, Tgs.slots, P.root, small_ofNat, small_neg, pu_non, pu_bl, pu_int, pu_str, pu_tup, pu_fls, puL_nil, puL_con, puL_map, puL_app, puL_enum, isStr_str, isDct_dct, isNon_non, isNon_int, isNon_str, isNon_tup, isNon_lst, setAt0, setAt1, cut_to, cut_from, cut_ft, cut_tol, cut_froml, cut_all, cut_map, ixOk_nat, ixN_nat, ixOk_lit, ixN_lit, ixOk_m1, ixN_m1, List.nil_append, List.append_nil, List.cons_append, hasN, List.length_map, List.length_range, List.length_cons, List.length_nil, Bool.not_true, Bool.not_false, Bool.not_not, Bool.true_and, Bool.and_true, Bool.or_true, Bool.true_or, Bool.false_or, Bool.or_false, Bool.and_self, Bool.not_eq_true', Bool.false_eq_true, decide_true, decide_false, decide_eq_true_eq, decide_eq_false_iff_not, true_and, and_true, implies_true, and_self, ne_eq, not_true_eq_false, not_false_eq_true, false_implies, true_implies, eq_self, forall_const, Nat.reduceBEq, Nat.reduceEqDiff, Nat.reduceLT, Nat.reduceAdd, Nat.reduceSub, Nat.reduceLeDiff, Nat.reducePow, Int.reduceLT, Int.reduceLE, Int.reduceNeg, Int.reduceAdd, Int.reduceSub, Int.reducePow, Int.reduceToNat, Int.toNat_natCast, beq_self_eq_true, Bool.and_eq_true, Bool.or_eq_true]
  refine ⟨fun ha => ⟨hct, fun hl => ⟨fun hn => ?_, fun _ => l9 S h2 hm h3 hd⟩, fun _ => l9 S h2 hm h3 hd⟩, fun _ => l9 S h2 hm h3 hd⟩
  have hl9 : told.length ≤ 9 := by omega
  have ha3 : al.length ≤ 3 := by rcases ha with rfl | rfl <;> simp
  have hbest : (lvl al told.length).find? (onceB al (m + 1)) = some told := by
    have := List.all_eq_true.mp best_all _ hp
    have c1 : ((al == abS || al == abcS) && decide (told.length ≤ 9) && decide (1 < m + 1)) = true := by
      have : (al == abS || al == abcS) = true := by rcases ha with rfl | rfl <;> rfl
      rw [this, decide_eq_true hl9, decide_eq_true (by omega)]; rfl
    simp only [c1, Bool.not_true, Bool.false_or, decide_eq_true_eq] at this
    exact this
  refine ⟨hct, wpf_mono (S.all _ _ ha3 hl9) ?_⟩
  rintro r rs ⟨rfl, rfl⟩
  simp -failIfUnchanged -implicitDefEqProofs only [↓gK0, ↓gKs, ↓setK0, ↓setKs, ↓setN0, ↓setNs, ↓setM0, ↓setMs, ↓clrK0, ↓clrKs, ↓bK_bl, ↓iK_int, ↓brK_true, ↓brK_false, ↓brK_dec, ↓brK_not, ↓brK_and, ↓w_ok, ↓w_var, ↓w_mv, ↓w_int, ↓w_str, ↓w_bl, ↓w_non, ↓w_neg, ↓w_bin, ↓w_cmp, ↓w_and, ↓w_or, ↓w_not, ↓w_ite, ↓w_tup, ↓w_lst, ↓w_nil, ↓w_con, ↓w_ix, ↓w_eo0, ↓w_eo1, ↓w_sl, ↓w_rev, ↓w_bi, ↓w_bi2, ↓w_bi3, ↓w_lcp, ↓w_cmp2, ↓w_tr1, ↓w_tr2, ↓w_lset, ↓w_sidx, ↓w_dcl, ↓w_dis, ↓w_join, ↓w_get, ↓w_ssn, ↓w_kill, ↓w_ssc, ↓nxt_nx, ↓nxt_rt, ↓nxt_bk, ↓nxt_ct, ↓w_set, ↓tsK0, ↓tsKs, ↓tgKv, ↓tgKt, ↓tupK_t, ↓w_tset, ↓w_aug, ↓gK_v, ↓gK_x, ↓setM_v, ↓setM_x, ↓atK0, ↓atKs, ↓atK0a, ↓atKsa, ↓w_pv, ↓w_px, ↓w_put, ↓lstK_l, ↓w_app, ↓lsK_l, ↓w_ext, ↓popK_appm, ↓popK_app, ↓popK_con, ↓w_pop, ↓w_ex, ↓w_ret, ↓w_retN, ↓w_brk, ↓w_cnt, ↓w_pass, ↓w_if, ↓w_an, ↓w_av, ↓w_ar, ↓takK0, ↓takKd, ↓takKr, ↓givK0, ↓givKd, ↓givKr, ↓w_call, ↓w_se, ↓w_s1, ↓w_s2, ↓w_s3, ↓w_sn, ↓w_for, ↓w_wh, ↓lpq_nx, ↓lpq_ct, ↓lpq_bk, ↓lpq_rt, ↓w_cn, ↓w_cs, ↓w_comp, ↓o_add, ↓o_sub, ↓o_adds, ↓o_addt, ↓o_addl, ↓o_mul, ↓o_muls, ↓o_mull, ↓o_div, ↓o_mod, ↓o_pow, ↓c_eq, ↓c_ne, ↓c_lt, ↓c_le, ↓c_gt, ↓c_ge, ↓c_eqs, ↓c_nes, ↓c_lts, ↓c_gts, ↓c_les, ↓c_ges, ↓c_neb, ↓c_eqb, ↓c_ins, ↓c_isn, ↓c_ntn, ↓t_bl, ↓t_int, ↓t_str, ↓t_non, ↓t_lst, ↓t_tup, ↓ixK_0, ↓ixK_1, ↓ixK_2, ↓ixK_3, ↓ixK_l1, ↓ixK_l2, ↓ixK_l3, ↓ixK_m1, ↓ixK_map, ↓x_str, ↓x_tup, ↓x_lst, ↓x_fls, ↓l_str, ↓l_tup, ↓l_lst, ↓r_str, ↓r_lst, ↓b_lens, ↓b_lenl, ↓b_lent, ↓b_lenf, ↓b_lend, ↓b_abs, ↓b_int, ↓b_intb, ↓b_tupt, ↓b_tupl, ↓b_lstt, ↓b_lstl, ↓b_lstf, ↓b_lstx, ↓s_set, ↓b_sum, ↓b_any, ↓b_all, ↓j_map, ↓i_str, ↓i_lst, ↓i_tup, ↓i_fls, ↓m_min, ↓m_max, ↓m_min3, ↓m_max3, ↓p_appn, ↓p_appl, ↓p_appi, ↓p_apps, ↓p_app0, ↓p_appc, ↓p_appa, ↓p_ext, ↓p_putm, ↓p_put0, ↓p_put1, ↓p_put2, ↓p_put3, ↓stepK_map, ↓posK_map, ↓end_rt, ↓end_nx, cond_true, cond_false, Option.isNone_none, n_add, n_addl, n_ladd, n_mul, n_sub0, n_ss, n_subt, n_sublt, n_lt, n_le, n_eq, n_0lt, n_1le, n_eq0, n_leb, n_geb, n_natAbs, sing_eq, safeB_none, safeB_nil, safeB_some, own_none, own_some, g_addi, g_adds, g_subi, g_muli, wrE, wrEs, wrEo, wrAs, wrSrc, wrP, wrS, wrSs, md, mdS, Tg.slots, Tgs.slots, P.root, small_ofNat, small_neg, pu_non, pu_bl, pu_int, pu_str, pu_tup, pu_fls, puL_nil, puL_con, puL_map, puL_app, puL_enum, isStr_str, isDct_dct, isNon_non, isNon_int, isNon_str, isNon_tup, isNon_lst, setAt0, setAt1, cut_to, cut_from, cut_ft, cut_tol, cut_froml, cut_all, cut_map, ixOk_nat, ixN_nat, ixOk_lit, ixN_lit, ixOk_m1, ixN_m1, List.nil_append, List.append_nil, List.cons_append, hasN, List.length_map, List.length_range, List.length_cons, List.length_nil, Bool.not_true, Bool.not_false, Bool.not_not, Bool.true_and, Bool.and_true, Bool.or_true, Bool.true_or, Bool.false_or, Bool.or_false, Bool.and_self, Bool.not_eq_true', Bool.false_eq_true, decide_true, decide_false, decide_eq_true_eq, decide_eq_false_iff_not, true_and, and_true, implies_true, and_self, ne_eq, not_true_eq_false, not_false_eq_true, false_implies, true_implies, eq_self, forall_const, Nat.reduceBEq, Nat.reduceEqDiff, Nat.reduceLT, Nat.reduceAdd, Nat.reduceSub, Nat.reduceLeDiff, Nat.reducePow, Int.reduceLT, Int.reduceLE, Int.reduceNeg, Int.reduceAdd, Int.reduceSub, Int.reducePow, Int.reduceToNat, Int.toNat_natCast, beq_self_eq_true, Bool.and_eq_true, Bool.or_eq_true]
  refine for_map (fun k ρ => ρ = [sx, some d, some (.str w), due, none, none, some (.str al), some (.int ((m + 1 : Nat) : Int)), some (.str told), some (oD (((lvls al told.length).take k).find? fun w => decide (w.length = told.length) && onceB al (m + 1) w)), none, none, none, none, none, none]) rfl ?_ ?_
  · rintro ρ rfl
    rw [List.take_length, find_lvls, hbest]
    simp only [oD]
    simp -failIfUnchanged -implicitDefEqProofs only [↓gK0, ↓gKs, ↓setK0, ↓setKs, ↓setN0, ↓setNs, ↓setM0, ↓setMs, ↓clrK0, ↓clrKs, ↓bK_bl, ↓iK_int, ↓brK_true, ↓brK_false, ↓brK_dec, ↓brK_not, ↓brK_and, ↓w_ok, ↓w_var, ↓w_mv, ↓w_int, ↓w_str, ↓w_bl, ↓w_non, ↓w_neg, ↓w_bin, ↓w_cmp, ↓w_and, ↓w_or, ↓w_not, ↓w_ite, ↓w_tup, ↓w_lst, ↓w_nil, ↓w_con, ↓w_ix, ↓w_eo0, ↓w_eo1, ↓w_sl, ↓w_rev, ↓w_bi, ↓w_bi2, ↓w_bi3, ↓w_lcp, ↓w_cmp2, ↓w_tr1, ↓w_tr2, ↓w_lset, ↓w_sidx, ↓w_dcl, ↓w_dis, ↓w_join, ↓w_get, ↓w_ssn, ↓w_kill, ↓w_ssc, ↓nxt_nx, ↓nxt_rt, ↓nxt_bk, ↓nxt_ct, ↓w_set, ↓tsK0, ↓tsKs, ↓tgKv, ↓tgKt, ↓tupK_t, ↓w_tset, ↓w_aug, ↓gK_v, ↓gK_x, ↓setM_v, ↓setM_x, ↓atK0, ↓atKs, ↓atK0a, ↓atKsa, ↓w_pv, ↓w_px, ↓w_put, ↓lstK_l, ↓w_app, ↓lsK_l, ↓w_ext, ↓popK_appm, ↓popK_app, ↓popK_con, ↓w_pop, ↓w_ex, ↓w_ret, ↓w_retN, ↓w_brk, ↓w_cnt, ↓w_pass, ↓w_if, ↓w_an, ↓w_av, ↓w_ar, ↓takK0, ↓takKd, ↓takKr, ↓givK0, ↓givKd, ↓givKr, ↓w_call, ↓w_se, ↓w_s1, ↓w_s2, ↓w_s3, ↓w_sn, ↓w_for, ↓w_wh, ↓lpq_nx, ↓lpq_ct, ↓lpq_bk, ↓lpq_rt, ↓w_cn, ↓w_cs, ↓w_comp, ↓o_add, ↓o_sub, ↓o_adds, ↓o_addt, ↓o_addl, ↓o_mul, ↓o_muls, ↓o_mull, ↓o_div, ↓o_mod, ↓o_pow, ↓c_eq, ↓c_ne, ↓c_lt, ↓c_le, ↓c_gt, ↓c_ge, ↓c_eqs, ↓c_nes, ↓c_lts, ↓c_gts, ↓c_les, ↓c_ges, ↓c_neb, ↓c_eqb, ↓c_ins, ↓c_isn, ↓c_ntn, ↓t_bl, ↓t_int, ↓t_str, ↓t_non, ↓t_lst, ↓t_tup, ↓ixK_0, ↓ixK_1, ↓ixK_2, ↓ixK_3, ↓ixK_l1, ↓ixK_l2, ↓ixK_l3, ↓ixK_m1, ↓ixK_map, ↓x_str, ↓x_tup, ↓x_lst, ↓x_fls, ↓l_str, ↓l_tup, ↓l_lst, ↓r_str, ↓r_lst, ↓b_lens, ↓b_lenl, ↓b_lent, ↓b_lenf, ↓b_lend, ↓b_abs, ↓b_int, ↓b_intb, ↓b_tupt, ↓b_tupl, ↓b_lstt, ↓b_lstl, ↓b_lstf, ↓b_lstx, ↓s_set, ↓b_sum, ↓b_any, ↓b_all, ↓j_map, ↓i_str, ↓i_lst, ↓i_tup, ↓i_fls, ↓m_min, ↓m_max, ↓m_min3, ↓m_max3, ↓p_appn, ↓p_appl, ↓p_appi, ↓p_apps, ↓p_app0, ↓p_appc, ↓p_appa, ↓p_ext, ↓p_putm, ↓p_put0, ↓p_put1, ↓p_put2, ↓p_put3, ↓stepK_map, ↓posK_map, ↓end_rt, ↓end_nx, cond_true, cond_false, Option.isNone_none, n_add, n_addl, n_ladd, n_mul, n_sub0, n_ss, n_subt, n_sublt, n_lt, n_le, n_eq, n_0lt, n_1le, n_eq0, n_leb, n_geb, n_natAbs, sing_eq, safeB_none, safeB_nil, safeB_some, own_none, own_some, g_addi, g_adds, g_subi, g_muli, wrE, wrEs, wrEo, wrAs, wrSrc, wrP, wrS, wrSs, md, mdS, Tg.slots, Tgs.slots, P.root, small_ofNat, small_neg, pu_non, pu_bl, pu_int, pu_str, pu_tup, pu_fls, puL_nil, puL_con, puL_map, puL_app, puL_enum, isStr_str, isDct_dct, isNon_non, isNon_int, isNon_str, isNon_tup, isNon_lst, setAt0, setAt1, cut_to, cut_from, cut_ft, cut_tol, cut_froml, cut_all, cut_map, ixOk_nat, ixN_nat, ixOk_lit, ixN_lit, ixOk_m1, ixN_m1, List.nil_append, List.append_nil, List.cons_append, hasN, List.length_map, List.length_range, List.length_cons, List.length_nil, Bool.not_true, Bool.not_false, Bool.not_not, Bool.true_and, Bool.and_true, Bool.or_true, Bool.true_or, Bool.false_or, Bool.or_false, Bool.and_self, Bool.not_eq_true', Bool.false_eq_true, decide_true, decide_false, decide_eq_true_eq, decide_eq_false_iff_not, true_and, and_true, implies_true, and_self, ne_eq, not_true_eq_false, not_false_eq_true, false_implies, true_implies, eq_self, forall_const, Nat.reduceBEq, Nat.reduceEqDiff, Nat.reduceLT, Nat.reduceAdd, Nat.reduceSub, Nat.reduceLeDiff, Nat.reducePow, Int.reduceLT, Int.reduceLE, Int.reduceNeg, Int.reduceAdd, Int.reduceSub, Int.reducePow, Int.reduceToNat, Int.toNat_natCast, beq_self_eq_true, Bool.and_eq_true, Bool.or_eq_true]
    exact l9 S h2 hm h3 hd
  · rintro k hk ρ rfl
    have hsz := lvls_sz (List.getElem_mem hk)
    have hc2 : (lvls al told.length)[k].length ≤ cap := by omega
    rw [List.take_succ_eq_append_getElem hk, List.find?_append]
    generalize (lvls al told.length)[k] = x at *
    cases ((lvls al told.length).take k).find? fun w => decide (w.length = told.length) && onceB al (m + 1) w with
    | some y =>
      simp only [oD, Option.some_or]
      simp -failIfUnchanged -implicitDefEqProofs only [↓gK0, ↓gKs, ↓setK0, ↓setKs, ↓setN0, ↓setNs, ↓setM0, ↓setMs, ↓clrK0, ↓clrKs, ↓bK_bl, ↓iK_int, ↓brK_true, ↓brK_false, ↓brK_dec, ↓brK_not, ↓brK_and, ↓w_ok, ↓w_var, ↓w_mv, ↓w_int, ↓w_str, ↓w_bl, ↓w_non, ↓w_neg, ↓w_bin, ↓w_cmp, ↓w_and, ↓w_or, ↓w_not, ↓w_ite, ↓w_tup, ↓w_lst, ↓w_nil, ↓w_con, ↓w_ix, ↓w_eo0, ↓w_eo1, ↓w_sl, ↓w_rev, ↓w_bi, ↓w_bi2, ↓w_bi3, ↓w_lcp, ↓w_cmp2, ↓w_tr1, ↓w_tr2, ↓w_lset, ↓w_sidx, ↓w_dcl, ↓w_dis, ↓w_join, ↓w_get, ↓w_ssn, ↓w_kill, ↓w_ssc, ↓nxt_nx, ↓nxt_rt, ↓nxt_bk, ↓nxt_ct, ↓w_set, ↓tsK0, ↓tsKs, ↓tgKv, ↓tgKt, ↓tupK_t, ↓w_tset, ↓w_aug, ↓gK_v, ↓gK_x, ↓setM_v, ↓setM_x, ↓atK0, ↓atKs, ↓atK0a, ↓atKsa, ↓w_pv, ↓w_px, ↓w_put, ↓lstK_l, ↓w_app, ↓lsK_l, ↓w_ext, ↓popK_appm, ↓popK_app, ↓popK_con, ↓w_pop, ↓w_ex, ↓w_ret, ↓w_retN, ↓w_brk, ↓w_cnt, ↓w_pass, ↓w_if, ↓w_an, ↓w_av, ↓w_ar, ↓takK0, ↓takKd, ↓takKr, ↓givK0, ↓givKd, ↓givKr, ↓w_call, ↓w_se, ↓w_s1, ↓w_s2, ↓w_s3, ↓w_sn, ↓w_for, ↓w_wh, ↓lpq_nx, ↓lpq_ct, ↓lpq_bk, ↓lpq_rt, ↓w_cn, ↓w_cs, ↓w_comp, ↓o_add, ↓o_sub, ↓o_adds, ↓o_addt, ↓o_addl, ↓o_mul, ↓o_muls, ↓o_mull, ↓o_div, ↓o_mod, ↓o_pow, ↓c_eq, ↓c_ne, ↓c_lt, ↓c_le, ↓c_gt, ↓c_ge, ↓c_eqs, ↓c_nes, ↓c_lts, ↓c_gts, ↓c_les, ↓c_ges, ↓c_neb, ↓c_eqb, ↓c_ins, ↓c_isn, ↓c_ntn, ↓t_bl, ↓t_int, ↓t_str, ↓t_non, ↓t_lst, ↓t_tup, ↓ixK_0, ↓ixK_1, ↓ixK_2, ↓ixK_3, ↓ixK_l1, ↓ixK_l2, ↓ixK_l3, ↓ixK_m1, ↓ixK_map, ↓x_str, ↓x_tup, ↓x_lst, ↓x_fls, ↓l_str, ↓l_tup, ↓l_lst, ↓r_str, ↓r_lst, ↓b_lens, ↓b_lenl, ↓b_lent, ↓b_lenf, ↓b_lend, ↓b_abs, ↓b_int, ↓b_intb, ↓b_tupt, ↓b_tupl, ↓b_lstt, ↓b_lstl, ↓b_lstf, ↓b_lstx, ↓s_set, ↓b_sum, ↓b_any, ↓b_all, ↓j_map, ↓i_str, ↓i_lst, ↓i_tup, ↓i_fls, ↓m_min, ↓m_max, ↓m_min3, ↓m_max3, ↓p_appn, ↓p_appl, ↓p_appi, ↓p_apps, ↓p_app0, ↓p_appc, ↓p_appa, ↓p_ext, ↓p_putm, ↓p_put0, ↓p_put1, ↓p_put2, ↓p_put3, ↓stepK_map, ↓posK_map, ↓end_rt, ↓end_nx, cond_true, cond_false, Option.isNone_none, n_add, n_addl, n_ladd, n_mul, n_sub0, n_ss, n_subt, n_sublt, n_lt, n_le, n_eq, n_0lt, n_1le, n_eq0, n_leb, n_geb, n_natAbs, sing_eq, safeB_none, safeB_nil, safeB_some, own_none, own_some, g_addi, g_adds, g_subi, g_muli, wrE, wrEs, wrEo, wrAs, wrSrc, wrP, wrS, wrSs, md, mdS, Tg.slots, Tgs.slots, P.root, small_ofNat, small_neg, pu_non, pu_bl, pu_int, pu_str, pu_tup, pu_fls, puL_nil, puL_con, puL_map, puL_app, puL_enum, isStr_str, isDct_dct, isNon_non, isNon_int, isNon_str, isNon_tup, isNon_lst, setAt0, setAt1, cut_to, cut_from, cut_ft, cut_tol, cut_froml, cut_all, cut_map, ixOk_nat, ixN_nat, ixOk_lit, ixN_lit, ixOk_m1, ixN_m1, List.nil_append, List.append_nil, List.cons_append, hasN, List.length_map, List.length_range, List.length_cons, List.length_nil, Bool.not_true, Bool.not_false, Bool.not_not, Bool.true_and, Bool.and_true, Bool.or_true, Bool.true_or, Bool.false_or, Bool.or_false, Bool.and_self, Bool.not_eq_true', Bool.false_eq_true, decide_true, decide_false, decide_eq_true_eq, decide_eq_false_iff_not, true_and, and_true, implies_true, and_self, ne_eq, not_true_eq_false, not_false_eq_true, false_implies, true_implies, eq_self, forall_const, Nat.reduceBEq, Nat.reduceEqDiff, Nat.reduceLT, Nat.reduceAdd, Nat.reduceSub, Nat.reduceLeDiff, Nat.reducePow, Int.reduceLT, Int.reduceLE, Int.reduceNeg, Int.reduceAdd, Int.reduceSub, Int.reducePow, Int.reduceToNat, Int.toNat_natCast, beq_self_eq_true, Bool.and_eq_true, Bool.or_eq_true]
    | none =>
      simp only [oD, Option.none_or, List.find?_cons, List.find?_nil]
      simp -failIfUnchanged -implicitDefEqProofs only [↓gK0, ↓gKs, ↓setK0, ↓setKs, ↓setN0, ↓setNs, ↓setM0, ↓setMs, ↓clrK0, ↓clrKs, ↓bK_bl, ↓iK_int, ↓brK_true, ↓brK_false, ↓brK_dec, ↓brK_not, ↓brK_and, ↓w_ok, ↓w_var, ↓w_mv, ↓w_int, ↓w_str, ↓w_bl, ↓w_non, ↓w_neg, ↓w_bin, ↓w_cmp, ↓w_and, ↓w_or, ↓w_not, ↓w_ite, ↓w_tup, ↓w_lst, ↓w_nil, ↓w_con, ↓w_ix, ↓w_eo0, ↓w_eo1, ↓w_sl, ↓w_rev, ↓w_bi, ↓w_bi2, ↓w_bi3, ↓w_lcp, ↓w_cmp2, ↓w_tr1, ↓w_tr2, ↓w_lset, ↓w_sidx, ↓w_dcl, ↓w_dis, ↓w_join, ↓w_get, ↓w_ssn, ↓w_kill, ↓w_ssc, ↓nxt_nx, ↓nxt_rt, ↓nxt_bk, ↓nxt_ct, ↓w_set, ↓tsK0, ↓tsKs, ↓tgKv, ↓tgKt, ↓tupK_t, ↓w_tset, ↓w_aug, ↓gK_v, ↓gK_x, ↓setM_v, ↓setM_x, ↓atK0, ↓atKs, ↓atK0a, ↓atKsa, ↓w_pv, ↓w_px, ↓w_put, ↓lstK_l, ↓w_app, ↓lsK_l, ↓w_ext, ↓popK_appm, ↓popK_app, ↓popK_con, ↓w_pop, ↓w_ex, ↓w_ret, ↓w_retN, ↓w_brk, ↓w_cnt, ↓w_pass, ↓w_if, ↓w_an, ↓w_av, ↓w_ar, ↓takK0, ↓takKd, ↓takKr, ↓givK0, ↓givKd, ↓givKr, ↓w_call, ↓w_se, ↓w_s1, ↓w_s2, ↓w_s3, ↓w_sn, ↓w_for, ↓w_wh, ↓lpq_nx, ↓lpq_ct, ↓lpq_bk, ↓lpq_rt, ↓w_cn, ↓w_cs, ↓w_comp, ↓o_add, ↓o_sub, ↓o_adds, ↓o_addt, ↓o_addl, ↓o_mul, ↓o_muls, ↓o_mull, ↓o_div, ↓o_mod, ↓o_pow, ↓c_eq, ↓c_ne, ↓c_lt, ↓c_le, ↓c_gt, ↓c_ge, ↓c_eqs, ↓c_nes, ↓c_lts, ↓c_gts, ↓c_les, ↓c_ges, ↓c_neb, ↓c_eqb, ↓c_ins, ↓c_isn, ↓c_ntn, ↓t_bl, ↓t_int, ↓t_str, ↓t_non, ↓t_lst, ↓t_tup, ↓ixK_0, ↓ixK_1, ↓ixK_2, ↓ixK_3, ↓ixK_l1, ↓ixK_l2, ↓ixK_l3, ↓ixK_m1, ↓ixK_map, ↓x_str, ↓x_tup, ↓x_lst, ↓x_fls, ↓l_str, ↓l_tup, ↓l_lst, ↓r_str, ↓r_lst, ↓b_lens, ↓b_lenl, ↓b_lent, ↓b_lenf, ↓b_lend, ↓b_abs, ↓b_int, ↓b_intb, ↓b_tupt, ↓b_tupl, ↓b_lstt, ↓b_lstl, ↓b_lstf, ↓b_lstx, ↓s_set, ↓b_sum, ↓b_any, ↓b_all, ↓j_map, ↓i_str, ↓i_lst, ↓i_tup, ↓i_fls, ↓m_min, ↓m_max, ↓m_min3, ↓m_max3, ↓p_appn, ↓p_appl, ↓p_appi, ↓p_apps, ↓p_app0, ↓p_appc, ↓p_appa, ↓p_ext, ↓p_putm, ↓p_put0, ↓p_put1, ↓p_put2, ↓p_put3, ↓stepK_map, ↓posK_map, ↓end_rt, ↓end_nx, cond_true, cond_false, Option.isNone_none, n_add, n_addl, n_ladd, n_mul, n_sub0, n_ss, n_subt, n_sublt, n_lt, n_le, n_eq, n_0lt, n_1le, n_eq0, n_leb, n_geb, n_natAbs, sing_eq, safeB_none, safeB_nil, safeB_some, own_none, own_some, g_addi, g_adds, g_subi, g_muli, wrE, wrEs, wrEo, wrAs, wrSrc, wrP, wrS, wrSs, md, mdS, Tg.slots, Tgs.slots, P.root, small_ofNat, small_neg, pu_non, pu_bl, pu_int, pu_str, pu_tup, pu_fls, puL_nil, puL_con, puL_map, puL_app, puL_enum, isStr_str, isDct_dct, isNon_non, isNon_int, isNon_str, isNon_tup, isNon_lst, setAt0, setAt1, cut_to, cut_from, cut_ft, cut_tol, cut_froml, cut_all, cut_map, ixOk_nat, ixN_nat, ixOk_lit, ixN_lit, ixOk_m1, ixN_m1, List.nil_append, List.append_nil, List.cons_append, hasN, List.length_map, List.length_range, List.length_cons, List.length_nil, Bool.not_true, Bool.not_false, Bool.not_not, Bool.true_and, Bool.and_true, Bool.or_true, Bool.true_or, Bool.false_or, Bool.or_false, Bool.and_self, Bool.not_eq_true', Bool.false_eq_true, decide_true, decide_false, decide_eq_true_eq, decide_eq_false_iff_not, true_and, and_true, implies_true, and_self, ne_eq, not_true_eq_false, not_false_eq_true, false_implies, true_implies, eq_self, forall_const, Nat.reduceBEq, Nat.reduceEqDiff, Nat.reduceLT, Nat.reduceAdd, Nat.reduceSub, Nat.reduceLeDiff, Nat.reducePow, Int.reduceLT, Int.reduceLE, Int.reduceNeg, Int.reduceAdd, Int.reduceSub, Int.reducePow, Int.reduceToNat, Int.toNat_natCast, beq_self_eq_true, Bool.and_eq_true, Bool.or_eq_true]
      refine ⟨hc2, hct, fun e => ?_, fun e => ?_⟩
      · refine wpf_mono (S.once _ _ _ (by omega) (by omega) (by omega)) ?_
        rintro r rs ⟨rfl, rfl⟩
        simp -failIfUnchanged -implicitDefEqProofs only [↓gK0, ↓gKs, ↓setK0, ↓setKs, ↓setN0, ↓setNs, ↓setM0, ↓setMs, ↓clrK0, ↓clrKs, ↓bK_bl, ↓iK_int, ↓brK_true, ↓brK_false, ↓brK_dec, ↓brK_not, ↓brK_and, ↓w_ok, ↓w_var, ↓w_mv, ↓w_int, ↓w_str, ↓w_bl, ↓w_non, ↓w_neg, ↓w_bin, ↓w_cmp, ↓w_and, ↓w_or, ↓w_not, ↓w_ite, ↓w_tup, ↓w_lst, ↓w_nil, ↓w_con, ↓w_ix, ↓w_eo0, ↓w_eo1, ↓w_sl, ↓w_rev, ↓w_bi, ↓w_bi2, ↓w_bi3, ↓w_lcp, ↓w_cmp2, ↓w_tr1, ↓w_tr2, ↓w_lset, ↓w_sidx, ↓w_dcl, ↓w_dis, ↓w_join, ↓w_get, ↓w_ssn, ↓w_kill, ↓w_ssc, ↓nxt_nx, ↓nxt_rt, ↓nxt_bk, ↓nxt_ct, ↓w_set, ↓tsK0, ↓tsKs, ↓tgKv, ↓tgKt, ↓tupK_t, ↓w_tset, ↓w_aug, ↓gK_v, ↓gK_x, ↓setM_v, ↓setM_x, ↓atK0, ↓atKs, ↓atK0a, ↓atKsa, ↓w_pv, ↓w_px, ↓w_put, ↓lstK_l, ↓w_app, ↓lsK_l, ↓w_ext, ↓popK_appm, ↓popK_app, ↓popK_con, ↓w_pop, ↓w_ex, ↓w_ret, ↓w_retN, ↓w_brk, ↓w_cnt, ↓w_pass, ↓w_if, ↓w_an, ↓w_av, ↓w_ar, ↓takK0, ↓takKd, ↓takKr, ↓givK0, ↓givKd, ↓givKr, ↓w_call, ↓w_se, ↓w_s1, ↓w_s2, ↓w_s3, ↓w_sn, ↓w_for, ↓w_wh, ↓lpq_nx, ↓lpq_ct, ↓lpq_bk, ↓lpq_rt, ↓w_cn, ↓w_cs, ↓w_comp, ↓o_add, ↓o_sub, ↓o_adds, ↓o_addt, ↓o_addl, ↓o_mul, ↓o_muls, ↓o_mull, ↓o_div, ↓o_mod, ↓o_pow, ↓c_eq, ↓c_ne, ↓c_lt, ↓c_le, ↓c_gt, ↓c_ge, ↓c_eqs, ↓c_nes, ↓c_lts, ↓c_gts, ↓c_les, ↓c_ges, ↓c_neb, ↓c_eqb, ↓c_ins, ↓c_isn, ↓c_ntn, ↓t_bl, ↓t_int, ↓t_str, ↓t_non, ↓t_lst, ↓t_tup, ↓ixK_0, ↓ixK_1, ↓ixK_2, ↓ixK_3, ↓ixK_l1, ↓ixK_l2, ↓ixK_l3, ↓ixK_m1, ↓ixK_map, ↓x_str, ↓x_tup, ↓x_lst, ↓x_fls, ↓l_str, ↓l_tup, ↓l_lst, ↓r_str, ↓r_lst, ↓b_lens, ↓b_lenl, ↓b_lent, ↓b_lenf, ↓b_lend, ↓b_abs, ↓b_int, ↓b_intb, ↓b_tupt, ↓b_tupl, ↓b_lstt, ↓b_lstl, ↓b_lstf, ↓b_lstx, ↓s_set, ↓b_sum, ↓b_any, ↓b_all, ↓j_map, ↓i_str, ↓i_lst, ↓i_tup, ↓i_fls, ↓m_min, ↓m_max, ↓m_min3, ↓m_max3, ↓p_appn, ↓p_appl, ↓p_appi, ↓p_apps, ↓p_app0, ↓p_appc, ↓p_appa, ↓p_ext, ↓p_putm, ↓p_put0, ↓p_put1, ↓p_put2, ↓p_put3, ↓stepK_map, ↓posK_map, ↓end_rt, ↓end_nx, cond_true, cond_false, Option.isNone_none, n_add, n_addl, n_ladd, n_mul, n_sub0, n_ss, n_subt, n_sublt, n_lt, n_le, n_eq, n_0lt, n_1le, n_eq0, n_leb, n_geb, n_natAbs, sing_eq, safeB_none, safeB_nil, safeB_some, own_none, own_some, g_addi, g_adds, g_subi, g_muli, wrE, wrEs, wrEo, wrAs, wrSrc, wrP, wrS, wrSs, md, mdS, Tg.slots, Tgs.slots, P.root, small_ofNat, small_neg, pu_non, pu_bl, pu_int, pu_str, pu_tup, pu_fls, puL_nil, puL_con, puL_map, puL_app, puL_enum, isStr_str, isDct_dct, isNon_non, isNon_int, isNon_str, isNon_tup, isNon_lst, setAt0, setAt1, cut_to, cut_from, cut_ft, cut_tol, cut_froml, cut_all, cut_map, ixOk_nat, ixN_nat, ixOk_lit, ixN_lit, ixOk_m1, ixN_m1, List.nil_append, List.append_nil, List.cons_append, hasN, List.length_map, List.length_range, List.length_cons, List.length_nil, Bool.not_true, Bool.not_false, Bool.not_not, Bool.true_and, Bool.and_true, Bool.or_true, Bool.true_or, Bool.false_or, Bool.or_false, Bool.and_self, Bool.not_eq_true', Bool.false_eq_true, decide_true, decide_false, decide_eq_true_eq, decide_eq_false_iff_not, true_and, and_true, implies_true, and_self, ne_eq, not_true_eq_false, not_false_eq_true, false_implies, true_implies, eq_self, forall_const, Nat.reduceBEq, Nat.reduceEqDiff, Nat.reduceLT, Nat.reduceAdd, Nat.reduceSub, Nat.reduceLeDiff, Nat.reducePow, Int.reduceLT, Int.reduceLE, Int.reduceNeg, Int.reduceAdd, Int.reduceSub, Int.reducePow, Int.reduceToNat, Int.toNat_natCast, beq_self_eq_true, Bool.and_eq_true, Bool.or_eq_true]
        rw [decide_eq_true e]
        cases onceB al (m + 1) x
        · rw [brK_false]; rfl
        · rw [brK_true]; rfl
      · rw [decide_eq_false e]
        rfl
theorem l7 {Γ : Fns} (S : Sp14 Γ) {m : Nat} {al told : Wrd} (hm : m ≤ 3) (hp : (al, m + 1, told) ∈ menu) {sx due : Option D} {d : D} (hd : DOk d) {w : Wrd} : Wp (evSs Γ r13_7 [sx, some d, some (.str w), due, none, none, some (.str al), some (.int ((m + 1 : Nat) : Int)), some (.str told), none, none, none, none, none, none, none]) (EndQ f13 fun r _ => r = .bl true) := by
  obtain ⟨m', e, h1, h2, h3⟩ := menu_g hp
  cases e
  have h2 : al.length ≤ 4 := h2
  have h3 : told.length ≤ 27 := h3
  have hcap : cap = 1000000 := rfl
  have hct : told.length ≤ cap := by omega
  have ho := List.all_eq_true.mp once_all _ hp
  unfold r13_7
  simp -failIfUnchanged -implicitDefEqProofs only [↓gK0, ↓gKs, ↓setK0, ↓setKs, ↓setN0, ↓setNs, ↓setM0, ↓setMs, ↓clrK0, ↓clrKs, ↓bK_bl, ↓iK_int, ↓brK_true, ↓brK_false, ↓brK_dec, ↓brK_not, ↓brK_and, ↓w_ok, ↓w_var, ↓w_mv, ↓w_int, ↓w_str, ↓w_bl, ↓w_non, ↓w_neg, ↓w_bin, ↓w_cmp, ↓w_and, ↓w_or, ↓w_not, ↓w_ite, ↓w_tup, ↓w_lst, ↓w_nil, ↓w_con, ↓w_ix, ↓w_eo0, ↓w_eo1, ↓w_sl, ↓w_rev, ↓w_bi, ↓w_bi2, ↓w_bi3, ↓w_lcp, ↓w_cmp2, ↓w_tr1, ↓w_tr2, ↓w_lset, ↓w_sidx, ↓w_dcl, ↓w_dis, ↓w_join, ↓w_get, ↓w_ssn, ↓w_kill, ↓w_ssc, ↓nxt_nx, ↓nxt_rt, ↓nxt_bk, ↓nxt_ct, ↓w_set, ↓tsK0, ↓tsKs, ↓tgKv, ↓tgKt, ↓tupK_t, ↓w_tset, ↓w_aug, ↓gK_v, ↓gK_x, ↓setM_v, ↓setM_x, ↓atK0, ↓atKs, ↓atK0a, ↓atKsa, ↓w_pv, ↓w_px, ↓w_put, ↓lstK_l, ↓w_app, ↓lsK_l, ↓w_ext, ↓popK_appm, ↓popK_app, ↓popK_con, ↓w_pop, ↓w_ex, ↓w_ret, ↓w_retN, ↓w_brk, ↓w_cnt, ↓w_pass, ↓w_if, ↓w_an, ↓w_av, ↓w_ar, ↓takK0, ↓takKd, ↓takKr, ↓givK0, ↓givKd, ↓givKr, ↓w_call, ↓w_se, ↓w_s1, ↓w_s2, ↓w_s3, ↓w_sn, ↓w_for, ↓w_wh, ↓lpq_nx, ↓lpq_ct, ↓lpq_bk, ↓lpq_rt, ↓w_cn, ↓w_cs, ↓w_comp, ↓o_add, ↓o_sub, ↓o_adds, ↓o_addt, ↓o_addl, ↓o_mul, ↓o_muls, ↓o_mull, ↓o_div, ↓o_mod, ↓o_pow, ↓c_eq, ↓c_ne, ↓c_lt, ↓c_le, ↓c_gt, ↓c_ge, ↓c_eqs, ↓c_nes, ↓c_lts, ↓c_gts, ↓c_les, ↓c_ges, ↓c_neb, ↓c_eqb, ↓c_ins, ↓c_isn, ↓c_ntn, ↓t_bl, ↓t_int, ↓t_str, ↓t_non, ↓t_lst, ↓t_tup, ↓ixK_0, ↓ixK_1, ↓ixK_2, ↓ixK_3, ↓ixK_l1, ↓ixK_l2, ↓ixK_l3, ↓ixK_m1, ↓ixK_map, ↓x_str, ↓x_tup, ↓x_lst, ↓x_fls, ↓l_str, ↓l_tup, ↓l_lst, ↓r_str, ↓r_lst, ↓b_lens, ↓b_lenl, ↓b_lent, ↓b_lenf, ↓b_lend, ↓b_abs, ↓b_int, ↓b_intb, ↓b_tupt, ↓b_tupl, ↓b_lstt, ↓b_lstl, ↓b_lstf, ↓b_lstx, ↓s_set, ↓b_sum, ↓b_any, ↓b_all, ↓j_map, ↓i_str, ↓i_lst, ↓i_tup, ↓i_fls, ↓m_min, ↓m_max, ↓m_min3, ↓m_max3, ↓p_appn, ↓p_appl, ↓p_appi, ↓p_apps, ↓p_app0, ↓p_appc, ↓p_appa, ↓p_ext, ↓p_putm, ↓p_put0, ↓p_put1, ↓p_put2, ↓p_put3, ↓stepK_map, ↓posK_map, ↓end_rt, ↓end_nx, cond_true, cond_false, Option.isNone_none, n_add, n_addl, n_ladd, n_mul, n_sub0, n_ss, n_subt, n_sublt, n_lt, n_le, n_eq, n_0lt, n_1le, n_eq0, n_leb, n_geb, n_natAbs, sing_eq, safeB_none, safeB_nil, safeB_some, own_none, own_some, g_addi, g_adds, g_subi, g_muli, wrE, wrEs, wrEo, wrAs, wrSrc, wrP, wrS, wrSs, md, mdS, Tg.slots, Tgs.slots, P.root, small_ofNat, small_neg, pu_non, pu_bl, pu_int, pu_str, pu_tup, pu_fls, puL_nil, puL_con, puL_map, puL_app, puL_enum, isStr_str, isDct_dct, isNon_non, isNon_int, isNon_str, isNon_tup, isNon_lst, setAt0, setAt1, cut_to, cut_from, cut_ft, cut_tol, cut_froml, cut_all, cut_map, ixOk_nat, ixN_nat, ixOk_lit, ixN_lit, ixOk_m1, ixN_m1, List.nil_append, List.append_nil, List.cons_append, hasN, List.length_map, List.length_range, List.length_cons, List.length_nil, Bool.not_true, Bool.not_false, Bool.not_not, Bool.true_and, Bool.and_true, Bool.or_true, Bool.true_or, Bool.false_or, Bool.or_false, Bool.and_self, Bool.not_eq_true', Bool.false_eq_true, decide_true, decide_false, decide_eq_true_eq, decide_eq_false_iff_not, true_and, and_true, implies_true, and_self, ne_eq, not_true_eq_false, not_false_eq_true, false_implies, true_implies, eq_self, forall_const, Nat.reduceBEq, Nat.reduceEqDiff, Nat.reduceLT, Nat.reduceAdd, Nat.reduceSub, Nat.reduceLeDiff, Nat.reducePow, Int.reduceLT, Int.reduceLE, Int.reduceNeg, Int.reduceAdd, Int.reduceSub, Int.reducePow, Int.reduceToNat, Int.toNat_natCast, beq_self_eq_true, Bool.and_eq_true, Bool.or_eq_true]
  refine ⟨hct, fun hl => ?_, fun _ => l8 S hm hp hd⟩
  refine wpf_mono (S.once _ _ _ (by omega) (by omega) (by omega)) ?_
  rintro r rs ⟨rfl, rfl⟩
  have : onceB al (m + 1) told = true := by
    rw [decide_eq_false (show ¬ told.length < m + 1 by omega)] at ho
    simpa using ho
  rw [this]
  simp -failIfUnchanged -implicitDefEqProofs only [↓gK0, ↓gKs, ↓setK0, ↓setKs, ↓setN0, ↓setNs, ↓setM0, ↓setMs, ↓clrK0, ↓clrKs, ↓bK_bl, ↓iK_int, ↓brK_true, ↓brK_false, ↓brK_dec, ↓brK_not, ↓brK_and, ↓w_ok, ↓w_var, ↓w_mv, ↓w_int, ↓w_str, ↓w_bl, ↓w_non, ↓w_neg, ↓w_bin, ↓w_cmp, ↓w_and, ↓w_or, ↓w_not, ↓w_ite, ↓w_tup, ↓w_lst, ↓w_nil, ↓w_con, ↓w_ix, ↓w_eo0, ↓w_eo1, ↓w_sl, ↓w_rev, ↓w_bi, ↓w_bi2, ↓w_bi3, ↓w_lcp, ↓w_cmp2, ↓w_tr1, ↓w_tr2, ↓w_lset, ↓w_sidx, ↓w_dcl, ↓w_dis, ↓w_join, ↓w_get, ↓w_ssn, ↓w_kill, ↓w_ssc, ↓nxt_nx, ↓nxt_rt, ↓nxt_bk, ↓nxt_ct, ↓w_set, ↓tsK0, ↓tsKs, ↓tgKv, ↓tgKt, ↓tupK_t, ↓w_tset, ↓w_aug, ↓gK_v, ↓gK_x, ↓setM_v, ↓setM_x, ↓atK0, ↓atKs, ↓atK0a, ↓atKsa, ↓w_pv, ↓w_px, ↓w_put, ↓lstK_l, ↓w_app, ↓lsK_l, ↓w_ext, ↓popK_appm, ↓popK_app, ↓popK_con, ↓w_pop, ↓w_ex, ↓w_ret, ↓w_retN, ↓w_brk, ↓w_cnt, ↓w_pass, ↓w_if, ↓w_an, ↓w_av, ↓w_ar, ↓takK0, ↓takKd, ↓takKr, ↓givK0, ↓givKd, ↓givKr, ↓w_call, ↓w_se, ↓w_s1, ↓w_s2, ↓w_s3, ↓w_sn, ↓w_for, ↓w_wh, ↓lpq_nx, ↓lpq_ct, ↓lpq_bk, ↓lpq_rt, ↓w_cn, ↓w_cs, ↓w_comp, ↓o_add, ↓o_sub, ↓o_adds, ↓o_addt, ↓o_addl, ↓o_mul, ↓o_muls, ↓o_mull, ↓o_div, ↓o_mod, ↓o_pow, ↓c_eq, ↓c_ne, ↓c_lt, ↓c_le, ↓c_gt, ↓c_ge, ↓c_eqs, ↓c_nes, ↓c_lts, ↓c_gts, ↓c_les, ↓c_ges, ↓c_neb, ↓c_eqb, ↓c_ins, ↓c_isn, ↓c_ntn, ↓t_bl, ↓t_int, ↓t_str, ↓t_non, ↓t_lst, ↓t_tup, ↓ixK_0, ↓ixK_1, ↓ixK_2, ↓ixK_3, ↓ixK_l1, ↓ixK_l2, ↓ixK_l3, ↓ixK_m1, ↓ixK_map, ↓x_str, ↓x_tup, ↓x_lst, ↓x_fls, ↓l_str, ↓l_tup, ↓l_lst, ↓r_str, ↓r_lst, ↓b_lens, ↓b_lenl, ↓b_lent, ↓b_lenf, ↓b_lend, ↓b_abs, ↓b_int, ↓b_intb, ↓b_tupt, ↓b_tupl, ↓b_lstt, ↓b_lstl, ↓b_lstf, ↓b_lstx, ↓s_set, ↓b_sum, ↓b_any, ↓b_all, ↓j_map, ↓i_str, ↓i_lst, ↓i_tup, ↓i_fls, ↓m_min, ↓m_max, ↓m_min3, ↓m_max3, ↓p_appn, ↓p_appl, ↓p_appi, ↓p_apps, ↓p_app0, ↓p_appc, ↓p_appa, ↓p_ext, ↓p_putm, ↓p_put0, ↓p_put1, ↓p_put2, ↓p_put3, ↓stepK_map, ↓posK_map, ↓end_rt, ↓end_nx, cond_true, cond_false, Option.isNone_none, n_add, n_addl, n_ladd, n_mul, n_sub0, n_ss, n_subt, n_sublt, n_lt, n_le, n_eq, n_0lt, n_1le, n_eq0, n_leb, n_geb, n_natAbs, sing_eq, safeB_none, safeB_nil, safeB_some, own_none, own_some, g_addi, g_adds, g_subi, g_muli, wrE, wrEs, wrEo, wrAs, wrSrc, wrP, wrS, wrSs, md, mdS, Tg.slots, Tgs.slots, P.root, small_ofNat, small_neg, pu_non, pu_bl, pu_int, pu_str, pu_tup, pu_fls, puL_nil, puL_con, puL_map, puL_app, puL_enum, isStr_str, isDct_dct, isNon_non, isNon_int, isNon_str, isNon_tup, isNon_lst, setAt0, setAt1, cut_to, cut_from, cut_ft, cut_tol, cut_froml, cut_all, cut_map, ixOk_nat, ixN_nat, ixOk_lit, ixN_lit, ixOk_m1, ixN_m1, List.nil_append, List.append_nil, List.cons_append, hasN, List.length_map, List.length_range, List.length_cons, List.length_nil, Bool.not_true, Bool.not_false, Bool.not_not, Bool.true_and, Bool.and_true, Bool.or_true, Bool.true_or, Bool.false_or, Bool.or_false, Bool.and_self, Bool.not_eq_true', Bool.false_eq_true, decide_true, decide_false, decide_eq_true_eq, decide_eq_false_iff_not, true_and, and_true, implies_true, and_self, ne_eq, not_true_eq_false, not_false_eq_true, false_implies, true_implies, eq_self, forall_const, Nat.reduceBEq, Nat.reduceEqDiff, Nat.reduceLT, Nat.reduceAdd, Nat.reduceSub, Nat.reduceLeDiff, Nat.reducePow, Int.reduceLT, Int.reduceLE, Int.reduceNeg, Int.reduceAdd, Int.reduceSub, Int.reducePow, Int.reduceToNat, Int.toNat_natCast, beq_self_eq_true, Bool.and_eq_true, Bool.or_eq_true]
  exact l8 S hm hp hd
/-! the law -/
def menuE (p : Wrd × Nat × Wrd) : D := .tup [.str p.1, .int (p.2.1 : Nat)]
set_option maxHeartbeats 2000000 in
theorem law_c {Γ : Fns} (S : Sp14 Γ) {ns : List Int} : Wp (evSs Γ c13 (some (.fls (ns.map D.int)) :: List.replicate 15 none)) (EndQ f13 fun r _ => r = .bl true) := by
  have hcap : cap = 1000000 := rfl
  rw [c13_eq]
  simp only [List.replicate]
  simp -failIfUnchanged -implicitDefEqProofs only [↓gK0, ↓gKs, ↓setK0, ↓setKs, ↓setN0, ↓setNs, ↓setM0, ↓setMs, ↓clrK0, ↓clrKs, ↓bK_bl, ↓iK_int, ↓brK_true, ↓brK_false, ↓brK_dec, ↓brK_not, ↓brK_and, ↓w_ok, ↓w_var, ↓w_mv, ↓w_int, ↓w_str, ↓w_bl, ↓w_non, ↓w_neg, ↓w_bin, ↓w_cmp, ↓w_and, ↓w_or, ↓w_not, ↓w_ite, ↓w_tup, ↓w_lst, ↓w_nil, ↓w_con, ↓w_ix, ↓w_eo0, ↓w_eo1, ↓w_sl, ↓w_rev, ↓w_bi, ↓w_bi2, ↓w_bi3, ↓w_lcp, ↓w_cmp2, ↓w_tr1, ↓w_tr2, ↓w_lset, ↓w_sidx, ↓w_dcl, ↓w_dis, ↓w_join, ↓w_get, ↓w_ssn, ↓w_kill, ↓w_ssc, ↓nxt_nx, ↓nxt_rt, ↓nxt_bk, ↓nxt_ct, ↓w_set, ↓tsK0, ↓tsKs, ↓tgKv, ↓tgKt, ↓tupK_t, ↓w_tset, ↓w_aug, ↓gK_v, ↓gK_x, ↓setM_v, ↓setM_x, ↓atK0, ↓atKs, ↓atK0a, ↓atKsa, ↓w_pv, ↓w_px, ↓w_put, ↓lstK_l, ↓w_app, ↓lsK_l, ↓w_ext, ↓popK_appm, ↓popK_app, ↓popK_con, ↓w_pop, ↓w_ex, ↓w_ret, ↓w_retN, ↓w_brk, ↓w_cnt, ↓w_pass, ↓w_if, ↓w_an, ↓w_av, ↓w_ar, ↓takK0, ↓takKd, ↓takKr, ↓givK0, ↓givKd, ↓givKr, ↓w_call, ↓w_se, ↓w_s1, ↓w_s2, ↓w_s3, ↓w_sn, ↓w_for, ↓w_wh, ↓lpq_nx, ↓lpq_ct, ↓lpq_bk, ↓lpq_rt, ↓w_cn, ↓w_cs, ↓w_comp, ↓o_add, ↓o_sub, ↓o_adds, ↓o_addt, ↓o_addl, ↓o_mul, ↓o_muls, ↓o_mull, ↓o_div, ↓o_mod, ↓o_pow, ↓c_eq, ↓c_ne, ↓c_lt, ↓c_le, ↓c_gt, ↓c_ge, ↓c_eqs, ↓c_nes, ↓c_lts, ↓c_gts, ↓c_les, ↓c_ges, ↓c_neb, ↓c_eqb, ↓c_ins, ↓c_isn, ↓c_ntn, ↓t_bl, ↓t_int, ↓t_str, ↓t_non, ↓t_lst, ↓t_tup, ↓ixK_0, ↓ixK_1, ↓ixK_2, ↓ixK_3, ↓ixK_l1, ↓ixK_l2, ↓ixK_l3, ↓ixK_m1, ↓ixK_map, ↓x_str, ↓x_tup, ↓x_lst, ↓x_fls, ↓l_str, ↓l_tup, ↓l_lst, ↓r_str, ↓r_lst, ↓b_lens, ↓b_lenl, ↓b_lent, ↓b_lenf, ↓b_lend, ↓b_abs, ↓b_int, ↓b_intb, ↓b_tupt, ↓b_tupl, ↓b_lstt, ↓b_lstl, ↓b_lstf, ↓b_lstx, ↓s_set, ↓b_sum, ↓b_any, ↓b_all, ↓j_map, ↓i_str, ↓i_lst, ↓i_tup, ↓i_fls, ↓m_min, ↓m_max, ↓m_min3, ↓m_max3, ↓p_appn, ↓p_appl, ↓p_appi, ↓p_apps, ↓p_app0, ↓p_appc, ↓p_appa, ↓p_ext, ↓p_putm, ↓p_put0, ↓p_put1, ↓p_put2, ↓p_put3, ↓stepK_map, ↓posK_map, ↓end_rt, ↓end_nx, cond_true, cond_false, Option.isNone_none, n_add, n_addl, n_ladd, n_mul, n_sub0, n_ss, n_subt, n_sublt, n_lt, n_le, n_eq, n_0lt, n_1le, n_eq0, n_leb, n_geb, n_natAbs, sing_eq, safeB_none, safeB_nil, safeB_some, own_none, own_some, g_addi, g_adds, g_subi, g_muli, wrE, wrEs, wrEo, wrAs, wrSrc, wrP, wrS, wrSs, md, mdS, Tg.slots, Tgs.slots, P.root, small_ofNat, small_neg, pu_non, pu_bl, pu_int, pu_str, pu_tup, pu_fls, puL_nil, puL_con, puL_map, puL_app, puL_enum, isStr_str, isDct_dct, isNon_non, isNon_int, isNon_str, isNon_tup, isNon_lst, setAt0, setAt1, cut_to, cut_from, cut_ft, cut_tol, cut_froml, cut_all, cut_map, ixOk_nat, ixN_nat, ixOk_lit, ixN_lit, ixOk_m1, ixN_m1, List.nil_append, List.append_nil, List.cons_append, hasN, List.length_map, List.length_range, List.length_cons, List.length_nil, Bool.not_true, Bool.not_false, Bool.not_not, Bool.true_and, Bool.and_true, Bool.or_true, Bool.true_or, Bool.false_or, Bool.or_false, Bool.and_self, Bool.not_eq_true', Bool.false_eq_true, decide_true, decide_false, decide_eq_true_eq, decide_eq_false_iff_not, true_and, and_true, implies_true, and_self, ne_eq, not_true_eq_false, not_false_eq_true, false_implies, true_implies, eq_self, forall_const, Nat.reduceBEq, Nat.reduceEqDiff, Nat.reduceLT, Nat.reduceAdd, Nat.reduceSub, Nat.reduceLeDiff, Nat.reducePow, Int.reduceLT, Int.reduceLE, Int.reduceNeg, Int.reduceAdd, Int.reduceSub, Int.reducePow, Int.reduceToNat, Int.toNat_natCast, beq_self_eq_true, Bool.and_eq_true, Bool.or_eq_true]
  refine wpf_mono (S.beg ns) ?_
  rintro d rs ⟨rfl, hd⟩
  simp -failIfUnchanged -implicitDefEqProofs only [↓gK0, ↓gKs, ↓setK0, ↓setKs, ↓setN0, ↓setNs, ↓setM0, ↓setMs, ↓clrK0, ↓clrKs, ↓bK_bl, ↓iK_int, ↓brK_true, ↓brK_false, ↓brK_dec, ↓brK_not, ↓brK_and, ↓w_ok, ↓w_var, ↓w_mv, ↓w_int, ↓w_str, ↓w_bl, ↓w_non, ↓w_neg, ↓w_bin, ↓w_cmp, ↓w_and, ↓w_or, ↓w_not, ↓w_ite, ↓w_tup, ↓w_lst, ↓w_nil, ↓w_con, ↓w_ix, ↓w_eo0, ↓w_eo1, ↓w_sl, ↓w_rev, ↓w_bi, ↓w_bi2, ↓w_bi3, ↓w_lcp, ↓w_cmp2, ↓w_tr1, ↓w_tr2, ↓w_lset, ↓w_sidx, ↓w_dcl, ↓w_dis, ↓w_join, ↓w_get, ↓w_ssn, ↓w_kill, ↓w_ssc, ↓nxt_nx, ↓nxt_rt, ↓nxt_bk, ↓nxt_ct, ↓w_set, ↓tsK0, ↓tsKs, ↓tgKv, ↓tgKt, ↓tupK_t, ↓w_tset, ↓w_aug, ↓gK_v, ↓gK_x, ↓setM_v, ↓setM_x, ↓atK0, ↓atKs, ↓atK0a, ↓atKsa, ↓w_pv, ↓w_px, ↓w_put, ↓lstK_l, ↓w_app, ↓lsK_l, ↓w_ext, ↓popK_appm, ↓popK_app, ↓popK_con, ↓w_pop, ↓w_ex, ↓w_ret, ↓w_retN, ↓w_brk, ↓w_cnt, ↓w_pass, ↓w_if, ↓w_an, ↓w_av, ↓w_ar, ↓takK0, ↓takKd, ↓takKr, ↓givK0, ↓givKd, ↓givKr, ↓w_call, ↓w_se, ↓w_s1, ↓w_s2, ↓w_s3, ↓w_sn, ↓w_for, ↓w_wh, ↓lpq_nx, ↓lpq_ct, ↓lpq_bk, ↓lpq_rt, ↓w_cn, ↓w_cs, ↓w_comp, ↓o_add, ↓o_sub, ↓o_adds, ↓o_addt, ↓o_addl, ↓o_mul, ↓o_muls, ↓o_mull, ↓o_div, ↓o_mod, ↓o_pow, ↓c_eq, ↓c_ne, ↓c_lt, ↓c_le, ↓c_gt, ↓c_ge, ↓c_eqs, ↓c_nes, ↓c_lts, ↓c_gts, ↓c_les, ↓c_ges, ↓c_neb, ↓c_eqb, ↓c_ins, ↓c_isn, ↓c_ntn, ↓t_bl, ↓t_int, ↓t_str, ↓t_non, ↓t_lst, ↓t_tup, ↓ixK_0, ↓ixK_1, ↓ixK_2, ↓ixK_3, ↓ixK_l1, ↓ixK_l2, ↓ixK_l3, ↓ixK_m1, ↓ixK_map, ↓x_str, ↓x_tup, ↓x_lst, ↓x_fls, ↓l_str, ↓l_tup, ↓l_lst, ↓r_str, ↓r_lst, ↓b_lens, ↓b_lenl, ↓b_lent, ↓b_lenf, ↓b_lend, ↓b_abs, ↓b_int, ↓b_intb, ↓b_tupt, ↓b_tupl, ↓b_lstt, ↓b_lstl, ↓b_lstf, ↓b_lstx, ↓s_set, ↓b_sum, ↓b_any, ↓b_all, ↓j_map, ↓i_str, ↓i_lst, ↓i_tup, ↓i_fls, ↓m_min, ↓m_max, ↓m_min3, ↓m_max3, ↓p_appn, ↓p_appl, ↓p_appi, ↓p_apps, ↓p_app0, ↓p_appc, ↓p_appa, ↓p_ext, ↓p_putm, ↓p_put0, ↓p_put1, ↓p_put2, ↓p_put3, ↓stepK_map, ↓posK_map, ↓end_rt, ↓end_nx, cond_true, cond_false, Option.isNone_none, n_add, n_addl, n_ladd, n_mul, n_sub0, n_ss, n_subt, n_sublt, n_lt, n_le, n_eq, n_0lt, n_1le, n_eq0, n_leb, n_geb, n_natAbs, sing_eq, safeB_none, safeB_nil, safeB_some, own_none, own_some, g_addi, g_adds, g_subi, g_muli, wrE, wrEs, wrEo, wrAs, wrSrc, wrP, wrS, wrSs, md, mdS, Tg.slots, Tgs.slots, P.root, small_ofNat, small_neg, pu_non, pu_bl, pu_int, pu_str, pu_tup, pu_fls, puL_nil, puL_con, puL_map, puL_app, puL_enum, isStr_str, isDct_dct, isNon_non, isNon_int, isNon_str, isNon_tup, isNon_lst, setAt0, setAt1, cut_to, cut_from, cut_ft, cut_tol, cut_froml, cut_all, cut_map, ixOk_nat, ixN_nat, ixOk_lit, ixN_lit, ixOk_m1, ixN_m1, List.nil_append, List.append_nil, List.cons_append, hasN, List.length_map, List.length_range, List.length_cons, List.length_nil, Bool.not_true, Bool.not_false, Bool.not_not, Bool.true_and, Bool.and_true, Bool.or_true, Bool.true_or, Bool.false_or, Bool.or_false, Bool.and_self, Bool.not_eq_true', Bool.false_eq_true, decide_true, decide_false, decide_eq_true_eq, decide_eq_false_iff_not, true_and, and_true, implies_true, and_self, ne_eq, not_true_eq_false, not_false_eq_true, false_implies, true_implies, eq_self, forall_const, Nat.reduceBEq, Nat.reduceEqDiff, Nat.reduceLT, Nat.reduceAdd, Nat.reduceSub, Nat.reduceLeDiff, Nat.reducePow, Int.reduceLT, Int.reduceLE, Int.reduceNeg, Int.reduceAdd, Int.reduceSub, Int.reducePow, Int.reduceToNat, Int.toNat_natCast, beq_self_eq_true, Bool.and_eq_true, Bool.or_eq_true]
  refine wpf_mono (S.tk _ _ (by omega) (by omega) hd) ?_
  rintro r rs ⟨k, d1, rfl, hk, hd1, rfl⟩
  simp -failIfUnchanged -implicitDefEqProofs only [↓gK0, ↓gKs, ↓setK0, ↓setKs, ↓setN0, ↓setNs, ↓setM0, ↓setMs, ↓clrK0, ↓clrKs, ↓bK_bl, ↓iK_int, ↓brK_true, ↓brK_false, ↓brK_dec, ↓brK_not, ↓brK_and, ↓w_ok, ↓w_var, ↓w_mv, ↓w_int, ↓w_str, ↓w_bl, ↓w_non, ↓w_neg, ↓w_bin, ↓w_cmp, ↓w_and, ↓w_or, ↓w_not, ↓w_ite, ↓w_tup, ↓w_lst, ↓w_nil, ↓w_con, ↓w_ix, ↓w_eo0, ↓w_eo1, ↓w_sl, ↓w_rev, ↓w_bi, ↓w_bi2, ↓w_bi3, ↓w_lcp, ↓w_cmp2, ↓w_tr1, ↓w_tr2, ↓w_lset, ↓w_sidx, ↓w_dcl, ↓w_dis, ↓w_join, ↓w_get, ↓w_ssn, ↓w_kill, ↓w_ssc, ↓nxt_nx, ↓nxt_rt, ↓nxt_bk, ↓nxt_ct, ↓w_set, ↓tsK0, ↓tsKs, ↓tgKv, ↓tgKt, ↓tupK_t, ↓w_tset, ↓w_aug, ↓gK_v, ↓gK_x, ↓setM_v, ↓setM_x, ↓atK0, ↓atKs, ↓atK0a, ↓atKsa, ↓w_pv, ↓w_px, ↓w_put, ↓lstK_l, ↓w_app, ↓lsK_l, ↓w_ext, ↓popK_appm, ↓popK_app, ↓popK_con, ↓w_pop, ↓w_ex, ↓w_ret, ↓w_retN, ↓w_brk, ↓w_cnt, ↓w_pass, ↓w_if, ↓w_an, ↓w_av, ↓w_ar, ↓takK0, ↓takKd, ↓takKr, ↓givK0, ↓givKd, ↓givKr, ↓w_call, ↓w_se, ↓w_s1, ↓w_s2, ↓w_s3, ↓w_sn, ↓w_for, ↓w_wh, ↓lpq_nx, ↓lpq_ct, ↓lpq_bk, ↓lpq_rt, ↓w_cn, ↓w_cs, ↓w_comp, ↓o_add, ↓o_sub, ↓o_adds, ↓o_addt, ↓o_addl, ↓o_mul, ↓o_muls, ↓o_mull, ↓o_div, ↓o_mod, ↓o_pow, ↓c_eq, ↓c_ne, ↓c_lt, ↓c_le, ↓c_gt, ↓c_ge, ↓c_eqs, ↓c_nes, ↓c_lts, ↓c_gts, ↓c_les, ↓c_ges, ↓c_neb, ↓c_eqb, ↓c_ins, ↓c_isn, ↓c_ntn, ↓t_bl, ↓t_int, ↓t_str, ↓t_non, ↓t_lst, ↓t_tup, ↓ixK_0, ↓ixK_1, ↓ixK_2, ↓ixK_3, ↓ixK_l1, ↓ixK_l2, ↓ixK_l3, ↓ixK_m1, ↓ixK_map, ↓x_str, ↓x_tup, ↓x_lst, ↓x_fls, ↓l_str, ↓l_tup, ↓l_lst, ↓r_str, ↓r_lst, ↓b_lens, ↓b_lenl, ↓b_lent, ↓b_lenf, ↓b_lend, ↓b_abs, ↓b_int, ↓b_intb, ↓b_tupt, ↓b_tupl, ↓b_lstt, ↓b_lstl, ↓b_lstf, ↓b_lstx, ↓s_set, ↓b_sum, ↓b_any, ↓b_all, ↓j_map, ↓i_str, ↓i_lst, ↓i_tup, ↓i_fls, ↓m_min, ↓m_max, ↓m_min3, ↓m_max3, ↓p_appn, ↓p_appl, ↓p_appi, ↓p_apps, ↓p_app0, ↓p_appc, ↓p_appa, ↓p_ext, ↓p_putm, ↓p_put0, ↓p_put1, ↓p_put2, ↓p_put3, ↓stepK_map, ↓posK_map, ↓end_rt, ↓end_nx, cond_true, cond_false, Option.isNone_none, n_add, n_addl, n_ladd, n_mul, n_sub0, n_ss, n_subt, n_sublt, n_lt, n_le, n_eq, n_0lt, n_1le, n_eq0, n_leb, n_geb, n_natAbs, sing_eq, safeB_none, safeB_nil, safeB_some, own_none, own_some, g_addi, g_adds, g_subi, g_muli, wrE, wrEs, wrEo, wrAs, wrSrc, wrP, wrS, wrSs, md, mdS, Tg.slots, Tgs.slots, P.root, small_ofNat, small_neg, pu_non, pu_bl, pu_int, pu_str, pu_tup, pu_fls, puL_nil, puL_con, puL_map, puL_app, puL_enum, isStr_str, isDct_dct, isNon_non, isNon_int, isNon_str, isNon_tup, isNon_lst, setAt0, setAt1, cut_to, cut_from, cut_ft, cut_tol, cut_froml, cut_all, cut_map, ixOk_nat, ixN_nat, ixOk_lit, ixN_lit, ixOk_m1, ixN_m1, List.nil_append, List.append_nil, List.cons_append, hasN, List.length_map, List.length_range, List.length_cons, List.length_nil, Bool.not_true, Bool.not_false, Bool.not_not, Bool.true_and, Bool.and_true, Bool.or_true, Bool.true_or, Bool.false_or, Bool.or_false, Bool.and_self, Bool.not_eq_true', Bool.false_eq_true, decide_true, decide_false, decide_eq_true_eq, decide_eq_false_iff_not, true_and, and_true, implies_true, and_self, ne_eq, not_true_eq_false, not_false_eq_true, false_implies, true_implies, eq_self, forall_const, Nat.reduceBEq, Nat.reduceEqDiff, Nat.reduceLT, Nat.reduceAdd, Nat.reduceSub, Nat.reduceLeDiff, Nat.reducePow, Int.reduceLT, Int.reduceLE, Int.reduceNeg, Int.reduceAdd, Int.reduceSub, Int.reducePow, Int.reduceToNat, Int.toNat_natCast, beq_self_eq_true, Bool.and_eq_true, Bool.or_eq_true]
  refine ⟨by omega, comp_charsO S.chr (by decide) rfl (by simp) hd1 (by simp [cap]; omega) fun w d2 hl _ hd2 => ?_⟩
  simp at hl
  simp -failIfUnchanged -implicitDefEqProofs only [flat_sing, ↓gK0, ↓gKs, ↓setK0, ↓setKs, ↓setN0, ↓setNs, ↓setM0, ↓setMs, ↓clrK0, ↓clrKs, ↓bK_bl, ↓iK_int, ↓brK_true, ↓brK_false, ↓brK_dec, ↓brK_not, ↓brK_and, ↓w_ok, ↓w_var, ↓w_mv, ↓w_int, ↓w_str, ↓w_bl, ↓w_non, ↓w_neg, ↓w_bin, ↓w_cmp, ↓w_and, ↓w_or, ↓w_not, ↓w_ite, ↓w_tup, ↓w_lst, ↓w_nil, ↓w_con, ↓w_ix, ↓w_eo0, ↓w_eo1, ↓w_sl, ↓w_rev, ↓w_bi, ↓w_bi2, ↓w_bi3, ↓w_lcp, ↓w_cmp2, ↓w_tr1, ↓w_tr2, ↓w_lset, ↓w_sidx, ↓w_dcl, ↓w_dis, ↓w_join, ↓w_get, ↓w_ssn, ↓w_kill, ↓w_ssc, ↓nxt_nx, ↓nxt_rt, ↓nxt_bk, ↓nxt_ct, ↓w_set, ↓tsK0, ↓tsKs, ↓tgKv, ↓tgKt, ↓tupK_t, ↓w_tset, ↓w_aug, ↓gK_v, ↓gK_x, ↓setM_v, ↓setM_x, ↓atK0, ↓atKs, ↓atK0a, ↓atKsa, ↓w_pv, ↓w_px, ↓w_put, ↓lstK_l, ↓w_app, ↓lsK_l, ↓w_ext, ↓popK_appm, ↓popK_app, ↓popK_con, ↓w_pop, ↓w_ex, ↓w_ret, ↓w_retN, ↓w_brk, ↓w_cnt, ↓w_pass, ↓w_if, ↓w_an, ↓w_av, ↓w_ar, ↓takK0, ↓takKd, ↓takKr, ↓givK0, ↓givKd, ↓givKr, ↓w_call, ↓w_se, ↓w_s1, ↓w_s2, ↓w_s3, ↓w_sn, ↓w_for, ↓w_wh, ↓lpq_nx, ↓lpq_ct, ↓lpq_bk, ↓lpq_rt, ↓w_cn, ↓w_cs, ↓w_comp, ↓o_add, ↓o_sub, ↓o_adds, ↓o_addt, ↓o_addl, ↓o_mul, ↓o_muls, ↓o_mull, ↓o_div, ↓o_mod, ↓o_pow, ↓c_eq, ↓c_ne, ↓c_lt, ↓c_le, ↓c_gt, ↓c_ge, ↓c_eqs, ↓c_nes, ↓c_lts, ↓c_gts, ↓c_les, ↓c_ges, ↓c_neb, ↓c_eqb, ↓c_ins, ↓c_isn, ↓c_ntn, ↓t_bl, ↓t_int, ↓t_str, ↓t_non, ↓t_lst, ↓t_tup, ↓ixK_0, ↓ixK_1, ↓ixK_2, ↓ixK_3, ↓ixK_l1, ↓ixK_l2, ↓ixK_l3, ↓ixK_m1, ↓ixK_map, ↓x_str, ↓x_tup, ↓x_lst, ↓x_fls, ↓l_str, ↓l_tup, ↓l_lst, ↓r_str, ↓r_lst, ↓b_lens, ↓b_lenl, ↓b_lent, ↓b_lenf, ↓b_lend, ↓b_abs, ↓b_int, ↓b_intb, ↓b_tupt, ↓b_tupl, ↓b_lstt, ↓b_lstl, ↓b_lstf, ↓b_lstx, ↓s_set, ↓b_sum, ↓b_any, ↓b_all, ↓j_map, ↓i_str, ↓i_lst, ↓i_tup, ↓i_fls, ↓m_min, ↓m_max, ↓m_min3, ↓m_max3, ↓p_appn, ↓p_appl, ↓p_appi, ↓p_apps, ↓p_app0, ↓p_appc, ↓p_appa, ↓p_ext, ↓p_putm, ↓p_put0, ↓p_put1, ↓p_put2, ↓p_put3, ↓stepK_map, ↓posK_map, ↓end_rt, ↓end_nx, cond_true, cond_false, Option.isNone_none, n_add, n_addl, n_ladd, n_mul, n_sub0, n_ss, n_subt, n_sublt, n_lt, n_le, n_eq, n_0lt, n_1le, n_eq0, n_leb, n_geb, n_natAbs, sing_eq, safeB_none, safeB_nil, safeB_some, own_none, own_some, g_addi, g_adds, g_subi, g_muli, wrE, wrEs, wrEo, wrAs, wrSrc, wrP, wrS, wrSs, md, mdS, Tg.slots, Tgs.slots, P.root, small_ofNat, small_neg, pu_non, pu_bl, pu_int, pu_str, pu_tup, pu_fls, puL_nil, puL_con, puL_map, puL_app, puL_enum, isStr_str, isDct_dct, isNon_non, isNon_int, isNon_str, isNon_tup, isNon_lst, setAt0, setAt1, cut_to, cut_from, cut_ft, cut_tol, cut_froml, cut_all, cut_map, ixOk_nat, ixN_nat, ixOk_lit, ixN_lit, ixOk_m1, ixN_m1, List.nil_append, List.append_nil, List.cons_append, hasN, List.length_map, List.length_range, List.length_cons, List.length_nil, Bool.not_true, Bool.not_false, Bool.not_not, Bool.true_and, Bool.and_true, Bool.or_true, Bool.true_or, Bool.false_or, Bool.or_false, Bool.and_self, Bool.not_eq_true', Bool.false_eq_true, decide_true, decide_false, decide_eq_true_eq, decide_eq_false_iff_not, true_and, and_true, implies_true, and_self, ne_eq, not_true_eq_false, not_false_eq_true, false_implies, true_implies, eq_self, forall_const, Nat.reduceBEq, Nat.reduceEqDiff, Nat.reduceLT, Nat.reduceAdd, Nat.reduceSub, Nat.reduceLeDiff, Nat.reducePow, Int.reduceLT, Int.reduceLE, Int.reduceNeg, Int.reduceAdd, Int.reduceSub, Int.reducePow, Int.reduceToNat, Int.toNat_natCast, beq_self_eq_true, Bool.and_eq_true, Bool.or_eq_true]
  have hw : w.length ≤ 12 := by omega
  have hc : w.length ≤ cap := by omega
  generalize some (D.fls (ns.map D.int)) = sx
  refine ⟨by omega, hc, by omega, for_range (fun a ρ => ∃ o : Option (Nat × Nat), ρ = [sx, some d2, some (.str w), some (sqD o), none, none, none, none, none, none, none, none, none, none, none, none] ∧ (o = none → ∀ b, b < a → ∀ s, ¬ sqOk w b s) ∧ ∀ b s, o = some (b, s) → Fst2 w (some (b, s))) ⟨none, rfl, fun _ b h => by omega, fun b s h => nomatch h⟩ ?_ ?_⟩
  rotate_left
  · rintro a ha ρ ⟨o, rfl, h1, h2⟩
    simp -failIfUnchanged -implicitDefEqProofs only [↓gK0, ↓gKs, ↓setK0, ↓setKs, ↓setN0, ↓setNs, ↓setM0, ↓setMs, ↓clrK0, ↓clrKs, ↓bK_bl, ↓iK_int, ↓brK_true, ↓brK_false, ↓brK_dec, ↓brK_not, ↓brK_and, ↓w_ok, ↓w_var, ↓w_mv, ↓w_int, ↓w_str, ↓w_bl, ↓w_non, ↓w_neg, ↓w_bin, ↓w_cmp, ↓w_and, ↓w_or, ↓w_not, ↓w_ite, ↓w_tup, ↓w_lst, ↓w_nil, ↓w_con, ↓w_ix, ↓w_eo0, ↓w_eo1, ↓w_sl, ↓w_rev, ↓w_bi, ↓w_bi2, ↓w_bi3, ↓w_lcp, ↓w_cmp2, ↓w_tr1, ↓w_tr2, ↓w_lset, ↓w_sidx, ↓w_dcl, ↓w_dis, ↓w_join, ↓w_get, ↓w_ssn, ↓w_kill, ↓w_ssc, ↓nxt_nx, ↓nxt_rt, ↓nxt_bk, ↓nxt_ct, ↓w_set, ↓tsK0, ↓tsKs, ↓tgKv, ↓tgKt, ↓tupK_t, ↓w_tset, ↓w_aug, ↓gK_v, ↓gK_x, ↓setM_v, ↓setM_x, ↓atK0, ↓atKs, ↓atK0a, ↓atKsa, ↓w_pv, ↓w_px, ↓w_put, ↓lstK_l, ↓w_app, ↓lsK_l, ↓w_ext, ↓popK_appm, ↓popK_app, ↓popK_con, ↓w_pop, ↓w_ex, ↓w_ret, ↓w_retN, ↓w_brk, ↓w_cnt, ↓w_pass, ↓w_if, ↓w_an, ↓w_av, ↓w_ar, ↓takK0, ↓takKd, ↓takKr, ↓givK0, ↓givKd, ↓givKr, ↓w_call, ↓w_se, ↓w_s1, ↓w_s2, ↓w_s3, ↓w_sn, ↓w_for, ↓w_wh, ↓lpq_nx, ↓lpq_ct, ↓lpq_bk, ↓lpq_rt, ↓w_cn, ↓w_cs, ↓w_comp, ↓o_add, ↓o_sub, ↓o_adds, ↓o_addt, ↓o_addl, ↓o_mul, ↓o_muls, ↓o_mull, ↓o_div, ↓o_mod, ↓o_pow, ↓c_eq, ↓c_ne, ↓c_lt, ↓c_le, ↓c_gt, ↓c_ge, ↓c_eqs, ↓c_nes, ↓c_lts, ↓c_gts, ↓c_les, ↓c_ges, ↓c_neb, ↓c_eqb, ↓c_ins, ↓c_isn, ↓c_ntn, ↓t_bl, ↓t_int, ↓t_str, ↓t_non, ↓t_lst, ↓t_tup, ↓ixK_0, ↓ixK_1, ↓ixK_2, ↓ixK_3, ↓ixK_l1, ↓ixK_l2, ↓ixK_l3, ↓ixK_m1, ↓ixK_map, ↓x_str, ↓x_tup, ↓x_lst, ↓x_fls, ↓l_str, ↓l_tup, ↓l_lst, ↓r_str, ↓r_lst, ↓b_lens, ↓b_lenl, ↓b_lent, ↓b_lenf, ↓b_lend, ↓b_abs, ↓b_int, ↓b_intb, ↓b_tupt, ↓b_tupl, ↓b_lstt, ↓b_lstl, ↓b_lstf, ↓b_lstx, ↓s_set, ↓b_sum, ↓b_any, ↓b_all, ↓j_map, ↓i_str, ↓i_lst, ↓i_tup, ↓i_fls, ↓m_min, ↓m_max, ↓m_min3, ↓m_max3, ↓p_appn, ↓p_appl, ↓p_appi, ↓p_apps, ↓p_app0, ↓p_appc, ↓p_appa, ↓p_ext, ↓p_putm, ↓p_put0, ↓p_put1, ↓p_put2, ↓p_put3, ↓stepK_map, ↓posK_map, ↓end_rt, ↓end_nx, cond_true, cond_false, Option.isNone_none, n_add, n_addl, n_ladd, n_mul, n_sub0, n_ss, n_subt, n_sublt, n_lt, n_le, n_eq, n_0lt, n_1le, n_eq0, n_leb, n_geb, n_natAbs, sing_eq, safeB_none, safeB_nil, safeB_some, own_none, own_some, g_addi, g_adds, g_subi, g_muli, wrE, wrEs, wrEo, wrAs, wrSrc, wrP, wrS, wrSs, md, mdS, Tg.slots, Tgs.slots, P.root, small_ofNat, small_neg, pu_non, pu_bl, pu_int, pu_str, pu_tup, pu_fls, puL_nil, puL_con, puL_map, puL_app, puL_enum, isStr_str, isDct_dct, isNon_non, isNon_int, isNon_str, isNon_tup, isNon_lst, setAt0, setAt1, cut_to, cut_from, cut_ft, cut_tol, cut_froml, cut_all, cut_map, ixOk_nat, ixN_nat, ixOk_lit, ixN_lit, ixOk_m1, ixN_m1, List.nil_append, List.append_nil, List.cons_append, hasN, List.length_map, List.length_range, List.length_cons, List.length_nil, Bool.not_true, Bool.not_false, Bool.not_not, Bool.true_and, Bool.and_true, Bool.or_true, Bool.true_or, Bool.false_or, Bool.or_false, Bool.and_self, Bool.not_eq_true', Bool.false_eq_true, decide_true, decide_false, decide_eq_true_eq, decide_eq_false_iff_not, true_and, and_true, implies_true, and_self, ne_eq, not_true_eq_false, not_false_eq_true, false_implies, true_implies, eq_self, forall_const, Nat.reduceBEq, Nat.reduceEqDiff, Nat.reduceLT, Nat.reduceAdd, Nat.reduceSub, Nat.reduceLeDiff, Nat.reducePow, Int.reduceLT, Int.reduceLE, Int.reduceNeg, Int.reduceAdd, Int.reduceSub, Int.reducePow, Int.reduceToNat, Int.toNat_natCast, beq_self_eq_true, Bool.and_eq_true, Bool.or_eq_true]
    refine ⟨hc, by omega, for_range (fun j ρ => ∃ o : Option (Nat × Nat), ρ = [sx, some d2, some (.str w), some (sqD o), some (.int a), none, none, none, none, none, none, none, none, none, none, none] ∧ (o = none → (∀ b, b < a → ∀ s, ¬ sqOk w b s) ∧ ∀ s, s ≤ j → ¬ sqOk w a s) ∧ ∀ b s, o = some (b, s) → Fst2 w (some (b, s))) ⟨o, rfl, fun e => ⟨h1 e, fun s hs q => by have := q.1; omega⟩, h2⟩ ?_ ?_⟩
    · rintro ρ ⟨o, rfl, h3, h4⟩
      simp -failIfUnchanged -implicitDefEqProofs only [↓gK0, ↓gKs, ↓setK0, ↓setKs, ↓setN0, ↓setNs, ↓setM0, ↓setMs, ↓clrK0, ↓clrKs, ↓bK_bl, ↓iK_int, ↓brK_true, ↓brK_false, ↓brK_dec, ↓brK_not, ↓brK_and, ↓w_ok, ↓w_var, ↓w_mv, ↓w_int, ↓w_str, ↓w_bl, ↓w_non, ↓w_neg, ↓w_bin, ↓w_cmp, ↓w_and, ↓w_or, ↓w_not, ↓w_ite, ↓w_tup, ↓w_lst, ↓w_nil, ↓w_con, ↓w_ix, ↓w_eo0, ↓w_eo1, ↓w_sl, ↓w_rev, ↓w_bi, ↓w_bi2, ↓w_bi3, ↓w_lcp, ↓w_cmp2, ↓w_tr1, ↓w_tr2, ↓w_lset, ↓w_sidx, ↓w_dcl, ↓w_dis, ↓w_join, ↓w_get, ↓w_ssn, ↓w_kill, ↓w_ssc, ↓nxt_nx, ↓nxt_rt, ↓nxt_bk, ↓nxt_ct, ↓w_set, ↓tsK0, ↓tsKs, ↓tgKv, ↓tgKt, ↓tupK_t, ↓w_tset, ↓w_aug, ↓gK_v, ↓gK_x, ↓setM_v, ↓setM_x, ↓atK0, ↓atKs, ↓atK0a, ↓atKsa, ↓w_pv, ↓w_px, ↓w_put, ↓lstK_l, ↓w_app, ↓lsK_l, ↓w_ext, ↓popK_appm, ↓popK_app, ↓popK_con, ↓w_pop, ↓w_ex, ↓w_ret, ↓w_retN, ↓w_brk, ↓w_cnt, ↓w_pass, ↓w_if, ↓w_an, ↓w_av, ↓w_ar, ↓takK0, ↓takKd, ↓takKr, ↓givK0, ↓givKd, ↓givKr, ↓w_call, ↓w_se, ↓w_s1, ↓w_s2, ↓w_s3, ↓w_sn, ↓w_for, ↓w_wh, ↓lpq_nx, ↓lpq_ct, ↓lpq_bk, ↓lpq_rt, ↓w_cn, ↓w_cs, ↓w_comp, ↓o_add, ↓o_sub, ↓o_adds, ↓o_addt, ↓o_addl, ↓o_mul, ↓o_muls, ↓o_mull, ↓o_div, ↓o_mod, ↓o_pow, ↓c_eq, ↓c_ne, ↓c_lt, ↓c_le, ↓c_gt, ↓c_ge, ↓c_eqs, ↓c_nes, ↓c_lts, ↓c_gts, ↓c_les, ↓c_ges, ↓c_neb, ↓c_eqb, ↓c_ins, ↓c_isn, ↓c_ntn, ↓t_bl, ↓t_int, ↓t_str, ↓t_non, ↓t_lst, ↓t_tup, ↓ixK_0, ↓ixK_1, ↓ixK_2, ↓ixK_3, ↓ixK_l1, ↓ixK_l2, ↓ixK_l3, ↓ixK_m1, ↓ixK_map, ↓x_str, ↓x_tup, ↓x_lst, ↓x_fls, ↓l_str, ↓l_tup, ↓l_lst, ↓r_str, ↓r_lst, ↓b_lens, ↓b_lenl, ↓b_lent, ↓b_lenf, ↓b_lend, ↓b_abs, ↓b_int, ↓b_intb, ↓b_tupt, ↓b_tupl, ↓b_lstt, ↓b_lstl, ↓b_lstf, ↓b_lstx, ↓s_set, ↓b_sum, ↓b_any, ↓b_all, ↓j_map, ↓i_str, ↓i_lst, ↓i_tup, ↓i_fls, ↓m_min, ↓m_max, ↓m_min3, ↓m_max3, ↓p_appn, ↓p_appl, ↓p_appi, ↓p_apps, ↓p_app0, ↓p_appc, ↓p_appa, ↓p_ext, ↓p_putm, ↓p_put0, ↓p_put1, ↓p_put2, ↓p_put3, ↓stepK_map, ↓posK_map, ↓end_rt, ↓end_nx, cond_true, cond_false, Option.isNone_none, n_add, n_addl, n_ladd, n_mul, n_sub0, n_ss, n_subt, n_sublt, n_lt, n_le, n_eq, n_0lt, n_1le, n_eq0, n_leb, n_geb, n_natAbs, sing_eq, safeB_none, safeB_nil, safeB_some, own_none, own_some, g_addi, g_adds, g_subi, g_muli, wrE, wrEs, wrEo, wrAs, wrSrc, wrP, wrS, wrSs, md, mdS, Tg.slots, Tgs.slots, P.root, small_ofNat, small_neg, pu_non, pu_bl, pu_int, pu_str, pu_tup, pu_fls, puL_nil, puL_con, puL_map, puL_app, puL_enum, isStr_str, isDct_dct, isNon_non, isNon_int, isNon_str, isNon_tup, isNon_lst, setAt0, setAt1, cut_to, cut_from, cut_ft, cut_tol, cut_froml, cut_all, cut_map, ixOk_nat, ixN_nat, ixOk_lit, ixN_lit, ixOk_m1, ixN_m1, List.nil_append, List.append_nil, List.cons_append, hasN, List.length_map, List.length_range, List.length_cons, List.length_nil, Bool.not_true, Bool.not_false, Bool.not_not, Bool.true_and, Bool.and_true, Bool.or_true, Bool.true_or, Bool.false_or, Bool.or_false, Bool.and_self, Bool.not_eq_true', Bool.false_eq_true, decide_true, decide_false, decide_eq_true_eq, decide_eq_false_iff_not, true_and, and_true, implies_true, and_self, ne_eq, not_true_eq_false, not_false_eq_true, false_implies, true_implies, eq_self, forall_const, Nat.reduceBEq, Nat.reduceEqDiff, Nat.reduceLT, Nat.reduceAdd, Nat.reduceSub, Nat.reduceLeDiff, Nat.reducePow, Int.reduceLT, Int.reduceLE, Int.reduceNeg, Int.reduceAdd, Int.reduceSub, Int.reducePow, Int.reduceToNat, Int.toNat_natCast, beq_self_eq_true, Bool.and_eq_true, Bool.or_eq_true]
      refine ⟨o, rfl, fun e b hb s q => ?_, h4⟩
      by_cases z : b = a
      · subst z
        obtain ⟨q1, q2, q3⟩ := q
        exact (h3 e).2 s (by omega) ⟨q1, q2, q3⟩
      · exact (h3 e).1 b (by omega) s q
    · rintro j hj ρ ⟨o, rfl, h3, h4⟩
      simp -failIfUnchanged -implicitDefEqProofs only [↓gK0, ↓gKs, ↓setK0, ↓setKs, ↓setN0, ↓setNs, ↓setM0, ↓setMs, ↓clrK0, ↓clrKs, ↓bK_bl, ↓iK_int, ↓brK_true, ↓brK_false, ↓brK_dec, ↓brK_not, ↓brK_and, ↓w_ok, ↓w_var, ↓w_mv, ↓w_int, ↓w_str, ↓w_bl, ↓w_non, ↓w_neg, ↓w_bin, ↓w_cmp, ↓w_and, ↓w_or, ↓w_not, ↓w_ite, ↓w_tup, ↓w_lst, ↓w_nil, ↓w_con, ↓w_ix, ↓w_eo0, ↓w_eo1, ↓w_sl, ↓w_rev, ↓w_bi, ↓w_bi2, ↓w_bi3, ↓w_lcp, ↓w_cmp2, ↓w_tr1, ↓w_tr2, ↓w_lset, ↓w_sidx, ↓w_dcl, ↓w_dis, ↓w_join, ↓w_get, ↓w_ssn, ↓w_kill, ↓w_ssc, ↓nxt_nx, ↓nxt_rt, ↓nxt_bk, ↓nxt_ct, ↓w_set, ↓tsK0, ↓tsKs, ↓tgKv, ↓tgKt, ↓tupK_t, ↓w_tset, ↓w_aug, ↓gK_v, ↓gK_x, ↓setM_v, ↓setM_x, ↓atK0, ↓atKs, ↓atK0a, ↓atKsa, ↓w_pv, ↓w_px, ↓w_put, ↓lstK_l, ↓w_app, ↓lsK_l, ↓w_ext, ↓popK_appm, ↓popK_app, ↓popK_con, ↓w_pop, ↓w_ex, ↓w_ret, ↓w_retN, ↓w_brk, ↓w_cnt, ↓w_pass, ↓w_if, ↓w_an, ↓w_av, ↓w_ar, ↓takK0, ↓takKd, ↓takKr, ↓givK0, ↓givKd, ↓givKr, ↓w_call, ↓w_se, ↓w_s1, ↓w_s2, ↓w_s3, ↓w_sn, ↓w_for, ↓w_wh, ↓lpq_nx, ↓lpq_ct, ↓lpq_bk, ↓lpq_rt, ↓w_cn, ↓w_cs, ↓w_comp, ↓o_add, ↓o_sub, ↓o_adds, ↓o_addt, ↓o_addl, ↓o_mul, ↓o_muls, ↓o_mull, ↓o_div, ↓o_mod, ↓o_pow, ↓c_eq, ↓c_ne, ↓c_lt, ↓c_le, ↓c_gt, ↓c_ge, ↓c_eqs, ↓c_nes, ↓c_lts, ↓c_gts, ↓c_les, ↓c_ges, ↓c_neb, ↓c_eqb, ↓c_ins, ↓c_isn, ↓c_ntn, ↓t_bl, ↓t_int, ↓t_str, ↓t_non, ↓t_lst, ↓t_tup, ↓ixK_0, ↓ixK_1, ↓ixK_2, ↓ixK_3, ↓ixK_l1, ↓ixK_l2, ↓ixK_l3, ↓ixK_m1, ↓ixK_map, ↓x_str, ↓x_tup, ↓x_lst, ↓x_fls, ↓l_str, ↓l_tup, ↓l_lst, ↓r_str, ↓r_lst, ↓b_lens, ↓b_lenl, ↓b_lent, ↓b_lenf, ↓b_lend, ↓b_abs, ↓b_int, ↓b_intb, ↓b_tupt, ↓b_tupl, ↓b_lstt, ↓b_lstl, ↓b_lstf, ↓b_lstx, ↓s_set, ↓b_sum, ↓b_any, ↓b_all, ↓j_map, ↓i_str, ↓i_lst, ↓i_tup, ↓i_fls, ↓m_min, ↓m_max, ↓m_min3, ↓m_max3, ↓p_appn, ↓p_appl, ↓p_appi, ↓p_apps, ↓p_app0, ↓p_appc, ↓p_appa, ↓p_ext, ↓p_putm, ↓p_put0, ↓p_put1, ↓p_put2, ↓p_put3, ↓stepK_map, ↓posK_map, ↓end_rt, ↓end_nx, cond_true, cond_false, Option.isNone_none, n_add, n_addl, n_ladd, n_mul, n_sub0, n_ss, n_subt, n_sublt, n_lt, n_le, n_eq, n_0lt, n_1le, n_eq0, n_leb, n_geb, n_natAbs, sing_eq, safeB_none, safeB_nil, safeB_some, own_none, own_some, g_addi, g_adds, g_subi, g_muli, wrE, wrEs, wrEo, wrAs, wrSrc, wrP, wrS, wrSs, md, mdS, Tg.slots, Tgs.slots, P.root, small_ofNat, small_neg, pu_non, pu_bl, pu_int, pu_str, pu_tup, pu_fls, puL_nil, puL_con, puL_map, puL_app, puL_enum, isStr_str, isDct_dct, isNon_non, isNon_int, isNon_str, isNon_tup, isNon_lst, setAt0, setAt1, cut_to, cut_from, cut_ft, cut_tol, cut_froml, cut_all, cut_map, ixOk_nat, ixN_nat, ixOk_lit, ixN_lit, ixOk_m1, ixN_m1, List.nil_append, List.append_nil, List.cons_append, hasN, List.length_map, List.length_range, List.length_cons, List.length_nil, Bool.not_true, Bool.not_false, Bool.not_not, Bool.true_and, Bool.and_true, Bool.or_true, Bool.true_or, Bool.false_or, Bool.or_false, Bool.and_self, Bool.not_eq_true', Bool.false_eq_true, decide_true, decide_false, decide_eq_true_eq, decide_eq_false_iff_not, true_and, and_true, implies_true, and_self, ne_eq, not_true_eq_false, not_false_eq_true, false_implies, true_implies, eq_self, forall_const, Nat.reduceBEq, Nat.reduceEqDiff, Nat.reduceLT, Nat.reduceAdd, Nat.reduceSub, Nat.reduceLeDiff, Nat.reducePow, Int.reduceLT, Int.reduceLE, Int.reduceNeg, Int.reduceAdd, Int.reduceSub, Int.reducePow, Int.reduceToNat, Int.toNat_natCast, beq_self_eq_true, Bool.and_eq_true, Bool.or_eq_true]
      cases o with
      | some p =>
        obtain ⟨b, s⟩ := p
        simp only [sqD, isNon, brK_false]
        exact ⟨some (b, s), rfl, (fun e => nomatch e), h4⟩
      | none =>
        obtain ⟨h5, h6⟩ := h3 rfl
        simp only [sqD, isNon, brK_true]
        have no : ¬ sqOk w a (1 + j) → ∃ o : Option (Nat × Nat), [sx, some d2, some (.str w), some .non, some (.int a), none, none, none, none, none, none, none, none, none, none, none] = [sx, some d2, some (.str w), some (sqD o), some (.int a), none, none, none, none, none, none, none, none, none, none, none] ∧ (o = none → (∀ b, b < a → ∀ s, ¬ sqOk w b s) ∧ ∀ s, s ≤ j + 1 → ¬ sqOk w a s) ∧ ∀ b s, o = some (b, s) → Fst2 w (some (b, s)) := fun h => by
          refine ⟨none, rfl, (fun _ => ⟨h5, fun s hs q => ?_⟩), (fun _ _ e => nomatch e)⟩
          by_cases z : s ≤ j
          · exact h6 s z q
          · have : s = 1 + j := by omega
            subst this
            exact h q
        refine ⟨hc, fun g1 => ⟨hc, hc, fun g2 => ?_, fun g2 => no fun q => g2 ?_⟩, fun g1 => no fun q => g1 ?_⟩
        · rw [n_lmul, n_add, cut_ft] at g2
          have ok : sqOk w a (1 + j) := ⟨by omega, by omega, sl_sq.mp g2⟩
          refine ⟨some (a, 1 + j), rfl, (fun e => nomatch e), fun b s e => ?_⟩
          cases e
          refine ⟨ok, fun b t q => ?_⟩
          by_cases z1 : b < a
          · exact absurd q (h5 b z1 t)
          · by_cases z2 : a < b
            · exact .inl z2
            · have e : b = a := by omega
              subst e
              refine .inr ⟨rfl, ?_⟩
              by_cases z3 : t ≤ j
              · exact absurd q (h6 t z3)
              · omega
        · rw [n_lmul, n_add, cut_ft]
          exact sl_sq.mpr q.2.2
        · have := q.2.1; omega
  rintro ρ ⟨o, rfl, h1, h2⟩
  have ho : Fst2 w o := by
    cases o with
    | none => exact fun a s q => h1 rfl a (by obtain ⟨q1, q2, _⟩ := q; omega) s q
    | some p => obtain ⟨b, s⟩ := p; exact h2 b s rfl
  simp -failIfUnchanged -implicitDefEqProofs only [↓gK0, ↓gKs, ↓setK0, ↓setKs, ↓setN0, ↓setNs, ↓setM0, ↓setMs, ↓clrK0, ↓clrKs, ↓bK_bl, ↓iK_int, ↓brK_true, ↓brK_false, ↓brK_dec, ↓brK_not, ↓brK_and, ↓w_ok, ↓w_var, ↓w_mv, ↓w_int, ↓w_str, ↓w_bl, ↓w_non, ↓w_neg, ↓w_bin, ↓w_cmp, ↓w_and, ↓w_or, ↓w_not, ↓w_ite, ↓w_tup, ↓w_lst, ↓w_nil, ↓w_con, ↓w_ix, ↓w_eo0, ↓w_eo1, ↓w_sl, ↓w_rev, ↓w_bi, ↓w_bi2, ↓w_bi3, ↓w_lcp, ↓w_cmp2, ↓w_tr1, ↓w_tr2, ↓w_lset, ↓w_sidx, ↓w_dcl, ↓w_dis, ↓w_join, ↓w_get, ↓w_ssn, ↓w_kill, ↓w_ssc, ↓nxt_nx, ↓nxt_rt, ↓nxt_bk, ↓nxt_ct, ↓w_set, ↓tsK0, ↓tsKs, ↓tgKv, ↓tgKt, ↓tupK_t, ↓w_tset, ↓w_aug, ↓gK_v, ↓gK_x, ↓setM_v, ↓setM_x, ↓atK0, ↓atKs, ↓atK0a, ↓atKsa, ↓w_pv, ↓w_px, ↓w_put, ↓lstK_l, ↓w_app, ↓lsK_l, ↓w_ext, ↓popK_appm, ↓popK_app, ↓popK_con, ↓w_pop, ↓w_ex, ↓w_ret, ↓w_retN, ↓w_brk, ↓w_cnt, ↓w_pass, ↓w_if, ↓w_an, ↓w_av, ↓w_ar, ↓takK0, ↓takKd, ↓takKr, ↓givK0, ↓givKd, ↓givKr, ↓w_call, ↓w_se, ↓w_s1, ↓w_s2, ↓w_s3, ↓w_sn, ↓w_for, ↓w_wh, ↓lpq_nx, ↓lpq_ct, ↓lpq_bk, ↓lpq_rt, ↓w_cn, ↓w_cs, ↓w_comp, ↓o_add, ↓o_sub, ↓o_adds, ↓o_addt, ↓o_addl, ↓o_mul, ↓o_muls, ↓o_mull, ↓o_div, ↓o_mod, ↓o_pow, ↓c_eq, ↓c_ne, ↓c_lt, ↓c_le, ↓c_gt, ↓c_ge, ↓c_eqs, ↓c_nes, ↓c_lts, ↓c_gts, ↓c_les, ↓c_ges, ↓c_neb, ↓c_eqb, ↓c_ins, ↓c_isn, ↓c_ntn, ↓t_bl, ↓t_int, ↓t_str, ↓t_non, ↓t_lst, ↓t_tup, ↓ixK_0, ↓ixK_1, ↓ixK_2, ↓ixK_3, ↓ixK_l1, ↓ixK_l2, ↓ixK_l3, ↓ixK_m1, ↓ixK_map, ↓x_str, ↓x_tup, ↓x_lst, ↓x_fls, ↓l_str, ↓l_tup, ↓l_lst, ↓r_str, ↓r_lst, ↓b_lens, ↓b_lenl, ↓b_lent, ↓b_lenf, ↓b_lend, ↓b_abs, ↓b_int, ↓b_intb, ↓b_tupt, ↓b_tupl, ↓b_lstt, ↓b_lstl, ↓b_lstf, ↓b_lstx, ↓s_set, ↓b_sum, ↓b_any, ↓b_all, ↓j_map, ↓i_str, ↓i_lst, ↓i_tup, ↓i_fls, ↓m_min, ↓m_max, ↓m_min3, ↓m_max3, ↓p_appn, ↓p_appl, ↓p_appi, ↓p_apps, ↓p_app0, ↓p_appc, ↓p_appa, ↓p_ext, ↓p_putm, ↓p_put0, ↓p_put1, ↓p_put2, ↓p_put3, ↓stepK_map, ↓posK_map, ↓end_rt, ↓end_nx, cond_true, cond_false, Option.isNone_none, n_add, n_addl, n_ladd, n_mul, n_sub0, n_ss, n_subt, n_sublt, n_lt, n_le, n_eq, n_0lt, n_1le, n_eq0, n_leb, n_geb, n_natAbs, sing_eq, safeB_none, safeB_nil, safeB_some, own_none, own_some, g_addi, g_adds, g_subi, g_muli, wrE, wrEs, wrEo, wrAs, wrSrc, wrP, wrS, wrSs, md, mdS, Tg.slots, Tgs.slots, P.root, small_ofNat, small_neg, pu_non, pu_bl, pu_int, pu_str, pu_tup, pu_fls, puL_nil, puL_con, puL_map, puL_app, puL_enum, isStr_str, isDct_dct, isNon_non, isNon_int, isNon_str, isNon_tup, isNon_lst, setAt0, setAt1, cut_to, cut_from, cut_ft, cut_tol, cut_froml, cut_all, cut_map, ixOk_nat, ixN_nat, ixOk_lit, ixN_lit, ixOk_m1, ixN_m1, List.nil_append, List.append_nil, List.cons_append, hasN, List.length_map, List.length_range, List.length_cons, List.length_nil, Bool.not_true, Bool.not_false, Bool.not_not, Bool.true_and, Bool.and_true, Bool.or_true, Bool.true_or, Bool.false_or, Bool.or_false, Bool.and_self, Bool.not_eq_true', Bool.false_eq_true, decide_true, decide_false, decide_eq_true_eq, decide_eq_false_iff_not, true_and, and_true, implies_true, and_self, ne_eq, not_true_eq_false, not_false_eq_true, false_implies, true_implies, eq_self, forall_const, Nat.reduceBEq, Nat.reduceEqDiff, Nat.reduceLT, Nat.reduceAdd, Nat.reduceSub, Nat.reduceLeDiff, Nat.reducePow, Int.reduceLT, Int.reduceLE, Int.reduceNeg, Int.reduceAdd, Int.reduceSub, Int.reducePow, Int.reduceToNat, Int.toNat_natCast, beq_self_eq_true, Bool.and_eq_true, Bool.or_eq_true]
  refine wpf_mono (S.has _ (by omega)) ?_
  rintro r rs ⟨rfl, o2, ho2, rfl⟩
  have := ho2.uniq ho
  subst this
  simp -failIfUnchanged -implicitDefEqProofs only [↓gK0, ↓gKs, ↓setK0, ↓setKs, ↓setN0, ↓setNs, ↓setM0, ↓setMs, ↓clrK0, ↓clrKs, ↓bK_bl, ↓iK_int, ↓brK_true, ↓brK_false, ↓brK_dec, ↓brK_not, ↓brK_and, ↓w_ok, ↓w_var, ↓w_mv, ↓w_int, ↓w_str, ↓w_bl, ↓w_non, ↓w_neg, ↓w_bin, ↓w_cmp, ↓w_and, ↓w_or, ↓w_not, ↓w_ite, ↓w_tup, ↓w_lst, ↓w_nil, ↓w_con, ↓w_ix, ↓w_eo0, ↓w_eo1, ↓w_sl, ↓w_rev, ↓w_bi, ↓w_bi2, ↓w_bi3, ↓w_lcp, ↓w_cmp2, ↓w_tr1, ↓w_tr2, ↓w_lset, ↓w_sidx, ↓w_dcl, ↓w_dis, ↓w_join, ↓w_get, ↓w_ssn, ↓w_kill, ↓w_ssc, ↓nxt_nx, ↓nxt_rt, ↓nxt_bk, ↓nxt_ct, ↓w_set, ↓tsK0, ↓tsKs, ↓tgKv, ↓tgKt, ↓tupK_t, ↓w_tset, ↓w_aug, ↓gK_v, ↓gK_x, ↓setM_v, ↓setM_x, ↓atK0, ↓atKs, ↓atK0a, ↓atKsa, ↓w_pv, ↓w_px, ↓w_put, ↓lstK_l, ↓w_app, ↓lsK_l, ↓w_ext, ↓popK_appm, ↓popK_app, ↓popK_con, ↓w_pop, ↓w_ex, ↓w_ret, ↓w_retN, ↓w_brk, ↓w_cnt, ↓w_pass, ↓w_if, ↓w_an, ↓w_av, ↓w_ar, ↓takK0, ↓takKd, ↓takKr, ↓givK0, ↓givKd, ↓givKr, ↓w_call, ↓w_se, ↓w_s1, ↓w_s2, ↓w_s3, ↓w_sn, ↓w_for, ↓w_wh, ↓lpq_nx, ↓lpq_ct, ↓lpq_bk, ↓lpq_rt, ↓w_cn, ↓w_cs, ↓w_comp, ↓o_add, ↓o_sub, ↓o_adds, ↓o_addt, ↓o_addl, ↓o_mul, ↓o_muls, ↓o_mull, ↓o_div, ↓o_mod, ↓o_pow, ↓c_eq, ↓c_ne, ↓c_lt, ↓c_le, ↓c_gt, ↓c_ge, ↓c_eqs, ↓c_nes, ↓c_lts, ↓c_gts, ↓c_les, ↓c_ges, ↓c_neb, ↓c_eqb, ↓c_ins, ↓c_isn, ↓c_ntn, ↓t_bl, ↓t_int, ↓t_str, ↓t_non, ↓t_lst, ↓t_tup, ↓ixK_0, ↓ixK_1, ↓ixK_2, ↓ixK_3, ↓ixK_l1, ↓ixK_l2, ↓ixK_l3, ↓ixK_m1, ↓ixK_map, ↓x_str, ↓x_tup, ↓x_lst, ↓x_fls, ↓l_str, ↓l_tup, ↓l_lst, ↓r_str, ↓r_lst, ↓b_lens, ↓b_lenl, ↓b_lent, ↓b_lenf, ↓b_lend, ↓b_abs, ↓b_int, ↓b_intb, ↓b_tupt, ↓b_tupl, ↓b_lstt, ↓b_lstl, ↓b_lstf, ↓b_lstx, ↓s_set, ↓b_sum, ↓b_any, ↓b_all, ↓j_map, ↓i_str, ↓i_lst, ↓i_tup, ↓i_fls, ↓m_min, ↓m_max, ↓m_min3, ↓m_max3, ↓p_appn, ↓p_appl, ↓p_appi, ↓p_apps, ↓p_app0, ↓p_appc, ↓p_appa, ↓p_ext, ↓p_putm, ↓p_put0, ↓p_put1, ↓p_put2, ↓p_put3, ↓stepK_map, ↓posK_map, ↓end_rt, ↓end_nx, cond_true, cond_false, Option.isNone_none, n_add, n_addl, n_ladd, n_mul, n_sub0, n_ss, n_subt, n_sublt, n_lt, n_le, n_eq, n_0lt, n_1le, n_eq0, n_leb, n_geb, n_natAbs, sing_eq, safeB_none, safeB_nil, safeB_some, own_none, own_some, g_addi, g_adds, g_subi, g_muli, wrE, wrEs, wrEo, wrAs, wrSrc, wrP, wrS, wrSs, md, mdS, Tg.slots, Tgs.slots, P.root, small_ofNat, small_neg, pu_non, pu_bl, pu_int, pu_str, pu_tup, pu_fls, puL_nil, puL_con, puL_map, puL_app, puL_enum, isStr_str, isDct_dct, isNon_non, isNon_int, isNon_str, isNon_tup, isNon_lst, setAt0, setAt1, cut_to, cut_from, cut_ft, cut_tol, cut_froml, cut_all, cut_map, ixOk_nat, ixN_nat, ixOk_lit, ixN_lit, ixOk_m1, ixN_m1, List.nil_append, List.append_nil, List.cons_append, hasN, List.length_map, List.length_range, List.length_cons, List.length_nil, Bool.not_true, Bool.not_false, Bool.not_not, Bool.true_and, Bool.and_true, Bool.or_true, Bool.true_or, Bool.false_or, Bool.or_false, Bool.and_self, Bool.not_eq_true', Bool.false_eq_true, decide_true, decide_false, decide_eq_true_eq, decide_eq_false_iff_not, true_and, and_true, implies_true, and_self, ne_eq, not_true_eq_false, not_false_eq_true, false_implies, true_implies, eq_self, forall_const, Nat.reduceBEq, Nat.reduceEqDiff, Nat.reduceLT, Nat.reduceAdd, Nat.reduceSub, Nat.reduceLeDiff, Nat.reducePow, Int.reduceLT, Int.reduceLE, Int.reduceNeg, Int.reduceAdd, Int.reduceSub, Int.reducePow, Int.reduceToNat, Int.toNat_natCast, beq_self_eq_true, Bool.and_eq_true, Bool.or_eq_true]
  rw [c_same (by cases o2 <;> rfl) (by cases o2 <;> simp [sqD, dep, depL]) (by cases o2 <;> simp [sqD, deq, deqL])]
  simp -failIfUnchanged -implicitDefEqProofs only [↓gK0, ↓gKs, ↓setK0, ↓setKs, ↓setN0, ↓setNs, ↓setM0, ↓setMs, ↓clrK0, ↓clrKs, ↓bK_bl, ↓iK_int, ↓brK_true, ↓brK_false, ↓brK_dec, ↓brK_not, ↓brK_and, ↓w_ok, ↓w_var, ↓w_mv, ↓w_int, ↓w_str, ↓w_bl, ↓w_non, ↓w_neg, ↓w_bin, ↓w_cmp, ↓w_and, ↓w_or, ↓w_not, ↓w_ite, ↓w_tup, ↓w_lst, ↓w_nil, ↓w_con, ↓w_ix, ↓w_eo0, ↓w_eo1, ↓w_sl, ↓w_rev, ↓w_bi, ↓w_bi2, ↓w_bi3, ↓w_lcp, ↓w_cmp2, ↓w_tr1, ↓w_tr2, ↓w_lset, ↓w_sidx, ↓w_dcl, ↓w_dis, ↓w_join, ↓w_get, ↓w_ssn, ↓w_kill, ↓w_ssc, ↓nxt_nx, ↓nxt_rt, ↓nxt_bk, ↓nxt_ct, ↓w_set, ↓tsK0, ↓tsKs, ↓tgKv, ↓tgKt, ↓tupK_t, ↓w_tset, ↓w_aug, ↓gK_v, ↓gK_x, ↓setM_v, ↓setM_x, ↓atK0, ↓atKs, ↓atK0a, ↓atKsa, ↓w_pv, ↓w_px, ↓w_put, ↓lstK_l, ↓w_app, ↓lsK_l, ↓w_ext, ↓popK_appm, ↓popK_app, ↓popK_con, ↓w_pop, ↓w_ex, ↓w_ret, ↓w_retN, ↓w_brk, ↓w_cnt, ↓w_pass, ↓w_if, ↓w_an, ↓w_av, ↓w_ar, ↓takK0, ↓takKd, ↓takKr, ↓givK0, ↓givKd, ↓givKr, ↓w_call, ↓w_se, ↓w_s1, ↓w_s2, ↓w_s3, ↓w_sn, ↓w_for, ↓w_wh, ↓lpq_nx, ↓lpq_ct, ↓lpq_bk, ↓lpq_rt, ↓w_cn, ↓w_cs, ↓w_comp, ↓o_add, ↓o_sub, ↓o_adds, ↓o_addt, ↓o_addl, ↓o_mul, ↓o_muls, ↓o_mull, ↓o_div, ↓o_mod, ↓o_pow, ↓c_eq, ↓c_ne, ↓c_lt, ↓c_le, ↓c_gt, ↓c_ge, ↓c_eqs, ↓c_nes, ↓c_lts, ↓c_gts, ↓c_les, ↓c_ges, ↓c_neb, ↓c_eqb, ↓c_ins, ↓c_isn, ↓c_ntn, ↓t_bl, ↓t_int, ↓t_str, ↓t_non, ↓t_lst, ↓t_tup, ↓ixK_0, ↓ixK_1, ↓ixK_2, ↓ixK_3, ↓ixK_l1, ↓ixK_l2, ↓ixK_l3, ↓ixK_m1, ↓ixK_map, ↓x_str, ↓x_tup, ↓x_lst, ↓x_fls, ↓l_str, ↓l_tup, ↓l_lst, ↓r_str, ↓r_lst, ↓b_lens, ↓b_lenl, ↓b_lent, ↓b_lenf, ↓b_lend, ↓b_abs, ↓b_int, ↓b_intb, ↓b_tupt, ↓b_tupl, ↓b_lstt, ↓b_lstl, ↓b_lstf, ↓b_lstx, ↓s_set, ↓b_sum, ↓b_any, ↓b_all, ↓j_map, ↓i_str, ↓i_lst, ↓i_tup, ↓i_fls, ↓m_min, ↓m_max, ↓m_min3, ↓m_max3, ↓p_appn, ↓p_appl, ↓p_appi, ↓p_apps, ↓p_app0, ↓p_appc, ↓p_appa, ↓p_ext, ↓p_putm, ↓p_put0, ↓p_put1, ↓p_put2, ↓p_put3, ↓stepK_map, ↓posK_map, ↓end_rt, ↓end_nx, cond_true, cond_false, Option.isNone_none, n_add, n_addl, n_ladd, n_mul, n_sub0, n_ss, n_subt, n_sublt, n_lt, n_le, n_eq, n_0lt, n_1le, n_eq0, n_leb, n_geb, n_natAbs, sing_eq, safeB_none, safeB_nil, safeB_some, own_none, own_some, g_addi, g_adds, g_subi, g_muli, wrE, wrEs, wrEo, wrAs, wrSrc, wrP, wrS, wrSs, md, mdS, Tg.slots, Tgs.slots, P.root, small_ofNat, small_neg, pu_non, pu_bl, pu_int, pu_str, pu_tup, pu_fls, puL_nil, puL_con, puL_map, puL_app, puL_enum, isStr_str, isDct_dct, isNon_non, isNon_int, isNon_str, isNon_tup, isNon_lst, setAt0, setAt1, cut_to, cut_from, cut_ft, cut_tol, cut_froml, cut_all, cut_map, ixOk_nat, ixN_nat, ixOk_lit, ixN_lit, ixOk_m1, ixN_m1, List.nil_append, List.append_nil, List.cons_append, hasN, List.length_map, List.length_range, List.length_cons, List.length_nil, Bool.not_true, Bool.not_false, Bool.not_not, Bool.true_and, Bool.and_true, Bool.or_true, Bool.true_or, Bool.false_or, Bool.or_false, Bool.and_self, Bool.not_eq_true', Bool.false_eq_true, decide_true, decide_false, decide_eq_true_eq, decide_eq_false_iff_not, true_and, and_true, implies_true, and_self, ne_eq, not_true_eq_false, not_false_eq_true, false_implies, true_implies, eq_self, forall_const, Nat.reduceBEq, Nat.reduceEqDiff, Nat.reduceLT, Nat.reduceAdd, Nat.reduceSub, Nat.reduceLeDiff, Nat.reducePow, Int.reduceLT, Int.reduceLE, Int.reduceNeg, Int.reduceAdd, Int.reduceSub, Int.reducePow, Int.reduceToNat, Int.toNat_natCast, beq_self_eq_true, Bool.and_eq_true, Bool.or_eq_true]
  refine wpf_mono (S.pick (menu.map menuE) _ (by simp [menu]) (by simp [menu, cap]) (fun x hx => by obtain ⟨p, _, rfl⟩ := List.mem_map.mp hx; rfl) hd2) ?_
  rintro r rs ⟨d3, hr, hd3, rfl⟩
  obtain ⟨⟨al, n, told⟩, hp, rfl⟩ := List.mem_map.mp hr
  obtain ⟨m, e, h3, h4, h5⟩ := menu_g hp
  have e : n = m + 1 := e
  subst e
  simp only [menuE]
  simp -failIfUnchanged -implicitDefEqProofs only [↓gK0, ↓gKs, ↓setK0, ↓setKs, ↓setN0, ↓setNs, ↓setM0, ↓setMs, ↓clrK0, ↓clrKs, ↓bK_bl, ↓iK_int, ↓brK_true, ↓brK_false, ↓brK_dec, ↓brK_not, ↓brK_and, ↓w_ok, ↓w_var, ↓w_mv, ↓w_int, ↓w_str, ↓w_bl, ↓w_non, ↓w_neg, ↓w_bin, ↓w_cmp, ↓w_and, ↓w_or, ↓w_not, ↓w_ite, ↓w_tup, ↓w_lst, ↓w_nil, ↓w_con, ↓w_ix, ↓w_eo0, ↓w_eo1, ↓w_sl, ↓w_rev, ↓w_bi, ↓w_bi2, ↓w_bi3, ↓w_lcp, ↓w_cmp2, ↓w_tr1, ↓w_tr2, ↓w_lset, ↓w_sidx, ↓w_dcl, ↓w_dis, ↓w_join, ↓w_get, ↓w_ssn, ↓w_kill, ↓w_ssc, ↓nxt_nx, ↓nxt_rt, ↓nxt_bk, ↓nxt_ct, ↓w_set, ↓tsK0, ↓tsKs, ↓tgKv, ↓tgKt, ↓tupK_t, ↓w_tset, ↓w_aug, ↓gK_v, ↓gK_x, ↓setM_v, ↓setM_x, ↓atK0, ↓atKs, ↓atK0a, ↓atKsa, ↓w_pv, ↓w_px, ↓w_put, ↓lstK_l, ↓w_app, ↓lsK_l, ↓w_ext, ↓popK_appm, ↓popK_app, ↓popK_con, ↓w_pop, ↓w_ex, ↓w_ret, ↓w_retN, ↓w_brk, ↓w_cnt, ↓w_pass, ↓w_if, ↓w_an, ↓w_av, ↓w_ar, ↓takK0, ↓takKd, ↓takKr, ↓givK0, ↓givKd, ↓givKr, ↓w_call, ↓w_se, ↓w_s1, ↓w_s2, ↓w_s3, ↓w_sn, ↓w_for, ↓w_wh, ↓lpq_nx, ↓lpq_ct, ↓lpq_bk, ↓lpq_rt, ↓w_cn, ↓w_cs, ↓w_comp, ↓o_add, ↓o_sub, ↓o_adds, ↓o_addt, ↓o_addl, ↓o_mul, ↓o_muls, ↓o_mull, ↓o_div, ↓o_mod, ↓o_pow, ↓c_eq, ↓c_ne, ↓c_lt, ↓c_le, ↓c_gt, ↓c_ge, ↓c_eqs, ↓c_nes, ↓c_lts, ↓c_gts, ↓c_les, ↓c_ges, ↓c_neb, ↓c_eqb, ↓c_ins, ↓c_isn, ↓c_ntn, ↓t_bl, ↓t_int, ↓t_str, ↓t_non, ↓t_lst, ↓t_tup, ↓ixK_0, ↓ixK_1, ↓ixK_2, ↓ixK_3, ↓ixK_l1, ↓ixK_l2, ↓ixK_l3, ↓ixK_m1, ↓ixK_map, ↓x_str, ↓x_tup, ↓x_lst, ↓x_fls, ↓l_str, ↓l_tup, ↓l_lst, ↓r_str, ↓r_lst, ↓b_lens, ↓b_lenl, ↓b_lent, ↓b_lenf, ↓b_lend, ↓b_abs, ↓b_int, ↓b_intb, ↓b_tupt, ↓b_tupl, ↓b_lstt, ↓b_lstl, ↓b_lstf, ↓b_lstx, ↓s_set, ↓b_sum, ↓b_any, ↓b_all, ↓j_map, ↓i_str, ↓i_lst, ↓i_tup, ↓i_fls, ↓m_min, ↓m_max, ↓m_min3, ↓m_max3, ↓p_appn, ↓p_appl, ↓p_appi, ↓p_apps, ↓p_app0, ↓p_appc, ↓p_appa, ↓p_ext, ↓p_putm, ↓p_put0, ↓p_put1, ↓p_put2, ↓p_put3, ↓stepK_map, ↓posK_map, ↓end_rt, ↓end_nx, cond_true, cond_false, Option.isNone_none, n_add, n_addl, n_ladd, n_mul, n_sub0, n_ss, n_subt, n_sublt, n_lt, n_le, n_eq, n_0lt, n_1le, n_eq0, n_leb, n_geb, n_natAbs, sing_eq, safeB_none, safeB_nil, safeB_some, own_none, own_some, g_addi, g_adds, g_subi, g_muli, wrE, wrEs, wrEo, wrAs, wrSrc, wrP, wrS, wrSs, md, mdS, Tg.slots, Tgs.slots, P.root, small_ofNat, small_neg, pu_non, pu_bl, pu_int, pu_str, pu_tup, pu_fls, puL_nil, puL_con, puL_map, puL_app, puL_enum, isStr_str, isDct_dct, isNon_non, isNon_int, isNon_str, isNon_tup, isNon_lst, setAt0, setAt1, cut_to, cut_from, cut_ft, cut_tol, cut_froml, cut_all, cut_map, ixOk_nat, ixN_nat, ixOk_lit, ixN_lit, ixOk_m1, ixN_m1, List.nil_append, List.append_nil, List.cons_append, hasN, List.length_map, List.length_range, List.length_cons, List.length_nil, Bool.not_true, Bool.not_false, Bool.not_not, Bool.true_and, Bool.and_true, Bool.or_true, Bool.true_or, Bool.false_or, Bool.or_false, Bool.and_self, Bool.not_eq_true', Bool.false_eq_true, decide_true, decide_false, decide_eq_true_eq, decide_eq_false_iff_not, true_and, and_true, implies_true, and_self, ne_eq, not_true_eq_false, not_false_eq_true, false_implies, true_implies, eq_self, forall_const, Nat.reduceBEq, Nat.reduceEqDiff, Nat.reduceLT, Nat.reduceAdd, Nat.reduceSub, Nat.reduceLeDiff, Nat.reducePow, Int.reduceLT, Int.reduceLE, Int.reduceNeg, Int.reduceAdd, Int.reduceSub, Int.reducePow, Int.reduceToNat, Int.toNat_natCast, beq_self_eq_true, Bool.and_eq_true, Bool.or_eq_true]
  refine wpf_mono (S.told _ hp) ?_
  rintro r rs ⟨rfl, rfl⟩
  simp -failIfUnchanged -implicitDefEqProofs only [↓gK0, ↓gKs, ↓setK0, ↓setKs, ↓setN0, ↓setNs, ↓setM0, ↓setMs, ↓clrK0, ↓clrKs, ↓bK_bl, ↓iK_int, ↓brK_true, ↓brK_false, ↓brK_dec, ↓brK_not, ↓brK_and, ↓w_ok, ↓w_var, ↓w_mv, ↓w_int, ↓w_str, ↓w_bl, ↓w_non, ↓w_neg, ↓w_bin, ↓w_cmp, ↓w_and, ↓w_or, ↓w_not, ↓w_ite, ↓w_tup, ↓w_lst, ↓w_nil, ↓w_con, ↓w_ix, ↓w_eo0, ↓w_eo1, ↓w_sl, ↓w_rev, ↓w_bi, ↓w_bi2, ↓w_bi3, ↓w_lcp, ↓w_cmp2, ↓w_tr1, ↓w_tr2, ↓w_lset, ↓w_sidx, ↓w_dcl, ↓w_dis, ↓w_join, ↓w_get, ↓w_ssn, ↓w_kill, ↓w_ssc, ↓nxt_nx, ↓nxt_rt, ↓nxt_bk, ↓nxt_ct, ↓w_set, ↓tsK0, ↓tsKs, ↓tgKv, ↓tgKt, ↓tupK_t, ↓w_tset, ↓w_aug, ↓gK_v, ↓gK_x, ↓setM_v, ↓setM_x, ↓atK0, ↓atKs, ↓atK0a, ↓atKsa, ↓w_pv, ↓w_px, ↓w_put, ↓lstK_l, ↓w_app, ↓lsK_l, ↓w_ext, ↓popK_appm, ↓popK_app, ↓popK_con, ↓w_pop, ↓w_ex, ↓w_ret, ↓w_retN, ↓w_brk, ↓w_cnt, ↓w_pass, ↓w_if, ↓w_an, ↓w_av, ↓w_ar, ↓takK0, ↓takKd, ↓takKr, ↓givK0, ↓givKd, ↓givKr, ↓w_call, ↓w_se, ↓w_s1, ↓w_s2, ↓w_s3, ↓w_sn, ↓w_for, ↓w_wh, ↓lpq_nx, ↓lpq_ct, ↓lpq_bk, ↓lpq_rt, ↓w_cn, ↓w_cs, ↓w_comp, ↓o_add, ↓o_sub, ↓o_adds, ↓o_addt, ↓o_addl, ↓o_mul, ↓o_muls, ↓o_mull, ↓o_div, ↓o_mod, ↓o_pow, ↓c_eq, ↓c_ne, ↓c_lt, ↓c_le, ↓c_gt, ↓c_ge, ↓c_eqs, ↓c_nes, ↓c_lts, ↓c_gts, ↓c_les, ↓c_ges, ↓c_neb, ↓c_eqb, ↓c_ins, ↓c_isn, ↓c_ntn, ↓t_bl, ↓t_int, ↓t_str, ↓t_non, ↓t_lst, ↓t_tup, ↓ixK_0, ↓ixK_1, ↓ixK_2, ↓ixK_3, ↓ixK_l1, ↓ixK_l2, ↓ixK_l3, ↓ixK_m1, ↓ixK_map, ↓x_str, ↓x_tup, ↓x_lst, ↓x_fls, ↓l_str, ↓l_tup, ↓l_lst, ↓r_str, ↓r_lst, ↓b_lens, ↓b_lenl, ↓b_lent, ↓b_lenf, ↓b_lend, ↓b_abs, ↓b_int, ↓b_intb, ↓b_tupt, ↓b_tupl, ↓b_lstt, ↓b_lstl, ↓b_lstf, ↓b_lstx, ↓s_set, ↓b_sum, ↓b_any, ↓b_all, ↓j_map, ↓i_str, ↓i_lst, ↓i_tup, ↓i_fls, ↓m_min, ↓m_max, ↓m_min3, ↓m_max3, ↓p_appn, ↓p_appl, ↓p_appi, ↓p_apps, ↓p_app0, ↓p_appc, ↓p_appa, ↓p_ext, ↓p_putm, ↓p_put0, ↓p_put1, ↓p_put2, ↓p_put3, ↓stepK_map, ↓posK_map, ↓end_rt, ↓end_nx, cond_true, cond_false, Option.isNone_none, n_add, n_addl, n_ladd, n_mul, n_sub0, n_ss, n_subt, n_sublt, n_lt, n_le, n_eq, n_0lt, n_1le, n_eq0, n_leb, n_geb, n_natAbs, sing_eq, safeB_none, safeB_nil, safeB_some, own_none, own_some, g_addi, g_adds, g_subi, g_muli, wrE, wrEs, wrEo, wrAs, wrSrc, wrP, wrS, wrSs, md, mdS, Tg.slots, Tgs.slots, P.root, small_ofNat, small_neg, pu_non, pu_bl, pu_int, pu_str, pu_tup, pu_fls, puL_nil, puL_con, puL_map, puL_app, puL_enum, isStr_str, isDct_dct, isNon_non, isNon_int, isNon_str, isNon_tup, isNon_lst, setAt0, setAt1, cut_to, cut_from, cut_ft, cut_tol, cut_froml, cut_all, cut_map, ixOk_nat, ixN_nat, ixOk_lit, ixN_lit, ixOk_m1, ixN_m1, List.nil_append, List.append_nil, List.cons_append, hasN, List.length_map, List.length_range, List.length_cons, List.length_nil, Bool.not_true, Bool.not_false, Bool.not_not, Bool.true_and, Bool.and_true, Bool.or_true, Bool.true_or, Bool.false_or, Bool.or_false, Bool.and_self, Bool.not_eq_true', Bool.false_eq_true, decide_true, decide_false, decide_eq_true_eq, decide_eq_false_iff_not, true_and, and_true, implies_true, and_self, ne_eq, not_true_eq_false, not_false_eq_true, false_implies, true_implies, eq_self, forall_const, Nat.reduceBEq, Nat.reduceEqDiff, Nat.reduceLT, Nat.reduceAdd, Nat.reduceSub, Nat.reduceLeDiff, Nat.reducePow, Int.reduceLT, Int.reduceLE, Int.reduceNeg, Int.reduceAdd, Int.reduceSub, Int.reducePow, Int.reduceToNat, Int.toNat_natCast, beq_self_eq_true, Bool.and_eq_true, Bool.or_eq_true]
  exact l7 S h3 hp hd3
theorem law_ok_k14 (ns : List Int) : WpF (fns T (4 + 1) 13 [.fls (ns.map D.int)]) fun r _ => r = .bl true := fns_wp rfl rfl rfl rfl (law_c (sp14 rfl))
end Wk

/-! what the top of k14_squares_and_round_words has left, printed by gen.py -/
namespace C_k14
open PySem PySem.Spec PyProof.Rows L2 G
def topS (i : Nat) : Stmt := PySem.Challenge.pw_grammarhall_k14_squares_and_round_words.main.body.getD i (.Pass ⟨0, 0, 0, 0⟩)
def fn : List (Str × Nat) := [("has_square", 1), ("power", 2), ("rings", 2), ("stands_once", 3), ("prime_words", 2), ("round_word", 2), ("_law_begin", 1), ("_law_take", 2), ("_law_pick", 2), ("_law_all", 2), ("_law_longer", 2), ("_law_is_large", 2), ("_law_once", 3), ("law", 1)]
def tb : Tb := ⟨[("LargeError", 0)], [("MOST_WORDS", 300)]⟩
abbrev s0 : Stmt := topS 5
abbrev N0 : List Str := ["word", "place", "length"]
abbrev P0 : List Str := ["word"]
theorem sc0 : FnScope N0 P0 (defScope s0) := ⟨rfl, rfl, rfl, by decide +kernel, rfl, by decide +kernel, by decide +kernel⟩
theorem ck0 : (decide (P0.length = 1) && decide (f0.pars = 1) && decide (f0.size = N0.length) && f0.refs.all (fun r => !(asgSs f0.body).contains r) && chkSs fn ⟨N0, defScope s0, fun _ => true, true, tb⟩ f0.body (defBody s0)) = true := by decide +kernel
abbrev s1 : Stmt := topS 6
abbrev N1 : List Str := ["base", "exponent", "found", "_"]
abbrev P1 : List Str := ["base", "exponent"]
theorem sc1 : FnScope N1 P1 (defScope s1) := ⟨rfl, rfl, rfl, by decide +kernel, rfl, by decide +kernel, by decide +kernel⟩
theorem ck1 : (decide (P1.length = 2) && decide (f1.pars = 2) && decide (f1.size = N1.length) && f1.refs.all (fun r => !(asgSs f1.body).contains r) && chkSs fn ⟨N1, defScope s1, fun _ => true, true, tb⟩ f1.body (defBody s1)) = true := by decide +kernel
abbrev s2 : Stmt := topS 7
abbrev N2 : List Str := ["word", "n", "closed", "place"]
abbrev P2 : List Str := ["word", "n"]
theorem sc2 : FnScope N2 P2 (defScope s2) := ⟨rfl, rfl, rfl, by decide +kernel, rfl, by decide +kernel, by decide +kernel⟩
theorem ck2 : (decide (P2.length = 2) && decide (f2.pars = 2) && decide (f2.size = N2.length) && f2.refs.all (fun r => !(asgSs f2.body).contains r) && chkSs fn ⟨N2, defScope s2, fun _ => true, true, tb⟩ f2.body (defBody s2)) = true := by decide +kernel
abbrev s3 : Stmt := topS 8
abbrev N3 : List Str := ["alphabet", "n", "word", "found", "sign", "own"]
abbrev P3 : List Str := ["alphabet", "n", "word"]
theorem sc3 : FnScope N3 P3 (defScope s3) := ⟨rfl, rfl, rfl, by decide +kernel, rfl, by decide +kernel, by decide +kernel⟩
theorem ck3 : (decide (P3.length = 3) && decide (f3.pars = 3) && decide (f3.size = N3.length) && f3.refs.all (fun r => !(asgSs f3.body).contains r) && chkSs fn ⟨N3, defScope s3, fun _ => true, true, tb⟩ f3.body (defBody s3)) = true := by decide +kernel
abbrev s4 : Stmt := topS 9
abbrev N4 : List Str := ["alphabet", "most", "found", "word", "longer"]
abbrev P4 : List Str := ["alphabet", "most"]
theorem sc4 : FnScope N4 P4 (defScope s4) := ⟨rfl, rfl, rfl, by decide +kernel, rfl, by decide +kernel, by decide +kernel⟩
theorem ck4 : (decide (P4.length = 2) && decide (f4.pars = 2) && decide (f4.size = N4.length) && f4.refs.all (fun r => !(asgSs f4.body).contains r) && chkSs fn ⟨N4, defScope s4, fun _ => true, true, tb⟩ f4.body (defBody s4)) = true := by decide +kernel
abbrev s5 : Stmt := topS 10
abbrev N5 : List Str := ["alphabet", "n", "word"]
abbrev P5 : List Str := ["alphabet", "n"]
theorem sc5 : FnScope N5 P5 (defScope s5) := ⟨rfl, rfl, rfl, by decide +kernel, rfl, by decide +kernel, by decide +kernel⟩
theorem ck5 : (decide (P5.length = 2) && decide (f5.pars = 2) && decide (f5.size = N5.length) && f5.refs.all (fun r => !(asgSs f5.body).contains r) && chkSs fn ⟨N5, defScope s5, fun _ => true, true, tb⟩ f5.body (defBody s5)) = true := by decide +kernel
abbrev s6 : Stmt := topS 12
abbrev N6 : List Str := ["script", "seed", "cell"]
abbrev P6 : List Str := ["script"]
theorem sc6 : FnScope N6 P6 (defScope s6) := ⟨rfl, rfl, rfl, by decide +kernel, rfl, by decide +kernel, by decide +kernel⟩
theorem ck6 : (decide (P6.length = 1) && decide (f6.pars = 1) && decide (f6.size = N6.length) && f6.refs.all (fun r => !(asgSs f6.body).contains r) && chkSs fn ⟨N6, defScope s6, fun _ => true, true, tb⟩ f6.body (defBody s6)) = true := by decide +kernel
abbrev s7 : Stmt := topS 13
abbrev N7 : List Str := ["d", "many", "small", "digit"]
abbrev P7 : List Str := ["d", "many"]
theorem sc7 : FnScope N7 P7 (defScope s7) := ⟨rfl, rfl, rfl, by decide +kernel, rfl, by decide +kernel, by decide +kernel⟩
theorem ck7 : (decide (P7.length = 2) && decide (f7.pars = 2) && decide (f7.size = N7.length) && f7.refs.all (fun r => !(asgSs f7.body).contains r) && chkSs fn ⟨N7, defScope s7, fun _ => true, true, tb⟩ f7.body (defBody s7)) = true := by decide +kernel
abbrev s8 : Stmt := topS 14
abbrev N8 : List Str := ["d", "menu"]
abbrev P8 : List Str := ["d", "menu"]
theorem sc8 : FnScope N8 P8 (defScope s8) := ⟨rfl, rfl, rfl, by decide +kernel, rfl, by decide +kernel, by decide +kernel⟩
theorem ck8 : (decide (P8.length = 2) && decide (f8.pars = 2) && decide (f8.size = N8.length) && f8.refs.all (fun r => !(asgSs f8.body).contains r) && chkSs fn ⟨N8, defScope s8, fun _ => true, true, tb⟩ f8.body (defBody s8)) = true := by decide +kernel
abbrev s9 : Stmt := topS 15
abbrev N9 : List Str := ["alphabet", "length", "level", "words", "k"]
abbrev P9 : List Str := ["alphabet", "length"]
theorem sc9 : FnScope N9 P9 (defScope s9) := ⟨rfl, rfl, rfl, by decide +kernel, rfl, by decide +kernel, by decide +kernel⟩
theorem ck9 : (decide (P9.length = 2) && decide (f9.pars = 2) && decide (f9.size = N9.length) && f9.refs.all (fun r => !(asgSs f9.body).contains r) && chkSs fn ⟨N9, defScope s9, fun _ => true, true, tb⟩ f9.body (defBody s9)) = true := by decide +kernel
abbrev s10 : Stmt := topS 16
abbrev N10 : List Str := ["alphabet", "level", "words", "word", "sign"]
abbrev P10 : List Str := ["alphabet", "level"]
theorem sc10 : FnScope N10 P10 (defScope s10) := ⟨rfl, rfl, rfl, by decide +kernel, rfl, by decide +kernel, by decide +kernel⟩
theorem ck10 : (decide (P10.length = 2) && decide (f10.pars = 2) && decide (f10.size = N10.length) && f10.refs.all (fun r => !(asgSs f10.body).contains r) && chkSs fn ⟨N10, defScope s10, fun _ => true, true, tb⟩ f10.body (defBody s10)) = true := by decide +kernel
abbrev s11 : Stmt := topS 17
abbrev N11 : List Str := ["alphabet", "n"]
abbrev P11 : List Str := ["alphabet", "n"]
theorem sc11 : FnScope N11 P11 (defScope s11) := ⟨rfl, rfl, rfl, by decide +kernel, rfl, by decide +kernel, by decide +kernel⟩
theorem ck11 : (decide (P11.length = 2) && decide (f11.pars = 2) && decide (f11.size = N11.length) && f11.refs.all (fun r => !(asgSs f11.body).contains r) && chkSs fn ⟨N11, defScope s11, fun _ => true, true, tb⟩ f11.body (defBody s11)) = true := by decide +kernel
abbrev s12 : Stmt := topS 18
abbrev N12 : List Str := ["alphabet", "n", "word", "closed", "parts", "many", "k", "good", "sign"]
abbrev P12 : List Str := ["alphabet", "n", "word"]
theorem sc12 : FnScope N12 P12 (defScope s12) := ⟨rfl, rfl, rfl, by decide +kernel, rfl, by decide +kernel, by decide +kernel⟩
theorem ck12 : (decide (P12.length = 3) && decide (f12.pars = 3) && decide (f12.size = N12.length) && f12.refs.all (fun r => !(asgSs f12.body).contains r) && chkSs fn ⟨N12, defScope s12, fun _ => true, true, tb⟩ f12.body (defBody s12)) = true := by decide +kernel
abbrev s13 : Stmt := topS 19
abbrev N13 : List Str := ["script", "d", "word", "due", "a", "size", "alphabet", "n", "told", "best", "own", "turn", "at", "sign", "bent", "k"]
abbrev P13 : List Str := ["script"]
theorem sc13 : FnScope N13 P13 (defScope s13) := ⟨rfl, rfl, rfl, by decide +kernel, rfl, by decide +kernel, by decide +kernel⟩
theorem ck13 : (decide (P13.length = 1) && decide (f13.pars = 1) && decide (f13.size = N13.length) && f13.refs.all (fun r => !(asgSs f13.body).contains r) && chkSs fn ⟨N13, defScope s13, fun _ => true, true, tb⟩ f13.body (defBody s13)) = true := by decide +kernel
theorem all_mk {l : PySem.W.OpenLaw} {w : World} {K : PySem.W.Frag} {h : Heap} {mg : Str → Option Value} {fa a0 a1 a2 a3 a4 a5 a6 a7 a8 a9 a10 a11 a12 a13 : Addr} (X : K.In h) (G : h.Ns mainGlobals mg) (hfa : mg "law" = some (.ref fa))
    {od0 an0 od1 an1 od2 an2 od3 an3 od4 an4 od5 an5 od6 an6 od7 an7 od8 an8 od9 an9 od10 an10 od11 an11 od12 an12 od13 an13 : Option Addr} {sl0 sl1 sl2 sl3 sl4 sl5 sl6 sl7 sl8 sl9 sl10 sl11 sl12 sl13 : Array (Option Value)} {oc0 kV0 dc0 pm0 cd0 ct0 oc1 kV1 dc1 pm1 cd1 ct1 oc2 kV2 dc2 pm2 cd2 ct2 oc3 kV3 dc3 pm3 cd3 ct3 oc4 kV4 dc4 pm4 cd4 ct4 oc5 kV5 dc5 pm5 cd5 ct5 oc6 kV6 dc6 pm6 cd6 ct6 oc7 kV7 dc7 pm7 cd7 ct7 oc8 kV8 dc8 pm8 cd8 ct8 oc9 kV9 dc9 pm9 cd9 ct9 oc10 kV10 dc10 pm10 cd10 ct10 oc11 kV11 dc11 pm11 cd11 ct11 oc12 kV12 dc12 pm12 cd12 ct12 oc13 kV13 dc13 pm13 cd13 ct13 : Value}
    (A0 : PySem.W.nsIn K mainGlobals "has_square" = some (some (.ref a0)))
    (LK0 : K.lookup a0 = some ⟨oc0, od0, .func (PySem.W.fnOf "has_square" "has_square" (defArgs s0) (defBody s0) (defScope s0) .none kV0 dc0 pm0 an0 cd0 ct0), sl0⟩)
    (C0 : PySem.W.codeIn K cd0 "has_square" = true) (K0 : PySem.W.keepIn K (.ref a0) = true)
    (A1 : PySem.W.nsIn K mainGlobals "power" = some (some (.ref a1)))
    (LK1 : K.lookup a1 = some ⟨oc1, od1, .func (PySem.W.fnOf "power" "power" (defArgs s1) (defBody s1) (defScope s1) .none kV1 dc1 pm1 an1 cd1 ct1), sl1⟩)
    (C1 : PySem.W.codeIn K cd1 "power" = true) (K1 : PySem.W.keepIn K (.ref a1) = true)
    (A2 : PySem.W.nsIn K mainGlobals "rings" = some (some (.ref a2)))
    (LK2 : K.lookup a2 = some ⟨oc2, od2, .func (PySem.W.fnOf "rings" "rings" (defArgs s2) (defBody s2) (defScope s2) .none kV2 dc2 pm2 an2 cd2 ct2), sl2⟩)
    (C2 : PySem.W.codeIn K cd2 "rings" = true) (K2 : PySem.W.keepIn K (.ref a2) = true)
    (A3 : PySem.W.nsIn K mainGlobals "stands_once" = some (some (.ref a3)))
    (LK3 : K.lookup a3 = some ⟨oc3, od3, .func (PySem.W.fnOf "stands_once" "stands_once" (defArgs s3) (defBody s3) (defScope s3) .none kV3 dc3 pm3 an3 cd3 ct3), sl3⟩)
    (C3 : PySem.W.codeIn K cd3 "stands_once" = true) (K3 : PySem.W.keepIn K (.ref a3) = true)
    (A4 : PySem.W.nsIn K mainGlobals "prime_words" = some (some (.ref a4)))
    (LK4 : K.lookup a4 = some ⟨oc4, od4, .func (PySem.W.fnOf "prime_words" "prime_words" (defArgs s4) (defBody s4) (defScope s4) .none kV4 dc4 pm4 an4 cd4 ct4), sl4⟩)
    (C4 : PySem.W.codeIn K cd4 "prime_words" = true) (K4 : PySem.W.keepIn K (.ref a4) = true)
    (A5 : PySem.W.nsIn K mainGlobals "round_word" = some (some (.ref a5)))
    (LK5 : K.lookup a5 = some ⟨oc5, od5, .func (PySem.W.fnOf "round_word" "round_word" (defArgs s5) (defBody s5) (defScope s5) .none kV5 dc5 pm5 an5 cd5 ct5), sl5⟩)
    (C5 : PySem.W.codeIn K cd5 "round_word" = true) (K5 : PySem.W.keepIn K (.ref a5) = true)
    (A6 : PySem.W.nsIn K mainGlobals "_law_begin" = some (some (.ref a6)))
    (LK6 : K.lookup a6 = some ⟨oc6, od6, .func (PySem.W.fnOf "_law_begin" "_law_begin" (defArgs s6) (defBody s6) (defScope s6) .none kV6 dc6 pm6 an6 cd6 ct6), sl6⟩)
    (C6 : PySem.W.codeIn K cd6 "_law_begin" = true) (K6 : PySem.W.keepIn K (.ref a6) = true)
    (A7 : PySem.W.nsIn K mainGlobals "_law_take" = some (some (.ref a7)))
    (LK7 : K.lookup a7 = some ⟨oc7, od7, .func (PySem.W.fnOf "_law_take" "_law_take" (defArgs s7) (defBody s7) (defScope s7) .none kV7 dc7 pm7 an7 cd7 ct7), sl7⟩)
    (C7 : PySem.W.codeIn K cd7 "_law_take" = true) (K7 : PySem.W.keepIn K (.ref a7) = true)
    (A8 : PySem.W.nsIn K mainGlobals "_law_pick" = some (some (.ref a8)))
    (LK8 : K.lookup a8 = some ⟨oc8, od8, .func (PySem.W.fnOf "_law_pick" "_law_pick" (defArgs s8) (defBody s8) (defScope s8) .none kV8 dc8 pm8 an8 cd8 ct8), sl8⟩)
    (C8 : PySem.W.codeIn K cd8 "_law_pick" = true) (K8 : PySem.W.keepIn K (.ref a8) = true)
    (A9 : PySem.W.nsIn K mainGlobals "_law_all" = some (some (.ref a9)))
    (LK9 : K.lookup a9 = some ⟨oc9, od9, .func (PySem.W.fnOf "_law_all" "_law_all" (defArgs s9) (defBody s9) (defScope s9) .none kV9 dc9 pm9 an9 cd9 ct9), sl9⟩)
    (C9 : PySem.W.codeIn K cd9 "_law_all" = true) (K9 : PySem.W.keepIn K (.ref a9) = true)
    (A10 : PySem.W.nsIn K mainGlobals "_law_longer" = some (some (.ref a10)))
    (LK10 : K.lookup a10 = some ⟨oc10, od10, .func (PySem.W.fnOf "_law_longer" "_law_longer" (defArgs s10) (defBody s10) (defScope s10) .none kV10 dc10 pm10 an10 cd10 ct10), sl10⟩)
    (C10 : PySem.W.codeIn K cd10 "_law_longer" = true) (K10 : PySem.W.keepIn K (.ref a10) = true)
    (A11 : PySem.W.nsIn K mainGlobals "_law_is_large" = some (some (.ref a11)))
    (LK11 : K.lookup a11 = some ⟨oc11, od11, .func (PySem.W.fnOf "_law_is_large" "_law_is_large" (defArgs s11) (defBody s11) (defScope s11) .none kV11 dc11 pm11 an11 cd11 ct11), sl11⟩)
    (C11 : PySem.W.codeIn K cd11 "_law_is_large" = true) (K11 : PySem.W.keepIn K (.ref a11) = true)
    (A12 : PySem.W.nsIn K mainGlobals "_law_once" = some (some (.ref a12)))
    (LK12 : K.lookup a12 = some ⟨oc12, od12, .func (PySem.W.fnOf "_law_once" "_law_once" (defArgs s12) (defBody s12) (defScope s12) .none kV12 dc12 pm12 an12 cd12 ct12), sl12⟩)
    (C12 : PySem.W.codeIn K cd12 "_law_once" = true) (K12 : PySem.W.keepIn K (.ref a12) = true)
    (A13 : PySem.W.nsIn K mainGlobals "law" = some (some (.ref a13)))
    (LK13 : K.lookup a13 = some ⟨oc13, od13, .func (PySem.W.fnOf "law" "law" (defArgs s13) (defBody s13) (defScope s13) .none kV13 dc13 pm13 an13 cd13 ct13), sl13⟩)
    (C13 : PySem.W.codeIn K cd13 "law" = true) (K13 : PySem.W.keepIn K (.ref a13) = true)
    (z0 : PySem.W.nsIn K mainGlobals "len" = some none)
    (z1 : PySem.W.nsIn K mainGlobals "abs" = some none)
    (z2 : PySem.W.nsIn K mainGlobals "int" = some none)
    (z3 : PySem.W.nsIn K mainGlobals "tuple" = some none)
    (z4 : PySem.W.nsIn K mainGlobals "list" = some none)
    (z5 : PySem.W.nsIn K mainGlobals "sum" = some none)
    (z6 : PySem.W.nsIn K mainGlobals "min" = some none)
    (z7 : PySem.W.nsIn K mainGlobals "max" = some none)
    (z8 : PySem.W.nsIn K mainGlobals "any" = some none)
    (z9 : PySem.W.nsIn K mainGlobals "all" = some none)
    (z10 : PySem.W.nsIn K mainGlobals "dict" = some none)
    (z11 : PySem.W.nsIn K mainGlobals "sorted" = some none)
    (z12 : PySem.W.nsIn K mainGlobals "range" = some none)
    (z13 : PySem.W.nsIn K mainGlobals "enumerate" = some none)
    (z14 : PySem.W.nsIn K mainGlobals "zip" = some none)
    (z15 : PySem.W.nsIn K mainGlobals "set" = some none)
    {e0 : Addr}
    (E0 : PySem.W.nsIn K mainGlobals "LargeError" = some (some (.ref e0))) (EK0 : PySem.W.keepIn K (.ref e0) = true)
    (EX0 : PySem.W.excIn K e0 [.type "ValueError", .type "Exception", .type "BaseException", .type "object"] "ValueError.__new__" = true)
    (ES0 : PySem.W.subIn K (.ref e0) (.type "BaseException") = some true) (ET0 : PySem.W.typeIn K (.ref e0) = some (.type "type"))
    (EM00 : PySem.W.subIn K (.ref e0) (.ref e0) = some true)
    (EH0 : PySem.W.hasDictIn K e0 = true)
    {tk0 : Tok} (V0 : PySem.W.nsIn K mainGlobals "MOST_WORDS" = some (some (.int 300 tk0)))
    (n : Nat) : ∃ fd : FuncData, (∀ (s : Shared) (v : Value), BindsTo s fd ⟨[v], []⟩ [("script", v)]) ∧ ∀ base : Heap, K.In base → base.Ns mainGlobals mg → FnOk l.prog w K mg base (L2.CX l.prog w) (n + 1) fa fd ["script"] (spF K XR1 1 (fns T (n + 1) 13)) := by
  have e := hfa.symm.trans (PySem.W.mg_of X G A13)
  cases e
  have F0 := fun_mk (st := s0) LK0 C0 K0
  have b0 := F0.binds (ps := P0) fun _ _ _ _ _ _ us hl => match us, hl with | [_], _ => rfl
  have F1 := fun_mk (st := s1) LK1 C1 K1
  have b1 := F1.binds (ps := P1) fun _ _ _ _ _ _ us hl => match us, hl with | [_, _], _ => rfl
  have F2 := fun_mk (st := s2) LK2 C2 K2
  have b2 := F2.binds (ps := P2) fun _ _ _ _ _ _ us hl => match us, hl with | [_, _], _ => rfl
  have F3 := fun_mk (st := s3) LK3 C3 K3
  have b3 := F3.binds (ps := P3) fun _ _ _ _ _ _ us hl => match us, hl with | [_, _, _], _ => rfl
  have F4 := fun_mk (st := s4) LK4 C4 K4
  have b4 := F4.binds (ps := P4) fun _ _ _ _ _ _ us hl => match us, hl with | [_, _], _ => rfl
  have F5 := fun_mk (st := s5) LK5 C5 K5
  have b5 := F5.binds (ps := P5) fun _ _ _ _ _ _ us hl => match us, hl with | [_, _], _ => rfl
  have F6 := fun_mk (st := s6) LK6 C6 K6
  have b6 := F6.binds (ps := P6) fun _ _ _ _ _ _ us hl => match us, hl with | [_], _ => rfl
  have F7 := fun_mk (st := s7) LK7 C7 K7
  have b7 := F7.binds (ps := P7) fun _ _ _ _ _ _ us hl => match us, hl with | [_, _], _ => rfl
  have F8 := fun_mk (st := s8) LK8 C8 K8
  have b8 := F8.binds (ps := P8) fun _ _ _ _ _ _ us hl => match us, hl with | [_, _], _ => rfl
  have F9 := fun_mk (st := s9) LK9 C9 K9
  have b9 := F9.binds (ps := P9) fun _ _ _ _ _ _ us hl => match us, hl with | [_, _], _ => rfl
  have F10 := fun_mk (st := s10) LK10 C10 K10
  have b10 := F10.binds (ps := P10) fun _ _ _ _ _ _ us hl => match us, hl with | [_, _], _ => rfl
  have F11 := fun_mk (st := s11) LK11 C11 K11
  have b11 := F11.binds (ps := P11) fun _ _ _ _ _ _ us hl => match us, hl with | [_, _], _ => rfl
  have F12 := fun_mk (st := s12) LK12 C12 K12
  have b12 := F12.binds (ps := P12) fun _ _ _ _ _ _ us hl => match us, hl with | [_, _, _], _ => rfl
  have F13 := fun_mk (st := s13) LK13 C13 K13
  have b13 := F13.binds (ps := P13) fun _ _ _ _ _ _ us hl => match us, hl with | [_], _ => rfl
  have blt : ∀ x ∈ bltN, mg x = none := by
    intro x hx
    simp only [bltN, List.mem_cons, List.not_mem_nil, or_false] at hx
    rcases hx with rfl | rfl | rfl | rfl | rfl | rfl | rfl | rfl | rfl | rfl | rfl | rfl | rfl | rfl | rfl | rfl
    · exact PySem.W.mg_none_of X G z0
    · exact PySem.W.mg_none_of X G z1
    · exact PySem.W.mg_none_of X G z2
    · exact PySem.W.mg_none_of X G z3
    · exact PySem.W.mg_none_of X G z4
    · exact PySem.W.mg_none_of X G z5
    · exact PySem.W.mg_none_of X G z6
    · exact PySem.W.mg_none_of X G z7
    · exact PySem.W.mg_none_of X G z8
    · exact PySem.W.mg_none_of X G z9
    · exact PySem.W.mg_none_of X G z10
    · exact PySem.W.mg_none_of X G z11
    · exact PySem.W.mg_none_of X G z12
    · exact PySem.W.mg_none_of X G z13
    · exact PySem.W.mg_none_of X G z14
    · exact PySem.W.mg_none_of X G z15
  have tbk : TbOk K mg tb := by
    refine ⟨fun i nm k hi => ?_, fun i j ni nj ki kj Ci Cj h1 h2 h3 h4 => ?_, fun x i hx => ?_⟩
    · match i, hi with
      | 0, hi => cases hi; exact ⟨_, PySem.W.mg_of X G E0, fun _ => ⟨EK0, EX0, ES0, ET0⟩⟩
      | i + 1, hi => exact nomatch (show (none : Option (Str × Nat)) = some (nm, k) from hi)
    · match i, h1 with
      | 0, h1 =>
        match j, h2 with
        | 0, h2 => cases h1; cases h2; cases (PySem.W.mg_of X G E0).symm.trans h3; cases (PySem.W.mg_of X G E0).symm.trans h4; exact PySem.W.exm_ref ES0 EH0 ET0 EM00
        | j + 1, h2 => exact nomatch (show (none : Option (Str × Nat)) = some (nj, kj) from h2)
      | i + 1, h1 => exact nomatch (show (none : Option (Str × Nat)) = some (ni, ki) from h1)
    · have hm := lookup_mem hx
      simp only [tb, List.mem_cons, List.not_mem_nil, or_false, Prod.mk.injEq] at hm
      rcases hm with ⟨rfl, rfl⟩
      · exact ⟨_, PySem.W.mg_of X G V0⟩
  have D : Defs K mg tb fn T := ⟨tbk, blt, fun i x m hi => by
    match i, hi with
    | 0, hi => cases hi; exact def_mk f0 (PySem.W.mg_of X G A0) F0 b0 sc0 rfl ck0
    | 1, hi => cases hi; exact def_mk f1 (PySem.W.mg_of X G A1) F1 b1 sc1 rfl ck1
    | 2, hi => cases hi; exact def_mk f2 (PySem.W.mg_of X G A2) F2 b2 sc2 rfl ck2
    | 3, hi => cases hi; exact def_mk f3 (PySem.W.mg_of X G A3) F3 b3 sc3 rfl ck3
    | 4, hi => cases hi; exact def_mk f4 (PySem.W.mg_of X G A4) F4 b4 sc4 rfl ck4
    | 5, hi => cases hi; exact def_mk f5 (PySem.W.mg_of X G A5) F5 b5 sc5 rfl ck5
    | 6, hi => cases hi; exact def_mk f6 (PySem.W.mg_of X G A6) F6 b6 sc6 rfl ck6
    | 7, hi => cases hi; exact def_mk f7 (PySem.W.mg_of X G A7) F7 b7 sc7 rfl ck7
    | 8, hi => cases hi; exact def_mk f8 (PySem.W.mg_of X G A8) F8 b8 sc8 rfl ck8
    | 9, hi => cases hi; exact def_mk f9 (PySem.W.mg_of X G A9) F9 b9 sc9 rfl ck9
    | 10, hi => cases hi; exact def_mk f10 (PySem.W.mg_of X G A10) F10 b10 sc10 rfl ck10
    | 11, hi => cases hi; exact def_mk f11 (PySem.W.mg_of X G A11) F11 b11 sc11 rfl ck11
    | 12, hi => cases hi; exact def_mk f12 (PySem.W.mg_of X G A12) F12 b12 sc12 rfl ck12
    | 13, hi => cases hi; exact def_mk f13 (PySem.W.mg_of X G A13) F13 b13 sc13 rfl ck13
    | i + 14, hi => exact nomatch (show (none : Option (Str × Nat)) = some (x, m) from hi)⟩
  refine ⟨PySem.W.fnOf "law" "law" (defArgs s13) (defBody s13) (defScope s13) .none kV13 dc13 pm13 an13 cd13 ct13, fun s v => .of_eq rfl, fun base _ _ => ?_⟩
  have ck := ck13
  simp only [Bool.and_eq_true, decide_eq_true_eq, List.all_eq_true, Bool.not_eq_true'] at ck
  obtain ⟨⟨⟨⟨c1, c2⟩, c3⟩, c4⟩, c5⟩ := ck
  exact spF_top (ok1 tbk blt (D.ok n) F13 sc13 c1 (F := f13) rfl c2 c3 (fun r hr z => by have := c4 r hr; rw [List.contains_iff_mem.mpr z] at this; cases this) c5)
end C_k14

namespace C_k14
open PySem PySem.Spec PyProof.Rows L2 G
open Wk (law_ok_k14)
theorem law_end {K : PySem.W.Frag} {H : Hp} {a : Addr} {ns : List Int} (o : Only H) (s : SqL K H a (ns.map V.int)) : spF K XR1 1 (fns T (4 + 1) 13) [.ref a] H (fun v _ => v = .bl true) fun _ _ _ => False := by
  have h := law_ok_k14 ns
  cases e : fns T (4 + 1) 13 [.fls (ns.map D.int)] with
  | ok d rs =>
    rw [e] at h
    have hd : d = .bl true := h
    subst hd
    exact law_sp e o s
  | er x => rw [e] at h; exact h.elim
  | no => rw [e] at h; exact h.elim
end C_k14
open PySem PySem.W PyProof.Rows
set_option maxHeartbeats 0 in
theorem PySem.Challenge.cw_grammarhall_k14_squares_and_round_words_holds : PySem.Challenge.rw_grammarhall_k14_squares_and_round_words.Holds := by
  w_on; o_law; k_head; (case hw => w_witness2)
  k_fill
  refine L2.walk_of (l := PySem.Challenge.rw_grammarhall_k14_squares_and_round_words) (n := 63) (k := 4 + 1) (x := "script") (CX := fun w => L2.CX PySem.Challenge.rw_grammarhall_k14_squares_and_round_words.prog w) (sp := fun w => G.spF _ G.XR1 1 (G.fns C_k14.T (4 + 1) 13)) rfl (by decide) rfl ⟨rfl, by decide, by decide⟩ (fun w h Y => PySem.W.kIn_of Y) ?F (fun w H a ns hl o hS => C_k14.law_end o hS) (fun _ _ _ _ _ h => G.cx_none h)
  case F =>
    intro w mg fa h KX Gg hmg
    refine' C_k14.all_mk KX Gg hmg ?A0 ?LK0 ?C0 ?K0 ?A1 ?LK1 ?C1 ?K1 ?A2 ?LK2 ?C2 ?K2 ?A3 ?LK3 ?C3 ?K3 ?A4 ?LK4 ?C4 ?K4 ?A5 ?LK5 ?C5 ?K5 ?A6 ?LK6 ?C6 ?K6 ?A7 ?LK7 ?C7 ?K7 ?A8 ?LK8 ?C8 ?K8 ?A9 ?LK9 ?C9 ?K9 ?A10 ?LK10 ?C10 ?K10 ?A11 ?LK11 ?C11 ?K11 ?A12 ?LK12 ?C12 ?K12 ?A13 ?LK13 ?C13 ?K13 ?z0 ?z1 ?z2 ?z3 ?z4 ?z5 ?z6 ?z7 ?z8 ?z9 ?z10 ?z11 ?z12 ?z13 ?z14 ?z15 ?E0 ?EK0 ?EX0 ?ES0 ?ET0 ?EM00 ?EH0 ?V0 4
    (case A0 => k_is); (case LK0 => k_is); (case C0 => k_is); (case K0 => k_is); (case A1 => k_is); (case LK1 => k_is); (case C1 => k_is); (case K1 => k_is); (case A2 => k_is); (case LK2 => k_is); (case C2 => k_is); (case K2 => k_is); (case A3 => k_is); (case LK3 => k_is); (case C3 => k_is); (case K3 => k_is); (case A4 => k_is); (case LK4 => k_is); (case C4 => k_is); (case K4 => k_is); (case A5 => k_is); (case LK5 => k_is); (case C5 => k_is); (case K5 => k_is); (case A6 => k_is); (case LK6 => k_is); (case C6 => k_is); (case K6 => k_is); (case A7 => k_is); (case LK7 => k_is); (case C7 => k_is); (case K7 => k_is); (case A8 => k_is); (case LK8 => k_is); (case C8 => k_is); (case K8 => k_is); (case A9 => k_is); (case LK9 => k_is); (case C9 => k_is); (case K9 => k_is); (case A10 => k_is); (case LK10 => k_is); (case C10 => k_is); (case K10 => k_is); (case A11 => k_is); (case LK11 => k_is); (case C11 => k_is); (case K11 => k_is); (case A12 => k_is); (case LK12 => k_is); (case C12 => k_is); (case K12 => k_is); (case A13 => k_is); (case LK13 => k_is); (case C13 => k_is); (case K13 => k_is); (case z0 => k_is); (case z1 => k_is); (case z2 => k_is); (case z3 => k_is); (case z4 => k_is); (case z5 => k_is); (case z6 => k_is); (case z7 => k_is); (case z8 => k_is); (case z9 => k_is); (case z10 => k_is); (case z11 => k_is); (case z12 => k_is); (case z13 => k_is); (case z14 => k_is); (case z15 => k_is); (case E0 => k_is); (case EK0 => k_is); (case EX0 => first | k_is | k_exc); (case ES0 => first | k_is | k_exc); (case ET0 => first | k_is | k_exc); (case EM00 => first | k_is | k_exc); (case EH0 => k_is); (case V0 => k_is)

