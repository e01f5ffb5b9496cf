import PyProof.Rows.All
import Wide.All
import OpenK.AllK
import Wide.FinOn
import HandS.ForMost
import HandS.ForExc
import HandS.TupAny
import HandS.Wide
import HandS.IsInst
import HandS.Zip
import HandS.Style
import HandS.CallSlots
import KE.DataEq
import KE.GoesNew
import HandS.EndBits
import KE.DatumOrd
import HandS.Deep
import HandS.Conv
import HandS.OwnEq
import PyProof.InstNe
import PyProof.LongRange
import PyProof.ReprRoads
import PyProof.ReprLen
import PyProof.CallFns
import PyProof.ReprReads
import HandS.Lambda
import HandS.EndTab
import HandS.ExcIs
import HandS.ExcOwn
import HandS.SortInts
import HandS.RevRange
import HandS.TryOnly
import HandS.DictComp
import HandS.TupMul
import PySem.Challenge.RW_dotmaps_k37_whole_patterns_judged_and_to
set_option Elab.async false
set_option linter.all false
set_option autoImplicit false
set_option maxRecDepth 100000
/-! FL: a small functional reading of Python: data, owned lists, an interpreter without a heap. -/
namespace FL
open PySem

/-- data, as a tree -/
inductive D where
  | non | bl (b : Bool) | int (i : Int) | str (x : Str)
  | tup (ds : List D) | lst (ds : List D)
  | dct (t : Bool) (kvs : List (D × D))
  | ins (c : Nat) (fs : List (Str × D))
  | fz (ds : List D)
  | kt (ds : List D)

/-- what a slot holds: data, or a thing of its own that may change -/
inductive SV where
  | d (x : D) | o (x : D)
abbrev S := List (Option SV)
/-- what an expression gives: data, a new thing of its own, the thing of a slot -/
inductive AV where
  | d (x : D) | o (x : D) | s (i : Nat)
/-- an exception: its class, its field -/
structure Exn where
  c : Nat
  f : Option D

inductive Out (α : Type) where
  | ok (a : α) (s : S) | ex (x : Exn) (s : S) | no
def Out.bind {α β : Type} (o : Out α) (f : α → S → Out β) : Out β := match o with
  | .ok a s => f a s
  | .ex x s => .ex x s
  | .no => .no

inductive Op where
  | add | sub | mul | fdiv | mod | pow
inductive Cm where
  | lt | le | gt | ge | eq | ne | is | isnot | in_ | notin
inductive Bi where
  | len | abs | int | min2 | max2 | sum | all | any | tuple | list | sorted | rangel1 | rangel2 | repr | str_ | bool_ | min1 | max1 | mint
/-- a class asked for: a built-in one, an own one -/
inductive Cs where
  | tuple | list | int | bool | str | dict | c (n : Nat)
inductive Mt where
  | append | pop0 | pop1 | extend | index | count
/-- a target: a name, or names for a tuple's items -/
inductive Tg where
  | v (i : Nat) | t (is : List Nat)
mutual
inductive E where
  | c (d : D) | g (x : Str) (d : D) | v (i : Nat)
  | op (o : Op) (a b : E) | neg (a : E)
  | not (a : E) | and (a b : E) | or (a b : E)
  | cm (o : Cm) (a b : E) | ch (o p : Cm) (a b c : E)
  | ite (c a b : E)
  | tup (es : Es) | lst (es : Es)
  | ix (a b : E) | sl (a : E) (lo hi : Eo)
  | bi (b : Bi) (es : Es)
  | isi (a : E) (t : Bool) (cs : List Cs)
  | call (f : Nat) (es : Es)
  | callH (f : Nat) (i : Nat) (es : Es)
  | mk (c : Nat) (f : Nat) (es : Es)
  | fld (a : E) (f : Str)
  | mt (m : Mt) (i : Nat) (es : Es)
  | lc (vs : List Nat) (tg : Tg) (it : I) (cond : Eo) (el : E)
  | dnew (t : Bool)
  | trg (t : Bool) (es : Es)
  | rev (a : E) (lo : Eo)
  | eqm (ne : Bool) (c f : Nat) (a b : E)
  | d1 (k : Int) (i : Nat) | xis (k : Nat) | act | lam (g : Nat) (vs : List Nat) (e : E) | lamI (g : Nat) (e : E) | nset (a : E) | dcT (vs : List Nat) (tg : Tg) (it : I) (cond : Eo) (kx : E)
inductive Es where
  | nil | cons (e : E) (es : Es)
inductive Eo where
  | none | some (e : E)
inductive I where
  | e (e : E) | rng (es : Es) | rrng (es : Es) | zip (es : Es) | enum (es : Es)
end
mutual
inductive T where
  | asg (i : Nat) (e : E)
  | asgT (is : List Nat) (e : E)
  | par (is : List Nat) (es : Es)
  | setIx (i : Nat) (b : E) (e : E)
  | setFld (f : Str) (e : E)
  | aug (i : Nat) (o : Op) (e : E)
  | if_ (c : E) (a b : Ts)
  | while_ (c : E) (b : Ts)
  | for_ (tg : Tg) (it : I) (b : Ts)
  | ret (e : E) | retN
  | expr (e : E)
  | pass | brk | cnt
  | raise | rse (c : Nat) | try_ (b : Ts) (i m : Nat) (h : Ts)
inductive Ts where
  | nil | cons (t : T) (ts : Ts)
end

/-! ### values -/
def b2i (b : Bool) : Int := if b then 1 else 0
mutual
def D.plain : D → Bool
  | .non | .bl _ | .int _ | .str _ => true
  | .tup ds | .lst ds => D.plains ds
  | .dct _ _ | .ins _ _ | .fz _ | .kt _ => false
def D.plains : List D → Bool
  | [] => true
  | d :: r => d.plain && D.plains r
end
mutual
/-- what repr is told of: small numbers, plain texts, empty dictionaries, what is made of these -/
def D.rep : D → Bool
  | .non | .bl _ => true
  | .int i => decide (i.natAbs < 2 ^ 200)
  | .str x => x.cps.toList.all fun c => decide (c < 16 ^ 8)
  | .tup ds | .lst ds => D.reps ds
  | .dct t kvs => !t && kvs.isEmpty
  | .ins _ _ | .fz _ | .kt _ => false
def D.reps : List D → Bool
  | [] => true
  | d :: r => d.rep && D.reps r
end
mutual
def D.wt : D → Nat
  | .int _ => 201
  | .str x => x.cps.size
  | .tup ds | .lst ds => D.wts ds
  | _ => 0
def D.wts : List D → Nat
  | [] => 0
  | d :: r => d.wt + 1 + D.wts r
end
mutual
def D.pr : D → PyData
  | .non => .none
  | .bl b => .bool b
  | .int i => .int i
  | .str x => .str x
  | .tup ds => .tuple (D.prs ds)
  | .lst ds => .list (D.prs ds)
  | .dct _ _ => .dict []
  | .ins _ _ => .none
  | .fz _ => .none
  | .kt _ => .none
def D.prs : List D → List PyData
  | [] => []
  | d :: r => d.pr :: D.prs r
end
def reprD (d : D) : Str := d.pr.shown
mutual
/-- numbers, None, what is made of these -/
def D.nos : D → Bool
  | .non | .bl _ | .int _ => true
  | .tup ds | .lst ds => D.noss ds
  | .str _ | .dct _ _ | .ins _ _ | .fz _ | .kt _ => false
def D.noss : List D → Bool
  | [] => true
  | d :: r => d.nos && D.noss r
end
mutual
def D.depth : D → Nat
  | .tup ds | .lst ds => D.depths ds + 1
  | _ => 0
def D.depths : List D → Nat
  | [] => 0
  | d :: r => max d.depth (D.depths r)
end
/-! == as Python has it -/
mutual
def D.eqv : D → D → Bool
  | .non, .non => true
  | .bl a, .bl b => a == b
  | .bl a, .int j => b2i a == j
  | .int i, .bl b => i == b2i b
  | .int i, .int j => i == j
  | .str x, .str y => x == y
  | .tup xs, .tup ys => D.eqvs xs ys
  | .lst xs, .lst ys => D.eqvs xs ys
  | _, _ => false
def D.eqvs : List D → List D → Bool
  | [], [] => true
  | x :: xs, y :: ys => D.eqv x y && D.eqvs xs ys
  | _, _ => false
end
/-- a tuple of the module, seen as a tuple -/
def unk : D → D
  | .kt ds => .tup ds
  | d => d
def okDeep (d : D) : Bool := d.plain && decide (d.depth ≤ 60)
def repOk (d : D) : Bool := d.rep && decide (d.depth ≤ 60) && decide (d.wt ≤ 70000)
def lim : Nat := 100000
def okMul (i j : Int) : Bool := decide (i.natAbs < 2 ^ 64) || decide (j.natAbs < 2 ^ 64) || (decide (i.natAbs < 2 ^ 400000) && decide (j.natAbs < 2 ^ 400000))
def okDiv (j : Int) : Bool := (decide (j ≠ 0) && decide (j.natAbs < 1073741824)) || (decide (j ≠ 0) && decide (j.natAbs < 2 ^ 9000))
def ixN (n : Nat) (i : Int) : Option Nat := if 0 ≤ i then (if i < n then some i.toNat else none) else if -(n : Int) ≤ i then some (i + n).toNat else none
def ixAt {α : Type} (xs : List α) (i : Int) : Option α := (ixN xs.length i).bind fun j => xs[j]?
def clip (n d : Nat) : Option Int → Nat
  | none => d
  | some v => if v < 0 then (v + (n : Int)).toNat else min v.toNat n
def cut {α : Type} (xs : List α) (lo hi : Option Int) : List α := (xs.drop (clip xs.length 0 lo)).take (clip xs.length xs.length hi - clip xs.length 0 lo)

def addD : D → D → Option AV
  | .int i, .int j => some (.d (.int (i + j)))
  | .lst xs, .lst ys => if xs.length + ys.length ≤ lim then some (.o (.lst (xs ++ ys))) else none
  | .tup xs, .tup ys => if xs.length + ys.length ≤ lim then some (.d (.tup (xs ++ ys))) else none
  | _, _ => none
def subD : D → D → Option AV
  | .int i, .int j => some (.d (.int (i - j)))
  | _, _ => none
def mulD : D → D → Option AV
  | .int i, .int j => if okMul i j then some (.d (.int (i * j))) else none
  | .lst xs, .int k => if xs.length * k.toNat ≤ lim ∧ k.natAbs ≤ lim then some (.o (.lst (List.replicate k.toNat xs).flatten)) else none
  | .tup xs, .int k => if k = 1 then some (.d (.tup xs)) else if xs.isEmpty = false ∧ 2 ≤ k ∧ k ≤ 1000 ∧ xs.length ≤ 1000 then some (.d (.tup (List.replicate k.toNat xs).flatten)) else none
  | _, _ => none
def fdivD : D → D → Option AV
  | .int i, .int j => if okDiv j then some (.d (.int (i.fdiv j))) else none
  | _, _ => none
def modD : D → D → Option AV
  | .int i, .int j => if j ≠ 0 then some (.d (.int (i.fmod j))) else none
  | _, _ => none
def powD : D → D → Option AV
  | .int i, .int j => if 0 ≤ j ∧ j ≤ 1000 ∧ i.natAbs < 2 ^ 64 then some (.d (.int (i ^ j.toNat))) else none
  | _, _ => none
def binop : Op → D → D → Option AV
  | .add => addD | .sub => subD | .mul => mulD | .fdiv => fdivD | .mod => modD | .pow => powD
def ltI (f : Int → Int → Bool) : D → D → Option Bool
  | .int i, .int j => some (f i j)
  | _, _ => none
def D.isNon : D → Bool
  | .non => true
  | _ => false
def isBl (c : Bool) : D → Option Bool
  | .bl b => some (b == c)
  | _ => none
def isN (a : D) : D → Option Bool
  | .non => some a.isNon
  | .bl c => isBl c a
  | _ => none
def notN (a : D) : D → Option Bool
  | .non => some (!a.isNon)
  | .bl c => (isBl c a).map (!·)
  | _ => none
def seqOf : D → Option (List D)
  | .lst ds => some ds
  | .tup ds => some ds
  | .fz ds => some ds
  | .kt ds => some ds
  | _ => none
/-! dictionaries: keys are numbers and texts (false), or tuples of these (true) -/
def D.isK : D → Bool
  | .int _ => true
  | .str _ => true
  | _ => false
def D.isKT : D → Bool
  | .tup ds => ds.all D.isK
  | _ => false
def keyOk (t : Bool) (k : D) : Bool := if t = true then k.isKT else k.isK
def dGet (k : D) : List (D × D) → Option D
  | [] => none
  | (q, v) :: r => if q.eqv k = true then some v else dGet k r
def dHas (k : D) (kvs : List (D × D)) : Bool := kvs.any fun p => p.1.eqv k
def dPut (k v : D) (kvs : List (D × D)) : List (D × D) := if dHas k kvs = true then kvs.map (fun p => if p.1.eqv k = true then (p.1, v) else p) else kvs ++ [(k, v)]
def inSeq (a : D) (b : D) : Option Bool := match seqOf b with
  | some ds => if okDeep a && okDeep b then some (ds.any fun z => z.eqv a) else none
  | none => none
def inD (a b : D) : Option Bool := match b with
  | .dct t kvs => if keyOk t a = true then some (dHas a kvs) else none
  | b => inSeq a b
def cmp : Cm → D → D → Option Bool
  | .lt => ltI fun i j => decide (i < j)
  | .le => ltI fun i j => decide (i ≤ j)
  | .gt => ltI fun i j => decide (j < i)
  | .ge => ltI fun i j => decide (j ≤ i)
  | .eq => fun a b => if okDeep (unk a) && okDeep (unk b) then some ((unk a).eqv (unk b)) else none
  | .ne => fun a b => if okDeep (unk a) && okDeep (unk b) then some (!(unk a).eqv (unk b)) else none
  | .is => isN
  | .isnot => notN
  | .in_ => inD
  | .notin => fun a b => (inD a b).map (!·)
def asB : D → Option Bool
  | .bl b => some b
  | _ => none
def asInt : D → Option Int
  | .int i => some i
  | _ => none
def allB : List D → Option (List Bool)
  | [] => some []
  | .bl b :: r => (allB r).map (b :: ·)
  | _ => none
def allI : List D → Option (List Int)
  | [] => some []
  | .int b :: r => (allI r).map (b :: ·)
  | _ => none
def isiOne : D → Cs → Option Bool
  | .non, _ => some false
  | .bl _, .int => some true
  | .bl _, .bool => some true
  | .bl _, _ => some false
  | .int _, .int => some true
  | .int _, _ => some false
  | .str _, .str => some true
  | .str _, _ => some false
  | .tup _, .tuple => some true
  | .tup _, _ => some false
  | .lst _, .list => some true
  | .lst _, _ => some false
  | .ins c _, .c n => some (c == n)
  | .ins _ _, _ => some false
  | .kt _, .tuple => some true
  | .kt _, _ => some false
  | .dct _ _, .dict => some true
  | .dct _ _, _ => some false
  | _, _ => none
def isiAny (d : D) : List Cs → Option Bool
  | [] => some false
  | c :: r => match isiOne d c with
    | some a => match isiAny d r with
      | some b => some (a || b)
      | none => none
    | none => none

/-! ### slots -/
def getS (s : S) (i : Nat) : Option SV := match s[i]? with
  | some x => x
  | none => none
/-- what is seen -/
def view (x : AV) (s : S) : Option D := match x with
  | .d d => some d
  | .o d => some d
  | .s i => match getS s i with
    | some (.o d) => some d
    | some (.d d) => some d
    | none => none
/-- kept while other things are reckoned -/
def pend : AV → AV
  | .o d => .d d
  | x => x
/-- made data for good -/
def frz (x : AV) (s : S) : Option (D × S) := match x with
  | .d d => some (d, s)
  | .o d => some (d, s)
  | .s i => match getS s i with
    | some (.o d) => some (d, s.set i (some (.d d)))
    | some (.d d) => some (d, s)
    | none => none
def frzs : List AV → S → Option (List D × S)
  | [], s => some ([], s)
  | x :: r, s => match frz x s with
    | some (d, s1) => match frzs r s1 with
      | some (ds, s2) => some (d :: ds, s2)
      | none => none
    | none => none
def views : List AV → S → Option (List D)
  | [], _ => some []
  | x :: r, s => match view x s, views r s with
    | some d, some ds => some (d :: ds)
    | _, _ => none
/-- a store into a slot; a locked slot (a bit of lk) holds what was handed in, or what is handled -/
def put (lk : Nat) (s : S) (i : Nat) (v : SV) : Option S := if lk.testBit i = true then none else if i < s.length then some (s.set i (some v)) else none
def putTs (lk : Nat) : S → List Nat → List D → Option S
  | s, [], [] => some s
  | s, i :: is, d :: ds => match put lk s i (.d d) with
    | some s1 => putTs lk s1 is ds
    | none => none
  | _, _, _ => none
/-- how many are written -/
def esLen : Es → Nat
  | .nil => 0
  | .cons _ r => esLen r + 1
def bindTg (lk : Nat) (tg : Tg) (d : D) (s : S) : Option S := match tg with
  | .v i => put lk s i (.d d)
  | .t is => match d with
    | .tup ds => if is.length = ds.length then putTs lk s is ds else none
    | _ => none
def wipeS (vs : List Nat) (s : S) : S := match vs with
  | [] => s
  | v :: r => (wipeS r s).set v none
def noOwn (vs : List Nat) (s : S) : Bool := vs.all fun i => match getS s i with
  | some (.o _) => false
  | _ => true
def restS (vs : List Nat) (s0 s : S) : S := match vs with
  | [] => s
  | v :: r => (restS r s0 s).set v (getS s0 v)
def lookF (f : Str) : List (Str × D) → Option D
  | [] => none
  | (g, d) :: r => if f = g then some d else lookF f r
/-- what a call gives: a value, what became of the thing handed in -/
inductive CO where
  | ok (v : SV) (h : Option SV) | ex (x : Exn) (h : Option SV) | no
abbrev Calls := Nat → Option D → List D → CO
inductive Flow where
  | nx | rt (v : SV) | bk | ct

/-! ### built-ins -/
def maxI : Int → List Int → Int
  | m, [] => m
  | m, x :: r => maxI (if x > m then x else m) r
def minI : Int → List Int → Int
  | m, [] => m
  | m, x :: r => minI (if x < m then x else m) r
/-- ascending -/
def sortI (l : List Int) : List Int := l.mergeSort fun a b => decide (a ≤ b)
/-- tuples of numbers, the first difference decides -/
def ltT : List Int → List Int → Bool
  | [], [] => false
  | [], _ :: _ => true
  | _ :: _, [] => false
  | x :: xs, y :: ys => if x = y then ltT xs ys else decide (x < y)
def minT : List Int → List (List Int) → List Int
  | m, [] => m
  | m, x :: r => minT (if ltT x m = true then x else m) r
def allT : List D → Option (List (List Int))
  | [] => some []
  | .tup ds :: r => match allI ds, allT r with
    | some n, some q => some (n :: q)
    | _, _ => none
  | _ => none
def bltin : Bi → List D → Option AV
  | .len, [.dct false kvs] => some (.d (.int kvs.length))
  | .len, [d] => match seqOf d with
    | some ds => some (.d (.int ds.length))
    | none => none
  | .max1, [d] => match seqOf d with
    | some ds => match allI ds with
      | some (n :: ns) => some (.d (.int (maxI n ns)))
      | _ => none
    | none => none
  | .min1, [d] => match seqOf d with
    | some ds => match allI ds with
      | some (n :: ns) => some (.d (.int (minI n ns)))
      | _ => none
    | none => none
  | .mint, [.lst ds] => match allT ds with
    | some (x :: xs) => some (.d (.tup ((minT x xs).map D.int)))
    | _ => none
  | .abs, [.int i] => some (.d (.int (if i < 0 then -i else i)))
  | .int, [.int i] => some (.d (.int i))
  | .int, [.bl b] => some (.d (.int (b2i b)))
  | .max2, [.int i, .int j] => some (.d (.int (if j > i then j else i)))
  | .min2, [.int i, .int j] => some (.d (.int (if j < i then j else i)))
  | .sum, [.lst ds] => match allI ds with
    | some ns => some (.d (.int ns.sum))
    | none => none
  | .all, [.lst ds] => match allB ds with
    | some bs => some (.d (.bl (bs.all id)))
    | none => none
  | .any, [.lst ds] => match allB ds with
    | some bs => some (.d (.bl (bs.any id)))
    | none => none
  | .tuple, [.lst ds] => some (.d (.tup ds))
  | .tuple, [.tup ds] => some (.d (.tup ds))
  | .list, [.lst ds] => some (.o (.lst ds))
  | .list, [.tup ds] => some (.o (.lst ds))
  | .list, [.dct false kvs] => some (.o (.lst (kvs.map Prod.fst)))
  | .sorted, [.lst ds] => match allI ds with
    | some ns => some (.o (.lst ((sortI ns).map D.int)))
    | none => none
  | .repr, [d] => if repOk d = true then some (.d (.str (reprD d))) else none
  | _, _ => none
def rangeD (lo : Int) (n : Nat) : List D := (List.range n).map fun (i : Nat) => D.int (lo + (i : Int))
def okR (i : Int) : Bool := decide (-(2 ^ 62) ≤ i) && decide (i < 2 ^ 62)
def zipD : List D → List D → List D
  | x :: xs, y :: ys => .tup [x, y] :: zipD xs ys
  | _, _ => []
def enumD : Nat → List D → List D
  | _, [] => []
  | i, x :: xs => .tup [.int (i : Int), x] :: enumD (i + 1) xs
def rngL : List D → Option (List D)
  | [.int n] => if okR n = true then some (rangeD 0 n.toNat) else none
  | [.int m, .int n] => if (okR m && okR n) = true then some (rangeD m (n - m).toNat) else none
  | _ => none
/-- a range that is made a tuple: ends of any size -/
def rngA : List D → Option (List D)
  | [.int n] => some (rangeD 0 n.toNat)
  | [.int m, .int n] => some (rangeD m (n - m).toNat)
  | _ => none
def rngT (t : Bool) (ds : List D) : Option (List D) := if t = true then rngA ds else rngL ds
def zipL : List D → Option (List D)
  | [a, b] => match seqOf a, seqOf b with
    | some xs, some ys => some (zipD xs ys)
    | _, _ => none
  | _ => none
def enumL : List D → Option (List D)
  | [a] => match seqOf a with
    | some xs => some (enumD 0 xs)
    | none => none
  | _ => none
def itemAt (d : D) (i : Int) : Option D := match d with
  | .lst ds => ixAt ds i
  | .tup ds => ixAt ds i
  | .fz ds => ixAt ds i
  | .kt ds => ixAt ds i
  | _ => none
def itemSeq (d : D) : D → Option AV
  | .int i => (itemAt d i).map AV.d
  | _ => none
def itemD (d k : D) : Option AV := match d with
  | .dct t kvs => if keyOk t k = true then (dGet k kvs).map AV.d else none
  | d => itemSeq d k
/-- how many are met from there on backwards -/
def backN (n : Nat) : Option Int → Nat
  | none => n
  | some v => if v < 0 then (v + (n : Int) + 1).toNat else min (v.toNat + 1) n
def cutB {α : Type} (xs : List α) (lo : Option Int) : List α := (xs.take (backN xs.length lo)).reverse
def revOf (d : D) (lo : Option Int) : Option AV := match d with
  | .tup ds => some (.d (.tup (cutB ds lo)))
  | _ => none
def trgOf (t : Bool) (ds : List D) : AV := if t = true then .d (.tup ds) else .o (.lst ds)
def sliceOf (d : D) (lo hi : Option Int) : Option AV := match d with
  | .lst ds => some (.o (.lst (cut ds lo hi)))
  | .fz ds => some (.o (.lst (cut ds lo hi)))
  | .tup ds => some (.d (.tup (cut ds lo hi)))
  | _ => none
def appendD : D → List D → Option (D × AV)
  | .lst ds, [x] => if ds.length < lim then some (.lst (ds ++ [x]), .d .non) else none
  | _, _ => none
def pop0D : D → List D → Option (D × AV)
  | .lst ds, [] => match ds[ds.length - 1]? with
    | some x => some (.lst ds.dropLast, .d x)
    | none => none
  | _, _ => none
def pop1D : D → List D → Option (D × AV)
  | .lst ds, [.int i] => if 0 ≤ i ∧ i < 2 ^ 62 then (match ds[i.toNat]? with
      | some x => some (.lst (ds.eraseIdx i.toNat), .d x)
      | none => none)
    else none
  | _, _ => none
def extendD : D → List D → Option (D × AV)
  | .lst ds, [.lst xs] => if ds.length + xs.length ≤ lim then some (.lst (ds ++ xs), .d .non) else none
  | _, _ => none
def placeD (k : D) : Nat → List D → Option Nat
  | _, [] => none
  | j, x :: r => if x.eqv k = true then some j else placeD k (j + 1) r
def indexD : D → List D → Option (D × AV)
  | .lst ds, [x] => if ((D.lst ds).nos && decide ((D.lst ds).depth ≤ 60) && x.nos && decide (x.depth ≤ 60)) = true then (match placeD x 0 ds with
      | some j => some (.lst ds, .d (.int (j : Int)))
      | none => none)
    else none
  | _, _ => none
def countD : D → List D → Option (D × AV)
  | .lst ds, [x] => if ((D.lst ds).nos && decide ((D.lst ds).depth ≤ 60) && x.nos && decide (x.depth ≤ 60)) = true then some (.lst ds, .d (.int ((ds.countP fun z => z.eqv x : Nat) : Int))) else none
  | _, _ => none
def mtf : Mt → D → List D → Option (D × AV)
  | .index => indexD
  | .count => countD
  | .append => appendD
  | .pop0 => pop0D
  | .pop1 => pop1D
  | .extend => extendD
/-- a value that was handed back -/
def svA : SV → AV
  | .d d => .d d
  | .o d => .o d

/-! ### expressions -/
/-- the turns of a comprehension -/
def lcL (turn : D → S → Out (Option D)) : List D → List D → S → Out (List D)
  | [], acc, s => .ok acc s
  | x :: xs, acc, s => (turn x s).bind fun r s1 => match r with
    | some d => if acc.length < lim then lcL turn xs (acc ++ [d]) s1 else .no
    | none => lcL turn xs acc s1
/-- an exception does not leave a comprehension here -/
def noEx {α : Type} : Out α → Out α
  | .ok a s => .ok a s
  | _ => .no
def ofO {α : Type} (o : Option α) (s : S) : Out α := match o with
  | some a => .ok a s
  | none => .no
/-- a method of a slot's own list -/
def mtD (m : Mt) (i : Nat) (ds : List D) (s : S) : Out AV := match getS s i with
  | some (.o d) => match mtf m d ds with
    | some (d', r) => .ok r (s.set i (some (.o d')))
    | none => .no
  | _ => .no
/-- one turn of a comprehension -/
def lcTurn (lk : Nat) (vs : List Nat) (tg : Tg) (tst : S → Out Bool) (el : S → Out AV) (d : D) (z : S) : Out (Option D) :=
  match bindTg lk tg d (wipeS vs z) with
  | some z1 => (tst z1).bind fun b z2 => if b = true then (el z2).bind fun y z3 => (match frz y z3 with
      | some (r, z4) => .ok (some r) z4
      | none => .no)
    else .ok none z2
  | none => .no
def lcRun (lk : Nat) (vs : List Nat) (tg : Tg) (tst : S → Out Bool) (el : S → Out AV) (ds : List D) (s1 : S) : Out AV :=
  if (noOwn vs s1 && !(vs.any fun i => lk.testBit i)) = true then (lcL (lcTurn lk vs tg tst el) ds [] s1).bind fun rs s2 => .ok (.o (.lst rs)) (restS vs s1 s2) else .no
/-- a dict's keys, one behind another; each stands for True -/
def dk (rs : List D) : List (D × D) := rs.foldl (fun a k => dPut k (.bl true) a) []
def dcTurn (lk : Nat) (vs : List Nat) (tg : Tg) (tst : S → Out Bool) (el : S → Out AV) (d : D) (z : S) : Out (Option D) := (lcTurn lk vs tg tst el d z).bind fun o s => match o with
  | some k => if k.isK = true then .ok (some k) s else .no
  | none => .ok none s
def dcRun (lk : Nat) (vs : List Nat) (tg : Tg) (tst : S → Out Bool) (el : S → Out AV) (ds : List D) (s1 : S) : Out AV :=
  if (noOwn vs s1 && !(vs.any fun i => lk.testBit i)) = true then (lcL (dcTurn lk vs tg tst el) ds [] s1).bind fun rs s2 => .ok (.o (.dct false (dk rs))) (restS vs s1 s2) else .no
/-- how many unlike ones -/
def nsetL (ns : List Int) : List Int := ns.foldl (fun a x => if (a.any (· == x)) = true then a else a ++ [x]) []
/-- a call without a thing handed in -/
def callD (C : Calls) (f : Nat) (ds : List D) (s : S) : Out AV := match C f none ds with
  | .ok (.d d) _ => .ok (.d d) s
  | .ok (.o d) _ => .ok (.o d) s
  | .ex x _ => .ex x s
  | .no => .no
def callHD (C : Calls) (f : Nat) (i : Nat) (ds : List D) (s : S) : Out AV := match getS s i with
  | some (.o h) => match C f (some h) ds with
    | .ok (.d d) (some v) => .ok (.d d) (s.set i (some v))
    | .ok (.o d) (some v) => .ok (.o d) (s.set i (some v))
    | .ex x (some v) => .ex x (s.set i (some v))
    | _ => .no
  | _ => .no
def mkD (C : Calls) (c f : Nat) (ds : List D) (s : S) : Out AV := match C f (some (.ins c [])) ds with
  | .ok (.d .non) (some (.o d)) => .ok (.o d) s
  | _ => .no
def fldD (d : D) (f : Str) : Option AV := match d with
  | .ins _ fs => match lookF f fs with
    | some x => some (.d x)
    | none => none
  | _ => none
/-- == and != of two instances by their class's own == -/
def eqmD (C : Calls) (ne : Bool) (c f : Nat) (d1 d2 : D) (s : S) : Out AV := match d1, d2 with
  | .ins c1 _, .ins c2 _ => if c1 = c ∧ c2 = c then (match C f none [d1, d2] with
      | .ok (.d (.bl k)) _ => .ok (.d (.bl (ne != k))) s
      | _ => .no)
    else .no
  | _, _ => .no
/-- what is stored by a name, handed back -/
def keepV (x : AV) (s : S) : Option (SV × S) := match x with
  | .d d => some (.d d, s)
  | .o d => some (.o d, s)
  | .s i => match frz (.s i) s with
    | some (d, s1) => some (.d d, s1)
    | none => none
def putKs (lk : Nat) : S → List Nat → List SV → Option S
  | s, [], [] => some s
  | s, i :: is, d :: ds => match put lk s i d with
    | some s1 => putKs lk s1 is ds
    | none => none
  | _, _, _ => none
/-! exceptions, what was handed in -/
def xNum : Nat := 1000000
def aNum : Nat := 1000002
def lamNp : Nat := 1000003
/-- no slot has a thing of its own -/
def bare (s : S) : Bool := s.all fun x => match x with
  | some (.o _) => false
  | _ => true
def dropO (s : S) : S := s.map fun x => match x with
  | some (.o _) => none
  | x => x
def frzV : List Nat → S → Option S
  | [], s => some s
  | i :: r, s => match frz (.s i) s with
    | some (_, s1) => frzV r s1
    | none => none
/-- the call of g with a lambda, by what the lambda gives -/
def lamD (C : Calls) (g : Nat) (o : Out AV) (s1 : S) : Out AV := match o with
  | .ok a s2 => match frz a s2 with
    | some (d, _) => noEx (callD C g [.int 0, d] s1)
    | none => .no
  | .ex x _ => match x.f with
    | none => noEx (callD C g [.int 1, .int (x.c : Int)] s1)
    | some _ => .no
  | .no => .no
/-- .. where the def calls it ahead of all -/
def lamE (C : Calls) (g : Nat) (o : Out AV) : Out AV := match o with
  | .ok a s2 => match frz a s2 with
    | some (d, s3) => noEx (callD C g [.int 0, d] s3)
    | none => .no
  | .ex x s2 => match x.f with
    | none => noEx (callD C g [.int 1, .int (x.c : Int)] s2)
    | some _ => .no
  | .no => .no
/-- .. as it is told -/
def encO : CO → List D
  | .ok (.d d) _ => [.int 0, d]
  | .ex x _ => [.int 1, .int (x.c : Int)]
  | _ => []
/-- what the lambda gave -/
def unL : List D → CO
  | [.int i, d] => if i = 0 then .ok (.d d) none else match d with
    | .int c => if 0 ≤ c then .ex ⟨c.toNat, none⟩ none else .no
    | _ => .no
  | _ => .no
/-- where a lambda is at hand -/
def aC (C : Calls) (o : CO) : Calls := fun f h ds => if f = aNum then o else C f h ds
/-- where an exception is handled -/
def xC (C : Calls) (x : Exn) : Calls := fun f h ds => if f = xNum then (match ds with
  | [.int k] => .ok (.d (.bl (decide (k = 0) || decide (k = (x.c : Int) + 1)))) none
  | _ => .no) else C f h ds
variable (C : Calls) (lk : Nat)
mutual
def ev : E → S → Out AV
  | .c d, s => .ok (.d d) s
  | .g _ d, s => .ok (.d d) s
  | .v i, s => match getS s i with
    | some (.d d) => .ok (.d d) s
    | some (.o _) => .ok (.s i) s
    | none => .no
  | .op o a b, s => (ev a s).bind fun x s1 => (ev b s1).bind fun y s2 => match view (pend x) s2, view y s2 with
    | some d1, some d2 => ofO (binop o d1 d2) s2
    | _, _ => .no
  | .neg a, s => (ev a s).bind fun x s1 => match x with
    | .d (.int i) => .ok (.d (.int (-i))) s1
    | _ => .no
  | .not a, s => (ev a s).bind fun x s1 => match x with
    | .d (.bl b) => .ok (.d (.bl (!b))) s1
    | _ => .no
  | .and a b, s => (ev a s).bind fun x s1 => match x with
    | .d (.bl c) => if c = true then ev b s1 else .ok (.d (.bl false)) s1
    | _ => .no
  | .or a b, s => (ev a s).bind fun x s1 => match x with
    | .d (.bl c) => if c = true then .ok (.d (.bl true)) s1 else ev b s1
    | _ => .no
  | .cm o a b, s => (ev a s).bind fun x s1 => (ev b s1).bind fun y s2 => match view (pend x) s2, view y s2 with
    | some d1, some d2 => ofO ((cmp o d1 d2).map fun b => AV.d (.bl b)) s2
    | _, _ => .no
  | .ch o p a b c, s => (ev a s).bind fun x s1 => (ev b s1).bind fun y s2 => match view (pend x) s2, view (pend y) s2 with
    | some d1, some d2 => match cmp o d1 d2 with
      | some k => if k = true then (ev c s2).bind fun z s3 => match view (pend y) s3, view z s3 with
          | some d3, some d4 => ofO ((cmp p d3 d4).map fun b => AV.d (.bl b)) s3
          | _, _ => .no
        else .ok (.d (.bl false)) s2
      | none => .no
    | _, _ => .no
  | .ite c a b, s => (ev c s).bind fun x s1 => match x with
    | .d (.bl k) => if k = true then ev a s1 else ev b s1
    | _ => .no
  | .tup es, s => (evs es s).bind fun ds s1 => .ok (.d (.tup ds)) s1
  | .lst es, s => (evs es s).bind fun ds s1 => .ok (.o (.lst ds)) s1
  | .ix a b, s => (ev a s).bind fun x s1 => (ev b s1).bind fun y s2 => match view (pend x) s2, view y s2 with
    | some d1, some d2 => ofO (itemD d1 d2) s2
    | _, _ => .no
  | .sl a lo hi, s => (ev a s).bind fun x s1 => (evo lo s1).bind fun l s2 => (evo hi s2).bind fun h s3 => match view (pend x) s3 with
    | some d => ofO (sliceOf d l h) s3
    | none => .no
  | .bi b es, s => (evv es s).bind fun xs s1 => match views xs s1 with
    | some ds => ofO (bltin b ds) s1
    | none => .no
  | .isi a _ cs, s => (ev a s).bind fun x s1 => match view (pend x) s1 with
    | some d => ofO ((isiAny d cs).map fun b => AV.d (.bl b)) s1
    | none => .no
  | .call f es, s => (evs es s).bind fun ds s1 => callD C f ds s1
  | .callH f i es, s => match getS s i with
    | some (.o _) => (evs es s).bind fun ds s1 => callHD C f i ds s1
    | _ => .no
  | .mk c f es, s => (evs es s).bind fun ds s1 => mkD C c f ds s1
  | .fld a f, s => (ev a s).bind fun x s1 => match view x s1 with
    | some d => ofO (fldD d f) s1
    | none => .no
  | .mt m i es, s => match getS s i with
    | some (.o (.lst _)) => (evs es s).bind fun ds s1 => mtD m i ds s1
    | _ => .no
  | .dnew t, s => .ok (.o (.dct t [])) s
  | .trg t es, s => (evs es s).bind fun ds s1 => match rngT t ds with
    | some ns => if ns.length ≤ lim then .ok (trgOf t ns) s1 else .no
    | none => .no
  | .rev a lo, s => (ev a s).bind fun x s1 => (evo lo s1).bind fun l s2 => match view (pend x) s2 with
    | some d => ofO (revOf d l) s2
    | none => .no
  | .eqm ne c f a b, s => (ev a s).bind fun x s1 => match frz x s1 with
    | some (d1, s2) => (ev b s2).bind fun y s3 => match frz y s3 with
      | some (d2, s4) => eqmD C ne c f d1 d2 s4
      | none => .no
    | none => .no
  | .d1 k i, s => match frz (.s i) s with
    | some (d, s1) => .ok (.o (.dct false [(.int k, d)])) s1
    | none => .no
  | .xis k, s => callD C xNum [.int (k : Int)] s
  | .act, s => if bare s = true then callD C aNum [] s else .no
  | .lam g vs e, s => match frzV vs s with
    | some s1 => lamD C g (ev e (dropO s1)) s1
    | none => .no
  | .lamI g e, s => lamE C g (ev e s)
  | .nset a, s => (ev a s).bind fun x s1 => match view (pend x) s1 with
    | some (.lst ds) => (match allI ds with
      | some ns => if ns.length ≤ 4000 then .ok (.d (.int (nsetL ns).length)) s1 else .no
      | none => .no)
    | _ => .no
  | .dcT vs tg it cond el, s => noEx ((evi it s).bind fun ds s1 => dcRun lk vs tg (fun z => evc cond z) (fun z => ev el z) ds s1)
  | .lc vs tg it cond el, s => noEx ((evi it s).bind fun ds s1 => lcRun lk vs tg (fun z => evc cond z) (fun z => ev el z) ds s1)
/-- each made data for good -/
def evs : Es → S → Out (List D)
  | .nil, s => .ok [] s
  | .cons e r, s => (ev e s).bind fun x s1 => match frz x s1 with
    | some (d, s2) => (evs r s2).bind fun ds s3 => .ok (d :: ds) s3
    | none => .no
/-- each to be stored: what is new stays one's own -/
def evk : Es → S → Out (List SV)
  | .nil, s => .ok [] s
  | .cons e r, s => (ev e s).bind fun x s1 => match keepV x s1 with
    | some (w, s2) => (evk r s2).bind fun ws s3 => .ok (w :: ws) s3
    | none => .no
/-- seen alone -/
def evv : Es → S → Out (List AV)
  | .nil, s => .ok [] s
  | .cons e r, s => (ev e s).bind fun x s1 => (evv r s1).bind fun xs s2 => .ok (pend x :: xs) s2
/-- a slice's end -/
def evo : Eo → S → Out (Option Int)
  | .none, s => .ok none s
  | .some e, s => (ev e s).bind fun x s1 => match x with
    | .d (.int i) => .ok (some i) s1
    | _ => .no
/-- a clause's test -/
def evc : Eo → S → Out Bool
  | .none, s => .ok true s
  | .some e, s => (ev e s).bind fun x s1 => match x with
    | .d (.bl b) => .ok b s1
    | _ => .no
/-- what is walked -/
def evi : I → S → Out (List D)
  | .e e, s => (ev e s).bind fun x s1 => match frz x s1 with
    | some (d, s2) => ofO (seqOf d) s2
    | none => .no
  | .rng es, s => (evs es s).bind fun ds s1 => ofO (rngL ds) s1
  | .rrng es, s => (evs es s).bind fun ds s1 => ofO ((rngL ds).map List.reverse) s1
  | .zip es, s => (evs es s).bind fun ds s1 => ofO (zipL ds) s1
  | .enum es, s => (evs es s).bind fun ds s1 => ofO (enumL ds) s1
end
def evB (e : E) (s : S) : Out Bool := (ev C lk e s).bind fun x s1 => match x with
  | .d (.bl b) => .ok b s1
  | _ => .no

/-! ### statements -/
def whileN (t : S → Out Bool) (b : S → Out Flow) : Nat → S → Out Flow
  | 0, _ => .no
  | n + 1, s => (t s).bind fun c s1 => if c = true then (b s1).bind fun f s2 => match f with
      | .nx => whileN t b n s2
      | .ct => whileN t b n s2
      | .bk => .ok .nx s2
      | .rt v => .ok (.rt v) s2
    else .ok .nx s1
def Out.isNo {α : Type} : Out α → Prop
  | .no => True
  | _ => False
open Classical in
noncomputable def whileL (t : S → Out Bool) (b : S → Out Flow) (s : S) : Out Flow := if h : ∃ n, ¬ (whileN t b n s).isNo then whileN t b h.choose s else .no
def forL (bind : D → S → Option S) (b : S → Out Flow) : List D → S → Out Flow
  | [], s => .ok .nx s
  | x :: xs, s => match bind x s with
    | some s1 => (b s1).bind fun f s2 => match f with
      | .nx => forL bind b xs s2
      | .ct => forL bind b xs s2
      | .bk => .ok .nx s2
      | .rt v => .ok (.rt v) s2
    | none => .no
def own0 (s : S) : Bool := match getS s 0 with
  | some (.o _) => true
  | _ => false
/-- what is handed back: a local thing goes out as its own, one that was handed in as data -/
def retV (x : AV) (s : S) : Option (SV × S) := match x with
  | .d d => some (.d d, s)
  | .o d => if (lk.testBit 0 && !own0 s) = true then none else some (.o d, s)
  | .s i => if lk.testBit i = true then (match frz (.s i) s with
      | some (d, s1) => some (.d d, s1)
      | none => none)
    else if (lk.testBit 0 && !own0 s) = true then none
    else match getS s i with
      | some (.o d) => some (.o d, s.set i none)
      | _ => none
/-- behind a store -/
def stO : Option S → Out Flow
  | some s => .ok .nx s
  | none => .no
def setIxF (i : Nat) (d : D) (y : AV) (s : S) : Out Flow := match y, getS s i with
  | .d (.int k), some (.o (.lst ds)) => match ixN ds.length k with
    | some j => .ok .nx (s.set i (some (.o (.lst (ds.set j d)))))
    | none => .no
  | .d k, some (.o (.dct t kvs)) => if keyOk t k = true ∧ kvs.length < lim then .ok .nx (s.set i (some (.o (.dct t (dPut k d kvs))))) else .no
  | _, _ => .no
def setFldF (f : Str) (d : D) (s : S) : Out Flow := match getS s 0 with
  | some (.o (.ins c fs)) => if lookF f fs = none ∧ fs.length < 900 then .ok .nx (s.set 0 (some (.o (.ins c (fs ++ [(f, d)]))))) else .no
  | _ => .no
def augI : Op → Option (Int → Int → Int)
  | .add => some fun a b => a + b
  | .sub => some fun a b => a - b
  | _ => none
mutual
noncomputable def ex : Calls → Nat → T → S → Out Flow
  | C, lk, .asg i e, s => (ev C lk e s).bind fun x s1 => match keepV x s1 with
    | some (v, s2) => stO (put lk s2 i v)
    | none => .no
  | C, lk, .asgT is e, s => (ev C lk e s).bind fun x s1 => match x with
    | .d d => stO (bindTg lk (.t is) d s1)
    | .o (.lst ds) => stO (bindTg lk (.t is) (.tup ds) s1)
    | _ => .no
  | C, lk, .par is es, s => (evk C lk es s).bind fun ds s1 => stO (putKs lk s1 is ds)
  | C, lk, .setIx i b e, s => (ev C lk e s).bind fun x s1 => match frz x s1 with
    | some (d, s2) => match getS s2 i with
      | some (.o _) => (ev C lk b s2).bind fun y s3 => setIxF i d y s3
      | _ => .no
    | none => .no
  | C, lk, .setFld f e, s => (ev C lk e s).bind fun x s1 => match frz x s1 with
    | some (d, s2) => setFldF f d s2
    | none => .no
  | C, lk, .aug i o e, s => match getS s i, augI o with
    | some (.d (.int a)), some f => (ev C lk e s).bind fun x s1 => match x with
      | .d (.int b) => stO (put lk s1 i (.d (.int (f a b))))
      | _ => .no
    | _, _ => .no
  | C, lk, .if_ c a b, s => (evB C lk c s).bind fun k s1 => if k = true then exs C lk a s1 else exs C lk b s1
  | C, lk, .while_ c b, s => whileL (fun z => evB C lk c z) (fun z => exs C lk b z) s
  | C, lk, .for_ tg it b, s => (evi C lk it s).bind fun ds s1 => forL (bindTg lk tg) (fun z => exs C lk b z) ds s1
  | C, lk, .ret e, s => (ev C lk e s).bind fun x s1 => match retV lk x s1 with
    | some (v, s2) => .ok (.rt v) s2
    | none => .no
  | _, _, .retN, s => .ok (.rt (.d .non)) s
  | C, lk, .expr e, s => (ev C lk e s).bind fun _ s1 => .ok .nx s1
  | _, _, .pass, s => .ok .nx s
  | _, _, .brk, s => .ok .bk s
  | _, _, .cnt, s => .ok .ct s
  | _, _, .raise, _ => .no
  | _, _, .rse c, s => .ex ⟨c, none⟩ s
  | C, lk, .try_ b i m h, s => if lk.testBit i = true then .no else match exs C lk b s with
    | .ex x s1 => if x.f.isNone = true ∧ i < s1.length ∧ x.c < m then (noEx (exs (xC C x) (lk ||| (1 <<< i)) h (s1.set i none))).bind fun f s2 => .ok f (s2.set i none) else .no
    | o => o
noncomputable def exs : Calls → Nat → Ts → S → Out Flow
  | _, _, .nil, s => .ok .nx s
  | C, lk, .cons t ts, s => (ex C lk t s).bind fun f s1 => match f with
    | .nx => exs C lk ts s1
    | f => .ok f s1
end

/-! ### a program -/
structure Fn where
  n : Nat
  lk : Bool
  np : Nat
  body : Ts
def start (n : Nat) (h : Option D) (ds : List D) : S :=
  let a := (match h with | some x => [some (SV.o x)] | none => []) ++ ds.map fun d => some (SV.d d)
  a ++ List.replicate (n - a.length) none
/-- the lock of a def -/
def ln (lk : Bool) : Nat := if lk = true then 1 else 0
def outOf (lk : Bool) (s : S) : Option SV := if lk = true then getS s 0 else none
noncomputable def callF (P : Nat → Option Fn) : Nat → Calls
  | 0, _, _, _ => .no
  | k + 1, f, h, ds => match P f with
    | some F => if h.isSome = F.lk ∧ ds.length = F.np then match exs (callF P k) (ln F.lk) F.body (start F.n h ds) with
        | .ok (.rt v) s => .ok v (outOf F.lk s)
        | .ok .nx s => .ok (.d .non) (outOf F.lk s)
        | .ok _ _ => .no
        | .ex x s => .ex x (outOf F.lk s)
        | .no => .no
      else if F.np = lamNp ∧ F.lk = false ∧ h = none then match unL ds with
        | .no => .no
        | o => match exs (aC (callF P k) o) 1 F.body (start F.n none []) with
          | .ok (.rt v) _ => .ok v none
          | .ok .nx _ => .ok (.d .non) none
          | _ => .no
      else .no
    | none => .no
end FL

set_option maxHeartbeats 4000000
/-! FS: the functional reading is what the machine does (over the hand layer). Part 1: how data lie in the heap. -/
namespace FL
open PySem PySem.Spec PyProof.Rows L2

def Sub (B H : Hp) : Prop := ∀ b x, B b = some x → H b = some x
theorem Sub.refl (B : Hp) : Sub B B := fun _ _ h => h
theorem Sub.trans {A B C : Hp} (a : Sub A B) (b : Sub B C) : Sub A C := fun c x h => b c x (a c x h)
theorem Sub.nn {A B : Hp} (a : Sub A B) {b : Addr} (h : B b = none) : A b = none := by
  cases e : A b with
  | none => rfl
  | some x => rw [a b x e] at h; cases h
theorem Sub.up {B : Hp} {p : Addr} {o : HO} (h : B p = none) : Sub B (L2.upd B p o) := fun b x e => by
  rw [upd_ne (ne_of_none e h)]; exact e
theorem Sub.rd {B H : Hp} (s : Sub B H) {a : Addr} {u : HO} (h : Rd B a u) : Rd H a u := by
  rcases h with h | ⟨o, h⟩
  · exact .inl (s a _ h)
  · exact .inr ⟨o, s a _ h⟩
theorem Sub.sqL {K : PySem.W.Frag} {B H : Hp} (s : Sub B H) {a : Addr} {xs : List V} (h : SqL K B a xs) : SqL K H a xs := by
  rcases h with h | h
  · exact .inl (s.rd h)
  · exact .inr h
theorem Sub.sqT {K : PySem.W.Frag} {B H : Hp} (s : Sub B H) {a : Addr} {xs : List V} (h : SqT K B a xs) : SqT K H a xs := by
  rcases h with h | h
  · exact .inl (s.rd h)
  · exact .inr h

/-- a key as the machine has it -/
def kD : D → Option L2.Key
  | .int i => some (.inl i)
  | .str x => some (.inr x)
  | _ => none
def kDs : List D → Option (List L2.Key)
  | [] => some []
  | d :: r => match kD d, kDs r with
    | some k, some ks => some (k :: ks)
    | _, _ => none
def kT : D → Option (List L2.Key)
  | .tup ds => kDs ds
  | _ => none
/-- a tuple of the module -/
def KTp (K : PySem.W.Frag) (a : Addr) (vs : List V) : Prop := ∃ (o : Obj) (its : Array Value) (n : Nat), K.lookup a = some o ∧ o.cls = .type "tuple" ∧ o.data = .seq its n ∧ its.size ≤ sizeLine ∧ Vals vs its.toList
mutual
/-- a value is such data, in a heap that stays -/
inductive RD (K : PySem.W.Frag) (cA : Nat → Option Addr) (B : Hp) : D → V → Prop where
  | non : RD K cA B .non .non
  | bl (b : Bool) : RD K cA B (.bl b) (.bl b)
  | int (i : Int) : RD K cA B (.int i) (.int i)
  | str (x : Str) : RD K cA B (.str x) (.str x)
  | tup {ds : List D} {a : Addr} {vs : List V} : B a = some (.tup vs) → RDs K cA B ds vs → RD K cA B (.tup ds) (.ref a)
  | lst {ds : List D} {a : Addr} {vs : List V} : B a = some (.lst vs) → RDs K cA B ds vs → RD K cA B (.lst ds) (.ref a)
  | fz {ds : List D} {a : Addr} {vs : List V} : SqL K B a vs → RDs K cA B ds vs → RD K cA B (.fz ds) (.ref a)
  | kt {ds : List D} {a : Addr} {vs : List V} : KTp K a vs → RDs K cA B ds vs → RD K cA B (.kt ds) (.ref a)
  | ins {c : Nat} {fs : List (Str × D)} {a C dx : Addr} {gs : List (Str × V)} : cA c = some C → B a = some (.ins C dx gs) → RDf K cA B fs gs → RD K cA B (.ins c fs) (.ref a)
  | dK {kvs : List (D × D)} {a : Addr} {ws : List (L2.Key × V)} : B a = some (.dK ws) → RDk K cA B kvs ws → RD K cA B (.dct false kvs) (.ref a)
  | dT {kvs : List (D × D)} {a : Addr} {ws : List (List L2.Key × V)} : B a = some (.dT ws) → RDt K cA B kvs ws → RD K cA B (.dct true kvs) (.ref a)
inductive RDs (K : PySem.W.Frag) (cA : Nat → Option Addr) (B : Hp) : List D → List V → Prop where
  | nil : RDs K cA B [] []
  | cons {d : D} {ds : List D} {v : V} {vs : List V} : RD K cA B d v → RDs K cA B ds vs → RDs K cA B (d :: ds) (v :: vs)
inductive RDf (K : PySem.W.Frag) (cA : Nat → Option Addr) (B : Hp) : List (Str × D) → List (Str × V) → Prop where
  | nil : RDf K cA B [] []
  | cons {f : Str} {d : D} {ds : List (Str × D)} {v : V} {vs : List (Str × V)} : RD K cA B d v → RDf K cA B ds vs → RDf K cA B ((f, d) :: ds) ((f, v) :: vs)
inductive RDk (K : PySem.W.Frag) (cA : Nat → Option Addr) (B : Hp) : List (D × D) → List (L2.Key × V) → Prop where
  | nil : RDk K cA B [] []
  | cons {k d : D} {kvs : List (D × D)} {q : L2.Key} {v : V} {ws : List (L2.Key × V)} : kD k = some q → RD K cA B d v → RDk K cA B kvs ws → RDk K cA B ((k, d) :: kvs) ((q, v) :: ws)
inductive RDt (K : PySem.W.Frag) (cA : Nat → Option Addr) (B : Hp) : List (D × D) → List (List L2.Key × V) → Prop where
  | nil : RDt K cA B [] []
  | cons {k d : D} {kvs : List (D × D)} {q : List L2.Key} {v : V} {ws : List (List L2.Key × V)} : kT k = some q → RD K cA B d v → RDt K cA B kvs ws → RDt K cA B ((k, d) :: kvs) ((q, v) :: ws)
end
section
variable {K : PySem.W.Frag} {cA : Nat → Option Addr} {B B' H : Hp}
mutual
theorem RD.mono (s : Sub B B') : ∀ {d : D} {v : V}, RD K cA B d v → RD K cA B' d v
  | _, _, .non => .non
  | _, _, .bl b => .bl b
  | _, _, .int i => .int i
  | _, _, .str x => .str x
  | _, _, .tup h r => .tup (s _ _ h) (RDs.mono s r)
  | _, _, .dK h r => .dK (s _ _ h) (RDk.mono s r)
  | _, _, .dT h r => .dT (s _ _ h) (RDt.mono s r)
  | _, _, .lst h r => .lst (s _ _ h) (RDs.mono s r)
  | _, _, .fz h r => .fz (s.sqL h) (RDs.mono s r)
  | _, _, .kt h r => .kt h (RDs.mono s r)
  | _, _, .ins c h r => .ins c (s _ _ h) (RDf.mono s r)
theorem RDs.mono (s : Sub B B') : ∀ {d : List D} {v : List V}, RDs K cA B d v → RDs K cA B' d v
  | _, _, .nil => .nil
  | _, _, .cons h r => .cons (RD.mono s h) (RDs.mono s r)
theorem RDf.mono (s : Sub B B') : ∀ {d : List (Str × D)} {v : List (Str × V)}, RDf K cA B d v → RDf K cA B' d v
  | _, _, .nil => .nil
  | _, _, .cons h r => .cons (RD.mono s h) (RDf.mono s r)
theorem RDk.mono (s : Sub B B') : ∀ {d : List (D × D)} {v : List (L2.Key × V)}, RDk K cA B d v → RDk K cA B' d v
  | _, _, .nil => .nil
  | _, _, .cons e h r => .cons e (RD.mono s h) (RDk.mono s r)
theorem RDt.mono (s : Sub B B') : ∀ {d : List (D × D)} {v : List (List L2.Key × V)}, RDt K cA B d v → RDt K cA B' d v
  | _, _, .nil => .nil
  | _, _, .cons e h r => .cons e (RD.mono s h) (RDt.mono s r)
end
theorem RDs.length : ∀ {d : List D} {v : List V}, RDs K cA B d v → d.length = v.length
  | _, _, .nil => rfl
  | _, _, .cons _ r => by rw [List.length_cons, List.length_cons, RDs.length r]
theorem RDf.length : ∀ {d : List (Str × D)} {v : List (Str × V)}, RDf K cA B d v → d.length = v.length
  | _, _, .nil => rfl
  | _, _, .cons _ r => by rw [List.length_cons, List.length_cons, RDf.length r]
theorem RDs.get : ∀ {ds : List D} {vs : List V} {i : Nat} {d : D}, RDs K cA B ds vs → ds[i]? = some d → ∃ v, vs[i]? = some v ∧ RD K cA B d v
  | _, _, 0, _, .cons h _, e => by
    rw [List.getElem?_cons_zero] at e; cases e; exact ⟨_, rfl, h⟩
  | _, _, i + 1, d, .cons _ r, e => by
    rw [List.getElem?_cons_succ] at e
    obtain ⟨v, h1, h2⟩ := RDs.get r e
    exact ⟨v, by rw [List.getElem?_cons_succ]; exact h1, h2⟩
  | _, _, _, _, .nil, e => by simp at e
theorem RDs.getV : ∀ {ds : List D} {vs : List V} {i : Nat} {v : V}, RDs K cA B ds vs → vs[i]? = some v → ∃ d, ds[i]? = some d ∧ RD K cA B d v
  | _, _, 0, _, .cons h _, e => by
    rw [List.getElem?_cons_zero] at e; cases e; exact ⟨_, rfl, h⟩
  | _, _, i + 1, d, .cons _ r, e => by
    rw [List.getElem?_cons_succ] at e
    obtain ⟨v, h1, h2⟩ := RDs.getV r e
    exact ⟨v, by rw [List.getElem?_cons_succ]; exact h1, h2⟩
  | _, _, _, _, .nil, e => by simp at e
theorem RDs.append : ∀ {a : List D} {va : List V} {b : List D} {vb : List V}, RDs K cA B a va → RDs K cA B b vb → RDs K cA B (a ++ b) (va ++ vb)
  | _, _, _, _, .nil, s => s
  | _, _, _, _, .cons h r, s => .cons h (RDs.append r s)
theorem RDs.take : ∀ {a : List D} {va : List V} (n : Nat), RDs K cA B a va → RDs K cA B (a.take n) (va.take n)
  | _, _, 0, _ => .nil
  | _, _, _ + 1, .nil => .nil
  | _, _, n + 1, .cons h r => .cons h (RDs.take n r)
theorem RDs.drop : ∀ {a : List D} {va : List V} (n : Nat), RDs K cA B a va → RDs K cA B (a.drop n) (va.drop n)
  | _, _, 0, r => r
  | _, _, _ + 1, .nil => .nil
  | _, _, n + 1, .cons _ r => RDs.drop n r
theorem RDs.set {d : D} {v : V} (h : RD K cA B d v) : ∀ {a : List D} {va : List V} (n : Nat), RDs K cA B a va → RDs K cA B (a.set n d) (va.set n v)
  | _, _, _, .nil => .nil
  | _, _, 0, .cons _ r => .cons h r
  | _, _, n + 1, .cons q r => .cons q (RDs.set h n r)
theorem RDs.eraseIdx : ∀ {a : List D} {va : List V} (n : Nat), RDs K cA B a va → RDs K cA B (a.eraseIdx n) (va.eraseIdx n)
  | _, _, _, .nil => .nil
  | _, _, 0, .cons _ r => r
  | _, _, n + 1, .cons q r => .cons q (RDs.eraseIdx n r)
theorem RDs.dropLast : ∀ {a : List D} {va : List V}, RDs K cA B a va → RDs K cA B a.dropLast va.dropLast
  | _, _, .nil => .nil
  | _, _, .cons _ .nil => .nil
  | _, _, .cons q (.cons q' r) => .cons q (RDs.dropLast (.cons q' r))
theorem RDs.replicate {d : D} {v : V} (h : RD K cA B d v) : ∀ n : Nat, RDs K cA B (List.replicate n d) (List.replicate n v)
  | 0 => .nil
  | n + 1 => .cons h (RDs.replicate h n)
theorem RDs.flatRep {a : List D} {va : List V} (h : RDs K cA B a va) : ∀ n : Nat, RDs K cA B (List.replicate n a).flatten (List.replicate n va).flatten
  | 0 => .nil
  | n + 1 => by
    rw [List.replicate_succ, List.replicate_succ, List.flatten_cons, List.flatten_cons]
    exact h.append (RDs.flatRep h n)
theorem RDf.look : ∀ {fs : List (Str × D)} {gs : List (Str × V)} {f : Str} {d : D}, RDf K cA B fs gs → lookF f fs = some d → ∃ v, gs.lookup f = some v ∧ RD K cA B d v
  | (g, _) :: _, _, f, d, .cons h r, e => by
    unfold lookF at e
    by_cases q : f = g
    · rw [if_pos q] at e
      cases e
      subst q
      exact ⟨_, by rw [List.lookup_cons]; simp, h⟩
    · rw [if_neg q] at e
      obtain ⟨v, h1, h2⟩ := RDf.look r e
      refine ⟨v, ?_, h2⟩
      rw [List.lookup_cons]
      have : (f == g) = false := by simpa using q
      rw [this]; exact h1
  | _, _, _, _, .nil, e => by cases e
theorem RDf.noLook : ∀ {fs : List (Str × D)} {gs : List (Str × V)} {f : Str}, RDf K cA B fs gs → lookF f fs = none → ∀ v, putF f v gs = gs ++ [(f, v)]
  | _, _, _, .nil, _ => fun _ => rfl
  | (g, _) :: _, _, f, .cons h r, e => fun v => by
    unfold lookF at e
    by_cases q : f = g
    · rw [if_pos q] at e; cases e
    · rw [if_neg q] at e
      unfold putF
      have q' : ¬ g = f := fun z => q z.symm
      first
        | rw [if_neg q']
        | rw [if_neg q]
      rw [RDf.noLook r e v]; rfl
theorem RDf.append : ∀ {a : List (Str × D)} {va : List (Str × V)} {b : List (Str × D)} {vb : List (Str × V)}, RDf K cA B a va → RDf K cA B b vb → RDf K cA B (a ++ b) (va ++ vb)
  | _, _, _, _, .nil, s => s
  | _, _, _, _, .cons h r, s => .cons h (RDf.append r s)
theorem RDs.ints : ∀ {ds : List D} {vs : List V} {ns : List Int}, RDs K cA B ds vs → allI ds = some ns → vs = ns.map V.int
  | _, _, _, .nil, e => by cases e; rfl
  | _, _, _, .cons (.int i) r, e => by
    unfold allI at e
    cases q : allI _ with
    | none => rw [q] at e; cases e
    | some ms => rw [q] at e; cases e; rw [RDs.ints r q]; rfl
theorem RDs.bools : ∀ {ds : List D} {vs : List V} {ns : List Bool}, RDs K cA B ds vs → allB ds = some ns → vs = ns.map V.bl
  | _, _, _, .nil, e => by cases e; rfl
  | _, _, _, .cons (.bl i) r, e => by
    unfold allB at e
    cases q : allB _ with
    | none => rw [q] at e; cases e
    | some ms => rw [q] at e; cases e; rw [RDs.bools r q]; rfl

/-! ### a thing of its own; what is seen -/
inductive OwnAt (K : PySem.W.Frag) (cA : Nat → Option Addr) (B H : Hp) (a : Addr) : D → Prop where
  | lst {ds : List D} {vs : List V} : H a = some (.lst vs) → RDs K cA B ds vs → OwnAt K cA B H a (.lst ds)
  | ins {c : Nat} {fs : List (Str × D)} {C dx : Addr} {gs : List (Str × V)} : cA c = some C → H a = some (.ins C dx gs) → RDf K cA B fs gs → OwnAt K cA B H a (.ins c fs)
  | dK {kvs : List (D × D)} {ws : List (L2.Key × V)} : H a = some (.dK ws) → RDk K cA B kvs ws → OwnAt K cA B H a (.dct false kvs)
  | dT {kvs : List (D × D)} {ws : List (List L2.Key × V)} : H a = some (.dT ws) → RDt K cA B kvs ws → OwnAt K cA B H a (.dct true kvs)
theorem OwnAt.mono {a : Addr} {d : D} (s : Sub B B') (h : OwnAt K cA B H a d) : OwnAt K cA B' H a d := by
  cases h with
  | lst h r => exact .lst h (r.mono s)
  | ins c h r => exact .ins c h (r.mono s)
  | dK h r => exact .dK h (r.mono s)
  | dT h r => exact .dT h (r.mono s)
theorem OwnAt.heap {H' : Hp} {a : Addr} {d : D} (e : H' a = H a) (h : OwnAt K cA B H a d) : OwnAt K cA B H' a d := by
  cases h with
  | lst h r => exact .lst (e.trans h) r
  | ins c h r => exact .ins c (e.trans h) r
  | dK h r => exact .dK (e.trans h) r
  | dT h r => exact .dT (e.trans h) r
theorem OwnAt.some_ {a : Addr} {d : D} (h : OwnAt K cA B H a d) : ∃ o, H a = some o ∧ ∀ B' : Hp, Sub B B' → B' a = some o → RD K cA B' d (.ref a) := by
  cases h with
  | lst h r => exact ⟨_, h, fun B' s e => .lst e (r.mono s)⟩
  | ins c h r => exact ⟨_, h, fun B' s e => .ins c e (r.mono s)⟩
  | dK h r => exact ⟨_, h, fun B' s e => .dK e (r.mono s)⟩
  | dT h r => exact ⟨_, h, fun B' s e => .dT e (r.mono s)⟩
theorem OwnAt.no_ {a : Addr} {d : D} (h : OwnAt K cA B H a d) : (∀ ps, H a ≠ some (.tbl ps)) ∧ ∀ q, H a ≠ some (LamX.CodeO a q) := by
  unfold LamX.CodeO
  cases h with
  | lst h r => rw [h]; exact ⟨fun ps z => (nomatch z), fun q z => (nomatch z)⟩
  | ins c h r => rw [h]; exact ⟨fun ps z => (nomatch z), fun q z => (nomatch z)⟩
  | dK h r => rw [h]; exact ⟨fun ps z => (nomatch z), fun q z => (nomatch z)⟩
  | dT h r => rw [h]; exact ⟨fun ps z => (nomatch z), fun q z => (nomatch z)⟩
/-- seen now: the top in the heap, what is below in what stays -/
inductive RT (K : PySem.W.Frag) (cA : Nat → Option Addr) (B H : Hp) : D → V → Prop where
  | d {d : D} {v : V} : RD K cA B d v → RT K cA B H d v
  | o {a : Addr} {d : D} : OwnAt K cA B H a d → RT K cA B H d (.ref a)
theorem RT.toH {d : D} {v : V} (s : Sub B H) (h : RT K cA B H d v) : RD K cA H d v := by
  cases h with
  | d h => exact h.mono s
  | o h =>
    obtain ⟨o, e, q⟩ := h.some_
    exact q H s e
theorem RT.lst_inv {ds : List D} {v : V} (s : Sub B H) (h : RT K cA B H (.lst ds) v) : ∃ a vs, v = .ref a ∧ H a = some (.lst vs) ∧ RDs K cA B ds vs := by
  cases h with
  | d h => cases h with | lst h r => exact ⟨_, _, rfl, s _ _ h, r⟩
  | o h => cases h with | lst h r => exact ⟨_, _, rfl, h, r⟩
theorem RT.kt_inv {ds : List D} {v : V} (h : RT K cA B H (.kt ds) v) (s : Sub B H) : ∃ a vs, v = .ref a ∧ KTp K a vs ∧ RDs K cA B ds vs := by
  cases h with
  | d h => cases h with | kt h r => exact ⟨_, _, rfl, h, r⟩
  | o h => cases h
theorem RT.fz_inv {ds : List D} {v : V} (s : Sub B H) (h : RT K cA B H (.fz ds) v) : ∃ a vs, v = .ref a ∧ SqL K H a vs ∧ RDs K cA B ds vs := by
  cases h with
  | d h => cases h with | fz h r => exact ⟨_, _, rfl, s.sqL h, r⟩
  | o h => cases h
theorem RT.tupX_inv {ds : List D} {v : V} (s : Sub B H) (h : RT K cA B H (.tup ds) v) : ∃ a vs, v = .ref a ∧ H a = some (.tup vs) ∧ RDs K cA B ds vs := by
  cases h with
  | d h => cases h with | tup h r => exact ⟨_, _, rfl, s _ _ h, r⟩
  | o h => cases h
theorem RT.tup_inv {ds : List D} {v : V} (s : Sub B H) (h : RT K cA B H (.tup ds) v) : ∃ a vs, v = .ref a ∧ SqT K H a vs ∧ RDs K cA B ds vs := by
  obtain ⟨a, vs, e, h1, r⟩ := h.tupX_inv s
  exact ⟨a, vs, e, .inl (.inl h1), r⟩
theorem RT.dK_inv {kvs : List (D × D)} {v : V} (s : Sub B H) (h : RT K cA B H (.dct false kvs) v) : ∃ a ws, v = .ref a ∧ H a = some (.dK ws) ∧ RDk K cA B kvs ws := by
  cases h with
  | d h => cases h with | dK h r => exact ⟨_, _, rfl, s _ _ h, r⟩
  | o h => cases h with | dK h r => exact ⟨_, _, rfl, h, r⟩
theorem RT.dT_inv {kvs : List (D × D)} {v : V} (s : Sub B H) (h : RT K cA B H (.dct true kvs) v) : ∃ a ws, v = .ref a ∧ H a = some (.dT ws) ∧ RDt K cA B kvs ws := by
  cases h with
  | d h => cases h with | dT h r => exact ⟨_, _, rfl, s _ _ h, r⟩
  | o h => cases h with | dT h r => exact ⟨_, _, rfl, h, r⟩
/-- a list, a tuple, the script -/
theorem RT.seq {d : D} {ds : List D} {v : V} (s : Sub B H) (h : RT K cA B H d v) (e : seqOf d = some ds) : ∃ a vs, v = .ref a ∧ (SqL K H a vs ∨ SqT K H a vs) ∧ RDs K cA B ds vs := by
  cases d with
  | lst xs =>
    cases e
    obtain ⟨a, vs, h1, h2, h3⟩ := h.lst_inv s
    exact ⟨a, vs, h1, .inl (.inl (.inl h2)), h3⟩
  | tup xs =>
    cases e
    obtain ⟨a, vs, h1, h2, h3⟩ := h.tup_inv s
    exact ⟨a, vs, h1, .inr h2, h3⟩
  | kt xs =>
    cases e
    obtain ⟨a, vs, h1, h2, h3⟩ := h.kt_inv s
    exact ⟨a, vs, h1, .inr (.inr h2), h3⟩
  | fz xs =>
    cases e
    obtain ⟨a, vs, h1, h2, h3⟩ := h.fz_inv s
    exact ⟨a, vs, h1, .inl h2, h3⟩
  | _ => cases e
theorem RT.ins_inv {c : Nat} {fs : List (Str × D)} {v : V} (s : Sub B H) (h : RT K cA B H (.ins c fs) v) : ∃ a C dx gs, v = .ref a ∧ cA c = some C ∧ H a = some (.ins C dx gs) ∧ RDf K cA B fs gs := by
  cases h with
  | d h => cases h with | ins c h r => exact ⟨_, _, _, _, rfl, c, s _ _ h, r⟩
  | o h => cases h with | ins c h r => exact ⟨_, _, _, _, rfl, c, h, r⟩
theorem RT.int_inv {i : Int} {v : V} (h : RT K cA B H (.int i) v) : v = .int i := by
  cases h with
  | d h => cases h; rfl
  | o h => cases h
theorem RT.bl_inv {i : Bool} {v : V} (h : RT K cA B H (.bl i) v) : v = .bl i := by
  cases h with
  | d h => cases h; rfl
  | o h => cases h
theorem RT.non_inv {v : V} (h : RT K cA B H .non v) : v = .non := by
  cases h with
  | d h => cases h; rfl
  | o h => cases h
theorem RT.str_inv {i : Str} {v : V} (h : RT K cA B H (.str i) v) : v = .str i := by
  cases h with
  | d h => cases h; rfl
  | o h => cases h
theorem RD.int_inv {i : Int} {v : V} (h : RD K cA B (.int i) v) : v = .int i := by cases h; rfl
theorem RD.bl_inv {i : Bool} {v : V} (h : RD K cA B (.bl i) v) : v = .bl i := by cases h; rfl
theorem RD.non_inv {v : V} (h : RD K cA B .non v) : v = .non := by cases h; rfl
end

/-! ### the slots -/
/-- the exceptions' classes; the tables of code objects -/
structure XT where
  a : Nat → Addr
  T : List (Addr × Str)
/-- a heap without its tables -/
def nt (H : Hp) : Hp := fun b => match H b with
  | some (.tbl _) => none
  | x => x
theorem nt_none {H : Hp} {b : Addr} (h : H b = none) : nt H b = none := by unfold nt; rw [h]
theorem nt_some {H : Hp} {b : Addr} {x : HO} (h : nt H b = some x) : H b = some x := by
  unfold nt at h
  split at h
  · cases h
  · exact h
theorem nt_of {H : Hp} {b : Addr} {x : HO} (h : H b = some x) (n : ∀ ps, x ≠ .tbl ps) : nt H b = some x := by
  unfold nt
  split
  · rename_i ps e
    rw [h] at e
    cases e
    exact absurd rfl (n ps)
  · exact h
theorem nt_upd_ne {H : Hp} {p b : Addr} {o : HO} (h : b ≠ p) : nt (upd H p o) b = nt H b := by unfold nt; rw [upd_ne h]
theorem nt_nn {H : Hp} {b : Addr} {ps : Array Value} (h : H b = some (.tbl ps)) : nt H b = none := by unfold nt; rw [h]
theorem nt_no {H : Hp} {b : Addr} {x : HO} (h : nt H b = some x) (ps : Array Value) : x ≠ .tbl ps := fun e => by
  have := nt_some h
  rw [e] at this
  rw [nt_nn this] at h
  cases h
/-- the tables stand, and none is data -/
structure TabOk (T : List (Addr × Str)) (B H : Hp) : Prop where
  nb : ∀ b ps, B b ≠ some (.tbl ps)
  ts : ∀ p ∈ T, LamX.TabS H p.1 p.2
theorem TabOk.up {T : List (Addr × Str)} {B H : Hp} (t : TabOk T B H) {p : Addr} {o : HO} (h : H p = none) : TabOk T B (upd H p o) := ⟨t.nb, fun q hq => (t.ts q hq).ext fun b x e => by rw [upd_ne (ne_of_none e h)]; exact e⟩
theorem TabOk.inB {T : List (Addr × Str)} {B H : Hp} (t : TabOk T B H) {p : Addr} {o : HO} (h : ∀ ps, o ≠ .tbl ps) : TabOk T (upd B p o) H := ⟨fun b ps => by
  by_cases q : b = p
  · rw [q, upd_same]
    exact fun z => h ps (Option.some.inj z)
  · rw [upd_ne q]
    exact t.nb b ps, t.ts⟩
/-- a thing that is no table is changed for another one -/
theorem TabOk.ch {T : List (Addr × Str)} {B H : Hp} (t : TabOk T B H) {p : Addr} {o : HO} (h : ∀ ps, H p ≠ some (.tbl ps)) (h2 : ∀ q, H p ≠ some (LamX.CodeO p q)) : TabOk T B (upd H p o) := ⟨t.nb, fun q hq => by
  obtain ⟨ps, e, e3, e4⟩ := t.ts q hq
  refine ⟨ps, ?_, e3, fun pos cv hc => ?_⟩
  · rw [upd_ne (fun z => h ps (by rw [← z]; exact e))]; exact e
  · obtain ⟨c, g1, g2⟩ := e4 pos cv hc
    refine ⟨c, g1, ?_⟩
    rw [upd_ne (fun z => h2 q.2 (by rw [← z]; exact g2))]
    exact g2⟩
/-- what is fixed while a body runs: what the heap held, what stood, what was handed in -/
structure Zn where
  K : PySem.W.Frag
  cA : Nat → Option Addr
  xA : XT
  H0 : Hp
  B0 : Hp
  wr : Addr → Prop
  lk : Nat
  ha : Nat → Addr
structure Own (Z : Zn) (B H : Hp) (a : Addr) (d : D) : Prop where
  out : B a = none
  mine : Z.H0 a = none ∨ Z.wr a
  own : OwnAt Z.K Z.cA B H a d
structure Rep (Z : Zn) (B : Hp) (s : S) (σ : L2.St) (H : Hp) : Prop where
  len : s.length = σ.length
  sub : Sub B H
  fr : ∀ b x, Z.H0 b = some x → ¬ Z.wr b → H b = some x
  dom : ∀ b, nt H b = none → Z.H0 b = none
  tab : TabOk Z.xA.T B H
  b0 : Sub Z.B0 B
  bn : ∀ b x, B b = some x → Z.B0 b = some x ∨ Z.H0 b = none ∨ Z.wr b
  dat : ∀ i d, getS s i = some (.d d) → ∃ v, σ[i]? = some (some v) ∧ RD Z.K Z.cA B d v
  own : ∀ i d, getS s i = some (.o d) → ∃ a, σ[i]? = some (some (.ref a)) ∧ Own Z B H a d
  dis : ∀ i j d e a, getS s i = some (.o d) → getS s j = some (.o e) → σ[i]? = some (some (.ref a)) → σ[j]? = some (some (.ref a)) → i = j
  lk0 : ∀ i, Z.lk.testBit i = true → σ[i]? = some (some (.ref (Z.ha i)))
/-- no slot's own thing stands at a -/
def Apart (s : S) (σ : L2.St) (a : Addr) : Prop := ∀ i d, getS s i = some (.o d) → σ[i]? ≠ some (some (.ref a))
/-- what an expression gave -/
inductive RA (Z : Zn) (B H : Hp) (s : S) (σ : L2.St) : AV → V → Prop where
  | d {d : D} {v : V} : RD Z.K Z.cA B d v → RA Z B H s σ (.d d) v
  | o {d : D} {a : Addr} : Own Z B H a d → Apart s σ a → RA Z B H s σ (.o d) (.ref a)
  | s {i : Nat} {v : V} : σ[i]? = some (some v) → RA Z B H s σ (.s i) v
theorem getS_set {s : S} {i j : Nat} {x : Option SV} (h : i < s.length) : getS (s.set i x) j = if j = i then x else getS s j := by
  unfold getS
  by_cases e : j = i
  · subst e
    rw [List.getElem?_set_self h, if_pos rfl]
  · rw [List.getElem?_set_ne (Ne.symm e), if_neg e]
theorem getS_lt {s : S} {i : Nat} {x : SV} (h : getS s i = some x) : i < s.length := by
  unfold getS at h
  cases e : s[i]? with
  | none => rw [e] at h; cases h
  | some y => exact (List.getElem?_eq_some_iff.mp e).1
section
variable {Z : Zn} {B H : Hp} {s : S} {σ : L2.St}
/-- a new thing in what stays -/
theorem Rep.lay (R : Rep Z B s σ H) {p : Addr} {o : HO} (h : H p = none) (n : ∀ ps, o ≠ .tbl ps) : Rep Z (upd B p o) s σ (upd H p o) where
  len := R.len
  sub := fun b x e => by
    by_cases q : b = p
    · subst q; rw [upd_same] at e ⊢; exact e
    · rw [upd_ne q] at e ⊢; exact R.sub b x e
  fr := fun b x e w => by
    by_cases q : b = p
    · subst q; rw [R.dom b (nt_none h)] at e; cases e
    · rw [upd_ne q]; exact R.fr b x e w
  dom := fun b e => by
    by_cases q : b = p
    · subst q; exact R.dom b (nt_none h)
    · rw [nt_upd_ne q] at e; exact R.dom b e
  tab := (R.tab.inB n).up h
  b0 := R.b0.trans (Sub.up (R.sub.nn h))
  bn := fun b x e => by
    by_cases q : b = p
    · subst q; exact .inr (.inl (R.dom b (nt_none h)))
    · rw [upd_ne q] at e; exact R.bn b x e
  dat := fun i d e => by
    obtain ⟨v, h1, h2⟩ := R.dat i d e
    exact ⟨v, h1, h2.mono (Sub.up (R.sub.nn h))⟩
  own := fun i d e => by
    obtain ⟨a, h1, h2⟩ := R.own i d e
    have q : a ≠ p := by
      obtain ⟨o', q', _⟩ := h2.own.some_
      exact ne_of_none q' h
    exact ⟨a, h1, by rw [upd_ne q]; exact h2.out, h2.mine, (h2.own.mono (Sub.up (R.sub.nn h))).heap (upd_ne q)⟩
  dis := R.dis
  lk0 := R.lk0
/-- a new thing that is no one's yet -/
theorem Rep.new (R : Rep Z B s σ H) {p : Addr} {o : HO} (h : H p = none) : Rep Z B s σ (upd H p o) where
  len := R.len
  sub := R.sub.trans (Sub.up h)
  fr := fun b x e w => Sub.up h b x (R.fr b x e w)
  dom := fun b e => by
    by_cases q : b = p
    · subst q; exact R.dom b (nt_none h)
    · rw [nt_upd_ne q] at e; exact R.dom b e
  tab := R.tab.up h
  b0 := R.b0
  bn := R.bn
  dat := R.dat
  own := fun i d e => by
    obtain ⟨a, h1, h2⟩ := R.own i d e
    have q : a ≠ p := by
      obtain ⟨o', q', _⟩ := h2.own.some_
      exact ne_of_none q' h
    exact ⟨a, h1, h2.out, h2.mine, h2.own.heap (upd_ne q)⟩
  dis := R.dis
  lk0 := R.lk0
theorem Rep.apart' (R : Rep Z B s σ H) {p : Addr} (h : nt H p = none) : Apart s σ p := fun i d e q => by
  obtain ⟨a, h1, h2⟩ := R.own i d e
  rw [h1] at q
  cases q
  obtain ⟨o', q', _⟩ := h2.own.some_
  rw [nt_of q' (fun ps z => h2.own.no_.1 ps (by rw [q', z]))] at h; cases h
theorem Rep.apart (R : Rep Z B s σ H) {p : Addr} (h : H p = none) : Apart s σ p := R.apart' (nt_none h)
/-- a new list of its own -/
theorem Rep.ownNew (R : Rep Z B s σ H) {p : Addr} {ds : List D} {vs : List V} (h : H p = none) (r : RDs Z.K Z.cA B ds vs) : RA Z B (L2.upd H p (.lst vs)) s σ (.o (.lst ds)) (.ref p) :=
  .o ⟨R.sub.nn h, .inl (R.dom p (nt_none h)), .lst upd_same r⟩ (R.apart h)
/-- what stands as one's own becomes what stays -/
theorem Rep.settle (R : Rep Z B s σ H) {a : Addr} {d : D} (h : Own Z B H a d) (ap : Apart s σ a) : ∃ B', Sub B B' ∧ Rep Z B' s σ H ∧ RD Z.K Z.cA B' d (.ref a) := by
  obtain ⟨o, e, q⟩ := h.own.some_
  have sb : Sub B (L2.upd B a o) := Sub.up h.out
  refine ⟨L2.upd B a o, sb, ⟨R.len, fun b x z => ?_, R.fr, R.dom, R.tab.inB (fun ps z => h.own.no_.1 ps (by rw [e, z])), R.b0.trans sb, fun b x z => ?_, fun i d' z => ?_, fun i d' z => ?_, R.dis, R.lk0⟩, q _ sb upd_same⟩
  · by_cases w : b = a
    · subst w; rw [upd_same] at z; rw [e]; exact z
    · rw [upd_ne w] at z; exact R.sub b x z
  · by_cases w : b = a
    · subst w; exact .inr h.mine
    · rw [upd_ne w] at z; exact R.bn b x z
  · obtain ⟨v, h1, h2⟩ := R.dat i d' z
    exact ⟨v, h1, h2.mono sb⟩
  · obtain ⟨a', h1, h2⟩ := R.own i d' z
    have w : a' ≠ a := fun w => ap i d' z (by rw [h1, w])
    exact ⟨a', h1, by rw [upd_ne w]; exact h2.out, h2.mine, h2.own.mono sb⟩
theorem pend_ok {x : AV} {v : V} (R : Rep Z B s σ H) (h : RA Z B H s σ x v) : ∃ B', Sub B B' ∧ Rep Z B' s σ H ∧ RA Z B' H s σ (pend x) v := by
  cases h with
  | d h => exact ⟨B, Sub.refl B, R, .d h⟩
  | s h => exact ⟨B, Sub.refl B, R, .s h⟩
  | o h ap =>
    obtain ⟨B', sb, R', q⟩ := R.settle h ap
    exact ⟨B', sb, R', .d q⟩
/-- .. stays so while other things are reckoned -/
theorem RA.later {x : AV} {v : V} {B' H' : Hp} {s' : S} (h : RA Z B H s σ (pend x) v) (sb : Sub B B') : RA Z B' H' s' σ (pend x) v := by
  cases x with
  | d d => cases h with | d h => exact .d (h.mono sb)
  | o d => cases h with | d h => exact .d (h.mono sb)
  | s i => cases h with | s h => exact .s h
theorem view_ok {x : AV} {v : V} {d : D} (R : Rep Z B s σ H) (h : RA Z B H s σ x v) (e : view x s = some d) : RT Z.K Z.cA B H d v := by
  cases h with
  | d h => cases e; exact .d h
  | o h _ => cases e; exact .o h.own
  | s h =>
    rename_i i
    unfold view at e
    simp only at e
    cases q : getS s i with
    | none => rw [q] at e; cases e
    | some w =>
      rw [q] at e
      cases w with
      | d d' =>
        cases e
        obtain ⟨v', h1, h2⟩ := R.dat i _ q
        rw [h] at h1; cases h1
        exact .d h2
      | o d' =>
        cases e
        obtain ⟨a, h1, h2⟩ := R.own i _ q
        rw [h] at h1; cases h1
        exact .o h2.own
/-- a slot's own thing becomes what stays -/
theorem frz_ok {x : AV} {v : V} {d : D} {s' : S} (R : Rep Z B s σ H) (h : RA Z B H s σ x v) (e : frz x s = some (d, s')) : ∃ B', Sub B B' ∧ Rep Z B' s' σ H ∧ RD Z.K Z.cA B' d v := by
  cases h with
  | d h => cases e; exact ⟨B, Sub.refl B, R, h⟩
  | o h ap => cases e; exact R.settle h ap
  | s h =>
    rename_i i
    unfold frz at e
    simp only at e
    cases q : getS s i with
    | none => rw [q] at e; cases e
    | some w =>
      rw [q] at e
      cases w with
      | d d' =>
        cases e
        obtain ⟨v', h1, h2⟩ := R.dat i _ q
        rw [h] at h1; cases h1
        exact ⟨B, Sub.refl B, R, h2⟩
      | o d' =>
        cases e
        obtain ⟨a, h1, h2⟩ := R.own i _ q
        rw [h] at h1; cases h1
        obtain ⟨o, e, qq⟩ := h2.own.some_
        have sb : Sub B (L2.upd B a o) := Sub.up h2.out
        have hi := getS_lt q
        have rd := qq _ sb upd_same
        refine ⟨L2.upd B a o, sb, ⟨by rw [List.length_set]; exact R.len, fun b x z => ?_, R.fr, R.dom, R.tab.inB (fun ps z => h2.own.no_.1 ps (by rw [e, z])), R.b0.trans sb, fun b x z => ?_, fun j d' z => ?_, fun j d' z => ?_, fun j k d1 d2 a' z1 z2 => ?_, R.lk0⟩, rd⟩
        · by_cases w : b = a
          · subst w; rw [upd_same] at z; rw [e]; exact z
          · rw [upd_ne w] at z; exact R.sub b x z
        · by_cases w : b = a
          · subst w; exact .inr h2.mine
          · rw [upd_ne w] at z; exact R.bn b x z
        · rw [getS_set hi] at z
          by_cases w : j = i
          · rw [if_pos w] at z
            cases z
            exact ⟨_, by rw [w]; exact h, rd⟩
          · rw [if_neg w] at z
            obtain ⟨v', y1, y2⟩ := R.dat j d' z
            exact ⟨v', y1, y2.mono sb⟩
        · rw [getS_set hi] at z
          by_cases w : j = i
          · rw [if_pos w] at z; cases z
          · rw [if_neg w] at z
            obtain ⟨a', y1, y2⟩ := R.own j d' z
            have w2 : a' ≠ a := fun w2 => w (R.dis j i _ _ a z q (by rw [y1, w2]) h)
            exact ⟨a', y1, by rw [upd_ne w2]; exact y2.out, y2.mine, y2.own.mono sb⟩
        · rw [getS_set hi] at z1 z2
          by_cases w : j = i
          · rw [if_pos w] at z1; cases z1
          · by_cases w2 : k = i
            · rw [if_pos w2] at z2; cases z2
            · rw [if_neg w] at z1
              rw [if_neg w2] at z2
              exact R.dis j k _ _ a' z1 z2
end
end FL

set_option maxHeartbeats 4000000
/-! FS, dictionaries: what lies in the heap. -/
namespace FL
open PySem PySem.Spec PyProof.Rows L2
theorem kD_eqv {k q : D} {a b : L2.Key} (h1 : kD k = some a) (h2 : kD q = some b) : q.eqv k = decide (b = a) := by
  cases k <;> cases h1 <;> cases q <;> cases h2 <;> unfold D.eqv <;> (rw [Bool.eq_iff_iff]; simp)
theorem kDs_eqv : ∀ {ks qs : List D} {a b : List L2.Key}, kDs ks = some a → kDs qs = some b → D.eqvs qs ks = decide (b = a)
  | [], [], _, _, h1, h2 => by cases h1; cases h2; rfl
  | [], q :: qs, _, b, h1, h2 => by
    cases h1
    unfold kDs at h2
    split at h2
    · cases h2; rfl
    · cases h2
  | k :: ks, [], a, _, h1, h2 => by
    cases h2
    unfold kDs at h1
    split at h1
    · cases h1; rfl
    · cases h1
  | k :: ks, q :: qs, a, b, h1, h2 => by
    unfold kDs at h1 h2
    split at h1
    · rename_i x xs e1 e2
      cases h1
      split at h2
      · rename_i y ys e3 e4
        cases h2
        unfold D.eqvs
        rw [kD_eqv e1 e3, kDs_eqv e2 e4]
        by_cases z1 : y = x <;> by_cases z2 : ys = xs <;> simp [z1, z2]
      · cases h2
    · cases h1
theorem kT_eqv {k q : D} {a b : List L2.Key} (h1 : kT k = some a) (h2 : kT q = some b) : q.eqv k = decide (b = a) := by
  cases k <;> cases q <;> first
    | (unfold kT at h1; cases h1; done)
    | (unfold kT at h2; cases h2; done)
    | skip
  unfold D.eqv
  exact kDs_eqv h1 h2
theorem kD_some {k : D} (h : k.isK = true) : ∃ a, kD k = some a := by
  cases k <;> first
    | exact ⟨_, rfl⟩
    | (cases h; done)
theorem kDs_some : ∀ {ds : List D}, ds.all D.isK = true → ∃ a, kDs ds = some a
  | [], _ => ⟨[], rfl⟩
  | d :: r, h => by
    rw [List.all_cons, Bool.and_eq_true] at h
    obtain ⟨a, e1⟩ := kD_some h.1
    obtain ⟨as, e2⟩ := kDs_some h.2
    exact ⟨a :: as, by unfold kDs; rw [e1, e2]⟩
theorem kT_some {k : D} (h : k.isKT = true) : ∃ ds a, k = .tup ds ∧ kDs ds = some a := by
  cases k <;> first
    | (obtain ⟨a, e⟩ := kDs_some h; exact ⟨_, a, rfl, e⟩)
    | (cases h; done)
section
variable {K : PySem.W.Frag} {cA : Nat → Option Addr} {B H : Hp}
theorem RT.kD {k : D} {a : L2.Key} {v : V} (h : RT K cA B H k v) (e : FL.kD k = some a) : v = L2.kV a := by
  cases k <;> cases e
  · rw [h.int_inv]; rfl
  · rw [h.str_inv]; rfl
theorem RDs.kDs : ∀ {ds : List D} {vs : List V} {as : List L2.Key}, RDs K cA B ds vs → FL.kDs ds = some as → vs = as.map L2.kV
  | _, _, _, .nil, e => by cases e; rfl
  | _, _, _, .cons h r, e => by
    unfold FL.kDs at e
    split at e
    · rename_i e1 e2
      cases e
      rw [RDs.kDs r e2, RT.kD (.d h : RT K cA B B _ _) e1]; rfl
    · cases e
theorem RDk.length : ∀ {kvs : List (D × D)} {ws : List (L2.Key × V)}, RDk K cA B kvs ws → kvs.length = ws.length
  | _, _, .nil => rfl
  | _, _, .cons _ _ r => by rw [List.length_cons, List.length_cons, RDk.length r]
theorem RDk.get {k : D} {a : L2.Key} (ek : FL.kD k = some a) : ∀ {kvs : List (D × D)} {ws : List (L2.Key × V)} {d : D}, RDk K cA B kvs ws → dGet k kvs = some d → ∃ v, valV ws a = some v ∧ RD K cA B d v
  | _, _, _, .nil, e => by cases e
  | _, _, _, .cons (q := q) h1 h2 r, e => by
    unfold dGet at e
    rw [kD_eqv ek h1] at e
    by_cases z : q = a
    · rw [if_pos (by simpa using z)] at e
      cases e
      exact ⟨_, valV_pos z, h2⟩
    · rw [if_neg (by simpa using z)] at e
      obtain ⟨v, g1, g2⟩ := RDk.get ek r e
      exact ⟨v, (valV_neg z).trans g1, g2⟩
theorem RDk.has {k : D} {a : L2.Key} (ek : FL.kD k = some a) : ∀ {kvs : List (D × D)} {ws : List (L2.Key × V)}, RDk K cA B kvs ws → (valV ws a).isSome = dHas k kvs ∧ (ws.any fun kv => decide (kv.1 = a)) = dHas k kvs
  | _, _, .nil => ⟨rfl, rfl⟩
  | _, _, .cons (q := q) h1 h2 r => by
    obtain ⟨g1, g2⟩ := RDk.has ek r
    unfold dHas at g1 g2 ⊢
    rw [List.any_cons, List.any_cons]
    simp only
    rw [kD_eqv ek h1]
    by_cases z : q = a
    · rw [valV_pos z]
      simp [z]
    · rw [valV_neg z, g1, g2]
      simp [z]
theorem RDk.mapP {k d : D} {a : L2.Key} {v : V} (ek : FL.kD k = some a) (rd : RD K cA B d v) : ∀ {kvs : List (D × D)} {ws : List (L2.Key × V)}, RDk K cA B kvs ws →
    RDk K cA B (kvs.map fun p => if p.1.eqv k = true then (p.1, d) else p) (ws.map fun kv => if kv.1 = a then (kv.1, v) else kv)
  | _, _, .nil => .nil
  | _, _, .cons (q := q) h1 h2 r => by
    rw [List.map_cons, List.map_cons]
    simp only
    rw [kD_eqv ek h1]
    by_cases z : q = a
    · rw [if_pos (by simpa using z), if_pos z]
      exact .cons h1 rd (RDk.mapP ek rd r)
    · rw [if_neg (by simpa using z), if_neg z]
      exact .cons h1 h2 (RDk.mapP ek rd r)
theorem RDk.snoc {k d : D} {a : L2.Key} {v : V} (ek : FL.kD k = some a) (rd : RD K cA B d v) : ∀ {kvs : List (D × D)} {ws : List (L2.Key × V)}, RDk K cA B kvs ws → RDk K cA B (kvs ++ [(k, d)]) (ws ++ [(a, v)])
  | _, _, .nil => .cons ek rd .nil
  | _, _, .cons h1 h2 r => .cons h1 h2 (RDk.snoc ek rd r)
theorem RDk.put {k d : D} {a : L2.Key} {v : V} {kvs : List (D × D)} {ws : List (L2.Key × V)} (ek : FL.kD k = some a) (rd : RD K cA B d v) (r : RDk K cA B kvs ws) : RDk K cA B (dPut k d kvs) (putK ws a v) := by
  unfold dPut putK
  rw [(r.has ek).2]
  split
  · exact r.mapP ek rd
  · exact r.snoc ek rd
theorem RDt.length : ∀ {kvs : List (D × D)} {ws : List (List L2.Key × V)}, RDt K cA B kvs ws → kvs.length = ws.length
  | _, _, .nil => rfl
  | _, _, .cons _ _ r => by rw [List.length_cons, List.length_cons, RDt.length r]
theorem RDt.get {k : D} {a : List L2.Key} (ek : FL.kT k = some a) : ∀ {kvs : List (D × D)} {ws : List (List L2.Key × V)} {d : D}, RDt K cA B kvs ws → dGet k kvs = some d → ∃ v, valV ws a = some v ∧ RD K cA B d v
  | _, _, _, .nil, e => by cases e
  | _, _, _, .cons (q := q) h1 h2 r, e => by
    unfold dGet at e
    rw [kT_eqv ek h1] at e
    by_cases z : q = a
    · rw [if_pos (by simpa using z)] at e
      cases e
      exact ⟨_, valV_pos z, h2⟩
    · rw [if_neg (by simpa using z)] at e
      obtain ⟨v, g1, g2⟩ := RDt.get ek r e
      exact ⟨v, (valV_neg z).trans g1, g2⟩
theorem RDt.has {k : D} {a : List L2.Key} (ek : FL.kT k = some a) : ∀ {kvs : List (D × D)} {ws : List (List L2.Key × V)}, RDt K cA B kvs ws → (valV ws a).isSome = dHas k kvs ∧ (ws.any fun kv => decide (kv.1 = a)) = dHas k kvs
  | _, _, .nil => ⟨rfl, rfl⟩
  | _, _, .cons (q := q) h1 h2 r => by
    obtain ⟨g1, g2⟩ := RDt.has ek r
    unfold dHas at g1 g2 ⊢
    rw [List.any_cons, List.any_cons]
    simp only
    rw [kT_eqv ek h1]
    by_cases z : q = a
    · rw [valV_pos z]
      simp [z]
    · rw [valV_neg z, g1, g2]
      simp [z]
theorem RDt.mapP {k d : D} {a : List L2.Key} {v : V} (ek : FL.kT k = some a) (rd : RD K cA B d v) : ∀ {kvs : List (D × D)} {ws : List (List L2.Key × V)}, RDt K cA B kvs ws →
    RDt K cA B (kvs.map fun p => if p.1.eqv k = true then (p.1, d) else p) (ws.map fun kv => if kv.1 = a then (kv.1, v) else kv)
  | _, _, .nil => .nil
  | _, _, .cons (q := q) h1 h2 r => by
    rw [List.map_cons, List.map_cons]
    simp only
    rw [kT_eqv ek h1]
    by_cases z : q = a
    · rw [if_pos (by simpa using z), if_pos z]
      exact .cons h1 rd (RDt.mapP ek rd r)
    · rw [if_neg (by simpa using z), if_neg z]
      exact .cons h1 h2 (RDt.mapP ek rd r)
theorem RDt.snoc {k d : D} {a : List L2.Key} {v : V} (ek : FL.kT k = some a) (rd : RD K cA B d v) : ∀ {kvs : List (D × D)} {ws : List (List L2.Key × V)}, RDt K cA B kvs ws → RDt K cA B (kvs ++ [(k, d)]) (ws ++ [(a, v)])
  | _, _, .nil => .cons ek rd .nil
  | _, _, .cons h1 h2 r => .cons h1 h2 (RDt.snoc ek rd r)
theorem RDt.put {k d : D} {a : List L2.Key} {v : V} {kvs : List (D × D)} {ws : List (List L2.Key × V)} (ek : FL.kT k = some a) (rd : RD K cA B d v) (r : RDt K cA B kvs ws) : RDt K cA B (dPut k d kvs) (putK ws a v) := by
  unfold dPut putK
  rw [(r.has ek).2]
  split
  · exact r.mapP ek rd
  · exact r.snoc ek rd
/-- what a dictionary seen holds at a key -/
theorem RT.dget {t : Bool} {kvs : List (D × D)} {k : D} {v y : V} (sb : Sub B H) (h : RT K cA B H (.dct t kvs) v) (hk : RT K cA B H k y) (ok : keyOk t k = true) :
    ∃ a o, v = .ref a ∧ DGet H a y o ∧ o.isSome = dHas k kvs ∧ ∀ d, dGet k kvs = some d → ∃ w, o = some w ∧ RD K cA B d w := by
  unfold keyOk at ok
  cases t with
  | false =>
    rw [if_neg (by decide)] at ok
    obtain ⟨q, eq⟩ := kD_some ok
    obtain ⟨a, ws, rfl, ha, r⟩ := h.dK_inv sb
    rw [hk.kD eq]
    exact ⟨a, _, rfl, DGet.k ha, (r.has eq).1, fun d e => r.get eq e⟩
  | true =>
    rw [if_pos rfl] at ok
    obtain ⟨ds, q, rfl, eq⟩ := kT_some ok
    obtain ⟨a, ws, rfl, ha, r⟩ := h.dT_inv sb
    obtain ⟨b, vs, rfl, hb, rs⟩ := hk.tupX_inv sb
    rw [rs.kDs eq] at hb
    exact ⟨a, _, rfl, DGet.t ha hb, (r.has (k := .tup ds) eq).1, fun d e => r.get (k := .tup ds) eq e⟩
/-- .. and behind a store -/
theorem OwnAt.dput {t : Bool} {kvs : List (D × D)} {k d : D} {a : Addr} {y w : V} (sb : Sub B H) (h : OwnAt K cA B H a (.dct t kvs)) (hk : RT K cA B H k y) (ok : keyOk t k = true) (hl : kvs.length < sizeLine) (rd : RD K cA B d w) :
    ∃ o, DPut H a y w (upd H a o) ∧ OwnAt K cA B (upd H a o) a (.dct t (dPut k d kvs)) := by
  unfold keyOk at ok
  cases h with
  | dK ha r =>
    rw [if_neg (by decide)] at ok
    obtain ⟨q, eq⟩ := kD_some ok
    rw [hk.kD eq]
    exact ⟨_, DPut.k ha (by rw [← r.length]; exact hl), .dK upd_same (r.put eq rd)⟩
  | dT ha r =>
    rw [if_pos rfl] at ok
    obtain ⟨ds, q, rfl, eq⟩ := kT_some ok
    obtain ⟨b, vs, rfl, hb, rs⟩ := hk.tupX_inv sb
    rw [rs.kDs eq] at hb
    exact ⟨_, DPut.t ha hb (by rw [← r.length]; exact hl), .dT upd_same (r.put (k := .tup ds) eq rd)⟩
end
end FL

set_option maxHeartbeats 4000000
/-! FS, a tuple times 1. -/
namespace FL
open PySem PySem.Spec PyProof.Rows L2
theorem tuple_mul1 (l : Addr) (items : Array Value) (n : Nat) (dd : Option Addr) (sl : Array (Option Value)) (u : Tok) (c1 : (items.isEmpty || (1 : Int) == 1) = true) :
    Meets (Builtin.«tuple.__mul__» ⟨[.ref l, .int 1 u], []⟩) (fun _ R s => s.heap.get? l = some { cls := .type "tuple", dict := dd, data := .seq items n, slots := sl } ∧
      R (.ok (.ret (Value.ref l))) s) :=
  .of_wp fun prog w A R s h => by
    obtain ⟨hp, g, d, tk, os⟩ := s
    obtain ⟨hl, h⟩ := h
    have f1 := AutoSeq1.idx_int
    wp_walk using wpAny_loadPart' hl
    exact ⟨_, rfl, h⟩
def rRepT1 (K : PySem.W.Frag) : R2 := fun x y H Q => ∃ l xs, x = .ref l ∧ y = .int 1 ∧ SqT K H l xs ∧ Q (.ref l) H
theorem op_repT1 {X : Cx} : OpR X (binaryOp .Mult) (rRepT1 X.K) := by
  intro pins s σ H x y v u Q I rx ry h
  obtain ⟨l, xs, rfl, rfl, hT, q⟩ := h
  cases rx
  obtain ⟨t, rfl⟩ := ry
  obtain ⟨its, r, ⟨⟨cls, dd, data, sl⟩, ho, hc, n, hd⟩, hs⟩ := I.tuple hT
  simp only at hc hd
  subst hc hd
  refine wpAny_binaryOp_repeat_ref (T := "tuple") (U := "int") (by decide) ⟨_, ho, rfl⟩ (fun s' => typeIs_int s' 1 t) noFill_tuple_mul F.fills_int_mul F.slot_int_rmul repeat_tuple F.slot_int_index.lookup
    (call_meets F.slot_int_rmul (typeIs_int s 1 t) F.entry_int_rmul (F.args_int_rmul_2 _ _) (int_rmul_tuple 1 t l its.toArray n dd sl)
      ⟨ho, rfl, ⟨_, ho, rfl⟩, call_meets F.slot_tuple_mul ⟨_, ho, rfl⟩ F.entry_tuple_mul (F.args_tuple_mul_2 _ _) (tuple_mul1 l its.toArray n dd sl t (by simp)) ⟨ho, ?_⟩⟩)
  exact ⟨.ref l, H, I, rfl, q⟩
end FL

set_option maxHeartbeats 4000000
/-! FS, part 2: readings. -/
namespace FL
open PySem PySem.Spec PyProof.Rows L2

theorem lim_le {n : Nat} (h : n ≤ lim) : n ≤ sizeLine := Nat.le_trans h (by decide)
theorem lim_lt {n : Nat} (h : n < lim) : n < sizeLine := Nat.lt_of_lt_of_le h (by decide)

/-- an exception as it lies -/
def XR (Z : Zn) (B H : Hp) (x : Exn) (c : Value) (d : Option Addr) : Prop :=
  c = .ref (Z.xA.a x.c) ∧ match x.f with
    | none => d = none
    | some v => ∃ dx nm u, d = some dx ∧ H dx = some (.xd [(nm, u)]) ∧ RD Z.K Z.cA B v u
abbrev Rl (α β : Type) := Zn → Hp → Hp → S → L2.St → α → β → Prop
/-- what is wanted behind -/
def Post {α β : Type} (R : Rl α β) (Z : Zn) (W : WX) (B : Hp) (σ : L2.St) (o : Out α) (Q : β → Hp → Prop) : Prop := match o with
  | .ok a s' => ∀ b H' B', Rep Z B' s' σ H' → Sub B B' → R Z B' H' s' σ a b → Q b H'
  | .ex x s' => ∀ c d H' B', Rep Z B' s' σ H' → Sub B B' → XR Z B' H' x c d → W c d σ H'
  | .no => False
section
variable {α β γ δ : Type} {R : Rl α β} {R' : Rl γ δ} {Z : Zn} {W : WX} {B B' H : Hp} {s : S} {σ : L2.St}
theorem Post.mono {o : Out α} {Q : β → Hp → Prop} (sb : Sub B B') (h : Post R Z W B σ o Q) : Post R Z W B' σ o Q := by
  cases o with
  | ok a s' => exact fun b H' B'' r sb' => h b H' B'' r (sb.trans sb')
  | ex x s' => exact fun c d H' B'' r sb' => h c d H' B'' r (sb.trans sb')
  | no => exact h
theorem Post.bind {o : Out α} {g : α → S → Out γ} {Q' : δ → Hp → Prop} {Q : β → Hp → Prop} (h : Post R' Z W B σ (o.bind g) Q')
    (k : ∀ a s b H' B', Rep Z B' s σ H' → Sub B B' → R Z B' H' s σ a b → Post R' Z W B' σ (g a s) Q' → Q b H') : Post R Z W B σ o Q := by
  cases o with
  | ok a s' => exact fun b H' B' r sb ra => k a s' b H' B' r sb ra (Post.mono sb h)
  | ex x s' => exact h
  | no => exact h
end
/-- the fixed part of a reading -/
structure Pm where
  K : PySem.W.Frag
  cA : Nat → Option Addr
  xA : XT
  lk : Nat
  W : WX
  hs : Nat → Option Addr
  fz : Option (Hp × Hp)
  L : Nat
structure ZOk (p : Pm) (Z : Zn) : Prop where
  K : Z.K = p.K
  cA : Z.cA = p.cA
  xA : Z.xA = p.xA
  lk : Z.lk = p.lk
  ex : ∀ i a, p.hs i = some a → Z.ha i = a
  fz : ∀ H0 B0, p.fz = some (H0, B0) → Z.B0 = B0 ∧ ∀ b x, nt H0 b = some x → Z.H0 b = some x ∧ ¬ Z.wr b
def tX {α β : Type} (R : Rl α β) (p : Pm) (f : S → Out α) : L2.St → Hp → (β → Hp → Prop) → Prop := fun σ H Q => ∃ Z B s, ZOk p Z ∧ Rep Z B s σ H ∧ Post R Z p.W B σ (f s) Q
abbrev rV : Rl AV V := fun Z B H s σ a b => RA Z B H s σ a b
abbrev rB : Rl Bool Bool := fun _ _ _ _ _ a b => a = b
abbrev rOI : Rl (Option Int) (Option Int) := fun _ _ _ _ _ a b => a = b
abbrev rDs : Rl (List D) (List V) := fun Z B _ _ _ a b => RDs Z.K Z.cA B a b
/-- values that wait -/
inductive RAs (Z : Zn) (B H : Hp) (s : S) (σ : L2.St) : List AV → List V → Prop where
  | nil : RAs Z B H s σ [] []
  | cons {x : AV} {xs : List AV} {v : V} {vs : List V} : RA Z B H s σ (pend x) v → RAs Z B H s σ xs vs → RAs Z B H s σ (pend x :: xs) (v :: vs)
abbrev rAs : Rl (List AV) (List V) := fun Z B H s σ a b => RAs Z B H s σ a b
abbrev tE (p : Pm) (C : Calls) (e : E) : TE := tX rV p (ev C p.lk e)
abbrev tT (p : Pm) (C : Calls) (e : E) : TT := tX rB p (evB C p.lk e)
abbrev tEs (p : Pm) (C : Calls) (es : Es) : TA := tX rDs p (evs C p.lk es)
abbrev tEv (p : Pm) (C : Calls) (es : Es) : TA := tX rAs p (evv C p.lk es)

/-- a reading exchanged for a stronger one -/
theorem _root_.L2.PE.imp {X : Cx} {e : Expr} {t t' : TE} (h : PE X e t) (k : ∀ σ H Q, t' σ H Q → t σ H Q) : PE X e t' := ⟨fun pins s σ H Q I hw => h.run pins s σ H Q I (k σ H Q hw)⟩
theorem _root_.L2.PT.imp {X : Cx} {e : Expr} {t t' : TT} (h : PT X e t) (k : ∀ σ H Q, t' σ H Q → t σ H Q) : PT X e t' := ⟨fun pins s σ H Q I hw => h.run pins s σ H Q I (k σ H Q hw)⟩
theorem _root_.L2.PA.imp {X : Cx} {e : List Expr} {t t' : TA} (h : PA X e t) (k : ∀ σ H Q, t' σ H Q → t σ H Q) : PA X e t' := ⟨fun pos pins s σ H Q I hw => h.run pos pins s σ H Q I (k σ H Q hw)⟩
theorem _root_.L2.PS.imp {X : Cx} {e : Stmt} {t t' : TS} (h : PS X e t) (k : ∀ D σ H, t' D σ H → t D σ H) : PS X e t' := ⟨fun pins s σ H D I hw => h.run pins s σ H D I (k D σ H hw)⟩
theorem _root_.L2.PSs.imp {X : Cx} {e : List Stmt} {t t' : TS} (h : PSs X e t) (k : ∀ D σ H, t' D σ H → t D σ H) : PSs X e t' := ⟨fun pins s σ H D I hw => h.run pins s σ H D I (k D σ H hw)⟩

section
variable {p : Pm} {C : Calls} {X : Cx} {pos : Pos} {x y z : Expr} {a b c : E}
/-! ### what an operation asks -/
/-- an operation on things seen, as the machine does it -/
def rOp (p : Pm) (f : D → D → Option AV) : R2 := fun x y H Q => ∃ Z B s σ d1 d2, ZOk p Z ∧ Rep Z B s σ H ∧ RT Z.K Z.cA B H d1 x ∧ RT Z.K Z.cA B H d2 y ∧ Post rV Z p.W B σ (ofO (f d1 d2) s) Q
theorem two {f : D → D → Option AV} {r : R2} (hr : ∀ x y H Q, rOp p f x y H Q → r x y H Q) {σ : L2.St} {H : Hp} {Q : VK}
    (h : tX rV p (fun s => (ev C p.lk a s).bind fun x s1 => (ev C p.lk b s1).bind fun y s2 => match view (pend x) s2, view y s2 with
      | some d1, some d2 => ofO (f d1 d2) s2
      | _, _ => .no) σ H Q) : tOp r (tE p C a) (tE p C b) σ H Q := by
  obtain ⟨Z, B, s, zo, R, h⟩ := h
  refine ⟨Z, B, s, zo, R, Post.bind h fun x s1 v1 H1 B1 R1 sb1 r1 h1 => ?_⟩
  obtain ⟨B1', sb1', R1', r1'⟩ := pend_ok R1 r1
  refine ⟨Z, B1', s1, zo, R1', Post.bind (h1.mono sb1') fun y s2 v2 H2 B2 R2 sb2 r2 h2 => ?_⟩
  refine hr _ _ _ _ ?_
  have r1'' : RA Z B2 H2 s2 σ (pend x) v1 := r1'.later sb2
  cases e1 : view (pend x) s2 with
  | none => rw [e1] at h2; exact h2.elim
  | some d1 =>
    rw [e1] at h2
    cases e2 : view y s2 with
    | none => rw [e2] at h2; exact h2.elim
    | some d2 =>
      rw [e2] at h2
      exact ⟨Z, B2, s2, σ, d1, d2, zo, R2, view_ok R2 r1'' e1, view_ok R2 r2 e2, h2⟩
/-- the end: flat data -/
theorem Post.flat {Z : Zn} {W : WX} {B H : Hp} {s : S} {σ : L2.St} {d : D} {v : V} {Q : VK} (R : Rep Z B s σ H) (r : RD Z.K Z.cA B d v) (h : Post rV Z W B σ (.ok (.d d) s) Q) : Q v H := h v H B R (Sub.refl B) (.d r)
/-- the end: a new list of its own -/
theorem Post.newL {Z : Zn} {W : WX} {B H : Hp} {s : S} {σ : L2.St} {ds : List D} {vs : List V} {Q : VK} (R : Rep Z B s σ H) (r : RDs Z.K Z.cA B ds vs) (h : Post rV Z W B σ (.ok (.o (.lst ds)) s) Q) :
    ∀ p, H p = none → Q (.ref p) (upd H p (.lst vs)) := fun p hp => h _ _ B (R.new hp) (Sub.refl B) (R.ownNew hp r)
/-- the end: a new tuple -/
theorem Post.newT {Z : Zn} {W : WX} {B H : Hp} {s : S} {σ : L2.St} {ds : List D} {vs : List V} {Q : VK} (R : Rep Z B s σ H) (r : RDs Z.K Z.cA B ds vs) (h : Post rV Z W B σ (.ok (.d (.tup ds)) s) Q) :
    ∀ p, H p = none → Q (.ref p) (upd H p (.tup vs)) := fun p hp =>
  h _ _ _ (R.lay (o := .tup vs) hp fun _ z => nomatch z) (Sub.up (R.sub.nn hp)) (.d (.tup upd_same (r.mono (Sub.up (R.sub.nn hp)))))
theorem ofO_no {α β : Type} {R : Rl α β} {Z : Zn} {W : WX} {B : Hp} {s : S} {σ : L2.St} {Q : β → Hp → Prop} (h : Post R Z W B σ (ofO none s) Q) : False := h

/-! ### operators -/
def rAddA (K : PySem.W.Frag) : R2 := fun x y H Q => rI0 (fun i j => .int (i + j)) x y H Q ∨ (rCat x y H Q ∨ rCatA K x y H Q)
theorem op_addA : OpR X (binaryOp .Add) (rAddA X.K) := OpR.or op_add (OpR.or op_cat op_catA)
theorem add_ok (hK : X.K = p.K) : ∀ x y H Q, rOp p addD x y H Q → rAddA X.K x y H Q := by
  rintro x y H Q ⟨Z, B, s, σ, d1, d2, zo, R, t1, t2, h⟩
  have hZ : X.K = Z.K := hK.trans zo.K.symm
  unfold addD at h
  split at h <;> first
    | exact h.elim
    | skip
  · rw [t1.int_inv, t2.int_inv]
    exact .inl ⟨_, _, rfl, rfl, Post.flat R (.int _) h⟩
  · split at h
    · rename_i hl
      obtain ⟨a, vs, rfl, ha, ra⟩ := t1.lst_inv R.sub
      obtain ⟨b, ws, rfl, hb, rb⟩ := t2.lst_inv R.sub
      exact .inr (.inl ⟨a, b, vs, ws, rfl, rfl, ha, hb, lim_le (by rw [← ra.length, ← rb.length]; exact hl), Post.newL R (ra.append rb) h⟩)
    · exact h.elim
  · split at h
    · rename_i hl
      obtain ⟨a, vs, rfl, ha, ra⟩ := t1.tup_inv R.sub
      obtain ⟨b, ws, rfl, hb, rb⟩ := t2.tup_inv R.sub
      refine .inr (.inr ⟨a, b, vs, ws, rfl, rfl, by rw [hZ]; exact ha, by rw [hZ]; exact hb, lim_le (by rw [← ra.length, ← rb.length]; exact hl), fun e => ?_, fun _ e => ?_, fun _ _ => Post.newT R (ra.append rb) h⟩)
      · subst e
        cases ra
        cases t2 with
        | d t2 => exact Post.flat R t2 h
        | o t2 => cases t2
      · subst e
        cases rb
        rw [List.append_nil] at h
        cases t1 with
        | d t1 => exact Post.flat R t1 h
        | o t1 => cases t1
    · exact h.elim
theorem sub_ok : ∀ x y H Q, rOp p subD x y H Q → rI0 (fun i j => .int (i - j)) x y H Q := by
  rintro x y H Q ⟨Z, B, s, σ, d1, d2, zo, R, t1, t2, h⟩
  unfold subD at h
  split at h <;> first
    | exact h.elim
    | skip
  rw [t1.int_inv, t2.int_inv]
  exact ⟨_, _, rfl, rfl, Post.flat R (.int _) h⟩
def rMulA (K : PySem.W.Frag) : R2 := fun x y H Q => rI CMul (fun i j => .int (i * j)) x y H Q ∨ (rI CMulW (fun i j => .int (i * j)) x y H Q ∨ (rRep x y H Q ∨ (rRepT1 K x y H Q ∨ rRepT K x y H Q)))
theorem op_mulA : OpR X (binaryOp .Mult) (rMulA X.K) := OpR.or op_mul (OpR.or op_mulW (OpR.or op_rep (OpR.or op_repT1 op_repT)))
theorem mul_ok (hK : X.K = p.K) : ∀ x y H Q, rOp p mulD x y H Q → rMulA X.K x y H Q := by
  rintro x y H Q ⟨Z, B, s, σ, d1, d2, zo, R, t1, t2, h⟩
  have hZ : X.K = Z.K := hK.trans zo.K.symm
  unfold mulD at h
  split at h <;> first
    | exact h.elim
    | skip
  · split at h
    · rename_i i j hl
      rw [t1.int_inv, t2.int_inv]
      have q := Post.flat R (.int _) h
      unfold okMul at hl
      simp only [Bool.or_eq_true, Bool.and_eq_true, decide_eq_true_eq] at hl
      rcases hl with (hl | hl) | hl
      · exact .inl ⟨_, _, rfl, rfl, .inl (by omega), q⟩
      · exact .inl ⟨_, _, rfl, rfl, .inr (by omega), q⟩
      · exact .inr (.inl ⟨_, _, rfl, rfl, wide_mul hl.1 hl.2 (by decide) (by decide) (by decide), q⟩)
    · exact h.elim
  · split at h
    · rename_i i j hl
      obtain ⟨a, vs, rfl, ha, ra⟩ := t1.lst_inv R.sub
      rw [t2.int_inv]
      have hl2 : j.natAbs ≤ 100000 := hl.2
      refine .inr (.inr (.inl ⟨a, j, vs, rfl, rfl, ha, by omega, by omega, lim_le (by rw [← ra.length]; exact hl.1), Post.newL R (ra.flatRep _) h⟩))
    · exact h.elim
  · split at h
    · rename_i hl
      subst hl
      obtain ⟨a, vs, rfl, ha, ra⟩ := t1.tup_inv R.sub
      rw [t2.int_inv]
      refine .inr (.inr (.inr (.inl ⟨a, vs, rfl, rfl, by rw [hZ]; exact ha, ?_⟩)))
      cases t1 with
      | d t1 => exact Post.flat R t1 h
      | o t1 => cases t1
    · split at h
      · rename_i hl
        obtain ⟨a, vs, rfl, ha, ra⟩ := t1.tup_inv R.sub
        rw [t2.int_inv]
        refine .inr (.inr (.inr (.inr ⟨a, _, vs, rfl, rfl, by rw [hZ]; exact ha, fun e => ?_, hl.2.1, hl.2.2.1, by rw [← ra.length]; exact hl.2.2.2, Post.newT R (ra.flatRep _) h⟩)))
        subst e
        cases ra
        cases hl.1
      · exact h.elim
def CDivZ (_ j : Int) : Prop := j ≠ 0 ∧ j.natAbs < 2 ^ 9000
theorem op_fdivZ : OpR X (binaryOp .FloorDiv) (rI CDivZ fun i j => .int (i.fdiv j)) := opI fun i j _ _ _ _ _ hc q =>
  floordiv_int hc.1 q (.inl (PyProof.noPylong_of_log2 (PySem.Flt.log2_lt_of (by decide) hc.2)))
def rDivA : R2 := fun x y H Q => rI CDivN (fun i j => .int (i.fdiv j)) x y H Q ∨ rI CDivZ (fun i j => .int (i.fdiv j)) x y H Q
theorem op_divA : OpR X (binaryOp .FloorDiv) rDivA := OpR.or op_fdivN op_fdivZ
theorem div_ok : ∀ x y H Q, rOp p fdivD x y H Q → rDivA x y H Q := by
  rintro x y H Q ⟨Z, B, s, σ, d1, d2, zo, R, t1, t2, h⟩
  unfold fdivD at h
  split at h <;> first
    | exact h.elim
    | skip
  split at h
  · rename_i i j hl
    rw [t1.int_inv, t2.int_inv]
    have q := Post.flat R (.int _) h
    unfold okDiv at hl
    simp only [Bool.or_eq_true, Bool.and_eq_true, decide_eq_true_eq] at hl
    rcases hl with hl | hl
    · exact .inl ⟨_, _, rfl, rfl, hl, q⟩
    · exact .inr ⟨_, _, rfl, rfl, hl, q⟩
  · exact h.elim
theorem mod_ok : ∀ x y H Q, rOp p modD x y H Q → rI (fun _ j => j ≠ 0) (fun i j => .int (i.fmod j)) x y H Q := by
  rintro x y H Q ⟨Z, B, s, σ, d1, d2, zo, R, t1, t2, h⟩
  unfold modD at h
  split at h <;> first
    | exact h.elim
    | skip
  split at h
  · rename_i hl
    rw [t1.int_inv, t2.int_inv]
    exact ⟨_, _, rfl, rfl, hl, Post.flat R (.int _) h⟩
  · exact h.elim
theorem pow_ok : ∀ x y H Q, rOp p powD x y H Q → rI CPow (fun i j => .int (i ^ j.toNat)) x y H Q := by
  rintro x y H Q ⟨Z, B, s, σ, d1, d2, zo, R, t1, t2, h⟩
  unfold powD at h
  split at h <;> first
    | exact h.elim
    | skip
  split at h
  · rename_i hl
    rw [t1.int_inv, t2.int_inv]
    exact ⟨_, _, rfl, rfl, ⟨hl.1, by omega, hl.2.2⟩, Post.flat R (.int _) h⟩
  · exact h.elim
def opOf : Op → Operator
  | .add => .Add | .sub => .Sub | .mul => .Mult | .fdiv => .FloorDiv | .mod => .Mod | .pow => .Pow
theorem se_op (o : Op) (hK : X.K = p.K) (ha : PE X x (tE p C a)) (hb : PE X y (tE p C b)) : PE X (.BinOp x (opOf o) y pos) (tE p C (.op o a b)) := by
  cases o with
  | add => exact (pe_op op_addA ha hb).imp fun σ H Q h => two (add_ok hK) h
  | sub => exact (pe_op op_sub ha hb).imp fun σ H Q h => two sub_ok h
  | mul => exact (pe_op op_mulA ha hb).imp fun σ H Q h => two (mul_ok hK) h
  | fdiv => exact (pe_op op_divA ha hb).imp fun σ H Q h => two div_ok h
  | mod => exact (pe_op op_modN ha hb).imp fun σ H Q h => two mod_ok h
  | pow => exact (pe_op op_pow ha hb).imp fun σ H Q h => two pow_ok h
end
end FL

set_option maxHeartbeats 4000000
/-! FS, part 3: comparisons, tests, and, or, not. -/
namespace FL
open PySem PySem.Spec PyProof.Rows L2

mutual
def D.py : D → PyData
  | .bl b => .bool b
  | .int i => .int i
  | .str x => .str x
  | .tup ds => .tuple (D.pys ds)
  | .lst ds => .list (D.pys ds)
  | _ => .none
def D.pys : List D → List PyData
  | [] => []
  | d :: r => d.py :: D.pys r
end
mutual
theorem py_plain : ∀ d : D, d.py.plain = true
  | .non => rfl
  | .bl _ => rfl
  | .int _ => rfl
  | .str _ => rfl
  | .tup ds => by unfold D.py PyData.plain; exact pys_plain ds
  | .lst ds => by unfold D.py PyData.plain; exact pys_plain ds
  | .dct _ _ => rfl
  | .ins _ _ => rfl
  | .fz _ => rfl
  | .kt _ => rfl
theorem pys_plain : ∀ ds : List D, PyData.plainAll (D.pys ds) = true
  | [] => rfl
  | d :: r => by
    unfold D.pys PyData.plainAll
    rw [py_plain d, pys_plain r]; rfl
end
mutual
theorem py_depth : ∀ d : D, d.py.depth ≤ d.depth
  | .non => Nat.le_refl _
  | .bl _ => Nat.le_refl _
  | .int _ => Nat.le_refl _
  | .str _ => Nat.le_refl _
  | .tup ds => by unfold D.py PyData.depth D.depth; exact Nat.succ_le_succ (pys_depth ds)
  | .lst ds => by unfold D.py PyData.depth D.depth; exact Nat.succ_le_succ (pys_depth ds)
  | .dct _ _ => Nat.zero_le _
  | .ins _ _ => Nat.zero_le _
  | .fz _ => Nat.zero_le _
  | .kt _ => Nat.zero_le _
theorem pys_depth : ∀ ds : List D, PyData.depthAll (D.pys ds) ≤ D.depths ds
  | [] => Nat.le_refl _
  | d :: r => by
    unfold D.pys PyData.depthAll D.depths
    have h1 := py_depth d
    have h2 := pys_depth r
    omega
end
theorem eqv_b2i (b : Bool) : b2i b = if b then 1 else 0 := rfl
mutual
theorem py_eqv : ∀ d e : D, d.plain = true → e.plain = true → PyData.eqv d.py e.py = d.eqv e
  | .non, e, _, h => by cases e <;> first | rfl | (simp [D.py, PyData.eqv, D.eqv]; done) | cases h
  | .bl _, e, _, h => by cases e <;> first | rfl | (simp [D.py, PyData.eqv, D.eqv, b2i]; done) | cases h
  | .int _, e, _, h => by cases e <;> first | rfl | (simp [D.py, PyData.eqv, D.eqv, b2i]; done) | cases h
  | .str _, e, _, h => by cases e <;> first | rfl | (simp [D.py, PyData.eqv, D.eqv]; done) | cases h
  | .tup ds, e, g, h => by
    cases e with
    | tup es =>
      unfold D.py PyData.eqv D.eqv
      unfold D.plain at g h
      exact pys_eqv ds es g h
    | _ => first | (simp [D.py, PyData.eqv, D.eqv]; done) | cases h
  | .lst ds, e, g, h => by
    cases e with
    | lst es =>
      unfold D.py PyData.eqv D.eqv
      unfold D.plain at g h
      exact pys_eqv ds es g h
    | _ => first | (simp [D.py, PyData.eqv, D.eqv]; done) | cases h
  | .dct _ _, _, g, _ => by cases g
  | .ins _ _, _, g, _ => by cases g
  | .fz _, _, g, _ => by cases g
  | .kt _, _, g, _ => by cases g
theorem pys_eqv : ∀ d e : List D, D.plains d = true → D.plains e = true → PyData.eqvAll (D.pys d) (D.pys e) = D.eqvs d e
  | [], [], _, _ => by simp [D.pys, PyData.eqvAll, D.eqvs]
  | [], _ :: _, _, _ => by simp [D.pys, PyData.eqvAll, D.eqvs]
  | _ :: _, [], _, _ => by simp [D.pys, PyData.eqvAll, D.eqvs]
  | d :: r, e :: q, g, h => by
    unfold D.plains at g h
    rw [Bool.and_eq_true] at g h
    unfold D.pys PyData.eqvAll D.eqvs
    rw [py_eqv d e g.1 h.1, pys_eqv r q g.2 h.2]
end
theorem pys_map : ∀ ds : List D, D.pys ds = ds.map D.py
  | [] => rfl
  | d :: r => by unfold D.pys; rw [pys_map r]; rfl
section
variable {K : PySem.W.Frag} {cA : Nat → Option Addr} {H : Hp}
mutual
theorem RD.dp : ∀ {d : D} {v : V}, RD K cA H d v → d.plain = true → Dp K H v d.py
  | _, _, .non, _ => .non
  | _, _, .bl b, _ => .bl b
  | _, _, .int i, _ => .int i
  | _, _, .str x, _ => .str x
  | _, _, .tup h r, g => .tup (.inl (.inl h)) (RDs.dp r (by unfold D.plain at g; exact g))
  | _, _, .dK _ _, g => by cases g
  | _, _, .dT _ _, g => by cases g
  | _, _, .lst h r, g => .lst (.inl (.inl h)) (RDs.dp r (by unfold D.plain at g; exact g))
  | _, _, .fz h r, g => by cases g
  | _, _, .kt h r, g => by cases g
  | _, _, .ins _ _ _, g => by cases g
theorem RDs.dp : ∀ {d : List D} {v : List V}, RDs K cA H d v → D.plains d = true → DpAll K H v (D.pys d)
  | _, _, .nil, _ => .nil
  | _, _, .cons h r, g => by
    unfold D.plains at g
    rw [Bool.and_eq_true] at g
    exact .cons (RD.dp h g.1) (RDs.dp r g.2)
end
end
theorem okDeep_plain {d : D} (h : okDeep d = true) : d.plain = true := by
  unfold okDeep at h
  rw [Bool.and_eq_true] at h
  exact h.1
theorem okDeep_depth {d : D} (h : okDeep d = true) : d.depth ≤ 60 := by
  unfold okDeep at h
  rw [Bool.and_eq_true] at h
  exact of_decide_eq_true h.2

section
variable {p : Pm} {C : Calls} {X : Cx} {pos : Pos} {x y z : Expr} {a b c : E}
def rEqP (K : PySem.W.Frag) : R2 := fun x y H Q => ∃ d e : PyData, Dp K H x d ∧ Dp K H y e ∧ d.plain = true ∧ e.plain = true ∧ d.depth ≤ 60 ∧ Q (.bl (PyData.eqv d e)) H
def rNeP (K : PySem.W.Frag) : R2 := fun x y H Q => ∃ d e : PyData, Dp K H x d ∧ Dp K H y e ∧ d.plain = true ∧ e.plain = true ∧ d.depth ≤ 60 ∧ Q (.bl (!PyData.eqv d e)) H
theorem op_eqP (hu : X.A.units + 64 < cLine) : OpR X (compareOp .Eq) (rEqP X.K) := by
  intro pins s σ H x y v u Q I rx ry h
  obtain ⟨d, e, hd, he, sd, se, dd, q⟩ := h
  obtain ⟨as, r1⟩ := Dp.reads I d x v hd rx
  obtain ⟨bs, r2⟩ := Dp.reads I e y u he ry
  exact SeqAt.eq_plain r1 r2 sd se (by omega) ⟨.bl _, H, I, rfl, q⟩
theorem op_neP (hu : X.A.units + 64 < cLine) : OpR X (compareOp .NotEq) (rNeP X.K) := by
  intro pins s σ H x y v u Q I rx ry h
  obtain ⟨d, e, hd, he, sd, se, dd, q⟩ := h
  obtain ⟨as, r1⟩ := Dp.reads I d x v hd rx
  obtain ⟨bs, r2⟩ := Dp.reads I e y u he ry
  exact SeqAt.ne_plain r1 r2 sd se (by omega) ⟨.bl _, H, I, rfl, q⟩
def rInP (K : PySem.W.Frag) : R2 := fun x y H Q => ∃ (d : PyData) (es : List PyData), Dp K H x d ∧ (Dp K H y (.list es) ∨ Dp K H y (.tuple es)) ∧ d.plain = true ∧ PyData.plainAll es = true ∧ d.depth ≤ 60 ∧ Q (.bl (es.any fun z => PyData.eqv z d)) H
def rNotInP (K : PySem.W.Frag) : R2 := fun x y H Q => ∃ (d : PyData) (es : List PyData), Dp K H x d ∧ (Dp K H y (.list es) ∨ Dp K H y (.tuple es)) ∧ d.plain = true ∧ PyData.plainAll es = true ∧ d.depth ≤ 60 ∧ Q (.bl (!es.any fun z => PyData.eqv z d)) H
theorem op_inP (hu : X.A.units + 64 < cLine) : OpR X (compareOp .In) (rInP X.K) := by
  intro pins s σ H x y v u Q I rx ry h
  obtain ⟨d, es, hd, he, sd, se, dd, q⟩ := h
  obtain ⟨as, r1⟩ := Dp.reads I d x v hd rx
  rcases he with he | he
  · obtain ⟨bs, r2⟩ := Dp.reads I _ y u he ry
    exact SeqAt.in_list_data r2 r1 se sd (by omega) ⟨.bl _, H, I, rfl, q⟩
  · obtain ⟨bs, r2⟩ := Dp.reads I _ y u he ry
    exact SeqAt.in_tuple_data r2 r1 se sd (by omega) ⟨.bl _, H, I, rfl, q⟩
theorem op_notInP (hu : X.A.units + 64 < cLine) : OpR X (compareOp .NotIn) (rNotInP X.K) := by
  intro pins s σ H x y v u Q I rx ry h
  obtain ⟨d, es, hd, he, sd, se, dd, q⟩ := h
  obtain ⟨as, r1⟩ := Dp.reads I d x v hd rx
  rcases he with he | he
  · obtain ⟨bs, r2⟩ := Dp.reads I _ y u he ry
    exact SeqAt.notIn_list_data r2 r1 se sd (by omega) ⟨.bl _, H, I, rfl, q⟩
  · obtain ⟨bs, r2⟩ := Dp.reads I _ y u he ry
    exact SeqAt.notIn_tuple_data r2 r1 se sd (by omega) ⟨.bl _, H, I, rfl, q⟩

def rDIn (f : Bool → Bool) : R2 := fun y x H Q => ∃ a o, x = .ref a ∧ DGet H a y o ∧ Q (.bl (f o.isSome)) H
theorem op_dinR (hu : X.A.units + 64 < cLine) : OpR X (compareOp .In) (rDIn id) := by
  intro pins s σ H y x u v Q I ry rx h
  obtain ⟨a, o, rfl, g, q⟩ := h
  obtain rfl : v = Value.ref a := rx
  exact d_in (by omega) I g ry fun s3 I3 => ⟨.bl o.isSome, H, I3, rfl, q⟩
theorem op_dnotinR (hu : X.A.units + 64 < cLine) : OpR X (compareOp .NotIn) (rDIn fun b => !b) := by
  intro pins s σ H y x u v Q I ry rx h
  obtain ⟨a, o, rfl, g, q⟩ := h
  obtain rfl : v = Value.ref a := rx
  exact d_notIn (by omega) I g ry fun s3 I3 => ⟨.bl (!o.isSome), H, I3, rfl, q⟩

def cmOf : Cm → CmpOp
  | .lt => .Lt | .le => .LtE | .gt => .Gt | .ge => .GtE | .eq => .Eq | .ne => .NotEq | .is => .Is | .isnot => .IsNot | .in_ => .In | .notin => .NotIn
def rCm (K : PySem.W.Frag) : Cm → R2
  | .lt => rI0 fun i j => .bl (decide (i < j))
  | .le => rI0 fun i j => .bl (decide (i ≤ j))
  | .gt => rI0 fun i j => .bl (decide (j < i))
  | .ge => rI0 fun i j => .bl (decide (j ≤ i))
  | .eq => rEqP K
  | .ne => rNeP K
  | .is => fun x y H Q => (y = .non ∧ Q (.bl (decide (x = .non))) H) ∨ rIsB x y H Q
  | .isnot => fun x y H Q => (y = .non ∧ Q (.bl (!decide (x = .non))) H) ∨ rNotB x y H Q
  | .in_ => fun x y H Q => rInP K x y H Q ∨ rDIn id x y H Q
  | .notin => fun x y H Q => rNotInP K x y H Q ∨ rDIn (fun b => !b) x y H Q
theorem op_cm (hu : X.A.units + 64 < cLine) : ∀ o : Cm, OpR X (compareOp (cmOf o)) (rCm X.K o)
  | .lt => op_lt
  | .le => op_le
  | .gt => op_gt
  | .ge => op_ge
  | .eq => op_eqP hu
  | .ne => op_neP hu
  | .is => OpR.or op_isN op_isBl
  | .isnot => OpR.or op_notN op_notBl
  | .in_ => OpR.or (op_inP hu) (op_dinR hu)
  | .notin => OpR.or (op_notInP hu) (op_dnotinR hu)
theorem _root_.FL.RT.dpU {K : PySem.W.Frag} {cA : Nat → Option Addr} {B H : Hp} {d : D} {v : V} (h : RT K cA B H d v) (s : Sub B H) (g : (unk d).plain = true) : Dp K H v (unk d).py := by
  cases d with
  | kt ds =>
    obtain ⟨a, vs, rfl, hk, r⟩ := h.kt_inv s
    exact .tup (.inr hk) (RDs.dp (r.mono s) (by unfold unk D.plain at g; exact g))
  | _ => exact (h.toH s).dp g
abbrev cmD (o : Cm) : D → D → Option AV := fun a b => (cmp o a b).map fun k => AV.d (.bl k)
theorem RT.isNon {Z : Zn} {B H : Hp} {d : D} {v : V} (h : RT Z.K Z.cA B H d v) : decide (v = .non) = d.isNon := by
  cases h with
  | d h => cases h <;> simp [D.isNon]
  | o h => cases h <;> simp [D.isNon]
theorem cm_flat {o : Cm} {d1 d2 : D} {Z : Zn} {B H : Hp} {s : S} {σ : L2.St} {W : WX} {Q : VK} (R : Rep Z B s σ H) (h : Post rV Z W B σ (ofO (cmD o d1 d2) s) Q) : ∃ k, cmp o d1 d2 = some k ∧ Q (.bl k) H := by
  unfold cmD at h
  cases e : cmp o d1 d2 with
  | none => rw [e] at h; exact h.elim
  | some k => rw [e] at h; exact ⟨k, rfl, Post.flat R (.bl k) h⟩
theorem lt_flat {f : Int → Int → Bool} {d1 d2 : D} {k : Bool} (e : ltI f d1 d2 = some k) : ∃ i j, d1 = .int i ∧ d2 = .int j ∧ k = f i j := by
  unfold ltI at e
  split at e
  · cases e; exact ⟨_, _, rfl, rfl, rfl⟩
  · cases e
theorem any_py (ds : List D) (d : D) (h1 : D.plains ds = true) (h2 : d.plain = true) : (D.pys ds).any (fun z => PyData.eqv z d.py) = ds.any fun z => z.eqv d := by
  induction ds with
  | nil => rfl
  | cons x r ih =>
    unfold D.plains at h1
    rw [Bool.and_eq_true] at h1
    unfold D.pys
    rw [List.any_cons, List.any_cons, ih h1.2, py_eqv x d h1.1 h2]
theorem in_flat {Z : Zn} {B H : Hp} {s : S} {σ : L2.St} {d1 d2 : D} {x y : V} {k : Bool} (R : Rep Z B s σ H) (t1 : RT Z.K Z.cA B H d1 x) (t2 : RT Z.K Z.cA B H d2 y) (e : inSeq d1 d2 = some k) :
    ∃ es : List PyData, Dp Z.K H x d1.py ∧ (Dp Z.K H y (.list es) ∨ Dp Z.K H y (.tuple es)) ∧ d1.py.plain = true ∧ PyData.plainAll es = true ∧ d1.py.depth ≤ 60 ∧ (es.any fun z => PyData.eqv z d1.py) = k := by
  unfold inSeq at e
  split at e
  · rename_i ds hs
    split at e
    · rename_i hk
      cases e
      rw [Bool.and_eq_true] at hk
      have p1 := okDeep_plain hk.1
      have p2 := okDeep_plain hk.2
      have dd := Nat.le_trans (py_depth d1) (okDeep_depth hk.1)
      have q1 := (t1.toH R.sub).dp p1
      have q2 := (t2.toH R.sub).dp p2
      cases d2 with
      | lst xs =>
        cases hs
        exact ⟨D.pys ds, q1, .inl (by unfold D.py at q2; exact q2), py_plain d1, pys_plain ds, dd, any_py ds d1 (by unfold D.plain at p2; exact p2) p1⟩
      | tup xs =>
        cases hs
        exact ⟨D.pys ds, q1, .inr (by unfold D.py at q2; exact q2), py_plain d1, pys_plain ds, dd, any_py ds d1 (by unfold D.plain at p2; exact p2) p1⟩
      | fz xs => cases p2
      | kt xs => cases p2
      | _ => cases hs
    · cases e
  · cases e
theorem in_split {d1 d2 : D} {k : Bool} (e : inD d1 d2 = some k) : inSeq d1 d2 = some k ∨ ∃ t kvs, d2 = .dct t kvs ∧ keyOk t d1 = true ∧ k = dHas d1 kvs := by
  unfold inD at e
  split at e
  · split at e
    · cases e; exact .inr ⟨_, _, rfl, by assumption, rfl⟩
    · cases e
  · exact .inl e
theorem cm_ok (hK : X.K = p.K) : ∀ (o : Cm) (x y : V) (H : Hp) (Q : VK), rOp p (cmD o) x y H Q → rCm X.K o x y H Q := by
  rintro o x y H Q ⟨Z, B, s, σ, d1, d2, zo, R, t1, t2, h⟩
  have hZ : X.K = Z.K := hK.trans zo.K.symm
  obtain ⟨k, e, q⟩ := cm_flat R h
  rw [hZ]
  cases o with
  | lt => obtain ⟨i, j, rfl, rfl, rfl⟩ := lt_flat e; exact ⟨i, j, t1.int_inv, t2.int_inv, q⟩
  | le => obtain ⟨i, j, rfl, rfl, rfl⟩ := lt_flat e; exact ⟨i, j, t1.int_inv, t2.int_inv, q⟩
  | gt => obtain ⟨i, j, rfl, rfl, rfl⟩ := lt_flat e; exact ⟨i, j, t1.int_inv, t2.int_inv, q⟩
  | ge => obtain ⟨i, j, rfl, rfl, rfl⟩ := lt_flat e; exact ⟨i, j, t1.int_inv, t2.int_inv, q⟩
  | eq =>
    unfold cmp at e
    simp only at e
    split at e
    · rename_i hk
      cases e
      rw [Bool.and_eq_true] at hk
      refine ⟨(unk d1).py, (unk d2).py, t1.dpU R.sub (okDeep_plain hk.1), t2.dpU R.sub (okDeep_plain hk.2), py_plain _, py_plain _, Nat.le_trans (py_depth (unk d1)) (okDeep_depth hk.1), ?_⟩
      rw [py_eqv (unk d1) (unk d2) (okDeep_plain hk.1) (okDeep_plain hk.2)]
      exact q
    · cases e
  | ne =>
    unfold cmp at e
    simp only at e
    split at e
    · rename_i hk
      cases e
      rw [Bool.and_eq_true] at hk
      refine ⟨(unk d1).py, (unk d2).py, t1.dpU R.sub (okDeep_plain hk.1), t2.dpU R.sub (okDeep_plain hk.2), py_plain _, py_plain _, Nat.le_trans (py_depth (unk d1)) (okDeep_depth hk.1), ?_⟩
      rw [py_eqv (unk d1) (unk d2) (okDeep_plain hk.1) (okDeep_plain hk.2)]
      exact q
    · cases e
  | is =>
    have e' : isN d1 d2 = some k := e
    unfold isN at e'
    split at e'
    · cases e'
      refine .inl ⟨t2.non_inv, ?_⟩
      rw [t1.isNon]
      exact q
    · unfold isBl at e'
      split at e'
      · cases e'
        refine .inr ⟨_, _, t1.bl_inv, t2.bl_inv, ?_⟩
        have z : ∀ b c : Bool, (decide (c = b)) = (c == b) := by decide
        rw [z]
        exact q
      · cases e'
    · cases e'
  | isnot =>
    have e' : notN d1 d2 = some k := e
    unfold notN at e'
    split at e'
    · cases e'
      refine .inl ⟨t2.non_inv, ?_⟩
      rw [t1.isNon]
      exact q
    · unfold isBl at e'
      split at e'
      · cases e'
        refine .inr ⟨_, _, t1.bl_inv, t2.bl_inv, ?_⟩
        have z : ∀ b c : Bool, (!decide (c = b)) = (!(c == b)) := by decide
        rw [z]
        exact q
      · cases e'
    · cases e'
  | in_ =>
    rcases in_split e with e | ⟨t, kvs, rfl, hk, rfl⟩
    · obtain ⟨es, h1, h2, h3, h4, h5, h6⟩ := in_flat R t1 t2 e
      exact .inl ⟨d1.py, es, h1, h2, h3, h4, h5, by rw [h6]; exact q⟩
    · obtain ⟨a, o, rfl, g, ho, _⟩ := t2.dget R.sub t1 hk
      exact .inr ⟨a, o, rfl, g, by rw [ho]; exact q⟩
  | notin =>
    have e' : (inD d1 d2).map (!·) = some k := e
    cases e2 : inD d1 d2 with
    | none => rw [e2] at e'; cases e'
    | some k' =>
      rw [e2] at e'
      cases e'
      rcases in_split e2 with e | ⟨t, kvs, rfl, hk, rfl⟩
      · obtain ⟨es, h1, h2, h3, h4, h5, h6⟩ := in_flat R t1 t2 e
        exact .inl ⟨d1.py, es, h1, h2, h3, h4, h5, by rw [h6]; exact q⟩
      · obtain ⟨a, o, rfl, g, ho, _⟩ := t2.dget R.sub t1 hk
        exact .inr ⟨a, o, rfl, g, by rw [ho]; exact q⟩
theorem se_cm (o : Cm) (hK : X.K = p.K) (hu : X.A.units + 64 < cLine) (ha : PE X x (tE p C a)) (hb : PE X y (tE p C b)) (hm : behindInMarks (cmOf o) y = false) : PE X (.Compare x [cmOf o] [y] pos) (tE p C (.cm o a b)) :=
  (pe_cmpR (op_cm hu o) ha hb hm).imp fun σ H Q h => two (cm_ok hK o) h
/-- a reading of a test from that of the value -/
theorem evB_of {e : E} {σ : L2.St} {H : Hp} {Q : Bool → Hp → Prop} (h : tT p C e σ H Q) : tE p C e σ H (fun v H' => ∃ k, v = .bl k ∧ Q k H') := by
  obtain ⟨Z, B, s, zo, R, h⟩ := h
  refine ⟨Z, B, s, zo, R, Post.bind h fun x s1 v1 H1 B1 R1 sb1 r1 h1 => ?_⟩
  cases x with
  | d d =>
    cases d with
    | bl k =>
      cases r1 with
      | d r1 => exact ⟨k, r1.bl_inv, h1 k H1 B1 R1 (Sub.refl B1) rfl⟩
    | _ => exact h1.elim
  | _ => exact h1.elim
theorem st_cm (o : Cm) (hK : X.K = p.K) (hu : X.A.units + 64 < cLine) (ha : PE X x (tE p C a)) (hb : PE X y (tE p C b)) (hm : behindInMarks (cmOf o) y = false) : PT X (.Compare x [cmOf o] [y] pos) (tT p C (.cm o a b)) :=
  (pt_cmpR (op_cm hu o) ha hb hm).imp fun σ H Q h => two (cm_ok hK o) (evB_of h)

/-! ### a < b < c -/
theorem chain_ok (o q : Cm) (hK : X.K = p.K) {σ : L2.St} {H : Hp} {Q : VK} (h : tE p C (.ch o q a b c) σ H Q) : tChain (rCm X.K o) (rCm X.K q) (tE p C a) (tE p C b) (tE p C c) σ H Q := by
  obtain ⟨Z, B, s, zo, R, h⟩ := h
  refine ⟨Z, B, s, zo, R, Post.bind h fun x s1 v1 H1 B1 R1 sb1 r1 h1 => ?_⟩
  obtain ⟨B1', sb1', R1', r1'⟩ := pend_ok R1 r1
  refine ⟨Z, B1', s1, zo, R1', Post.bind (h1.mono sb1') fun y s2 v2 H2 B2 R2 sb2 r2 h2 => ?_⟩
  have r1'' : RA Z B2 H2 s2 σ (pend x) v1 := r1'.later sb2
  obtain ⟨B2', sb2', R2', r2'⟩ := pend_ok R2 r2
  have r1''' : RA Z B2' H2 s2 σ (pend x) v1 := r1''.later sb2'
  replace h2 := h2.mono sb2'
  cases e1 : view (pend x) s2 with
  | none => rw [e1] at h2; exact h2.elim
  | some d1 =>
    rw [e1] at h2
    cases e2 : view (pend y) s2 with
    | none => rw [e2] at h2; exact h2.elim
    | some d2 =>
      rw [e2] at h2
      simp only at h2
      cases e3 : cmp o d1 d2 with
      | none => rw [e3] at h2; exact h2.elim
      | some k =>
        rw [e3] at h2
        simp only at h2
        refine cm_ok hK o v1 v2 H2 _ ⟨Z, B2', s2, σ, d1, d2, zo, R2', view_ok R2' r1''' e1, view_ok R2' r2' e2, ?_⟩
        unfold cmD
        rw [e3]
        refine fun v H3 B3 R3 sb3 r3 => ⟨k, ?_, ?_⟩
        · cases r3 with
          | d r3 => exact r3.bl_inv
        · cases k with
          | false =>
            rw [if_neg (by decide)] at h2
            rw [if_neg (by decide)]
            exact h2 _ _ _ R3 sb3 (.d (.bl false))
          | true =>
            rw [if_pos rfl] at h2
            rw [if_pos rfl]
            have r2'' : RA Z B3 H3 s2 σ (pend y) v2 := r2'.later sb3
            refine ⟨Z, B3, s2, zo, R3, Post.bind (h2.mono sb3) fun z s4 v4 H4 B4 R4 sb4 r4 h4 => ?_⟩
            have r2''' : RA Z B4 H4 s4 σ (pend y) v2 := r2''.later sb4
            cases e4 : view (pend y) s4 with
            | none => rw [e4] at h4; exact h4.elim
            | some d3 =>
              rw [e4] at h4
              cases e5 : view z s4 with
              | none => rw [e5] at h4; exact h4.elim
              | some d4 =>
                rw [e5] at h4
                exact cm_ok hK q v2 v4 H4 Q ⟨Z, B4, s4, σ, d3, d4, zo, R4, view_ok R4 r2''' e4, view_ok R4 r4 e5, h4⟩
theorem se_ch (o q : Cm) (hK : X.K = p.K) (hu : X.A.units + 64 < cLine) (ha : PE X x (tE p C a)) (hb : PE X y (tE p C b)) (hc : PE X z (tE p C c)) (hm : lastMarks [cmOf o, cmOf q] [y, z] = false) :
    PE X (.Compare x [cmOf o, cmOf q] [y, z] pos) (tE p C (.ch o q a b c)) := (pe_chain (op_cm hu o) (op_cm hu q) ha hb hc hm).imp fun σ H Q h => chain_ok o q hK h
theorem st_ch (o q : Cm) (hK : X.K = p.K) (hu : X.A.units + 64 < cLine) (ha : PE X x (tE p C a)) (hb : PE X y (tE p C b)) (hc : PE X z (tE p C c)) (hm : lastMarks [cmOf o, cmOf q] [y, z] = false) :
    PT X (.Compare x [cmOf o, cmOf q] [y, z] pos) (tT p C (.ch o q a b c)) := (pt_chain (op_cm hu o) (op_cm hu q) ha hb hc hm).imp fun σ H Q h => chain_ok o q hK (evB_of h)

/-! ### -a, not, and, or, a if c else b -/
theorem se_neg (ha : PE X x (tE p C a)) : PE X (.UnaryOp .USub x pos) (tE p C (.neg a)) := by
  refine (pe_un un_neg ha).imp fun σ H Q h => ?_
  obtain ⟨Z, B, s, zo, R, h⟩ := h
  refine ⟨Z, B, s, zo, R, Post.bind h fun x s1 v1 H1 B1 R1 sb1 r1 h1 => ?_⟩
  cases x with
  | d d =>
    cases d with
    | int i => cases r1 with | d r1 => exact ⟨i, r1.int_inv, Post.flat R1 (.int _) h1⟩
    | _ => exact h1.elim
  | _ => exact h1.elim
theorem se_not (ha : PE X x (tE p C a)) : PE X (.UnaryOp .Not x pos) (tE p C (.not a)) := by
  refine (pe_not ha).imp fun σ H Q h => ?_
  obtain ⟨Z, B, s, zo, R, h⟩ := h
  refine ⟨Z, B, s, zo, R, Post.bind h fun x s1 v1 H1 B1 R1 sb1 r1 h1 => ?_⟩
  cases x with
  | d d =>
    cases d with
    | bl i => cases r1 with | d r1 => exact ⟨i, r1.bl_inv, Post.flat R1 (.bl _) h1⟩
    | _ => exact h1.elim
  | _ => exact h1.elim
theorem and_ok {σ : L2.St} {H : Hp} {Q : VK} (h : tE p C (.and a b) σ H Q) : tAndV (tE p C a) (tE p C b) σ H Q := by
  obtain ⟨Z, B, s, zo, R, h⟩ := h
  refine ⟨Z, B, s, zo, R, Post.bind h fun x s1 v1 H1 B1 R1 sb1 r1 h1 => ?_⟩
  cases x with
  | d d =>
    cases d with
    | bl i =>
      cases r1 with
      | d r1 =>
        refine ⟨i, r1.bl_inv, ?_⟩
        cases i with
        | true => exact ⟨Z, B1, s1, zo, R1, h1⟩
        | false => exact Post.flat R1 (.bl _) h1
    | _ => exact h1.elim
  | _ => exact h1.elim
theorem or_ok {σ : L2.St} {H : Hp} {Q : VK} (h : tE p C (.or a b) σ H Q) : tOrV (tE p C a) (tE p C b) σ H Q := by
  obtain ⟨Z, B, s, zo, R, h⟩ := h
  refine ⟨Z, B, s, zo, R, Post.bind h fun x s1 v1 H1 B1 R1 sb1 r1 h1 => ?_⟩
  cases x with
  | d d =>
    cases d with
    | bl i =>
      cases r1 with
      | d r1 =>
        refine ⟨i, r1.bl_inv, ?_⟩
        cases i with
        | true => exact Post.flat R1 (.bl _) h1
        | false => exact ⟨Z, B1, s1, zo, R1, h1⟩
    | _ => exact h1.elim
  | _ => exact h1.elim
theorem tand_ok {σ : L2.St} {H : Hp} {Q : Bool → Hp → Prop} (h : tT p C (.and a b) σ H Q) : tAnd (tT p C a) (tT p C b) σ H Q := by
  obtain ⟨Z, B, s, zo, R, h⟩ := h
  refine ⟨Z, B, s, zo, R, ?_⟩
  unfold evB ev at h
  unfold evB
  cases e : ev C p.lk a s with
  | no => rw [e] at h; exact h
  | ex x s1 => rw [e] at h; exact h
  | ok x s1 =>
    rw [e] at h
    cases x with
    | d d =>
      cases d with
      | bl k =>
        refine fun k' H1 B1 R1 sb1 e1 => ?_
        subst e1
        cases k with
        | true => exact ⟨Z, B1, s1, zo, R1, Post.mono sb1 h⟩
        | false => exact h false H1 B1 R1 sb1 rfl
      | _ => exact h.elim
    | _ => exact h.elim
theorem tor_ok {σ : L2.St} {H : Hp} {Q : Bool → Hp → Prop} (h : tT p C (.or a b) σ H Q) : tOr (tT p C a) (tT p C b) σ H Q := by
  obtain ⟨Z, B, s, zo, R, h⟩ := h
  refine ⟨Z, B, s, zo, R, ?_⟩
  unfold evB ev at h
  unfold evB
  cases e : ev C p.lk a s with
  | no => rw [e] at h; exact h
  | ex x s1 => rw [e] at h; exact h
  | ok x s1 =>
    rw [e] at h
    cases x with
    | d d =>
      cases d with
      | bl k =>
        refine fun k' H1 B1 R1 sb1 e1 => ?_
        subst e1
        cases k with
        | true => exact h true H1 B1 R1 sb1 rfl
        | false => exact ⟨Z, B1, s1, zo, R1, Post.mono sb1 h⟩
      | _ => exact h.elim
    | _ => exact h.elim
theorem tnot_ok {σ : L2.St} {H : Hp} {Q : Bool → Hp → Prop} (h : tT p C (.not a) σ H Q) : tNot (tT p C a) σ H Q := by
  obtain ⟨Z, B, s, zo, R, h⟩ := h
  refine ⟨Z, B, s, zo, R, ?_⟩
  unfold evB ev at h
  unfold evB
  cases e : ev C p.lk a s with
  | no => rw [e] at h; exact h
  | ex x s1 => rw [e] at h; exact h
  | ok x s1 =>
    rw [e] at h
    cases x with
    | d d =>
      cases d with
      | bl k =>
        refine fun k' H1 B1 R1 sb1 e1 => ?_
        subst e1
        exact h (!k) H1 B1 R1 sb1 rfl
      | _ => exact h.elim
    | _ => exact h.elim
theorem ite_ok {σ : L2.St} {H : Hp} {Q : VK} (h : tE p C (.ite c a b) σ H Q) : tIf (tT p C c) (tE p C a) (tE p C b) σ H Q := by
  obtain ⟨Z, B, s, zo, R, h⟩ := h
  refine ⟨Z, B, s, zo, R, ?_⟩
  unfold ev at h
  unfold evB
  cases e : ev C p.lk c s with
  | no => rw [e] at h; exact h
  | ex x s1 => rw [e] at h; exact h
  | ok x s1 =>
    rw [e] at h
    cases x with
    | d d =>
      cases d with
      | bl k =>
        refine fun k' H1 B1 R1 sb1 e1 => ?_
        subst e1
        cases k with
        | true => exact ⟨Z, B1, s1, zo, R1, Post.mono sb1 h⟩
        | false => exact ⟨Z, B1, s1, zo, R1, Post.mono sb1 h⟩
      | _ => exact h.elim
    | _ => exact h.elim
/-- a test that is no and, or, not, comparison -/
theorem st_val {e : E} (he : PE X x (tE p C e)) (hp : ∀ whole, isTrue x X.env whole = (do let v ← whole; standAt x.pos; holding [v] (truthy v))) : PT X x (tT p C e) :=
  (pt_val he hp).imp fun σ H Q h => evB_of h
theorem se_ite (hc : PT X x (tT p C c)) (ha : PE X y (tE p C a)) (hb : PE X z (tE p C b)) : PE X (.IfExp x y z pos) (tE p C (.ite c a b)) := (pe_ifExp hc ha hb).imp fun σ H Q h => ite_ok h
theorem st_not (ha : PT X x (tT p C a)) : PT X (.UnaryOp .Not x pos) (tT p C (.not a)) := (pt_not ha).imp fun σ H Q h => tnot_ok h
end
end FL

set_option maxHeartbeats 4000000
/-! FS, part 4: names, displays, items, slices, built-ins. -/
namespace FL
open PySem PySem.Spec PyProof.Rows L2

section
variable {α β γ δ : Type} {R : Rl α β} {R' : Rl γ δ} {Z : Zn} {W : WX} {B B' H : Hp} {s : S} {σ : L2.St}
theorem Post.bindE {o : Out α} {g : α → S → Out γ} {Q' : δ → Hp → Prop} {Q : β → Hp → Prop} (h : Post R' Z W B σ (o.bind g) Q')
    (k : ∀ a s b H' B', o = .ok a s → Rep Z B' s σ H' → Sub B B' → R Z B' H' s σ a b → Post R' Z W B' σ (g a s) Q' → Q b H') : Post R Z W B σ o Q := by
  cases o with
  | ok a s' => exact fun b H' B' r sb ra => k a s' b H' B' rfl r sb ra (Post.mono sb h)
  | ex x s' => exact h
  | no => exact h
end
theorem evs_len {C : Calls} {lk : Nat} : ∀ (es : Es) (s : S) (ds : List D) (s' : S), evs C lk es s = .ok ds s' → ds.length = esLen es
  | .nil, s, ds, s', h => by
    unfold evs at h
    cases h; rfl
  | .cons e r, s, ds, s', h => by
    unfold evs at h
    cases h1 : ev C lk e s with
    | no => rw [h1] at h; cases h
    | ex x s1 => rw [h1] at h; cases h
    | ok x s1 =>
      rw [h1] at h
      simp only [Out.bind] at h
      cases h2 : frz x s1 with
      | none => rw [h2] at h; cases h
      | some q =>
        obtain ⟨d, s2⟩ := q
        rw [h2] at h
        simp only at h
        cases h3 : evs C lk r s2 with
        | no => rw [h3] at h; cases h
        | ex x s1 => rw [h3] at h; cases h
        | ok ds' s3 =>
          rw [h3] at h
          cases h
          unfold esLen
          rw [List.length_cons, evs_len r s2 ds' _ h3]

section
variable {p : Pm} {C : Calls} {X : Cx} {pos : Pos} {x y z : Expr} {xs : List Expr} {a b c : E} {es : Es}
/-! ### names, constants -/
theorem se_var {i : Nat} {n : Str} (hN : X.N[i]? = some n) (hv : Vis X.env.scope n) (hd : (n == ("__debug__" : Str)) = false) (hcd : (n == ("__classdict__" : Str)) = false) : PE X (.Name n pos) (tE p C (.v i)) := by
  refine (pe_var hN hv hd hcd).imp fun σ H Q h => ?_
  obtain ⟨Z, B, s, zo, R, h⟩ := h
  unfold ev at h
  cases e : getS s i with
  | none => rw [e] at h; exact h.elim
  | some w =>
    rw [e] at h
    cases w with
    | d d =>
      obtain ⟨v, h1, h2⟩ := R.dat i d e
      exact ⟨v, h1, Post.flat R h2 h⟩
    | o d =>
      obtain ⟨a, h1, h2⟩ := R.own i d e
      exact ⟨.ref a, h1, h _ _ B R (Sub.refl B) (.s h1)⟩
theorem cflat {d : D} {v : V} {σ : L2.St} {H : Hp} {Q : VK} (hr : ∀ K cA B, RD K cA B d v) (h : tE p C (.c d) σ H Q) : tC v σ H Q := by
  obtain ⟨Z, B, s, zo, R, h⟩ := h
  exact Post.flat R (hr _ _ _) h
theorem se_int {i : Int} {k : Nat} : PE X (.Constant (.int i) k pos) (tE p C (.c (.int i))) := pe_int.imp fun _ _ _ h => cflat (fun _ _ _ => .int i) h
theorem se_bl {i : Bool} {k : Nat} : PE X (.Constant (.bool i) k pos) (tE p C (.c (.bl i))) := pe_bl.imp fun _ _ _ h => cflat (fun _ _ _ => .bl i) h
theorem se_non {k : Nat} : PE X (.Constant .none k pos) (tE p C (.c .non)) := pe_non.imp fun _ _ _ h => cflat (fun _ _ _ => .non) h
theorem se_str {i : Str} {k : Nat} : PE X (.Constant (.str i) k pos) (tE p C (.c (.str i))) := pe_str.imp fun _ _ _ h => cflat (fun _ _ _ => .str i) h
theorem se_g {n : Str} {i : Int} (hg : Gl X n) (hm : ∃ t, X.mg n = some (.int i t)) (hd : (n == ("__debug__" : Str)) = false) : PE X (.Name n pos) (tE p C (.g n (.int i))) := by
  obtain ⟨t, hm⟩ := hm
  refine (pe_glob (v := .int i) hg hm ⟨t, rfl⟩ hd).imp fun σ H Q h => ?_
  obtain ⟨Z, B, s, zo, R, h⟩ := h
  exact Post.flat R (.int i) h

/-! ### argument lists -/
theorem sa_nil : PA X [] (tEs p C .nil) := pa_nil.imp fun σ H Q h => by
  obtain ⟨Z, B, s, zo, R, h⟩ := h
  exact h _ _ B R (Sub.refl B) .nil
theorem sa_cons {e : E} (ha : PE X x (tE p C e)) (hr : PA X xs (tEs p C es)) (hs : starEach (x :: xs) X.env = (false, eval x X.env) :: starEach xs X.env) : PA X (x :: xs) (tEs p C (.cons e es)) :=
  (pa_cons ha hr hs).imp fun σ H Q h => by
    obtain ⟨Z, B, s, zo, R, h⟩ := h
    refine ⟨Z, B, s, zo, R, Post.bind h fun x s1 v1 H1 B1 R1 sb1 r1 h1 => ?_⟩
    cases e : frz x s1 with
    | none => rw [e] at h1; exact h1.elim
    | some q =>
      obtain ⟨d, s2⟩ := q
      rw [e] at h1
      obtain ⟨B2, sb2, R2, r2⟩ := frz_ok R1 r1 e
      refine ⟨Z, B2, s2, zo, R2, Post.bind (h1.mono sb2) fun ds s3 vs H3 B3 R3 sb3 r3 h3 => ?_⟩
      exact h3 _ _ B3 R3 (Sub.refl B3) (.cons (r2.mono sb3) r3)
theorem sv_nil : PA X [] (tEv p C .nil) := pa_nil.imp fun σ H Q h => by
  obtain ⟨Z, B, s, zo, R, h⟩ := h
  exact h _ _ B R (Sub.refl B) .nil
theorem sv_cons {e : E} (ha : PE X x (tE p C e)) (hr : PA X xs (tEv p C es)) (hs : starEach (x :: xs) X.env = (false, eval x X.env) :: starEach xs X.env) : PA X (x :: xs) (tEv p C (.cons e es)) :=
  (pa_cons ha hr hs).imp fun σ H Q h => by
    obtain ⟨Z, B, s, zo, R, h⟩ := h
    refine ⟨Z, B, s, zo, R, Post.bind h fun x s1 v1 H1 B1 R1 sb1 r1 h1 => ?_⟩
    obtain ⟨B2, sb2, R2, r2⟩ := pend_ok R1 r1
    refine ⟨Z, B2, s1, zo, R2, Post.bind (h1.mono sb2) fun ds s3 vs H3 B3 R3 sb3 r3 h3 => ?_⟩
    exact h3 _ _ B3 R3 (Sub.refl B3) (.cons (r2.later sb3) r3)
theorem RAs.views {Z : Zn} {B H : Hp} {s : S} {σ : L2.St} : ∀ {xs : List AV} {vs : List V} {ds : List D}, Rep Z B s σ H → RAs Z B H s σ xs vs → FL.views xs s = some ds → vs.length = ds.length ∧ ∀ (i : Nat) (d : D), ds[i]? = some d → ∃ v : V, vs[i]? = some v ∧ RT Z.K Z.cA B H d v
  | _, _, ds, R, .nil, e => by
    unfold FL.views at e
    cases e
    exact ⟨rfl, fun i d h => by simp at h⟩
  | _, _, ds, R, .cons (x := x) (xs := xs) h r, e => by
    unfold FL.views at e
    cases e1 : view (pend x) s with
    | none => rw [e1] at e; cases e
    | some d =>
      rw [e1] at e
      cases e2 : FL.views xs s with
      | none => rw [e2] at e; cases e
      | some ds' =>
        rw [e2] at e
        cases e
        obtain ⟨h2, h3⟩ := RAs.views R r e2
        refine ⟨by rw [List.length_cons, List.length_cons, h2], fun i d' hi => ?_⟩
        cases i with
        | zero =>
          rw [List.getElem?_cons_zero] at hi
          cases hi
          exact ⟨_, rfl, view_ok R h e1⟩
        | succ i =>
          rw [List.getElem?_cons_succ] at hi
          obtain ⟨v, q1, q2⟩ := h3 i d' hi
          exact ⟨v, by rw [List.getElem?_cons_succ]; exact q1, q2⟩

/-! ### displays -/
theorem se_tup {k : Nat} (ha : PA X xs (tEs p C es)) (hl : esLen es ≤ lim) : PE X (.Tuple xs k pos) (tE p C (.tup es)) :=
  (pe_tup ha).imp fun σ H Q h => by
    obtain ⟨Z, B, s, zo, R, h⟩ := h
    refine ⟨Z, B, s, zo, R, Post.bindE h fun ds s1 vs H1 B1 e R1 sb1 r1 h1 => ⟨?_, Post.newT R1 r1 h1⟩⟩
    rw [← r1.length, evs_len _ _ _ _ e]
    exact lim_le hl
theorem se_lst (ha : PA X xs (tEs p C es)) (hl : esLen es ≤ lim) : PE X (.List xs pos) (tE p C (.lst es)) :=
  (pe_lst ha).imp fun σ H Q h => by
    obtain ⟨Z, B, s, zo, R, h⟩ := h
    refine ⟨Z, B, s, zo, R, Post.bindE h fun ds s1 vs H1 B1 e R1 sb1 r1 h1 => ⟨?_, Post.newL R1 r1 h1⟩⟩
    rw [← r1.length, evs_len _ _ _ _ e]
    exact lim_le hl

/-! ### items, slices -/
theorem atI_ok {K : PySem.W.Frag} {cA : Nat → Option Addr} {B : Hp} {ds : List D} {vs : List V} {i : Int} {d : D} (r : RDs K cA B ds vs) (e : ixAt ds i = some d) : ∃ v, atI vs i = some v ∧ RD K cA B d v := by
  have he : L2.ixN vs.length i = FL.ixN ds.length i := by rw [r.length]; rfl
  unfold ixAt at e
  unfold atI
  rw [he]
  cases q : FL.ixN ds.length i with
  | none => rw [q] at e; cases e
  | some j =>
    rw [q] at e
    exact r.get e
def rIxD : R2 := fun x y H Q => ∃ a v, x = .ref a ∧ DGet H a y (some v) ∧ Q v H
theorem ix_dict (hu : X.A.units + 64 < cLine) : IxR X rIxD := by
  intro value slice pins s σ H x y v u Q I rx ry h hs
  obtain ⟨a, w, rfl, g, q⟩ := h
  obtain rfl : v = Value.ref a := rx
  exact tail_any (dict_typeIs I g) PySem.F.slot_dict_getitem.lookup (d_getItem (by omega) I g ry fun w' s3 I3 rw' => ⟨w, H, I3, rw', q⟩) hs
theorem item_split {d k : D} {r : AV} (e : itemD d k = some r) : itemSeq d k = some r ∨ ∃ t kvs w, d = .dct t kvs ∧ keyOk t k = true ∧ dGet k kvs = some w ∧ r = .d w := by
  unfold itemD at e
  split at e
  · split at e
    · rename_i t kvs hk
      cases e2 : dGet k kvs with
      | none => rw [e2] at e; cases e
      | some w => rw [e2] at e; cases e; exact .inr ⟨_, _, w, rfl, hk, e2, rfl⟩
    · cases e
  · exact .inl e
theorem ix_okD (hK : X.K = p.K) : ∀ x y H Q, rOp p itemD x y H Q → (rOp p itemSeq x y H Q ∨ rIxD x y H Q) := by
  rintro x y H Q ⟨Z, B, s, σ, d1, d2, zo, R, t1, t2, h⟩
  cases e : itemD d1 d2 with
  | none => rw [e] at h; exact h.elim
  | some r =>
    rcases item_split e with e' | ⟨t, kvs, w, rfl, hk, hg, rfl⟩
    · exact .inl ⟨Z, B, s, σ, d1, d2, zo, R, t1, t2, by rw [e']; rw [e] at h; exact h⟩
    · obtain ⟨a, o, rfl, g, _, ho⟩ := t1.dget R.sub t2 hk
      obtain ⟨v, rfl, rd⟩ := ho w hg
      rw [e] at h
      exact .inr ⟨a, v, rfl, g, Post.flat R rd h⟩
theorem ix_ok (hK : X.K = p.K) : ∀ x y H Q, rOp p itemSeq x y H Q → rIx X.K x y H Q := by
  rintro x y H Q ⟨Z, B, s, σ, d1, d2, zo, R, t1, t2, h⟩
  have hZ : X.K = Z.K := hK.trans zo.K.symm
  unfold itemSeq at h
  split at h
  · rename_i i
    cases e : itemAt d1 i with
    | none => rw [e] at h; exact h.elim
    | some d =>
      rw [e] at h
      rw [t2.int_inv, hZ]
      unfold itemAt at e
      split at e
      · obtain ⟨a, vs, rfl, ha, r⟩ := t1.lst_inv R.sub
        obtain ⟨v, h1, h2⟩ := atI_ok r e
        exact .inl ⟨a, vs, i, v, rfl, rfl, .inl (.inl ha), h1, Post.flat R h2 h⟩
      · obtain ⟨a, vs, rfl, ha, r⟩ := t1.tup_inv R.sub
        obtain ⟨v, h1, h2⟩ := atI_ok r e
        exact .inr (.inl ⟨a, vs, i, v, rfl, rfl, ha, h1, Post.flat R h2 h⟩)
      · obtain ⟨a, vs, rfl, ha, r⟩ := t1.fz_inv R.sub
        obtain ⟨v, h1, h2⟩ := atI_ok r e
        exact .inl ⟨a, vs, i, v, rfl, rfl, ha, h1, Post.flat R h2 h⟩
      · obtain ⟨a, vs, rfl, ha, r⟩ := t1.kt_inv R.sub
        obtain ⟨v, h1, h2⟩ := atI_ok r e
        exact .inr (.inl ⟨a, vs, i, v, rfl, rfl, .inr ha, h1, Post.flat R h2 h⟩)
      · cases e
  · exact h.elim
theorem se_ix (hK : X.K = p.K) (hu : X.A.units + 64 < cLine) (ha : PE X x (tE p C a)) (hb : PE X y (tE p C b)) (hs : PlainIx y) : PE X (.Subscript x y pos) (tE p C (.ix a b)) := (pe_ix (ix_seq.or (ix_dict hu)) ha hb hs).imp fun σ H Q h => two (fun x y H Q h => (ix_okD hK x y H Q h).imp (ix_ok hK x y H Q) id) h
abbrev tEo (p : Pm) (C : Calls) (e : Eo) : TO := tX rOI p (evo C p.lk e)
theorem _root_.L2.PO.imp {X : Cx} {e : Option Expr} {t t' : TO} (h : PO X e t) (k : ∀ σ H Q, t' σ H Q → t σ H Q) : PO X e t' := ⟨fun pins s σ H Q I hw => h.run pins s σ H Q I (k σ H Q hw)⟩
theorem so_none : PO X none (tEo p C .none) := po_none.imp fun σ H Q h => by
  obtain ⟨Z, B, s, zo, R, h⟩ := h
  exact h _ _ B R (Sub.refl B) rfl
theorem so_some {e : E} (ha : PE X x (tE p C e)) : PO X (some x) (tEo p C (.some e)) := (po_some ha).imp fun σ H Q h => by
  obtain ⟨Z, B, s, zo, R, h⟩ := h
  refine ⟨Z, B, s, zo, R, Post.bind h fun x s1 v1 H1 B1 R1 sb1 r1 h1 => ?_⟩
  cases x with
  | d d =>
    cases d with
    | int i => cases r1 with | d r1 => exact ⟨i, r1.int_inv, h1 _ _ B1 R1 (Sub.refl B1) rfl⟩
    | _ => exact h1.elim
  | _ => exact h1.elim
theorem clip_eq (n d : Nat) (o : Option Int) : HT.sIx n d o = clip n d o := by cases o <;> rfl
theorem cut_ok {K : PySem.W.Frag} {cA : Nat → Option Addr} {B : Hp} {ds : List D} {vs : List V} (lo hi : Option Int) (r : RDs K cA B ds vs) : RDs K cA B (cut ds lo hi) (cutV vs lo hi) := by
  unfold cut cutV
  rw [clip_eq, clip_eq, ← r.length]
  exact (r.drop _).take _
theorem cut_whole {α : Type} (ds : List α) (lo hi : Option Int) (h : clip ds.length 0 lo = 0 ∧ clip ds.length ds.length hi = ds.length) : cut ds lo hi = ds := by
  unfold cut
  rw [h.1, h.2]
  simp
theorem se_sl {l h : Option Expr} {pos' : Pos} {lo hi : Eo} (hK : X.K = p.K) (ha : PE X x (tE p C a)) (hl : PO X l (tEo p C lo)) (hh : PO X h (tEo p C hi)) : PE X (.Subscript x (.Slice l h none pos') pos) (tE p C (.sl a lo hi)) := by
  refine (pe_slice (SlR.or sl_list sl_tupA) ha hl hh).imp fun σ H Q hw => ?_
  obtain ⟨Z, B, s, zo, R, hw⟩ := hw
  have hZ : X.K = Z.K := hK.trans zo.K.symm
  refine ⟨Z, B, s, zo, R, Post.bind hw fun x s1 v1 H1 B1 R1 sb1 r1 h1 => ?_⟩
  obtain ⟨B1', sb1', R1', r1'⟩ := pend_ok R1 r1
  refine ⟨Z, B1', s1, zo, R1', Post.bind (h1.mono sb1') fun l s2 l' H2 B2 R2 sb2 r2 h2 => ?_⟩
  cases r2
  have r1'' : RA Z B2 H2 s2 σ (pend x) v1 := r1'.later sb2
  refine ⟨Z, B2, s2, zo, R2, Post.bind h2 fun h s3 h' H3 B3 R3 sb3 r3 h3 => ?_⟩
  cases r3
  have r1''' : RA Z B3 H3 s3 σ (pend x) v1 := r1''.later sb3
  cases e : view (pend x) s3 with
  | none => rw [e] at h3; exact h3.elim
  | some d =>
    rw [e] at h3
    have t := view_ok R3 r1''' e
    rw [hZ]
    simp only at h3
    unfold sliceOf at h3
    split at h3
    · obtain ⟨a, vs, rfl, ha, r⟩ := t.lst_inv R3.sub
      exact .inl ⟨a, vs, rfl, .inl (.inl ha), Post.newL R3 (cut_ok _ _ r) h3⟩
    · obtain ⟨a, vs, rfl, ha, r⟩ := t.fz_inv R3.sub
      exact .inl ⟨a, vs, rfl, ha, Post.newL R3 (cut_ok _ _ r) h3⟩
    · rename_i ds
      obtain ⟨a, vs, rfl, ha, r⟩ := t.tup_inv R3.sub
      refine .inr ⟨a, vs, rfl, ha, fun hw => ?_, fun _ => Post.newT R3 (cut_ok _ _ r) h3⟩
      rw [clip_eq, clip_eq, ← r.length] at hw
      rw [cut_whole ds l h hw] at h3
      cases t with
      | d t => exact Post.flat R3 t h3
      | o t => cases t
    · exact h3.elim

/-! ### fields -/
theorem se_fld {f : Str} (hK : X.K = p.K) (ha : PE X x (tE p C a)) (hc : ∀ c C, p.cA c = some C → Cls X.K C ∧ NoAttr X.K C f) (hb : attributeBase x f X.env (eval x X.env) = eval x X.env) : PE X (.Attribute x f pos) (tE p C (.fld a f)) := by
  refine (pe_fld ha hb).imp fun σ H Q h => ?_
  obtain ⟨Z, B, s, zo, R, h⟩ := h
  refine ⟨Z, B, s, zo, R, Post.bind h fun x s1 v1 H1 B1 R1 sb1 r1 h1 => ?_⟩
  cases e : view x s1 with
  | none => rw [e] at h1; exact h1.elim
  | some d =>
    rw [e] at h1
    simp only at h1
    have t := view_ok R1 r1 e
    unfold fldD at h1
    split at h1
    · rename_i c fs
      split at h1
      · rename_i d' hd
        obtain ⟨a, C0, dx, gs, rfl, hC, h2, r⟩ := t.ins_inv R1.sub
        obtain ⟨v, h3, h4⟩ := r.look hd
        have hcc := hc c C0 (by rw [← zo.cA]; exact hC)
        exact ⟨a, C0, dx, gs, v, rfl, h2, hcc.1, hcc.2, h3, Post.flat R1 h4 h1⟩
      · exact h1.elim
    · exact h1.elim
end
end FL

set_option maxHeartbeats 4000000
/-! FSV: t[i::-1] of tuples. -/
namespace FL
open PySem PySem.Spec PyProof.Rows L2
theorem backN_le (n : Nat) (lo : Option Int) : backN n lo ≤ n ∨ ∃ v : Int, lo = some v := by
  cases lo with
  | none => exact .inl (Nat.le_refl _)
  | some v => exact .inr ⟨v, rfl⟩
theorem back_adjust (n : Nat) (lo : Option Int) : Builtin.Slice.sliceAdjust lo none (-1) (n : Int) = (((min (backN n lo) n : Nat) : Int) - 1, -1) := by
  unfold Builtin.Slice.sliceAdjust
  have h1 : ((-1 : Int) < 0) := by decide
  simp only [h1, if_true]
  refine Prod.ext ?_ rfl
  cases lo with
  | none =>
    show (n : Int) - 1 = ((min n n : Nat) : Int) - 1
    omega
  | some v =>
    show (if v < 0 then max (v + (n : Int)) (-1) else min v ((n : Int) - 1)) = ((min (if v < 0 then (v + (n : Int) + 1).toNat else min (v.toNat + 1) n) n : Nat) : Int) - 1
    by_cases hv : v < 0
    · simp only [if_pos hv]; omega
    · simp only [if_neg hv]; omega
theorem back_places (m : Nat) : Builtin.Slice.slicePlaces ((m : Int) - 1) (-1) (-1) = m := by
  unfold Builtin.Slice.slicePlaces
  have h1 : ¬ ((-1 : Int) > 0) := by decide
  simp only [h1, if_false]
  by_cases h : (m : Int) - 1 > -1
  · rw [if_pos h]
    show (((m : Int) - 1 - -1 - 1) / (- -1) + 1).toNat = m
    rw [show (- -1 : Int) = 1 from rfl, Int.ediv_one]
    omega
  · rw [if_neg h]
    omega
theorem back_pick (xs : Array Value) (m : Nat) (hm : m ≤ xs.size) : ((List.range m).filterMap fun (k : Nat) => xs[((m : Int) - 1 + (k : Int) * (-1)).toNat]?).toArray = (xs.toList.take m).reverse.toArray := by
  congr 1
  apply List.ext_getElem?
  intro i
  have e : ∀ k ∈ List.range m, xs[((m : Int) - 1 + (k : Int) * (-1)).toNat]? = some (xs.toList.getD (m - 1 - k) Value.none) := fun k hk => by
    have hk' := List.mem_range.mp hk
    have : ((m : Int) - 1 + (k : Int) * (-1)).toNat = m - 1 - k := by omega
    rw [this, Array.getElem?_eq_getElem (by omega), List.getD_eq_getElem?_getD, List.getElem?_eq_getElem (by rw [Array.length_toList]; omega)]
    simp
  have key : ∀ l : List Nat, (∀ k ∈ l, k ∈ List.range m) → l.filterMap (fun (k : Nat) => xs[((m : Int) - 1 + (k : Int) * (-1)).toNat]?) = l.map fun k => xs.toList.getD (m - 1 - k) Value.none := by
    intro l
    induction l with
    | nil => intro _; rfl
    | cons a r ih =>
      intro h
      rw [List.filterMap_cons, e a (h a List.mem_cons_self), List.map_cons, ih fun k hk => h k (List.mem_cons_of_mem _ hk)]
  rw [key _ fun k hk => hk]
  by_cases hi : i < m
  · rw [List.getElem?_map, List.getElem?_range hi, List.getElem?_reverse (by rw [List.length_take, Array.length_toList]; omega), List.length_take, Array.length_toList]
    rw [show min m xs.size - 1 - i = m - 1 - i from by omega, List.getElem?_take, if_pos (by omega), List.getElem?_eq_getElem (by rw [Array.length_toList]; omega)]
    simp only [Option.map]
    rw [List.getD_eq_getElem?_getD, List.getElem?_eq_getElem (by rw [Array.length_toList]; omega)]
    rfl
  · rw [List.getElem?_eq_none (by simp; omega), List.getElem?_eq_none (by simp; omega)]
section
variable {prog : Program} {w : World} {A : Around} {E : Value → Shared → Prop} {s : Shared}
theorem sliceApplied_back {sl : Addr} {vl : Value} {lo : Option Int} {n : Nat} {u : Tok} {Q : Int × Int × Nat → Shared → Prop} (hs : s.heap.IsSliceOf sl vl .none (.int (-1) u)) (pl : IsPart vl lo)
    (h : Q (((min (backN n lo) n : Nat) : Int) - 1, -1, min (backN n lo) n) s) : wpAny (model prog w) A (Builtin.Slice.sliceApplied (.ref sl) (pure (n : Int))) Q E s := by
  obtain ⟨os, hos, hcs, hds⟩ := id hs
  unfold Builtin.Slice.sliceApplied Builtin.Slice.sliceFields
  refine wpAny_bind (wpAny_bind (wpAny_field hos hds (x := vl) rfl (wpAny_bind (wpAny_field hos hds (x := .none) rfl (wpAny_bind (wpAny_field hos hds (x := .int (-1) u) rfl (wpAny_pure ?_)))))))
  refine wpAny_bind (HT.slicePart_ (.int (-1) u) ?_)
  show wpAny _ _ (if ((-1 : Int) == 0) = true then _ else _) _ _ s
  rw [if_neg (by decide)]
  refine wpAny_bind (HT.slicePart_ pl (wpAny_bind (HT.slicePart_ .none (wpAny_bind (wpAny_pure ?_)))))
  show wpAny _ _ (match Builtin.Slice.sliceAdjust lo none (-1) (n : Int) with | (lo, hi) => pure (lo, (-1 : Int), Builtin.Slice.slicePlaces lo hi (-1))) _ _ s
  rw [back_adjust n lo]
  show wpAny _ _ (pure (((min (backN n lo) n : Nat) : Int) - 1, (-1 : Int), Builtin.Slice.slicePlaces (((min (backN n lo) n : Nat) : Int) - 1) (-1) (-1))) _ _ s
  rw [back_places]
  exact wpAny_pure h
theorem getItem_tuple_back {t sl : Addr} {items : Array Value} {vl : Value} {lo : Option Int} {u : Tok} {Q : Value → Shared → Prop} (ht : IsTup s.heap t items) (hs : s.heap.IsSliceOf sl vl .none (.int (-1) u)) (pl : IsPart vl lo)
    (h : Q (.ref s.heap.objs.size) { s with heap := s.heap.push { cls := .type "tuple", data := .seq (items.toList.take (min (backN items.size lo) items.size)).reverse.toArray } })
    (hsz : items.size ≤ sizeLine) : wpAny (model prog w) A (getItem (.ref t) (.ref sl)) Q E s := by
  have htake : sizeOk (.seq (items.toList.take (min (backN items.size lo) items.size)).reverse.toArray) := by
    show (items.toList.take (min (backN items.size lo) items.size)).reverse.toArray.size ≤ sizeLine
    rw [List.size_toArray, List.length_reverse, List.length_take, Array.length_toList]
    omega
  obtain ⟨os, hos, hcs, hds⟩ := id hs
  have hTs : s.TypeIs (.ref sl) "slice" := ⟨os, hos, hcs⟩
  unfold getItem
  try with_reducible refine wpAny_holding ?_
  first | refine wpAny_bind (wpAny_pure ?_) | skip
  refine wpAny_bind (wpAny_sequenceKey ht.typeIs (by decide) ?_)
  refine wpAny_bind (wpAny_callSpecial?_slot (name := Str.ofString "__getitem__") ht.typeIs PyProof.Rows.slot_tuple_getitem
    (wpAny_call_entry PyProof.Rows.slot_tuple_getitem ht.typeIs entry_tuple_getitem ?_ (args_tuple_getitem _ _)))
  show wpAny _ _ (Builtin.Tuple.tupleItemsOf (.ref t) >>= _) _ _ s
  refine wpAny_bind (tupleItemsOf_ ht ?_)
  refine wpAny_bind (wpAny_typeOf hTs ?_)
  rw [if_pos (by decide)]
  refine wpAny_bind (sliceApplied_back hs pl ?_)
  have hno : ¬ (((((min (backN items.size lo) items.size : Nat) : Int) - 1) == 0 && (-1 : Int) == 1 && (min (backN items.size lo) items.size) == items.size) = true) := by
    intro q
    rw [Bool.and_eq_true, Bool.and_eq_true] at q
    exact absurd q.1.2 (by decide)
  show wpAny _ _ (if ((((min (backN items.size lo) items.size : Nat) : Int) - 1) == 0 && (-1 : Int) == 1 && (min (backN items.size lo) items.size) == items.size) = true then _ else _) _ _ s
  rw [if_neg hno, back_pick _ _ (Nat.min_le_right _ _)]
  first
    | exact wpAny_bind (m := Builtin.Tuple.tupleExact _) (wpAny_newObj_type (wpAny_pure ⟨_, rfl, wpAny_pure h⟩) htake)
    | exact wpAny_bind (m := Builtin.Tuple.tupleExact _) (wpAny_newObj_type (wpAny_bind (wpAny_pure (wpAny_pure ⟨_, rfl, wpAny_pure h⟩))) htake)
    | exact wpAny_bind (wpAny_bind (m := Builtin.Tuple.tupleExact _) (wpAny_newObj_type (wpAny_pure (wpAny_pure ⟨_, rfl, wpAny_pure h⟩)) htake))
    | exact wpAny_bind (wpAny_bind (m := Builtin.Tuple.tupleExact _) (wpAny_newObj_type (wpAny_pure ⟨_, rfl, wpAny_pure h⟩) htake))
end
section
variable {X : Cx}
def tBack (K : PySem.W.Frag) (te : TE) (tl : TO) : TE := fun σ H Q => te σ H fun x H1 => tl σ H1 fun l H2 => ∃ a xs, x = .ref a ∧ SqT K H2 a xs ∧ ∀ p, H2 p = none → Q (.ref p) (upd H2 p (.tup (cutB xs l)))
theorem cutB_take {α : Type} (xs : List α) (lo : Option Int) : cutB xs lo = (xs.take (min (backN xs.length lo) xs.length)).reverse := by
  unfold cutB
  congr 1
  rcases Nat.le_total (backN xs.length lo) xs.length with h | h
  · rw [Nat.min_eq_left h]
  · rw [Nat.min_eq_right h, List.take_of_length_le h, List.take_of_length_le (Nat.le_refl _)]
theorem pe_back {e : Expr} {te : TE} {lo : Option Expr} {tl : TO} {k : Nat} {p1 p2 p3 pos : Pos} (he : PE X e te) (hl : PO X lo tl) : PE X (.Subscript e (.Slice lo none (some (.UnaryOp .USub (.Constant (.int 1) k p1) p2)) p3) pos) (tBack X.K te tl) := by
  refine ⟨fun pins s σ H Q I h => ?_⟩
  refine Subscript_ (thn (he.run pins s σ H _ I h) fun v s1 ⟨x, H1, I1, r1, q1⟩ => ?_)
  have hst : PO X (some (.UnaryOp .USub (.Constant (.int 1) k p1) p2)) (tPart (tUn (rU fun i => .int (-i)) (tC (.int 1)))) := po_some (pe_un un_neg pe_int)
  refine wpAny_Slice (thn (hl.run pins s1 σ H1 _ I1 q1) fun vl s2 ⟨l, H2, I2, pl, q⟩ => ?_)
  obtain ⟨a, xs, ex, hx, q⟩ := q
  subst ex
  cases r1
  refine thn (po_none.run pins s2 σ H2 (fun o H3 => o = none ∧ H3 = H2) I2 ⟨rfl, rfl⟩) fun vu s3 ⟨u, H3, I3, pu, eu, e3⟩ => ?_
  subst eu e3
  cases pu
  refine thn (hst.run pins s3 σ H3 (fun o H4 => o = some (-1) ∧ H4 = H3) I3 ⟨1, rfl, -1, rfl, rfl, rfl⟩) fun vs s4 ⟨o, H4, I4, ps, eo, e4⟩ => ?_
  subst eo e4
  obtain ⟨tk, rfl⟩ : ∃ tk, vs = .int (-1) tk := by cases ps; exact ⟨_, rfl⟩
  have I5 : Inv X pins σ H4 { s4 with heap := s4.heap.push { cls := .type "slice", data := .fields #[vl, .none, .int (-1) tk] } } := I4.kept (t' := s4.toks) fun b ob q => Heap.get?_push_of_some _ q
  obtain ⟨its, r, ht, hz⟩ := I5.tuple hx
  have hlen := r.length
  show wpAny (model X.prog X.w) X.A (subscriptTail e (.Slice lo none (some (.UnaryOp .USub (.Constant (.int 1) k p1) p2)) p3) (.ref a) (.ref s4.heap.objs.size)) (EP X pins σ Q) X.xe { s4 with heap := s4.heap.push { cls := .type "slice", data := .fields #[vl, .none, .int (-1) tk] } }
  refine tail_any (ops := [.ref a, .ref s4.heap.objs.size]) ht.typeIs (PyProof.Rows.slot_tuple_getitem.lookup) ?_ (by with_unfolding_all rfl)
  refine getItem_tuple_back ht (Heap.IsSliceOf.new _ vl .none (.int (-1) tk)) pl ?_ (by rw [List.size_toArray]; omega)
  refine ⟨.ref _, _, I5.laid (t' := s4.toks) (o := .tup (cutB xs l)) (fun b ob q => Heap.get?_push_of_some _ q) (Nat.le_refl _) ?_, rfl, q _ (I5.hok.fresh (Nat.le_refl _))⟩
  rw [cutB_take, hlen]
  refine ⟨by rw [List.length_reverse, List.length_take]; omega, _, (r.take (min (backN its.length l) its.length)).reverse, ?_⟩
  rw [List.size_toArray]
  exact IsTup.new _ _
end
theorem RDs.rev {K : PySem.W.Frag} {cA : Nat → Option Addr} {B : Hp} : ∀ {a : List D} {va : List V}, RDs K cA B a va → RDs K cA B a.reverse va.reverse
  | _, _, .nil => .nil
  | _, _, .cons h r => by
    rw [List.reverse_cons, List.reverse_cons]
    exact (RDs.rev r).append (.cons h .nil)
section
variable {p : Pm} {C : Calls} {X : Cx} {pos : Pos} {x : Expr} {a : E}
theorem se_back {l : Option Expr} {k : Nat} {p1 p2 p3 : Pos} {lo : Eo} (hK : X.K = p.K) (ha : PE X x (tE p C a)) (hl : PO X l (tEo p C lo)) : PE X (.Subscript x (.Slice l none (some (.UnaryOp .USub (.Constant (.int 1) k p1) p2)) p3) pos) (tE p C (.rev a lo)) := by
  refine (pe_back ha hl).imp fun σ H Q hw => ?_
  obtain ⟨Z, B, s, zo, R, hw⟩ := hw
  have hZ : X.K = Z.K := hK.trans zo.K.symm
  refine ⟨Z, B, s, zo, R, Post.bind hw fun x s1 v1 H1 B1 R1 sb1 r1 h1 => ?_⟩
  obtain ⟨B1', sb1', R1', r1'⟩ := pend_ok R1 r1
  refine ⟨Z, B1', s1, zo, R1', Post.bind (h1.mono sb1') fun l s2 l' H2 B2 R2 sb2 r2 h2 => ?_⟩
  cases r2
  have r1'' : RA Z B2 H2 s2 σ (pend x) v1 := r1'.later sb2
  cases e : view (pend x) s2 with
  | none => rw [e] at h2; exact h2.elim
  | some d =>
    rw [e] at h2
    have t := view_ok R2 r1'' e
    rw [hZ]
    simp only at h2
    unfold revOf at h2
    split at h2
    · rename_i ds
      obtain ⟨a, vs, rfl, ha, r⟩ := t.tup_inv R2.sub
      refine ⟨a, vs, rfl, ha, Post.newT R2 ?_ h2⟩
      unfold cutB
      rw [← r.length]
      exact (r.take _).rev
    · exact h2.elim
end
end FL

set_option maxHeartbeats 4000000
/-! FS, part 5: built-ins, isinstance. -/
namespace FL
open PySem PySem.Spec PyProof.Rows L2

section
variable {p : Pm} {C : Calls} {X : Cx} {pos : Pos} {x y z : Expr} {xs : List Expr} {a b c : E} {es : Es}
/-- a built-in on things seen -/
def rBi (p : Pm) (b : Bi) : List V → Hp → VK → Prop := fun vs H Q => ∃ Z B s σ ds, ZOk p Z ∧ Rep Z B s σ H ∧ (vs.length = ds.length ∧ ∀ (i : Nat) (d : D), ds[i]? = some d → ∃ v : V, vs[i]? = some v ∧ RT Z.K Z.cA B H d v) ∧ Post rV Z p.W B σ (ofO (bltin b ds) s) Q
theorem bi_of {b : Bi} {r : List V → Hp → VK → Prop} (hr : ∀ vs H Q, rBi p b vs H Q → r vs H Q) {σ : L2.St} {H : Hp} {Q : VK} (h : tE p C (.bi b es) σ H Q) : tCB r (tEv p C es) σ H Q := by
  obtain ⟨Z, B, s, zo, R, h⟩ := h
  refine ⟨Z, B, s, zo, R, Post.bind h fun xs s1 vs H1 B1 R1 sb1 r1 h1 => ?_⟩
  cases e : views xs s1 with
  | none => rw [e] at h1; exact h1.elim
  | some ds =>
    rw [e] at h1
    exact hr _ _ _ ⟨Z, B1, s1, σ, ds, zo, R1, RAs.views R1 r1 e, h1⟩
theorem one_of {K : PySem.W.Frag} {cA : Nat → Option Addr} {B H : Hp} {vs : List V} {d : D} (h : vs.length = [d].length ∧ ∀ (i : Nat) (d' : D), [d][i]? = some d' → ∃ v : V, vs[i]? = some v ∧ RT K cA B H d' v) : ∃ v, vs = [v] ∧ RT K cA B H d v := by
  obtain ⟨h1, h2⟩ := h
  obtain ⟨v, e, r⟩ := h2 0 d rfl
  match vs, h1, e with
  | [w], _, e => cases e; exact ⟨_, rfl, r⟩
theorem two_of {K : PySem.W.Frag} {cA : Nat → Option Addr} {B H : Hp} {vs : List V} {d e : D} (h : vs.length = [d, e].length ∧ ∀ (i : Nat) (d' : D), [d, e][i]? = some d' → ∃ v : V, vs[i]? = some v ∧ RT K cA B H d' v) : ∃ v w, vs = [v, w] ∧ RT K cA B H d v ∧ RT K cA B H e w := by
  obtain ⟨h1, h2⟩ := h
  obtain ⟨v, e1, r1⟩ := h2 0 d rfl
  obtain ⟨w, e2, r2⟩ := h2 1 e rfl
  match vs, h1, e1, e2 with
  | [v', w'], _, e1, e2 => cases e1; cases e2; exact ⟨_, _, rfl, r1, r2⟩
/-! ### the greatest, the least of numbers -/
theorem maxI_of : ∀ (ns : List Int) (n : Int), maxI n ns ∈ n :: ns ∧ ∀ y ∈ n :: ns, y ≤ maxI n ns
  | [], n => ⟨List.mem_cons_self, fun y hy => by
    rw [List.mem_singleton.mp hy]
    exact Int.le_refl _⟩
  | x :: r, n => by
    obtain ⟨h1, h2⟩ := maxI_of r (if x > n then x else n)
    unfold maxI
    generalize hM : maxI (if x > n then x else n) r = M at h1 h2
    refine ⟨?_, fun y hy => ?_⟩
    · rcases List.mem_cons.mp h1 with e | e
      · rw [e]
        split
        · exact List.mem_cons_of_mem _ List.mem_cons_self
        · exact List.mem_cons_self
      · exact List.mem_cons_of_mem _ (List.mem_cons_of_mem _ e)
    · have hb := h2 _ List.mem_cons_self
      rcases List.mem_cons.mp hy with rfl | hy
      · split at hb <;> omega
      · rcases List.mem_cons.mp hy with rfl | hy
        · split at hb <;> omega
        · exact h2 y (List.mem_cons_of_mem _ hy)
theorem minI_of : ∀ (ns : List Int) (n : Int), minI n ns ∈ n :: ns ∧ ∀ y ∈ n :: ns, minI n ns ≤ y
  | [], n => ⟨List.mem_cons_self, fun y hy => by
    rw [List.mem_singleton.mp hy]
    exact Int.le_refl _⟩
  | x :: r, n => by
    obtain ⟨h1, h2⟩ := minI_of r (if x < n then x else n)
    unfold minI
    generalize hM : minI (if x < n then x else n) r = M at h1 h2
    refine ⟨?_, fun y hy => ?_⟩
    · rcases List.mem_cons.mp h1 with e | e
      · rw [e]
        split
        · exact List.mem_cons_of_mem _ List.mem_cons_self
        · exact List.mem_cons_self
      · exact List.mem_cons_of_mem _ (List.mem_cons_of_mem _ e)
    · have hb := h2 _ List.mem_cons_self
      rcases List.mem_cons.mp hy with rfl | hy
      · split at hb <;> omega
      · rcases List.mem_cons.mp hy with rfl | hy
        · split at hb <;> omega
        · exact h2 y (List.mem_cons_of_mem _ hy)
theorem maxOf_eq : ∀ (ns : List Int) (n : Int), PySem.W.maxOf n ns = maxI n ns
  | [], _ => rfl
  | x :: r, n => by
    unfold maxI
    rw [← maxOf_eq r]
    unfold PySem.W.maxOf
    rw [List.foldl_cons]
    have e : (PySem.W.DatumOrd.lt n x = true) = (x > n) := by
      show (decide (n < x) = true) = _
      rw [decide_eq_true_eq]
    by_cases h : x > n
    · rw [if_pos h, if_pos (by rw [e]; exact h)]
    · rw [if_neg h, if_neg (by rw [e]; exact h)]
theorem minOf_eq : ∀ (ns : List Int) (n : Int), PySem.W.minOf n ns = minI n ns
  | [], _ => rfl
  | x :: r, n => by
    unfold minI
    rw [← minOf_eq r]
    unfold PySem.W.minOf
    rw [List.foldl_cons]
    have e : (PySem.W.DatumOrd.lt x n = true) = (x < n) := by
      show (decide (x < n) = true) = _
      rw [decide_eq_true_eq]
    by_cases h : x < n
    · rw [if_pos h, if_pos (by rw [e]; exact h)]
    · rw [if_neg h, if_neg (by rw [e]; exact h)]
def rMaxQ (K : PySem.W.Frag) (f : Int → List Int → Int) : List V → Hp → VK → Prop := fun vs H Q => ∃ (a : Addr) (n : Int) (ns : List Int), vs = [V.ref a] ∧ (SqL K H a ((n :: ns).map V.int) ∨ SqT K H a ((n :: ns).map V.int)) ∧ Q (.int (f n ns)) H
theorem cr_maxQ (hc : X.calm = true) (hu : X.A.units + 64 < cLine) : CallR X (.builtin "max") (rMaxQ X.K maxI) := by
  intro pins s σ H vs us Q I r h
  obtain ⟨a, n, ns, rfl, hs, q⟩ := h
  rcases hs with hs | hs
  · refine cr_max hc pins s σ H _ us Q I r ⟨a, n :: ns, rfl, hs, Nat.zero_lt_succ _, fun m h1 h2 => ?_⟩
    obtain ⟨g1, g2⟩ := maxI_of ns n
    rw [Int.le_antisymm (g2 m h1) (h2 _ g1)]
    exact q
  · obtain ⟨its, rv, pl, hz⟩ := I.tuple hs
    rw [Vals.ref1 r]
    refine PySem.W.max_tuple_datum (I.ok.hd hc) pl (PySem.W.HoldAll.of_ints (by simpa using rv.ints)) ?_ fun i v h' tk hi hv hk => ?_
    · show X.A.units + 1 + 0 < cLine
      omega
    · obtain ⟨t, rfl⟩ := PySem.W.int_of_holds hv
      rw [maxOf_eq]
      exact ⟨.int _, H, I.kept hk, ⟨_, rfl⟩, q⟩
theorem cr_minQ (hc : X.calm = true) (hu : X.A.units + 64 < cLine) : CallR X (.builtin "min") (rMaxQ X.K minI) := by
  intro pins s σ H vs us Q I r h
  obtain ⟨a, n, ns, rfl, hs, q⟩ := h
  rcases hs with hs | hs
  · refine cr_min hc pins s σ H _ us Q I r ⟨a, n :: ns, rfl, hs, Nat.zero_lt_succ _, fun m h1 h2 => ?_⟩
    obtain ⟨g1, g2⟩ := minI_of ns n
    rw [Int.le_antisymm (h2 _ g1) (g2 m h1)]
    exact q
  · obtain ⟨its, rv, pl, hz⟩ := I.tuple hs
    rw [Vals.ref1 r]
    refine PySem.W.min_tuple_datum (I.ok.hd hc) pl (PySem.W.HoldAll.of_ints (by simpa using rv.ints)) ?_ fun i v h' tk hi hv hk => ?_
    · show X.A.units + 1 + 0 < cLine
      omega
    · obtain ⟨t, rfl⟩ := PySem.W.int_of_holds hv
      rw [minOf_eq]
      exact ⟨.int _, H, I.kept hk, ⟨_, rfl⟩, q⟩
def tupI (t : List Int) : PyData := .tuple (t.map PyData.int)
theorem ltT_eq : ∀ a b : List Int, PySem.W.listLt a b = ltT a b
  | [], [] => rfl
  | [], _ :: _ => rfl
  | _ :: _, [] => rfl
  | x :: xs, y :: ys => by
    unfold PySem.W.listLt ltT
    rw [ltT_eq xs ys]
    rfl
theorem minT_eq : ∀ (ts : List (List Int)) (t : List Int), (PySem.W.minOf (PySem.W.Tup.mk t) (ts.map PySem.W.Tup.mk)).items = minT t ts
  | [], _ => rfl
  | x :: r, t => by
    unfold minT
    rw [← minT_eq r]
    unfold PySem.W.minOf
    rw [List.map_cons, List.foldl_cons]
    have e : PySem.W.DatumOrd.lt (PySem.W.Tup.mk x) (PySem.W.Tup.mk t) = ltT x t := ltT_eq x t
    rw [e]
    congr 2
    by_cases h : ltT x t = true
    · rw [if_pos h, if_pos h]
    · rw [if_neg h, if_neg h]
def rMinT (K : PySem.W.Frag) : List V → Hp → VK → Prop := fun vs H Q => ∃ (a : Addr) (ys : List V) (x : List Int) (xs : List (List Int)), vs = [V.ref a] ∧ SqL K H a ys ∧ DpAll K H ys ((x :: xs).map tupI) ∧ ∀ (i : Nat) (v : V), ys[i]? = some v → (x :: xs)[i]? = some (minT x xs) → Q v H
theorem map_tupI : ∀ xs : List (List Int), (xs.map PySem.W.Tup.mk).map PySem.W.Datum.toD = xs.map tupI := fun xs => by rw [List.map_map]; rfl
theorem map_int_inj : ∀ {a b : List Int}, a.map PyData.int = b.map PyData.int → a = b
  | [], [], _ => rfl
  | [], _ :: _, h => by cases h
  | _ :: _, [], h => by cases h
  | x :: a, y :: b, h => by
    rw [List.map_cons, List.map_cons] at h
    obtain ⟨h1, h2⟩ := List.cons.inj h
    rw [PyData.int.inj h1, map_int_inj h2]
theorem vals_at : ∀ {ys : List V} {us : List Value}, Vals ys us → ∀ {i : Nat} {u : Value}, us[i]? = some u → ∃ y, ys[i]? = some y ∧ RelV y u
  | _, _, .nil, i, u, h => by simp at h
  | _, _, .cons (a := y) r rs, 0, u, h => by
    rw [List.getElem?_cons_zero] at h
    cases h
    exact ⟨y, rfl, r⟩
  | _, _, .cons r rs, i + 1, u, h => by
    rw [List.getElem?_cons_succ] at h
    obtain ⟨z, h1, h2⟩ := vals_at rs h
    exact ⟨z, by rw [List.getElem?_cons_succ]; exact h1, h2⟩
theorem tup_inj {a b : List Int} (h : tupI a = tupI b) : a = b := by
  unfold tupI at h
  exact map_int_inj (PyData.tuple.inj h)
theorem tupI_lay (t : List Int) : (tupI t).canLay0 = true := by
  unfold tupI PyData.canLay0
  induction t with
  | nil => unfold List.map PyData.canLayAll0; rfl
  | cons x r ih =>
    rw [List.map_cons]
    unfold PyData.canLayAll0
    rw [ih]
    unfold PyData.canLay0
    rfl
theorem cr_minT {X : Cx} (hc : X.calm = true) (hu : X.A.units + 64 < cLine) : CallR X (.builtin "min") (rMinT X.K) := by
  intro pins s σ H vs us Q I r h
  obtain ⟨a, ys, x, xs, rfl, hs, hd, q⟩ := h
  obtain ⟨its, rv, hl, hz⟩ := I.list hs
  obtain ⟨as, h4⟩ := Dp.readsAll I _ ys its hd rv
  rw [Vals.ref1 r]
  have hh : PySem.W.HoldAll s.heap its.toArray.toList (PySem.W.Tup.mk x :: xs.map PySem.W.Tup.mk) := ⟨as, by
    have e : (PySem.W.Tup.mk x :: xs.map PySem.W.Tup.mk).map PySem.W.Datum.toD = (x :: xs).map tupI := map_tupI (x :: xs)
    rw [e]
    simpa using h4⟩
  have hl' : s.heap.IsList a its.toArray := by
    obtain ⟨o, n, h1, h2, h3, h4⟩ := hl
    exact ⟨o, h1, h2, n, h4⟩
  refine PySem.W.min_list_datum (I.ok.hd hc) hl' hh ?_ fun i v h' tk hi hv hk => ?_
  · show X.A.units + 1 + (0 + 1) < cLine
    omega
  · obtain ⟨z, hz1, hz2⟩ := hh.at (i := i) (v := v) (by simpa using hi)
    obtain ⟨bs, r1⟩ := hz2.keeps hk
    obtain ⟨cs, r2⟩ := hv
    have e := (r1.unique _ _ r2).1
    have e2 : z.items = (PySem.W.minOf (PySem.W.Tup.mk x) (xs.map PySem.W.Tup.mk)).items := tup_inj e
    rw [minT_eq] at e2
    have hi' : its[i]? = some v := by simpa using hi
    obtain ⟨y, hy, ry⟩ := vals_at rv hi'
    refine ⟨y, H, I.kept hk, ry, q i y hy ?_⟩
    have e3 : ((PySem.W.Tup.mk x :: xs.map PySem.W.Tup.mk).map PySem.W.Tup.items)[i]? = some z.items := by rw [List.getElem?_map, hz1]; rfl
    rw [e2] at e3
    have e4 : (PySem.W.Tup.mk x :: xs.map PySem.W.Tup.mk).map PySem.W.Tup.items = x :: xs := by
      rw [List.map_cons, List.map_map]
      have : (PySem.W.Tup.items ∘ PySem.W.Tup.mk : List Int → List Int) = id := rfl
      rw [this, List.map_id]
    rw [e4] at e3
    exact e3
theorem allI_mp : ∀ {ds : List D} {ns : List Int}, allI ds = some ns → ds = ns.map D.int
  | [], ns, h => by cases h; rfl
  | .int b :: r, ns, h => by
    unfold allI at h
    cases e : allI r with
    | none => rw [e] at h; cases h
    | some ms =>
      rw [e] at h
      cases h
      rw [allI_mp e]
      rfl
  | .non :: _, _, h => by cases h
  | .bl _ :: _, _, h => by cases h
  | .str _ :: _, _, h => by cases h
  | .tup _ :: _, _, h => by cases h
  | .lst _ :: _, _, h => by cases h
  | .dct _ _ :: _, _, h => by cases h
  | .ins _ _ :: _, _, h => by cases h
  | .fz _ :: _, _, h => by cases h
  | .kt _ :: _, _, h => by cases h
def tupD (t : List Int) : D := .tup (t.map D.int)
theorem allT_map : ∀ {ds : List D} {ts : List (List Int)}, allT ds = some ts → ds = ts.map tupD
  | [], ts, h => by cases h; rfl
  | .tup d :: r, ts, h => by
    unfold allT at h
    cases e : allI d with
    | none => rw [e] at h; cases h
    | some n =>
      cases e2 : allT r with
      | none => rw [e, e2] at h; cases h
      | some q =>
        rw [e, e2] at h
        cases h
        rw [List.map_cons, ← allT_map e2, allI_mp e]
        rfl
  | .int _ :: _, _, h => by cases h
  | .non :: _, _, h => by cases h
  | .bl _ :: _, _, h => by cases h
  | .str _ :: _, _, h => by cases h
  | .lst _ :: _, _, h => by cases h
  | .dct _ _ :: _, _, h => by cases h
  | .ins _ _ :: _, _, h => by cases h
  | .fz _ :: _, _, h => by cases h
  | .kt _ :: _, _, h => by cases h
theorem pys_int : ∀ t : List Int, D.pys (t.map D.int) = t.map PyData.int ∧ D.plains (t.map D.int) = true
  | [] => ⟨by unfold List.map D.pys; rfl, by unfold List.map D.plains; rfl⟩
  | x :: r => by
    obtain ⟨h1, h2⟩ := pys_int r
    rw [List.map_cons, List.map_cons]
    unfold D.pys D.plains
    rw [h1, h2]
    exact ⟨by unfold D.py; rfl, by unfold D.plain; rfl⟩
theorem pys_tup : ∀ ts : List (List Int), D.pys (ts.map tupD) = ts.map tupI ∧ D.plains (ts.map tupD) = true
  | [] => ⟨by unfold List.map D.pys; rfl, by unfold List.map D.plains; rfl⟩
  | t :: r => by
    obtain ⟨h1, h2⟩ := pys_tup r
    obtain ⟨h3, h4⟩ := pys_int t
    rw [List.map_cons, List.map_cons]
    unfold D.pys D.plains
    rw [h1, h2]
    unfold tupD D.py D.plain tupI
    rw [h3, h4]
    exact ⟨rfl, rfl⟩
def biN : Bi → Str
  | .len => "len" | .abs => "abs" | .int => "int" | .min2 => "min" | .max2 => "max" | .sum => "sum" | .all => "all" | .any => "any" | .tuple => "tuple" | .list => "list" | .max1 => "max" | .min1 => "min" | .mint => "min" | .sorted => "sorted" | _ => ""
def biV : Bi → Value
  | .len => .builtin "len" | .abs => .builtin "abs" | .int => .type "int" | .min2 => .builtin "min" | .max2 => .builtin "max" | .sum => .builtin "sum" | .all => .builtin "all" | .any => .builtin "any" | .tuple => .type "tuple" | .list => .type "list" | .max1 => .builtin "max" | .min1 => .builtin "min" | .mint => .builtin "min" | .sorted => .builtin "sorted" | _ => .none
def biOk : Bi → Bool
  | .len | .abs | .int | .min2 | .max2 | .sum | .all | .any | .tuple | .list | .max1 | .min1 | .mint | .sorted => true
  | _ => false
def biR (K : PySem.W.Frag) : Bi → List V → Hp → VK → Prop
  | .len => fun xs H Q => (∃ p ys, xs = [.ref p] ∧ (SqL K H p ys ∨ SqT K H p ys) ∧ Q (.int ys.length) H) ∨ ∃ (p : Addr) (kvs : List (L2.Key × V)), xs = [.ref p] ∧ H p = some (.dK kvs) ∧ Q (.int kvs.length) H
  | .abs => fun xs H Q => ∃ i, xs = [.int i] ∧ Q (.int (if i < 0 then -i else i)) H
  | .int => fun xs H Q => (∃ i, xs = [.int i] ∧ Q (.int i) H) ∨ ∃ k, xs = [.bl k] ∧ Q (.int (if k then 1 else 0)) H
  | .max2 => fun xs H Q => ∃ i j, xs = [.int i, .int j] ∧ Q (.int (if j > i then j else i)) H
  | .min2 => fun xs H Q => ∃ i j, xs = [.int i, .int j] ∧ Q (.int (if j < i then j else i)) H
  | .sum => rSum K
  | .all => rAll K
  | .any => rAny K
  | .tuple => fun xs H Q => ∃ p ys, xs = [.ref p] ∧ ((SqL K H p ys ∧ ∀ l, H l = none → Q (.ref l) (upd H l (.tup ys))) ∨ (SqT K H p ys ∧ Q (.ref p) H))
  | .list => fun xs H Q => (∃ p ys, xs = [.ref p] ∧ (SqL K H p ys ∨ SqT K H p ys) ∧ ∀ l, H l = none → Q (.ref l) (upd H l (.lst ys))) ∨ rListD xs H Q
  | .max1 => rMaxQ K maxI
  | .min1 => rMaxQ K minI
  | .mint => rMinT K
  | .sorted => rSortedI K
  | _ => fun _ _ _ => False
theorem call_or {f : Value} {r1 r2 : List V → Hp → VK → Prop} (h1 : CallR X f r1) (h2 : CallR X f r2) : CallR X f (fun xs H Q => r1 xs H Q ∨ r2 xs H Q) := by
  intro pins s σ H xs us Q I r h
  rcases h with h | h
  · exact h1 pins s σ H xs us Q I r h
  · exact h2 pins s σ H xs us Q I r h
theorem call_len_dK : CallR X (.builtin "len") (fun xs H Q => ∃ (p : Addr) (kvs : List (L2.Key × V)), xs = [.ref p] ∧ H p = some (.dK kvs) ∧ Q (.int kvs.length) H) := by
  intro pins s σ H xs us Q I r h
  obtain ⟨p, kvs, rfl, hq, q⟩ := h
  obtain ⟨u, rfl, rx⟩ := vals1 r
  cases rx
  exact d_len I (.inl hq) fun t s' I' => ⟨.int kvs.length, H, I', ⟨t, rfl⟩, q⟩
theorem rdk_keys {K : PySem.W.Frag} {cA : Nat → Option Addr} {B : Hp} : ∀ {kvs : List (D × D)} {ws : List (L2.Key × V)}, RDk K cA B kvs ws → RDs K cA B (kvs.map Prod.fst) (ws.map fun kv => L2.kV kv.1)
  | _, _, .nil => .nil
  | _, _, .cons (k := k) e _ r => .cons (by
    cases k <;> first
      | (cases e; exact .int _)
      | (cases e; exact .str _)
      | cases e) (rdk_keys r)
theorem op_bi (hc : X.calm = true) (hu : X.A.units + 64 < cLine) : ∀ b : Bi, biOk b = true → CallR X (biV b) (biR X.K b)
  | .len, _ => call_or call_len_seq call_len_dK
  | .abs, _ => call_abs
  | .int, _ => call_int1
  | .max2, _ => call_max2 hc
  | .min2, _ => call_min2 hc
  | .sum, _ => cr_sum hc
  | .all, _ => cr_all hc
  | .any, _ => cr_any hc
  | .tuple, _ => call_tuple_of
  | .list, _ => call_or call_list_of (call_list_dK hc)
  | .max1, _ => cr_maxQ hc hu
  | .min1, _ => cr_minQ hc hu
  | .mint, _ => cr_minT hc hu
  | .sorted, _ => cr_sortedI
theorem sort_uniq {ns ns' : List Int} (pm : ns'.Perm ns) (pw : ns'.Pairwise (· ≤ ·)) : ns' = sortI ns := by
  have h1 : (sortI ns).Pairwise (· ≤ ·) := by
    have := List.pairwise_mergeSort (le := fun a b : Int => decide (a ≤ b)) (by intro a b c h1 h2; have := of_decide_eq_true h1; have := of_decide_eq_true h2; exact decide_eq_true (by omega)) (by intro a b; rw [Bool.or_eq_true, decide_eq_true_eq, decide_eq_true_eq]; omega) ns
    exact this.imp fun h => of_decide_eq_true h
  exact List.Perm.eq_of_pairwise (fun a b _ _ h1 h2 => by omega) pw h1 (pm.trans (List.mergeSort_perm _ _).symm)
theorem rds_int {K : PySem.W.Frag} {cA : Nat → Option Addr} {B : Hp} : ∀ l : List Int, RDs K cA B (l.map D.int) (l.map V.int)
  | [] => .nil
  | i :: l => .cons (.int i) (rds_int l)
theorem bi_ok (hK : X.K = p.K) (b : Bi) (hb : biOk b = true) : ∀ vs H Q, rBi p b vs H Q → biR X.K b vs H Q := by
  rintro vs H Q ⟨Z, B, s, σ, ds, zo, R, hv, h⟩
  have hZ : X.K = Z.K := hK.trans zo.K.symm
  rw [hZ]
  unfold bltin at h
  split at h <;> first
    | exact h.elim
    | skip
  · obtain ⟨v, rfl, t⟩ := one_of hv
    obtain ⟨a, ws, rfl, hs, r⟩ := t.dK_inv R.sub
    refine .inr ⟨a, ws, rfl, hs, ?_⟩
    rw [← r.length]
    exact Post.flat R (.int _) h
  · split at h
    · rename_i ds' he
      obtain ⟨v, rfl, t⟩ := one_of hv
      obtain ⟨a, ws, rfl, hs, r⟩ := t.seq R.sub he
      refine .inl ⟨a, ws, rfl, hs, ?_⟩
      rw [← r.length]
      exact Post.flat R (.int _) h
    · exact h.elim
  · split at h
    · rename_i ds' he
      split at h
      · rename_i n ns hi
        obtain ⟨v, rfl, t⟩ := one_of hv
        obtain ⟨a, ws, rfl, hs, r⟩ := t.seq R.sub he
        rw [r.ints hi] at hs
        exact ⟨a, n, ns, rfl, hs, Post.flat R (.int _) h⟩
      · exact h.elim
    · exact h.elim
  · split at h
    · rename_i ds' he
      split at h
      · rename_i n ns hi
        obtain ⟨v, rfl, t⟩ := one_of hv
        obtain ⟨a, ws, rfl, hs, r⟩ := t.seq R.sub he
        rw [r.ints hi] at hs
        exact ⟨a, n, ns, rfl, hs, Post.flat R (.int _) h⟩
      · exact h.elim
    · exact h.elim
  · split at h
    · rename_i x xs he
      obtain ⟨v, rfl, t⟩ := one_of hv
      obtain ⟨a, ws, rfl, hs, r⟩ := t.lst_inv R.sub
      have em := allT_map he
      rw [em] at r
      obtain ⟨p1, p2⟩ := pys_tup (x :: xs)
      have dp := (r.mono R.sub).dp p2
      rw [p1] at dp
      refine ⟨a, ws, x, xs, rfl, .inl (.inl hs), dp, fun i v hi hx => ?_⟩
      have hd : ((x :: xs).map tupD)[i]? = some (tupD (minT x xs)) := by rw [List.getElem?_map, hx]; rfl
      obtain ⟨v', g1, g2⟩ := r.get hd
      rw [hi] at g1
      cases g1
      exact Post.flat R g2 h
    · exact h.elim
  · obtain ⟨v, rfl, t⟩ := one_of hv
    rw [t.int_inv]
    exact ⟨_, rfl, Post.flat R (.int _) h⟩
  · obtain ⟨v, rfl, t⟩ := one_of hv
    rw [t.int_inv]
    exact .inl ⟨_, rfl, Post.flat R (.int _) h⟩
  · obtain ⟨v, rfl, t⟩ := one_of hv
    rw [t.bl_inv]
    exact .inr ⟨_, rfl, Post.flat R (.int _) h⟩
  · obtain ⟨v, w, rfl, t, u⟩ := two_of hv
    rw [t.int_inv, u.int_inv]
    exact ⟨_, _, rfl, Post.flat R (.int _) h⟩
  · obtain ⟨v, w, rfl, t, u⟩ := two_of hv
    rw [t.int_inv, u.int_inv]
    exact ⟨_, _, rfl, Post.flat R (.int _) h⟩
  · split at h
    · rename_i ns he
      obtain ⟨v, rfl, t⟩ := one_of hv
      obtain ⟨a, ws, rfl, hs, r⟩ := t.lst_inv R.sub
      rw [r.ints he] at hs
      exact ⟨a, ns, rfl, .inl (.inl hs), Post.flat R (.int _) h⟩
    · exact h.elim
  · split at h
    · rename_i ns he
      obtain ⟨v, rfl, t⟩ := one_of hv
      obtain ⟨a, ws, rfl, hs, r⟩ := t.lst_inv R.sub
      rw [r.bools he] at hs
      exact ⟨a, ns, rfl, .inl (.inl hs), Post.flat R (.bl _) h⟩
    · exact h.elim
  · split at h
    · rename_i ns he
      obtain ⟨v, rfl, t⟩ := one_of hv
      obtain ⟨a, ws, rfl, hs, r⟩ := t.lst_inv R.sub
      rw [r.bools he] at hs
      exact ⟨a, ns, rfl, .inl (.inl hs), Post.flat R (.bl _) h⟩
    · exact h.elim
  · obtain ⟨v, rfl, t⟩ := one_of hv
    obtain ⟨a, ws, rfl, hs, r⟩ := t.lst_inv R.sub
    exact ⟨a, ws, rfl, .inl ⟨.inl (.inl hs), Post.newT R r h⟩⟩
  · obtain ⟨v, rfl, t⟩ := one_of hv
    obtain ⟨a, ws, rfl, hs, r⟩ := t.tup_inv R.sub
    refine ⟨a, ws, rfl, .inr ⟨hs, ?_⟩⟩
    cases t with
    | d t => exact Post.flat R t h
    | o t => cases t
  · obtain ⟨v, rfl, t⟩ := one_of hv
    obtain ⟨a, ws, rfl, hs, r⟩ := t.lst_inv R.sub
    exact .inl ⟨a, ws, rfl, .inl (.inl (.inl hs)), Post.newL R r h⟩
  · obtain ⟨v, rfl, t⟩ := one_of hv
    obtain ⟨a, ws, rfl, hs, r⟩ := t.tup_inv R.sub
    exact .inl ⟨a, ws, rfl, .inr hs, Post.newL R r h⟩
  · obtain ⟨v, rfl, t⟩ := one_of hv
    obtain ⟨a, ws, rfl, hs, r⟩ := t.dK_inv R.sub
    exact .inr ⟨a, ws, rfl, hs, Post.newL R (rdk_keys r) h⟩
  · split at h
    · rename_i ns he
      obtain ⟨v, rfl, t⟩ := one_of hv
      obtain ⟨a, ws, rfl, hs, r⟩ := t.lst_inv R.sub
      rw [r.ints he] at hs
      refine ⟨a, ns, rfl, .inl (.inl hs), fun ns' p pm pw hp => ?_⟩
      rw [sort_uniq pm pw]
      exact Post.newL R (rds_int _) h p hp
    · exact h.elim
  · cases hb
theorem boot_bi : ∀ b : Bi, biOk b = true → bootBuiltins (biN b) = some (biV b)
  | .len, _ => by decide +kernel
  | .abs, _ => by decide +kernel
  | .int, _ => by decide +kernel
  | .max2, _ => by decide +kernel
  | .min2, _ => by decide +kernel
  | .sum, _ => by decide +kernel
  | .all, _ => by decide +kernel
  | .any, _ => by decide +kernel
  | .tuple, _ => by decide +kernel
  | .list, _ => by decide +kernel
  | .max1, _ => by decide +kernel
  | .min1, _ => by decide +kernel
  | .mint, _ => by decide +kernel
  | .sorted, _ => by decide +kernel
theorem biN_ne : ∀ b : Bi, biOk b = true → biN b ≠ "__name__" ∧ (biN b == ("__debug__" : Str)) = false
  | .len, _ => by decide +kernel
  | .abs, _ => by decide +kernel
  | .int, _ => by decide +kernel
  | .max2, _ => by decide +kernel
  | .min2, _ => by decide +kernel
  | .sum, _ => by decide +kernel
  | .all, _ => by decide +kernel
  | .any, _ => by decide +kernel
  | .tuple, _ => by decide +kernel
  | .list, _ => by decide +kernel
  | .max1, _ => by decide +kernel
  | .min1, _ => by decide +kernel
  | .mint, _ => by decide +kernel
  | .sorted, _ => by decide +kernel
theorem biV_cases : ∀ b : Bi, biOk b = true → (∃ id, biV b = .builtin id) ∨ ∃ T, biV b = .type T
  | .len, _ => .inl ⟨_, rfl⟩
  | .abs, _ => .inl ⟨_, rfl⟩
  | .int, _ => .inr ⟨_, rfl⟩
  | .max2, _ => .inl ⟨_, rfl⟩
  | .min2, _ => .inl ⟨_, rfl⟩
  | .sum, _ => .inl ⟨_, rfl⟩
  | .all, _ => .inl ⟨_, rfl⟩
  | .any, _ => .inl ⟨_, rfl⟩
  | .tuple, _ => .inr ⟨_, rfl⟩
  | .list, _ => .inr ⟨_, rfl⟩
  | .max1, _ => .inl ⟨_, rfl⟩
  | .min1, _ => .inl ⟨_, rfl⟩
  | .mint, _ => .inl ⟨_, rfl⟩
  | .sorted, _ => .inl ⟨_, rfl⟩
theorem se_bi {pn : Pos} (b : Bi) (hb : biOk b = true) (hc : X.calm = true) (hu : X.A.units + 64 < cLine) (hK : X.K = p.K) (hg : Gl X (biN b)) (hm : X.mg (biN b) = none) (ha : PA X (x :: xs) (tEv p C es))
    (hs : starEach (x :: xs) X.env = (false, eval x X.env) :: starEach xs X.env) (hpl : (backTo pos (starEach xs X.env)).any (·.1) = false) : PE X (.Call (.Name (biN b) pn) (x :: xs) [] pos) (tE p C (.bi b es)) := by
  have hv := boot_bi b hb
  have hr := op_bi (X := X) hc hu b hb
  rcases biV_cases b hb with ⟨id, e⟩ | ⟨T, e⟩
  · rw [e] at hv hr
    exact (pe_callB hr hg hm hv ha (biN_ne b hb).1 (biN_ne b hb).2 hs hpl).imp fun σ H Q h => bi_of (bi_ok hK b hb) h
  · rw [e] at hv hr
    exact (pe_callTy hr hg hm hv ha (biN_ne b hb).1 (biN_ne b hb).2 hs hpl).imp fun σ H Q h => bi_of (bi_ok hK b hb) h

/-! ### isinstance -/
def csN : Cs → String
  | .tuple => "tuple" | .list => "list" | .int => "int" | .bool => "bool" | .str => "str" | .dict => "dict" | .c _ => ""
def kindN : D → String
  | .non => "NoneType" | .bl _ => "bool" | .int _ => "int" | .str _ => "str" | .tup _ => "tuple" | .lst _ => "list" | .dct _ _ => "dict" | .kt _ => "tuple" | _ => ""
/-- what the written part says of own classes -/
structure ClsK (K : PySem.W.Frag) (cA : Nat → Option Addr) : Prop where
  cls : ∀ c C, cA c = some C → Cls K C
  c1 : ∀ c C, cA c = some C → PySem.W.findIn K (.ref C) "__class__" = some (some (.builtin "object.__class__"))
  c2 : PySem.W.specialIn K (.builtin "object.__class__") "__get__" = some (some (.builtin "getset_descriptor.__get__"))
  c3 : PySem.W.takesIn K (.builtin "object.__class__") = some true
  c4 : ∀ c C, cA c = some C → PySem.W.mroIn K C (.type "object") = some true
  flat : ∀ c C, cA c = some C → ∀ n, n ∈ ["NoneType", "bool", "int", "str", "tuple", "list", "dict"] → PySem.W.kitOne K (.type n) (.ref C) = some false
  own : ∀ c C c' C', cA c = some C → cA c' = some C' → PySem.W.kitOne K (.ref C) (.ref C') = some (c == c')
  bi : ∀ c C, cA c = some C → ∀ n, n ∈ ["tuple", "list", "int", "bool", "str", "dict"] → PySem.W.kitOne K (.ref C) (.type n) = some false
def csV (cA : Nat → Option Addr) : Cs → V
  | .c n => .ref ((cA n).getD 0)
  | k => .ty (csN k)
def csU (cA : Nat → Option Addr) : Cs → Value
  | .c n => .ref ((cA n).getD 0)
  | k => .type (csN k)
theorem csV_cls (cA : Nat → Option Addr) : ∀ k : Cs, ClsV (csV cA k) (csU cA k)
  | .c n => .own _
  | .tuple => .ty _
  | .list => .ty _
  | .int => .ty _
  | .bool => .ty _
  | .str => .ty _
  | .dict => .ty _
theorem csV_all (cA : Nat → Option Addr) : ∀ ks : List Cs, Paired ClsV (ks.map (csV cA)) (ks.map (csU cA))
  | [] => .nil
  | k :: r => .cons (csV_cls cA k) (csV_all cA r)
/-- the class is one of ours -/
def csOk (cA : Nat → Option Addr) : Cs → Prop
  | .c n => ∃ C, cA n = some C
  | _ => True
def tyU (cA : Nat → Option Addr) : D → Value
  | .ins c _ => .ref ((cA c).getD 0)
  | d => .type (kindN d)
theorem kit_one {K : PySem.W.Frag} {cA : Nat → Option Addr} (ck : ClsK K cA) {d : D} {k : Cs} {b : Bool} (hk : csOk cA k) (e : isiOne d k = some b) (hd : ∀ c fs, d = .ins c fs → ∃ C, cA c = some C) : PySem.W.kitOne K (tyU cA d) (csU cA k) = some b := by
  cases d with
  | ins c fs =>
    obtain ⟨C, hc⟩ := hd c fs rfl
    have e0 : tyU cA (.ins c fs) = .ref C := by show Value.ref ((cA c).getD 0) = _; rw [hc]; rfl
    rw [e0]
    cases k with
    | c n =>
      obtain ⟨C', hc'⟩ := hk
      cases e
      have e1 : csU cA (.c n) = .ref C' := by show Value.ref ((cA n).getD 0) = _; rw [hc']; rfl
      rw [e1]
      exact ck.own c C n C' hc hc'
    | tuple => cases e; exact ck.bi c C hc _ (by decide)
    | list => cases e; exact ck.bi c C hc _ (by decide)
    | int => cases e; exact ck.bi c C hc _ (by decide)
    | bool => cases e; exact ck.bi c C hc _ (by decide)
    | str => cases e; exact ck.bi c C hc _ (by decide)
    | dict => cases e; exact ck.bi c C hc _ (by decide)
  | non =>
    cases k with
    | c n =>
      obtain ⟨C', hc'⟩ := hk
      cases e
      have e1 : csU cA (.c n) = .ref C' := by show Value.ref ((cA n).getD 0) = _; rw [hc']; rfl
      rw [e1]
      exact ck.flat n C' hc' "NoneType" (by decide)
    | _ => cases e; exact kit_ty (a := "NoneType") (by decide +kernel)
  | bl x =>
    cases k with
    | c n =>
      obtain ⟨C', hc'⟩ := hk
      cases e
      have e1 : csU cA (.c n) = .ref C' := by show Value.ref ((cA n).getD 0) = _; rw [hc']; rfl
      rw [e1]
      exact ck.flat n C' hc' "bool" (by decide)
    | _ => cases e; exact kit_ty (a := "bool") (by decide +kernel)
  | int x =>
    cases k with
    | c n =>
      obtain ⟨C', hc'⟩ := hk
      cases e
      have e1 : csU cA (.c n) = .ref C' := by show Value.ref ((cA n).getD 0) = _; rw [hc']; rfl
      rw [e1]
      exact ck.flat n C' hc' "int" (by decide)
    | _ => cases e; exact kit_ty (a := "int") (by decide +kernel)
  | str x =>
    cases k with
    | c n =>
      obtain ⟨C', hc'⟩ := hk
      cases e
      have e1 : csU cA (.c n) = .ref C' := by show Value.ref ((cA n).getD 0) = _; rw [hc']; rfl
      rw [e1]
      exact ck.flat n C' hc' "str" (by decide)
    | _ => cases e; exact kit_ty (a := "str") (by decide +kernel)
  | tup x =>
    cases k with
    | c n =>
      obtain ⟨C', hc'⟩ := hk
      cases e
      have e1 : csU cA (.c n) = .ref C' := by show Value.ref ((cA n).getD 0) = _; rw [hc']; rfl
      rw [e1]
      exact ck.flat n C' hc' "tuple" (by decide)
    | _ => cases e; exact kit_ty (a := "tuple") (by decide +kernel)
  | lst x =>
    cases k with
    | c n =>
      obtain ⟨C', hc'⟩ := hk
      cases e
      have e1 : csU cA (.c n) = .ref C' := by show Value.ref ((cA n).getD 0) = _; rw [hc']; rfl
      rw [e1]
      exact ck.flat n C' hc' "list" (by decide)
    | _ => cases e; exact kit_ty (a := "list") (by decide +kernel)
  | dct _ _ =>
    cases k with
    | c n =>
      obtain ⟨C', hc'⟩ := hk
      cases e
      have e1 : csU cA (.c n) = .ref C' := by show Value.ref ((cA n).getD 0) = _; rw [hc']; rfl
      rw [e1]
      exact ck.flat n C' hc' "dict" (by decide)
    | _ => cases e; exact kit_ty (a := "dict") (by decide +kernel)
  | fz _ => cases e
  | kt _ =>
    cases k with
    | c n =>
      obtain ⟨C', hc'⟩ := hk
      cases e
      have e1 : csU cA (.c n) = .ref C' := by show Value.ref ((cA n).getD 0) = _; rw [hc']; rfl
      rw [e1]
      exact ck.flat n C' hc' "tuple" (by decide)
    | _ => cases e; exact kit_ty (a := "tuple") (by decide +kernel)
theorem kit_any {K : PySem.W.Frag} {cA : Nat → Option Addr} (ck : ClsK K cA) {d : D} (hd : ∀ c fs, d = .ins c fs → ∃ C, cA c = some C) : ∀ {ks : List Cs} {b : Bool}, (∀ k ∈ ks, csOk cA k) → isiAny d ks = some b → PySem.W.kitAny K (tyU cA d) (ks.map (csU cA)) = some b
  | [], b, _, e => by cases e; rfl
  | k :: r, b, h, e => by
    unfold isiAny at e
    cases e1 : isiOne d k with
    | none => rw [e1] at e; cases e
    | some b1 =>
      rw [e1] at e
      simp only at e
      cases e2 : isiAny d r with
      | none => rw [e2] at e; cases e
      | some b2 =>
        rw [e2] at e
        cases e
        rw [List.map_cons]
        refine kitAny_cons (kit_one ck (h k List.mem_cons_self) e1 hd) (fun z => ?_) fun z => ?_
        · rw [z, kit_any ck hd (fun k' hk' => h k' (List.mem_cons_of_mem _ hk')) e2]; rfl
        · rw [z]; rfl
theorem ty_of {K : PySem.W.Frag} {cA : Nat → Option Addr} (ck : ClsK K cA) {B H : Hp} {d : D} {v : V} (sb : Sub B H) (t : RT K cA B H d v) (k : Cs) (b : Bool) (e : isiOne d k = some b) : TyX K H v (tyU cA d) := by
  cases d with
  | non => rw [t.non_inv]; exact .base .non
  | bl x => rw [t.bl_inv]; exact .base (.bl x)
  | int x => rw [t.int_inv]; exact .base (.int x)
  | str x => rw [t.str_inv]; exact .base (.str x)
  | tup x =>
    obtain ⟨a, vs, rfl, h, r⟩ := t.tup_inv sb
    rcases h with (h | ⟨o, h⟩) | ⟨o, _, _, h, hc, _⟩
    · exact .base (.tup h)
    · exact .fTuple h
    · exact .kTuple h hc
  | lst x =>
    obtain ⟨a, vs, rfl, h, r⟩ := t.lst_inv sb
    exact .base (.lst h)
  | ins c fs =>
    obtain ⟨a, C, dx, gs, rfl, hC, h, r⟩ := t.ins_inv sb
    have e0 : tyU cA (.ins c fs) = .ref C := by show Value.ref ((cA c).getD 0) = _; rw [hC]; rfl
    rw [e0]
    exact .base (.ins h (ck.cls c C hC) (ck.c1 c C hC) ck.c2 ck.c3 (ck.c4 c C hC))
  | dct b kvs =>
    cases b with
    | false =>
      obtain ⟨a, ws, rfl, h, _⟩ := t.dK_inv sb
      exact .base (.dK h)
    | true =>
      obtain ⟨a, ws, rfl, h, _⟩ := t.dT_inv sb
      exact .base (.dT h)
  | fz _ => cases e
  | kt ds =>
    obtain ⟨a, vs, rfl, ⟨o, its, n, hk, hc, _⟩, _⟩ := t.kt_inv sb
    exact .kTuple hk hc
theorem RT.insC {K : PySem.W.Frag} {cA : Nat → Option Addr} {B H : Hp} {d : D} {v : V} (sb : Sub B H) (t : RT K cA B H d v) : ∀ c fs, d = .ins c fs → ∃ C, cA c = some C := fun c fs e => by
  subst e
  obtain ⟨a, C, dx, gs, rfl, hC, h, r⟩ := t.ins_inv sb
  exact ⟨C, hC⟩
theorem isi_flat {σ : L2.St} {H : Hp} {Q : VK} {tp : Bool} {cs : List Cs} (h : tE p C (.isi a tp cs) σ H Q) : tE p C a σ H (fun v H1 => ∃ Z B s d b, ZOk p Z ∧ Rep Z B s σ H1 ∧ RT Z.K Z.cA B H1 d v ∧ isiAny d cs = some b ∧ Post rV Z p.W B σ (.ok (.d (.bl b)) s) Q) := by
  obtain ⟨Z, B, s, zo, R, h⟩ := h
  refine ⟨Z, B, s, zo, R, Post.bind h fun x s1 v1 H1 B1 R1 sb1 r1 h1 => ?_⟩
  obtain ⟨B2, sb2, R2, r2⟩ := pend_ok R1 r1
  cases e : view (pend x) s1 with
  | none => rw [e] at h1; exact h1.elim
  | some d =>
    rw [e] at h1
    simp only at h1
    cases e2 : isiAny d cs with
    | none => rw [e2] at h1; exact h1.elim
    | some b =>
      rw [e2] at h1
      exact ⟨Z, B2, s1, d, b, zo, R2, view_ok R2 r2 e, e2, h1.mono sb2⟩
/-- a class's name -/
theorem se_cs {n : Str} (k : Cs) (hg : Gl X n) (hd : (n == ("__debug__" : Str)) = false)
    (h : (∃ m C, k = .c m ∧ p.cA m = some C ∧ X.mg n = some (.ref C)) ∨ (X.mg n = none ∧ bootBuiltins n = some (csU p.cA k) ∧ n ≠ "__name__")) : PE X (.Name n pos) (tC (csV p.cA k)) := by
  rcases h with ⟨m, C0, rfl, hC, hm⟩ | ⟨hm, hv, hn⟩
  · exact pe_glob hg hm (by show Value.ref C0 = .ref ((p.cA m).getD 0); rw [hC]; rfl) hd
  · cases k with
    | c m => exact pe_bltn (v := .ref ((p.cA m).getD 0)) hg hm hv rfl hn hd
    | _ => exact pe_bltn hg hm hv rfl hn hd
theorem boot_isi : bootBuiltins "isinstance" = some (.builtin "isinstance") := by decide +kernel
theorem se_isi1 {pn : Pos} {k : Cs} (hK : X.K = p.K) (ck : ClsK X.K p.cA) (hk : csOk p.cA k) (hg : Gl X "isinstance") (hm : X.mg "isinstance" = none) (ha : PE X x (tE p C a)) (hy : PE X y (tC (csV p.cA k)))
    (hs : starEach [x, y] X.env = (false, eval x X.env) :: starEach [y] X.env) (hs2 : starEach [y] X.env = [(false, eval y X.env)]) : PE X (.Call (.Name "isinstance" pn) [x, y] [] pos) (tE p C (.isi a false [k])) := by
  refine (pe_callB call_isi hg hm boot_isi (pa_cons ha (pa_cons hy pa_nil (by rw [hs2]; rfl)) hs) (by decide +kernel) (by decide +kernel) hs (by rw [hs2]; rfl)).imp fun σ H Q h => ?_
  obtain ⟨Z0, B0, s0, zo0, R0, h0⟩ := isi_flat h
  refine ⟨Z0, B0, s0, zo0, R0, ?_⟩
  refine Post.bind (g := fun a s => .ok a s) (R' := rV) (Q' := _) (by cases hh : ev C p.lk a s0 with | ok _ _ => rw [hh] at h0; exact h0 | ex _ _ => rw [hh] at h0; exact h0 | no => rw [hh] at h0; exact h0) fun x1 s1 v1 H1 B1 R1 sb1 r1 h1 => ?_
  obtain ⟨Z, B, s, d, b, zo, R, t, e, h2⟩ := h1 v1 H1 B1 R1 (Sub.refl B1) r1
  have hZ : X.K = Z.K := hK.trans zo.K.symm
  show rIsi X.K [v1, csV p.cA k] H1 Q
  have e1 : isiOne d k = some b := by
    unfold isiAny at e
    cases e1 : isiOne d k with
    | none => rw [e1] at e; cases e
    | some b1 =>
      rw [e1] at e
      have e' : some (b1 || false) = some b := e
      rw [Bool.or_false] at e'
      rw [e']
  have ck' := ck
  rw [hZ, ← zo.cA] at ck'
  rw [hZ]
  refine ⟨v1, csV p.cA k, tyU Z.cA d, csU p.cA k, b, rfl, csV_cls _ k, ty_of ck' R.sub t k b e1, ?_, Post.flat R (.bl b) h2⟩
  rw [← zo.cA]
  exact kit_one ck' (by rw [zo.cA]; exact hk) e1 (t.insC R.sub)
theorem se_isiN {pn pt : Pos} {ks : List Cs} {ys : List Expr} {kk : Nat} (hK : X.K = p.K) (ck : ClsK X.K p.cA) (hk : ∀ k ∈ ks, csOk p.cA k) (h0 : ks ≠ []) (hl : ks.length ≤ lim) (hg : Gl X "isinstance") (hm : X.mg "isinstance" = none) (ha : PE X x (tE p C a))
    (hy : PA X ys (fun _ H Q => Q (ks.map (csV p.cA)) H)) (hs : starEach [x, .Tuple ys kk pt] X.env = (false, eval x X.env) :: starEach [.Tuple ys kk pt] X.env) : PE X (.Call (.Name "isinstance" pn) [x, .Tuple ys kk pt] [] pos) (tE p C (.isi a true ks)) := by
  refine (pe_callB call_isiT hg hm boot_isi (pa_cons ha (pa_cons (pe_tup hy) pa_nil) hs) (by decide +kernel) (by decide +kernel) hs (by rfl)).imp fun σ H Q h => ?_
  obtain ⟨Z0, B0, s0, zo0, R0, h0'⟩ := isi_flat h
  refine ⟨Z0, B0, s0, zo0, R0, ?_⟩
  refine Post.bind (g := fun a s => .ok a s) (R' := rV) (Q' := _) (by cases hh : ev C p.lk a s0 with | ok _ _ => rw [hh] at h0'; exact h0' | ex _ _ => rw [hh] at h0'; exact h0' | no => rw [hh] at h0'; exact h0') fun x1 s1 v1 H1 B1 R1 sb1 r1 h1 => ?_
  obtain ⟨Z, B, s, d, b, zo, R, t, e, h2⟩ := h1 v1 H1 B1 R1 (Sub.refl B1) r1
  have hZ : X.K = Z.K := hK.trans zo.K.symm
  refine ⟨by rw [List.length_map]; exact lim_le hl, fun q hq => ?_⟩
  show rIsiT X.K [v1, .ref q] (upd H1 q (.tup (ks.map (csV p.cA)))) Q
  have ck' := ck
  rw [hZ, ← zo.cA] at ck'
  rw [hZ]
  have R' := R.new (o := .tup (ks.map (csV p.cA))) hq
  have t' : RT Z.K Z.cA B (upd H1 q (.tup (ks.map (csV p.cA)))) d v1 := by
    cases t with
    | d t => exact .d t
    | o t => exact .o (t.heap (upd_ne (by obtain ⟨o', q', _⟩ := t.some_; exact ne_of_none q' hq)))
  obtain ⟨k0, b0, e0⟩ : ∃ k0 b0, isiOne d k0 = some b0 := by
    cases ks with
    | nil => exact absurd rfl h0
    | cons k r =>
      unfold isiAny at e
      cases e1 : isiOne d k with
      | none => rw [e1] at e; cases e
      | some b1 => exact ⟨k, b1, e1⟩
  refine ⟨v1, q, ks.map (csV p.cA), tyU Z.cA d, ks.map (csU p.cA), b, rfl, upd_same, ?_, ty_of ck' R'.sub t' k0 b0 e0, ?_, Post.flat R' (.bl b) h2⟩
  · exact csV_all _ ks
  · rw [← zo.cA]
    exact kit_any ck' (t.insC R.sub) (by rw [zo.cA]; exact hk) e
end
end FL

set_option maxHeartbeats 4000000
/-! FS, calls: a def's promise where no text of a thing is under way. -/
namespace FL
open PySem PySem.Spec PyProof.Rows L2
abbrev NoGd (A : Around) : Prop := A.guards = some []
/-- the promise of a def -/
structure FnG (P : Program) (w : World) (K : PySem.W.Frag) (mg : Str → Option Value) (base : Heap) (k : Nat) (f : Addr) (fd : FuncData) (ps : List Str) (sp : Sp) : Prop where
  len : ∀ vs H Q E, sp vs H Q E → vs.length = ps.length
  go : ∀ (A : Around) (outer : List Env) (s : Shared) (H : Hp) (args : Args) (us : List Value) (vs : List V) (Q : VK) (E : XK), Room k A → NoGd A → Env0 P w K mg base A outer s H →
    BindsTo s fd args (ps.zip us) → Vals vs us → sp vs H Q E → codeAny (model P w) A (.call (.ref f) args) (CR (L2.CX P w) outer P w H s Q E) s
theorem FnG.weak {P : Program} {w : World} {K : PySem.W.Frag} {mg : Str → Option Value} {base : Heap} {k : Nat} {f : Addr} {fd : FuncData} {ps : List Str} {sp sp' : Sp} (F : FnG P w K mg base k f fd ps sp) (h : ∀ vs H Q E, sp' vs H Q E → sp vs H Q E) : FnG P w K mg base k f fd ps sp' :=
  ⟨fun vs H Q E q => F.len vs H Q E (h vs H Q E q), fun A o s H ar us vs Q E r g e b v q => F.go A o s H ar us vs Q E r g e b v (h vs H Q E q)⟩
theorem noGd_deeper {A : Around} {env : Env} (h : NoGd A) : NoGd (A.deeper env) := h
theorem noGd_make {A : Around} {C : Addr} {us : List Value} (h : NoGd A) : NoGd (A.under (.builtin "type.__call__" ⟨.ref C :: us, []⟩)) := by
  have e : (Code.builtin "type.__call__" ⟨.ref C :: us, []⟩).isGuard = false := by
    first | rfl | simp [Code.isGuard, guardIds]
  show pushGuards (Code.builtin "type.__call__" ⟨.ref C :: us, []⟩).guards A.guards = some []
  unfold Code.guards
  rw [e, h]
  rfl
section
variable {X : Cx} {k : Nat} {f C : Addr} {fd : FuncData} {ps : List Str} {sp : Sp} {x : Str} {p pos : Pos} {e : Expr} {es : List Expr} {t : TA}
/-- how a call's end goes on -/
theorem ends_go {pins : List (Addr × Obj)} {σ : L2.St} {H : Hp} {s : Shared} {Q : VK} {E : XK} (I : L2.Inv X pins σ H s) (hx : PassesAt (L2.CX X.prog X.w) X σ E) : ∀ (r : Result) (s' : Shared), CR (L2.CX X.prog X.w) X.stack X.prog X.w H s Q E r s' →
    match r with
    | .ok (.ret u) => EP X pins σ Q u s'
    | .ok _ => False
    | .error e => X.xe e s'
  | .error e, s', hq => hx pins H s e s' I hq
  | .ok (.ret u), s', hq => I.after hq
  | .ok .next, _, hq => hq
  | .ok .brk, _, hq => hq
  | .ok .cont, _, hq => hq
theorem pe_callG {E : L2.St → XK} (F : FnG X.prog X.w X.K X.mg X.base k f fd ps sp) (hr : Room k X.A) (hgd : NoGd X.A) (hg : Gl X x) (hm : X.mg x = some (.ref f)) (hk : PySem.W.keepIn X.K (.ref f) = true) (hb : Binds X.K fd ps []) (hx : ∀ σ, PassesAt (L2.CX X.prog X.w) X σ (E σ))
    (ha : PA X (e :: es) t) (hdb : (x == ("__debug__" : Str)) = false) (he : starEach (e :: es) X.env = (false, eval e X.env) :: starEach es X.env) (hpl : (backTo pos (starEach es X.env)).any (·.1) = false) :
    PE X (.Call (.Name x p) (e :: es) [] pos) (tCallS sp E t) := by
  constructor
  intro pins s σ H Q I h
  apply wpAny_Call_Name_kw
  apply ld_glob I hg hm _ hdb
  refine PySem.W.callWith_K (h₀ := X.base) I.ok.mod.kin hk (thn (ha.run pos pins s σ H _ I h) ?_) he hpl
  rintro us s1 ⟨vs, H1, I1, r, q⟩
  refine ⟨I1.kIn, ?_⟩
  have hl : us.length = ps.length := by
    rw [← r.length]
    exact F.len _ _ _ _ q
  have b := hb s1 us I1.kIn (by rw [List.append_nil]; exact hl)
  rw [List.append_nil] at b
  have g := F.go X.A X.stack s1 H1 ⟨us, []⟩ us vs Q (E σ) hr hgd I1.env0 b r q
  refine wpAny_call (codeAny_mono g fun r' s' hq => ?_)
  have w := ends_go I1 (hx σ) r' s' hq
  cases r' with
  | error _ => exact w
  | ok fl => cases fl <;> first
      | exact w
      | exact w.elim
theorem pe_makeG (M : Mk X.K C f) (F : FnG X.prog X.w X.K X.mg X.base k f fd ps sp) (hr : Room (k + 1) X.A) (hgd : NoGd X.A) (hg : Gl X x) (hm : X.mg x = some (.ref C)) (hb : Binds X.K fd ps []) (hx : Passes (L2.CX X.prog X.w) X E0)
    (ha : PA X (e :: es) t) (hdb : (x == ("__debug__" : Str)) = false) (he : starEach (e :: es) X.env = (false, eval e X.env) :: starEach es X.env) (hpl : (backTo pos (starEach es X.env)).any (·.1) = false) :
    PE X (.Call (.Name x p) (e :: es) [] pos) (tMake C sp [] E0 t) := by
  constructor
  intro pins s σ H Q I h
  apply wpAny_Call_Name_kw
  apply ld_glob I hg hm _ hdb
  refine PySem.W.callWith_K (h₀ := X.base) I.ok.mod.kin M.kp (thn (ha.run pos pins s σ H _ I h) ?_) he hpl
  rintro us s1 ⟨vs, H1, I1, r, q⟩
  refine ⟨I1.kIn, ?_⟩
  generalize ea : s1.heap.objs.size = a
  have q1 := q (a + 1) a (I1.hok.fresh (by omega)) (I1.hok.fresh (by omega)) (Nat.ne_of_lt (Nat.lt_succ_self a))
  rw [List.append_nil] at q1
  have I2 := L2.Inv.made (C := C) I1
  rw [ea] at I2
  have r2 : Vals (V.ref (a + 1) :: vs) (Value.ref (a + 1) :: us) := .cons rfl r
  have hl : (Value.ref (a + 1) :: us ++ []).length = ps.length := by
    rw [List.append_nil, ← r2.length]
    exact F.len _ _ _ _ q1
  have b := hb _ (Value.ref (a + 1) :: us) I2.kIn hl
  rw [List.append_nil] at b
  have g := F.go _ X.stack _ _ ⟨Value.ref (a + 1) :: us, []⟩ (Value.ref (a + 1) :: us) _ _ E0 (hr.make C us []) (noGd_make hgd) (I2.env0.make C us []) b r2 q1
  subst ea
  refine wpAny_call (make_map (f := f) I1.kIn M.makes M.init (beq_iff_eq.mp M.fn) (codeAny_mono g fun r' s' hq => ?_))
  cases r' with
  | error e => exact hx pins σ _ _ e s' I2 hq
  | ok fl =>
    cases fl with
    | ret u =>
      obtain ⟨v, H', I3, rv, ev, q3⟩ := I2.after hq
      subst ev
      exact ⟨rv, ⟨V.ref (s1.heap.objs.size + 1), H', I3, rfl, q3⟩⟩
    | _ => exact False.elim hq
end
/-- a def of the text keeps its promise, by its body -/
theorem okG {P : Program} {w : World} {K : PySem.W.Frag} {mg : Str → Option Value} {base : Heap} {x qual : Str} {st : Stmt} {f : Addr} {fd : FuncData} {N ps : List Str} {k : Nat} {sp : Sp} (F : Fun K x qual st f fd) (S : FnScope N ps (defScope st)) (len : ∀ vs H Q E, sp vs H Q E → vs.length = ps.length)
    (body : ∀ (cdv : Value) (A : Around) (outer : List Env) (s : Shared) (H : Hp) (vs : List V) (Q : VK) (E : XK), fd.code = cdv → Room k (A.deeper (envOfC qual (defScope st) s.heap.objs.size f cdv)) → NoGd A → sp vs H Q E →
      ∃ t, PSs (cxOf (L2.CX P w) P w K mg base N qual (defScope st) f cdv A outer s H E) (defBody st) t ∧ t { nx := fun _ H' => Q .non H', rt := Q } (L2.start N vs) H) : FnG P w K mg base (k + 1) f fd ps sp := by
  obtain ⟨oc, od, kV, doc, pm, an, cdv, ct, osl, rfl, lk, hcd⟩ := F.ex
  refine ⟨len, fun A outer s H args us vs Q E hr hgd e0 hb r hsp => ?_⟩
  have KX : K.In s.heap := e0.mod.kin.keeps fun b o e => (e0.bs b o e).1
  have lim : s.heap.NoLimit := e0.mod.nolimit.keeps fun b o e => (e0.bs b o e).1
  have kinds : ∀ y ∈ ps.zip us, (defScope st).names.lookup y.1 = some .local ∨ ((defScope st).names.lookup y.1 = some .cell ∧ ((cellsFrom (s.heap.objs.size + 1) (defScope st).names []).lookup y.1).isSome = true) := by
    rintro ⟨n, v⟩ hy
    exact (S.par n (List.of_mem_zip hy).1).imp id fun q => ⟨q, PySem.W.cellsFrom_some _ _ _ (.inl q)⟩
  refine codeAny_call_function hr.depth (KX _ _ lk) rfl S.co S.gen rfl (PySem.W.codeRec_of KX hcd) (hb _ _ _ _ ?_)
  refine wpAny_newFunctionEnv_cells S.kind kinds fun env he s1 x => ?_
  subst he
  refine ⟨lim.keeps x.toInCall.keep, codeAny_func ?_⟩
  obtain ⟨t, ht, hq⟩ := body cdv A outer s H vs Q E rfl (hr.deeper _) hgd hsp
  have I := inv_start (CX := L2.CX P w) (P := P) (w := w) (K := K) (mg := mg) (base := base) (E := E) S hr.hd e0 (len _ _ _ _ hsp) r x
  refine wpAny_mono (ht.run [] s1 (L2.start N vs) H _ I hq) ?_ fun e s' hs => hs
  intro fl s' hs
  cases fl with
  | ret u =>
    obtain ⟨v, σ', H', J, rv, q⟩ := hs
    exact ⟨v, H', J.os, J.bare, J.base, J.hok, rv, q⟩
  | next =>
    obtain ⟨σ', H', J, q⟩ := hs
    exact ⟨V.non, H', J.os, J.bare, J.base, J.hok, rfl, q⟩
  | _ =>
    obtain ⟨_, _, _, q⟩ := hs
    exact q.elim
end FL

set_option maxHeartbeats 4000000
/-! FS, the head: a law is called from outside. -/
namespace FL
open PySem PySem.Spec PyProof.Rows L2
section
variable {P : Program} {w : World} {K : PySem.W.Frag} {mg mb : Str → Option Value} {k : Nat} {fa a : Addr} {fd : FuncData} {x : Str} {sp : Sp} {s1 : Shared} {vs : List Value} {ns : List Int}
/-- what is wanted of the law's call -/
abbrev LawEnd (s1 : Shared) : Result → Shared → Prop := fun r s' => r = .ok (.ret (.bool true)) ∧ OldK s1.heap s'.heap ∧ s'.os = s1.os ∧ AllBare s'.gens
/-- from an abstract heap in which the script alone may stand -/
theorem law_core (KX : K.In s1.heap) (hns : s1.heap.Ns mainGlobals mg) (hb : s1.heap.Ns builtinsNs mb) (hbb : ∀ x : Str, x ≠ "__name__" → mb x = bootBuiltins x) (hlim : s1.heap.NoLimit) (hg : s1.gens = #[])
    (ha : s1.heap.get? a = some { cls := .type "list", data := .seq vs.toArray }) (hr : Room k callerA) (F : ∀ base : Heap, K.In base → base.Ns mainGlobals mg → FnG P w K mg base k fa fd [x] sp) (hbind : ∀ (s : Shared) (u : Value), BindsTo s fd ⟨[u], []⟩ [(x, u)])
    (H : Hp) (hO : Only H) (hq : sp [.ref a] H (fun v _ => v = .bl true) fun _ _ _ => False) (hok : HOk P w H s1.heap) (hA : ∀ b, H b ≠ none → b = a) (hK : H a ≠ none → K.lookup a = none) (hCX : ∀ e s', L2.CX P w [] H s1 (fun _ _ _ => False) e s' → False) :
    codeAny (model P w) callerA (.call (.ref fa) ⟨[.ref a], []⟩) (LawEnd s1) s1 := by
  have old : ∀ {b : Addr} {o : Obj}, s1.heap.get? b = some o → (∀ e : b = a, H a ≠ none → False) → (hidT s1.heap H).get? b = some o := fun {b o} e n => hidT_get e (by
    cases q : H b with
    | none => rfl
    | some u =>
      have e' := hA b (by rw [q]; exact fun z => by cases z)
      exact (n e' (by rw [← e', q]; exact fun z => by cases z)).elim)
  have ns' : ∀ {b : Addr} {m : Str → Option Value}, s1.heap.Ns b m → (hidT s1.heap H).Ns b m := fun {b m} ⟨o, es, ep, e, d, r⟩ => by
    refine ⟨o, es, ep, old e fun eb _ => ?_, d, r⟩
    subst eb
    rw [ha] at e
    cases e
    have z : Data.seq vs.toArray _ = Data.dict es ep := d
    cases z
  have kb : K.In (hidT s1.heap H) := fun b o e => old (KX b o e) fun eb hn => by
    subst eb
    have := hK hn
    rw [e] at this
    cases this
  obtain ⟨mc, c1, c2⟩ := hlim
  have hM : Mod K mg (hidT s1.heap H) := ⟨kb, ns' hns, ⟨mb, ns' hb, hbb⟩, ⟨mc, ns' c1, c2⟩⟩
  have e0 : Env0 P w K mg (hidT s1.heap H) callerA [] s1 H := {
    frames := rfl
    mod := hM
    bs := fun b o e => of_hidT e
    bsz := Nat.le_of_eq (hidT_size _ _)
    funs := trivial
    frf := fun b z => absurd (show b ∈ ([] : List Addr) from z) (by simp)
    hok := hok
    bare := .of_eq hg }
  have g := (F _ kb (ns' hns)).go callerA [] s1 H ⟨[.ref a], []⟩ [.ref a] [.ref a] _ _ hr rfl e0 (hbind s1 (.ref a)) (.cons rfl .nil) hq
  refine codeAny_mono g fun r s' h => ?_
  cases r with
  | error e => exact (hCX e s' h).elim
  | ok fl =>
    cases fl with
    | ret u =>
      obtain ⟨v, H', os, bare, un, hok', r', q⟩ := h
      have q' : v = .bl true := q
      subst q'
      obtain rfl : u = Value.bool true := r'
      refine ⟨rfl, OldK.of_keep ?_, os, bare⟩
      intro b o e
      cases q : H b with
      | none => exact un.keep b o e q (fun z => absurd (show b ∈ ([] : List Addr) from z) (by simp)) (by simp)
      | some u =>
        rcases hO b with z | ⟨ob, xs, z⟩
        · rw [q] at z; cases z
        · obtain ⟨e1, _⟩ := hok b _ z
          obtain ⟨e2, _⟩ := hok' b _ (un.frzs b ob _ z)
          rw [e] at e1
          cases e1
          exact e2
    | _ => exact False.elim h
theorem law_callG (KX : K.In s1.heap) (hns : s1.heap.Ns mainGlobals mg) (hb : s1.heap.Ns builtinsNs mb) (hbb : ∀ x : Str, x ≠ "__name__" → mb x = bootBuiltins x) (hlim : s1.heap.NoLimit) (hg : s1.gens = #[])
    (ha : s1.heap.get? a = some { cls := .type "list", data := .seq vs.toArray }) (hi : IntsAre vs ns) (hl : ns.length ≤ sizeLine) (hr : Room k callerA) (F : ∀ base : Heap, K.In base → base.Ns mainGlobals mg → FnG P w K mg base k fa fd [x] sp) (hbind : ∀ (s : Shared) (u : Value), BindsTo s fd ⟨[u], []⟩ [(x, u)])
    (hsp : ∀ H : Hp, Only H → SqL K H a (ns.map V.int) → sp [.ref a] H (fun v _ => v = .bl true) fun _ _ _ => False) (hCX : ∀ H e s', L2.CX P w [] H s1 (fun _ _ _ => False) e s' → False) :
    codeAny (model P w) callerA (.call (.ref fa) ⟨[.ref a], []⟩) (LawEnd s1) s1 := by
  have rv := vals_ints hi
  cases hk : K.lookup a with
  | some o =>
    have e := KX a o hk
    rw [ha] at e
    cases e
    have hO : Only fun _ => none := fun _ => .inl rfl
    refine law_core KX hns hb hbb hlim hg ha hr F hbind (fun _ => none) hO (hsp _ hO (.inr ⟨_, vs.toArray, _, hk, rfl, rfl, rfl, ?_, by simpa using rv⟩)) (fun b u z => by cases z) (fun b z => absurd rfl z) (fun z => absurd rfl z) (hCX _)
    rw [List.size_toArray, hi.length]
    exact hl
  | none =>
    let H : Hp := fun b => if b = a then some (.frz { cls := .type "list", data := .seq vs.toArray } (.lst (ns.map V.int))) else none
    have h1 : H a = some (.frz { cls := .type "list", data := .seq vs.toArray } (.lst (ns.map V.int))) := if_pos rfl
    have h2 : ∀ b, b ≠ a → H b = none := fun b hb => if_neg hb
    have hO : Only H := fun b => by
      by_cases q : b = a
      · exact .inr ⟨_, _, by rw [q]; exact h1⟩
      · exact .inl (h2 b q)
    refine law_core KX hns hb hbb hlim hg ha hr F hbind H hO (hsp H hO (.inl (.inr ⟨_, h1⟩))) (fun b u z => ?_) (fun b z => ?_) (fun _ => hk) (hCX _)
    · by_cases q : b = a
      · subst q
        rw [h1] at z
        cases z
        exact ⟨ha, by rw [List.length_map]; exact hl, vs, _, rv, ha⟩
      · rw [h2 b q] at z
        cases z
    · by_cases q : b = a
      · exact q
      · exact absurd (h2 b q) z
end
end FL

set_option maxHeartbeats 4000000
/-! FS, the head of a law with lambdas: tables of code objects stand in the heap, and grow. -/
namespace FL
open PySem PySem.Spec PyProof.Rows L2 LamX
abbrev tab0 : Obj := { cls := .none, data := .fields #[] }
section
variable {P : Program} {w : World} {K : PySem.W.Frag} {mg mb : Str → Option Value} {k : Nat} {fa a : Addr} {fd : FuncData} {x : Str} {sp : Sp} {s1 : Shared} {vs : List Value} {ns : List Int} {cs : List (Addr × Addr)}
theorem law_coreT (KX : K.In s1.heap) (hns : s1.heap.Ns mainGlobals mg) (hb : s1.heap.Ns builtinsNs mb) (hbb : ∀ x : Str, x ≠ "__name__" → mb x = bootBuiltins x) (hlim : s1.heap.NoLimit) (hg : s1.gens = #[])
    (hT : ∀ p ∈ cs, s1.heap.get? p.2 = some tab0) (nT : ∀ p ∈ cs, K.lookup p.2 = none) (C : ∀ p ∈ cs, PySem.W.CodeHd s1.heap p.1 p.2)
    (hbm : ∃ (bm : Addr) (ob : Obj), mg "__builtins__" = some (.ref bm) ∧ bm ≠ builtinsNs ∧ s1.heap.get? bm = some ob ∧ ob.cls = .type "module" ∧ ob.dict = some builtinsNs ∧ ob.data = .plain)
    (ha : s1.heap.get? a = some { cls := .type "list", data := .seq vs.toArray }) (hr : Room k callerA) (F : ∀ base : Heap, K.In base → base.Ns mainGlobals mg → (∀ p ∈ cs, TabB base mg p.1 p.2) → FnG P w K mg base k fa fd [x] sp) (hbind : ∀ (s : Shared) (u : Value), BindsTo s fd ⟨[u], []⟩ [(x, u)])
    (H : Hp) (hO : ∀ b, H b = none ∨ (∃ p ∈ cs, b = p.2) ∨ ∃ o xs, H b = some (.frz o (.lst xs))) (hH : ∀ p ∈ cs, H p.2 = some (.tbl #[])) (hq : sp [.ref a] H (fun v _ => v = .bl true) fun _ _ _ => False) (hok : HOk P w H s1.heap) (hA : ∀ b, H b ≠ none → b = a ∨ ∃ p ∈ cs, b = p.2) (hK : H a ≠ none → K.lookup a = none) (hCX : ∀ e s', L2.CX P w [] H s1 (fun _ _ _ => False) e s' → False) :
    codeAny (model P w) callerA (.call (.ref fa) ⟨[.ref a], []⟩) (LawEnd s1) s1 := by
  have old : ∀ {b : Addr} {o : Obj}, s1.heap.get? b = some o → (b = a → H a ≠ none → False) → ((∃ p ∈ cs, b = p.2) → False) → (hidT s1.heap H).get? b = some o := fun {b o} e n1 n2 => hidT_get e (by
    cases q : H b with
    | none => rfl
    | some u =>
      rcases hA b (by rw [q]; exact fun z => by cases z) with e' | e'
      · exact (n1 e' (by rw [← e', q]; exact fun z => by cases z)).elim
      · exact (n2 e').elim)
  have seq_ : ∀ {b : Addr} {o : Obj}, s1.heap.get? b = some o → b = a → o.data = .seq vs.toArray := fun {b o} e eb => by
    subst eb
    rw [ha] at e
    cases e
    rfl
  have fld_ : ∀ {b : Addr} {o : Obj}, s1.heap.get? b = some o → (∃ p ∈ cs, b = p.2) → o.data = .fields #[] := fun {b o} e eb => by
    obtain ⟨p, hp, rfl⟩ := eb
    rw [hT p hp] at e
    cases e
    rfl
  have ns' : ∀ {b : Addr} {m : Str → Option Value}, s1.heap.Ns b m → (hidT s1.heap H).Ns b m := fun {b m} ⟨o, es, ep, e, d, r⟩ => by
    refine ⟨o, es, ep, old e (fun eb _ => ?_) (fun eb => ?_), d, r⟩
    · have z : Data.dict es ep = Data.seq vs.toArray _ := d.symm.trans (seq_ e eb)
      cases z
    · have z : Data.dict es ep = Data.fields #[] := d.symm.trans (fld_ e eb)
      cases z
  have kb : K.In (hidT s1.heap H) := fun b o e => old (KX b o e) (fun eb hn => by
    subst eb
    have := hK hn
    rw [e] at this
    cases this) (fun eb => by
    obtain ⟨p, hp, rfl⟩ := eb
    rw [nT p hp] at e
    cases e)
  obtain ⟨mc, c1, c2⟩ := hlim
  have hM : Mod K mg (hidT s1.heap H) := ⟨kb, ns' hns, ⟨mb, ns' hb, hbb⟩, ⟨mc, ns' c1, c2⟩⟩
  have TB : ∀ p ∈ cs, TabB (hidT s1.heap H) mg p.1 p.2 := fun p hp => by
    have tp := hT p hp
    refine ⟨?_, ?_, fun z => ?_⟩
    · obtain ⟨o, us, file, tf, flags, tg, inF, text, tt, e1, r1, r2, r3, r4, r5, r6, r7, r8, ne⟩ := C p hp
      refine ⟨o, us, file, tf, flags, tg, inF, text, tt, old e1 (fun eb _ => ?_) (fun eb => ?_), r1, r2, r3, r4, r5, r6, r7, r8, ne⟩
      · have z : Data.fields us = Data.seq vs.toArray _ := r2.symm.trans (seq_ e1 eb)
        cases z
      · have z : Data.fields us = Data.fields #[] := r2.symm.trans (fld_ e1 eb)
        cases z
        simp at r3
    · obtain ⟨bm, ob, b1, b2, b3, b4, b5, b6⟩ := hbm
      have nG : bm ≠ mainGlobals := fun q => by
        obtain ⟨o, es, ep, e, hd, _⟩ := hns
        rw [q, e] at b3
        cases b3
        rw [hd] at b6
        cases b6
      have nP : bm ≠ p.2 := fun q => by
        rw [q, tp] at b3
        cases b3
        cases b6
      refine ⟨bm, ob, b1, b2, nG, nP, old b3 (fun eb _ => ?_) (fun eb => ?_), b4, b5, b6⟩
      · have z : Data.plain = Data.seq vs.toArray _ := b6.symm.trans (seq_ b3 eb)
        cases z
      · have z : Data.plain = Data.fields #[] := b6.symm.trans (fld_ b3 eb)
        cases z
    · obtain ⟨o, es, ep, e, hd, _⟩ := hns
      rw [z, tp] at e
      cases e
      cases hd
  have e0 : Env0 P w K mg (hidT s1.heap H) callerA [] s1 H := {
    frames := rfl
    mod := hM
    bs := fun b o e => of_hidT e
    bsz := Nat.le_of_eq (hidT_size _ _)
    funs := trivial
    frf := fun b z => absurd (show b ∈ ([] : List Addr) from z) (by simp)
    hok := hok
    bare := .of_eq hg }
  have g := (F _ kb (ns' hns) TB).go callerA [] s1 H ⟨[.ref a], []⟩ [.ref a] [.ref a] _ _ hr rfl e0 (hbind s1 (.ref a)) (.cons rfl .nil) hq
  refine codeAny_mono g fun r s' h => ?_
  cases r with
  | error e => exact (hCX e s' h).elim
  | ok fl =>
    cases fl with
    | ret u =>
      obtain ⟨v, H', os, bare, un, hok', r', q⟩ := h
      have q' : v = .bl true := q
      subst q'
      obtain rfl : u = Value.bool true := r'
      have key : ∀ b o, ¬ (∃ p ∈ cs, b = p.2) → s1.heap.get? b = some o → s'.heap.get? b = some o := fun b o nb e => by
        cases q : H b with
        | none => exact un.keep b o e q (fun z => absurd (show b ∈ ([] : List Addr) from z) (by simp)) (by simp)
        | some u =>
          rcases hO b with z | z | ⟨ob, xs, z⟩
          · rw [q] at z; cases z
          · exact absurd z nb
          · obtain ⟨e1, _⟩ := hok b _ z
            obtain ⟨e2, _⟩ := hok' b _ (un.frzs b ob _ z)
            rw [e] at e1
            cases e1
            exact e2
      have grown : ∀ p ∈ cs, ∃ more : Array Value, s'.heap.get? p.2 = some { cls := .none, data := .fields more } := fun p hp => by
        obtain ⟨more, z⟩ := un.tbls p.2 #[] (hH p hp)
        exact ⟨_, hok' p.2 _ z⟩
      refine ⟨rfl, ⟨fun b o e => ?_, fun b o e => ?_⟩, os, bare⟩
      · by_cases hb : ∃ p ∈ cs, b = p.2
        · obtain ⟨p, hp, rfl⟩ := hb
          obtain ⟨more, hm⟩ := grown p hp
          rw [hT p hp] at e
          cases e
          exact .inr (.inl ⟨((C p hp).tab (hT p hp)).isCodeTable, rfl, #[], more, rfl, by rw [Array.empty_append]; exact hm⟩)
        · exact .inl (key b o hb e)
      · by_cases hb : ∃ p ∈ cs, b = p.2
        · obtain ⟨p, hp, rfl⟩ := hb
          obtain ⟨more, hm⟩ := grown p hp
          exact ⟨_, hm⟩
        · exact ⟨o, key b o hb e⟩
    | _ => exact False.elim h
open Classical in
theorem law_callTG (KX : K.In s1.heap) (hns : s1.heap.Ns mainGlobals mg) (hb : s1.heap.Ns builtinsNs mb) (hbb : ∀ x : Str, x ≠ "__name__" → mb x = bootBuiltins x) (hlim : s1.heap.NoLimit) (hg : s1.gens = #[])
    (hT : ∀ p ∈ cs, s1.heap.get? p.2 = some tab0) (nT : ∀ p ∈ cs, K.lookup p.2 = none) (C : ∀ p ∈ cs, PySem.W.CodeHd s1.heap p.1 p.2)
    (hbm : ∃ (bm : Addr) (ob : Obj), mg "__builtins__" = some (.ref bm) ∧ bm ≠ builtinsNs ∧ s1.heap.get? bm = some ob ∧ ob.cls = .type "module" ∧ ob.dict = some builtinsNs ∧ ob.data = .plain)
    (ha : s1.heap.get? a = some { cls := .type "list", data := .seq vs.toArray }) (hi : IntsAre vs ns) (hl : ns.length ≤ sizeLine) (hr : Room k callerA) (F : ∀ base : Heap, K.In base → base.Ns mainGlobals mg → (∀ p ∈ cs, TabB base mg p.1 p.2) → FnG P w K mg base k fa fd [x] sp) (hbind : ∀ (s : Shared) (u : Value), BindsTo s fd ⟨[u], []⟩ [(x, u)])
    (hsp : ∀ H : Hp, (∀ p ∈ cs, H p.2 = some (.tbl #[])) → SqL K H a (ns.map V.int) → sp [.ref a] H (fun v _ => v = .bl true) fun _ _ _ => False) (hCX : ∀ H e s', L2.CX P w [] H s1 (fun _ _ _ => False) e s' → False) :
    codeAny (model P w) callerA (.call (.ref fa) ⟨[.ref a], []⟩) (LawEnd s1) s1 := by
  have rv := vals_ints hi
  have aT : ¬ ∃ p ∈ cs, a = p.2 := fun ⟨p, hp, e⟩ => by
    have q := hT p hp
    rw [← e, ha] at q
    have z : Data.seq vs.toArray _ = Data.fields #[] := congrArg Obj.data (Option.some.inj q)
    cases z
  let H0 : Hp := fun b => if ∃ p ∈ cs, b = p.2 then some (.tbl #[]) else none
  have t1 : ∀ b, (∃ p ∈ cs, b = p.2) → H0 b = some (.tbl #[]) := fun b hb => if_pos hb
  have t2 : ∀ b, (¬ ∃ p ∈ cs, b = p.2) → H0 b = none := fun b hb => if_neg hb
  have ok0 : ∀ b, (∃ p ∈ cs, b = p.2) → s1.heap.get? b = some tab0 := fun b ⟨p, hp, e⟩ => by rw [e]; exact hT p hp
  cases hk : K.lookup a with
  | some o =>
    have e := KX a o hk
    rw [ha] at e
    cases e
    refine law_coreT KX hns hb hbb hlim hg hT nT C hbm ha hr F hbind H0 (fun b => ?_) (fun p hp => t1 _ ⟨p, hp, rfl⟩) (hsp _ (fun p hp => t1 _ ⟨p, hp, rfl⟩) (.inr ⟨_, vs.toArray, _, hk, rfl, rfl, rfl, ?_, by simpa using rv⟩)) (fun b u z => ?_) (fun b z => ?_) (fun z => absurd (t2 a aT) z) (hCX _)
    · by_cases hb : ∃ p ∈ cs, b = p.2
      · exact .inr (.inl hb)
      · exact .inl (t2 b hb)
    · rw [List.size_toArray, hi.length]
      exact hl
    · by_cases hb : ∃ p ∈ cs, b = p.2
      · rw [t1 b hb] at z
        cases z
        exact ok0 b hb
      · rw [t2 b hb] at z
        cases z
    · by_cases hb : ∃ p ∈ cs, b = p.2
      · exact .inr hb
      · exact absurd (t2 b hb) z
  | none =>
    let H : Hp := fun b => if b = a then some (.frz { cls := .type "list", data := .seq vs.toArray } (.lst (ns.map V.int))) else H0 b
    have h1 : H a = some (.frz { cls := .type "list", data := .seq vs.toArray } (.lst (ns.map V.int))) := if_pos rfl
    have h2 : ∀ b, b ≠ a → H b = H0 b := fun b hb => if_neg hb
    have hh : ∀ p ∈ cs, H p.2 = some (.tbl #[]) := fun p hp => by
      rw [h2 p.2 fun z => aT ⟨p, hp, z.symm⟩]
      exact t1 _ ⟨p, hp, rfl⟩
    refine law_coreT KX hns hb hbb hlim hg hT nT C hbm ha hr F hbind H (fun b => ?_) hh (hsp H hh (.inl (.inr ⟨_, h1⟩))) (fun b u z => ?_) (fun b z => ?_) (fun _ => hk) (hCX _)
    · by_cases q : b = a
      · exact .inr (.inr ⟨_, _, by rw [q]; exact h1⟩)
      · by_cases hb : ∃ p ∈ cs, b = p.2
        · exact .inr (.inl hb)
        · exact .inl ((h2 b q).trans (t2 b hb))
    · by_cases q : b = a
      · subst q
        rw [h1] at z
        cases z
        exact ⟨ha, by rw [List.length_map]; exact hl, vs, _, rv, ha⟩
      · rw [h2 b q] at z
        by_cases hb : ∃ p ∈ cs, b = p.2
        · rw [t1 b hb] at z
          cases z
          exact ok0 b hb
        · rw [t2 b hb] at z
          cases z
    · by_cases q : b = a
      · exact .inl q
      · by_cases hb : ∃ p ∈ cs, b = p.2
        · exact .inr hb
        · rw [h2 b q, t2 b hb] at z
          exact absurd rfl z
end
end FL

set_option maxHeartbeats 4000000
/-! FS, repr. -/
namespace FL
open PySem PySem.Spec PyProof.Rows L2
/-! ### how long it is -/
mutual
theorem pr_short : ∀ d : D, d.rep = true → d.pr.leavesShort 210 = true
  | .non, _ => by unfold D.pr PyData.leavesShort; rfl
  | .bl _, _ => by unfold D.pr PyData.leavesShort; rfl
  | .int i, h => by
    unfold D.rep at h
    unfold D.pr PyData.leavesShort
    refine decide_eq_true ?_
    have h1 : i.natAbs.log2 < 200 := by
      by_cases z : i.natAbs = 0
      · rw [z]; decide
      · exact (Nat.log2_lt z).mpr (of_decide_eq_true h)
    have := int_text_length_le (a := i) (k := 200) (by decide) h1
    have e : (PyData.shown (.int i)).length = (toString i : String).length := by
      unfold PyData.shown
      exact PySem.ofString_length _
    omega
  | .str x, h => by
    unfold D.rep at h
    unfold D.pr PyData.leavesShort
    exact h
  | .tup ds, h => by
    unfold D.rep at h
    unfold D.pr PyData.leavesShort
    exact prs_short ds h
  | .lst ds, h => by
    unfold D.rep at h
    unfold D.pr PyData.leavesShort
    exact prs_short ds h
  | .dct _ _, h => by
    unfold D.pr PyData.leavesShort PyData.leavesShortKv
    rfl
  | .ins _ _, h => by cases h
  | .fz _, h => by cases h
  | .kt _, h => by cases h
theorem prs_short : ∀ ds : List D, D.reps ds = true → PyData.leavesShortAll 210 (D.prs ds) = true
  | [], _ => by unfold D.prs PyData.leavesShortAll; rfl
  | d :: r, h => by
    unfold D.reps at h
    rw [Bool.and_eq_true] at h
    unfold D.prs PyData.leavesShortAll
    rw [pr_short d h.1, prs_short r h.2]; rfl
end
mutual
theorem pr_weight : ∀ d : D, d.rep = true → d.pr.weight ≤ d.wt
  | .non, _ => by unfold D.pr PyData.weight; exact Nat.zero_le _
  | .bl _, _ => by unfold D.pr PyData.weight; exact Nat.zero_le _
  | .int i, h => by
    unfold D.rep at h
    unfold D.pr PyData.weight D.wt
    split
    · omega
    · rename_i z
      have : i.natAbs ≠ 0 := fun e => z (by simpa using Int.natAbs_eq_zero.mp e)
      have := (Nat.log2_lt this).mpr (of_decide_eq_true h)
      omega
  | .str x, h => by unfold D.pr PyData.weight D.wt; exact Nat.le_refl _
  | .tup ds, h => by
    unfold D.rep at h
    unfold D.pr PyData.weight D.wt
    exact prs_weight ds h
  | .lst ds, h => by
    unfold D.rep at h
    unfold D.pr PyData.weight D.wt
    exact prs_weight ds h
  | .dct _ _, h => by unfold D.pr PyData.weight PyData.weightKv; exact Nat.zero_le _
  | .ins _ _, h => by cases h
  | .fz _, h => by cases h
  | .kt _, h => by cases h
theorem prs_weight : ∀ ds : List D, D.reps ds = true → PyData.weightAll (D.prs ds) ≤ D.wts ds
  | [], _ => by unfold D.prs PyData.weightAll; exact Nat.zero_le _
  | d :: r, h => by
    unfold D.reps at h
    rw [Bool.and_eq_true] at h
    unfold D.prs PyData.weightAll D.wts
    have h1 := pr_weight d h.1
    have h2 := prs_weight r h.2
    omega
end
theorem repr_len {d : D} (h : repOk d = true) : d.rep = true ∧ d.depth ≤ 60 ∧ (reprD d).length ≤ sizeLine := by
  unfold repOk at h
  simp only [Bool.and_eq_true, decide_eq_true_eq] at h
  obtain ⟨⟨h1, h2⟩, h3⟩ := h
  refine ⟨h1, h2, ?_⟩
  have a := PyData.shown_le 210 (by decide) d.pr (pr_short d h1)
  have b := pr_weight d h1
  unfold reprD
  rw [sizeLine_eq]
  omega
mutual
theorem pr_depth : ∀ d : D, d.pr.depth ≤ d.depth + 1
  | .non | .bl _ | .int _ | .str _ | .ins _ _ | .fz _ | .kt _ => by unfold D.pr PyData.depth; exact Nat.zero_le _
  | .dct _ _ => by unfold D.pr PyData.depth PyData.depthKv; omega
  | .tup ds => by
    unfold D.pr PyData.depth D.depth
    have := prs_depth ds
    omega
  | .lst ds => by
    unfold D.pr PyData.depth D.depth
    have := prs_depth ds
    omega
theorem prs_depth : ∀ ds : List D, PyData.depthAll (D.prs ds) ≤ D.depths ds + 1
  | [] => by unfold D.prs PyData.depthAll; exact Nat.zero_le _
  | d :: r => by
    unfold D.prs PyData.depthAll D.depths
    have h1 := pr_depth d
    have h2 := prs_depth r
    omega
end
/-! ### what the machine writes -/
def Shows (P : Program) (w : World) (h : Heap) (u : Value) (p : PyData) : Prop := ∃ as bs, Reads h u p as ∧ ReadAtMost h p.depth bs ∧ ReprK P w bs h p.depth u p.shown
def ShowsAll (P : Program) (w : World) (h : Heap) (us : List Value) (ps : List PyData) : Prop := ∃ as bs, ReadsAll h us ps as ∧ ReadAtMost h (PyData.depthAll ps) bs ∧ ReprAllK P w bs h (PyData.depthAll ps) us (PyData.shownAll ps)
section
variable {X : Cx} {pins : List (Addr × Obj)} {σ : L2.St} {H : Hp} {s : Shared} {cA : Nat → Option Addr}
/-- an empty dictionary in the heap -/
theorem dict0_at {a : Addr} (I : L2.Inv X pins σ H s) (h : H a = some (.dK [])) : ∃ o n, s.heap.get? a = some o ∧ o.cls = .type "dict" ∧ o.data = .dict #[] n ∧ (a == sysModules) = false := by
  obtain ⟨_, hd, vs, rel, o, es, ep, h1, h2, h3, _, h4, _⟩ := dk_of I.hok h
  cases rel
  refine ⟨o, ep, h1, h2.1, ?_, hd⟩
  have : es = #[] := by
    apply Array.toList_inj.mp
    generalize es.toList = l at h4
    cases h4
    rfl
  rw [h3, this]
mutual
theorem RD.shows (I : L2.Inv X pins σ H s) : ∀ (d : D) (v : V) (u : Value), RD X.K cA H d v → RelV v u → d.rep = true → d.pr.shown.length ≤ sizeLine → Shows X.prog X.w s.heap u d.pr
  | .non, _, _, .non, r, _, _ => by
    cases r
    unfold D.pr
    exact ⟨_, [], .none, (fun _ h => by cases h), by unfold PyData.shown; exact .of_is ReprIs.none _ _ _⟩
  | .bl b, _, _, .bl _, r, _, _ => by
    cases r
    unfold D.pr
    exact ⟨_, [], .bool b, (fun _ h => by cases h), by unfold PyData.shown; exact .of_is (ReprIs.bool b) _ _ _⟩
  | .int i, _, _, .int _, r, hr, _ => by
    obtain ⟨t, rfl⟩ := r
    unfold D.rep at hr
    unfold D.pr
    have hlog : i.natAbs.log2 < 1920 := by
      by_cases z : i.natAbs = 0
      · rw [z]; decide
      · have := (Nat.log2_lt z).mpr (of_decide_eq_true hr)
        omega
    exact ⟨_, [], .int i t, (fun _ h => by cases h), by simp only [PyData.shown]; exact .of_is (ReprIs.int t hlog) _ _ _⟩
  | .str x, _, _, .str _, r, _, hz => by
    obtain ⟨t, rfl⟩ := r
    unfold D.pr PyData.shown at hz
    unfold D.pr
    exact ⟨_, [], .str x t, (fun _ h => by cases h), by unfold PyData.shown; exact .of_is (ReprIs.str x t hz) _ _ _⟩
  | .lst ds, _, _, .lst (a := a) h q, r, hr, hz => by
    cases r
    unfold D.rep at hr
    unfold D.pr PyData.shown at hz
    obtain ⟨its, rv, ⟨o, n, ho, hc, _, hd⟩, _⟩ := I.list (a := a) (.inl (.inl h))
    obtain ⟨as, bs, g1, g2, g3⟩ := RDs.shows I ds _ its q rv hr fun t ht => Nat.le_trans (listText_mem_le ht) hz
    have rd : Reads s.heap (.ref a) (.list (D.prs ds)) _ := .list ho hc hd g1
    have hna := not_mem_of_deeper rd (by unfold PyData.depth; omega) g2
    unfold D.pr
    refine ⟨_, a :: bs, rd, ReadAtMost.cons rd (by unfold PyData.depth; omega) g2, ?_⟩
    unfold PyData.depth PyData.shown
    cases its with
    | nil =>
      cases rv
      cases q
      unfold D.prs PyData.shownAll
      rw [listText_nil]
      exact ReprK.listEmpty ho hc hd
    | cons x l => exact ReprK.list ho hc hd hna (by simpa using g3.length_eq) fun i y e => g3.item i y (by simpa using e)
  | .tup ds, _, _, .tup (a := a) h q, r, hr, hz => by
    cases r
    unfold D.rep at hr
    unfold D.pr PyData.shown at hz
    obtain ⟨its, rv, ⟨o, ho, hc, n, hd⟩, _⟩ := I.tuple (a := a) (.inl (.inl h))
    obtain ⟨as, bs, g1, g2, g3⟩ := RDs.shows I ds _ its q rv hr fun t ht => Nat.le_trans (tupleText_mem_le ht) hz
    have rd : Reads s.heap (.ref a) (.tuple (D.prs ds)) _ := .tuple ho hc hd g1
    have hna := not_mem_of_deeper rd (by unfold PyData.depth; omega) g2
    unfold D.pr
    refine ⟨_, a :: bs, rd, ReadAtMost.cons rd (by unfold PyData.depth; omega) g2, ?_⟩
    unfold PyData.depth PyData.shown
    exact ReprK.tuple ho hc hd hna (by simpa using g3)
  | .dct false kvs, _, _, .dK (a := a) h q, r, hr, hz => by
    cases r
    unfold D.rep at hr
    have e : kvs = [] := by
      cases kvs with
      | nil => rfl
      | cons _ _ => cases hr
    subst e
    cases q
    obtain ⟨o, n, ho, hc, hd, hs⟩ := dict0_at I h
    have rd : Reads s.heap (.ref a) (.dict []) _ := .dict ho hc hd .nil .nil
    unfold D.pr
    refine ⟨_, [a], rd, ReadAtMost.cons rd (Nat.zero_le _) (fun _ h => by cases h), ?_⟩
    unfold PyData.depth PyData.depthKv PyData.shown PyData.shownKv
    exact ReprK.dict ho hc hd hs (by simp) (ReprEntriesK.of_two [] [] [] .nil .nil)
  | .dct true kvs, _, _, .dT h q, _, hr, _ => by cases hr
  | .ins _ _, _, _, _, _, hr, _ => by cases hr
  | .fz _, _, _, _, _, hr, _ => by cases hr
  | .kt _, _, _, _, _, hr, _ => by cases hr
theorem RDs.shows (I : L2.Inv X pins σ H s) : ∀ (ds : List D) (vs : List V) (us : List Value), RDs X.K cA H ds vs → Vals vs us → D.reps ds = true → (∀ t ∈ PyData.shownAll (D.prs ds), t.length ≤ sizeLine) → ShowsAll X.prog X.w s.heap us (D.prs ds)
  | [], _, _, .nil, r, _, _ => by
    cases r
    unfold D.prs
    exact ⟨_, [], .nil, (fun _ h => by cases h), by unfold PyData.shownAll; exact .nil⟩
  | d :: ds, _, _, .cons h q, .cons r1 r2, hr, hz => by
    unfold D.reps at hr
    rw [Bool.and_eq_true] at hr
    unfold D.prs PyData.shownAll at hz
    obtain ⟨a1, b1, x1, x2, x3⟩ := RD.shows I d _ _ h r1 hr.1 (hz _ List.mem_cons_self)
    obtain ⟨a2, b2, y1, y2, y3⟩ := RDs.shows I ds _ _ q r2 hr.2 fun t ht => hz t (List.mem_cons_of_mem _ ht)
    unfold D.prs
    refine ⟨_, b1 ++ b2, .cons x1 y1, fun b hm => ?_, ?_⟩
    · unfold PyData.depthAll
      rcases List.mem_append.mp hm with hm | hm
      · obtain ⟨d', as', r', hd'⟩ := x2 b hm
        exact ⟨d', as', r', Nat.le_trans hd' (Nat.le_max_left _ _)⟩
      · obtain ⟨d', as', r', hd'⟩ := y2 b hm
        exact ⟨d', as', r', Nat.le_trans hd' (Nat.le_max_right _ _)⟩
    · unfold PyData.depthAll PyData.shownAll
      exact .cons ((x3.more fun b hb => List.mem_append_left _ hb).level_le (Nat.le_max_left _ _)) (y3.more_le (fun b hb => List.mem_append_right _ hb) (Nat.le_max_right _ _))
end
/-- repr(x) -/
def rRepr (K : PySem.W.Frag) : List V → Hp → VK → Prop := fun vs H Q => ∃ (cA : Nat → Option Addr) (v : V) (d : D), vs = [v] ∧ RD K cA H d v ∧ repOk d = true ∧ Q (.str (reprD d)) H
theorem cr_repr (hgd : NoGd X.A) (hu : X.A.units + 120 < cLine) : CallR X (.builtin "repr") (rRepr X.K) := by
  intro pins s σ H vs us Q I r h
  obtain ⟨cA, v, d, rfl, rd, ok, q⟩ := h
  obtain ⟨h1, h2, h3⟩ := repr_len ok
  have hdp : d.pr.depth ≤ 61 := Nat.le_trans (pr_depth d) (by omega)
  cases r with
  | cons ru rn =>
    rename_i u us'
    cases rn
    have sh := RD.shows I d v u rd ru h1 h3
    unfold reprD at q h3
    have fin : ∀ h' u' tk, (∀ b o, s.heap.get? b = some o → h'.get? b = some o) → EP X pins σ Q (.str d.pr.shown u') { s with heap := h', toks := tk } := fun h' u' tk hk => ⟨.str d.pr.shown, H, I.kept hk, ⟨u', rfl⟩, q⟩
    have one : ∀ (a : Addr) (T idr : String), u = .ref a → s.TypeIs (.ref a) T → SlotG T "__repr__" idr → (wpAny (model X.prog X.w) X.A.in1 (call (.builtin idr) [.ref a]) (fun x s' => ∃ y u', x = .str y u' ∧ EP X pins σ Q x s') X.xe s) → wpAny (model X.prog X.w) X.A (call (.builtin "repr") [u]) (EP X pins σ Q) X.xe s := fun a T idr eu hT hs hc => by
      subst eu
      exact call_repr_slot (by omega) hT hs hc
    cases rd with
    | non =>
      cases ru
      unfold D.pr PyData.shown at fin
      exact PySem.P.repr_of_none (fin s.heap s.toks (s.toks + 1) fun _ _ e => e)
    | bl b =>
      cases ru
      unfold D.pr PyData.shown at fin
      exact PySem.P.repr_of_bool (fin s.heap s.toks (s.toks + 1) fun _ _ e => e)
    | int i =>
      obtain ⟨t, rfl⟩ := ru
      unfold D.pr PyData.shown at fin
      unfold D.rep at h1
      refine PySem.P.repr_of_int ?_ (fin s.heap s.toks (s.toks + 1) fun _ _ e => e)
      by_cases z : i.natAbs = 0
      · rw [z]; decide
      · have := (Nat.log2_lt z).mpr (of_decide_eq_true h1)
        omega
    | str x =>
      obtain ⟨t, rfl⟩ := ru
      unfold D.pr PyData.shown at fin h3
      exact PySem.P.repr_of_str (fin s.heap s.toks (s.toks + 1) fun _ _ e => e) h3
    | @tup ds a vs h q' =>
      cases ru
      obtain ⟨its, rv, ⟨o, ho, hc, n, hd⟩, _⟩ := I.tuple (a := a) (.inl (.inl h))
      unfold D.rep at h1
      unfold D.pr PyData.shown at h3 fin
      obtain ⟨as, bs, g1, g2, g3⟩ := RDs.shows I ds _ its q' rv h1 fun t ht => Nat.le_trans (tupleText_mem_le ht) h3
      have hna := not_mem_of_deeper (.tuple ho hc hd g1 : Reads s.heap (.ref a) (.tuple (D.prs ds)) _) (by unfold PyData.depth; omega) g2
      unfold D.pr PyData.depth at hdp
      refine one a "tuple" "tuple.__repr__" rfl ⟨o, ho, hc⟩ PySem.F.slot_tuple_repr ?_
      exact call_tuple_reprK ho hc hd hna (by simpa using g3) hgd (fun b _ => Clear.nil b) (by show X.A.units + 1 + _ < cLine; omega) (fun _ _ e => e) (fun h' u' tk hk => ⟨_, _, rfl, fin h' u' tk hk⟩) h3
    | @lst ds a vs h q' =>
      cases ru
      obtain ⟨its, rv, ⟨o, n, ho, hc, _, hd⟩, _⟩ := I.list (a := a) (.inl (.inl h))
      unfold D.rep at h1
      unfold D.pr PyData.shown at h3 fin
      obtain ⟨as, bs, g1, g2, g3⟩ := RDs.shows I ds _ its q' rv h1 fun t ht => Nat.le_trans (listText_mem_le ht) h3
      have hna := not_mem_of_deeper (.list ho hc hd g1 : Reads s.heap (.ref a) (.list (D.prs ds)) _) (by unfold PyData.depth; omega) g2
      unfold D.pr PyData.depth at hdp
      refine one a "list" "list.__repr__" rfl ⟨o, ho, hc⟩ PySem.F.slot_list_repr.toG ?_
      cases its with
      | nil =>
        cases rv
        cases q'
        unfold D.prs PyData.shownAll at fin
        rw [listText_nil] at fin
        exact call_list_repr_empty ⟨o, ho, hc⟩ ho hd ⟨_, _, rfl, fin _ _ _ fun _ _ e => e⟩
      | cons x l =>
        exact call_list_reprK ho hc hd hna (by simpa using g3.length_eq) (fun i y e => g3.item i y (by simpa using e)) hgd (fun b _ => Clear.nil b) (by show X.A.units + 1 + _ < cLine; omega) (fun _ _ e => e) (fun h' u' tk hk => ⟨_, _, rfl, fin h' u' tk hk⟩) h3
    | @dK kvs a ws h q' =>
      cases ru
      unfold D.rep at h1
      have e : kvs = [] := by
        cases kvs with
        | nil => rfl
        | cons _ _ => cases h1
      subst e
      cases q'
      obtain ⟨o, n, ho, hc, hd, hs⟩ := dict0_at I h
      unfold D.pr PyData.shown PyData.shownKv at h3 fin
      refine one a "dict" "dict.__repr__" rfl ⟨o, ho, hc⟩ PySem.F.slot_dict_repr ?_
      exact call_dict_reprK (as := []) (d := 0) ho hc hd hs List.not_mem_nil (ReprEntriesK.of_two [] [] [] .nil .nil) hgd (fun b _ => Clear.nil b) (by show X.A.units + 1 + _ < cLine; omega) (fun _ _ e => e) (fun h' u' tk hk => ⟨_, _, rfl, fin h' u' tk hk⟩) h3
    | dT h q' => cases h1
    | fz h q' => cases h1
    | kt h q' => cases h1
    | ins h q' q2 => cases h1
end
end FL

set_option maxHeartbeats 4000000
/-! FS, part 6: calls, methods of lists. -/
namespace FL
open PySem PySem.Spec PyProof.Rows L2

/-- the heap behind a call -/
structure CF (T : List (Addr × Str)) (B H B' H' : Hp) (lk : Bool) (ha : Addr) : Prop where
  sb : Sub B B'
  sub : Sub B' H'
  fr : ∀ b x, nt H b = some x → ¬ (lk = true ∧ b = ha) → H' b = some x
  dom : ∀ b, nt H' b = none → nt H b = none
  tab : TabOk T B' H'
  bn : ∀ b x, B' b = some x → B b = some x ∨ nt H b = none ∨ (lk = true ∧ b = ha)
/-- what was handed in, behind a call -/
def HdOk (K : PySem.W.Frag) (cA : Nat → Option Addr) (B' H' : Hp) (ha : Addr) : Option SV → Prop
  | some (.o d) => B' ha = none ∧ OwnAt K cA B' H' ha d
  | some (.d d) => RD K cA B' d (.ref ha)
  | none => True
inductive RVv (K : PySem.W.Frag) (cA : Nat → Option Addr) (B' H H' : Hp) : SV → V → Prop where
  | d {d : D} {v : V} : RD K cA B' d v → RVv K cA B' H H' (.d d) v
  | o {d : D} {a : Addr} : B' a = none → nt H a = none → OwnAt K cA B' H' a d → RVv K cA B' H H' (.o d) (.ref a)
def XRc (K : PySem.W.Frag) (cA : Nat → Option Addr) (xA : XT) (B H : Hp) (x : Exn) (c : Value) (d : Option Addr) : Prop :=
  c = .ref (xA.a x.c) ∧ match x.f with
    | none => d = none
    | some v => ∃ dx nm u, d = some dx ∧ H dx = some (.xd [(nm, u)]) ∧ RD K cA B v u
def CPost (K : PySem.W.Frag) (cA : Nat → Option Addr) (xA : XT) (B H : Hp) (lk : Bool) (ha : Addr) (o : CO) (Q : VK) (E : XK) : Prop := match o with
  | .ok rv ho => ∀ v H' B', CF xA.T B H B' H' lk ha → (lk = true → HdOk K cA B' H' ha ho) → RVv K cA B' H H' rv v → Q v H'
  | .ex x ho => ∀ c d H' B', CF xA.T B H B' H' lk ha → (lk = true → HdOk K cA B' H' ha ho) → XRc K cA xA B' H' x c d → E c d H'
  | .no => False
/-- a def's promise, by its functional reading -/
def spF (K : PySem.W.Frag) (cA : Nat → Option Addr) (xA : XT) (C : Calls) (f : Nat) (lk : Bool) (np : Nat) : Sp := fun vs H Q E =>
  ∃ (B : Hp) (h : Option D) (ds : List D) (hv us : List V) (ha : Addr), Sub B H ∧ TabOk xA.T B H ∧ vs = hv ++ us ∧ h.isSome = lk ∧ ds.length = np ∧ RDs K cA B ds us ∧
    (match h with | none => hv = [] | some d => hv = [.ref ha] ∧ B ha = none ∧ OwnAt K cA B H ha d) ∧ CPost K cA xA B H lk ha (C f h ds) Q E
section
variable {Z : Zn} {B H B' H' : Hp} {s : S} {σ : L2.St} {ha : Addr}
theorem Rep.frn (R : Rep Z B s σ H) {b : Addr} {x : HO} (e : Z.H0 b = some x) (w : ¬ Z.wr b) : nt H b = some x := by
  cases q : nt H b with
  | none => rw [R.dom b q] at e; cases e
  | some y =>
    have := nt_some q
    rw [R.fr b x e w] at this
    rw [this]
theorem OwnAt.ntn {K : PySem.W.Frag} {cA : Nat → Option Addr} {a : Addr} {d : D} {o : HO} (h : OwnAt K cA B H a d) (q : H a = some o) : nt H a = some o := nt_of q fun ps z => h.no_.1 ps (by rw [q, z])
theorem Rep.call (R : Rep Z B s σ H) (c : CF Z.xA.T B H B' H' false ha) : Rep Z B' s σ H' where
  len := R.len
  sub := c.sub
  fr := fun b x e w => c.fr b x (R.frn e w) (fun z => nomatch z.1)
  dom := fun b e => R.dom b (c.dom b e)
  tab := c.tab
  b0 := R.b0.trans c.sb
  bn := fun b x e => by
    rcases c.bn b x e with z | z | z
    · exact R.bn b x z
    · exact .inr (.inl (R.dom b z))
    · exact nomatch z.1
  dat := fun i d e => by
    obtain ⟨v, h1, h2⟩ := R.dat i d e
    exact ⟨v, h1, h2.mono c.sb⟩
  own := fun i d e => by
    obtain ⟨a, h1, h2⟩ := R.own i d e
    obtain ⟨o, q, _⟩ := h2.own.some_
    refine ⟨a, h1, ?_, h2.mine, (h2.own.mono c.sb).heap ((c.fr a o (h2.own.ntn q) (fun z => nomatch z.1)).trans q.symm)⟩
    cases w : B' a with
    | none => rfl
    | some x =>
      rcases c.bn a x w with z | z | z
      · rw [h2.out] at z; cases z
      · rw [h2.own.ntn q] at z; cases z
      · exact nomatch z.1
  dis := R.dis
  lk0 := R.lk0
/-- .. that was handed the thing of slot i -/
theorem Rep.callH (R : Rep Z B s σ H) {i : Nat} {d : D} {w : SV} (hi : getS s i = some (.o d)) (hs : σ[i]? = some (some (.ref ha))) (c : CF Z.xA.T B H B' H' true ha) (hd : HdOk Z.K Z.cA B' H' ha (some w)) : Rep Z B' (s.set i (some w)) σ H' := by
  have il := getS_lt hi
  obtain ⟨a0, y1, y2⟩ := R.own i d hi
  rw [hs] at y1
  cases y1
  refine ⟨by rw [List.length_set]; exact R.len, c.sub, fun b x e w => ?_, fun b e => R.dom b (c.dom b e), c.tab, R.b0.trans c.sb, fun b x e => ?_, fun j d' e => ?_, fun j d' e => ?_, fun j k d1 d2 a z1 z2 => ?_, R.lk0⟩
  · refine c.fr b x (R.frn e w) fun z => ?_
    obtain ⟨_, rfl⟩ := z
    rcases y2.mine with z | z
    · rw [e] at z; cases z
    · exact w z
  · rcases c.bn b x e with z | z | z
    · exact R.bn b x z
    · exact .inr (.inl (R.dom b z))
    · rw [z.2]
      exact .inr y2.mine
  · rw [getS_set il] at e
    by_cases q : j = i
    · rw [if_pos q] at e
      cases e
      exact ⟨_, by rw [q]; exact hs, hd⟩
    · rw [if_neg q] at e
      obtain ⟨v, h1, h2⟩ := R.dat j d' e
      exact ⟨v, h1, h2.mono c.sb⟩
  · rw [getS_set il] at e
    by_cases q : j = i
    · rw [if_pos q] at e
      cases e
      exact ⟨ha, by rw [q]; exact hs, hd.1, y2.mine, hd.2⟩
    · rw [if_neg q] at e
      obtain ⟨a, h1, h2⟩ := R.own j d' e
      obtain ⟨o, z, _⟩ := h2.own.some_
      have na : a ≠ ha := fun za => q (R.dis j i _ _ a e hi h1 (by rw [hs, za]))
      refine ⟨a, h1, ?_, h2.mine, (h2.own.mono c.sb).heap ((c.fr a o (h2.own.ntn z) (fun y => na y.2)).trans z.symm)⟩
      cases w2 : B' a with
      | none => rfl
      | some x =>
        rcases c.bn a x w2 with y | y | y
        · rw [h2.out] at y; cases y
        · rw [h2.own.ntn z] at y; cases y
        · exact absurd y.2 na
  · rw [getS_set il] at z1 z2
    by_cases q1 : j = i
    · by_cases q2 : k = i
      · exact fun _ _ => q1.trans q2.symm
      · rw [if_neg q2] at z2
        intro y3 y4
        rw [q1] at y3 ⊢
        exact R.dis i k _ _ a hi z2 y3 y4
    · rw [if_neg q1] at z1
      by_cases q2 : k = i
      · intro y3 y4
        rw [q2] at y4 ⊢
        exact R.dis j i _ _ a z1 hi y3 y4
      · rw [if_neg q2] at z2
        exact R.dis j k _ _ a z1 z2
theorem RVv.ra (R : Rep Z B s σ H) (sb : Sub B B') {s' : S} (hs : ∀ i d, getS s' i = some (.o d) → ∃ d', getS s i = some (.o d')) {v : V} : ∀ {w : SV}, RVv Z.K Z.cA B' H H' w v → RA Z B' H' s' σ (svA w) v
  | _, .d h => .d h
  | _, .o h1 h2 h3 => .o ⟨h1, .inl (R.dom _ h2), h3⟩ fun i d e z => by
    obtain ⟨d', e'⟩ := hs i d e
    exact R.apart' h2 i d' e' z
end

section
variable {p : Pm} {C : Calls} {X : Cx} {pos : Pos} {x y z : Expr} {xs : List Expr} {a b c : E} {es : Es}
theorem XRc.xr {Z : Zn} (zo : ZOk p Z) {B H : Hp} {e : Exn} {c : Value} {d : Option Addr} (h : XRc p.K p.cA p.xA B H e c d) : XR Z B H e c d := by
  unfold XRc at h
  unfold XR
  rw [zo.K, zo.cA, zo.xA]
  exact h
theorem se_call {f : Nat} {n : Str} {pn : Pos} {fa : Addr} {fd : FuncData} {ps : List Str} {k np : Nat} (F : FnG X.prog X.w X.K X.mg X.base k fa fd ps (spF p.K p.cA p.xA C f false np)) (hr : Room k X.A) (hgd : NoGd X.A) (hg : Gl X n) (hm : X.mg n = some (.ref fa))
    (hk : PySem.W.keepIn X.K (.ref fa) = true) (hb : Binds X.K fd ps []) (tk : Takes X p.W) (ha : PA X (x :: xs) (tEs p C es)) (hl : esLen es = np) (hd : (n == ("__debug__" : Str)) = false)
    (hs : starEach (x :: xs) X.env = (false, eval x X.env) :: starEach xs X.env) (hpl : (backTo pos (starEach xs X.env)).any (·.1) = false) : PE X (.Call (.Name n pn) (x :: xs) [] pos) (tE p C (.call f es)) := by
  refine (pe_callG (E := WE p.W) F hr hgd hg hm hk hb (fun σ => passAt tk σ) ha hd hs hpl).imp fun σ H Q h => ?_
  obtain ⟨Z, B, s, zo, R, h⟩ := h
  refine ⟨Z, B, s, zo, R, Post.bindE h fun ds s1 vs H1 B1 e R1 sb1 r1 h1 => ?_⟩
  have tbk := R1.tab
  rw [zo.xA] at tbk
  refine ⟨B1, none, ds, [], vs, 0, R1.sub, tbk, rfl, rfl, (evs_len _ _ _ _ e).trans hl, by rw [← zo.K, ← zo.cA]; exact r1, rfl, ?_⟩
  unfold callD at h1
  cases e2 : C f none ds with
  | no => rw [e2] at h1; exact h1.elim
  | ex e ho =>
    rw [e2] at h1
    exact fun c d H' B' cf _ xr => h1 c d H' B' (R1.call (by rw [zo.xA]; exact cf)) cf.sb (xr.xr zo)
  | ok rv ho =>
    rw [e2] at h1
    intro v H' B' cf _ r
    rw [← zo.K, ← zo.cA] at r
    rw [← zo.xA] at cf
    have ra := r.ra R1 cf.sb (s' := s1) (fun i d e => ⟨d, e⟩)
    cases rv with
    | d d => exact h1 v H' B' (R1.call cf) cf.sb ra
    | o d => exact h1 v H' B' (R1.call cf) cf.sb ra
theorem se_callH {f i : Nat} {n m : Str} {pn pm : Pos} {fa : Addr} {fd : FuncData} {ps : List Str} {k np : Nat} (F : FnG X.prog X.w X.K X.mg X.base k fa fd ps (spF p.K p.cA p.xA C f true np)) (hr : Room k X.A) (hgd : NoGd X.A) (hg : Gl X n) (hm : X.mg n = some (.ref fa))
    (hk : PySem.W.keepIn X.K (.ref fa) = true) (hb : Binds X.K fd ps []) (tk : Takes X p.W) (hN : X.N[i]? = some m) (hv : Vis X.env.scope m) (hd1 : (m == ("__debug__" : Str)) = false) (hcd : (m == ("__classdict__" : Str)) = false) (ha : PA X xs (tEs p C es)) (hl : esLen es = np) (hd : (n == ("__debug__" : Str)) = false)
    (hpl : (backTo pos (starEach xs X.env)).any (·.1) = false) : PE X (.Call (.Name n pn) (.Name m pm :: xs) [] pos) (tE p C (.callH f i es)) := by
  refine (pe_callG (E := WE p.W) F hr hgd hg hm hk hb (fun σ => passAt tk σ) (pa_cons (pe_var hN hv hd1 hcd) ha) hd (by rfl) hpl).imp fun σ H Q h => ?_
  obtain ⟨Z, B, s, zo, R, h⟩ := h
  unfold ev at h
  cases e0 : getS s i with
  | none => rw [e0] at h; exact h.elim
  | some w =>
    rw [e0] at h
    cases w with
    | d _ => exact h.elim
    | o d0 =>
      simp only at h
      obtain ⟨ha, y1, y2⟩ := R.own i d0 e0
      refine ⟨.ref ha, y1, ?_⟩
      refine ⟨Z, B, s, zo, R, Post.bindE h fun ds s1 vs H1 B1 e R1 sb1 r1 h1 => ?_⟩
      unfold callHD at h1
      cases e1 : getS s1 i with
      | none => rw [e1] at h1; exact h1.elim
      | some w =>
        rw [e1] at h1
        cases w with
        | d _ => exact h1.elim
        | o d1 =>
          simp only at h1
          obtain ⟨ha', z1, z2⟩ := R1.own i d1 e1
          rw [y1] at z1
          cases z1
          have tbk := R1.tab
          rw [zo.xA] at tbk
          refine ⟨B1, some d1, ds, [.ref ha], vs, ha, R1.sub, tbk, rfl, rfl, (evs_len _ _ _ _ e).trans hl, by rw [← zo.K, ← zo.cA]; exact r1, ⟨rfl, z2.out, by rw [← zo.K, ← zo.cA]; exact z2.own⟩, ?_⟩
          cases e2 : C f (some d1) ds with
          | no => rw [e2] at h1; exact h1.elim
          | ex e ho =>
            rw [e2] at h1
            cases ho with
            | none => exact h1.elim
            | some w =>
              intro c d H' B' cf hd xr
              have hd' := hd rfl
              rw [← zo.K, ← zo.cA] at hd'
              rw [← zo.xA] at cf
              exact h1 c d H' B' (R1.callH e1 y1 cf hd') cf.sb (xr.xr zo)
          | ok rv ho =>
            rw [e2] at h1
            cases ho with
            | none => cases rv <;> exact h1.elim
            | some w =>
              intro v H' B' cf hd r
              have hd' := hd rfl
              rw [← zo.K, ← zo.cA] at hd' r
              rw [← zo.xA] at cf
              have il := getS_lt e1
              have ra := r.ra R1 cf.sb (s' := s1.set i (some w)) (fun j d e => by
                rw [getS_set il] at e
                by_cases q : j = i
                · exact ⟨d1, by rw [q]; exact e1⟩
                · rw [if_neg q] at e
                  exact ⟨d, e⟩)
              cases rv with
              | d d => exact h1 v H' B' (R1.callH e1 y1 cf hd') cf.sb ra
              | o d => exact h1 v H' B' (R1.callH e1 y1 cf hd') cf.sb ra
theorem se_mk {f c : Nat} {n : Str} {pn : Pos} {fa C0 : Addr} {fd : FuncData} {ps : List Str} {k np : Nat} (hC : p.cA c = some C0) (M : Mk X.K C0 fa) (F : FnG X.prog X.w X.K X.mg X.base k fa fd ps (spF p.K p.cA p.xA C f true np)) (hr : Room (k + 1) X.A) (hgd : NoGd X.A) (hg : Gl X n) (hm : X.mg n = some (.ref C0))
    (hb : Binds X.K fd ps []) (ha : PA X (x :: xs) (tEs p C es)) (hl : esLen es = np) (hd : (n == ("__debug__" : Str)) = false)
    (hs : starEach (x :: xs) X.env = (false, eval x X.env) :: starEach xs X.env) (hpl : (backTo pos (starEach xs X.env)).any (·.1) = false) : PE X (.Call (.Name n pn) (x :: xs) [] pos) (tE p C (.mk c f es)) := by
  refine (pe_makeG M F hr hgd hg hm hb passL ha hd hs hpl).imp fun σ H Q h => ?_
  obtain ⟨Z, B, s, zo, R, h⟩ := h
  refine ⟨Z, B, s, zo, R, Post.bindE h fun ds s1 vs H1 B1 e R1 sb1 r1 h1 => ?_⟩
  intro q dx hq hdx hne
  rw [List.append_nil]
  have R2 : Rep Z B1 s1 σ (upd (upd H1 dx (.own q)) q (.ins C0 dx [])) := (R1.new (o := .own q) hdx).new (by rw [upd_ne (Ne.symm hne)]; exact hq)
  have bq : B1 q = none := R1.sub.nn hq
  have tbk := R2.tab
  rw [zo.xA] at tbk
  refine ⟨B1, some (.ins c []), ds, [.ref q], vs, q, R2.sub, tbk, rfl, rfl, (evs_len _ _ _ _ e).trans hl, by rw [← zo.K, ← zo.cA]; exact r1, ⟨rfl, bq, .ins hC upd_same .nil⟩, ?_⟩
  unfold mkD at h1
  cases e2 : C f (some (.ins c [])) ds with
  | no => rw [e2] at h1; exact h1.elim
  | ex e ho => rw [e2] at h1; exact h1.elim
  | ok rv ho =>
    rw [e2] at h1
    split at h1
    · rename_i d he
      cases he
      intro v H' B' cf hd r
      have hd' := hd rfl
      rw [← zo.K, ← zo.cA] at hd' r
      have ev : v = .non := by cases r with | d r => exact r.non_inv
      refine ⟨ev, ?_⟩
      rw [← zo.xA] at cf
      have nq : Z.H0 q = none := R1.dom q (nt_none hq)
      have R3 : Rep Z B' s1 σ H' := ⟨R1.len, cf.sub, fun b x e w => cf.fr b x (R2.frn e w) (fun z => by rw [z.2] at e; rw [nq] at e; cases e), fun b e => R2.dom b (cf.dom b e), cf.tab, R1.b0.trans cf.sb, fun b x e => by
          rcases cf.bn b x e with z | z | z
          · exact R1.bn b x z
          · exact .inr (.inl (R2.dom b z))
          · rw [z.2]; exact .inr (.inl nq),
        fun i d' e => by
          obtain ⟨v', g1, g2⟩ := R1.dat i d' e
          exact ⟨v', g1, g2.mono cf.sb⟩,
        fun i d' e => by
          obtain ⟨a, g1, g2⟩ := R2.own i d' e
          obtain ⟨o, z, _⟩ := g2.own.some_
          have na : a ≠ q := fun w => by
            obtain ⟨a', y1, y2⟩ := R1.own i d' e
            rw [g1] at y1
            cases y1
            obtain ⟨o', z', _⟩ := y2.own.some_
            exact ne_of_none z' hq w
          refine ⟨a, g1, ?_, g2.mine, (g2.own.mono cf.sb).heap ((cf.fr a o (g2.own.ntn z) (fun y => na y.2)).trans z.symm)⟩
          cases w2 : B' a with
          | none => rfl
          | some x =>
            rcases cf.bn a x w2 with y | y | y
            · rw [g2.out] at y; cases y
            · rw [g2.own.ntn z] at y; cases y
            · exact absurd y.2 na, R1.dis, R1.lk0⟩
      exact h1 _ _ B' R3 cf.sb (.o ⟨hd'.1, .inl nq, hd'.2⟩ (R1.apart hq))
    · exact h1.elim

/-! ### methods of a slot's own list -/
def mtN : Mt → Str
  | .append => "append" | .pop0 => "pop" | .pop1 => "pop" | .extend => "extend" | .index => "index" | .count => "count"
/-- the thing of a slot is changed -/
theorem Rep.change {Z : Zn} {B H : Hp} {s : S} {σ : L2.St} {i : Nat} {a : Addr} {d d' : D} {o : HO} (R : Rep Z B s σ H) (hi : getS s i = some (.o d)) (hs : σ[i]? = some (some (.ref a))) (hw : OwnAt Z.K Z.cA B (upd H a o) a d') : Rep Z B (s.set i (some (.o d'))) σ (upd H a o) := by
  have il := getS_lt hi
  obtain ⟨a0, y1, y2⟩ := R.own i d hi
  rw [hs] at y1
  cases y1
  refine ⟨by rw [List.length_set]; exact R.len, fun b x e => ?_, fun b x e w => ?_, fun b e => ?_, R.tab.ch y2.own.no_.1 y2.own.no_.2, R.b0, R.bn, fun j d' e => ?_, fun j d' e => ?_, fun j k d1 d2 b z1 z2 => ?_, R.lk0⟩
  · have : b ≠ a := fun z => by rw [z, y2.out] at e; cases e
    rw [upd_ne this]
    exact R.sub b x e
  · have : b ≠ a := fun z => by
      rw [z] at e w
      rcases y2.mine with q | q
      · rw [q] at e; cases e
      · exact w q
    rw [upd_ne this]
    exact R.fr b x e w
  · by_cases z : b = a
    · have := hw.no_.1
      rw [z] at e
      cases q : upd H a o a with
      | none => obtain ⟨o', q', _⟩ := hw.some_; rw [q] at q'; cases q'
      | some x => rw [hw.ntn q] at e; cases e
    · rw [nt_upd_ne z] at e; exact R.dom b e
  · rw [getS_set il] at e
    by_cases q : j = i
    · rw [if_pos q] at e; cases e
    · rw [if_neg q] at e; exact R.dat j d' e
  · rw [getS_set il] at e
    by_cases q : j = i
    · rw [if_pos q] at e
      cases e
      exact ⟨a, by rw [q]; exact hs, y2.out, y2.mine, hw⟩
    · rw [if_neg q] at e
      obtain ⟨b, h1, h2⟩ := R.own j d' e
      have nb : b ≠ a := fun z => q (R.dis j i _ _ b e hi h1 (by rw [hs, z]))
      exact ⟨b, h1, h2.out, h2.mine, h2.own.heap (upd_ne nb)⟩
  · rw [getS_set il] at z1 z2
    by_cases q1 : j = i
    · by_cases q2 : k = i
      · exact fun _ _ => q1.trans q2.symm
      · rw [if_neg q2] at z2
        intro y3 y4
        rw [q1] at y3 ⊢
        exact R.dis i k _ _ b hi z2 y3 y4
    · rw [if_neg q1] at z1
      by_cases q2 : k = i
      · intro y3 y4
        rw [q2] at y4 ⊢
        exact R.dis j i _ _ b z1 hi y3 y4
      · rw [if_neg q2] at z2
        exact R.dis j k _ _ b z1 z2
theorem OwnAt.lst_inv {K : PySem.W.Frag} {cA : Nat → Option Addr} {B H : Hp} {a : Addr} {ds : List D} (h : OwnAt K cA B H a (.lst ds)) : ∃ vs, H a = some (.lst vs) ∧ RDs K cA B ds vs := by
  cases h with | lst h r => exact ⟨_, h, r⟩
/-- the frame of a method's call -/
theorem mt_frame {m : Mt} {i : Nat} {σ : L2.St} {H : Hp} {Q : VK} (hK : X.K = p.K) (h : tE p C (.mt m i es) σ H Q) {r : V → List V → Hp → VK → Prop}
    (hr : ∀ Z B H1 s1 vs ds d a, ZOk p Z → Rep Z B s1 σ H1 → getS s1 i = some (.o d) → σ[i]? = some (some (.ref a)) → OwnAt Z.K Z.cA B H1 a d → RDs Z.K Z.cA B ds vs → Post rV Z p.W B σ (mtD m i ds s1) Q → r (.ref a) vs H1 Q) : tBM X.K "list" r (tVar i) (tEs p C es) σ H Q := by
  obtain ⟨Z, B, s, zo, R, h⟩ := h
  have hZ : X.K = Z.K := hK.trans zo.K.symm
  unfold ev at h
  split at h
  · rename_i ds0 e0
    obtain ⟨a, y1, y2⟩ := R.own i _ e0
    obtain ⟨vs0, g1, g2⟩ := y2.own.lst_inv
    refine ⟨.ref a, y1, .inl ⟨rfl, vs0, .inl (.inl g1)⟩, ?_⟩
    refine ⟨Z, B, s, zo, R, Post.bind h fun ds s1 vs H1 B1 R1 sb1 r1 h1 => ?_⟩
    have h1' := h1
    unfold mtD at h1
    cases e1 : getS s1 i with
    | none => rw [e1] at h1; exact h1.elim
    | some w =>
      cases w with
      | d _ => rw [e1] at h1; exact h1.elim
      | o d =>
        obtain ⟨a', z1, z2⟩ := R1.own i d e1
        rw [y1] at z1
        cases z1
        exact hr Z B1 H1 s1 vs ds d a zo R1 e1 y1 z2.own r1 h1'
  · exact h.elim
theorem RDs.one {K : PySem.W.Frag} {cA : Nat → Option Addr} {B : Hp} {d : D} {vs : List V} (h : RDs K cA B [d] vs) : ∃ v, vs = [v] ∧ RD K cA B d v := by
  cases h with | cons h r => cases r; exact ⟨_, rfl, h⟩
theorem mtD_some {m : Mt} {i : Nat} {ds : List D} {s : S} {d : D} {Z : Zn} {B : Hp} {σ : L2.St} {Q : VK} (h : getS s i = some (.o d)) (h1 : Post rV Z p.W B σ (mtD m i ds s) Q) : ∃ d' r, mtf m d ds = some (d', r) ∧ Post rV Z p.W B σ (.ok r (s.set i (some (.o d')))) Q := by
  unfold mtD at h1
  rw [h] at h1
  simp only at h1
  cases e : mtf m d ds with
  | none => rw [e] at h1; exact h1.elim
  | some q =>
    obtain ⟨d', r⟩ := q
    rw [e] at h1
    exact ⟨d', r, rfl, h1⟩
theorem append_inv {d : D} {ds : List D} {d' : D} {r : AV} (h : appendD d ds = some (d', r)) : ∃ xs x, d = .lst xs ∧ ds = [x] ∧ xs.length < lim ∧ d' = .lst (xs ++ [x]) ∧ r = .d .non := by
  unfold appendD at h
  split at h
  · split at h
    · cases h; exact ⟨_, _, rfl, rfl, by assumption, rfl, rfl⟩
    · cases h
  · cases h
theorem extend_inv {d : D} {ds : List D} {d' : D} {r : AV} (h : extendD d ds = some (d', r)) : ∃ xs x, d = .lst xs ∧ ds = [.lst x] ∧ xs.length + x.length ≤ lim ∧ d' = .lst (xs ++ x) ∧ r = .d .non := by
  unfold extendD at h
  split at h
  · split at h
    · cases h; exact ⟨_, _, rfl, rfl, by assumption, rfl, rfl⟩
    · cases h
  · cases h
theorem pop0_inv {d : D} {ds : List D} {d' : D} {r : AV} (h : pop0D d ds = some (d', r)) : ∃ xs x, d = .lst xs ∧ ds = [] ∧ xs[xs.length - 1]? = some x ∧ d' = .lst xs.dropLast ∧ r = .d x := by
  unfold pop0D at h
  split at h
  · split at h
    · cases h; exact ⟨_, _, rfl, rfl, by assumption, rfl, rfl⟩
    · cases h
  · cases h
theorem pop1_inv {d : D} {ds : List D} {d' : D} {r : AV} (h : pop1D d ds = some (d', r)) : ∃ xs x k, d = .lst xs ∧ ds = [.int k] ∧ 0 ≤ k ∧ k < 2 ^ 62 ∧ xs[k.toNat]? = some x ∧ d' = .lst (xs.eraseIdx k.toNat) ∧ r = .d x := by
  unfold pop1D at h
  split at h
  · split at h
    · rename_i hk
      split at h
      · cases h; exact ⟨_, _, _, rfl, rfl, hk.1, hk.2, by assumption, rfl, rfl⟩
      · cases h
    · cases h
  · cases h
mutual
theorem nos_lay : ∀ d : D, d.nos = true → d.py.canLay0 = true ∧ d.plain = true
  | .non, _ => ⟨by unfold D.py PyData.canLay0; rfl, rfl⟩
  | .bl _, _ => ⟨by unfold D.py PyData.canLay0; rfl, rfl⟩
  | .int _, _ => ⟨by unfold D.py PyData.canLay0; rfl, rfl⟩
  | .tup ds, h => by
    unfold D.nos at h
    obtain ⟨h1, h2⟩ := noss_lay ds h
    unfold D.py PyData.canLay0 D.plain
    exact ⟨h1, h2⟩
  | .lst ds, h => by
    unfold D.nos at h
    obtain ⟨h1, h2⟩ := noss_lay ds h
    unfold D.py PyData.canLay0 D.plain
    exact ⟨h1, h2⟩
  | .str _, h => by cases h
  | .dct _ _, h => by cases h
  | .ins _ _, h => by cases h
  | .fz _, h => by cases h
  | .kt _, h => by cases h
theorem noss_lay : ∀ ds : List D, D.noss ds = true → PyData.canLayAll0 (D.pys ds) = true ∧ D.plains ds = true
  | [], _ => ⟨by unfold D.pys PyData.canLayAll0; rfl, by unfold D.plains; rfl⟩
  | d :: r, h => by
    unfold D.noss at h
    rw [Bool.and_eq_true] at h
    obtain ⟨h1, h2⟩ := nos_lay d h.1
    obtain ⟨h3, h4⟩ := noss_lay r h.2
    unfold D.pys PyData.canLayAll0 D.plains
    rw [h1, h2, h3, h4]
    exact ⟨rfl, rfl⟩
end
theorem nos_shaped {d : D} (h : d.nos = true) (hd : d.depth ≤ 60) : SeqAt.shaped d.py = true := by
  unfold SeqAt.shaped
  rw [(nos_lay d h).1, Bool.true_and]
  exact decide_eq_true (Nat.le_trans (py_depth d) (by omega))
theorem placeD_of {x : D} (hx : x.plain = true) : ∀ {ds : List D} {j0 j : Nat}, D.plains ds = true → placeD x j0 ds = some j → ∃ k z, j = j0 + k ∧ (D.pys ds)[k]? = some z ∧ PyData.eqv z x.py = true ∧ ∀ (m : Nat) (z' : PyData), m < k → (D.pys ds)[m]? = some z' → PyData.eqv z' x.py = false
  | [], _, _, _, e => by cases e
  | d :: r, j0, j, h, e => by
    unfold D.plains at h
    rw [Bool.and_eq_true] at h
    unfold placeD at e
    unfold D.pys
    by_cases q : d.eqv x = true
    · rw [if_pos q] at e
      cases e
      exact ⟨0, d.py, rfl, rfl, by rw [py_eqv d x h.1 hx]; exact q, fun m z' hm _ => absurd hm (Nat.not_lt_zero _)⟩
    · rw [if_neg q] at e
      obtain ⟨k, z, rfl, h1, h2, h3⟩ := placeD_of hx h.2 e
      refine ⟨k + 1, z, by omega, by rw [List.getElem?_cons_succ]; exact h1, h2, fun m z' hm hz => ?_⟩
      cases m with
      | zero =>
        rw [List.getElem?_cons_zero] at hz
        cases hz
        rw [py_eqv d x h.1 hx]
        exact Bool.eq_false_iff.mpr q
      | succ m =>
        rw [List.getElem?_cons_succ] at hz
        exact h3 m z' (by omega) hz
theorem index_inv {d : D} {ds : List D} {d' : D} {r : AV} (h : indexD d ds = some (d', r)) : ∃ xs x j, d = .lst xs ∧ ds = [x] ∧ (D.lst xs).nos = true ∧ (D.lst xs).depth ≤ 60 ∧ x.nos = true ∧ x.depth ≤ 60 ∧ placeD x 0 xs = some j ∧ d' = .lst xs ∧ r = .d (.int (j : Int)) := by
  unfold indexD at h
  split at h
  · split at h
    · rename_i hk
      simp only [Bool.and_eq_true, decide_eq_true_eq] at hk
      obtain ⟨⟨⟨h1, h2⟩, h3⟩, h4⟩ := hk
      split at h
      · cases h; exact ⟨_, _, _, rfl, rfl, h1, h2, h3, h4, by assumption, rfl, rfl⟩
      · cases h
    · cases h
  · cases h
theorem se_index {i : Nat} {m : Str} {pm apos : Pos} (hK : X.K = p.K) (hu : X.A.units + 65 < cLine) (hN : X.N[i]? = some m) (hv : Vis X.env.scope m) (hd1 : (m == ("__debug__" : Str)) = false) (hcd : (m == ("__classdict__" : Str)) = false) (ha : PA X [x] (tEs p C es))
    (hs : starEach [x] X.env = [(false, eval x X.env)]) (hline : (apos.endLine == pos.line) = true) : PE X (.Call (.Attribute (.Name m pm) "index" apos) [x] [] pos) (tE p C (.mt .index i es)) := by
  refine (pe_bm PySem.F.plainAttrs_list PySem.F.slot_list_index PySem.F.type_list_index (mt_indexD hu) (pe_var hN hv hd1 hcd) ha (by rfl) (by rw [hs]; rfl) hline hs (by rfl)).imp fun σ H Q h => mt_frame hK h fun Z B H1 s1 vs ds d a zo R1 e1 y1 ow r1 h1 => ?_
  have hZ : X.K = Z.K := hK.trans zo.K.symm
  obtain ⟨d', r, hm, h2⟩ := mtD_some e1 h1
  obtain ⟨ys, y, j, rfl, rfl, g1, g2, g3, g4, hp, rfl, rfl⟩ := index_inv hm
  obtain ⟨v, rfl, rv⟩ := r1.one
  obtain ⟨k, z, ej, q1, q2, q3⟩ := placeD_of (nos_lay y g3).2 (by have := (nos_lay _ g1).2; unfold D.plain at this; exact this) hp
  have dl : Dp X.K H1 (.ref a) (D.lst ys).py := by
    rw [hZ]
    exact ((RT.o ow : RT Z.K Z.cA B H1 _ _).toH R1.sub).dp (nos_lay _ g1).2
  have dy : Dp X.K H1 v y.py := by
    rw [hZ]
    exact (rv.mono R1.sub).dp (nos_lay _ g3).2
  have sl := nos_shaped g1 g2
  unfold D.py at dl sl
  refine ⟨a, v, y.py, D.pys ys, k, z, rfl, rfl, dl, dy, sl, nos_shaped g3 g4, q1, q2, q3, ?_⟩
  have es : s1.set i (some (.o (.lst ys))) = s1 := by
    apply List.ext_getElem?
    intro n
    rw [List.getElem?_set]
    by_cases hn : i = n
    · subst hn
      have hl := getS_lt e1
      rw [if_pos rfl, if_pos hl]
      unfold getS at e1
      cases e9 : s1[i]? with
      | none => rw [e9] at e1; cases e1
      | some w => rw [e9] at e1; rw [← e1]
    · rw [if_neg hn]
  rw [es, ej] at h2
  rw [Nat.zero_add] at h2
  exact h2 _ _ B R1 (Sub.refl B) (.d (.int _))
def rCountD (K : PySem.W.Frag) : V → List V → Hp → VK → Prop := fun x xs H Q => ∃ (a : Addr) (y : V) (d : PyData) (ds : List PyData), x = V.ref a ∧ xs = [y] ∧ Dp K H (V.ref a) (.list ds) ∧ Dp K H y d ∧ SeqAt.shaped (.list ds) = true ∧ SeqAt.shaped d = true ∧ Q (.int ((ds.countP fun z => PyData.eqv z d : Nat) : Int)) H
theorem mt_countD {X : Cx} (hu : X.A.units + 65 < cLine) : MtR X "list.count" (rCountD X.K) := by
  intro pins s σ H x xs v us Q I rx rxs h
  obtain ⟨a, y, d, ds, rfl, rfl, hl, hy, sl, sd, q⟩ := h
  cases rx
  cases rxs with
  | cons ry rt =>
    rename_i uy ut
    cases rt
    obtain ⟨bs, r1⟩ := Dp.reads I d y uy hy ry
    have hxs : PyData.canLayAll0 ds = true := SeqAt.canLay_of_shaped sl
    have hroom : X.A.units + 1 + min (PyData.depthAll ds) d.depth < cLine := room_in_shaped sd hu
    cases hl with
    | lst hs ha =>
      obtain ⟨its, rv, ⟨⟨cls, dd, data, sls⟩, n, ho, hc, hdn, hdt⟩, hlen⟩ := I.list hs
      simp only at hc hdt
      subst hc hdt
      obtain ⟨as, h4⟩ := Dp.readsAll I ds _ its ha rv
      have hmap : its.map (SeqAt.readOf s.heap) = ds := SeqAt.readsAll_map ds its as hxs h4
      refine call_meets PySem.F.slot_list_count ⟨_, ho, rfl⟩ PySem.F.entry_list_count (PySem.F.args_list_count_2 _ _)
        (SeqAt.list_countAt a its.toArray n dd sls uy (fun u => PyData.eqv (SeqAt.readOf s.heap u) d)) ⟨ho, SeqAt.items_eqAt (vs := its.toArray) (show ReadsAll s.heap its.toArray.toList ds as from h4) r1 hxs (SeqAt.canLay_of_shaped sd) hroom, ?_⟩
      have ec : its.toArray.toList.countP (fun u => PyData.eqv (SeqAt.readOf s.heap u) d) = ds.countP fun z => PyData.eqv z d := by
        rw [← hmap, List.countP_map]
        rfl
      refine ⟨.int ((ds.countP fun z => PyData.eqv z d : Nat) : Int), H, I.tok _, ⟨s.toks, ?_⟩, q⟩
      show Value.int ((its.toArray.toList.countP (fun u => PyData.eqv (SeqAt.readOf s.heap u) d) : Nat) : Int) s.toks = _
      rw [ec]
theorem count_inv {d : D} {ds : List D} {d' : D} {r : AV} (h : countD d ds = some (d', r)) : ∃ xs x, d = .lst xs ∧ ds = [x] ∧ (D.lst xs).nos = true ∧ (D.lst xs).depth ≤ 60 ∧ x.nos = true ∧ x.depth ≤ 60 ∧ d' = .lst xs ∧ r = .d (.int ((xs.countP fun z => z.eqv x : Nat) : Int)) := by
  unfold countD at h
  split at h
  · split at h
    · rename_i hk
      simp only [Bool.and_eq_true, decide_eq_true_eq] at hk
      obtain ⟨⟨⟨h1, h2⟩, h3⟩, h4⟩ := hk
      cases h
      exact ⟨_, _, rfl, rfl, h1, h2, h3, h4, rfl, rfl⟩
    · cases h
  · cases h
theorem countP_py {x : D} (hx : x.plain = true) : ∀ {ds : List D}, D.plains ds = true → ((D.pys ds).countP fun z => PyData.eqv z x.py) = ds.countP fun z => z.eqv x
  | [], _ => by unfold D.pys; rfl
  | d :: r, h => by
    unfold D.plains at h
    rw [Bool.and_eq_true] at h
    unfold D.pys
    rw [List.countP_cons, List.countP_cons, countP_py hx h.2, py_eqv d x h.1 hx]
theorem se_count {i : Nat} {m : Str} {pm apos : Pos} (hK : X.K = p.K) (hu : X.A.units + 65 < cLine) (hN : X.N[i]? = some m) (hv : Vis X.env.scope m) (hd1 : (m == ("__debug__" : Str)) = false) (hcd : (m == ("__classdict__" : Str)) = false) (ha : PA X [x] (tEs p C es))
    (hs : starEach [x] X.env = [(false, eval x X.env)]) (hline : (apos.endLine == pos.line) = true) : PE X (.Call (.Attribute (.Name m pm) "count" apos) [x] [] pos) (tE p C (.mt .count i es)) := by
  refine (pe_bm PySem.F.plainAttrs_list PySem.F.slot_list_count PySem.F.type_list_count (mt_countD hu) (pe_var hN hv hd1 hcd) ha (by rfl) (by rw [hs]; rfl) hline hs (by rfl)).imp fun σ H Q h => mt_frame hK h fun Z B H1 s1 vs ds d a zo R1 e1 y1 ow r1 h1 => ?_
  have hZ : X.K = Z.K := hK.trans zo.K.symm
  obtain ⟨d', r, hm, h2⟩ := mtD_some e1 h1
  obtain ⟨ys, y, rfl, rfl, g1, g2, g3, g4, rfl, rfl⟩ := count_inv hm
  obtain ⟨v, rfl, rv⟩ := r1.one
  have dl : Dp X.K H1 (.ref a) (D.lst ys).py := by
    rw [hZ]
    exact ((RT.o ow : RT Z.K Z.cA B H1 _ _).toH R1.sub).dp (nos_lay _ g1).2
  have dy : Dp X.K H1 v y.py := by
    rw [hZ]
    exact (rv.mono R1.sub).dp (nos_lay _ g3).2
  have sl := nos_shaped g1 g2
  unfold D.py at dl sl
  refine ⟨a, v, y.py, D.pys ys, rfl, rfl, dl, dy, sl, nos_shaped g3 g4, ?_⟩
  rw [countP_py (nos_lay y g3).2 (by have := (nos_lay _ g1).2; unfold D.plain at this; exact this)]
  have es : s1.set i (some (.o (.lst ys))) = s1 := by
    apply List.ext_getElem?
    intro n
    rw [List.getElem?_set]
    by_cases hn : i = n
    · subst hn
      have hl := getS_lt e1
      rw [if_pos rfl, if_pos hl]
      unfold getS at e1
      cases e9 : s1[i]? with
      | none => rw [e9] at e1; cases e1
      | some w => rw [e9] at e1; rw [← e1]
    · rw [if_neg hn]
  rw [es] at h2
  exact h2 _ _ B R1 (Sub.refl B) (.d (.int _))
theorem se_append {i : Nat} {m : Str} {pm apos : Pos} (hK : X.K = p.K) (hN : X.N[i]? = some m) (hv : Vis X.env.scope m) (hd1 : (m == ("__debug__" : Str)) = false) (hcd : (m == ("__classdict__" : Str)) = false) (ha : PA X [x] (tEs p C es))
    (hs : starEach [x] X.env = [(false, eval x X.env)]) (hline : (apos.endLine == pos.line) = true) : PE X (.Call (.Attribute (.Name m pm) "append" apos) [x] [] pos) (tE p C (.mt .append i es)) := by
  refine (pe_bm PySem.F.plainAttrs_list PySem.F.slot_list_append PySem.F.type_list_append mt_append (pe_var hN hv hd1 hcd) ha (by rfl) (by rw [hs]; rfl) hline hs (by rfl)).imp fun σ H Q h => mt_frame hK h fun Z B H1 s1 vs ds d a zo R1 e1 y1 ow r1 h1 => ?_
  obtain ⟨d', r, hm, h2⟩ := mtD_some e1 h1
  obtain ⟨ys, y, rfl, rfl, hl, rfl, rfl⟩ := append_inv hm
  obtain ⟨vs0, g1, g2⟩ := ow.lst_inv
  obtain ⟨v, rfl, rv⟩ := r1.one
  refine ⟨a, _, _, rfl, rfl, g1, lim_lt (by rw [← g2.length]; exact hl), ?_⟩
  exact h2 _ _ B (R1.change e1 y1 (.lst upd_same (g2.append (.cons rv .nil)))) (Sub.refl B) (.d .non)
theorem se_extend {i : Nat} {m : Str} {pm apos : Pos} (hK : X.K = p.K) (hN : X.N[i]? = some m) (hv : Vis X.env.scope m) (hd1 : (m == ("__debug__" : Str)) = false) (hcd : (m == ("__classdict__" : Str)) = false) (ha : PA X [x] (tEs p C es))
    (hs : starEach [x] X.env = [(false, eval x X.env)]) (hline : (apos.endLine == pos.line) = true) : PE X (.Call (.Attribute (.Name m pm) "extend" apos) [x] [] pos) (tE p C (.mt .extend i es)) := by
  refine (pe_bm PySem.F.plainAttrs_list PySem.F.slot_list_extend PySem.F.type_list_extend mt_extend (pe_var hN hv hd1 hcd) ha (by rfl) (by rw [hs]; rfl) hline hs (by rfl)).imp fun σ H Q h => mt_frame hK h fun Z B H1 s1 vs ds d a zo R1 e1 y1 ow r1 h1 => ?_
  obtain ⟨d', r, hm, h2⟩ := mtD_some e1 h1
  obtain ⟨ys, y, rfl, rfl, hl, rfl, rfl⟩ := extend_inv hm
  obtain ⟨vs0, g1, g2⟩ := ow.lst_inv
  obtain ⟨v, rfl, rv⟩ := r1.one
  cases rv with
  | lst q1 q2 =>
    refine ⟨a, _, _, _, rfl, rfl, g1, R1.sub _ _ q1, lim_le (by rw [← g2.length, ← q2.length]; exact hl), ?_⟩
    exact h2 _ _ B (R1.change e1 y1 (.lst upd_same (g2.append q2))) (Sub.refl B) (.d .non)
theorem se_pop1 {i : Nat} {m : Str} {pm apos : Pos} (hK : X.K = p.K) (hN : X.N[i]? = some m) (hv : Vis X.env.scope m) (hd1 : (m == ("__debug__" : Str)) = false) (hcd : (m == ("__classdict__" : Str)) = false) (ha : PA X [x] (tEs p C es))
    (hs : starEach [x] X.env = [(false, eval x X.env)]) (hline : (apos.endLine == pos.line) = true) : PE X (.Call (.Attribute (.Name m pm) "pop" apos) [x] [] pos) (tE p C (.mt .pop1 i es)) := by
  refine (pe_bm PySem.F.plainAttrs_list PySem.F.slot_list_pop PySem.F.type_list_pop mt_popAt (pe_var hN hv hd1 hcd) ha (by rfl) (by rw [hs]; rfl) hline hs (by rfl)).imp fun σ H Q h => mt_frame hK h fun Z B H1 s1 vs ds d a zo R1 e1 y1 ow r1 h1 => ?_
  obtain ⟨d', r, hm, h2⟩ := mtD_some e1 h1
  obtain ⟨ys, y, k, rfl, rfl, hk0, hk1, hx, rfl, rfl⟩ := pop1_inv hm
  obtain ⟨vs0, g1, g2⟩ := ow.lst_inv
  obtain ⟨v, rfl, rv⟩ := r1.one
  rw [rv.int_inv]
  obtain ⟨v, w1, w2⟩ := g2.get hx
  have hlt : k.toNat < vs0.length := (List.getElem?_eq_some_iff.mp w1).1
  refine ⟨a, _, k, k.toNat, v, rfl, rfl, g1, by omega, by omega, ?_, w1, ?_⟩
  · unfold seqIndex?
    have h0 : ¬ k < 0 := by omega
    have h3 : (decide (0 ≤ k) && decide (k < (vs0.length : Int))) = true := by
      rw [Bool.and_eq_true]
      exact ⟨decide_eq_true hk0, decide_eq_true (by omega)⟩
    simp only [if_neg h0]
    rw [if_pos h3]
  · exact h2 _ _ B (R1.change e1 y1 (.lst upd_same (g2.eraseIdx k.toNat))) (Sub.refl B) (.d w2)
theorem se_pop0 {i : Nat} {m : Str} {pm apos : Pos} (hK : X.K = p.K) (hN : X.N[i]? = some m) (hv : Vis X.env.scope m) (hd1 : (m == ("__debug__" : Str)) = false) (hcd : (m == ("__classdict__" : Str)) = false)
    (hline : (apos.endLine == pos.line) = true) : PE X (.Call (.Attribute (.Name m pm) "pop" apos) [] [] pos) (tE p C (.mt .pop0 i .nil)) := by
  refine (pe_bm0 PySem.F.plainAttrs_list PySem.F.slot_list_pop PySem.F.type_list_pop mt_pop (pe_var hN hv hd1 hcd) (by rfl) hline).imp fun σ H Q h => ?_
  obtain ⟨v, hv1, hty, hq⟩ := mt_frame (r := rPop) hK h fun Z B H1 s1 vs ds d a zo R1 e1 y1 ow r1 h1 => by
    obtain ⟨d', r, hm, h2⟩ := mtD_some e1 h1
    obtain ⟨ys, y, rfl, rfl, hx, rfl, rfl⟩ := pop0_inv hm
    obtain ⟨vs0, g1, g2⟩ := ow.lst_inv
    cases r1
    obtain ⟨v, w1, w2⟩ := g2.get hx
    refine ⟨a, _, v, rfl, rfl, g1, by rw [← g2.length]; exact w1, ?_⟩
    exact h2 _ _ B (R1.change e1 y1 (.lst upd_same g2.dropLast)) (Sub.refl B) (.d w2)
  refine ⟨v, hv1, hty, ?_⟩
  obtain ⟨Z, B, s, zo, R, hp⟩ := hq
  exact hp [] H B R (Sub.refl B) .nil
end
end FL

set_option maxHeartbeats 4000000
/-! FS, == and != of instances by their class's own ==. -/
namespace FL
open PySem PySem.Spec PyProof.Rows L2
/-- a class with an own ==, and no own != -/
structure EqAt (K : PySem.W.Frag) (C f : Addr) : Prop where
  eq : PySem.W.findIn K (.ref C) "__eq__" = some (some (.ref f))
  ne : PySem.W.findIn K (.ref C) "__ne__" = some (some (.builtin "object.__ne__"))
  fn : PySem.W.isFn K (.ref f) = true
  ob : PySem.W.mroIn K C (.type "object") = some true
section
variable {prog : Program} {w : World} {A : Around} {E : Value → Shared → Prop} {s : Shared} {K : PySem.W.Frag} {x y C f : Addr} {ox oy : Obj} {od od' : Option Obj}
theorem objNe_K (X : K.In s.heap) (I : PySem.W.InstAt s.heap x ox C od) (T : EqAt K C f) (hu : A.units < cLine) {Q : Fin → Shared → Prop}
    (h : wpAny (model prog w) A (call (.ref f) [.ref x, .ref y]) (fun v s' => ∃ b, v = .bool b ∧ Q (.done (.ret (.bool (!b)))) s') E s) :
    wpAny (model prog w) A (Builtin.«object.__ne__» ⟨[.ref x, .ref y], []⟩) Q E s := by
  unfold Builtin.«object.__ne__»
  repeat (first
    | with_reducible refine wpAny_cRoomFor hu ?_
    | (refine wpAny_bind (m := callSpecialIfBound? (.ref x) (Str.ofString "__eq__") [.ref y])
        (PySem.W.ifBound_K X I T.eq T.fn (wpAny_mono h (fun r s' hr => by
          obtain ⟨b, rfl, hq⟩ := hr
          repeat (first | exact hq | exact wpAny_pure hq | exact wpAny_truthy_bool hq | (refine wpAny_bind (m := truthy (.bool _)) (wpAny_truthy_bool ?_)) | wp_step)) fun _ _ e => e)))
    | wp_step)
theorem ifBound_ne (X : K.In s.heap) (I : PySem.W.InstAt s.heap x ox C od) (T : EqAt K C f) {Q : Option Value → Shared → Prop}
    (h : wpAny (model prog w) A (call (.builtin "object.__ne__") [.ref x, .ref y]) (fun v => Q (some v)) E s) : wpAny (model prog w) A (callSpecialIfBound? (.ref x) "__ne__" [.ref y]) Q E s := by
  simp only [callSpecialIfBound?, bindSpecialIfBound?]
  refine wpAny_holding (wpAny_bind (wpAny_bind (wpAny_bind (I.type.here ((PySem.W.looks_findIn X T.ne).here ?_)))))
  have hb : ∀ v, bindSpecial (.builtin "object.__ne__") v = pure (.builtin "object.__ne__", [v]) := fun v => PySem.F.cmp_object.ne.bind v
  simp only [hb]
  refine wpAny_bind (wpAny_askSetting (wpAny_ite ?_))
  have fin : wpAny (model prog w) A (call (.builtin "object.__ne__") ([.ref x] ++ [.ref y]) >>= fun v => pure (some v)) Q E s :=
    wpAny_bind (wpAny_mono h (fun v s' h' => wpAny_pure h') fun _ _ h' => h')
  split
  · exact wpAny_bind (wpAny_pure (wpAny_pure (by exact fin)))
  · exact wpAny_tryCatch (wpAny_bind (wpAny_pure (wpAny_pure (by exact fin))))
theorem ne_K (X : K.In s.heap) (I : PySem.W.InstAt s.heap x ox C od) (J : PySem.W.InstAt s.heap y oy C od') (T : EqAt K C f) (hu : A.units + 1 < cLine) {Q : Value → Shared → Prop}
    (h : wpAny (model prog w) A.in1 (call (.ref f) [.ref x, .ref y]) (fun v s' => ∃ b, v = .bool b ∧ Q (.bool (!b)) s') E s) : wpAny (model prog w) A (richCompare .NotEq (.ref x) (.ref y)) Q E s := by
  have inst : PySem.W.Looks (model prog w) s.heap (isInstance (.ref x) (.type "object")) true := by
    unfold isInstance
    exact I.type.andThen (PySem.W.looks_mroIn X T.ob)
  have one : wpAny (model prog w) A (tryCompare (.ref x) "__ne__" (.ref y)) (fun r s' => ∃ v, r = some v ∧ Q v s') E s := by
    unfold tryCompare
    refine wpAny_bind (ifBound_ne X I T (wpAny_call (codeAny_call_builtin PySem.F.cmp_object.ne.plain PySem.F.cmpEntry_ne (PySem.W.check_slot PySem.F.cmpKind_ne PySem.F.cmpSplit_ne inst (PySem.F.cmpArgs_ne _ _) (objNe_K (A := A.in1) X I T hu (wpAny_mono h (fun v s' hv => ?_) fun _ _ e => e))))))
    obtain ⟨b, rfl, hq⟩ := hv
    exact ⟨b, rfl, wpAny_pure ⟨_, rfl, hq⟩⟩
  unfold richCompare
  simp only [oneThing_ref]
  refine wpAny_holding (wpAny_bind (wpAny_cRoomFor (Nat.lt_of_succ_lt hu) ?_))
  refine wpAny_bind (I.type.here (wpAny_bind (J.type.here ?_)))
  rw [show (Value.ref C != Value.ref C) = false from by simp]
  simp only [Bool.false_eq_true, if_false]
  refine wpAny_bind (wpAny_pure ?_)
  simp only [Bool.false_eq_true, if_false]
  refine wpAny_bind (wpAny_mono one (fun r s' z => ?_) fun _ _ e => e)
  obtain ⟨v, rfl, hq⟩ := z
  exact wpAny_pure hq
end
section
variable {p : Pm} {C : Calls} {X : Cx} {pos : Pos} {x y : Expr} {a b : E} {c f k : Nat} {C0 fa : Addr} {fd : FuncData} {ps : List Str}
/-- what the comparison asks -/
def rEqm (p : Pm) (C : Calls) (ne : Bool) (c f : Nat) (C0 : Addr) : R2 := fun x y H Q => ∃ a b dx fs dx' fs', x = .ref a ∧ y = .ref b ∧ H a = some (.ins C0 dx fs) ∧ H b = some (.ins C0 dx' fs') ∧
  spF p.K p.cA p.xA C f false 2 [.ref a, .ref b] H (fun v H' => ∃ k, v = .bl k ∧ Q (.bl (ne != k)) H') E0
theorem noGd_in1 {A : Around} (h : NoGd A) : NoGd A.in1 := h
theorem op_eqI (T : EqAt X.K C0 fa) (F : FnG X.prog X.w X.K X.mg X.base k fa fd ps (spF p.K p.cA p.xA C f false 2)) (hr : Room (k + 1) X.A) (hgd : NoGd X.A) (hb : Binds X.K fd ps []) : OpR X (compareOp .Eq) (rEqm p C false c f C0) := by
  intro pins s σ H x y v u Q I rx ry h
  obtain ⟨a, b, dx, fs, dx', fs', rfl, rfl, ha, hb', hsp⟩ := h
  cases rx
  cases ry
  show wpAny (model X.prog X.w) X.A (richCompare .Eq (.ref a) (.ref b)) (EP X pins σ Q) X.xe s
  obtain ⟨mA, J, _⟩ := ins_get I.hok ha
  obtain ⟨mB, J', _⟩ := ins_get I.hok hb'
  obtain ⟨od, J, _⟩ := J.look
  obtain ⟨od', J', _⟩ := J'.look
  obtain ⟨m, hF⟩ := I.fr
  refine PySem.W.cmp_K (op := .Eq) (tb := .ref C0) hr.units0 hF I.ok.mod.kin J J'.type (by simp [PySem.W.notFirst]) T.eq T.fn ?_
  have hl := F.len _ _ _ _ hsp
  have r2 : Vals [V.ref a, V.ref b] [Value.ref a, Value.ref b] := .cons rfl (.cons rfl .nil)
  have bb := hb s [.ref a, .ref b] I.kIn (by rw [List.append_nil]; exact hl)
  rw [List.append_nil] at bb
  have g := F.go X.A X.stack s H ⟨[.ref a, .ref b], []⟩ [.ref a, .ref b] _ _ E0 (hr.mono (Nat.le_succ k)) hgd I.env0 bb r2 hsp
  refine wpAny_call (codeAny_mono g fun r' s' hq => ?_)
  have w := ends_go I (E := E0) (fun pins H s e s' I hq => passL pins σ H s e s' I hq) r' s' hq
  cases r' with
  | error _ => exact w
  | ok fl => cases fl with
    | ret u =>
      obtain ⟨z, H', I', rz, kk, ez, q⟩ := w
      subst ez
      cases rz
      have e : (false != kk) = kk := by cases kk <;> rfl
      rw [e] at q
      exact ⟨.bl kk, H', I', rfl, q⟩
    | _ => exact w.elim
theorem op_neI (T : EqAt X.K C0 fa) (F : FnG X.prog X.w X.K X.mg X.base k fa fd ps (spF p.K p.cA p.xA C f false 2)) (hr : Room (k + 1) X.A) (hgd : NoGd X.A) (hb : Binds X.K fd ps []) : OpR X (compareOp .NotEq) (rEqm p C true c f C0) := by
  intro pins s σ H x y v u Q I rx ry h
  obtain ⟨a, b, dx, fs, dx', fs', rfl, rfl, ha, hb', hsp⟩ := h
  cases rx
  cases ry
  show wpAny (model X.prog X.w) X.A (richCompare .NotEq (.ref a) (.ref b)) (EP X pins σ Q) X.xe s
  obtain ⟨mA, J, _⟩ := ins_get I.hok ha
  obtain ⟨mB, J', _⟩ := ins_get I.hok hb'
  obtain ⟨od, J, _⟩ := J.look
  obtain ⟨od', J', _⟩ := J'.look
  refine ne_K I.kIn J J' T (by have := hr.un; omega) ?_
  have hl := F.len _ _ _ _ hsp
  have r2 : Vals [V.ref a, V.ref b] [Value.ref a, Value.ref b] := .cons rfl (.cons rfl .nil)
  have bb := hb s [.ref a, .ref b] I.kIn (by rw [List.append_nil]; exact hl)
  rw [List.append_nil] at bb
  have g := F.go X.A.in1 X.stack s H ⟨[.ref a, .ref b], []⟩ [.ref a, .ref b] _ _ E0 hr.in1 (noGd_in1 hgd) I.env0.in1 bb r2 hsp
  refine wpAny_call (codeAny_mono g fun r' s' hq => ?_)
  have w := ends_go I (E := E0) (fun pins H s e s' I hq => passL pins σ H s e s' I hq) r' s' hq
  cases r' with
  | error _ => exact w
  | ok fl => cases fl with
    | ret u =>
      obtain ⟨z, H', I', rz, kk, ez, q⟩ := w
      subst ez
      cases rz
      have e : (true != kk) = !kk := by cases kk <;> rfl
      rw [e] at q
      exact ⟨kk, rfl, .bl (!kk), H', I', rfl, q⟩
    | _ => exact w.elim
theorem eqm_ok {ne : Bool} (hC : p.cA c = some C0) {σ : L2.St} {H : Hp} {Q : VK} (h : tE p C (.eqm ne c f a b) σ H Q) : tOp (rEqm p C ne c f C0) (tE p C a) (tE p C b) σ H Q := by
  obtain ⟨Z, B, s, zo, R, h⟩ := h
  refine ⟨Z, B, s, zo, R, Post.bind h fun x s1 v1 H1 B1 R1 sb1 r1 h1 => ?_⟩
  cases e : frz x s1 with
  | none => rw [e] at h1; exact h1.elim
  | some q =>
    obtain ⟨d1, s2⟩ := q
    rw [e] at h1
    obtain ⟨B2, sb2, R2, r2⟩ := frz_ok R1 r1 e
    refine ⟨Z, B2, s2, zo, R2, Post.bind (h1.mono sb2) fun y s3 v3 H3 B3 R3 sb3 r3 h3 => ?_⟩
    cases e3 : frz y s3 with
    | none => rw [e3] at h3; exact h3.elim
    | some q =>
      obtain ⟨d2, s4⟩ := q
      rw [e3] at h3
      obtain ⟨B4, sb4, R4, r4⟩ := frz_ok R3 r3 e3
      have r2' := (r2.mono sb3).mono sb4
      replace h3 := h3.mono sb4
      simp only at h3
      unfold eqmD at h3
      split at h3
      · rename_i c1 fs1 c2 fs2
        split at h3
        · rename_i hc
          obtain ⟨e1, e2⟩ := hc
          subst e1
          subst e2
          split at h3
          · rename_i kk ho ec
            rw [← zo.cA] at hC
            cases r2' with
            | ins g1 g2 g3 =>
              cases r4 with
              | ins g4 g5 g6 =>
                rw [hC] at g1 g4
                cases g1
                cases g4
                have tbk := R4.tab
                rw [zo.xA] at tbk
                refine ⟨_, _, _, _, _, _, rfl, rfl, R4.sub _ _ g2, R4.sub _ _ g5, B4, none, [.ins c2 fs1, .ins c2 fs2], [], [.ref _, .ref _], 0, R4.sub, tbk, rfl, rfl, rfl, ?_, rfl, ?_⟩
                · rw [← zo.K, ← zo.cA]
                  exact .cons (.ins hC g2 g3) (.cons (.ins hC g5 g6) .nil)
                · rw [ec]
                  intro v H' B' cf _ rv
                  rw [← zo.xA] at cf
                  refine ⟨kk, by cases rv with | d rv => exact rv.bl_inv, ?_⟩
                  exact h3 _ _ B' (R4.call cf) cf.sb (.d (.bl _))
          · exact h3.elim
        · exact h3.elim
      · exact h3.elim
theorem se_eq (hC : p.cA c = some C0) (T : EqAt X.K C0 fa) (F : FnG X.prog X.w X.K X.mg X.base k fa fd ps (spF p.K p.cA p.xA C f false 2)) (hr : Room (k + 1) X.A) (hgd : NoGd X.A) (hb : Binds X.K fd ps [])
    (ha : PE X x (tE p C a)) (hb' : PE X y (tE p C b)) (hm : behindInMarks .Eq y = false) : PE X (.Compare x [.Eq] [y] pos) (tE p C (.eqm false c f a b)) :=
  (pe_cmpR (op_eqI (c := c) T F hr hgd hb) ha hb' hm).imp fun σ H Q h => eqm_ok hC h
theorem se_ne (hC : p.cA c = some C0) (T : EqAt X.K C0 fa) (F : FnG X.prog X.w X.K X.mg X.base k fa fd ps (spF p.K p.cA p.xA C f false 2)) (hr : Room (k + 1) X.A) (hgd : NoGd X.A) (hb : Binds X.K fd ps [])
    (ha : PE X x (tE p C a)) (hb' : PE X y (tE p C b)) (hm : behindInMarks .NotEq y = false) : PE X (.Compare x [.NotEq] [y] pos) (tE p C (.eqm true c f a b)) :=
  (pe_cmpR (op_neI (c := c) T F hr hgd hb) ha hb' hm).imp fun σ H Q h => eqm_ok hC h
theorem st_eq (hC : p.cA c = some C0) (T : EqAt X.K C0 fa) (F : FnG X.prog X.w X.K X.mg X.base k fa fd ps (spF p.K p.cA p.xA C f false 2)) (hr : Room (k + 1) X.A) (hgd : NoGd X.A) (hb : Binds X.K fd ps [])
    (ha : PE X x (tE p C a)) (hb' : PE X y (tE p C b)) (hm : behindInMarks .Eq y = false) : PT X (.Compare x [.Eq] [y] pos) (tT p C (.eqm false c f a b)) :=
  (pt_cmpR (op_eqI (c := c) T F hr hgd hb) ha hb' hm).imp fun σ H Q h => eqm_ok hC (evB_of h)
theorem st_ne (hC : p.cA c = some C0) (T : EqAt X.K C0 fa) (F : FnG X.prog X.w X.K X.mg X.base k fa fd ps (spF p.K p.cA p.xA C f false 2)) (hr : Room (k + 1) X.A) (hgd : NoGd X.A) (hb : Binds X.K fd ps [])
    (ha : PE X x (tE p C a)) (hb' : PE X y (tE p C b)) (hm : behindInMarks .NotEq y = false) : PT X (.Compare x [.NotEq] [y] pos) (tT p C (.eqm true c f a b)) :=
  (pt_cmpR (op_neI (c := c) T F hr hgd hb) ha hb' hm).imp fun σ H Q h => eqm_ok hC (evB_of h)
end
end FL

set_option maxHeartbeats 4000000
/-! FS, part 7: what is walked. -/
namespace FL
open PySem PySem.Spec PyProof.Rows L2

/-! ### enumerate(v) of anything that begins -/
theorem meets_enum1 {v : Value} {o : Obj} {H : Heap → Prop} (B : Begins v o H) :
    Meets (Builtin.«enumerate.__new__» ⟨[.type "enumerate", v], []⟩) (fun _ R s => H s.heap ∧
      R (.ok (.ret (.ref (s.heap.push o).objs.size))) { s with heap := (s.heap.push o).push { cls := .type "enumerate", data := .fields #[.none, .bool false, .ref s.heap.objs.size, rawInt 0, .none, .none] } }) :=
  .of_wp fun prog w A R s h => by
    obtain ⟨hp, g, d, tk, os⟩ := s
    obtain ⟨h1, h⟩ := h
    have hsub := sub_enumerate
    have q1 : ∀ {A' : Around} {E : Value → Shared → Prop} {Q : Value → Shared → Prop}, Q (.ref hp.objs.size) ⟨hp.push o, g, d, tk, os⟩ → wpAny (model prog w) A' (pyIter v) Q E ⟨hp, g, d, tk, os⟩ := fun q => B.iter prog w _ _ ⟨hp, g, d, tk, os⟩ _ h1 q
    wp_walk using q1
    refine wpAny_stack_any fun st => wpAny_pure ?_
    split
    · rename_i c _ _ _ _ _
      cases (c == Value.type "enumerate") <;> (wp_walk using q1; exact ⟨_, rfl, h⟩)
    · wp_walk using q1
      exact ⟨_, rfl, h⟩
theorem call_enum1 {prog : Program} {w : World} {A : Around} {E : Value → Shared → Prop} {s : Shared} {v : Value} {o : Obj} {H : Heap → Prop} {Q : Value → Shared → Prop} (B : Begins v o H) (h1 : H s.heap)
    (h : ∀ h', IsEnum h' (s.heap.objs.size + 1) s.heap.objs.size 0 .none → h'.get? s.heap.objs.size = some o → (∀ b o, s.heap.get? b = some o → h'.get? b = some o) → Q (.ref (s.heap.objs.size + 1)) { s with heap := h' }) :
    wpAny (model prog w) A (call (.type "enumerate") [v]) Q E s := by
  refine callType_new F.called_enumerate (by decide) (F.typeCall_enumerate_1 _) (F.newCall_enumerate_1 _) (fun obj => F.args_object_init_2 obj _) F.entry_enumerate_new (meets_enum1 B) ⟨h1, ?_⟩
  have hz : (s.heap.push o).objs.size = s.heap.objs.size + 1 := Heap.size_push ..
  show _ ∧ _
  rw [hz]
  have he : IsEnum ((s.heap.push o).push { cls := .type "enumerate", data := .fields #[.none, .bool false, .ref s.heap.objs.size, rawInt 0, .none, .none] }) (s.heap.objs.size + 1) s.heap.objs.size 0 .none := by
    have := Heap.get?_push_size (s.heap.push o) (o := { cls := .type "enumerate", data := .fields #[.none, .bool false, .ref s.heap.objs.size, rawInt 0, .none, .none] }) rfl
    rw [hz] at this; exact this
  exact ⟨⟨_, he, rfl⟩, h _ he (Heap.get?_push_of_some _ (Heap.get?_push_size _ B.free)) fun b o x => Heap.get?_push_of_some _ (Heap.get?_push_of_some _ x)⟩

/-! ### a walk that gives new pairs -/
/-- its turns: while G holds there are n; at turn i a new pair of what YP says -/
def ItP (n : Nat) (G : Hp → Prop) (YP : Nat → V → V → Prop) : It :=
  ⟨fun i H => i < n ∧ G H, fun i H v H' => ∃ T x y, v = .ref T ∧ H T = none ∧ H' = upd H T (.tup [x, y]) ∧ YP i x y, fun i H => i = n ∧ G H⟩
theorem turn_pair {P : Program} {w : World} {K : PySem.W.Frag} {elts : List Expr} {kk : Nat} {tpos : Pos} {ι : Type} {it : Addr} {cells fp wr : List Addr} {n : Nat} {Sx : Nat → Heap → Prop} {Src : ι → Heap → Prop} {SR : ι → Prop} {Pt : ι → Nat → Value → Value → Prop} {St : ι → Nat → Heap → Prop} {G : Hp → Prop} {YP : Nat → V → V → Prop}
    (W : ∀ (A : Around) (src : ι), A.handled = none → SR src → GoesN P w A (.Tuple elts kk tpos) it fp wr n (fun i h₀ v h => ∃ T x y, v = .ref T ∧ h₀.objs.size ≤ T ∧ Pt src i x y ∧ h.IsTuple T #[x, y]) (St src))
    (hst : ∀ src i h, St src i h ↔ (Sx i h ∧ Src src h)) (hI : it ∈ cells) (hwr : ∀ b ∈ wr, b ∈ cells) (hobj : ∀ i h, Sx i h → ∀ b ∈ cells, ∃ o, h.get? b = some o ∧ ∀ v, o.data ≠ .cell v)
    (hkeep : ∀ i h h', Sx i h → (∀ b ∈ cells, ∀ o, h.get? b = some o → h'.get? b = some o) → Sx i h')
    (hself : ∀ (A : Around) (i : Nat) (s : Shared) (Q : Value → Shared → Prop) (E : Value → Shared → Prop), Sx i s.heap → Q (.ref it) s → wpAny (model P w) A (pyIter (.ref it)) Q E s)
    (hsrc : ∀ (X : Cx) (pins : List (Addr × Obj)) (σ : L2.St) (H : Hp) (s : Shared), X.K = K → Inv X pins σ H s → G H → ∃ src, SR src ∧ Src src s.heap ∧ ∀ i a b, Pt src i a b → ∃ x y, RelV x a ∧ RelV y b ∧ YP i x y) :
    Turn P w K (.Tuple elts kk tpos) (ItP n G YP) cells it Sx where
  mem := hI
  obj := hobj
  keep := hkeep
  item := by
    intro X hP hw hK hc i pins s σ H E I hf st hg
    obtain ⟨hi, g⟩ := hg
    obtain ⟨src, sr, so, hv⟩ := hsrc X pins σ H s hK I g
    subst hP hw hK
    refine (W X.A src (I.ok.hd hc) sr).goes i s _ E hi ((hst src i s.heap).mpr ⟨st, so⟩) fun v h' tk y st' hk htk => ?_
    obtain ⟨T, a, b, rfl, hT, hp, hTo⟩ := y
    obtain ⟨x, y, rx, ry, yp⟩ := hv i a b hp
    have new : ObjOk X.prog X.w (upd H T (.tup [x, y])) h' T (.tup [x, y]) := by
      obtain ⟨o, ho, hcl, m, hd⟩ := hTo
      exact ⟨by show 2 ≤ sizeLine; decide, [a, b], .cons rx (.cons ry .nil), o, ho, hcl, m, hd⟩
    have I1 : Inv X pins σ (upd H T (.tup [x, y])) { s with heap := h', toks := tk } := I.turnedNew (ch := cells) (fun b o hb e => hk b o (fun z => hb (hwr b z)) e) hf hT new
    refine ⟨.ref T, _, I1, rfl, ⟨T, x, y, rfl, I.hok.fresh hT, rfl, yp⟩, ((hst src _ _).mp st').1, fun b hb => ?_⟩
    obtain ⟨o, ho, _⟩ := hobj i s.heap st b hb
    rw [upd_ne (Nat.ne_of_lt (Nat.lt_of_lt_of_le (Heap.lt_size ho) hT))]
    exact (hf b hb).1
  done := by
    intro X hP hw hK hc i pins s σ H E I hf st hg
    obtain ⟨hi, g⟩ := hg
    obtain ⟨src, sr, so, hv⟩ := hsrc X pins σ H s hK I g
    subst hP hw hK hi
    exact (W X.A src (I.ok.hd hc) sr).stops s _ E ((hst src _ s.heap).mpr ⟨st, so⟩) fun h' tk hk htk => I.turnedL (ch := cells) (fun b o hb e => hk b o (fun z => hb (hwr b z)) e) hf
  self := hself

/-! ### lists and tuples alike -/
def SqX (k : Bool) (K : PySem.W.Frag) (H : Hp) (a : Addr) (xs : List V) : Prop := if k = true then SqL K H a xs else SqT K H a xs
def SrcX (k : Bool) (a : Addr) (items : Array Value) (h : Heap) : Prop := if k = true then h.IsList a items else h.IsTuple a items
def itrX (k : Bool) (it a : Addr) (i : Nat) (h : Heap) : Prop := if k = true then h.IsListIter it a i else h.IsTupleIter it a i
def objX (k : Bool) (a : Addr) : Obj := if k = true then { cls := .type "list_iterator", data := .fields #[.ref a, .int 0 0] } else { cls := .type "tuple_iterator", data := .fields #[.ref a, .int 0 0] }
theorem itrX_at {k : Bool} {it a : Addr} {i : Nat} {h h' : Heap} (x : itrX k it a i h) (q : ∀ o, h.get? it = some o → h'.get? it = some o) : itrX k it a i h' := by
  unfold itrX at x ⊢
  cases k with
  | true => exact Heap.IsListIter.at x q
  | false => exact Heap.IsTupleIter.at x q
theorem itrX_obj {k : Bool} {it a : Addr} {i : Nat} {h : Heap} (x : itrX k it a i h) : ∃ o, h.get? it = some o ∧ ∀ v, o.data ≠ .cell v := by
  unfold itrX at x
  cases k with
  | true => obtain ⟨o, e, c, d⟩ := x; exact ⟨o, e, fun v z => by rw [d] at z; cases z⟩
  | false => obtain ⟨o, e, c, d⟩ := x; exact ⟨o, e, fun v z => by rw [d] at z; cases z⟩
theorem itrX_of {k : Bool} {it a : Addr} {h : Heap} (e : h.get? it = some (objX k a)) : itrX k it a 0 h := by
  unfold itrX
  cases k with
  | true => exact ⟨_, e, rfl, rfl⟩
  | false => exact ⟨_, e, rfl, rfl⟩
theorem drawsX {P : Program} {w : World} {A : Around} (hh : A.handled = none) (k : Bool) (it a : Addr) (hne : a ≠ it) (items : Array Value) :
    Draws P w A it [it, a] items.size (fun i v => items[i]? = some v) (fun i h => itrX k it a i h ∧ SrcX k a items h) := by
  cases k with
  | true => exact Draws.list hh it a hne items
  | false => exact Draws.tuple hh it a hne items
theorem beginsX (k : Bool) (a : Addr) (items : Array Value) : Begins (.ref a) (objX k a) (SrcX k a items) := by
  cases k with
  | true => exact begins_list a items
  | false => exact begins_tuple a items
theorem Inv.seqX {X : Cx} {pins : List (Addr × Obj)} {σ : L2.St} {H : Hp} {s : Shared} {k : Bool} {a : Addr} {xs : List V} (I : Inv X pins σ H s) (h : SqX k X.K H a xs) : ∃ its : List Value, Vals xs its ∧ SrcX k a its.toArray s.heap ∧ a < s.heap.objs.size := by
  unfold SqX at h
  cases k with
  | true =>
    obtain ⟨its, r, p, _⟩ := I.list h
    obtain ⟨o, n, e, _⟩ := id p
    exact ⟨its, r, p.isList, Heap.lt_size e⟩
  | false =>
    obtain ⟨its, r, p, _⟩ := I.tuple h
    obtain ⟨o, e, _⟩ := id p
    exact ⟨its, r, p, Heap.lt_size e⟩
theorem SqX.sub {k : Bool} {K : PySem.W.Frag} {B H : Hp} {a : Addr} {xs : List V} (s : Sub B H) (h : SqX k K B a xs) : SqX k K H a xs := by
  unfold SqX at h ⊢
  cases k with
  | true => exact s.sqL h
  | false => exact s.sqT h

/-! ### enumerate -/
theorem turn_enumX {P : Program} {w : World} {K : PySem.W.Frag} {elts : List Expr} {kk : Nat} {tpos : Pos} (k : Bool) (a e it : Addr) (xs : List V) (h1 : e ≠ it) (h2 : e ≠ a) (h3 : a ≠ it) :
    Turn P w K (.Tuple elts kk tpos) (ItP xs.length (fun H => SqX k K H a xs) (fun i x y => x = .int (i : Int) ∧ xs[i]? = some y)) [e, it] e (fun i h => (∃ old, IsEnum h e it (0 + (i : Int)) old) ∧ itrX k it a i h) := by
  refine turn_pair (ι := Array Value) (fp := [e, it, a]) (wr := [e, it]) (Src := SrcX k a) (SR := fun items => items.size = xs.length) (Pt := fun items i x y => (∃ t, x = .int (i : Int) t) ∧ items[i]? = some y) (St := fun items i h => (∃ old, IsEnum h e it (0 + (i : Int)) old) ∧ (itrX k it a i h ∧ SrcX k a items h))
    (fun A items hh sr => ?_) (fun items i h => ⟨fun z => ⟨⟨z.1, z.2.1⟩, z.2.2⟩, fun z => ⟨z.1.1, z.1.2, z.2⟩⟩) (by simp) (fun b z => z) (fun i h st b hb => ?_) (fun i h h' st hk => ?_) (fun A i s Q E st h => ?_) (fun X pins σ H s hK I g => ?_)
  · have D := drawsX (P := P) (w := w) (A := A.in1) (by first | exact hh | (show A.in1.handled = none; exact hh)) k it a h3 items
    have W := GoesN.enumFrom (elts := elts) (x1 := kk) (pos := tpos) 0 D e h1 (by simp; exact ⟨h1, h2⟩) (by simp)
    rw [sr] at W
    refine W.mono fun i h₀ v h hi y => ?_
    obtain ⟨T, t, x, ev, hT, hx, ho⟩ := y
    rw [Int.zero_add] at ho
    exact ⟨T, _, x, ev, hT, ⟨⟨t, rfl⟩, hx⟩, ho⟩
  · have e' : b = e ∨ b = it := by simpa using hb
    obtain ⟨⟨old, he⟩, hi⟩ := st
    rcases e' with z | z
    · rw [z]; exact ⟨_, he, fun v q => nomatch q⟩
    · rw [z]; exact itrX_obj hi
  · obtain ⟨⟨old, he⟩, hi⟩ := st
    exact ⟨⟨old, hk e (by simp) _ he⟩, itrX_at hi fun o q => hk it (by simp) o q⟩
  · obtain ⟨⟨old, he⟩, _⟩ := st
    exact wpAny_pyIter_enum he h
  · subst hK
    obtain ⟨its, r, so, _⟩ := Inv.seqX I g
    refine ⟨its.toArray, by rw [List.size_toArray]; exact r.length.symm, so, fun i x y hp => ?_⟩
    obtain ⟨⟨t, rfl⟩, hy⟩ := hp
    have hy' : its[i]? = some y := by simpa using hy
    have hl : i < xs.length := by rw [r.length]; exact (List.getElem?_eq_some_iff.mp hy').1
    obtain ⟨u, hu, ru⟩ := r.get (List.getElem?_eq_getElem hl)
    rw [hu] at hy'
    cases hy'
    exact ⟨.int (i : Int), xs[i], ⟨t, rfl⟩, ru, rfl, List.getElem?_eq_getElem hl⟩
section
variable {X : Cx} {x y : Expr} {p pos tpos : Pos} {elts : List Expr} {kk : Nat} {ta : TA}
def iEnumX (K : PySem.W.Frag) (ta : TA) : TI := fun σ H R => ta σ H fun vs H1 => ∃ k a xs, vs = [.ref a] ∧ SqX k K H1 a xs ∧ R (ItP xs.length (fun H => SqX k K H a xs) (fun i x y => x = .int (i : Int) ∧ xs[i]? = some y)) H1
theorem pi_enumX (hg : Gl X "enumerate") (hm : X.mg "enumerate" = none) (ha : PA X [x] ta) (hs : starEach [x] X.env = [(false, eval x X.env)]) : PI X (.Tuple elts kk tpos) (.Call (.Name "enumerate" p) [x] [] pos) (iEnumX X.K ta) := by
  refine ⟨fun pins s σ H R I h => ?_⟩
  refine Call_ (ld_blt I hg hm boot_enumerate (PyProof.Rows.callWith_type1 (thn (ha.run pos pins s σ H _ I h) fun us s1 ⟨vs, H1, I1, r1, q1⟩ => ?_) hs rfl))
  obtain ⟨k, a, xs, ex, hq, q⟩ := q1
  subst ex
  obtain ⟨u, rfl, ru⟩ := vals1 r1
  cases ru
  obtain ⟨its, rv, so, hlt⟩ := Inv.seqX I1 hq
  refine call_enum1 (beginsX k a its.toArray) so fun h' he hit hk => wpAny_pyIter_enum he ?_
  have I2 : Inv X pins σ H1 { s1 with heap := h' } := I1.kept (t' := s1.toks) hk
  have n1 : s1.heap.objs.size + 1 ≠ s1.heap.objs.size := Nat.succ_ne_self _
  have n2 : s1.heap.objs.size + 1 ≠ a := Nat.ne_of_gt (Nat.lt_succ_of_lt hlt)
  refine ⟨s1.heap.objs.size + 1, [s1.heap.objs.size + 1, s1.heap.objs.size], _, _, H1, rfl, I2, turn_enumX k a (s1.heap.objs.size + 1) s1.heap.objs.size xs n1 n2 (Nat.ne_of_lt hlt), ⟨⟨.none, by simpa using he⟩, itrX_of hit⟩, fun b hb => ?_, q⟩
  have hle : s1.heap.objs.size ≤ b := by
    have e' : b = s1.heap.objs.size + 1 ∨ b = s1.heap.objs.size := by simpa using hb
    rcases e' with z | z
    · rw [z]; exact Nat.le_add_right _ _
    · rw [z]; exact Nat.le_refl _
  exact I1.fpOk hle (I1.hok.fresh hle)
end

/-! ### zip -/
theorem turn_zipX {P : Program} {w : World} {K : PySem.W.Frag} {elts : List Expr} {kk : Nat} {tpos : Pos} (k k2 : Bool) (a b N : Addr) (xs ys : List V) (ha : a < N) (hb : b < N) :
    Turn P w K (.Tuple elts kk tpos) (ItP (min xs.length ys.length) (fun H => SqX k K H a xs ∧ SqX k2 K H b ys) (fun i x y => xs[i]? = some x ∧ ys[i]? = some y)) [N + 4, N + 2, N + 3, N, N + 1] (N + 4)
      (fun i h => (IsZip h (N + 4) (N + 2) (N + 3) .none ∧ IsTupOf2 h (N + 2) (.ref N) (.ref (N + 1)) ∧ ∃ a1 a2, IsTupOf2 h (N + 3) a1 a2) ∧ itrX k N a i h ∧ itrX k2 (N + 1) b i h) := by
  have S : ZipSep2 (N + 4) (N + 2) (N + 3) N (N + 1) [N, a] [N + 1, b] := zip_sep2 (fp1 := [a]) (fp2 := [b]) (fun c hc => by rw [List.mem_singleton] at hc; rw [hc]; exact ha) (fun c hc => by rw [List.mem_singleton] at hc; rw [hc]; exact hb)
  have nb : b ≠ N + 1 := Nat.ne_of_lt (Nat.lt_succ_of_lt hb)
  refine turn_pair (ι := Array Value × Array Value) (fp := (N + 4) :: (N + 2) :: (N + 3) :: ([N, a] ++ [N + 1, b])) (wr := [N + 4, N + 3, N, N + 1]) (Src := fun q h => SrcX k a q.1 h ∧ SrcX k2 b q.2 h) (SR := fun q => q.1.size = xs.length ∧ q.2.size = ys.length) (Pt := fun q i x y => q.1[i]? = some x ∧ q.2[i]? = some y)
    (St := fun q i h => IsZip h (N + 4) (N + 2) (N + 3) .none ∧ IsTupOf2 h (N + 2) (.ref N) (.ref (N + 1)) ∧ (∃ a1 a2, IsTupOf2 h (N + 3) a1 a2) ∧ (itrX k N a i h ∧ SrcX k a q.1 h) ∧ (itrX k2 (N + 1) b i h ∧ SrcX k2 b q.2 h))
    (fun A q hh sr => ?_) (fun q i h => ⟨fun ⟨z1, z2, z3, z4, z5⟩ => ⟨⟨⟨z1, z2, z3⟩, z4.1, z5.1⟩, z4.2, z5.2⟩, fun ⟨⟨⟨z1, z2, z3⟩, z4, z5⟩, z6, z7⟩ => ⟨z1, z2, z3, ⟨z4, z6⟩, z5, z7⟩⟩) (by simp) (fun c hc => ?_) (fun i h st c hc => ?_) (fun i h h' st hk => ?_) (fun A i s Q E st h => ?_) (fun X pins σ H s hK I g => ?_)
  · have hh1 : A.in1.handled = none := by first | exact hh | (show A.in1.handled = none; exact hh)
    have W := GoesN.zip2 (elts := elts) (x1 := kk) (pos := tpos) S (drawsX (P := P) (w := w) (A := A.in1) hh1 k N a (Nat.ne_of_lt ha) q.1) (drawsX (P := P) (w := w) (A := A.in1) hh1 k2 (N + 1) b nb q.2)
    rw [sr.1, sr.2] at W
    refine W.mono fun i h₀ v h hi y => ?_
    obtain ⟨T, x, y, ev, hT, hx, hy, ho⟩ := y
    exact ⟨T, x, y, ev, hT, ⟨hx, hy⟩, ho⟩
  · have e' : c = N + 4 ∨ c = N + 3 ∨ c = N ∨ c = N + 1 := by simpa using hc
    rcases e' with z | z | z | z <;> simp [z]
  · obtain ⟨⟨hz, hTI, ⟨x, y, hTO⟩⟩, h1, h2⟩ := st
    have e' : c = N + 4 ∨ c = N + 2 ∨ c = N + 3 ∨ c = N ∨ c = N + 1 := by simpa using hc
    rcases e' with q | q | q | q | q
    · rw [q]; exact ⟨_, hz, fun v q => nomatch q⟩
    · rw [q]; exact ⟨_, hTI, fun v q => nomatch q⟩
    · rw [q]; exact ⟨_, hTO, fun v q => nomatch q⟩
    · rw [q]; exact itrX_obj h1
    · rw [q]; exact itrX_obj h2
  · obtain ⟨⟨hz, hTI, ⟨x, y, hTO⟩⟩, h1, h2⟩ := st
    exact ⟨⟨hk _ (by simp) _ hz, hk _ (by simp) _ hTI, ⟨x, y, hk _ (by simp) _ hTO⟩⟩, itrX_at h1 fun o q => hk _ (by simp) o q, itrX_at h2 fun o q => hk _ (by simp) o q⟩
  · exact wpAny_pyIter_zip st.1.1 h
  · subst hK
    obtain ⟨its, r, so, _⟩ := Inv.seqX I g.1
    obtain ⟨its2, r2, so2, _⟩ := Inv.seqX I g.2
    refine ⟨(its.toArray, its2.toArray), ⟨by rw [List.size_toArray]; exact r.length.symm, by rw [List.size_toArray]; exact r2.length.symm⟩, ⟨so, so2⟩, fun i x y hp => ?_⟩
    have hx' : its[i]? = some x := by simpa using hp.1
    have hy' : its2[i]? = some y := by simpa using hp.2
    have hl : i < xs.length := by rw [r.length]; exact (List.getElem?_eq_some_iff.mp hx').1
    have hl2 : i < ys.length := by rw [r2.length]; exact (List.getElem?_eq_some_iff.mp hy').1
    obtain ⟨u, hu, ru⟩ := r.get (List.getElem?_eq_getElem hl)
    obtain ⟨u2, hu2, ru2⟩ := r2.get (List.getElem?_eq_getElem hl2)
    rw [hu] at hx'
    cases hx'
    rw [hu2] at hy'
    cases hy'
    exact ⟨xs[i], ys[i], ru, ru2, List.getElem?_eq_getElem hl, List.getElem?_eq_getElem hl2⟩
section
variable {X : Cx} {x y : Expr} {p pos tpos : Pos} {elts : List Expr} {kk : Nat} {ta : TA}
def iZipX (K : PySem.W.Frag) (ta : TA) : TI := fun σ H R => ta σ H fun vs H1 => ∃ k k2 a b xs ys, vs = [.ref a, .ref b] ∧ SqX k K H1 a xs ∧ SqX k2 K H1 b ys ∧ R (ItP (min xs.length ys.length) (fun H => SqX k K H a xs ∧ SqX k2 K H b ys) (fun i x y => xs[i]? = some x ∧ ys[i]? = some y)) H1
theorem pi_zipX (hg : Gl X "zip") (hm : X.mg "zip" = none) (ha : PA X [x, y] ta) (hs : starEach [x, y] X.env = (false, eval x X.env) :: starEach [y] X.env) (hpl : (backTo pos (starEach [y] X.env)).any (·.1) = false) : PI X (.Tuple elts kk tpos) (.Call (.Name "zip" p) [x, y] [] pos) (iZipX X.K ta) := by
  refine ⟨fun pins s σ H R I h => ?_⟩
  refine Call_ (ld_blt I hg hm PyProof.Rows.boot_zip (PyProof.Rows.callWith_type1 (thn (ha.run pos pins s σ H _ I h) fun us s1 ⟨vs, H1, I1, r1, q1⟩ => ?_) hs hpl))
  obtain ⟨k, k2, a, b, xs, ys, ex, hqx, hqy, q⟩ := q1
  subst ex
  obtain ⟨u1, u2, rfl, r1, r2⟩ := vals2 r1
  cases r1
  cases r2
  obtain ⟨its, rv, so, hlt⟩ := Inv.seqX I1 hqx
  obtain ⟨its2, rv2, so2, hlt2⟩ := Inv.seqX I1 hqy
  refine zip_begins2 (beginsX k a its.toArray) (beginsX k2 b its2.toArray) so so2 fun h' hz hTI hTO h1 h2 hsz hk => wpAny_pyIter_zip hz ?_
  have I2 : Inv X pins σ H1 { s1 with heap := h' } := I1.kept (t' := s1.toks) hk
  refine ⟨s1.heap.objs.size + 4, [s1.heap.objs.size + 4, s1.heap.objs.size + 2, s1.heap.objs.size + 3, s1.heap.objs.size, s1.heap.objs.size + 1], _, _, H1, rfl, I2, turn_zipX k k2 a b s1.heap.objs.size xs ys hlt hlt2, ⟨⟨hz, hTI, ⟨_, _, hTO⟩⟩, itrX_of h1, itrX_of h2⟩, fun c hc => ?_, q⟩
  have hle : s1.heap.objs.size ≤ c := by
    have e' : c = s1.heap.objs.size + 4 ∨ c = s1.heap.objs.size + 2 ∨ c = s1.heap.objs.size + 3 ∨ c = s1.heap.objs.size ∨ c = s1.heap.objs.size + 1 := by simpa using hc
    rcases e' with z | z | z | z | z
    · rw [z]; exact Nat.le_add_right _ _
    · rw [z]; exact Nat.le_add_right _ _
    · rw [z]; exact Nat.le_add_right _ _
    · rw [z]; exact Nat.le_refl _
    · rw [z]; exact Nat.le_add_right _ _
  exact I1.fpOk hle (I1.hok.fresh hle)

/-! ### a list, a tuple -/
def iSeqX (K : PySem.W.Frag) (tl : TE) : TI := fun σ H R => tl σ H fun v H1 => ∃ a, v = .ref a ∧ ((∃ xs, SqL K H1 a xs) ∧ R (Itl K a) H1 ∨ (∃ xs, SqT K H1 a xs) ∧ R (Itt K a) H1)
theorem pi_seqX {tg : Expr} {tl : TE} (hl : PE X x tl) : PI X tg x (iSeqX X.K tl) := by
  refine ⟨fun pins s σ H R I h => ?_⟩
  refine thn (hl.run pins s σ H _ I h) fun v s1 ⟨y, H1, I1, r1, q1⟩ => ?_
  obtain ⟨a, e, q⟩ := q1
  subst e
  cases r1
  have fin : ∀ (o : Obj) (J : It) (tn : Nat → Heap → Prop), Turn X.prog X.w X.K tg J [s1.heap.objs.size] s1.heap.objs.size tn → tn 0 (s1.heap.push o) → R J H1 → PIE X pins σ tg R (.ref s1.heap.objs.size) { s1 with heap := s1.heap.push o } := fun o J tn T t0 hr => by
    refine ⟨s1.heap.objs.size, [s1.heap.objs.size], tn, J, H1, rfl, I1.kept (t' := s1.toks) fun b o e => Heap.get?_push_of_some _ e, T, t0, fun b hb => ?_, hr⟩
    rw [List.mem_singleton] at hb
    rw [hb]
    exact I1.fpOk (Nat.le_refl _) (I1.hok.fresh (Nat.le_refl _))
  rcases q with ⟨⟨xs, hq⟩, q⟩ | ⟨⟨xs, hq⟩, q⟩
  · obtain ⟨its, _, pl, _⟩ := I1.list hq
    exact wpAny_pyIter_list pl.isList (fin _ _ _ (turn_list a _) ⟨_, Heap.get?_push_size _ rfl, rfl, rfl⟩ q)
  · obtain ⟨its, _, pt, _⟩ := I1.tuple hq
    exact wpAny_pyIter_tuple pt (fin _ _ _ (turn_tuple a _) ⟨_, Heap.get?_push_size _ rfl, rfl, rfl⟩ q)
end
end FL

set_option maxHeartbeats 4000000
/-! FS, part 8: what is walked, targets, comprehensions. -/
namespace FL
open PySem PySem.Spec PyProof.Rows L2

/-- an item that has come -/
inductive Yld (K : PySem.W.Frag) (cA : Nat → Option Addr) (B H : Hp) : D → V → Hp → Prop where
  | same {d : D} {v : V} : RD K cA B d v → Yld K cA B H d v H
  | pair {T : Addr} {d1 d2 : D} {u w : V} : H T = none → RD K cA B d1 u → RD K cA B d2 w → Yld K cA B H (.tup [d1, d2]) (.ref T) (upd H T (.tup [u, w]))
/-- such data are walked -/
structure Walk (K : PySem.W.Frag) (cA : Nat → Option Addr) (B : Hp) (J : It) (ds : List D) : Prop where
  stop : ∀ H, Sub B H → J.stop ds.length H
  go : ∀ i H, Sub B H → i < ds.length → J.go i H
  yld : ∀ i H x H' d, Sub B H → J.yld i H x H' → ds[i]? = some d → Yld K cA B H d x H'
theorem Yld.mono {K : PySem.W.Frag} {cA : Nat → Option Addr} {B B' H : Hp} {d : D} {x : V} {H' : Hp} (sb : Sub B B') (y : Yld K cA B H d x H') : Yld K cA B' H d x H' := by
  cases y with
  | same h => exact .same (h.mono sb)
  | pair h1 h2 h3 => exact .pair h1 (h2.mono sb) (h3.mono sb)
theorem Walk.mono {K : PySem.W.Frag} {cA : Nat → Option Addr} {B B' : Hp} {J : It} {ds : List D} (sb : Sub B B') (w : Walk K cA B J ds) : Walk K cA B' J ds :=
  ⟨fun H s => w.stop H (sb.trans s), fun i H s h => w.go i H (sb.trans s) h, fun i H x H' d s y e => (w.yld i H x H' d (sb.trans s) y e).mono sb⟩
abbrev rI : Rl (List D) It := fun Z B _ _ _ a b => Walk Z.K Z.cA B b a
abbrev tI (p : Pm) (C : Calls) (it : I) : TI := tX rI p (evi C p.lk it)
section
variable {Z : Zn} {B H H' : Hp} {s : S} {σ : L2.St} {d : D} {x : V}
theorem Yld.rep (R : Rep Z B s σ H) (y : Yld Z.K Z.cA B H d x H') : ∃ B', Sub B B' ∧ Rep Z B' s σ H' ∧ RD Z.K Z.cA B' d x := by
  cases y with
  | same h => exact ⟨B, Sub.refl B, R, h⟩
  | @pair T d1 d2 u w h1 h2 h3 =>
    have sb : Sub B (upd B T (.tup [u, w])) := Sub.up (R.sub.nn h1)
    exact ⟨_, sb, R.lay (o := .tup [u, w]) h1 (fun _ z => nomatch z), .tup upd_same (.cons (h2.mono sb) (.cons (h3.mono sb) .nil))⟩
end
theorem walk_list {K : PySem.W.Frag} {cA : Nat → Option Addr} {B : Hp} {a : Addr} {vs : List V} {ds : List D} (h : SqL K B a vs) (r : RDs K cA B ds vs) : Walk K cA B (Itl K a) ds where
  stop := fun H sb => ⟨vs, sb.sqL h, by rw [r.length]; exact Nat.le_refl _⟩
  go := fun i H sb hi => by
    obtain ⟨v, e, _⟩ := r.get (List.getElem?_eq_getElem hi)
    exact ⟨vs, v, sb.sqL h, e⟩
  yld := fun i H x H' d sb y e => by
    obtain ⟨rfl, q⟩ := y
    obtain ⟨v, e', r'⟩ := r.get e
    have := q vs (sb.sqL h)
    rw [e'] at this
    cases this
    exact .same r'
theorem walk_tup {K : PySem.W.Frag} {cA : Nat → Option Addr} {B : Hp} {a : Addr} {vs : List V} {ds : List D} (h : SqT K B a vs) (r : RDs K cA B ds vs) : Walk K cA B (Itt K a) ds where
  stop := fun H sb => ⟨vs, sb.sqT h, by rw [r.length]; exact Nat.le_refl _⟩
  go := fun i H sb hi => by
    obtain ⟨v, e, _⟩ := r.get (List.getElem?_eq_getElem hi)
    exact ⟨vs, v, sb.sqT h, e⟩
  yld := fun i H x H' d sb y e => by
    obtain ⟨rfl, q⟩ := y
    obtain ⟨v, e', r'⟩ := r.get e
    have := q vs (sb.sqT h)
    rw [e'] at this
    cases this
    exact .same r'
theorem rangeD_len (lo : Int) (n : Nat) : (rangeD lo n).length = n := by unfold rangeD; simp
theorem rangeD_get {lo : Int} {n i : Nat} {d : D} (h : (rangeD lo n)[i]? = some d) : d = .int (lo + i) := by
  unfold rangeD at h
  rw [List.getElem?_map] at h
  cases e : (List.range n)[i]? with
  | none => rw [e] at h; cases h
  | some j =>
    rw [e] at h
    obtain ⟨hi, e'⟩ := List.getElem?_eq_some_iff.mp e
    rw [List.getElem_range] at e'
    subst e'
    cases h; rfl
theorem walk_range {K : PySem.W.Frag} {cA : Nat → Option Addr} {B : Hp} {lo : Int} {n : Nat} : Walk K cA B (Itr lo n) (rangeD lo n) where
  stop := fun H sb => by rw [rangeD_len]; exact Nat.le_refl _
  go := fun i H sb hi => by rw [rangeD_len] at hi; exact hi
  yld := fun i H x H' d sb y e => by
    obtain ⟨rfl, rfl⟩ := y
    rw [rangeD_get e]
    exact .same (.int _)
theorem zipD_len : ∀ xs ys : List D, (zipD xs ys).length = min xs.length ys.length
  | [], _ => by unfold zipD; simp
  | _ :: _, [] => by unfold zipD; simp
  | x :: xs, y :: ys => by
    unfold zipD
    rw [List.length_cons, List.length_cons, List.length_cons, zipD_len xs ys]
    omega
theorem zipD_get {ys : List D} {i : Nat} {d : D} {xs : List D} (h : (zipD xs ys)[i]? = some d) : ∃ a b, d = .tup [a, b] ∧ xs[i]? = some a ∧ ys[i]? = some b := by
  induction xs generalizing ys i with
  | nil => unfold zipD at h; simp at h
  | cons x xs ih =>
    cases ys with
    | nil => unfold zipD at h; simp at h
    | cons y ys =>
      unfold zipD at h
      cases i with
      | zero => rw [List.getElem?_cons_zero] at h; cases h; exact ⟨x, y, rfl, rfl, rfl⟩
      | succ i => rw [List.getElem?_cons_succ] at h; exact ih h
theorem enumD_len : ∀ (k : Nat) (xs : List D), (enumD k xs).length = xs.length
  | _, [] => rfl
  | k, _ :: xs => by unfold enumD; rw [List.length_cons, List.length_cons, enumD_len]
theorem enumD_get {xs : List D} {k i : Nat} {d : D} (h : (enumD k xs)[i]? = some d) : ∃ b, d = .tup [.int ((k + i : Nat) : Int), b] ∧ xs[i]? = some b := by
  induction xs generalizing k i with
  | nil => unfold enumD at h; simp at h
  | cons x xs ih =>
    unfold enumD at h
    cases i with
    | zero => rw [List.getElem?_cons_zero] at h; cases h; exact ⟨x, rfl, rfl⟩
    | succ i =>
      rw [List.getElem?_cons_succ] at h
      obtain ⟨b, e1, e2⟩ := ih h
      refine ⟨b, ?_, e2⟩
      rw [e1]
      have : k + 1 + i = k + (i + 1) := by omega
      rw [this]
/-- a list or a tuple, as data -/
theorem RD.seqX {K : PySem.W.Frag} {cA : Nat → Option Addr} {B : Hp} {d : D} {ds : List D} {v : V} (h : RD K cA B d v) (e : seqOf d = some ds) : ∃ k a vs, v = .ref a ∧ SqX k K B a vs ∧ RDs K cA B ds vs := by
  cases h with
  | tup h r => cases e; exact ⟨false, _, _, rfl, .inl (.inl h), r⟩
  | lst h r => cases e; exact ⟨true, _, _, rfl, .inl (.inl h), r⟩
  | fz h r => cases e; exact ⟨true, _, _, rfl, h, r⟩
  | kt h r => cases e; exact ⟨false, _, _, rfl, .inr h, r⟩
  | _ => cases e
theorem walk_zip {K : PySem.W.Frag} {cA : Nat → Option Addr} {B : Hp} {k k2 : Bool} {a b : Addr} {vs ws : List V} {xs ys : List D} (h : SqX k K B a vs) (h2 : SqX k2 K B b ws) (r : RDs K cA B xs vs) (r2 : RDs K cA B ys ws) :
    Walk K cA B (ItP (min vs.length ws.length) (fun H => SqX k K H a vs ∧ SqX k2 K H b ws) (fun i x y => vs[i]? = some x ∧ ws[i]? = some y)) (zipD xs ys) where
  stop := fun H sb => ⟨by rw [zipD_len, r.length, r2.length], h.sub sb, h2.sub sb⟩
  go := fun i H sb hi => ⟨by rw [zipD_len, r.length, r2.length] at hi; exact hi, h.sub sb, h2.sub sb⟩
  yld := fun i H x H' d sb y e => by
    obtain ⟨T, u, w, rfl, hT, rfl, e1, e2⟩ := y
    obtain ⟨d1, d2, rfl, e3, e4⟩ := zipD_get e
    obtain ⟨v1, q1, q2⟩ := r.get e3
    obtain ⟨v2, q3, q4⟩ := r2.get e4
    rw [e1] at q1
    rw [e2] at q3
    cases q1
    cases q3
    exact .pair hT q2 q4
theorem walk_enum {K : PySem.W.Frag} {cA : Nat → Option Addr} {B : Hp} {k : Bool} {a : Addr} {vs : List V} {xs : List D} (h : SqX k K B a vs) (r : RDs K cA B xs vs) :
    Walk K cA B (ItP vs.length (fun H => SqX k K H a vs) (fun i x y => x = .int (i : Int) ∧ vs[i]? = some y)) (enumD 0 xs) where
  stop := fun H sb => ⟨by rw [enumD_len, r.length], h.sub sb⟩
  go := fun i H sb hi => ⟨by rw [enumD_len, r.length] at hi; exact hi, h.sub sb⟩
  yld := fun i H x H' d sb y e => by
    obtain ⟨T, u, w, rfl, hT, rfl, rfl, e2⟩ := y
    obtain ⟨d2, rfl, e4⟩ := enumD_get e
    obtain ⟨v2, q3, q4⟩ := r.get e4
    rw [e2] at q3
    cases q3
    rw [Nat.zero_add]
    exact .pair hT (.int _) q4

section
variable {p : Pm} {C : Calls} {X : Cx} {pos tpos pn : Pos} {tg x y z : Expr} {xs elts : List Expr} {kk : Nat} {a b c : E} {es : Es}
theorem si_e (hK : X.K = p.K) (ha : PE X x (tE p C a)) : PI X tg x (tI p C (.e a)) := by
  refine ⟨fun pins s σ H R I h => (pi_seqX ha).run pins s σ H R I ?_⟩
  obtain ⟨Z, B, s, zo, Rp, h⟩ := h
  have hZ : X.K = Z.K := hK.trans zo.K.symm
  refine ⟨Z, B, s, zo, Rp, Post.bind h fun x s1 v1 H1 B1 R1 sb1 r1 h1 => ?_⟩
  cases e : frz x s1 with
  | none => rw [e] at h1; exact h1.elim
  | some q =>
    obtain ⟨d, s2⟩ := q
    rw [e] at h1
    obtain ⟨B2, sb2, R2, r2⟩ := frz_ok R1 r1 e
    have h2 := h1.mono sb2
    simp only at h2
    cases e2 : seqOf d with
    | none => rw [e2] at h2; exact h2.elim
    | some ds =>
      rw [e2] at h2
      obtain ⟨k, a, vs, rfl, hq, r⟩ := r2.seqX e2
      refine ⟨a, rfl, ?_⟩
      rw [hZ]
      cases k with
      | true => exact .inl ⟨⟨vs, R2.sub.sqL hq⟩, h2 _ _ B2 R2 (Sub.refl B2) (walk_list hq r)⟩
      | false => exact .inr ⟨⟨vs, R2.sub.sqT hq⟩, h2 _ _ B2 R2 (Sub.refl B2) (walk_tup hq r)⟩
theorem si_of {f : List D → Option (List D)} {σ : L2.St} {H : Hp} {R : It → Hp → Prop} {Q : List V → Hp → Prop} (h : tX rI p (fun s => (evs C p.lk es s).bind fun ds s1 => ofO (f ds) s1) σ H R)
    (k : ∀ Z B s ds xs vs H, ZOk p Z → Rep Z B s σ H → RDs Z.K Z.cA B ds vs → f ds = some xs → (∀ J, Walk Z.K Z.cA B J xs → R J H) → Q vs H) : tEs p C es σ H Q := by
  obtain ⟨Z, B, s, zo, Rp, h⟩ := h
  refine ⟨Z, B, s, zo, Rp, Post.bind h fun ds s1 vs H1 B1 R1 sb1 r1 h1 => ?_⟩
  cases e : f ds with
  | none => rw [e] at h1; exact h1.elim
  | some xs =>
    rw [e] at h1
    exact k Z B1 s1 ds xs vs H1 zo R1 r1 e fun J w => h1 J H1 B1 R1 (Sub.refl B1) w
theorem okR_of {i : Int} (h : okR i = true) : -(2 ^ 62) ≤ i ∧ i < 2 ^ 62 := by
  unfold okR at h
  simp only [Bool.and_eq_true, decide_eq_true_eq] at h
  exact h
theorem si_rng1 (hg : Gl X "range") (hm : X.mg "range" = none) (ha : PA X [x] (tEs p C es)) (hl : esLen es = 1) (hs : starEach [x] X.env = [(false, eval x X.env)]) : PI X tg (.Call (.Name "range" pn) [x] [] pos) (tI p C (.rng es)) := by
  refine ⟨fun pins s σ H R I h => (pi_range1 hg hm ha hs).run pins s σ H R I ?_⟩
  obtain ⟨Z, B, s, zo, Rp, h⟩ := h
  refine ⟨Z, B, s, zo, Rp, Post.bindE h fun ds s1 vs H1 B1 ee R1 sb1 r1 h1 => ?_⟩
  have l := (evs_len _ _ _ _ ee).trans hl
  cases e : rngL ds with
  | none => rw [e] at h1; exact h1.elim
  | some xs =>
    rw [e] at h1
    unfold rngL at e
    split at e
    · split at e
      · rename_i n ho
        cases e
        cases r1 with
        | cons q1 q2 =>
          cases q2
          cases q1
          obtain ⟨o1, o2⟩ := okR_of ho
          exact ⟨n, rfl, o1, o2, h1 _ _ B1 R1 (Sub.refl B1) walk_range⟩
      · cases e
    · cases l
    · cases e
theorem si_rng2 (hg : Gl X "range") (hm : X.mg "range" = none) (ha : PA X [x, y] (tEs p C es)) (hl : esLen es = 2) (hs : starEach [x, y] X.env = [(false, eval x X.env), (false, eval y X.env)]) (hs2 : starEach [y] X.env = [(false, eval y X.env)]) : PI X tg (.Call (.Name "range" pn) [x, y] [] pos) (tI p C (.rng es)) := by
  refine ⟨fun pins s σ H R I h => (pi_range2 hg hm ha hs hs2).run pins s σ H R I ?_⟩
  obtain ⟨Z, B, s, zo, Rp, h⟩ := h
  refine ⟨Z, B, s, zo, Rp, Post.bindE h fun ds s1 vs H1 B1 ee R1 sb1 r1 h1 => ?_⟩
  have l := (evs_len _ _ _ _ ee).trans hl
  cases e : rngL ds with
  | none => rw [e] at h1; exact h1.elim
  | some xs =>
    rw [e] at h1
    unfold rngL at e
    split at e
    · cases l
    · split at e
      · rename_i m n ho
        cases e
        rw [Bool.and_eq_true] at ho
        cases r1 with
        | cons q1 q2 =>
          cases q2 with
          | cons q2 q3 =>
            cases q3
            cases q1
            cases q2
            obtain ⟨o1, o2⟩ := okR_of ho.1
            obtain ⟨o3, o4⟩ := okR_of ho.2
            exact ⟨m, n, rfl, ⟨o1, o2, o3, o4⟩, h1 _ _ B1 R1 (Sub.refl B1) walk_range⟩
      · cases e
    · cases e
theorem si_zip (hK : X.K = p.K) (hg : Gl X "zip") (hm : X.mg "zip" = none) (ha : PA X [x, y] (tEs p C es)) (hs : starEach [x, y] X.env = (false, eval x X.env) :: starEach [y] X.env) (hpl : (backTo pos (starEach [y] X.env)).any (·.1) = false) : PI X (.Tuple elts kk tpos) (.Call (.Name "zip" pn) [x, y] [] pos) (tI p C (.zip es)) := by
  refine ⟨fun pins s σ H R I h => (pi_zipX hg hm ha hs hpl).run pins s σ H R I (si_of h fun Z B s ds xs vs H zo Rp r e k => ?_)⟩
  have hZ : X.K = Z.K := hK.trans zo.K.symm
  unfold zipL at e
  split at e
  · rename_i d1 d2
    split at e
    · rename_i u w e1 e2
      cases e
      cases r with
      | cons q1 q2 =>
        cases q2 with
        | cons q2 q3 =>
          cases q3
          obtain ⟨k1, a1, vs1, rfl, g1, r1⟩ := q1.seqX e1
          obtain ⟨k2, a2, vs2, rfl, g2, r2⟩ := q2.seqX e2
          refine ⟨k1, k2, a1, a2, vs1, vs2, rfl, by rw [hZ]; exact g1.sub Rp.sub, by rw [hZ]; exact g2.sub Rp.sub, k _ ?_⟩
          rw [hZ]
          exact walk_zip g1 g2 r1 r2
    · cases e
  · cases e
theorem si_enum (hK : X.K = p.K) (hg : Gl X "enumerate") (hm : X.mg "enumerate" = none) (ha : PA X [x] (tEs p C es)) (hs : starEach [x] X.env = [(false, eval x X.env)]) : PI X (.Tuple elts kk tpos) (.Call (.Name "enumerate" pn) [x] [] pos) (tI p C (.enum es)) := by
  refine ⟨fun pins s σ H R I h => (pi_enumX hg hm ha hs).run pins s σ H R I (si_of h fun Z B s ds xs vs H zo Rp r e k => ?_)⟩
  have hZ : X.K = Z.K := hK.trans zo.K.symm
  unfold enumL at e
  split at e
  · split at e
    · rename_i u e1
      cases e
      cases r with
      | cons q1 q2 =>
        cases q2
        obtain ⟨k1, a1, vs1, rfl, g1, r1⟩ := q1.seqX e1
        refine ⟨k1, a1, vs1, rfl, by rw [hZ]; exact g1.sub Rp.sub, k _ ?_⟩
        rw [hZ]
        exact walk_enum g1 r1
    · cases e
  · cases e
end

/-! ### targets -/
section
variable {Z : Zn} {B H : Hp} {s s' : S} {σ : L2.St}
theorem put_some {lk : Nat} {i : Nat} {v : SV} (h : put lk s i v = some s') : s' = s.set i (some v) ∧ i < s.length ∧ (∀ j, lk.testBit j = true → i ≠ j) := by
  unfold put at h
  split at h
  · cases h
  · rename_i hn
    split at h
    · rename_i hi
      cases h
      exact ⟨rfl, hi, fun j e z => hn (by rw [z]; exact e)⟩
    · cases h
theorem Rep.put (R : Rep Z B s σ H) {i : Nat} {d : D} {v : V} (h : put Z.lk s i (.d d) = some s') (r : RD Z.K Z.cA B d v) : Rep Z B s' (σ.set i (some v)) H := by
  obtain ⟨rfl, hi, h0⟩ := put_some h
  have hσ : i < σ.length := by rw [← R.len]; exact hi
  refine ⟨by rw [List.length_set, List.length_set]; exact R.len, R.sub, R.fr, R.dom, R.tab, R.b0, R.bn, fun j d' e => ?_, fun j d' e => ?_, fun j k d1 d2 a z1 z2 y1 y2 => ?_, fun jj e => ?_⟩
  · rw [getS_set hi] at e
    by_cases q : j = i
    · rw [if_pos q] at e
      cases e
      exact ⟨v, by rw [q, List.getElem?_set_self hσ], r⟩
    · rw [if_neg q] at e
      rw [List.getElem?_set_ne (Ne.symm q)]
      exact R.dat j d' e
  · rw [getS_set hi] at e
    by_cases q : j = i
    · rw [if_pos q] at e; cases e
    · rw [if_neg q] at e
      rw [List.getElem?_set_ne (Ne.symm q)]
      exact R.own j d' e
  · rw [getS_set hi] at z1 z2
    by_cases q : j = i
    · rw [if_pos q] at z1; cases z1
    · by_cases q2 : k = i
      · rw [if_pos q2] at z2; cases z2
      · rw [if_neg q] at z1
        rw [if_neg q2] at z2
        rw [List.getElem?_set_ne (Ne.symm q)] at y1
        rw [List.getElem?_set_ne (Ne.symm q2)] at y2
        exact R.dis j k d1 d2 a z1 z2 y1 y2
  · rw [List.getElem?_set_ne (h0 _ e)]
    exact R.lk0 _ e
theorem Rep.putO (R : Rep Z B s σ H) {i : Nat} {d : D} {a : Addr} (h : FL.put Z.lk s i (.o d) = some s') (ow : Own Z B H a d) (ap : Apart s σ a) : Rep Z B s' (σ.set i (some (.ref a))) H := by
  obtain ⟨rfl, hi, h0⟩ := put_some h
  have hσ : i < σ.length := by rw [← R.len]; exact hi
  refine ⟨by rw [List.length_set, List.length_set]; exact R.len, R.sub, R.fr, R.dom, R.tab, R.b0, R.bn, fun j d' e => ?_, fun j d' e => ?_, fun j k d1 d2 b z1 z2 y1 y2 => ?_, fun jj e => ?_⟩
  · rw [getS_set hi] at e
    by_cases q : j = i
    · rw [if_pos q] at e; cases e
    · rw [if_neg q] at e
      rw [List.getElem?_set_ne (Ne.symm q)]
      exact R.dat j d' e
  · rw [getS_set hi] at e
    by_cases q : j = i
    · rw [if_pos q] at e
      cases e
      exact ⟨a, by rw [q, List.getElem?_set_self hσ], ow⟩
    · rw [if_neg q] at e
      rw [List.getElem?_set_ne (Ne.symm q)]
      exact R.own j d' e
  · rw [getS_set hi] at z1 z2
    by_cases q : j = i
    · by_cases q2 : k = i
      · exact q.trans q2.symm
      · rw [if_neg q2] at z2
        rw [List.getElem?_set_ne (Ne.symm q2)] at y2
        rw [q, List.getElem?_set_self hσ] at y1
        cases y1
        exact absurd y2 (ap k d2 z2)
    · rw [if_neg q] at z1
      rw [List.getElem?_set_ne (Ne.symm q)] at y1
      by_cases q2 : k = i
      · rw [q2, List.getElem?_set_self hσ] at y2
        cases y2
        exact absurd y1 (ap j d1 z1)
      · rw [if_neg q2] at z2
        rw [List.getElem?_set_ne (Ne.symm q2)] at y2
        exact R.dis j k d1 d2 b z1 z2 y1 y2
  · rw [List.getElem?_set_ne (h0 _ e)]
    exact R.lk0 _ e
def gsOf : List Nat → TGs
  | [] => gNil
  | i :: r => gCons (gName i) (gsOf r)
def gOf (K : PySem.W.Frag) : Tg → TG
  | .v i => gName i
  | .t is => gTup K is.length (gsOf is)
/-- a, b = a tuple or a list -/
def gTL (K : PySem.W.Frag) (n : Nat) (t : TGs) : TG := fun v σ H Q => gTup K n t v σ H Q ∨ gLst K n t v σ H Q
theorem pg_tl {X : Cx} {es : List Expr} {k : Nat} {pos : Pos} {t : TGs} {n : Nat} (h1 : PG X (.Tuple es k pos) (gTup X.K n t)) (h2 : PG X (.Tuple es k pos) (gLst X.K n t)) : PG X (.Tuple es k pos) (gTL X.K n t) :=
  ⟨fun pins s σ H v u Q I r h => by
    rcases h with h | h
    · exact h1.run pins s σ H v u Q I r h
    · exact h2.run pins s σ H v u Q I r h⟩
def tgIn (vs : List Nat) : Tg → Bool
  | .v i => vs.contains i
  | .t is => is.all vs.contains
theorem wipe_set {σ : L2.St} {i : Nat} {x : Option V} : ∀ {vs : List Nat}, i ∈ vs → wipe (σ.set i x) vs = wipe σ vs
  | v :: r, h => by
    unfold wipe
    by_cases q : i ∈ r
    · rw [wipe_set q]
    · have e : i = v := by
        rcases List.mem_cons.mp h with z | z
        · exact z
        · exact absurd z q
      subst e
      have key : ∀ (ws : List Nat) (τ : L2.St), i ∉ ws → wipe (τ.set i x) ws = (wipe τ ws).set i x := by
        intro ws
        induction ws with
        | nil => intro τ _; rfl
        | cons w ws ih =>
          intro τ hn
          unfold wipe
          rw [ih τ (fun z => hn (List.mem_cons_of_mem _ z)), List.set_comm _ _ (fun z => hn (by rw [z]; exact List.mem_cons_self))]
      rw [key r σ q, List.set_set]
theorem puts_ok (R : Rep Z B s σ H) {is : List Nat} {ds : List D} {vs : List V} (h : putTs Z.lk s is ds = some s') (r : RDs Z.K Z.cA B ds vs) {Q : L2.St → Hp → Prop} (k : ∀ σ', Rep Z B s' σ' H → (∀ ws : List Nat, (∀ i ∈ is, i ∈ ws) → wipe σ' ws = wipe σ ws) → Q σ' H) : gsOf is vs σ H Q := by
  induction is generalizing s σ ds vs with
  | nil =>
    cases ds with
    | nil =>
      cases r
      unfold putTs at h
      cases h
      exact ⟨rfl, k σ R fun _ _ => rfl⟩
    | cons d ds => unfold putTs at h; cases h
  | cons i is ih =>
    cases ds with
    | nil => unfold putTs at h; cases h
    | cons d ds =>
      cases r with
      | cons q1 q2 =>
        unfold putTs at h
        cases e : FL.put Z.lk s i (.d d) with
        | none => rw [e] at h; cases h
        | some s1 =>
          rw [e] at h
          have R1 := R.put e q1
          refine ⟨_, _, rfl, ?_⟩
          exact ih R1 h q2 fun σ' R' hw => k σ' R' fun ws hin => (hw ws fun j hj => hin j (List.mem_cons_of_mem _ hj)).trans (wipe_set (hin i List.mem_cons_self))
theorem bind_ok (R : Rep Z B s σ H) {tg : Tg} {d : D} {v : V} (h : bindTg Z.lk tg d s = some s') (r : RD Z.K Z.cA B d v) {Q : L2.St → Hp → Prop} (k : ∀ σ', Rep Z B s' σ' H → (∀ ws : List Nat, tgIn ws tg = true → wipe σ' ws = wipe σ ws) → Q σ' H) : gOf Z.K tg v σ H Q := by
  unfold bindTg at h
  cases tg with
  | v i =>
    refine k _ (R.put h r) fun ws hw => wipe_set ?_
    unfold tgIn at hw
    exact List.contains_iff_mem.mp hw
  | t is =>
    simp only at h
    split at h
    · rename_i ds
      split at h
      · rename_i hl
        cases r with
        | tup h1 r =>
          refine ⟨_, _, rfl, R.sub.sqT (.inl (.inl h1)), by rw [← r.length]; exact hl.symm, ?_⟩
          exact puts_ok R h r fun σ' R' hw => k σ' R' fun ws hin => hw ws fun i hi => by
            unfold tgIn at hin
            exact List.contains_iff_mem.mp (List.all_eq_true.mp hin i hi)
      · cases h
    · cases h
end
end FL

set_option maxHeartbeats 4000000
/-! FS, part 9: comprehensions. -/
namespace FL
open PySem PySem.Spec PyProof.Rows L2

theorem wipeS_len (z : S) : ∀ vs : List Nat, (wipeS vs z).length = z.length
  | [] => rfl
  | v :: r => by unfold wipeS; rw [List.length_set, wipeS_len z r]
theorem wipeS_get (z : S) (j : Nat) : ∀ vs : List Nat, (wipeS vs z)[j]? = if j ∈ vs ∧ j < z.length then some none else z[j]?
  | [] => by unfold wipeS; rw [if_neg (by simp)]
  | v :: r => by
    unfold wipeS
    rw [List.getElem?_set, wipeS_len, wipeS_get z j r]
    by_cases e : v = j
    · subst e
      by_cases hl : v < z.length
      · rw [if_pos rfl, if_pos hl, if_pos ⟨List.mem_cons_self, hl⟩]
      · rw [if_pos rfl, if_neg hl, if_neg (fun h => hl h.2), List.getElem?_eq_none (Nat.le_of_not_lt hl)]
    · rw [if_neg e]
      by_cases h : j ∈ r ∧ j < z.length
      · rw [if_pos h, if_pos ⟨List.mem_cons_of_mem _ h.1, h.2⟩]
      · rw [if_neg h, if_neg]
        rintro ⟨h1, h2⟩
        rcases List.mem_cons.mp h1 with q | q
        · exact e q.symm
        · exact h ⟨q, h2⟩
theorem restS_len (s0 z : S) : ∀ vs : List Nat, (restS vs s0 z).length = z.length
  | [] => rfl
  | v :: r => by unfold restS; rw [List.length_set, restS_len s0 z r]
theorem restS_get (s0 z : S) (j : Nat) : ∀ vs : List Nat, (restS vs s0 z)[j]? = if j ∈ vs ∧ j < z.length then some (getS s0 j) else z[j]?
  | [] => by unfold restS; rw [if_neg (by simp)]
  | v :: r => by
    unfold restS
    rw [List.getElem?_set, restS_len, restS_get s0 z j r]
    by_cases e : v = j
    · subst e
      by_cases hl : v < z.length
      · rw [if_pos rfl, if_pos hl, if_pos ⟨List.mem_cons_self, hl⟩]
      · rw [if_pos rfl, if_neg hl, if_neg (fun h => hl h.2), List.getElem?_eq_none (Nat.le_of_not_lt hl)]
    · rw [if_neg e]
      by_cases h : j ∈ r ∧ j < z.length
      · rw [if_pos h, if_pos ⟨List.mem_cons_of_mem _ h.1, h.2⟩]
      · rw [if_neg h, if_neg]
        rintro ⟨h1, h2⟩
        rcases List.mem_cons.mp h1 with q | q
        · exact e q.symm
        · exact h ⟨q, h2⟩
theorem wipe_rest (vs : List Nat) (s0 z : S) : wipeS vs (restS vs s0 z) = wipeS vs z := by
  refine List.ext_getElem? fun j => ?_
  rw [wipeS_get, wipeS_get, restS_len, restS_get]
  by_cases h : j ∈ vs ∧ j < z.length
  · rw [if_pos h, if_pos h]
  · rw [if_neg h, if_neg h, if_neg h]
theorem rest_self (vs : List Nat) (s0 : S) : restS vs s0 s0 = s0 := by
  refine List.ext_getElem? fun j => ?_
  rw [restS_get]
  by_cases h : j ∈ vs ∧ j < s0.length
  · rw [if_pos h]
    unfold getS
    rw [List.getElem?_eq_getElem h.2]
  · rw [if_neg h]
theorem getS_of {z w : S} {j : Nat} (h : z[j]? = w[j]?) : getS z j = getS w j := by unfold getS; rw [h]
theorem getS_rest {vs : List Nat} {s0 z : S} {j : Nat} : getS (restS vs s0 z) j = if j ∈ vs ∧ j < z.length then getS s0 j else getS z j := by
  unfold getS
  rw [restS_get]
  by_cases h : j ∈ vs ∧ j < z.length
  · rw [if_pos h, if_pos h]; rfl
  · rw [if_neg h, if_neg h]
theorem getS_wipe {vs : List Nat} {z : S} {j : Nat} : getS (wipeS vs z) j = if j ∈ vs ∧ j < z.length then none else getS z j := by
  unfold getS
  rw [wipeS_get]
  by_cases h : j ∈ vs ∧ j < z.length
  · rw [if_pos h, if_pos h]
  · rw [if_neg h, if_neg h]
theorem noOwn_of {vs : List Nat} {s : S} (h : noOwn vs s = true) {j : Nat} (hj : j ∈ vs) (d : D) : getS s j ≠ some (.o d) := fun e => by
  unfold noOwn at h
  have := List.all_eq_true.mp h j hj
  rw [e] at this
  cases this

/-- the zone of a comprehension's turn -/
def Zn.in_ (Z : Zn) (B H : Hp) (s : S) (σ : L2.St) : Zn := { Z with H0 := nt H, B0 := B, wr := fun a => ∃ j d, getS s j = some (.o d) ∧ σ[j]? = some (some (.ref a)) }
section
variable {Z : Zn} {B B' H H' : Hp} {s s1 z : S} {σ σ' : L2.St} {vs : List Nat}
theorem Rep.enter (R : Rep Z B s σ H) (no : noOwn vs s = true) (h0 : ∀ i, Z.lk.testBit i = true → i ∉ vs) : Rep (Z.in_ B H s σ) B (wipeS vs s) (wipe σ vs) H where
  len := by rw [wipeS_len, wipe_length]; exact R.len
  sub := R.sub
  fr := fun b x e _ => nt_some e
  dom := fun b e => e
  tab := R.tab
  b0 := Sub.refl B
  bn := fun b x e => .inl e
  dat := fun i d e => by
    rw [getS_wipe] at e
    split at e
    · cases e
    · rename_i hn
      obtain ⟨v, h1, h2⟩ := R.dat i d e
      have : i ∉ vs := fun q => hn ⟨q, getS_lt e⟩
      exact ⟨v, by rw [wipe_out this]; exact h1, h2⟩
  own := fun i d e => by
    rw [getS_wipe] at e
    split at e
    · cases e
    · rename_i hn
      obtain ⟨v, h1, h2⟩ := R.own i d e
      have : i ∉ vs := fun q => hn ⟨q, getS_lt e⟩
      exact ⟨v, by rw [wipe_out this]; exact h1, h2.out, .inr ⟨i, d, e, h1⟩, h2.own⟩
  dis := fun i j d e a e1 e2 q1 q2 => by
    rw [getS_wipe] at e1 e2
    split at e1
    · cases e1
    · rename_i hn
      split at e2
      · cases e2
      · rename_i hm
        rw [wipe_out fun q => hn ⟨q, getS_lt e1⟩] at q1
        rw [wipe_out fun q => hm ⟨q, getS_lt e2⟩] at q2
        exact R.dis i j d e a e1 e2 q1 q2
  lk0 := fun i e => by
    rw [wipe_out (h0 i e)]
    exact R.lk0 i e
theorem same_out (hw : wipe σ' vs = wipe σ vs) {i : Nat} (h : i ∉ vs) : σ'[i]? = σ[i]? := by rw [← wipe_out h, hw, wipe_out h]
theorem Rep.leave (R : Rep Z B s σ H) (R' : Rep (Z.in_ B H s σ) B' z σ' H') (hw : wipe σ' vs = wipe σ vs) (no : noOwn vs s = true) (hs : ∀ j, j ∈ vs → j < s.length → getS s j = getS s1 j) : Rep Z B' (restS vs s1 z) σ H' := by
  have hl : z.length = s.length := by
    rw [R'.len, R.len]
    have := congrArg List.length hw
    rw [wipe_length, wipe_length] at this
    exact this
  have mine : ∀ a, (nt H a = none ∨ ∃ j d, getS s j = some (.o d) ∧ σ[j]? = some (some (.ref a))) → Z.H0 a = none ∨ Z.wr a := fun a q => by
    rcases q with q | ⟨j, d, q1, q2⟩
    · exact .inl (R.dom a q)
    · obtain ⟨a', g1, g2⟩ := R.own j d q1
      rw [q2] at g1
      cases g1
      exact g2.mine
  refine ⟨?_, R'.sub, fun b x e w => ?_, fun b e => R.dom b (R'.dom b e), R'.tab, R.b0.trans R'.b0, fun b x e => ?_, fun i d e => ?_, fun i d e => ?_, fun i j d e a e1 e2 q1 q2 => ?_, R.lk0⟩
  · rw [restS_len, hl]; exact R.len
  · refine R'.fr b x (R.frn e w) fun q => ?_
    rcases mine b (.inr q) with q | q
    · rw [q] at e; cases e
    · exact w q
  · rcases R'.bn b x e with q | q
    · exact R.bn b x q
    · exact .inr (mine b q)
  · rw [getS_rest] at e
    split at e
    · rename_i hn
      rw [← hs i hn.1 (by rw [← hl]; exact hn.2)] at e
      obtain ⟨v, h1, h2⟩ := R.dat i d e
      exact ⟨v, h1, h2.mono R'.b0⟩
    · rename_i hn
      obtain ⟨v, h1, h2⟩ := R'.dat i d e
      have : i ∉ vs := fun q => hn ⟨q, getS_lt e⟩
      exact ⟨v, by rw [← same_out hw this]; exact h1, h2⟩
  · rw [getS_rest] at e
    split at e
    · rename_i hn
      rw [← hs i hn.1 (by rw [← hl]; exact hn.2)] at e
      exact absurd e (noOwn_of no hn.1 d)
    · rename_i hn
      obtain ⟨v, h1, h2⟩ := R'.own i d e
      have : i ∉ vs := fun q => hn ⟨q, getS_lt e⟩
      exact ⟨v, by rw [← same_out hw this]; exact h1, h2.out, mine v h2.mine, h2.own⟩
  · rw [getS_rest] at e1 e2
    split at e1
    · rename_i hn
      rw [← hs i hn.1 (by rw [← hl]; exact hn.2)] at e1
      exact absurd e1 (noOwn_of no hn.1 d)
    · rename_i hn
      split at e2
      · rename_i hm
        rw [← hs j hm.1 (by rw [← hl]; exact hm.2)] at e2
        exact absurd e2 (noOwn_of no hm.1 e)
      · rename_i hm
        rw [← same_out hw fun q => hn ⟨q, getS_lt e1⟩] at q1
        rw [← same_out hw fun q => hm ⟨q, getS_lt e2⟩] at q2
        exact R'.dis i j d e a e1 e2 q1 q2
/-- a thing that is no one's is changed -/
theorem Rep.other (R : Rep Z B s σ H) {a : Addr} {o o' : HO} (hH : H a = some o') (n1 : ∀ ps, o' ≠ .tbl ps) (n2 : ∀ q, o' ≠ LamX.CodeO a q) (hB : B a = none) (h0 : Z.H0 a = none) (ap : Apart s σ a) : Rep Z B s σ (upd H a o) where
  len := R.len
  sub := fun b x e => by
    rw [upd_ne (ne_of_none e hB)]
    exact R.sub b x e
  fr := fun b x e w => by
    rw [upd_ne (ne_of_none e h0)]
    exact R.fr b x e w
  dom := fun b e => by
    by_cases q : b = a
    · rw [q]; exact h0
    · rw [nt_upd_ne q] at e; exact R.dom b e
  tab := R.tab.ch (fun ps z => n1 ps (by rw [hH] at z; exact Option.some.inj z)) (fun q z => n2 q (by rw [hH] at z; exact Option.some.inj z))
  b0 := R.b0
  bn := R.bn
  dat := R.dat
  own := fun i d e => by
    obtain ⟨v, h1, h2⟩ := R.own i d e
    have : v ≠ a := fun q => ap i d e (by rw [h1, q])
    exact ⟨v, h1, h2.out, h2.mine, h2.own.heap (upd_ne this)⟩
  dis := R.dis
  lk0 := R.lk0
/-- the thing apart stays apart, as it was -/
theorem Rep.apartIn (R : Rep Z B s σ H) (R' : Rep (Z.in_ B H s σ) B' z σ' H') (hw : wipe σ' vs = wipe σ vs) (no : noOwn vs s = true) (hs : ∀ j, j ∈ vs → j < s.length → getS s j = getS s1 j) {a : Addr} {o : HO} (ha : nt H a = some o) (ap : Apart s σ a) (hB : B a = none) :
    Apart (restS vs s1 z) σ a ∧ B' a = none ∧ H' a = some o := by
  have hl : z.length = s.length := by
    rw [R'.len, R.len]
    have := congrArg List.length hw
    rw [wipe_length, wipe_length] at this
    exact this
  have nw : ¬ ∃ j d, getS s j = some (.o d) ∧ σ[j]? = some (some (.ref a)) := fun ⟨j, d, q1, q2⟩ => ap j d q1 q2
  refine ⟨fun i d e q => ?_, ?_, R'.fr a o ha nw⟩
  · rw [getS_rest] at e
    split at e
    · rename_i hn
      rw [← hs i hn.1 (by rw [← hl]; exact hn.2)] at e
      exact ap i d e q
    · rename_i hn
      obtain ⟨v, h1, h2⟩ := R'.own i d e
      rw [same_out hw fun q => hn ⟨q, getS_lt e⟩, q] at h1
      cases h1
      rcases h2.mine with z | z
      · have z' : nt H a = none := z
        rw [ha] at z'; cases z'
      · exact nw z
  · cases e : B' a with
    | none => rfl
    | some x =>
      rcases R'.bn a x e with q | q | q
      · have q' : B a = some x := q
        rw [hB] at q'; cases q'
      · have q' : nt H a = none := q
        rw [ha] at q'; cases q'
      · exact absurd q nw
end
def noW : WX := fun _ _ _ _ => False
abbrev Pm.in_ (p : Pm) : Pm := { p with W := noW, fz := none }
abbrev tC0 (p : Pm) (C : Calls) (e : Eo) : TT := tX rB p.in_ (evc C p.lk e)
theorem noEx_ok {α : Type} {R : Rl α V} {Z : Zn} {W : WX} {B : Hp} {σ : L2.St} {o : Out α} {Q : VK} (h : Post R Z W B σ (noEx o) Q) : ∃ a s, o = .ok a s ∧ Post R Z W B σ (.ok a s) Q := by
  cases o with
  | ok a s => exact ⟨a, s, rfl, h⟩
  | ex _ _ => exact h.elim
  | no => exact h.elim
theorem bind_ok_inv {α β : Type} {o : Out α} {f : α → S → Out β} {b : β} {s' : S} (h : o.bind f = .ok b s') : ∃ a s, o = .ok a s ∧ f a s = .ok b s' := by
  cases o with
  | ok a s => exact ⟨a, s, rfl, h⟩
  | ex _ _ => cases h
  | no => cases h
theorem lc_ok {p : Pm} {C : Calls} {vs : List Nat} {tg : Tg} {it : I} {cond : Eo} {el : E} {σ : L2.St} {H : Hp} {Q : VK} (htg : tgIn vs tg = true) (h : tE p C (.lc vs tg it cond el) σ H Q) : tLc (tI p C it) (gOf p.K tg) (tC0 p C cond) (tE p.in_ C el) vs σ H Q := by
  obtain ⟨Z, B, s, zo, R, h⟩ := h
  unfold ev at h
  obtain ⟨av, sv, e0, h⟩ := noEx_ok h
  obtain ⟨ds, s1, e1, e2⟩ := bind_ok_inv e0
  refine ⟨Z, B, s, zo, R, ?_⟩
  rw [e1]
  intro J H1 B1 R1 sb1 w1
  unfold lcRun at e2
  split at e2
  rotate_left
  · cases e2
  rename_i hgd
  rw [Bool.and_eq_true] at hgd
  obtain ⟨no, h0'⟩ := hgd
  have h0 : ∀ i, Z.lk.testBit i = true → i ∉ vs := fun i e q => by
    rw [zo.lk] at e
    have : (vs.any fun j => p.lk.testBit j) = true := List.any_eq_true.mpr ⟨i, q, e⟩
    rw [this] at h0'
    cases h0'
  intro L hL
  refine ⟨fun i m H => ∃ B2 z acc us, Rep Z B2 (restS vs s1 z) σ H ∧ Sub B1 B2 ∧ z.length = s1.length ∧ i ≤ ds.length ∧ m = ds.length - i ∧ H L = some (.lst us) ∧ RDs Z.K Z.cA B2 acc us ∧ Apart (restS vs s1 z) σ L ∧ B2 L = none ∧
    ((lcL (lcTurn p.lk vs tg (fun z => evc C p.lk cond z) (fun z => ev C p.lk el z)) (ds.drop i) acc z).bind fun rs s2 => Out.ok (AV.o (.lst rs)) (restS vs s1 s2)) = .ok av sv, ⟨ds.length, B1, s1, [], [], ?_⟩, ?_⟩
  · rw [rest_self]
    exact ⟨R1.new hL, Sub.refl B1, rfl, Nat.zero_le _, rfl, upd_same, .nil, R1.apart hL, R1.sub.nn hL, by rw [List.drop_zero]; exact e2⟩
  rintro i m H2 ⟨B2, z, acc, us, R2, sb2, hz, hi, hm, hHL, ra, ap, hB2, hr⟩
  have w2 := w1.mono sb2
  have hH0 : Z.H0 L = none := R1.dom L (nt_none hL)
  rcases Nat.lt_or_ge i ds.length with hlt | hge
  rotate_left
  · have ei : i = ds.length := Nat.le_antisymm hi hge
    refine .inl ⟨?_, ?_⟩
    · rw [ei]; exact w2.stop H2 R2.sub
    · rw [ei, List.drop_length] at hr
      unfold lcL at hr
      have hr' : Out.ok (AV.o (.lst acc)) (restS vs s1 z) = .ok av sv := hr
      cases hr'
      exact h _ _ B2 R2 (sb1.trans sb2) (.o ⟨hB2, .inl hH0, .lst hHL ra⟩ ap)
  · refine .inr ⟨w2.go i H2 R2.sub hlt, fun H' => ∃ B2 z acc us, Rep Z B2 (restS vs s1 z) σ H' ∧ Sub B1 B2 ∧ z.length = s1.length ∧ i + 1 ≤ ds.length ∧ H' L = some (.lst us) ∧ RDs Z.K Z.cA B2 acc us ∧ Apart (restS vs s1 z) σ L ∧ B2 L = none ∧
      ((lcL (lcTurn p.lk vs tg (fun z => evc C p.lk cond z) (fun z => ev C p.lk el z)) (ds.drop (i + 1)) acc z).bind fun rs s2 => Out.ok (AV.o (.lst rs)) (restS vs s1 s2)) = .ok av sv, ?_, fun x H' y => ?_⟩
    · rintro H' ⟨B3, z3, acc3, us3, g1, g2, g3, g4, g5, g6, g7, g8, g9⟩
      exact ⟨ds.length - (i + 1), by omega, B3, z3, acc3, us3, g1, g2, g3, g4, rfl, g5, g6, g7, g8, g9⟩
    have hd : ds[i]? = some ds[i] := List.getElem?_eq_getElem hlt
    have yy := w2.yld i H2 x H' _ R2.sub y hd
    rw [List.drop_eq_getElem_cons hlt] at hr
    unfold lcL at hr
    -- the restored state has the same own names
    have hs : ∀ j, j ∈ vs → j < (restS vs s1 z).length → getS (restS vs s1 z) j = getS s1 j := fun j hj hl => by
      rw [getS_rest, if_pos ⟨hj, by rw [restS_len] at hl; exact hl⟩]
    have no2 : noOwn vs (restS vs s1 z) = true := by
      unfold noOwn
      refine List.all_eq_true.mpr fun j hj => ?_
      have q := List.all_eq_true.mp no j hj
      have key := getS_rest (vs := vs) (s0 := s1) (z := z) (j := j)
      by_cases hn : j ∈ vs ∧ j < z.length
      · rw [if_pos hn] at key
        rw [key]
        exact q
      · rw [if_neg hn] at key
        have : ¬ j < z.length := fun w => hn ⟨hj, w⟩
        have k2 : getS z j = none := by unfold getS; rw [List.getElem?_eq_none (Nat.le_of_not_lt this)]
        rw [key, k2]
    have Ri := R2.enter no2 h0
    obtain ⟨B3, sb3, R3, r3⟩ := Yld.rep (Z := Z.in_ B2 H2 (restS vs s1 z) σ) Ri yy
    rw [wipe_rest] at R3
    obtain ⟨⟨o2, s3⟩, s3', et, hr⟩ : ∃ (q : Option D × S) (s3' : S), lcTurn p.lk vs tg (fun z => evc C p.lk cond z) (fun z => ev C p.lk el z) ds[i] z = .ok q.1 q.2 ∧ _ := by
      obtain ⟨a, s4, g1, g2⟩ := bind_ok_inv hr
      obtain ⟨b, s5, g3, g4⟩ := bind_ok_inv g1
      exact ⟨(b, s5), s5, g3, hr⟩
    rw [et] at hr
    unfold lcTurn at et
    cases eb : bindTg p.lk tg ds[i] (wipeS vs z) with
    | none => rw [eb] at et; cases et
    | some z1 =>
      rw [eb] at et
      have hlen : ∀ {z' : S} {σ' : L2.St} {B' H'' : Hp}, Rep (Z.in_ B2 H2 (restS vs s1 z) σ) B' z' σ' H'' → wipe σ' vs = wipe σ vs → z'.length = s1.length := fun {z' σ' B' H''} r hw => by
        have q := congrArg List.length hw
        rw [wipe_length, wipe_length] at q
        rw [r.len, q, ← R2.len, restS_len]; exact hz
      have zo' : ZOk p.in_ (Z.in_ B2 H2 (restS vs s1 z) σ) := ⟨zo.K, zo.cA, zo.xA, zo.lk, zo.ex, fun _ _ z => nomatch z⟩
      have eb' : bindTg (Z.in_ B2 H2 (restS vs s1 z) σ).lk tg ds[i] (wipeS vs z) = some z1 := by
        have : (Z.in_ B2 H2 (restS vs s1 z) σ).lk = p.lk := zo.lk
        rw [this]; exact eb
      rw [← zo.K]
      refine bind_ok (Z := Z.in_ B2 H2 (restS vs s1 z) σ) R3 eb' r3 fun σ2 R4 hw => ⟨?_, ?_⟩
      · rw [hw vs htg]
        have : ∀ ws : List Nat, wipe (wipe σ vs) ws = wipe (wipe σ vs) ws := fun _ => rfl
        refine List.ext_getElem? fun j => ?_
        by_cases q : j ∈ vs
        · have key : ∀ (τ : L2.St) (ws : List Nat), j ∈ ws → (wipe τ ws)[j]? = if j < τ.length then some none else none := by
            intro τ ws
            induction ws with
            | nil => intro w; cases w
            | cons w ws ih =>
              intro hj
              unfold wipe
              rw [List.getElem?_set, wipe_length]
              by_cases e : w = j
              · rw [if_pos e]; subst e; rfl
              · rw [if_neg e]
                rcases List.mem_cons.mp hj with z | z
                · exact absurd z.symm e
                · exact ih z
          rw [key _ vs q, key _ vs q, wipe_length]
        · rw [wipe_out q]
      have hw2 : wipe σ2 vs = wipe σ vs := by
        rw [hw vs htg]
        refine List.ext_getElem? fun j => ?_
        by_cases q : j ∈ vs
        · have key : ∀ (τ : L2.St) (ws : List Nat), j ∈ ws → (wipe τ ws)[j]? = if j < τ.length then some none else none := by
            intro τ ws
            induction ws with
            | nil => intro w; cases w
            | cons w ws ih =>
              intro hj
              unfold wipe
              rw [List.getElem?_set, wipe_length]
              by_cases e : w = j
              · rw [if_pos e]; subst e; rfl
              · rw [if_neg e]
                rcases List.mem_cons.mp hj with z | z
                · exact absurd z.symm e
                · exact ih z
          rw [key _ vs q, key _ vs q, wipe_length]
        · rw [wipe_out q]
      refine ⟨_, B3, z1, zo', R4, ?_⟩
      obtain ⟨b, z2, et1, et⟩ := bind_ok_inv et
      have et1' : evc C p.lk cond z1 = .ok b z2 := et1
      show Post rB _ _ _ _ (evc C p.lk cond z1) _
      rw [et1']
      intro b' H3 B4 R5 sb4 eb''
      have ebb : b = b' := eb''
      subst ebb
      cases b with
      | false =>
        rw [if_neg (by decide)] at et
        cases et
        rw [if_neg (by decide)]
        obtain ⟨a1, a2, a3⟩ := R2.apartIn (s1 := s1) R5 hw2 no2 hs (nt_of hHL fun ps z => (nomatch z)) ap hB2
        have R6 := R2.leave (s1 := s1) R5 hw2 no2 hs
        exact ⟨B4, _, acc, us, R6, sb2.trans (sb3.trans sb4), hlen R5 hw2, hlt, a3, ra.mono (sb3.trans sb4), a1, a2, hr⟩
      | true =>
        rw [if_pos rfl] at et
        rw [if_pos rfl]
        refine ⟨_, B4, z2, zo', R5, ?_⟩
        obtain ⟨yv, z3, et2, et⟩ := bind_ok_inv et
        have et2' : ev C p.lk el z2 = .ok yv z3 := et2
        show Post rV _ _ _ _ (ev C p.lk el z2) _
        rw [et2']
        intro v H4 B5 R6 sb5 r5
        cases ef : frz yv z3 with
        | none => rw [ef] at et; cases et
        | some q =>
          obtain ⟨r, z4⟩ := q
          rw [ef] at et
          cases et
          obtain ⟨B6, sb6, R7, r7⟩ := frz_ok R6 r5 ef
          obtain ⟨a1, a2, a3⟩ := R2.apartIn (s1 := s1) R7 hw2 no2 hs (nt_of hHL fun ps z => (nomatch z)) ap hB2
          have R8 := R2.leave (s1 := s1) R7 hw2 no2 hs
          have hr' : ((if acc.length < lim then lcL (lcTurn p.lk vs tg (fun z => evc C p.lk cond z) (fun z => ev C p.lk el z)) (ds.drop (i + 1)) (acc ++ [r]) _ else .no).bind fun rs s2 => Out.ok (AV.o (.lst rs)) (restS vs s1 s2)) = .ok av sv := hr
          split at hr'
          · rename_i hlm
            have sbb : Sub B2 B6 := sb3.trans (sb4.trans (sb5.trans sb6))
            exact ⟨us, a3, lim_lt (by rw [← ra.length]; exact hlm), B6, _, acc ++ [r], us ++ [v], R8.other a3 (fun ps z => (nomatch z)) (fun q z => (nomatch z)) a2 hH0 a1, sb2.trans sbb, hlen R7 hw2, hlt, upd_same, (ra.mono sbb).append (.cons r7 .nil), a1, a2, hr'⟩
          · cases hr'
end FL

set_option maxHeartbeats 4000000
/-! FS, dict comprehensions {k: True for ..}, len(set(..)). -/
namespace FL
open PySem PySem.Spec PyProof.Rows L2
theorem isK_key {K : PySem.W.Frag} {cA : Nat → Option Addr} {B : Hp} {k : D} {v : V} (h : k.isK = true) (r : RD K cA B k v) : ∃ q, FL.kD k = some q ∧ v = L2.kV q := by
  cases r <;> first
    | exact ⟨_, rfl, rfl⟩
    | cases h
theorem dPut_len (k v : D) (kvs : List (D × D)) : (dPut k v kvs).length ≤ kvs.length + 1 := by
  unfold dPut
  split
  · rw [List.length_map]; omega
  · rw [List.length_append]; exact Nat.le_refl _
theorem dk_len (rs : List D) : (dk rs).length ≤ rs.length := by
  have key : ∀ (rs : List D) (a : List (D × D)), (rs.foldl (fun a k => dPut k (.bl true) a) a).length ≤ a.length + rs.length := by
    intro rs
    induction rs with
    | nil => intro a; exact Nat.le_refl _
    | cons r rs ih =>
      intro a
      have h1 := ih (dPut r (.bl true) a)
      have h2 := dPut_len r (.bl true) a
      rw [List.foldl_cons, List.length_cons]
      omega
  have h := key rs []
  rw [List.length_nil, Nat.zero_add] at h
  exact h
theorem dc_ok {p : Pm} {C : Calls} {vs : List Nat} {tg : Tg} {it : I} {cond : Eo} {el : E} {σ : L2.St} {H : Hp} {Q : VK} (htg : tgIn vs tg = true) (h : tE p C (.dcT vs tg it cond el) σ H Q) : tDc (tI p C it) (gOf p.K tg) (tC0 p C cond) (tE p.in_ C el) (tC (.bl true)) vs σ H Q := by
  obtain ⟨Z, B, s, zo, R, h⟩ := h
  unfold ev at h
  obtain ⟨av, sv, e0, h⟩ := noEx_ok h
  obtain ⟨ds, s1, e1, e2⟩ := bind_ok_inv e0
  refine ⟨Z, B, s, zo, R, ?_⟩
  rw [e1]
  intro J H1 B1 R1 sb1 w1
  unfold dcRun at e2
  split at e2
  rotate_left
  · cases e2
  rename_i hgd
  rw [Bool.and_eq_true] at hgd
  obtain ⟨no, h0'⟩ := hgd
  have h0 : ∀ i, Z.lk.testBit i = true → i ∉ vs := fun i e q => by
    rw [zo.lk] at e
    have : (vs.any fun j => p.lk.testBit j) = true := List.any_eq_true.mpr ⟨i, q, e⟩
    rw [this] at h0'
    cases h0'
  intro L hL
  refine ⟨fun i m H => ∃ B2 z acc ws, Rep Z B2 (restS vs s1 z) σ H ∧ Sub B1 B2 ∧ z.length = s1.length ∧ i ≤ ds.length ∧ m = ds.length - i ∧ H L = some (.dK ws) ∧ RDk Z.K Z.cA B2 (dk acc) ws ∧ Apart (restS vs s1 z) σ L ∧ B2 L = none ∧
    ((lcL (dcTurn p.lk vs tg (fun z => evc C p.lk cond z) (fun z => ev C p.lk el z)) (ds.drop i) acc z).bind fun rs s2 => Out.ok (AV.o (.dct false (dk rs))) (restS vs s1 s2)) = .ok av sv, ⟨ds.length, B1, s1, [], [], ?_⟩, ?_⟩
  · rw [rest_self]
    exact ⟨R1.new hL, Sub.refl B1, rfl, Nat.zero_le _, rfl, upd_same, .nil, R1.apart hL, R1.sub.nn hL, by rw [List.drop_zero]; exact e2⟩
  rintro i m H2 ⟨B2, z, acc, ws, R2, sb2, hz, hi, hm, hHL, ra, ap, hB2, hr⟩
  have w2 := w1.mono sb2
  have hH0 : Z.H0 L = none := R1.dom L (nt_none hL)
  rcases Nat.lt_or_ge i ds.length with hlt | hge
  rotate_left
  · have ei : i = ds.length := Nat.le_antisymm hi hge
    refine .inl ⟨?_, ?_⟩
    · rw [ei]; exact w2.stop H2 R2.sub
    · rw [ei, List.drop_length] at hr
      unfold lcL at hr
      have hr' : Out.ok (AV.o (.dct false (dk acc))) (restS vs s1 z) = .ok av sv := hr
      cases hr'
      exact h _ _ B2 R2 (sb1.trans sb2) (.o ⟨hB2, .inl hH0, .dK hHL ra⟩ ap)
  · refine .inr ⟨w2.go i H2 R2.sub hlt, fun H' => ∃ B2 z acc ws, Rep Z B2 (restS vs s1 z) σ H' ∧ Sub B1 B2 ∧ z.length = s1.length ∧ i + 1 ≤ ds.length ∧ H' L = some (.dK ws) ∧ RDk Z.K Z.cA B2 (dk acc) ws ∧ Apart (restS vs s1 z) σ L ∧ B2 L = none ∧
      ((lcL (dcTurn p.lk vs tg (fun z => evc C p.lk cond z) (fun z => ev C p.lk el z)) (ds.drop (i + 1)) acc z).bind fun rs s2 => Out.ok (AV.o (.dct false (dk rs))) (restS vs s1 s2)) = .ok av sv, ?_, fun x H' y => ?_⟩
    · rintro H' ⟨B3, z3, acc3, us3, g1, g2, g3, g4, g5, g6, g7, g8, g9⟩
      exact ⟨ds.length - (i + 1), by omega, B3, z3, acc3, us3, g1, g2, g3, g4, rfl, g5, g6, g7, g8, g9⟩
    have hd : ds[i]? = some ds[i] := List.getElem?_eq_getElem hlt
    have yy := w2.yld i H2 x H' _ R2.sub y hd
    rw [List.drop_eq_getElem_cons hlt] at hr
    unfold lcL at hr
    -- the restored state has the same own names
    have hs : ∀ j, j ∈ vs → j < (restS vs s1 z).length → getS (restS vs s1 z) j = getS s1 j := fun j hj hl => by
      rw [getS_rest, if_pos ⟨hj, by rw [restS_len] at hl; exact hl⟩]
    have no2 : noOwn vs (restS vs s1 z) = true := by
      unfold noOwn
      refine List.all_eq_true.mpr fun j hj => ?_
      have q := List.all_eq_true.mp no j hj
      have key := getS_rest (vs := vs) (s0 := s1) (z := z) (j := j)
      by_cases hn : j ∈ vs ∧ j < z.length
      · rw [if_pos hn] at key
        rw [key]
        exact q
      · rw [if_neg hn] at key
        have : ¬ j < z.length := fun w => hn ⟨hj, w⟩
        have k2 : getS z j = none := by unfold getS; rw [List.getElem?_eq_none (Nat.le_of_not_lt this)]
        rw [key, k2]
    have Ri := R2.enter no2 h0
    obtain ⟨B3, sb3, R3, r3⟩ := Yld.rep (Z := Z.in_ B2 H2 (restS vs s1 z) σ) Ri yy
    rw [wipe_rest] at R3
    obtain ⟨⟨o2, s3⟩, s3', ed, hr⟩ : ∃ (q : Option D × S) (s3' : S), dcTurn p.lk vs tg (fun z => evc C p.lk cond z) (fun z => ev C p.lk el z) ds[i] z = .ok q.1 q.2 ∧ _ := by
      obtain ⟨a, s4, g1, g2⟩ := bind_ok_inv hr
      obtain ⟨b, s5, g3, g4⟩ := bind_ok_inv g1
      exact ⟨(b, s5), s5, g3, hr⟩
    rw [ed] at hr
    unfold dcTurn at ed
    obtain ⟨o3, s4, et, ed⟩ := bind_ok_inv ed
    unfold lcTurn at et
    cases eb : bindTg p.lk tg ds[i] (wipeS vs z) with
    | none => rw [eb] at et; cases et
    | some z1 =>
      rw [eb] at et
      have hlen : ∀ {z' : S} {σ' : L2.St} {B' H'' : Hp}, Rep (Z.in_ B2 H2 (restS vs s1 z) σ) B' z' σ' H'' → wipe σ' vs = wipe σ vs → z'.length = s1.length := fun {z' σ' B' H''} r hw => by
        have q := congrArg List.length hw
        rw [wipe_length, wipe_length] at q
        rw [r.len, q, ← R2.len, restS_len]; exact hz
      have zo' : ZOk p.in_ (Z.in_ B2 H2 (restS vs s1 z) σ) := ⟨zo.K, zo.cA, zo.xA, zo.lk, zo.ex, fun _ _ z => nomatch z⟩
      have eb' : bindTg (Z.in_ B2 H2 (restS vs s1 z) σ).lk tg ds[i] (wipeS vs z) = some z1 := by
        have : (Z.in_ B2 H2 (restS vs s1 z) σ).lk = p.lk := zo.lk
        rw [this]; exact eb
      rw [← zo.K]
      refine bind_ok (Z := Z.in_ B2 H2 (restS vs s1 z) σ) R3 eb' r3 fun σ2 R4 hw => ⟨?_, ?_⟩
      · rw [hw vs htg]
        have : ∀ ws : List Nat, wipe (wipe σ vs) ws = wipe (wipe σ vs) ws := fun _ => rfl
        refine List.ext_getElem? fun j => ?_
        by_cases q : j ∈ vs
        · have key : ∀ (τ : L2.St) (ws : List Nat), j ∈ ws → (wipe τ ws)[j]? = if j < τ.length then some none else none := by
            intro τ ws
            induction ws with
            | nil => intro w; cases w
            | cons w ws ih =>
              intro hj
              unfold wipe
              rw [List.getElem?_set, wipe_length]
              by_cases e : w = j
              · rw [if_pos e]; subst e; rfl
              · rw [if_neg e]
                rcases List.mem_cons.mp hj with z | z
                · exact absurd z.symm e
                · exact ih z
          rw [key _ vs q, key _ vs q, wipe_length]
        · rw [wipe_out q]
      have hw2 : wipe σ2 vs = wipe σ vs := by
        rw [hw vs htg]
        refine List.ext_getElem? fun j => ?_
        by_cases q : j ∈ vs
        · have key : ∀ (τ : L2.St) (ws : List Nat), j ∈ ws → (wipe τ ws)[j]? = if j < τ.length then some none else none := by
            intro τ ws
            induction ws with
            | nil => intro w; cases w
            | cons w ws ih =>
              intro hj
              unfold wipe
              rw [List.getElem?_set, wipe_length]
              by_cases e : w = j
              · rw [if_pos e]; subst e; rfl
              · rw [if_neg e]
                rcases List.mem_cons.mp hj with z | z
                · exact absurd z.symm e
                · exact ih z
          rw [key _ vs q, key _ vs q, wipe_length]
        · rw [wipe_out q]
      refine ⟨_, B3, z1, zo', R4, ?_⟩
      obtain ⟨b, z2, et1, et⟩ := bind_ok_inv et
      have et1' : evc C p.lk cond z1 = .ok b z2 := et1
      show Post rB _ _ _ _ (evc C p.lk cond z1) _
      rw [et1']
      intro b' H3 B4 R5 sb4 eb''
      have ebb : b = b' := eb''
      subst ebb
      cases b with
      | false =>
        rw [if_neg (by decide)] at et
        cases et
        cases ed
        rw [if_neg (by decide)]
        obtain ⟨a1, a2, a3⟩ := R2.apartIn (s1 := s1) R5 hw2 no2 hs (nt_of hHL fun ps z => (nomatch z)) ap hB2
        have R6 := R2.leave (s1 := s1) R5 hw2 no2 hs
        exact ⟨B4, _, acc, ws, R6, sb2.trans (sb3.trans sb4), hlen R5 hw2, hlt, a3, ra.mono (sb3.trans sb4), a1, a2, hr⟩
      | true =>
        rw [if_pos rfl] at et
        rw [if_pos rfl]
        refine ⟨_, B4, z2, zo', R5, ?_⟩
        obtain ⟨yv, z3, et2, et⟩ := bind_ok_inv et
        have et2' : ev C p.lk el z2 = .ok yv z3 := et2
        show Post rV _ _ _ _ (ev C p.lk el z2) _
        rw [et2']
        intro v H4 B5 R6 sb5 r5
        cases ef : frz yv z3 with
        | none => rw [ef] at et; cases et
        | some q =>
          obtain ⟨r, z4⟩ := q
          rw [ef] at et
          cases et
          simp only at ed
          split at ed
          rotate_left
          · cases ed
          rename_i hk
          cases ed
          obtain ⟨B6, sb6, R7, r7⟩ := frz_ok R6 r5 ef
          obtain ⟨a1, a2, a3⟩ := R2.apartIn (s1 := s1) R7 hw2 no2 hs (nt_of hHL fun ps z => (nomatch z)) ap hB2
          have R8 := R2.leave (s1 := s1) R7 hw2 no2 hs
          have hr' : ((if acc.length < lim then lcL (dcTurn p.lk vs tg (fun z => evc C p.lk cond z) (fun z => ev C p.lk el z)) (ds.drop (i + 1)) (acc ++ [r]) _ else .no).bind fun rs s2 => Out.ok (AV.o (.dct false (dk rs))) (restS vs s1 s2)) = .ok av sv := hr
          split at hr'
          · rename_i hlm
            have sbb : Sub B2 B6 := sb3.trans (sb4.trans (sb5.trans sb6))
            obtain ⟨kq, ek, ev'⟩ := isK_key hk r7
            have hdk : dk (acc ++ [r]) = dPut r (.bl true) (dk acc) := by unfold dk; rw [List.foldl_append]; rfl
            refine ⟨ws, kq, ev', a3, lim_lt (by rw [← ra.length]; exact Nat.lt_of_le_of_lt (dk_len acc) hlm), B6, _, acc ++ [r], putK ws kq (.bl true), R8.other a3 (fun ps z => (nomatch z)) (fun q z => (nomatch z)) a2 hH0 a1, sb2.trans sbb, hlen R7 hw2, hlt, upd_same, ?_, a1, a2, hr'⟩
            rw [hdk]
            exact (ra.mono sbb).put ek (.bl true)
          · cases hr'
/-! ### len(set(xs)) -/
theorem nsetL_met (ns : List Int) : ∀ i, i ≤ ns.length → firstMet (fun i => ns.getD i 0) i = nsetL (ns.take i)
  | 0, _ => rfl
  | i + 1, hi => by
    have hlt : i < ns.length := hi
    have e1 : ns.getD i 0 = ns[i] := by
      rw [List.getD_eq_getElem?_getD, List.getElem?_eq_getElem hlt] <;> rfl
    have e2 : ns.take (i + 1) = ns.take i ++ [ns[i]] := by
      rw [List.take_add_one, List.getElem?_eq_getElem hlt] <;> rfl
    rw [firstMet_succ, nsetL_met ns i (Nat.le_of_lt hlt), e2]
    have e3 : nsetL (ns.take i ++ [ns[i]]) = if ((nsetL (ns.take i)).any (· == ns[i])) = true then nsetL (ns.take i) else nsetL (ns.take i) ++ [ns[i]] := by
      unfold nsetL
      rw [List.foldl_append]
      rfl
    rw [e3]
    show (if (nsetL (ns.take i)).any (· == ns.getD i 0) then nsetL (ns.take i) else nsetL (ns.take i) ++ [ns.getD i 0]) = _
    rw [e1]
theorem nsetL_len (ns : List Int) : (nsetL ns).length ≤ ns.length := by
  have key : ∀ (ns a : List Int), (ns.foldl (fun a x => if (a.any (· == x)) = true then a else a ++ [x]) a).length ≤ a.length + ns.length := by
    intro ns
    induction ns with
    | nil => intro a; exact Nat.le_refl _
    | cons x ns ih =>
      intro a
      rw [List.foldl_cons, List.length_cons]
      split
      · have := ih a; omega
      · have := ih (a ++ [x]); rw [List.length_append] at this; simp only [List.length_cons, List.length_nil] at this; omega
  have h := key ns []
  rw [List.length_nil, Nat.zero_add] at h
  exact h
def tNset (K : PySem.W.Frag) (ta : TE) : TE := fun σ H Q => ta σ H fun x H1 => ∃ (l : Addr) (ns : List Int), x = .ref l ∧ SqL K H1 l (ns.map V.int) ∧ ns.length ≤ 4000 ∧ Q (.int ((nsetL ns).length : Nat)) H1
theorem pe_nset {X : Cx} {a : Expr} {ta : TE} {p p2 q pos : Pos} (hg : Gl X "len") (hm : X.mg "len" = none) (hg2 : Gl X "set") (hm2 : X.mg "set" = none) (ha : PE X a ta) (hc : X.calm = true)
    (na : starEach [a] X.env = (false, eval a X.env) :: starEach [] X.env) : PE X (.Call (.Name "len" p) [.Call (.Name "set" p2) [a] [] q] [] pos) (tNset X.K ta) := by
  refine ⟨fun pins s σ H Q I h => ?_⟩
  refine Call_ (ld_blt I hg hm boot_len ?_)
  refine PyProof.Rows.callWith_builtin1 (PyProof.Rows.args_cons ?_ rfl) rfl rfl
  refine Call_ (ld_blt I hg2 hm2 boot_set ?_)
  refine PyProof.Rows.callWith_type1 (PyProof.Rows.args_cons (thn (ha.run pins s σ H _ I h) fun v s1 ⟨x, H1, I1, r1, q1⟩ => PyProof.Rows.args_nil ?_) na) na rfl
  obtain ⟨l, ns, rfl, hq, hl, q1⟩ := q1
  cases r1
  obtain ⟨its, r, pl, hz⟩ := I1.list hq
  have hlen : its.toArray.size = ns.length := by rw [List.size_toArray, ← r.length, List.length_map]
  refine call_set_list (I1.ok.hd hc) pl.isList (by simpa using RZ.intsAre_vals r) (by rw [hlen]; unfold scanBound; omega) fun h' tk hS hk => ?_
  refine PyProof.Rows.args_nil ?_
  rw [hlen, nsetL_met ns ns.length (Nat.le_refl _), List.take_length] at hS
  have hle := nsetL_len ns
  obtain ⟨o, es, ep, t, ho, hex, hd, _, _, _, hf, hn⟩ := hS
  have I2 : Inv X pins σ H1 { s1 with heap := h', toks := tk } := I1.kept fun b o e => hk b o (Heap.lt_size e) e
  exact call_len_set ho hex hd hf (by rw [hn] <;> omega) ⟨.int (nsetL ns).length, H1, I2.tok _, ⟨_, by rw [hn]⟩, q1⟩
theorem se_nset {p : Pm} {C : Calls} {X : Cx} {x : Expr} {a : E} {pf p2 q pos : Pos} (hK : X.K = p.K) (hg : Gl X "len") (hm : X.mg "len" = none) (hg2 : Gl X "set") (hm2 : X.mg "set" = none) (ha : PE X x (tE p C a)) (hc : X.calm = true)
    (na : starEach [x] X.env = (false, eval x X.env) :: starEach [] X.env) : PE X (.Call (.Name "len" pf) [.Call (.Name "set" p2) [x] [] q] [] pos) (tE p C (.nset a)) := by
  refine (pe_nset hg hm hg2 hm2 ha hc na).imp fun σ H Q h => ?_
  obtain ⟨Z, B, s, zo, R, h⟩ := h
  unfold ev at h
  refine ⟨Z, B, s, zo, R, Post.bind h fun x1 s1 v1 H1 B1 R1 sb1 r1 h1 => ?_⟩
  have hZ : X.K = Z.K := hK.trans zo.K.symm
  rw [hZ]
  split at h1
  · rename_i ds e
    split at h1
    · rename_i ns he
      split at h1
      · rename_i hl
        obtain ⟨B2, sb2, R2, r2⟩ := pend_ok R1 r1
        have t := view_ok R2 r2 e
        obtain ⟨l, ws, rfl, hs, r⟩ := t.lst_inv R2.sub
        rw [r.ints he] at hs
        exact ⟨l, ns, rfl, .inl (.inl hs), hl, Post.flat R2 (.int _) (h1.mono sb2)⟩
      · exact h1.elim
    · exact h1.elim
  · exact h1.elim
end FL

set_option maxHeartbeats 4000000
/-! FS, part 10: statements. -/
namespace FL
open PySem PySem.Spec PyProof.Rows L2

section
variable {p : Pm} {C : Calls} {X : Cx} {pos : Pos} {x y z : Expr} {xs : List Expr} {a b c : E} {es : Es}
theorem st_none : PTs X [] (tX rB p (evc C p.lk .none)) := ⟨fun pins s σ H Q I h => by
  obtain ⟨Z, B, s', zo, R, h⟩ := h
  exact pts_nil.run pins s σ H Q I (h _ _ B R (Sub.refl B) rfl)⟩
theorem evc_some {σ : L2.St} {H : Hp} {Q : Bool → Hp → Prop} {e : E} (h : tX rB p (evc C p.lk (.some e)) σ H Q) : tT p C e σ H Q := h
theorem st_some {e : E} (h : PT X x (tT p C e)) : PTs X [x] (tX rB p (evc C p.lk (.some e))) := pts_one ⟨fun pins s σ H Q I hw => h.run pins s σ H Q I (evc_some hw)⟩
end

/-- the value that a body hands back -/
inductive RRet (Z : Zn) (B H : Hp) : SV → V → Prop where
  | d {d : D} {v : V} : RD Z.K Z.cA B d v → RRet Z B H (.d d) v
  | o {d : D} {a : Addr} : Own Z B H a d → (Z.lk.testBit 0 = true → a ≠ Z.ha 0) → RRet Z B H (.o d) (.ref a)
def PostS (Z : Zn) (W : WX) (B : Hp) (o : Out FL.Flow) (D : Ends) : Prop := match o with
  | .ok .nx s' => ∀ σ' H' B', Rep Z B' s' σ' H' → Sub B B' → D.nx σ' H'
  | .ok .bk s' => ∀ σ' H' B', Rep Z B' s' σ' H' → Sub B B' → D.bk σ' H'
  | .ok .ct s' => ∀ σ' H' B', Rep Z B' s' σ' H' → Sub B B' → D.ct σ' H'
  | .ok (.rt w) s' => ∀ v σ' H' B', Rep Z B' s' σ' H' → Sub B B' → RRet Z B' H' w v → D.rt v H'
  | .ex x s' => ∀ c d σ' H' B', Rep Z B' s' σ' H' → Sub B B' → XR Z B' H' x c d → W c d σ' H'
  | .no => False
def tS1 (p : Pm) (C : Calls) (t : T) : TS := fun D σ H => ∃ Z B s, ZOk p Z ∧ Rep Z B s σ H ∧ PostS Z p.W B (ex C p.lk t s) D
def tSs (p : Pm) (C : Calls) (ts : Ts) : TS := fun D σ H => ∃ Z B s, ZOk p Z ∧ Rep Z B s σ H ∧ PostS Z p.W B (exs C p.lk ts s) D
section
variable {α β : Type} {R : Rl α β} {Z : Zn} {W : WX} {B B' H : Hp} {s : S} {σ : L2.St} {D : Ends}
theorem PostS.mono {o : Out FL.Flow} (sb : Sub B B') (h : PostS Z W B o D) : PostS Z W B' o D := by
  cases o with
  | ok a s' =>
    cases a with
    | nx => exact fun σ' H' B'' r sb' => h σ' H' B'' r (sb.trans sb')
    | bk => exact fun σ' H' B'' r sb' => h σ' H' B'' r (sb.trans sb')
    | ct => exact fun σ' H' B'' r sb' => h σ' H' B'' r (sb.trans sb')
    | rt w => exact fun v σ' H' B'' r sb' => h v σ' H' B'' r (sb.trans sb')
  | ex x s' => exact fun c d σ' H' B'' r sb' => h c d σ' H' B'' r (sb.trans sb')
  | no => exact h
theorem PostS.bind {o : Out α} {g : α → S → Out FL.Flow} {Q : β → Hp → Prop} (h : PostS Z W B (o.bind g) D)
    (k : ∀ a s b H' B', Rep Z B' s σ H' → Sub B B' → R Z B' H' s σ a b → PostS Z W B' (g a s) D → Q b H') : Post R Z W B σ o Q := by
  cases o with
  | ok a s' => exact fun b H' B' r sb ra => k a s' b H' B' r sb ra (PostS.mono sb h)
  | ex x s' => exact fun c d H' B' r sb xr => h c d σ H' B' r sb xr
  | no => exact h
theorem PostS.next (h : PostS Z W B (.ok .nx s) D) (R : Rep Z B s σ H) : D.nx σ H := h σ H B R (Sub.refl B)
end
/-- what follows a statement -/
def thenF (k : S → Out FL.Flow) (f : FL.Flow) (s : S) : Out FL.Flow := match f with
  | .nx => k s
  | f => .ok f s
theorem exs_cons {C : Calls} {lk : Nat} {t : T} {ts : Ts} {s : S} : exs C lk (.cons t ts) s = (ex C lk t s).bind (thenF fun z => exs C lk ts z) := by
  conv => lhs; unfold exs
  congr 1
theorem PostS.seq {p : Pm} {C : Calls} {ts : Ts} {Z : Zn} {B : Hp} {D : Ends} {o : Out FL.Flow} (zo : ZOk p Z) (h : PostS Z p.W B (o.bind (thenF fun z => exs C p.lk ts z)) D) : PostS Z p.W B o { D with nx := tSs p C ts D } := by
  cases o with
  | ok a s' =>
    cases a with
    | nx => exact fun σ' H' B' r sb => ⟨Z, B', s', zo, r, PostS.mono sb h⟩
    | bk => exact h
    | ct => exact h
    | rt w => exact h
  | ex x s' => exact h
  | no => exact h

section
variable {p : Pm} {C : Calls} {X : Cx} {pos : Pos} {x y z : Expr} {xs : List Expr} {a b c : E} {es : Es} {st : Stmt} {rest : List Stmt} {t : T} {ts us : Ts}
theorem sss_nil : PSs X [] (tSs p C .nil) := pss_nil.imp fun D σ H h => by
  obtain ⟨Z, B, s, zo, R, h⟩ := h
  unfold exs at h
  exact h σ H B R (Sub.refl B)
theorem sss_cons (h1 : PS X st (tS1 p C t)) (h2 : PSs X rest (tSs p C ts)) : PSs X (st :: rest) (tSs p C (.cons t ts)) := (pss_cons h1 h2).imp fun D σ H h => by
  obtain ⟨Z, B, s, zo, R, h⟩ := h
  rw [exs_cons] at h
  exact ⟨Z, B, s, zo, R, h.seq zo⟩
theorem ss_pass : PS X (.Pass pos) (tS1 p C .pass) := ps_pass.imp fun D σ H h => by
  obtain ⟨Z, B, s, zo, R, h⟩ := h
  unfold ex at h
  exact h σ H B R (Sub.refl B)
theorem ss_doc {x : Str} {j : Nat} {pos' : Pos} : PS X (.Expr (.Constant (.str x) j pos) pos') (tS1 p C .pass) := ps_doc.imp fun D σ H h => by
  obtain ⟨Z, B, s, zo, R, h⟩ := h
  unfold ex at h
  exact h σ H B R (Sub.refl B)
theorem ss_brk : PS X (.Break pos) (tS1 p C .brk) := ps_break.imp fun D σ H h => by
  obtain ⟨Z, B, s, zo, R, h⟩ := h
  unfold ex at h
  exact h σ H B R (Sub.refl B)
theorem ss_cnt : PS X (.Continue pos) (tS1 p C .cnt) := ps_continue.imp fun D σ H h => by
  obtain ⟨Z, B, s, zo, R, h⟩ := h
  unfold ex at h
  exact h σ H B R (Sub.refl B)
theorem ss_raise : PS X st (tS1 p C .raise) := ps_never.imp fun D σ H h => by
  obtain ⟨Z, B, s, zo, R, h⟩ := h
  unfold ex at h
  exact h
theorem ss_retN : PS X (.Return none pos) (tS1 p C .retN) := ps_retN.imp fun D σ H h => by
  obtain ⟨Z, B, s, zo, R, h⟩ := h
  unfold ex at h
  exact h .non σ H B R (Sub.refl B) (.d .non)
theorem ss_expr (ha : PE X x (tE p C a)) (hs : swapsWith x none pos.line X.env = pure false) : PS X (.Expr x pos) (tS1 p C (.expr a)) := (ps_expr ha hs).imp fun D σ H h => by
  obtain ⟨Z, B, s, zo, R, h⟩ := h
  unfold ex at h
  exact ⟨Z, B, s, zo, R, PostS.bind h fun x s1 v1 H1 B1 R1 sb1 r1 h1 => h1 σ H1 B1 R1 (Sub.refl B1)⟩
theorem keepV_ok {Z : Zn} {B H : Hp} {s s' : S} {σ : L2.St} {x : AV} {v : V} {w : SV} (R : Rep Z B s σ H) (r : RA Z B H s σ x v) (e : keepV x s = some (w, s')) :
    ∃ B', Sub B B' ∧ Rep Z B' s' σ H ∧ ((∃ d, w = .d d ∧ RD Z.K Z.cA B' d v) ∨ ∃ d a, w = .o d ∧ v = .ref a ∧ Own Z B' H a d ∧ Apart s' σ a) := by
  unfold keepV at e
  split at e
  · cases e
    cases r with
    | d r => exact ⟨B, Sub.refl B, R, .inl ⟨_, rfl, r⟩⟩
  · cases e
    cases r with
    | o r ap => exact ⟨B, Sub.refl B, R, .inr ⟨_, _, rfl, rfl, r, ap⟩⟩
  · split at e
    · rename_i d s1 ef
      cases e
      obtain ⟨B', sb, R', r'⟩ := frz_ok R r ef
      exact ⟨B', sb, R', .inl ⟨_, rfl, r'⟩⟩
    · cases e
theorem ss_asg {i : Nat} {n : Str} {pos' : Pos} (hs : PS X (.Assign [.Name n pos'] x pos) (tAsg (tE p C a) (gName i))) : PS X (.Assign [.Name n pos'] x pos) (tS1 p C (.asg i a)) := hs.imp fun D σ H h => by
  obtain ⟨Z, B, s, zo, R, h⟩ := h
  unfold ex at h
  refine ⟨Z, B, s, zo, R, PostS.bind h fun x s1 v1 H1 B1 R1 sb1 r1 h1 => ?_⟩
  cases e : keepV x s1 with
  | none => rw [e] at h1; exact h1.elim
  | some q =>
    obtain ⟨w, s2⟩ := q
    rw [e] at h1
    simp only at h1
    obtain ⟨B2, sb2, R2, r2⟩ := keepV_ok R1 r1 e
    rw [← zo.lk] at h1
    cases e2 : put Z.lk s2 i w with
    | none => rw [e2] at h1; exact h1.elim
    | some s3 =>
      rw [e2] at h1
      rcases r2 with ⟨d, rfl, r2⟩ | ⟨d, a, rfl, rfl, ow, ap⟩
      · exact h1 _ _ B2 (R2.put e2 r2) sb2
      · exact h1 _ _ B2 (R2.putO e2 ow ap) sb2
theorem ss_asgT {is : List Nat} {tg : Expr} (hs : PS X (.Assign [tg] x pos) (tAsg (tE p C a) (gTL p.K is.length (gsOf is)))) : PS X (.Assign [tg] x pos) (tS1 p C (.asgT is a)) := hs.imp fun D σ H h => by
  obtain ⟨Z, B, s, zo, R, h⟩ := h
  unfold ex at h
  refine ⟨Z, B, s, zo, R, PostS.bind h fun x s1 v1 H1 B1 R1 sb1 r1 h1 => ?_⟩
  split at h1
  · rename_i d
    cases r1 with
    | d r1 =>
      cases e2 : bindTg p.lk (.t is) d s1 with
      | none => rw [e2] at h1; exact h1.elim
      | some s3 =>
        rw [e2] at h1
        rw [← zo.K]
        rw [← zo.lk] at e2
        exact .inl (bind_ok R1 e2 r1 fun σ' R' _ => h1 _ _ B1 R' (Sub.refl B1))
  · rename_i ds
    cases r1 with
    | o ow ap =>
      cases ow.own with
      | lst h2 r =>
        unfold bindTg at h1
        simp only at h1
        split at h1
        · rename_i hl
          cases e2 : putTs p.lk s1 is ds with
          | none => rw [e2] at h1; exact h1.elim
          | some s3 =>
            rw [e2] at h1
            rw [← zo.lk] at e2
            refine .inr ⟨_, _, rfl, .inl (.inl h2), by rw [← r.length]; exact hl.symm, ?_⟩
            exact puts_ok R1 e2 r fun σ' R' _ => h1 _ _ B1 R' (Sub.refl B1)
        · exact h1.elim
  · exact h1.elim
/-! ### several at once: what is new stays one's own while the rest is reckoned -/
/-- a thing that waits, guarded -/
def Zn.gd (Z : Zn) (a : Addr) (o : HO) : Zn := { Z with H0 := fun b => if b = a then some o else Z.H0 b, wr := fun b => Z.wr b ∧ b ≠ a }
theorem Rep.gd {Z : Zn} {B H : Hp} {s : S} {σ : L2.St} {a : Addr} {o : HO} (R : Rep Z B s σ H) (hB : B a = none) (hH : nt H a = some o) (ap : Apart s σ a) : Rep (Z.gd a o) B s σ H where
  len := R.len
  sub := R.sub
  fr := fun b x e w => by
    have e' : (if b = a then some o else Z.H0 b) = some x := e
    by_cases q : b = a
    · rw [if_pos q] at e'
      rw [q, nt_some hH]; exact e'
    · rw [if_neg q] at e'
      exact R.fr b x e' fun z => w ⟨z, q⟩
  dom := fun b e => by
    show (if b = a then some o else Z.H0 b) = none
    have q : b ≠ a := fun q => by rw [q, hH] at e; cases e
    rw [if_neg q]
    exact R.dom b e
  tab := R.tab
  b0 := R.b0
  bn := fun b x e => by
    have q : b ≠ a := fun q => by rw [q, hB] at e; cases e
    show Z.B0 b = some x ∨ (if b = a then some o else Z.H0 b) = none ∨ (Z.wr b ∧ b ≠ a)
    rw [if_neg q]
    rcases R.bn b x e with z | z | z
    · exact .inl z
    · exact .inr (.inl z)
    · exact .inr (.inr ⟨z, q⟩)
  dat := R.dat
  own := fun i d e => by
    obtain ⟨b, h1, h2⟩ := R.own i d e
    have q : b ≠ a := fun q => ap i d e (by rw [h1, q])
    refine ⟨b, h1, h2.out, ?_, h2.own⟩
    show (if b = a then some o else Z.H0 b) = none ∨ (Z.wr b ∧ b ≠ a)
    rw [if_neg q]
    exact h2.mine.imp id fun z => ⟨z, q⟩
  dis := R.dis
  lk0 := R.lk0
theorem gd_ok {p : Pm} {Z : Zn} (zo : ZOk p Z) {a : Addr} {o : HO} (m : Z.H0 a = none ∨ Z.wr a) : ZOk p (Z.gd a o) := ⟨zo.K, zo.cA, zo.xA, zo.lk, zo.ex, fun H0 B0 e => by
  obtain ⟨g1, g2⟩ := zo.fz H0 B0 e
  refine ⟨g1, fun b x q => ?_⟩
  obtain ⟨g3, g4⟩ := g2 b x q
  have ne : b ≠ a := fun z => by
    rw [z] at g3 g4
    rcases m with m | m
    · rw [g3] at m; cases m
    · exact g4 m
  exact ⟨(if_neg ne).trans g3, fun z => g4 z.1⟩⟩
theorem Own.gd_ne {Z : Zn} {B H : Hp} {a b : Addr} {o : HO} {d : D} (h : Own (Z.gd a o) B H b d) : b ≠ a := by
  intro q
  rcases h.mine with z | z
  · have z' : (if b = a then some o else Z.H0 b) = none := z
    rw [if_pos q] at z'
    cases z'
  · exact z.2 q
theorem Own.ungd {Z : Zn} {B H : Hp} {a b : Addr} {o : HO} {d : D} (h : Own (Z.gd a o) B H b d) : Own Z B H b d := by
  refine ⟨h.out, ?_, h.own⟩
  rcases h.mine with z | z
  · have z' : (if b = a then some o else Z.H0 b) = none := z
    rw [if_neg h.gd_ne] at z'
    exact .inl z'
  · exact .inr z.1
theorem Rep.ungd {Z : Zn} {B H B2 H2 : Hp} {s s2 : S} {σ : L2.St} {a : Addr} {o : HO} {d : D} (R : Rep Z B s σ H) (ow : Own Z B H a d) (hH : H a = some o) (R2 : Rep (Z.gd a o) B2 s2 σ H2) (sb : Sub B B2) : Rep Z B2 s2 σ H2 ∧ Own Z B2 H2 a d ∧ Apart s2 σ a := by
  have hH2 : H2 a = some o := R2.fr a o (if_pos rfl) fun z => z.2 rfl
  have hB2 : B2 a = none := by
    cases e : B2 a with
    | none => rfl
    | some x =>
      rcases R2.bn a x e with z | z | z
      · have := R.b0 a x z
        rw [ow.out] at this
        cases this
      · have z' : (if a = a then some o else Z.H0 a) = none := z
        rw [if_pos rfl] at z'
        cases z'
      · exact absurd rfl z.2
  have dom1 : ∀ b, (if b = a then some o else Z.H0 b) = none → Z.H0 b = none := fun b z => by
    by_cases q : b = a
    · rw [if_pos q] at z; cases z
    · rw [if_neg q] at z; exact z
  refine ⟨⟨R2.len, R2.sub, fun b x e w => ?_, fun b e => dom1 b (R2.dom b e), R2.tab, R2.b0, fun b x e => ?_, R2.dat, fun i d e => ?_, R2.dis, R2.lk0⟩, ⟨hB2, ow.mine, (ow.own.mono sb).heap (hH2.trans hH.symm)⟩, fun i d e q => ?_⟩
  · by_cases q : b = a
    · have := R.fr b x e w
      rw [q, hH] at this
      rw [q, hH2]; exact this
    · exact R2.fr b x ((if_neg q).trans e) fun z => w z.1
  · rcases R2.bn b x e with z | z | z
    · exact .inl z
    · exact .inr (.inl (dom1 b z))
    · exact .inr (.inr z.1)
  · obtain ⟨b, h1, h2⟩ := R2.own i d e
    exact ⟨b, h1, h2.ungd⟩
  · obtain ⟨b, h1, h2⟩ := R2.own i d e
    rw [h1] at q
    cases q
    exact h2.gd_ne rfl
/-- what is to be stored -/
inductive RKs (Z : Zn) (B H : Hp) (s : S) (σ : L2.St) : List SV → List V → Prop where
  | nil : RKs Z B H s σ [] []
  | d {d : D} {v : V} {ws : List SV} {vs : List V} : RD Z.K Z.cA B d v → RKs Z B H s σ ws vs → RKs Z B H s σ (.d d :: ws) (v :: vs)
  | o {d : D} {a : Addr} {ws : List SV} {vs : List V} : Own Z B H a d → Apart s σ a → (∀ (j : Nat) (e : D), ws[j]? = some (.o e) → vs[j]? ≠ some (.ref a)) → RKs Z B H s σ ws vs → RKs Z B H s σ (.o d :: ws) (.ref a :: vs)
theorem RKs.ungd {Z : Zn} {B H : Hp} {s : S} {σ : L2.St} {a : Addr} {o : HO} : ∀ {ws : List SV} {vs : List V}, RKs (Z.gd a o) B H s σ ws vs → RKs Z B H s σ ws vs ∧ ∀ (j : Nat) (e : D), ws[j]? = some (.o e) → vs[j]? ≠ some (.ref a)
  | _, _, .nil => ⟨.nil, fun j e h => by simp at h⟩
  | _, _, .d h r => by
    obtain ⟨g1, g2⟩ := r.ungd
    refine ⟨.d h g1, fun j e q => ?_⟩
    cases j with
    | zero => rw [List.getElem?_cons_zero] at q; cases q
    | succ j => rw [List.getElem?_cons_succ] at q ⊢; exact g2 j e q
  | _, _, .o h ap ne r => by
    obtain ⟨g1, g2⟩ := r.ungd
    refine ⟨.o h.ungd ap ne g1, fun j e q => ?_⟩
    cases j with
    | zero =>
      rw [List.getElem?_cons_zero]
      intro z
      cases z
      exact h.gd_ne rfl
    | succ j => rw [List.getElem?_cons_succ] at q ⊢; exact g2 j e q
abbrev rKs : Rl (List SV) (List V) := fun Z B H s σ a b => RKs Z B H s σ a b
abbrev tEk (p : Pm) (C : Calls) (es : Es) : TA := tX rKs p (evk C p.lk es)
theorem sk_nil : PA X [] (tEk p C .nil) := pa_nil.imp fun σ H Q h => by
  obtain ⟨Z, B, s, zo, R, h⟩ := h
  exact h _ _ B R (Sub.refl B) .nil
theorem sk_cons {e : E} (ha : PE X x (tE p C e)) (hr : PA X xs (tEk p C es)) (hs : starEach (x :: xs) X.env = (false, eval x X.env) :: starEach xs X.env) : PA X (x :: xs) (tEk p C (.cons e es)) :=
  (pa_cons ha hr hs).imp fun σ H Q h => by
    obtain ⟨Z, B, s, zo, R, h⟩ := h
    refine ⟨Z, B, s, zo, R, Post.bind h fun x s1 v1 H1 B1 R1 sb1 r1 h1 => ?_⟩
    cases e : keepV x s1 with
    | none => rw [e] at h1; exact h1.elim
    | some q =>
      obtain ⟨w, s2⟩ := q
      rw [e] at h1
      obtain ⟨B2, sb2, R2, r2⟩ := keepV_ok R1 r1 e
      replace h1 := h1.mono sb2
      rcases r2 with ⟨d, rfl, r2⟩ | ⟨d, a, rfl, rfl, ow, ap⟩
      · refine ⟨Z, B2, s2, zo, R2, Post.bind h1 fun ws s3 vs H3 B3 R3 sb3 r3 h3 => ?_⟩
        exact h3 _ _ B3 R3 (Sub.refl B3) (.d (r2.mono sb3) r3)
      · obtain ⟨o, ho, _⟩ := ow.own.some_
        refine ⟨Z.gd a o, B2, s2, gd_ok zo ow.mine, R2.gd ow.out (ow.own.ntn ho) ap, ?_⟩
        simp only at h1
        cases e3 : evk C p.lk es s2 with
        | no => rw [e3] at h1; exact h1
        | ex y s3 =>
          rw [e3] at h1
          intro c d' H' B' R' sb' xr
          exact h1 c d' H' B' (R2.ungd ow ho R' sb').1 sb' xr
        | ok ws s3 =>
          rw [e3] at h1
          intro vs H' B' R' sb' r3
          obtain ⟨g1, g2, g3⟩ := R2.ungd ow ho R' sb'
          obtain ⟨k1, k2⟩ := r3.ungd
          exact h1 _ H' B' g1 sb' (.o g2 g3 k2 k1)
theorem evk_len {C : Calls} {lk : Nat} : ∀ (es : Es) (s : S) (ds : List SV) (s' : S), evk C lk es s = .ok ds s' → ds.length = esLen es
  | .nil, s, ds, s', h => by
    unfold evk at h
    cases h; rfl
  | .cons e r, s, ds, s', h => by
    unfold evk at h
    cases h1 : ev C lk e s with
    | no => rw [h1] at h; cases h
    | ex x s1 => rw [h1] at h; cases h
    | ok x s1 =>
      rw [h1] at h
      simp only [Out.bind] at h
      cases h2 : keepV x s1 with
      | none => rw [h2] at h; cases h
      | some q =>
        obtain ⟨d, s2⟩ := q
        rw [h2] at h
        simp only at h
        cases h3 : evk C lk r s2 with
        | no => rw [h3] at h; cases h
        | ex x s1 => rw [h3] at h; cases h
        | ok ds' s3 =>
          rw [h3] at h
          cases h
          unfold esLen
          rw [List.length_cons, evk_len r s2 ds' _ h3]
theorem Apart.put {s s' : S} {σ : L2.St} {a : Addr} {i : Nat} {lk : Nat} {w : SV} {v : V} (h : FL.put lk s i w = some s') (ap : Apart s σ a) (hl : s.length = σ.length) (hv : ∀ d, w = .o d → v ≠ .ref a) : Apart s' (σ.set i (some v)) a := by
  obtain ⟨rfl, hi, h0⟩ := put_some h
  intro j d e
  rw [getS_set hi] at e
  by_cases q : j = i
  · rw [if_pos q] at e
    cases e
    rw [q, List.getElem?_set_self (by rw [← hl]; exact hi)]
    intro z
    cases z
    exact hv d rfl rfl
  · rw [if_neg q] at e
    rw [List.getElem?_set_ne (Ne.symm q)]
    exact ap j d e
theorem RKs.put {Z : Zn} {B H : Hp} {s s' : S} {σ : L2.St} {i : Nat} {lk : Nat} {w : SV} {v : V} (h : FL.put lk s i w = some s') (hl : s.length = σ.length) : ∀ {ws : List SV} {vs : List V}, RKs Z B H s σ ws vs → (∀ d, w = .o d → ∀ (j : Nat) (e : D), ws[j]? = some (.o e) → vs[j]? ≠ some v) → RKs Z B H s' (σ.set i (some v)) ws vs
  | _, _, .nil, _ => .nil
  | _, _, .d q r, hv => .d q (r.put h hl fun d e j e' z => hv d e (j + 1) e' (by rw [List.getElem?_cons_succ]; exact z))
  | _, _, .o ow ap ne r, hv => by
    refine .o ow (ap.put h hl fun d e z => ?_) ne (r.put h hl fun d e j e' z => hv d e (j + 1) e' (by rw [List.getElem?_cons_succ]; exact z))
    exact hv d e 0 _ rfl (by rw [z]; rfl)
theorem putsK_ok {Z : Zn} {B H : Hp} {s s' : S} {σ : L2.St} (R : Rep Z B s σ H) {is : List Nat} {ds : List SV} {vs : List V} (h : putKs Z.lk s is ds = some s') (r : RKs Z B H s σ ds vs) {Q : L2.St → Hp → Prop} (k : ∀ σ', Rep Z B s' σ' H → Q σ' H) : gsOf is vs σ H Q := by
  induction is generalizing s σ ds vs with
  | nil =>
    cases ds with
    | nil =>
      cases r
      unfold putKs at h
      cases h
      exact ⟨rfl, k σ R⟩
    | cons d ds => unfold putKs at h; cases h
  | cons i is ih =>
    cases ds with
    | nil => unfold putKs at h; cases h
    | cons w ds =>
      unfold putKs at h
      cases e : FL.put Z.lk s i w with
      | none => rw [e] at h; cases h
      | some s1 =>
        rw [e] at h
        cases r with
        | d q1 q2 => exact ⟨_, _, rfl, ih (R.put e q1) h (q2.put e R.len fun d z => by cases z)⟩
        | o ow ap ne q2 => exact ⟨_, _, rfl, ih (R.putO e ow ap) h (q2.put e R.len fun d z => ne)⟩
theorem ss_par2 {i j : Nat} (hs : PS X st (tPar i j (tEk p C es))) (hl : esLen es = 2) : PS X st (tS1 p C (.par [i, j] es)) := hs.imp fun D σ H h => by
  obtain ⟨Z, B, s, zo, R, h⟩ := h
  unfold ex at h
  refine ⟨Z, B, s, zo, R, PostS.bind h fun ds s1 vs H1 B1 R1 sb1 r1 h1 => ?_⟩
  rw [← zo.lk] at h1
  cases e2 : putKs Z.lk s1 [i, j] ds with
  | none => rw [e2] at h1; exact h1.elim
  | some s3 =>
    rw [e2] at h1
    have g := putsK_ok R1 e2 r1 (Q := fun σ' H' => D.nx σ' H') fun σ' R' => h1 _ _ B1 R' (Sub.refl B1)
    obtain ⟨v, r, rfl, w, r', rfl, rfl, q⟩ := g
    exact ⟨v, w, rfl, q⟩
theorem ss_par3 {i j l : Nat} (hs : PS X st (tPar3 i j l (tEk p C es))) (hl : esLen es = 3) : PS X st (tS1 p C (.par [i, j, l] es)) := hs.imp fun D σ H h => by
  obtain ⟨Z, B, s, zo, R, h⟩ := h
  unfold ex at h
  refine ⟨Z, B, s, zo, R, PostS.bind h fun ds s1 vs H1 B1 R1 sb1 r1 h1 => ?_⟩
  rw [← zo.lk] at h1
  cases e2 : putKs Z.lk s1 [i, j, l] ds with
  | none => rw [e2] at h1; exact h1.elim
  | some s3 =>
    rw [e2] at h1
    have g := putsK_ok R1 e2 r1 (Q := fun σ' H' => D.nx σ' H') fun σ' R' => h1 _ _ B1 R' (Sub.refl B1)
    obtain ⟨v, r, rfl, w, r', rfl, u, r'', rfl, rfl, q⟩ := g
    exact ⟨v, w, u, rfl, q⟩
def rSetD : TSet := fun o i v H Q => ∃ a H4, o = .ref a ∧ DPut H a i v H4 ∧ Q H4
theorem set_dict (hu : X.A.units + 64 < cLine) : PSet X rSetD := by
  intro pins s σ H o i v ov iv u Q I ro ri rv h
  obtain ⟨a, H4, rfl, g, q⟩ := h
  obtain rfl : ov = Value.ref a := ro
  exact d_setItem (by omega) I g ri rv fun s4 I4 => ⟨H4, I4, q⟩
def rSetA : TSet := fun o i v H Q => rSetL o i v H Q ∨ rSetD o i v H Q
theorem set_any (hu : X.A.units + 64 < cLine) : PSet X rSetA := by
  intro pins s σ H o i v ov iv u Q I ro ri rv h
  rcases h with h | h
  · exact set_list pins s σ H o i v ov iv u Q I ro ri rv h
  · exact set_dict hu pins s σ H o i v ov iv u Q I ro ri rv h
/-- i[b] = a -/
theorem ss_setIx {i : Nat} {tg : Expr} (hs : PS X (.Assign [tg] x pos) (tAsg (tE p C a) (gSub (tVar i) (tE p C b) rSetA))) : PS X (.Assign [tg] x pos) (tS1 p C (.setIx i b a)) := hs.imp fun D σ H h => by
  obtain ⟨Z, B, s, zo, R, h⟩ := h
  unfold ex at h
  refine ⟨Z, B, s, zo, R, PostS.bind h fun x s1 v1 H1 B1 R1 sb1 r1 h1 => ?_⟩
  cases e : frz x s1 with
  | none => rw [e] at h1; exact h1.elim
  | some q =>
    obtain ⟨d, s2⟩ := q
    rw [e] at h1
    obtain ⟨B2, sb2, R2, r2⟩ := frz_ok R1 r1 e
    have h2 := h1.mono sb2
    simp only at h2
    split at h2
    · rename_i ds0 e0
      obtain ⟨a, y1, y2⟩ := R2.own i _ e0
      refine ⟨.ref a, y1, Z, B2, s2, zo, R2, PostS.bind h2 fun y s3 v3 H3 B3 R3 sb3 r3 h3 => ?_⟩
      unfold setIxF at h3
      split at h3
      · rename_i k ds e3
        split at h3
        · rename_i j ej
          obtain ⟨a', z1, z2⟩ := R3.own i _ e3
          rw [y1] at z1
          cases z1
          obtain ⟨us, u1, u2⟩ := z2.own.lst_inv
          cases r3 with
          | d r3 =>
            refine .inl ⟨a, us, k, j, rfl, r3.int_inv, u1, ?_, ?_⟩
            · rw [← u2.length]; exact ej
            · exact h3 _ _ B3 (R3.change e3 y1 (.lst upd_same (RDs.set (r2.mono sb3) j u2))) (Sub.refl B3)
        · exact h3.elim
      · rename_i k t kvs _ e3
        split at h3
        · rename_i hk
          obtain ⟨a', z1, z2⟩ := R3.own i _ e3
          rw [y1] at z1
          cases z1
          cases r3 with
          | d r3 =>
            obtain ⟨o, g, ow⟩ := z2.own.dput R3.sub (.d r3) hk.1 (lim_lt hk.2) (r2.mono sb3)
            exact .inr ⟨a, _, rfl, g, h3 _ _ B3 (R3.change e3 y1 ow) (Sub.refl B3)⟩
        · exact h3.elim
      · exact h3.elim
    · exact h2.elim
theorem putF_len {f : Str} {v : V} {gs : List (Str × V)} : (putF f v gs) = putF f v gs := rfl
theorem ss_setFld {f : Str} {pos' pn : Pos} {n : Str} (hK : X.K = p.K) (hN : X.N[0]? = some n) (hv : Vis X.env.scope n) (hd : (n == ("__debug__" : Str)) = false) (hcd : (n == ("__classdict__" : Str)) = false) (ha : PE X x (tE p C a)) (hc : ∀ c C, p.cA c = some C → Cls X.K C ∧ NoAttr X.K C f)
    (hs : swapsWith x (some (.Attribute (.Name n pn) f pos')) pos.line X.env = pure false) : PS X (.Assign [.Attribute (.Name n pn) f pos'] x pos) (tS1 p C (.setFld f a)) := (ps_fld (pe_var hN hv hd hcd) ha hs).imp fun D σ H h => by
  obtain ⟨Z, B, s, zo, R, h⟩ := h
  unfold ex at h
  refine ⟨Z, B, s, zo, R, PostS.bind h fun x s1 v1 H1 B1 R1 sb1 r1 h1 => ?_⟩
  cases e : frz x s1 with
  | none => rw [e] at h1; exact h1.elim
  | some q =>
    obtain ⟨d, s2⟩ := q
    rw [e] at h1
    obtain ⟨B2, sb2, R2, r2⟩ := frz_ok R1 r1 e
    have h2 := h1.mono sb2
    simp only at h2
    unfold setFldF at h2
    split at h2
    · rename_i c fs e0
      split at h2
      · rename_i hl
        obtain ⟨a, y1, y2⟩ := R2.own 0 _ e0
        refine ⟨.ref a, y1, ?_⟩
        obtain ⟨C0, dx, gs, g1, g2, g3⟩ : ∃ C0 dx gs, Z.cA c = some C0 ∧ H1 a = some (.ins C0 dx gs) ∧ RDf Z.K Z.cA B2 fs gs := by
          have o := y2.own
          cases o with
          | ins g1 g2 g3 => exact ⟨_, _, _, g1, g2, g3⟩
        have hcc := hc c C0 (by rw [← zo.cA]; exact g1)
        refine ⟨a, C0, dx, gs, rfl, g2, hcc.1, hcc.2, by rw [← g3.length]; omega, ?_⟩
        rw [g3.noLook hl.1]
        exact h2 _ _ B2 (R2.change e0 y1 (.ins g1 upd_same (g3.append (.cons r2 .nil)))) (Sub.refl B2)
      · exact h2.elim
    · exact h2.elim
theorem ss_aug {i : Nat} {o : Op} {f : Int → Int → Int} (ho : augI o = some f) (hs : PS X st (tAug i (tE p C a) (ipI f))) : PS X st (tS1 p C (.aug i o a)) := hs.imp fun D σ H h => by
  obtain ⟨Z, B, s, zo, R, h⟩ := h
  unfold ex at h
  rw [ho] at h
  split at h
  · rename_i k g e0 eg
    cases eg
    obtain ⟨v, y1, y2⟩ := R.dat i _ e0
    refine ⟨v, y1, Z, B, s, zo, R, PostS.bind h fun x s1 v1 H1 B1 R1 sb1 r1 h1 => ?_⟩
    split at h1
    · rename_i j
      cases r1 with
      | d r1 =>
        rw [← zo.lk] at h1
        cases e2 : put Z.lk s1 i (.d (.int (f k j))) with
        | none => rw [e2] at h1; exact h1.elim
        | some s3 =>
          rw [e2] at h1
          exact ⟨k, j, y2.int_inv, r1.int_inv, h1 _ _ B1 (R1.put e2 (.int _)) (Sub.refl B1)⟩
    · exact h1.elim
  · exact h.elim
theorem PostS.if_ {Z : Zn} {W : WX} {B : Hp} {o o' : Out FL.Flow} {k : Bool} {D : Ends} {t u : Prop} (h : PostS Z W B (if k = true then o else o') D) (ht : PostS Z W B o D → t) (hu : PostS Z W B o' D → u) : if k = true then t else u := by
  cases k with
  | true => exact ht h
  | false => exact hu h
theorem ss_if {pp qq : List Stmt} (hc : PT X x (tT p C c)) (ha : PSs X pp (tSs p C ts)) (hb : PSs X qq (tSs p C us)) : PS X (.If x pp qq pos) (tS1 p C (.if_ c ts us)) := (ps_if hc ha hb).imp fun D σ H h => by
  obtain ⟨Z, B, s, zo, R, h⟩ := h
  unfold ex at h
  refine ⟨Z, B, s, zo, R, PostS.bind h fun k s1 k' H1 B1 R1 sb1 r1 h1 => ?_⟩
  subst r1
  exact h1.if_ (fun h => ⟨Z, B1, s1, zo, R1, h⟩) fun h => ⟨Z, B1, s1, zo, R1, h⟩
/-! ### while -/
theorem ss_while {body : List Stmt} (hp : PassesOwn (model X.prog X.w) X.A X.env X.xe) (hc : PT X x (tT p C c)) (hb : PSs X body (tSs p C ts)) : PS X (.While x body [] pos) (tS1 p C (.while_ c ts)) := (ps_while hp hc hb).imp fun D σ H h => by
  obtain ⟨Z, B, s, zo, R, h⟩ := h
  unfold ex whileL at h
  split at h
  rotate_left
  · exact h.elim
  rename_i hn
  generalize hn.choose = n at h
  refine ⟨fun m σ' H' => ∃ B' s', Rep Z B' s' σ' H' ∧ PostS Z p.W B' (whileN (fun z => evB C p.lk c z) (fun z => exs C p.lk ts z) m s') D, ⟨n, B, s, R, h⟩, ?_⟩
  rintro m σ2 H2 ⟨B2, s2, R2, h2⟩
  cases m with
  | zero => unfold whileN at h2; exact h2.elim
  | succ m =>
    unfold whileN at h2
    refine ⟨Z, B2, s2, zo, R2, PostS.bind h2 fun k s3 k' H3 B3 R3 sb3 r3 h3 => ?_⟩
    subst r3
    refine h3.if_ (fun h => ?_) fun h => h.next R3
    refine ⟨fun σ' H' => ∃ B' s', Rep Z B' s' σ' H' ∧ PostS Z p.W B' (whileN (fun z => evB C p.lk c z) (fun z => exs C p.lk ts z) m s') D, fun σ' H' g => ⟨m, Nat.lt_succ_self m, g⟩, Z, B3, s3, zo, R3, ?_⟩
    cases eo : exs C p.lk ts s3 with
    | no => rw [eo] at h; exact h.elim
    | ex e s4 => rw [eo] at h; exact h
    | ok f s4 =>
      rw [eo] at h
      cases f with
      | nx => exact fun σ' H' B' r sb => ⟨B', s4, r, PostS.mono sb h⟩
      | ct => exact fun σ' H' B' r sb => ⟨B', s4, r, PostS.mono sb h⟩
      | bk => exact h
      | rt w => exact h
/-! ### for -/
theorem ss_for {tg : Tg} {it : I} {tgx iter : Expr} {body : List Stmt} (hp : PassesOwn (model X.prog X.w) X.A X.env X.xe) (hcalm : X.calm = true) (hi : PI X tgx iter (tI p C it)) (hg : PG X tgx (gOf p.K tg)) (hb : PSs X body (tSs p C ts)) (hs : ∀ x, foldedSetIterable iter X.env x = pure x) :
    PS X (.For tgx iter body [] pos) (tS1 p C (.for_ tg it ts)) := (ps_for hp hcalm hi hg hb hs).imp fun D σ H h => by
  obtain ⟨Z, B, s, zo, R, h⟩ := h
  unfold ex at h
  refine ⟨Z, B, s, zo, R, PostS.bind h fun ds s1 J H1 B1 R1 sb1 w1 h1 => ?_⟩
  refine ⟨fun i m σ' H' => ∃ B' s', Rep Z B' s' σ' H' ∧ Sub B1 B' ∧ i ≤ ds.length ∧ m = ds.length - i ∧ PostS Z p.W B' (forL (bindTg p.lk tg) (fun z => exs C p.lk ts z) (ds.drop i) s') D, ⟨ds.length, B1, s1, R1, Sub.refl B1, Nat.zero_le _, rfl, by rw [List.drop_zero]; exact h1⟩, ?_⟩
  rintro i m σ2 H2 ⟨B2, s2, R2, sb2, hi, hm, h2⟩
  have w2 := w1.mono sb2
  rcases Nat.lt_or_ge i ds.length with hlt | hge
  rotate_left
  · have ei : i = ds.length := Nat.le_antisymm hi hge
    rw [ei, List.drop_length] at h2
    unfold forL at h2
    exact .inl ⟨by rw [ei]; exact w2.stop H2 R2.sub, h2.next R2⟩
  refine .inr ⟨w2.go i H2 R2.sub hlt, fun σ' H' => ∃ B' s', Rep Z B' s' σ' H' ∧ Sub B1 B' ∧ i + 1 ≤ ds.length ∧ PostS Z p.W B' (forL (bindTg p.lk tg) (fun z => exs C p.lk ts z) (ds.drop (i + 1)) s') D, ?_, fun x H' y => ?_⟩
  · rintro σ' H' ⟨B', s', g1, g2, g3, g4⟩
    exact ⟨ds.length - (i + 1), by omega, B', s', g1, g2, g3, rfl, g4⟩
  have yy := w2.yld i H2 x H' _ R2.sub y (List.getElem?_eq_getElem hlt)
  rw [List.drop_eq_getElem_cons hlt] at h2
  unfold forL at h2
  obtain ⟨B3, sb3, R3, r3⟩ := yy.rep R2
  cases eb : bindTg p.lk tg ds[i] s2 with
  | none => rw [eb] at h2; exact h2.elim
  | some s3 =>
    rw [eb] at h2
    have h3 := h2.mono sb3
    simp only at h3
    rw [← zo.K]
    rw [← zo.lk] at eb
    refine bind_ok R3 eb r3 fun σ3 R4 _ => ⟨Z, B3, s3, zo, R4, ?_⟩
    have sb13 := sb2.trans sb3
    cases eo : exs C p.lk ts s3 with
    | no => rw [eo] at h3; exact h3.elim
    | ex e s4 => rw [eo] at h3; exact h3
    | ok f s4 =>
      rw [eo] at h3
      cases f with
      | nx => exact fun σ' H' B' r sb => ⟨B', s4, r, sb13.trans sb, hlt, PostS.mono sb h3⟩
      | ct => exact fun σ' H' B' r sb => ⟨B', s4, r, sb13.trans sb, hlt, PostS.mono sb h3⟩
      | bk => exact h3
      | rt w => exact h3
/-! ### return -/
theorem own0_of {s : S} (h : own0 s = true) : ∃ d, getS s 0 = some (.o d) := by
  unfold own0 at h
  split at h
  · exact ⟨_, by assumption⟩
  · cases h
theorem not0 {Z : Zn} {B H : Hp} {s : S} {σ : L2.St} (R : Rep Z B s σ H) {lk : Nat} (hlk : Z.lk = lk) (h : ¬ (lk.testBit 0 && !own0 s) = true) {a : Addr} (ap : ∀ d, getS s 0 = some (.o d) → σ[0]? ≠ some (some (.ref a))) : Z.lk.testBit 0 = true → a ≠ Z.ha 0 := fun e q => by
  subst hlk
  rw [e] at h
  cases e0 : own0 s with
  | false => rw [e0] at h; exact h rfl
  | true =>
    obtain ⟨d, e1⟩ := own0_of e0
    exact ap d e1 (by rw [q]; exact R.lk0 0 e)
theorem Rep.drop {Z : Zn} {B H : Hp} {s : S} {σ : L2.St} (R : Rep Z B s σ H) {i : Nat} (hi : i < s.length) : Rep Z B (s.set i none) σ H where
  len := by rw [List.length_set]; exact R.len
  sub := R.sub
  fr := R.fr
  dom := R.dom
  tab := R.tab
  b0 := R.b0
  bn := R.bn
  dat := fun j d e => by
    rw [getS_set hi] at e
    split at e
    · cases e
    · exact R.dat j d e
  own := fun j d e => by
    rw [getS_set hi] at e
    split at e
    · cases e
    · exact R.own j d e
  dis := fun j k d e a e1 e2 q1 q2 => by
    rw [getS_set hi] at e1 e2
    split at e1
    · cases e1
    · split at e2
      · cases e2
      · exact R.dis j k d e a e1 e2 q1 q2
  lk0 := R.lk0
theorem ss_ret (ha : PE X x (tE p C a)) : PS X (.Return (some x) pos) (tS1 p C (.ret a)) := (ps_ret ha).imp fun D σ H h => by
  obtain ⟨Z, B, s, zo, R, h⟩ := h
  unfold ex at h
  refine ⟨Z, B, s, zo, R, PostS.bind h fun x s1 v1 H1 B1 R1 sb1 r1 h1 => ?_⟩
  cases e : retV p.lk x s1 with
  | none => rw [e] at h1; exact h1.elim
  | some q =>
    obtain ⟨w, s2⟩ := q
    rw [e] at h1
    simp only at h1
    unfold retV at e
    split at e
    · cases e
      cases r1 with
      | d r1 => exact h1 v1 σ H1 B1 R1 (Sub.refl B1) (.d r1)
    · split at e
      · cases e
      · rename_i hn
        cases e
        cases r1 with
        | o ow ap => exact h1 _ σ H1 B1 R1 (Sub.refl B1) (.o ow (not0 R1 zo.lk hn fun d e => ap _ d e))
    · split at e
      · split at e
        · rename_i d s3 ef
          cases e
          obtain ⟨B2, sb2, R2, r2⟩ := frz_ok R1 r1 ef
          exact h1 v1 σ H1 B2 R2 sb2 (.d r2)
        · cases e
      · rename_i i hz
        split at e
        · cases e
        · rename_i hn
          split at e
          · rename_i d e0
            cases e
            obtain ⟨a, y1, y2⟩ := R1.own i _ e0
            cases r1 with
            | s r1 =>
              rw [y1] at r1
              cases r1
              have hi := getS_lt e0
              refine h1 _ σ H1 B1 (R1.drop hi) (Sub.refl B1) (.o y2 fun el => ?_)
              refine not0 R1 zo.lk hn (a := a) (fun d0 e1 q => ?_) el
              have hi2 : i = 0 := R1.dis i 0 _ _ a e0 e1 y1 q
              rw [zo.lk] at el
              exact hz (by rw [hi2]; exact el)
          · cases e
end
end FL

set_option maxHeartbeats 4000000
/-! FS, new expressions: an empty dictionary, a range made a tuple or a list. -/
namespace FL
open PySem PySem.Spec PyProof.Rows L2
section
variable {p : Pm} {C : Calls} {X : Cx} {pos : Pos} {x y z : Expr} {xs : List Expr} {a b c : E} {es : Es}
theorem boot_repr : bootBuiltins ("repr" : Str) = some (.builtin "repr") := by decide +kernel
theorem se_repr {pn : Pos} (hgd : NoGd X.A) (hu : X.A.units + 120 < cLine) (hK : X.K = p.K) (hg : Gl X "repr") (hm : X.mg "repr" = none) (ha : PA X (x :: xs) (tEv p C es))
    (hs : starEach (x :: xs) X.env = (false, eval x X.env) :: starEach xs X.env) (hpl : (backTo pos (starEach xs X.env)).any (·.1) = false) : PE X (.Call (.Name "repr" pn) (x :: xs) [] pos) (tE p C (.bi .repr es)) := by
  refine (pe_callB (cr_repr hgd hu) hg hm boot_repr ha (by decide +kernel) (by decide +kernel) hs hpl).imp fun σ H Q h => bi_of (fun vs H Q hb => ?_) h
  obtain ⟨Z, B, s, σ, ds, zo, R, hv, hp⟩ := hb
  have hZ : X.K = Z.K := hK.trans zo.K.symm
  unfold bltin at hp
  split at hp <;> first
    | exact hp.elim
    | (rename_i q; cases q; done)
    | skip
  · rename_i d q
    split at hp
    · rename_i ok
      obtain ⟨v, rfl, t⟩ := one_of hv
      refine ⟨Z.cA, v, d, rfl, ?_, ok, Post.flat R (.str _) hp⟩
      rw [hZ]
      exact t.toH R.sub
    · exact hp.elim
theorem se_dnew (t : Bool) : PE X (.Dict [] [] pos) (tE p C (.dnew t)) := by
  cases t with
  | false =>
    refine pe_dnewK.imp fun σ H Q h => ?_
    obtain ⟨Z, B, s, zo, R, h⟩ := h
    exact fun q hq => h _ _ B (R.new hq) (Sub.refl B) (.o ⟨R.sub.nn hq, .inl (R.dom q (nt_none hq)), .dK upd_same .nil⟩ (R.apart hq))
  | true =>
    refine pe_dnewT.imp fun σ H Q h => ?_
    obtain ⟨Z, B, s, zo, R, h⟩ := h
    exact fun q hq => h _ _ B (R.new hq) (Sub.refl B) (.o ⟨R.sub.nn hq, .inl (R.dom q (nt_none hq)), .dT upd_same .nil⟩ (R.apart hq))
theorem upd_upd {H : Hp} {q : Addr} {a b : HO} : upd (upd H q a) q b = upd H q b := by
  funext c
  by_cases e : c = q
  · rw [e, upd_same, upd_same]
  · rw [upd_ne e, upd_ne e, upd_ne e]
/-- {k: x} -/
theorem se_d1 {k : Int} {i j : Nat} {n : Str} {p1 p2 : Pos} (hN : X.N[i]? = some n) (hv : Vis X.env.scope n) (hd1 : (n == ("__debug__" : Str)) = false) (hcd : (n == ("__classdict__" : Str)) = false) : PE X (.Dict [some (.Constant (.int k) j p1)] [.Name n p2] pos) (tE p C (.d1 k i)) := by
  refine (pe_disp (pps_cons (pe_int (i := k)) (pe_var (i := i) hN hv hd1 hcd) pps_nil) rfl rfl (by simp) (by simp)).imp fun σ H Q h => ?_
  obtain ⟨Z, B, s, zo, R, h⟩ := h
  unfold ev at h
  intro q hq
  cases ef : frz (.s i) s with
  | none => rw [ef] at h; exact h.elim
  | some w =>
    obtain ⟨d, s1⟩ := w
    rw [ef] at h
    have e0 := ef
    unfold frz at e0
    simp only at e0
    have hv : ∃ v, σ[i]? = some (some v) := by
      cases g : getS s i with
      | none => rw [g] at e0; cases e0
      | some w =>
        cases w with
        | d d' => obtain ⟨v, h1, _⟩ := R.dat i d' g; exact ⟨v, h1⟩
        | o d' => obtain ⟨v, h1, _⟩ := R.own i d' g; exact ⟨_, h1⟩
    obtain ⟨v, hv⟩ := hv
    obtain ⟨B1, sb1, R1, rd⟩ := frz_ok R (.s hv) ef
    refine ⟨v, hv, upd_same, [(.inl k, v)], rfl, by simp, ?_⟩
    rw [upd_upd]
    exact h _ _ B1 (R1.new hq) sb1 (.o ⟨R1.sub.nn hq, .inl (R1.dom q (nt_none hq)), .dK upd_same (.cons rfl rd .nil)⟩ (R1.apart hq))
/-- a range as an argument: what its written arguments give -/
def tRgA (ta : TA) : L2.St → Hp → (Int → Int → Hp → Prop) → Prop := fun σ H Q => ta σ H fun vs H1 => (∃ n, vs = [.int n] ∧ Q 0 n H1) ∨ ∃ i j, vs = [.int i, .int j] ∧ Q i j H1
theorem prgA1 {ta : TA} {pn : Pos} (hg : Gl X "range") (hm : X.mg "range" = none) (ha : PA X [x] ta) (hs : starEach [x] X.env = [(false, eval x X.env)]) (hl : ∀ σ H (P : List V → Hp → Prop), ta σ H P → ta σ H (fun vs H1 => P vs H1 ∧ vs.length = 1)) : PRg X (.Call (.Name "range" pn) [x] [] pos) (tRgA ta) := by
  intro pins s σ H Q I h
  refine Call_ (ld_blt I hg hm boot_range (PyProof.Rows.callWith_type1 (thn (ha.run pos pins s σ H _ I (hl _ _ _ h)) fun us s1 ⟨vs, H1, I1, r1, q1, q2⟩ => ?_) hs rfl))
  rcases q1 with ⟨n, rfl, q⟩ | ⟨i, j, rfl, q⟩
  · cases r1 with
    | cons r rr =>
      cases rr
      obtain ⟨t, rfl⟩ := r
      refine call_range_1 ⟨_, 0, n, _, _, _, H1, rfl, IsRange.new _ _ _ _ _ _ _, ?_, q⟩
      exact I1.kept fun b u e => Heap.get?_push_of_some _ e
  · cases q2
theorem prgA2 {ta : TA} {pn : Pos} (hg : Gl X "range") (hm : X.mg "range" = none) (ha : PA X [x, y] ta) (hs : starEach [x, y] X.env = [(false, eval x X.env), (false, eval y X.env)]) (hs2 : starEach [y] X.env = [(false, eval y X.env)]) (hl : ∀ σ H (P : List V → Hp → Prop), ta σ H P → ta σ H (fun vs H1 => P vs H1 ∧ vs.length = 2)) : PRg X (.Call (.Name "range" pn) [x, y] [] pos) (tRgA ta) := by
  intro pins s σ H Q I h
  refine Call_ (ld_blt I hg hm boot_range (PyProof.Rows.callWith_type1 (thn (ha.run pos pins s σ H _ I (hl _ _ _ h)) fun us s1 ⟨vs, H1, I1, r1, q1, q2⟩ => ?_) (by rw [hs, hs2]) (by rw [hs2]; rfl)))
  rcases q1 with ⟨n, rfl, q⟩ | ⟨i, j, rfl, q⟩
  · cases q2
  · cases r1 with
    | cons r rr =>
      cases rr with
      | cons r' rr =>
        cases rr
        obtain ⟨t, rfl⟩ := r
        obtain ⟨t', rfl⟩ := r'
        refine call_range_2 ⟨_, i, j, _, _, _, H1, rfl, IsRange.new _ _ _ _ _ _ _, ?_, q⟩
        exact I1.kept fun b u e => Heap.get?_push_of_some _ e
theorem tEs_len {σ : L2.St} {H : Hp} {P : List V → Hp → Prop} (h : tEs p C es σ H P) : tEs p C es σ H (fun vs H1 => P vs H1 ∧ vs.length = esLen es) := by
  obtain ⟨Z, B, s, zo, R, h⟩ := h
  refine ⟨Z, B, s, zo, R, ?_⟩
  cases e : evs C p.lk es s with
  | no => rw [e] at h; exact h
  | ex a b => rw [e] at h; exact h
  | ok ds s1 =>
    rw [e] at h
    refine fun vs H1 B1 R1 sb r => ⟨h vs H1 B1 R1 sb r, ?_⟩
    rw [← r.length, evs_len _ _ _ _ e]
theorem rgD_ok {K : PySem.W.Frag} {cA : Nat → Option Addr} {B : Hp} (lo : Int) (n : Nat) : RDs K cA B (rangeD lo n) ((List.range n).map fun i => V.int (lo + (i : Nat))) := by
  unfold rangeD
  induction List.range n with
  | nil => exact .nil
  | cons i r ih => exact .cons (.int _) ih
end
end FL

set_option maxHeartbeats 4000000
/-! FS, tuple(range(..)) with ends of any size. -/
namespace FL
open PySem PySem.Spec PyProof.Rows L2
section
variable {prog : Program} {w : World} {A : Around} {E : Value → Shared → Prop} {s : Shared} {r : Addr} {i j d : Int} {t u v : Tok} {n : Nat}
abbrev LItems (i d : Int) (n : Nat) (acc : Array Value) : Prop := ItemsOf (fun q v => ∃ t, v = .int (i + q * d) t) acc n
abbrev lObj (i j d : Int) : Obj := { cls := .type "longrange_iterator", data := .fields #[rawInt i, rawInt (Builtin.Range.rangeSize i j d), rawInt d] }
theorem ext_long {R : Result → Shared → Prop} (h0 : A.handled = none) (hr : IsRange s.heap r i j d t u v) (big : Builtin.Range.small i j d = false) (hn : Builtin.Range.rangeSize i j d = n) (hl : n ≤ 2 ^ 24) (L : Addr) (res : Value) (c0 : Nat)
    (hL : s.heap.get? L = some { cls := .type "list", data := .seq #[] c0 })
    (fin : ∀ h' tk acc c', (∀ b o, b ≠ L → s.heap.get? b = some o → h'.get? b = some o) → h'.get? L = some { cls := .type "list", dict := none, data := .seq acc c', slots := #[] } → LItems i d n acc → R (.ok (.ret res)) { s with heap := h', toks := tk }) :
    wpAny (model prog w) A.in1 (Builtin.List.listExtendWith (.ref L) (.ref r) res) (GQ.FinOf prog w A R) (fun e s' => R (.error e) s') s := by
  have ne1 : L ≠ r := fun e => by rw [e, hr] at hL; simp at hL
  have ne2 : L ≠ s.heap.objs.size := Nat.ne_of_lt (Heap.lt_size hL)
  have out : L ∉ [s.heap.objs.size] := fun q => ne2 (List.mem_singleton.mp q)
  have wk := (Walks.longrange (prog := prog) (w := w) (A := A.in1) h0 s.heap.objs.size i d n).toS
  have go : ∀ (h : Heap) (c1 tk : Nat), IsLongIter h s.heap.objs.size (i + ((0 : Nat) : Int) * d) ((n : Int) - ((0 : Nat) : Int)) d → (∀ b o, b ≠ L → s.heap.get? b = some o → h.get? b = some o) → h.get? L = some { cls := .type "list", data := .seq #[] c1 } →
      codeAny (model prog w) A (.builtin "list.extend.loop" ⟨[.ref L, .ref s.heap.objs.size, res], []⟩) R { s with heap := h, toks := tk } := fun h c1 tk it kp l1 => by
    refine codeAny_extend_loopS wk (by rw [sizeLine_eq]; omega) L out res n 0 _ #[] c1 rfl (Nat.zero_le _) it l1 (ItemsOf.nil _) fun z acc c' mv l2 ac => ?_
    rw [Moved.eq_with mv]
    refine fin z.heap z.toks acc c' (fun b o nb e => mv.heap b o (fun q => ?_) (kp b o nb e)) l2 ac
    rcases List.mem_cons.mp q with q | q
    · exact nb q
    · rw [List.mem_singleton.mp q] at e
      exact Nat.lt_irrefl _ (Heap.lt_size e)
  unfold Builtin.List.listExtendWith
  refine wpAny_bind (wpAny_typeOf (T := "range") ⟨_, hr, rfl⟩ ?_)
  have g1 : Builtin.List.listSameRef (.ref L) (.ref r) = false := by simp [Builtin.List.listSameRef, ne1]
  simp only [g1, show (Value.type "range" == Value.type "list") = false from by decide, show (Value.type "range" == Value.type "tuple") = false from by decide, Bool.or_false, Bool.false_eq_true, if_false]
  refine wpAny_bind (wpAny_pyIter_longrange hr big ?_)
  refine wpAny_bind (wpAny_holding (wpAny_hint_range (n := n) (Heap.get?_push_of_some _ hr) hn hl ?_))
  have it1 : IsLongIter (s.heap.push (lObj i j d)) s.heap.objs.size (i + ((0 : Nat) : Int) * d) ((n : Int) - ((0 : Nat) : Int)) d := by
    unfold IsLongIter lObj
    rw [hn]
    simpa using Heap.get?_push_size _ rfl
  have k1 := Heap.get?_push_of_some (lObj i j d) hL
  refine wpAny_ite_split (fun _ => ?_) (fun _ => wpAny_pure ⟨plainId_quiet F.plain_extend_loop _, go _ c0 _ it1 (fun b o _ e => Heap.get?_push_of_some _ e) k1⟩)
  refine wpAny_bind (wpAny_rule (wpAny_bind ?_))
  show wpAny _ _ (updateSeq L (·.push .none) >>= fun _ => updateSeq L (·.pop)) _ _ _
  refine wpAny_bind (wpAny_updateSeq k1 rfl ?_)
  have k2 := Heap.get?_update_self (Obj.mapSeq (·.push Value.none)) k1 rfl
  refine wpAny_updateSeq (hz := by seq_fits) k2 rfl ?_
  have k3 := Heap.get?_update_self (Obj.mapSeq (·.pop)) k2 rfl
  refine wpAny_pure ⟨plainId_quiet F.plain_extend_loop _, go _ _ _ ?_ (fun b o nb e => ?_) k3⟩
  · exact (Heap.get?_update_other _ _ ne2).trans ((Heap.get?_update_other _ _ ne2).trans it1)
  · exact (Heap.get?_update_other _ _ (Ne.symm nb)).trans ((Heap.get?_update_other _ _ (Ne.symm nb)).trans (Heap.get?_push_of_some _ e))
theorem collect_long {Q : List Value → Shared → Prop} (h0 : A.handled = none) (hr : IsRange s.heap r i j d t u v) (big : Builtin.Range.small i j d = false) (hn : Builtin.Range.rangeSize i j d = n) (hl : n ≤ 2 ^ 24)
    (fin : ∀ (h' : Heap) (tk : Nat) (acc : Array Value), (∀ b o, s.heap.get? b = some o → h'.get? b = some o) → LItems i d n acc → Q acc.toList { s with heap := h', toks := tk }) : wpAny (model prog w) A (collect (.ref r)) Q E s := by
  unfold collect
  refine wpAny_bind (wpAny_runValue (codeAny_builtin F.entry_proto_collect ?_))
  rw [Around.under_plainId F.plain_proto_collect _]
  show wpAny _ A.in1 (newList [] >>= fun q => again (.builtin "list.__iadd__" ⟨[q, .ref r], []⟩)) _ _ s
  refine wpAny_bind (wpAny_newObj_type (wpAny_pure ⟨plainId_quiet F.plain_list_iadd _, codeAny_builtin F.entry_list_iadd ?_⟩))
  rw [Around.under_plainId F.plain_list_iadd _]
  show wpAny _ A.in1 (Builtin.List.listExtendWith (.ref s.heap.objs.size) (.ref r) (.ref s.heap.objs.size)) _ _ _
  have l0 : (s.heap.push { cls := .type "list", data := .seq ([] : List Value).toArray }).get? s.heap.objs.size = some { cls := .type "list", data := .seq #[] 0 } := Heap.get?_push_size _ rfl
  refine wpAny_mono (ext_long (A := A) (R := fun rr z => rr = .ok (.ret (.ref s.heap.objs.size)) ∧ ∃ (h' : Heap) (tk : Nat) (acc : Array Value) (c' : Nat), z = { s with heap := h', toks := tk } ∧
      (∀ b o, s.heap.get? b = some o → h'.get? b = some o) ∧ h'.get? s.heap.objs.size = some { cls := .type "list", dict := none, data := .seq acc c', slots := #[] } ∧ LItems i d n acc)
    (s := { s with heap := s.heap.push { cls := .type "list", data := .seq ([] : List Value).toArray } }) h0 (Heap.get?_push_of_some _ hr) big hn hl _ _ 0 l0
    (fun h' tk acc c' hk e hi => ⟨rfl, h', tk, acc, c', rfl, fun b o q => hk b o (Nat.ne_of_lt (Heap.lt_size q)) (Heap.get?_push_of_some _ q), e, hi⟩)) (fun f z h => ?_) (fun e z h => absurd h.1 (by simp))
  cases f with
  | done f =>
    obtain ⟨e, h', tk, acc, c', rfl, hk, l1, hi⟩ := h
    cases e
    exact wpAny_bind (m := load s.heap.objs.size) (wpAny_load l1 (wpAny_pure (fin h' tk acc hk hi)))
  | again c' =>
    refine ⟨h.1, codeAny_mono h.2 fun rr z q => ?_⟩
    obtain ⟨rfl, h', tk, acc, c', rfl, hk, l1, hi⟩ := q
    exact wpAny_bind (m := load s.heap.objs.size) (wpAny_load l1 (wpAny_pure (fin h' tk acc hk hi)))
theorem new_tuple_long {Q : Value → Shared → Prop} (h0 : A.handled = none) (hr : IsRange s.heap r i j d t u v) (big : Builtin.Range.small i j d = false) (hn : Builtin.Range.rangeSize i j d = n) (hl : n ≤ 2 ^ 24)
    (fin : ∀ (h' : Heap) (tk : Nat) (acc : Array Value), (∀ b o, s.heap.get? b = some o → h'.get? b = some o) → LItems i d n acc → Q (.ref h'.objs.size) { s with heap := h'.push { cls := .type "tuple", data := .seq acc }, toks := tk }) :
    codeAny (model prog w) A (.call (.builtin "tuple.__new__") ⟨[.type "tuple", .ref r], []⟩) (wants Q E) s := by
  refine codeAny_of_tree ?_
  show wpAny _ A.in1 (do checkBuiltinCall "tuple.__new__" ⟨[.type "tuple", .ref r], []⟩; again (.builtin "tuple.__new__" ⟨[.type "tuple", .ref r], []⟩)) _ _ s
  refine wpAny_bind (wpAny_of_eq (F.newCall_tuple_1 _) (wpAny_pure ⟨plainId_quiet F.plain_tuple_new _, codeAny_builtin F.entry_tuple_new ?_⟩))
  rw [Around.under_plainId F.plain_tuple_new _]
  have z1 := sub_tuple_self
  have z2 := init_tuple_lookup
  have z3 := madeHere_tuple
  have z4 : s.TypeIs (.ref r) "range" := ⟨_, hr, rfl⟩
  have z5 : A.in1.handled = none := h0
  wp_walk using wpAny_typeOf z4, collect_long (A := A.in1) z5 hr big hn hl
  intro h' tk acc hk hi
  show wpAny _ _ (Builtin.Tuple.tupleExact acc.toList.toArray >>= fun v => ret v) _ _ _
  unfold Builtin.Tuple.tupleExact
  refine wpAny_bind (wpAny_newObj_type (wpAny_pure ?_) (by show acc.toList.toArray.size ≤ sizeLine; simp only [Array.toArray_toList]; rw [hi.1, sizeLine_eq]; omega))
  rw [show acc.toList.toArray = acc from by simp]
  exact fin h' tk acc hk hi
theorem tuple_long {Q : Value → Shared → Prop} (h0 : A.handled = none) (hr : IsRange s.heap r i j d t u v) (big : Builtin.Range.small i j d = false) (hn : Builtin.Range.rangeSize i j d = n) (hl : n ≤ 2 ^ 24)
    (fin : ∀ (h' : Heap) (tk : Nat) (acc : Array Value), (∀ b o, s.heap.get? b = some o → h'.get? b = some o) → LItems i d n acc → Q (.ref h'.objs.size) { s with heap := h'.push { cls := .type "tuple", data := .seq acc }, toks := tk }) :
    wpAny (model prog w) A (call (.type "tuple") [.ref r]) Q E s := by
  refine callType_codes (Q₁ := fun o z => z.TypeIs o "tuple" ∧ Q o z) F.called_tuple (F.typeCall_tuple_1 _) F.entry_object_init (new_tuple_long (A := A.in1) h0 hr big hn hl fun h' tk acc hk hi => ⟨⟨_, Heap.get?_push_size _ rfl, rfl⟩, fin h' tk acc hk hi⟩) fun o z q => ?_
  exact ⟨q.1, F.args_object_init_2 o _, object_init_meets F.called_tuple.init.lookup F.called_tuple.made (by decide) prog w A.in1 _ z ⟨q.1, rfl, q.2⟩⟩
end
section
variable {X : Cx} {e : Expr} {te : L2.St → Hp → (Int → Int → Hp → Prop) → Prop}
/-- tuple(range(..)): a new tuple, not too long -/
def tTupR (te : L2.St → Hp → (Int → Int → Hp → Prop) → Prop) : TE := fun σ H Q => te σ H fun a b H1 => (b - a).toNat ≤ 2 ^ 24 ∧ ∀ q, H1 q = none → Q (.ref q) (upd H1 q (.tup (rgV a b)))
theorem pe_tupR {p pos : Pos} (hc : X.calm = true) (hg : Gl X "tuple") (hm : X.mg "tuple" = none) (he : PRg X e te) (na : starEach [e] X.env = (false, eval e X.env) :: starEach [] X.env) : PE X (.Call (.Name "tuple" p) [e] [] pos) (tTupR te) := by
  refine ⟨fun pins s σ H Q I h => ?_⟩
  refine Call_ (ld_blt I hg hm boot_tuple (PyProof.Rows.callWith_type1 (args_cons (thn (he pins s σ H _ I h) fun x s1 ⟨r, a, b, t, u, v, H1, ex, hr, I1, ok, q⟩ => args_nil ?_) na) na))
  subst ex
  have fin : ∀ (h' : Heap) (tk : Nat) (acc : Array Value), (∀ b o, s1.heap.get? b = some o → h'.get? b = some o) → LItems a 1 (b - a).toNat acc → EP X pins σ Q (.ref h'.objs.size) { s1 with heap := h'.push { cls := .type "tuple", data := .seq acc }, toks := tk } := fun h' tk acc hk hi => by
    have I2 : Inv X pins σ H1 { s1 with heap := h', toks := tk } := I1.kept hk
    have sz : (rgV a b).length ≤ sizeLine := by rw [rgV_length, sizeLine_eq]; omega
    have ob : ObjOk X.prog X.w (upd H1 h'.objs.size (.tup (rgV a b))) (h'.push { cls := .type "tuple", data := .seq acc }) h'.objs.size (.tup (rgV a b)) := ⟨sz, acc.toList, vals_rg hi, by rw [Array.toArray_toList]; exact IsTup.new _ _⟩
    exact ⟨.ref h'.objs.size, _, I2.laid (t' := tk) (fun c o e => Heap.get?_push_of_some _ e) (Nat.le_refl _) ob, rfl, q _ (I2.hok.fresh (Nat.le_refl _))⟩
  cases sm : Builtin.Range.small a b 1 with
  | true => exact call_tuple_range (n := (b - a).toNat) (I1.ok.hd hc) hr sm (rangeSize_nat a b) ok fin
  | false => exact tuple_long (n := (b - a).toNat) (I1.ok.hd hc) hr sm (rangeSize_nat a b) ok fin
end
section
variable {p : Pm} {C : Calls} {X : Cx} {pos : Pos} {es : Es}
theorem trg_okT {σ : L2.St} {H : Hp} {Q : VK} (h : tE p C (.trg true es) σ H Q) : tRgA (tEs p C es) σ H fun i j H1 => (j - i).toNat ≤ 2 ^ 24 ∧ ∀ q, H1 q = none → Q (.ref q) (upd H1 q (.tup (rgV i j))) := by
  obtain ⟨Z, B, s, zo, R, h⟩ := h
  refine ⟨Z, B, s, zo, R, Post.bind h fun ds s1 vs H1 B1 R1 sb1 r1 h1 => ?_⟩
  have e0 : rngT true ds = rngA ds := rfl
  rw [e0] at h1
  cases e : rngA ds with
  | none => rw [e] at h1; exact h1.elim
  | some ns =>
    rw [e] at h1
    simp only at h1
    split at h1
    · rename_i hl
      have fin : ∀ (i j : Int), ns = rangeD i (j - i).toNat → (j - i).toNat ≤ 2 ^ 24 ∧ ∀ q, H1 q = none → Q (.ref q) (upd H1 q (.tup (rgV i j))) := by
        intro i j en
        have hn : ns.length = (j - i).toNat := by rw [en]; unfold rangeD; rw [List.length_map, List.length_range]
        rw [hn] at hl
        have hl2 : (j - i).toNat ≤ 100000 := hl
        refine ⟨by omega, ?_⟩
        rw [en] at h1
        exact Post.newT R1 (rgD_ok i _) h1
      unfold rngA at e
      split at e
      · cases e
        cases r1 with
        | cons r rr =>
          cases rr
          rw [r.int_inv]
          exact .inl ⟨_, rfl, fin 0 _ (by rw [Int.sub_zero])⟩
      · cases e
        cases r1 with
        | cons r rr =>
          cases rr with
          | cons r' rr =>
            cases rr
            rw [r.int_inv, r'.int_inv]
            exact .inr ⟨_, _, rfl, fin _ _ rfl⟩
      · cases e
    · exact h1.elim
theorem trg_okF {σ : L2.St} {H : Hp} {Q : VK} (h : tE p C (.trg false es) σ H Q) : tRgA (tEs p C es) σ H fun i j H1 => RgOk i j ∧ ∀ q, H1 q = none → Q (.ref q) (upd H1 q (.lst (rgV i j))) := by
  obtain ⟨Z, B, s, zo, R, h⟩ := h
  refine ⟨Z, B, s, zo, R, Post.bind h fun ds s1 vs H1 B1 R1 sb1 r1 h1 => ?_⟩
  have e0 : rngT false ds = rngL ds := rfl
  rw [e0] at h1
  cases e : rngL ds with
  | none => rw [e] at h1; exact h1.elim
  | some ns =>
    rw [e] at h1
    simp only at h1
    split at h1
    · rename_i hl
      have fin : ∀ (i j : Int), ns = rangeD i (j - i).toNat → okR i = true → okR j = true → RgOk i j ∧ ∀ q, H1 q = none → Q (.ref q) (upd H1 q (.lst (rgV i j))) := by
        intro i j en ei ej
        unfold okR at ei ej
        simp only [Bool.and_eq_true, decide_eq_true_eq] at ei ej
        have hn : ns.length = (j - i).toNat := by rw [en]; unfold rangeD; rw [List.length_map, List.length_range]
        rw [hn] at hl
        have hl2 : (j - i).toNat ≤ 100000 := hl
        refine ⟨⟨ei.1, ei.2, ej.1, ej.2, by omega⟩, ?_⟩
        rw [en] at h1
        exact Post.newL R1 (rgD_ok i _) h1
      unfold rngL at e
      split at e
      · split at e
        · rename_i n hk
          cases e
          cases r1 with
          | cons r rr =>
            cases rr
            rw [r.int_inv]
            exact .inl ⟨n, rfl, fin 0 n (by rw [Int.sub_zero]) (by decide) hk⟩
        · cases e
      · split at e
        · rename_i m n hk
          cases e
          rw [Bool.and_eq_true] at hk
          cases r1 with
          | cons r rr =>
            cases rr with
            | cons r' rr =>
              cases rr
              rw [r.int_inv, r'.int_inv]
              exact .inr ⟨m, n, rfl, fin m n rfl hk.1 hk.2⟩
        · cases e
      · cases e
    · exact h1.elim
theorem se_trg {e : Expr} {pn : Pos} (t : Bool) (hc : X.calm = true) (hg : Gl X (if t = true then "tuple" else "list")) (hm : X.mg (if t = true then "tuple" else "list") = none) (he : PRg X e (tRgA (tEs p C es))) (na : starEach [e] X.env = (false, eval e X.env) :: starEach [] X.env) :
    PE X (.Call (.Name (if t = true then "tuple" else "list") pn) [e] [] pos) (tE p C (.trg t es)) := by
  cases t with
  | true =>
    refine (pe_tupR hc hg hm he na).imp fun σ H Q h => trg_okT h
  | false =>
    refine (pe_listRg hc hg hm he na).imp fun σ H Q h => trg_okF h
/-! ### a range from behind -/
theorem walk_rrange {K : PySem.W.Frag} {cA : Nat → Option Addr} {B : Hp} {lo : Int} {n : Nat} : Walk K cA B (Itc (lo + ((n : Nat) : Int) - 1) (-1) n) ((rangeD lo n).reverse) where
  stop := fun H sb => by rw [List.length_reverse, rangeD_len]; exact Nat.le_refl _
  go := fun i H sb hi => by rw [List.length_reverse, rangeD_len] at hi; exact hi
  yld := fun i H x H' d sb y e => by
    obtain ⟨rfl, rfl⟩ := y
    have hi : i < (rangeD lo n).length := by
      have := (List.getElem?_eq_some_iff.mp e).1
      rw [List.length_reverse] at this
      exact this
    rw [List.getElem?_reverse hi] at e
    have e2 := rangeD_get e
    rw [rangeD_len] at e2 hi
    rw [e2]
    have : lo + ((n : Nat) : Int) - 1 + ((i : Nat) : Int) * (-1) = lo + ((n - 1 - i : Nat) : Int) := by omega
    rw [this]
    exact .same (.int _)
theorem rrg_ok {σ : L2.St} {H : Hp} {R : It → Hp → Prop} (h : tI p C (.rrng es) σ H R) : tRgA (tEs p C es) σ H fun i j H1 => -(2 ^ 62) ≤ i ∧ i < 2 ^ 62 ∧ -(2 ^ 62) ≤ j ∧ j < 2 ^ 62 ∧ R (Itc (i + (((j - i).toNat : Nat) : Int) - 1) (-1) (j - i).toNat) H1 := by
  obtain ⟨Z, B, s, zo, Rp, h⟩ := h
  refine ⟨Z, B, s, zo, Rp, Post.bind h fun ds s1 vs H1 B1 R1 sb1 r1 h1 => ?_⟩
  cases e : rngL ds with
  | none => rw [e] at h1; exact h1.elim
  | some ns =>
    rw [e] at h1
    have fin : ∀ (i j : Int), ns = rangeD i (j - i).toNat → okR i = true → okR j = true → -(2 ^ 62) ≤ i ∧ i < 2 ^ 62 ∧ -(2 ^ 62) ≤ j ∧ j < 2 ^ 62 ∧ R (Itc (i + (((j - i).toNat : Nat) : Int) - 1) (-1) (j - i).toNat) H1 := by
      intro i j en ei ej
      obtain ⟨o1, o2⟩ := okR_of ei
      obtain ⟨o3, o4⟩ := okR_of ej
      refine ⟨o1, o2, o3, o4, ?_⟩
      rw [en] at h1
      exact h1 _ _ B1 R1 (Sub.refl B1) walk_rrange
    unfold rngL at e
    split at e
    · split at e
      · rename_i n hk
        cases e
        cases r1 with
        | cons r rr =>
          cases rr
          rw [r.int_inv]
          exact .inl ⟨n, rfl, fin 0 n (by rw [Int.sub_zero]) (by decide) hk⟩
      · cases e
    · split at e
      · rename_i m n hk
        cases e
        rw [Bool.and_eq_true] at hk
        cases r1 with
        | cons r rr =>
          cases rr with
          | cons r' rr =>
            cases rr
            rw [r.int_inv, r'.int_inv]
            exact .inr ⟨m, n, rfl, fin m n rfl hk.1 hk.2⟩
      · cases e
    · cases e
theorem si_rrng {tg fe : Expr} {zs : List Expr} {ks : List Keyword} {pn pz : Pos} (hg : Gl X "reversed") (hm : X.mg "reversed" = none) (he : PRg X (.Call fe zs ks pz) (tRgA (tEs p C es))) : PI X tg (.Call (.Name "reversed" pn) [.Call fe zs ks pz] [] pos) (tI p C (.rrng es)) :=
  ⟨fun pins s σ H R I h => (pi_revR hg hm he).run pins s σ H R I (rrg_ok h)⟩
end
end FL

set_option maxHeartbeats 4000000
/-! FS, exceptions: raise, try, isinstance of what is handled. -/
namespace FL
open PySem PySem.Spec PyProof.Rows L2
section
variable {X : Cx} {C0 : Addr} {bmB : List Value} {Bn newId initId : String}
/-- X(), X an own exception class without own __init__ -/
theorem pmk_own0 {x : Str} {p pos : Pos} (F : ExcBaseFacts Bn newId initId bmB) (q : PySem.W.excIn X.K C0 bmB newId = true) (gC : X.mg x = some (.ref C0)) (kC : PySem.W.keepIn X.K (.ref C0) = true) (r : Raises X (.ref C0)) (hg : Gl X x) (hdb : (x == ("__debug__" : Str)) = false) :
    PMk X (.Call (.Name x p) [] [] pos) (fun _ H Q => Q (.ref C0) none H) := by
  intro pins s σ H Q I h
  refine wpAny_Call_Name_kw (ld_glob I hg gC ?_ hdb)
  refine PySem.W.callWith_K0 I.kIn kC ?_
  show wpAny _ _ (call (.ref C0) []) _ _ _
  obtain ⟨bm, N, nm, qn, bs, hdct, sn, sub, ab, col, dd, k0, k1, k2, k3, k5, mN, hC, hN, hni, T⟩ := exc_obj I.kIn q
  refine wpAny_call_exc_subT F T hC hN hni (fun h' e hm => ?_) (Nat.zero_le _)
  exact mk_of I hm r h (I.hok.gone hm.new)
end
section
variable {p : Pm} {C : Calls} {X : Cx} {pos : Pos}
theorem ss_rse {c : Nat} {e : Expr} {pos' : Pos} (hc : X.calm = true) (tk : Takes X p.W) (he : PMk X e (fun _ H Q => Q (.ref (p.xA.a c)) none H)) : PS X (.Raise (some e) none pos') (tS1 p C (.rse c)) := (ps_raise hc tk he).imp fun D σ H h => by
  obtain ⟨Z, B, s, zo, R, h⟩ := h
  unfold ex at h
  exact h _ _ σ H B R (Sub.refl B) ⟨by rw [zo.xA], rfl⟩
end
/-! ### a suite -/
section
variable {Z : Zn} {B H : Hp} {s : S} {σ : L2.St}
theorem Rep.setN (R : Rep Z B s σ H) {i : Nat} {v : Option V} (hl : Z.lk.testBit i = false) (hi : i < s.length) : Rep Z B (s.set i none) (σ.set i v) H where
  len := by rw [List.length_set, List.length_set]; exact R.len
  sub := R.sub
  fr := R.fr
  dom := R.dom
  tab := R.tab
  b0 := R.b0
  bn := R.bn
  dat := fun j d e => by
    rw [getS_set hi] at e
    split at e
    · cases e
    · rename_i q
      rw [List.getElem?_set_ne (Ne.symm q)]
      exact R.dat j d e
  own := fun j d e => by
    rw [getS_set hi] at e
    split at e
    · cases e
    · rename_i q
      rw [List.getElem?_set_ne (Ne.symm q)]
      exact R.own j d e
  dis := fun j k d e a e1 e2 q1 q2 => by
    rw [getS_set hi] at e1 e2
    split at e1
    · cases e1
    · rename_i n1
      split at e2
      · cases e2
      · rename_i n2
        rw [List.getElem?_set_ne (Ne.symm n1)] at q1
        rw [List.getElem?_set_ne (Ne.symm n2)] at q2
        exact R.dis j k d e a e1 e2 q1 q2
  lk0 := fun j e => by
    have q : j ≠ i := fun q => by rw [q, hl] at e; cases e
    rw [List.getElem?_set_ne (Ne.symm q)]
    exact R.lk0 j e
theorem tb_or {lk i j : Nat} : (lk ||| (1 <<< i)).testBit j = (lk.testBit j || decide (j = i)) := by
  rw [Nat.testBit_or, Nat.testBit_shiftLeft]
  by_cases q : j = i
  · subst q
    simp
  · by_cases q2 : i ≤ j
    · have : j - i ≠ 0 := by omega
      have e : (1 : Nat).testBit (j - i) = false := by
        cases h : (1 : Nat).testBit (j - i) with
        | false => rfl
        | true => exact absurd (Nat.testBit_one_eq_true_iff_self_eq_zero.mp h) this
      rw [e, decide_eq_false q]
      simp
    · have : decide (j ≥ i) = false := decide_eq_false q2
      rw [this, decide_eq_false q]
      simp
/-- slot i is locked, it holds a -/
def Zn.lck (Z : Zn) (i : Nat) (a : Addr) : Zn := { Z with lk := Z.lk ||| (1 <<< i), ha := fun j => if j = i then a else Z.ha j }
theorem Rep.lock (R : Rep Z B s σ H) {i : Nat} {a : Addr} (h : σ[i]? = some (some (.ref a))) : Rep (Z.lck i a) B s σ H where
  len := R.len
  sub := R.sub
  fr := R.fr
  dom := R.dom
  tab := R.tab
  b0 := R.b0
  bn := R.bn
  dat := R.dat
  own := fun j d e => by
    obtain ⟨b, h1, h2⟩ := R.own j d e
    exact ⟨b, h1, h2.out, h2.mine, h2.own⟩
  dis := R.dis
  lk0 := fun j e => by
    have e' : (Z.lk ||| (1 <<< i)).testBit j = true := e
    show σ[j]? = some (some (.ref (if j = i then a else Z.ha j)))
    by_cases q : j = i
    · rw [if_pos q, q]; exact h
    · rw [if_neg q]
      rw [tb_or, decide_eq_false q, Bool.or_false] at e'
      exact R.lk0 j e'
theorem Rep.unlock {i : Nat} {a : Addr} (R : Rep (Z.lck i a) B s σ H) (hl : Z.lk.testBit i = false) : Rep Z B s σ H where
  len := R.len
  sub := R.sub
  fr := R.fr
  dom := R.dom
  tab := R.tab
  b0 := R.b0
  bn := R.bn
  dat := R.dat
  own := fun j d e => by
    obtain ⟨b, h1, h2⟩ := R.own j d e
    exact ⟨b, h1, h2.out, h2.mine, h2.own⟩
  dis := R.dis
  lk0 := fun j e => by
    have q : j ≠ i := fun q => by rw [q, hl] at e; cases e
    have := R.lk0 j (by show (Z.lk ||| (1 <<< i)).testBit j = true; rw [tb_or, e]; rfl)
    have e2 : (if j = i then a else Z.ha j) = Z.ha j := if_neg q
    rw [← e2]
    exact this
theorem RRet.unlock {i : Nat} {a : Addr} {w : SV} {v : V} (r : RRet (Z.lck i a) B H w v) (hl : Z.lk.testBit i = false) : RRet Z B H w v := by
  cases r with
  | d r => exact .d r
  | o ow ne =>
    refine .o ⟨ow.out, ow.mine, ow.own⟩ fun z => ?_
    have q : 0 ≠ i := fun q => by rw [← q, z] at hl; cases hl
    have := ne (by show (Z.lk ||| (1 <<< i)).testBit 0 = true; rw [tb_or, z]; rfl)
    have e2 : (if 0 = i then a else Z.ha 0) = Z.ha 0 := if_neg q
    rw [← e2]
    exact this
end
/-- the fixed part within a suite -/
abbrev Pm.su (p : Pm) (i : Nat) (a : Addr) : Pm := { p with lk := p.lk ||| (1 <<< i), W := fun _ _ _ _ => False, fz := none, hs := fun j => if j = i then some a else p.hs j }
theorem lck_ok {p : Pm} {Z : Zn} (zo : ZOk p Z) {i : Nat} {a : Addr} : ZOk (p.su i a) (Z.lck i a) := ⟨zo.K, zo.cA, zo.xA, by show Z.lk ||| (1 <<< i) = _; rw [zo.lk], fun j b e => by
  have e' : (if j = i then some a else p.hs j) = some b := e
  show (if j = i then a else Z.ha j) = b
  by_cases q : j = i
  · rw [if_pos q] at e' ⊢
    exact Option.some.inj e'
  · rw [if_neg q] at e' ⊢
    exact zo.ex j b e', fun _ _ z => nomatch z⟩
/-- what a suite asks -/
def tHd (p : Pm) (C : Calls) (i m : Nat) (h : Ts) : Addr → Value → Option Addr → TS := fun a cls d D σ H => ∃ x : Exn, x.c < m ∧ cls = .ref (p.xA.a x.c) ∧ d = none ∧ tSs (p.su i a) (xC C x) h D σ H
section
variable {p : Pm} {C : Calls} {X : Cx} {x n : Str} {cR : Addr} {i m : Nat} {body suite : List Stmt} {b0 : Stmt} {np pos pos' : Pos} {b h : Ts}
theorem ss_try (hs : X.stack = X.env :: X.outer) (hf : X.env.frame = some X.env.locals) (hK : X.K = p.K) (hN : X.N.Nodup) (hi : X.N[i]? = some n) (hln : X.env.kindOf n = some .local) (hc : Names X x (.ref cR)) (hx : ∀ c, c < m → PySem.W.exmOne X.K (.ref (p.xA.a c)) (.ref cR) = some true)
    (hb : ∀ (W : WX) (pn : List (Addr × Obj)) (xe : Value → Shared → Prop), Takes (X.tr pn xe) W → PassesOwn (model X.prog X.w) X.A X.env xe → PSs (X.tr pn xe) body (tSs { p with W := W } C b))
    (hsu : ∀ (a : Addr) (oe : Obj) (y : Exn) (pn : List (Addr × Obj)), y.c < m → Zc (.ref (p.xA.a y.c)) none oe → (∃ vs, oe.data = .fields vs) → PSs (X.suite a ((a, oe) :: pn)) (b0 :: suite) (tSs (p.su i a) (xC C y) h)) :
    PS X (.Try body [.ExceptHandler (some (.Name x np)) (some n) (b0 :: suite) pos'] [] [] pos) (tS1 p C (.try_ b i m h)) := by
  refine (ps_try_as (c := .ref cR) (tb := fun W => tSs { p with W := W } C b) (ts := tHd p C i m h) hs hf hN hi hln hc takes0 hb (fun a oe cls d pn hz hfl => ?_)).imp fun D σ H hh => ?_
  · refine ⟨fun pins s σ H D I ⟨y, em, ec, ed, hy⟩ => ?_⟩
    subst ec ed
    exact (hsu a oe y pn em hz hfl).run pins s σ H D I hy
  · obtain ⟨Z, B, s, zo, R, hh⟩ := hh
    unfold ex at hh
    split at hh
    · exact hh.elim
    · rename_i hl
      have hl0 : p.lk.testBit i = false := by simpa using hl
      have zl : Z.lk.testBit i = false := by rw [zo.lk]; exact hl0
      refine ⟨Z, B, s, ⟨zo.K, zo.cA, zo.xA, zo.lk, zo.ex, zo.fz⟩, R, ?_⟩
      show PostS Z _ B (exs C p.lk b s) D
      cases e : exs C p.lk b s with
      | no => rw [e] at hh; exact hh
      | ok f s1 =>
        rw [e] at hh
        cases f <;> exact hh
      | ex y s1 =>
        rw [e] at hh
        simp only at hh
        split at hh
        rotate_left
        · exact hh.elim
        · rename_i hq
          intro c d σ' H' B' R' sb' xr
          obtain ⟨xr1, xr2⟩ := xr
          have ed : d = none := by
            cases ef : y.f with
            | none => rw [ef] at xr2; exact xr2
            | some v => rw [ef] at hq; cases hq.1
          subst xr1 ed
          have hσ : i < σ'.length := by rw [← R'.len]; exact hq.2.1
          refine ⟨true, by rw [zo.xA]; exact hx _ hq.2.2, fun _ a na => ⟨y, hq.2.2, by rw [zo.xA], rfl, Z.lck i a, B', s1.set i none, lck_ok zo, (R'.setN zl hq.2.1).lock (List.getElem?_set_self hσ), ?_⟩, fun z => nomatch z⟩
          show PostS (Z.lck i a) _ B' (exs (xC C y) (p.lk ||| (1 <<< i)) h (s1.set i none)) _
          cases e2 : exs (xC C y) (p.lk ||| (1 <<< i)) h (s1.set i none) with
          | no => rw [e2] at hh; exact hh
          | ex _ _ => rw [e2] at hh; exact (show False from hh).elim
          | ok f s2 =>
            rw [e2] at hh
            have hh' : PostS Z p.W B (.ok f (s2.set i none)) D := hh
            have back : ∀ {σ2 : L2.St} {H2 B2 : Hp}, Rep (Z.lck i a) B2 s2 σ2 H2 → Rep Z B2 (s2.set i none) (σ2.set i none) H2 := fun {σ2 H2 B2} R2 => by
              by_cases hi2 : i < s2.length
              · exact (R2.unlock zl).setN zl hi2
              · have q1 : s2.set i none = s2 := List.set_eq_of_length_le (by omega)
                have q2 : σ2.set i none = σ2 := List.set_eq_of_length_le (by rw [← R2.len]; omega)
                rw [q1, q2]
                exact R2.unlock zl
            cases f with
            | nx => exact fun σ2 H2 B2 R2 sb2 => hh' _ H2 B2 (back R2) (sb'.trans sb2)
            | bk => exact fun σ2 H2 B2 R2 sb2 => hh' _ H2 B2 (back R2) (sb'.trans sb2)
            | ct => exact fun σ2 H2 B2 R2 sb2 => hh' _ H2 B2 (back R2) (sb'.trans sb2)
            | rt w => exact fun v σ2 H2 B2 R2 sb2 r2 => hh' v _ H2 B2 (back R2) (sb'.trans sb2) (r2.unlock zl)
end
/-- isinstance(error, c) of what is handled -/
theorem se_xis {p : Pm} {C : Calls} {X : Cx} {a : Addr} {oe : Obj} {pn : List (Addr × Obj)} {i k : Nat} {y : Exn} {n cn : Str} {pf pe pc pos : Pos} {cv : V} {cu : Value} (E : ExcC X.K (p.xA.a y.c)) (hz : Zc (.ref (p.xA.a y.c)) none oe) (hf : ∃ vs, oe.data = .fields vs)
    (hg : Gl X "isinstance") (hm : X.mg "isinstance" = none) (hN : X.N[i]? = some n) (hv : Vis X.env.scope n) (hd1 : (n == ("__debug__" : Str)) = false) (hcd : (n == ("__classdict__" : Str)) = false)
    (hy : PE (X.suite a ((a, oe) :: pn)) (.Name cn pc) (tC cv)) (hcv : ∀ u, RelV cv u → u = cu) (hk : PySem.W.kitOne X.K (.ref (p.xA.a y.c)) cu = some (decide ((k : Int) = 0) || decide ((k : Int) = (y.c : Int) + 1))) :
    PE (X.suite a ((a, oe) :: pn)) (.Call (.Name "isinstance" pf) [.Name n pe, .Name cn pc] [] pos) (tE (p.su i a) (xC C y) (.xis k)) := by
  have hv' : PE (X.suite a ((a, oe) :: pn)) (.Name n pe) (tVar i) := pe_var hN hv hd1 hcd
  refine (pe_callB (call_isE (X := X) E hz hf) hg hm boot_isi (pa_cons hv' (pa_cons hy pa_nil (by rfl)) (by rfl)) (by decide +kernel) (by decide +kernel) (by rfl) (by rfl)).imp fun σ H Q h => ?_
  obtain ⟨Z, B, s, zo, R, h⟩ := h
  have h0 := R.lk0 i (by rw [zo.lk]; show (p.lk ||| (1 <<< i)).testBit i = true; rw [tb_or, decide_eq_true rfl, Bool.or_true])
  rw [zo.ex i a (if_pos rfl)] at h0
  refine ⟨.ref a, h0, ?_⟩
  refine ⟨cv, cu, _, rfl, hcv, hk, ?_⟩
  exact Post.flat R (.bl _) h
end FL

set_option maxHeartbeats 4000000
/-! FS, lambdas: g(lambda: e), g a def that calls what it was handed. -/
namespace FL
open PySem PySem.Spec PyProof.Rows L2
open LamX (LamS lamCx lamEnv CodeO TabB Tabs ExtN tLam lam_start2 lam_make2 run_ofS)
/-- the def's own context -/
abbrev gCx (X : Cx) (Ng : List Str) (qg : Str) (sg : Scope) (g : Addr) (cdg : Value) (s : Shared) (H : Hp) : Cx := cxOf C8.CX0 X.prog X.w X.K X.mg X.base Ng qg sg g cdg X.A X.stack s H C8.E0
section
variable {X : Cx} {pins : List (Addr × Obj)} {σ : L2.St} {H : Hp} {s : Shared} {Ng : List Str} {qg : Str} {sg : Scope} {g f c' : Addr} {cdg pm ctv : Value} {params : Arguments} {body : Expr} {scope : Scope} {k : Nat} {a : Str}
/-- a(), in the def that got the lambda -/
theorem act_at {pn : List (Addr × Obj)} {xe : Value → Shared → Prop} {W : WX} {tb : XK → TE} {p1 p2 : Pos} (hgd : NoGd X.A) (I : L2.Inv X pins σ H s) (L : LamS X.env.scope scope)
    (hf : s.heap.get? f = some (PySem.W.kla_obj "<lambda>" (X.env.qual ++ "<lambda>") params body scope (cloFrom X.env.cells scope.names []) pm c' ctv)) (hfn : H f = none) (hfr : f ∉ frs X.stack)
    (hb0 : bindArgs (PySem.W.kla_fn "<lambda>" (X.env.qual ++ "<lambda>") params body scope (cloFrom X.env.cells scope.names []) pm (.ref c') ctv) ⟨[], []⟩ = pure [])
    (tk : Takes ((gCx X Ng qg sg g cdg s H).tr pn xe) W) (hr : Room (k + 1) (X.A.deeper (envOfC qg sg s.heap.objs.size g cdg)))
    (hbody : ∀ (A : Around) (outer : List Env) (s : Shared) (H : Hp) (E : XK), NoGd A → Room k (A.deeper (lamEnv X scope s.heap.objs.size f c')) → PE (lamCx X A outer s H E scope f c') body (tb E))
    (hN : Ng[0]? = some a) (hv : Vis sg a) (hd : (a == ("__debug__" : Str)) = false) (hcd : (a == ("__classdict__" : Str)) = false) :
    PE ((gCx X Ng qg sg g cdg s H).tr pn xe) (.Call (.Name a p1) [] [] p2) (fun σZ HZ Q => σZ[0]? = some (some (.ref f)) ∧ HZ c' = some (CodeO c' (X.env.qual ++ "<lambda>")) ∧ tb (WE W σZ) σ HZ Q) := by
  constructor
  rintro pinsZ sZ σZ HZ Q IZ ⟨h1, h2, h3⟩
  apply wpAny_Call_Name_kw
  refine thn ((pe_var (pos := p1) hN hv hd hcd).run pinsZ sZ σZ HZ (fun v H1 => v = .ref f ∧ H1 = HZ) IZ ⟨_, h1, rfl, rfl⟩) ?_
  rintro u s1 ⟨v, H1, I1, r1, rfl, rfl⟩
  cases r1
  have keep := I1.base.keep f _ hf hfn hfr (fun z => nomatch (show f ∈ ([] : List Addr) from z))
  refine PySem.W.callWith_F0 ⟨_, _, _, _, keep⟩ ?_
  obtain ⟨⟨oc, vs, t, e1, e2, e3⟩, _, _⟩ := I1.hok c' _ h2
  have un : Un (frs X.stack) [] H H1 s.heap s1.heap := I1.base
  apply wpAny_call
  have rc : codeAny (model X.prog X.w) (X.A.deeper (envOfC qg sg s.heap.objs.size g cdg)) (.call (.ref f) ⟨[], []⟩) (CR (L2.CX X.prog X.w) (envOfC qg sg s.heap.objs.size g cdg :: X.stack) X.prog X.w H1 s1 Q (WE W σZ)) s1 := by
    refine PySem.W.kla_callFunE hr.depth keep rfl L.co L.gen rfl ⟨c', oc, vs, t, rfl, e1, e2, e3⟩ ?_
    rw [hb0]
    refine wpAny_pure (wpAny_newFunctionEnv (fun y hy => (L.own y hy).2) (fun y hy => absurd hy (by simp)) (fun h' hns hsb => ?_) L.kind)
    refine ⟨I1.nolimit.fresh _ hsb, ?_⟩
    have kp : ∀ b o, s1.heap.get? b = some o → h'.get? b = some o := fun b o e => hsb.extBut b o (Nat.ne_of_lt (Heap.lt_size e)) (Heap.get?_push_of_some _ e)
    have J := lam_start2 (A := X.A.deeper (envOfC qg sg s.heap.objs.size g cdg)) (outer := envOfC qg sg s.heap.objs.size g cdg :: X.stack) (E := WE W σZ) (f := f) (c' := c') (h₁ := h') (tk := s1.toks + ([] : List (Str × Value)).length) I L I1.env0 hr.hd un hns kp
    have P := hbody (X.A.deeper (envOfC qg sg s.heap.objs.size g cdg)) (envOfC qg sg s.heap.objs.size g cdg :: X.stack) s1 H1 (WE W σZ) hgd (hr.deeper _)
    refine PySem.W.kla_codeExpr (wpAny_mono (P.run [] _ _ H1 Q J h3) ?_ fun e s' hq => hq)
    rintro v s' ⟨w', H', J', rv, q⟩
    exact ⟨w', H', J'.os, J'.bare, J'.base, J'.hok, rv, q⟩
  refine codeAny_mono rc fun r s' hq => ?_
  have w := ends_go (X := (gCx X Ng qg sg g cdg s H).tr pn xe) (σ := σZ) (pins := pinsZ) I1 (passAt tk σZ) r s' hq
  cases r with
  | error _ => exact w
  | ok fl => cases fl <;> first
      | exact w
      | exact w.elim
end
/-- what a def makes of the lambda's reading -/
def GivesL (X : Cx) (Ng : List Str) (x : Str) (sg : Scope) (g : Addr) (cdg : Value) (bg : List Stmt) (a : Str) (q : Str) (TT : (XK → Hp → VK → Prop) → Hp → VK → Prop) : Prop :=
  ∀ (f c' : Addr) (s : Shared) (H : Hp) (Q : VK) (tl : XK → Hp → VK → Prop), NoGd X.A → Room 0 (X.A.deeper (envOfC x sg s.heap.objs.size g cdg)) →
    (∀ (W : WX) (pn : List (Addr × Obj)) (xe : Value → Shared → Prop) (p1 p2 : Pos), Takes ((gCx X Ng x sg g cdg s H).tr pn xe) W →
      PE ((gCx X Ng x sg g cdg s H).tr pn xe) (.Call (.Name a p1) [] [] p2) (fun σZ HZ Q => σZ[0]? = some (some (.ref f)) ∧ HZ c' = some (CodeO c' q) ∧ tl (WE W σZ) HZ Q)) →
    H c' = some (CodeO c' q) → TT tl H Q →
    ∃ t, PSs (gCx X Ng x sg g cdg s H).nox bg t ∧ t { nx := fun _ H' => Q .non H', rt := Q } (L2.start Ng [.ref f]) H
theorem lam_call {X : Cx} {T : List (Addr × Str)} {TT : (XK → Hp → VK → Prop) → Hp → VK → Prop} {x a : Str} {g c P : Addr} {k : Nat} {pg : Arguments} {bg : List Stmt} {sg : Scope} {dV kV doc pm cdv ct oc : Value} {an od : Option Addr} {osl : Array (Option Value)} {Ng : List Str}
    {params : Arguments} {body : Expr} {scope : Scope} {t : XK → TE} {p lpos pos : Pos} (hgd : NoGd X.A) (hg : Gl X x) (hm : X.mg x = some (.ref g)) (hk : PySem.W.keepIn X.K (.ref g) = true)
    (lk : X.K.lookup g = some ⟨oc, od, .func (PySem.W.fnOf x x pg bg sg dV kV doc pm an cdv ct), osl⟩) (hcg : PySem.W.codeIn X.K cdv x = true) (hb : L2.Binds X.K (PySem.W.fnOf x x pg bg sg dV kV doc pm an cdv ct) [a] []) (Sg : FnScope Ng [a] sg) (hNg : Ng[0]? = some a) (hva : Vis sg a)
    (hG : GivesL X Ng x sg g cdv bg a (X.env.qual ++ "<lambda>") TT)
    (TB : TabB X.base X.mg c P) (hcode : X.env.code = .ref c) (hmT : (P, X.env.qual ++ "<lambda>") ∈ T) (hu : ∀ p ∈ T, p.1 = P → p.2 = X.env.qual ++ "<lambda>") (hr : Room (k + 2) X.A) (L : LamS X.env.scope scope) (hdef : defaultsOf params X.env = ([], []))
    (hbind : ∀ (q : Str) (cl : List (Str × Addr)) (pm cv ctv : Value), bindArgs (PySem.W.kla_fn "<lambda>" q params body scope cl pm cv ctv) ⟨[], []⟩ = pure [])
    (hbody : ∀ (A : Around) (outer : List Env) (s : Shared) (H : Hp) (E : XK) (f c' : Addr), NoGd A → Room k (A.deeper (lamEnv X scope s.heap.objs.size f c')) → PE (lamCx X A outer s H E scope f c') body (t E))
    (hdb : (x == ("__debug__" : Str)) = false) (hd : (a == ("__debug__" : Str)) = false) (hcd : (a == ("__classdict__" : Str)) = false) :
    PE X (.Call (.Name x p) [.Lambda params body scope lpos] [] pos) (tLam T TT t) := by
  constructor
  rintro pins s σ H Q I ⟨hT, h⟩
  apply wpAny_Call_Name_kw
  apply ld_glob I hg hm _ hdb
  refine PySem.W.callWith_K (h₀ := X.base) I.ok.mod.kin hk ?_ (by rfl) (by rfl)
  refine Calls.spliced_cons ?_
  refine lam_make2 I TB hcode hmT hu hT hdef (L.has I.ok) fun f c' pm' ctv H1 s' I1 eN T1 hf hfn hfr hco => ?_
  refine Calls.spliced_nil ⟨I1.kIn, ?_⟩
  apply wpAny_call
  have rc : codeAny (model X.prog X.w) X.A (.call (.ref g) ⟨[.ref f], []⟩) (CR C8.CX0 X.stack X.prog X.w H1 s' Q C8.E0) s' := by
    refine run_ofS (N := Ng) (ps := [a]) (us := [.ref f]) (vs := [.ref f]) lk hcg Sg hr I1.env0 (hb s' [.ref f] I1.kIn rfl) (.cons rfl .nil) rfl fun hr' => ?_
    obtain ⟨t', ht', hq'⟩ := hG f c' s' H1 Q (fun E H' Q' => t E σ H' Q') hgd (hr'.mono (Nat.zero_le _)) (fun W pn xe p1 p2 tk => act_at hgd I1 L hf hfn hfr (hbind _ _ _ _ _) tk hr' (fun A outer s H E hA hr2 => hbody A outer s H E f c' hA hr2) hNg hva hd hcd) hco (h H1 eN T1)
    exact ⟨t', ht'.nox, hq'⟩
  refine codeAny_mono rc fun r s2 hq => ?_
  cases r with
  | error e => exact (show False from hq).elim
  | ok fl =>
    cases fl with
    | ret u => exact I1.after hq
    | _ => exact False.elim hq
/-! ### the slots -/
section
variable {Z : Zn} {B H H1 : Hp} {s s1 : S} {σ : L2.St}
/-- all but the tables stays -/
theorem Rep.ext (R : Rep Z B s σ H) (e : ExtN H H1) (t : Tabs Z.xA.T H1) : Rep Z B s σ H1 := by
  have go : ∀ b x, nt H b = some x → H1 b = some x := fun b x q => e b x (nt_some q) (nt_no q)
  exact {
    len := R.len
    sub := fun b x q => e b x (R.sub b x q) fun ps z => R.tab.nb b ps (by rw [q, z])
    fr := fun b x q w => go b x (R.frn q w)
    dom := fun b q => R.dom b (by
      cases h : nt H b with
      | none => rfl
      | some x =>
        have := go b x h
        rw [nt_of this (nt_no h)] at q
        cases q)
    tab := ⟨R.tab.nb, fun p hp => t p hp⟩
    b0 := R.b0
    bn := R.bn
    dat := R.dat
    own := fun i d q => by
      obtain ⟨a, h1, h2⟩ := R.own i d q
      obtain ⟨o, g, _⟩ := h2.own.some_
      exact ⟨a, h1, h2.out, h2.mine, h2.own.heap ((go a o (h2.own.ntn g)).trans g.symm)⟩
    dis := R.dis
    lk0 := R.lk0 }
theorem getS_drop (s : S) (i : Nat) {x : SV} (h : getS (dropO s) i = some x) : getS s i = some x ∧ ∀ d, x ≠ .o d := by
  unfold getS dropO at h
  rw [List.getElem?_map] at h
  unfold getS
  cases e : s[i]? with
  | none => rw [e] at h; cases h
  | some w =>
    rw [e] at h
    cases w with
    | none => cases h
    | some v =>
      cases v with
      | d d => cases h; exact ⟨rfl, fun d z => nomatch z⟩
      | o d => cases h
/-- the zone of a lambda's body -/
def Zn.lam (Z : Zn) (B H : Hp) : Zn := { Z with H0 := nt H, B0 := B, wr := fun _ => False }
theorem Rep.lam (R : Rep Z B s σ H) : Rep (Z.lam B H) B (dropO s) σ H where
  len := by unfold dropO; rw [List.length_map]; exact R.len
  sub := R.sub
  fr := fun b x q _ => nt_some q
  dom := fun b q => q
  tab := R.tab
  b0 := Sub.refl B
  bn := fun b x q => .inl q
  dat := fun i d q => R.dat i d (getS_drop s i q).1
  own := fun i d q => absurd rfl ((getS_drop s i q).2 d)
  dis := fun i j d e a q _ _ _ => absurd rfl ((getS_drop s i q).2 d)
  lk0 := R.lk0
theorem Rep.lam_cf {B2 H2 : Hp} {ha : Addr} (R : Rep (Z.lam B H) B2 s σ H2) : CF Z.xA.T B H B2 H2 false ha where
  sb := R.b0
  sub := R.sub
  fr := fun b x q _ => R.fr b x q (fun z => z)
  dom := fun b q => R.dom b q
  tab := R.tab
  bn := fun b x q => by
    rcases R.bn b x q with z | z | z
    · exact .inl z
    · exact .inr (.inl z)
    · exact z.elim
theorem frzV_ok : ∀ {vs : List Nat} {s s1 : S} {B : Hp}, Rep Z B s σ H → frzV vs s = some s1 → ∃ B', Sub B B' ∧ Rep Z B' s1 σ H
  | [], s, s1, B, R, h => by cases h; exact ⟨B, Sub.refl B, R⟩
  | i :: r, s, s1, B, R, h => by
    unfold frzV at h
    cases e : frz (.s i) s with
    | none => rw [e] at h; cases h
    | some q =>
      obtain ⟨d, s2⟩ := q
      rw [e] at h
      have e0 := e
      unfold frz at e0
      simp only at e0
      have hv : ∃ v, σ[i]? = some (some v) := by
        cases g : getS s i with
        | none => rw [g] at e0; cases e0
        | some w =>
          cases w with
          | d d' => obtain ⟨v, h1, _⟩ := R.dat i d' g; exact ⟨v, h1⟩
          | o d' => obtain ⟨v, h1, _⟩ := R.own i d' g; exact ⟨_, h1⟩
      obtain ⟨v, hv⟩ := hv
      obtain ⟨B1, sb1, R1, _⟩ := frz_ok R (.s hv) e
      obtain ⟨B2, sb2, R2⟩ := frzV_ok R1 h
      exact ⟨B2, sb1.trans sb2, R2⟩
end
/-- what became of a lambda's call -/
def TTg (K : PySem.W.Frag) (cA : Nat → Option Addr) (xA : XT) (Cg : CO → CO) : (XK → Hp → VK → Prop) → Hp → VK → Prop := fun tl H Q =>
  ∃ (B : Hp) (o : CO), unL (encO o) = o ∧ Sub B H ∧ TabOk xA.T B H ∧ CPost K cA xA B H false 0 (Cg o) Q (fun _ _ _ => False) ∧
    ∀ B1 H1, CF xA.T B H B1 H1 false 0 → ∀ (Q' : VK) (E' : XK), (match o with
      | .ok (.d d) _ => ∀ v H2 B2, CF xA.T B1 H1 B2 H2 false 0 → RD K cA B2 d v → Q' v H2
      | .ex x _ => ∀ c d H2 B2, CF xA.T B1 H1 B2 H2 false 0 → XRc K cA xA B2 H2 x c d → E' c d H2
      | _ => False) → tl E' H1 Q'
/-- the fixed part within a lambda -/
abbrev Pm.lam (p : Pm) (E : XK) : Pm := { p with W := fun c d _ H => E c d H, fz := none }
theorem lam_zo {p : Pm} {Z : Zn} (zo : ZOk p Z) {B H : Hp} {E : XK} : ZOk (p.lam E) (Z.lam B H) := ⟨zo.K, zo.cA, zo.xA, zo.lk, zo.ex, fun _ _ z => nomatch z⟩
theorem noEx_post {Z : Zn} {W : WX} {B : Hp} {σ : L2.St} {Q : VK} {o : Out AV} (h : Post rV Z W B σ (noEx o) Q) : ∃ a s, o = .ok a s := by
  cases o with
  | ok a s => exact ⟨a, s, rfl⟩
  | ex _ _ => exact (show False from h).elim
  | no => exact (show False from h).elim
theorem un_ok (d : D) : unL (encO (.ok (.d d) none)) = .ok (.d d) none := by simp [unL, encO]
theorem un_ex {x : Exn} (h : x.f = none) : unL (encO (.ex x none)) = .ex x none := by
  obtain ⟨c, f⟩ := x
  simp only at h
  subst h
  simp [unL, encO]
theorem un_no {o : CO} (h : unL (encO o) = o) : ∀ d h, o ≠ .ok (.o d) h := fun d q e => by
  rw [e] at h
  cases h
theorem lam_ok {p : Pm} {C : Calls} {g : Nat} {vs : List Nat} {e : E} {σ : L2.St} {H : Hp} {Q : VK} (h : tE p C (.lam g vs e) σ H Q) :
    tLam p.xA.T (TTg p.K p.cA p.xA fun o => C g none (encO o)) (fun E => tE (p.lam E) C e) σ H Q := by
  obtain ⟨Z, B, s, zo, R, h⟩ := h
  refine ⟨by rw [← zo.xA]; exact fun q hq => R.tab.ts q hq, fun H1 eN T1 => ?_⟩
  unfold ev at h
  cases ef : frzV vs s with
  | none => rw [ef] at h; exact h.elim
  | some s1 =>
    rw [ef] at h
    simp only at h
    obtain ⟨B1, sb1, R1⟩ := frzV_ok R ef
    have R2 : Rep Z B1 s1 σ H1 := R1.ext eN (by rw [zo.xA]; exact T1)
    have tb := R2.tab
    rw [zo.xA] at tb
    replace h := h.mono sb1
    -- the call's end
    have fin : ∀ {ds : List D}, Post rV Z p.W B1 σ (noEx (callD C g ds s1)) Q → CPost p.K p.cA p.xA B1 H1 false 0 (C g none ds) Q (fun _ _ _ => False) := fun {ds} h => by
      obtain ⟨a, s', e2⟩ := noEx_post h
      rw [e2] at h
      unfold callD at e2
      cases e3 : C g none ds with
      | no => rw [e3] at e2; cases e2
      | ex x ho => rw [e3] at e2; cases e2
      | ok rv ho =>
        rw [e3] at e2
        intro v H' B' cf _ r
        rw [← zo.K, ← zo.cA] at r
        rw [← zo.xA] at cf
        have ra := r.ra R2 cf.sb (s' := s1) (fun i d e => ⟨d, e⟩)
        cases rv with
        | d d => cases e2; exact h v H' B' (R2.call cf) cf.sb ra
        | o d => cases e2; exact h v H' B' (R2.call cf) cf.sb ra
    unfold lamD at h
    cases ee : ev C p.lk e (dropO s1) with
    | no => rw [ee] at h; exact h.elim
    | ok a s2 =>
      rw [ee] at h
      simp only at h
      cases eg : frz a s2 with
      | none => rw [eg] at h; exact h.elim
      | some q =>
        obtain ⟨d, s3⟩ := q
        rw [eg] at h
        refine ⟨B1, .ok (.d d) none, un_ok d, R2.sub, tb, fin h, fun B3 H3 cf Q' E' hq => ?_⟩
        have R3 := (R2.call (by rw [zo.xA]; exact cf)).lam
        refine ⟨Z.lam B3 H3, B3, dropO s1, lam_zo zo, R3, ?_⟩
        show Post rV _ _ _ _ (ev C p.lk e (dropO s1)) _
        rw [ee]
        intro v H4 B4 R4 sb4 r4
        obtain ⟨B5, sb5, R5, r5⟩ := frz_ok R4 r4 eg
        refine hq v H4 B5 (by rw [← zo.xA]; exact R5.lam_cf) ?_
        have r6 : RD Z.K Z.cA B5 d v := r5
        rw [zo.K, zo.cA] at r6
        exact r6
    | ex x s2 =>
      rw [ee] at h
      simp only at h
      cases ef : x.f with
      | some v => rw [ef] at h; exact h.elim
      | none =>
        rw [ef] at h
        refine ⟨B1, .ex x none, un_ex ef, R2.sub, tb, fin h, fun B3 H3 cf Q' E' hq => ?_⟩
        have R3 := (R2.call (by rw [zo.xA]; exact cf)).lam
        refine ⟨Z.lam B3 H3, B3, dropO s1, lam_zo zo, R3, ?_⟩
        show Post rV _ _ _ _ (ev C p.lk e (dropO s1)) _
        rw [ee]
        intro c d H4 B4 R4 sb4 xr
        refine hq c d H4 B4 (by rw [← zo.xA]; exact R4.lam_cf) ?_
        have xr' : XR Z B4 H4 x c d := xr
        unfold XR at xr'
        unfold XRc
        rw [zo.K, zo.cA, zo.xA] at xr'
        exact xr'
/-- .. of a def that calls it ahead of all -/
def TTi (K : PySem.W.Frag) (cA : Nat → Option Addr) (xA : XT) (Cg : CO → CO) : (XK → Hp → VK → Prop) → Hp → VK → Prop := fun tl H Q =>
  ∀ (Q' : VK) (E' : XK),
    (∀ d v H2 B2, Sub B2 H2 → TabOk xA.T B2 H2 → RD K cA B2 d v → CPost K cA xA B2 H2 false 0 (Cg (.ok (.d d) none)) Q (fun _ _ _ => False) → Q' v H2) →
    (∀ x c dd H2 B2, x.f = none → Sub B2 H2 → TabOk xA.T B2 H2 → XRc K cA xA B2 H2 x c dd → CPost K cA xA B2 H2 false 0 (Cg (.ex x none)) Q (fun _ _ _ => False) → E' c dd H2) → tl E' H Q'
theorem lami_ok {p : Pm} {C : Calls} {g : Nat} {e : E} {σ : L2.St} {H : Hp} {Q : VK} (h : tE p C (.lamI g e) σ H Q) :
    tLam p.xA.T (TTi p.K p.cA p.xA fun o => C g none (encO o)) (fun E => tE (p.lam E) C e) σ H Q := by
  obtain ⟨Z, B, s, zo, R, h⟩ := h
  refine ⟨by rw [← zo.xA]; exact fun q hq => R.tab.ts q hq, fun H1 eN T1 Q' E' hq hx => ?_⟩
  unfold ev at h
  have R1 : Rep Z B s σ H1 := R.ext eN (by rw [zo.xA]; exact T1)
  have fin : ∀ {B' H' : Hp} {s' : S} {ds : List D}, Rep Z B' s' σ H' → Sub B B' → Post rV Z p.W B σ (noEx (callD C g ds s')) Q → CPost p.K p.cA p.xA B' H' false 0 (C g none ds) Q (fun _ _ _ => False) := fun {B' H' s' ds} R2 sb h => by
    replace h := h.mono sb
    obtain ⟨a, s3, e2⟩ := noEx_post h
    rw [e2] at h
    unfold callD at e2
    cases e3 : C g none ds with
    | no => rw [e3] at e2; cases e2
    | ex x ho => rw [e3] at e2; cases e2
    | ok rv ho =>
      rw [e3] at e2
      intro v H3 B3 cf _ r
      rw [← zo.K, ← zo.cA] at r
      rw [← zo.xA] at cf
      have ra := r.ra R2 cf.sb (s' := s') (fun i d e => ⟨d, e⟩)
      cases rv with
      | d d => cases e2; exact h v H3 B3 (R2.call cf) cf.sb ra
      | o d => cases e2; exact h v H3 B3 (R2.call cf) cf.sb ra
  refine ⟨Z, B, s, ⟨zo.K, zo.cA, zo.xA, zo.lk, zo.ex, fun _ _ z => nomatch z⟩, R1, ?_⟩
  show Post rV Z _ B σ (ev C p.lk e s) Q'
  unfold lamE at h
  cases ee : ev C p.lk e s with
  | no => rw [ee] at h; exact h.elim
  | ok a s2 =>
    rw [ee] at h
    simp only at h
    cases eg : frz a s2 with
    | none => rw [eg] at h; exact h.elim
    | some q =>
      obtain ⟨d, s3⟩ := q
      rw [eg] at h
      intro v H4 B4 R4 sb4 r4
      obtain ⟨B5, sb5, R5, r5⟩ := frz_ok R4 r4 eg
      have tb := R5.tab
      rw [zo.xA] at tb
      have r6 : RD Z.K Z.cA B5 d v := r5
      rw [zo.K, zo.cA] at r6
      exact hq d v H4 B5 R5.sub tb r6 (fin R5 (sb4.trans sb5) h)
  | ex x s2 =>
    rw [ee] at h
    simp only at h
    cases ef : x.f with
    | some v => rw [ef] at h; exact h.elim
    | none =>
      rw [ef] at h
      intro c d H4 B4 R4 sb4 xr
      have tb := R4.tab
      rw [zo.xA] at tb
      have xr' : XR Z B4 H4 x c d := xr
      refine hx x c d H4 B4 ef R4.sub tb ?_ (fin R4 sb4 h)
      unfold XR at xr'
      unfold XRc
      rw [zo.K, zo.cA, zo.xA] at xr'
      exact xr'
/-- a(), read -/
theorem act_ok {p : Pm} {C : Calls} {o : CO} {B0 H0 : Hp} {f : Addr} {tl : XK → Hp → VK → Prop} {σ : L2.St} {H : Hp} {Q : VK} (hf : p.hs 0 = some f) (hlk : p.lk.testBit 0 = true) (hz : p.fz = some (H0, B0))
    (ht : ∀ B1 H1, CF p.xA.T B0 H0 B1 H1 false 0 → ∀ (Q' : VK) (E' : XK), (match o with
      | .ok (.d d) _ => ∀ v H2 B2, CF p.xA.T B1 H1 B2 H2 false 0 → RD p.K p.cA B2 d v → Q' v H2
      | .ex x _ => ∀ c d H2 B2, CF p.xA.T B1 H1 B2 H2 false 0 → XRc p.K p.cA p.xA B2 H2 x c d → E' c d H2
      | _ => False) → tl E' H1 Q') {c' : Addr} {q : Str} (hc : H0 c' = some (CodeO c' q)) (hn : ∀ d h, o ≠ .ok (.o d) h)
    (h : tE p (aC C o) .act σ H Q) : σ[0]? = some (some (.ref f)) ∧ H c' = some (CodeO c' q) ∧ tl (WE p.W σ) H Q := by
  obtain ⟨Z, B, s, zo, R, h⟩ := h
  obtain ⟨z1, z2⟩ := zo.fz H0 B0 hz
  have cf : CF p.xA.T B0 H0 B H false 0 := {
    sb := by rw [← z1]; exact R.b0
    sub := R.sub
    fr := fun b x e _ => R.fr b x (z2 b x e).1 (z2 b x e).2
    dom := fun b e => by
      cases w : nt H0 b with
      | none => rfl
      | some x =>
        have := (z2 b x w).1
        rw [R.dom b e] at this
        cases this
    tab := by rw [← zo.xA]; exact R.tab
    bn := fun b x e => by
      rcases R.bn b x e with w | w | w
      · rw [z1] at w; exact .inl w
      · refine .inr (.inl ?_)
        cases y : nt H0 b with
        | none => rfl
        | some x' =>
          have := (z2 b x' y).1
          rw [w] at this
          cases this
      · refine .inr (.inl ?_)
        cases y : nt H0 b with
        | none => rfl
        | some x' => exact absurd w (z2 b x' y).2 }
  have h0 := R.lk0 0 (by rw [zo.lk]; exact hlk)
  rw [zo.ex 0 f hf] at h0
  refine ⟨h0, cf.fr c' _ (nt_of hc fun ps => LamX.codeO_ne ps) (fun z => nomatch z.1), ht B H cf Q _ ?_⟩
  unfold ev at h
  split at h
  rotate_left
  · exact h.elim
  have ea : aC C o aNum none [] = o := if_pos rfl
  unfold callD at h
  rw [ea] at h
  cases o with
  | no => exact h.elim
  | ok rv ho =>
    cases rv with
    | o d => exact absurd rfl (hn d ho)
    | d d =>
      intro v H2 B2 cf2 r
      refine h v H2 B2 (R.call (by rw [zo.xA]; exact cf2)) cf2.sb (.d ?_)
      rw [zo.K, zo.cA]
      exact r
  | ex x ho =>
    intro c d H2 B2 cf2 xr
    exact h c d H2 B2 (R.call (by rw [zo.xA]; exact cf2)) cf2.sb (xr.xr zo)
end FL

set_option maxHeartbeats 4000000
/-! FS, part 11: the reading compared with the text. -/
namespace FL
open PySem PySem.Spec PyProof.Rows L2

structure FnD where
  name : Str
  lk : Bool
  np : Nat
/-- what a body sees -/
structure Un where
  N : List Str
  sc : Scope
  fnB : Str → Bool
  fns : Nat → Option FnD
  cls : Nat → Option (Str × Nat)
  cts : List (Str × Int)
  blts : List Str
  flds : List Str
  tcs : List (Str × List Int)
  eqs : Nat → Option Nat
  /-- within an except suite -/
  hot : Bool := false
  /-- statements of a def's own body -/
  tr : Bool := false
  /-- own exceptions' classes; the one that clauses name -/
  xcl : Nat → Option Str := fun _ => none
  xn : Nat := 0
  rg : Option Str := none
  /-- the slot of what is handled -/
  xi : Option Nat := none
  /-- the name of the lambda that was handed in -/
  act : Option Str := none
  /-- defs that are handed lambdas -/
  lam : Nat → Option Str := fun _ => none
  /-- .. those that call them ahead of all -/
  lim : Nat → Bool := fun _ => false
def kd (sc : Scope) (n : Str) : Option NameKind := sc.names.lookup n
def notDbg (n : Str) : Bool := !(n == ("__debug__" : Str)) && !(n == ("__classdict__" : Str))
def isK (o : Option NameKind) (k : NameKind) : Bool := decide (o = some k)
def Un.gl (U : Un) (n : Str) : Bool := isK (kd U.sc n) .globalImplicit && notDbg n
def Un.blt (U : Un) (n : Str) : Bool := U.blts.contains n
def Un.slot (U : Un) (i : Nat) (n : Str) : Bool := decide (U.N[i]? = some n) && (isK (kd U.sc n) .local || isK (kd U.sc n) .cell || isK (kd U.sc n) .free) && notDbg n
def Un.stslot (U : Un) (i : Nat) (n : Str) : Bool := decide (U.N[i]? = some n) && (isK (kd U.sc n) .local || (isK (kd U.sc n) .cell && U.fnB n))
def isStar : Expr → Bool
  | .Starred _ _ => true
  | _ => false
def isSlice : Expr → Bool
  | .Slice _ _ _ _ => true
  | _ => false
def isComp : Expr → Bool
  | .ListComp _ _ _ _ | .SetComp _ _ _ _ | .DictComp _ _ _ _ _ => true
  | _ => false
def isCall0 : Expr → Bool
  | .Call _ _ _ _ => true
  | _ => false
def isSetE : Expr → Bool
  | .Set _ _ _ => true
  | _ => false
def isTst : Expr → Bool
  | .UnaryOp .Not _ _ | .BoolOp _ _ _ | .IfExp _ _ _ _ | .Compare _ _ _ _ => true
  | _ => false
def noStars : List Expr → Bool
  | [] => true
  | x :: r => !isStar x && noStars r
def tailB (op : BoolOp) (r : List Expr) (p : Pos) : Expr := match r with
  | [x] => x
  | r => .BoolOp op r p
def isOp (o : Op) (o' : Operator) : Bool := decide (o' = opOf o)
def isCm (o : Cm) (o' : CmpOp) : Bool := decide (o' = cmOf o)
def ownOf (U : Un) (vs : List Nat) : List (Str × Nat) := vs.map fun i => ((U.N[i]?).getD "", i)
def Un.blk (U : Un) (scope : Scope) : Un := { U with sc := relS scope U.sc, fnB := fun x => scope.names.lookup x == some .cell, tr := false, xi := none, act := none, lam := fun _ => none }
/-- a lambda's body -/
def Un.lmb (U : Un) (scope : Scope) : Un := { U with sc := scope, fnB := fun _ => false, tr := false, xi := none, act := none, lam := fun _ => none }
/-- an except suite -/
def Un.su (U : Un) (i : Nat) : Un := { U with hot := true, tr := false, fns := fun _ => none, cls := fun _ => none, eqs := fun _ => none, xi := some i, act := none, lam := fun _ => none }
def chkCs (U : Un) : Cs → Expr → Bool
  | .c m, y => match y with
    | .Name n _ => U.gl n && decide ((U.cls m).map (·.1) = some n)
    | _ => false
  | k, y => match y with
    | .Name n _ => U.gl n && decide (n = (csN k : Str)) && U.blt n
    | _ => false
def chkCss (U : Un) : List Cs → List Expr → Bool
  | [], [] => true
  | k :: ks, y :: ys => chkCs U k y && !isStar y && chkCss U ks ys
  | _, _ => false
def chkNs (U : Un) : List Nat → List Expr → Bool
  | [], [] => true
  | i :: is, y :: ys => (match y with | .Name n _ => U.stslot i n | _ => false) && chkNs U is ys
  | _, _ => false
def chkTg (U : Un) : Tg → Expr → Bool
  | .v i, y => match y with
    | .Name n _ => U.stslot i n
    | _ => false
  | .t is, y => match y with
    | .Tuple ys _ _ => chkNs U is ys
    | _ => false
abbrev KB := Expr → Bool
abbrev KBs := List Expr → Bool
def kAndT (op : BoolOp) (f g : KB) (x : Expr) : Bool := match x with
  | .BoolOp _ (l :: r :: rest) p => f l && g (tailB op (r :: rest) p)
  | _ => false
def kNotT (f : KB) (x : Expr) : Bool := match x with
  | .UnaryOp _ y _ => f y
  | _ => false
def tstOk : E → Expr → Bool
  | .and a b, x => kAndT .And (tstOk a) (tstOk b) x
  | .or a b, x => kAndT .Or (tstOk a) (tstOk b) x
  | .not a, x => kNotT (tstOk a) x
  | .cm _ _ _, _ => true
  | .ch _ _ _ _ _, _ => true
  | .eqm _ _ _ _ _, _ => true
  | _, x => !isTst x
def kCd (d : D) (k : Const) : Bool := match d, k with
  | .int i, .int j => decide (i = j)
  | .bl i, .bool j => decide (i = j)
  | .str i, .str j => decide (i = j)
  | .non, .none => true
  | _, _ => false
def kC (d : D) (x : Expr) : Bool := match x with
  | .Constant k _ _ => kCd d k
  | _ => false
def kGd (U : Un) (m : Str) (d : D) : Bool := match d with
  | .int i => decide ((m, i) ∈ U.cts)
  | .kt ds => match allI ds with
    | some ns => decide ((m, ns) ∈ U.tcs)
    | none => false
  | _ => false
def kG (U : Un) (n : Str) (d : D) (x : Expr) : Bool := match x with
  | .Name m _ => decide (n = m) && U.gl m && kGd U m d
  | _ => false
def kV (U : Un) (i : Nat) (x : Expr) : Bool := match x with
  | .Name n _ => U.slot i n
  | _ => false
def kOp (o : Op) (f g : KB) (x : Expr) : Bool := match x with
  | .BinOp l o' r _ => isOp o o' && f l && g r
  | _ => false
def isUn (o : UnaryOp) (o' : UnaryOp) : Bool := decide (o' = o)
def kUn (o : UnaryOp) (f : KB) (x : Expr) : Bool := match x with
  | .UnaryOp o' y _ => isUn o o' && f y
  | _ => false
def isBo (o : BoolOp) (o' : BoolOp) : Bool := decide (o' = o)
def kBo (op : BoolOp) (f g : KB) (x : Expr) : Bool := match x with
  | .BoolOp o (l :: r :: rest) p => isBo op o && f l && g (tailB op (r :: rest) p)
  | _ => false
def kCm (o : Cm) (f g : KB) (x : Expr) : Bool := match x with
  | .Compare l [o'] [r] _ => isCm o o' && !isSetE r && f l && g r
  | _ => false
def kCh (o q : Cm) (f g h : KB) (x : Expr) : Bool := match x with
  | .Compare l [o', q'] [r, z] _ => isCm o o' && isCm q q' && !isSetE z && f l && g r && h z
  | _ => false
def kIte (t f g h : KB) (x : Expr) : Bool := match x with
  | .IfExp c y z _ => t c && f c && g y && h z
  | _ => false
def kTup (n : Nat) (f : KBs) (x : Expr) : Bool := match x with
  | .Tuple xs _ _ => decide (n ≤ lim) && f xs
  | _ => false
def kLst (n : Nat) (f : KBs) (x : Expr) : Bool := match x with
  | .List xs _ => decide (n ≤ lim) && f xs
  | _ => false
def kIx (f g : KB) (x : Expr) : Bool := match x with
  | .Subscript l r _ => !isSlice r && f l && g r
  | _ => false
def kSl (f : KB) (g h : Option Expr → Bool) (x : Expr) : Bool := match x with
  | .Subscript l (.Slice u w none _) _ => f l && g u && h w
  | _ => false
def isOne : Const → Bool
  | .int i => decide (i = 1)
  | _ => false
/-- t[lo::-1] -/
def kRev (f : KB) (g : Option Expr → Bool) (x : Expr) : Bool := match x with
  | .Subscript l (.Slice u none (some (.UnaryOp .USub (.Constant k _ _) _)) _) _ => isOne k && f l && g u
  | _ => false
/-- a call of a name: its arguments -/
def kCall (P : Str → List Expr → Bool) (x : Expr) : Bool := match x with
  | .Call (.Name n _) ys [] _ => P n ys
  | _ => false
def isCons (ys : List Expr) : Bool := match ys with
  | _ :: _ => true
  | [] => false
def isRp : Bi → Bool
  | .repr => true
  | _ => false
def bN (b : Bi) : Str := if isRp b = true then "repr" else biN b
def kBi (U : Un) (b : Bi) (f : KBs) (n : Str) (ys : List Expr) : Bool := (biOk b || isRp b) && decide (n = bN b) && U.gl n && U.blt n && isCons ys && f ys
def kIsC (U : Un) (t : Bool) (cs : List Cs) (z : Expr) : Bool := match t, cs, z with
  | false, [k], z => chkCs U k z
  | true, k :: ks, .Tuple zs _ _ => chkCss U (k :: ks) zs && decide ((k :: ks).length ≤ lim)
  | _, _, _ => false
def kIsi (U : Un) (t : Bool) (cs : List Cs) (f : KB) (n : Str) (ys : List Expr) : Bool := match ys with
  | [y, z] => decide (n = ("isinstance" : Str)) && U.gl n && U.blt n && !isStar y && !isStar z && f y && kIsC U t cs z
  | _ => false
def isMeth (n : Str) : Bool := n == ("__init__" : Str) || n == ("__eq__" : Str)
def okF (U : Un) (f : Nat) (lk : Bool) (k : Nat) (n : Str) : Bool := match U.fns f with
  | some F => decide (F.name = n) && (F.lk == lk) && decide (k = F.np)
  | none => false
def kFn (U : Un) (f : Nat) (k : Nat) (g : KBs) (n : Str) (ys : List Expr) : Bool := U.gl n && !isMeth n && okF U f false k n && isCons ys && g ys
def kFnH (U : Un) (f i : Nat) (k : Nat) (g : KBs) (n : Str) (ys : List Expr) : Bool := match ys with
  | .Name m _ :: ys => U.gl n && !isMeth n && U.slot i m && okF U f true k n && g ys
  | _ => false
def kMk (U : Un) (c f : Nat) (k : Nat) (g : KBs) (n : Str) (ys : List Expr) : Bool := U.gl n && okF U f true k "__init__" && decide (U.cls c = some (n, f)) && isCons ys && g ys
def kFld (U : Un) (f : Str) (g : KB) (x : Expr) : Bool := match x with
  | .Attribute y h _ => decide (f = h) && U.flds.contains h && !isCall0 y && g y
  | _ => false
def kMtN (m : Mt) (at_ : Str) (ys : List Expr) : Bool := match m, ys with
  | .append, [_] => decide (at_ = ("append" : Str))
  | .extend, [_] => decide (at_ = ("extend" : Str))
  | .index, [_] => decide (at_ = ("index" : Str))
  | .count, [_] => decide (at_ = ("count" : Str))
  | .pop1, [_] => decide (at_ = ("pop" : Str))
  | .pop0, [] => decide (at_ = ("pop" : Str))
  | _, _ => false
def kMt (U : Un) (m : Mt) (i : Nat) (f : KBs) (x : Expr) : Bool := match x with
  | .Call (.Attribute (.Name n _) at_ apos) ys [] pos => U.slot i n && (apos.endLine == pos.line) && kMtN m at_ ys && f ys
  | _ => false
def kLc (U : Un) (vs : List Nat) (tg : Tg) (fi : Expr → Expr → Bool) (fc : Un → List Expr → Bool) (fe : Un → Expr → Bool) (x : Expr) : Bool := match x with
  | .ListComp elt [⟨tgx, iter, ifs, ka⟩] scope _ => decide (ka = 0) && blkC U.N U.sc scope (ownOf U vs) && tgIn vs tg && !isSetE iter && fi tgx iter && chkTg (U.blk scope) tg tgx && fc (U.blk scope) ifs && fe (U.blk scope) elt
  | _ => false
def kIf (t f : KB) (ifs : List Expr) : Bool := match ifs with
  | [y] => t y && f y
  | _ => false
def kNil (xs : List Expr) : Bool := match xs with
  | [] => true
  | _ => false
def kCons (f : KB) (g : KBs) (xs : List Expr) : Bool := match xs with
  | y :: ys => !isStar y && f y && g ys
  | [] => false
def kO (f : KB) (x : Option Expr) : Bool := match x with
  | some y => f y
  | none => false
def kRng (U : Un) (k : Nat) (f : KBs) (n : Str) (ys : List Expr) : Bool := decide (n = ("range" : Str)) && U.gl n && U.blt n && (match ys with | [_] => decide (k = 1) | [_, _] => decide (k = 2) | _ => false) && f ys
def kZip (U : Un) (tg : Expr) (f : KBs) (n : Str) (ys : List Expr) : Bool := decide (n = ("zip" : Str)) && U.gl n && U.blt n && (match tg, ys with | .Tuple _ _ _, [_, _] => true | _, _ => false) && f ys
def kEnum (U : Un) (tg : Expr) (f : KBs) (n : Str) (ys : List Expr) : Bool := decide (n = ("enumerate" : Str)) && U.gl n && U.blt n && (match tg, ys with | .Tuple _ _ _, [_] => true | _, _ => false) && f ys
def kDnew (x : Expr) : Bool := match x with
  | .Dict [] [] _ => true
  | _ => false
def kRvr (U : Un) (k : Nat) (f : KBs) (n : Str) (ys : List Expr) : Bool := match ys with
  | [.Call (.Name m _) zs [] _] => decide (n = ("reversed" : Str)) && U.gl n && U.blt n && kRng U k f m zs
  | _ => false
def kTrg (U : Un) (t : Bool) (k : Nat) (f : KBs) (n : Str) (ys : List Expr) : Bool := match ys with
  | [.Call (.Name m _) zs [] _] => decide (n = ((if t = true then "tuple" else "list") : Str)) && U.gl n && U.blt n && kRng U k f m zs
  | _ => false
/-- == (true: !=) by the own == of a class -/
def isEqm (ne : Bool) (o : CmpOp) : Bool := if ne = true then decide (o = .NotEq) else decide (o = .Eq)
def kEqm (U : Un) (ne : Bool) (c k : Nat) (f g : KB) (x : Expr) : Bool := match x with
  | .Compare l [o'] [r] _ => isEqm ne o' && decide (U.eqs c = some k) && okF U k false 2 "__eq__" && !isSetE r && f l && g r
  | _ => false
def kD1 (U : Un) (k : Int) (i : Nat) (x : Expr) : Bool := match x with
  | .Dict [some (.Constant (.int j) _ _)] [.Name n _] _ => decide (j = k) && U.slot i n
  | _ => false
def kXis (U : Un) (k : Nat) (x : Expr) : Bool := match x with
  | .Call (.Name f _) [.Name e _, .Name c _] [] _ => decide (f = ("isinstance" : Str)) && U.gl f && U.blt f && U.gl c && (match U.xi with | some i => U.slot i e | none => false) && (if k = 0 then decide (c = ("ValueError" : Str)) && U.blt c else decide (U.xcl (k - 1) = some c))
  | _ => false
def kAct (U : Un) (x : Expr) : Bool := match x with
  | .Call (.Name a _) [] [] _ => decide (U.act = some a)
  | _ => false
def noPs : Arguments → Bool
  | ⟨[], [], none, [], [], none, []⟩ => true
  | _ => false
def kLam (U : Un) (g : Nat) (f : Un → Expr → Bool) (x : Expr) : Bool := match x with
  | .Call (.Name n _) [.Lambda ps body scope _] [] _ => !U.hot && U.gl n && decide (U.lam g = some n) && LamX.lamSB U.sc scope && noPs ps && f (U.lmb scope) body
  | _ => false
def kLamI (U : Un) (g : Nat) (f : Un → Expr → Bool) (x : Expr) : Bool := U.lim g && kLam U g f x
def kNset (U : Un) (f : KB) (x : Expr) : Bool := match x with
  | .Call (.Name l _) [.Call (.Name n _) [y] [] _] [] _ => decide (l = ("len" : Str)) && U.gl l && U.blt l && decide (n = ("set" : Str)) && U.gl n && U.blt n && !isStar y && f y
  | _ => false
def isTrueK (x : Expr) : Bool := match x with
  | .Constant (.bool true) _ _ => true
  | _ => false
def kDc (U : Un) (vs : List Nat) (tg : Tg) (fi : Expr → Expr → Bool) (fc : Un → List Expr → Bool) (fe : Un → Expr → Bool) (x : Expr) : Bool := match x with
  | .DictComp kx vx [⟨tgx, iter, ifs, ka⟩] scope _ => decide (ka = 0) && blkC U.N U.sc scope (ownOf U vs) && tgIn vs tg && !isSetE iter && fi tgx iter && chkTg (U.blk scope) tg tgx && fc (U.blk scope) ifs && fe (U.blk scope) kx && isTrueK vx
  | _ => false
mutual
def chkE : E → Un → Expr → Bool
  | .c d, _, x => kC d x
  | .g n d, U, x => kG U n d x
  | .v i, U, x => kV U i x
  | .op o a b, U, x => kOp o (chkE a U) (chkE b U) x
  | .neg a, U, x => kUn .USub (chkE a U) x
  | .not a, U, x => kUn .Not (chkE a U) x
  | .and a b, U, x => kBo .And (chkE a U) (chkE b U) x
  | .or a b, U, x => kBo .Or (chkE a U) (chkE b U) x
  | .cm o a b, U, x => kCm o (chkE a U) (chkE b U) x
  | .ch o q a b c, U, x => kCh o q (chkE a U) (chkE b U) (chkE c U) x
  | .ite c a b, U, x => kIte (tstOk c) (chkE c U) (chkE a U) (chkE b U) x
  | .tup es, U, x => kTup (esLen es) (chkEs es U) x
  | .lst es, U, x => kLst (esLen es) (chkEs es U) x
  | .ix a b, U, x => kIx (chkE a U) (chkE b U) x
  | .sl a lo hi, U, x => kSl (chkE a U) (chkEo lo U) (chkEo hi U) x
  | .bi b es, U, x => !U.hot && kCall (kBi U b (chkEs es U)) x
  | .isi a t cs, U, x => kCall (kIsi U t cs (chkE a U)) x
  | .call f es, U, x => kCall (kFn U f (esLen es) (chkEs es U)) x
  | .callH f i es, U, x => kCall (kFnH U f i (esLen es) (chkEs es U)) x
  | .mk c f es, U, x => kCall (kMk U c f (esLen es) (chkEs es U)) x
  | .fld a f, U, x => kFld U f (chkE a U) x
  | .mt m i es, U, x => kMt U m i (chkEs es U) x
  | .dnew _, _, x => kDnew x
  | .trg t es, U, x => !U.hot && kCall (kTrg U t (esLen es) (chkEs es U)) x
  | .rev a lo, U, x => kRev (chkE a U) (chkEo lo U) x
  | .eqm ne c f a b, U, x => kEqm U ne c f (chkE a U) (chkE b U) x
  | .d1 k i, U, x => kD1 U k i x
  | .xis k, U, x => kXis U k x
  | .act, U, x => kAct U x
  | .lam g _ e, U, x => kLam U g (chkE e) x
  | .lamI g e, U, x => kLamI U g (chkE e) x
  | .nset a, U, x => !U.hot && kNset U (chkE a U) x
  | .dcT vs tg it cond el, U, x => !U.hot && kDc U vs tg (chkI it U) (chkC cond) (chkE el) x
  | .lc vs tg it cond el, U, x => !U.hot && kLc U vs tg (chkI it U) (chkC cond) (chkE el) x
def chkEs : Es → Un → List Expr → Bool
  | .nil, _, x => kNil x
  | .cons e r, U, x => kCons (chkE e U) (chkEs r U) x
def chkEo : Eo → Un → Option Expr → Bool
  | .none, _, x => x.isNone
  | .some e, U, x => kO (chkE e U) x
def chkC : Eo → Un → List Expr → Bool
  | .none, _, x => kNil x
  | .some e, U, x => kIf (tstOk e) (chkE e U) x
def chkI : I → Un → Expr → Expr → Bool
  | .e e, U, _, x => chkE e U x
  | .rng es, U, _, x => kCall (kRng U (esLen es) (chkEs es U)) x
  | .rrng es, U, _, x => kCall (kRvr U (esLen es) (chkEs es U)) x
  | .zip es, U, tg, x => kCall (kZip U tg (chkEs es U)) x
  | .enum es, U, tg, x => kCall (kEnum U tg (chkEs es U)) x
end
/-- swaps a comprehension's stores -/
def swC (sc : Scope) (t : Str) (tpos : Pos) (v : Expr) (scope : Scope) : Bool :=
  (if sc.kind.isAnnotationScope then ScopeKind.function else sc.kind) == .function && kd sc t == some .local && tpos.line == v.pos.line && !(scope.names.any fun (n, k) => n == t && (k == .local || k == .cell))
def isTup : Expr → Bool
  | .Tuple _ _ _ => true
  | _ => false
def isLc : E → Bool
  | .lc _ _ _ _ _ => true
  | _ => false
def tAsgN (U : Un) (i : Nat) (lc : Bool) (f : KB) (x : Stmt) : Bool := match x with
  | .Assign [.Name n _] v _ => U.stslot i n && f v && (!isComp v || lc)
  | _ => false
def tAsgT (U : Un) (is : List Nat) (f : KB) (x : Stmt) : Bool := match x with
  | .Assign [.Tuple ts _ _] v _ => chkNs U is ts && !isTup v && f v
  | _ => false
def kPar (U : Un) (is : List Nat) (ts : List Expr) (n : Nat) : Bool := match is, ts with
  | [i, j], [.Name a pa, .Name b pb] => decide (i ≠ j) && decide (a ≠ b) && decide (U.N[i]? = some a) && decide (U.N[j]? = some b) && isK (kd U.sc a) .local && isK (kd U.sc b) .local && decide (pa.line = pb.line) && decide (n = 2)
  | [i, j, l], [.Name a pa, .Name b pb, .Name c pc] => decide (i ≠ j) && decide (i ≠ l) && decide (j ≠ l) && decide (a ≠ b) && decide (a ≠ c) && decide (b ≠ c) && decide (U.N[i]? = some a) && decide (U.N[j]? = some b) && decide (U.N[l]? = some c) &&
    isK (kd U.sc a) .local && isK (kd U.sc b) .local && isK (kd U.sc c) .local && decide (pa.line = pb.line) && decide (pa.line = pc.line) && decide (n = 3)
  | _, _ => false
def isCellNm (U : Un) (x : Expr) : Bool := match x with
  | .Name n _ => isK (kd U.sc n) .cell
  | _ => false
def tParK (U : Un) (is : List Nat) (n : Nat) (f : KBs) (x : Stmt) : Bool := match x with
  | .Assign [.Tuple ts _ _] (.Tuple vs _ _) _ => (ts.any (isCellNm U) || kPar U is ts vs.length) && decide (n = vs.length) && f vs && chkNs U is ts && decide (n ≤ lim) && (ts.any (isCellNm U) || vs.all (foldedForSure 8) || !vs.all (constantsAlone 8))
  | _ => false
def tSetIx (U : Un) (i : Nat) (f g : KB) (x : Stmt) : Bool := match x with
  | .Assign [.Subscript (.Name m _) ix _] v _ => U.slot i m && !isSlice ix && !isComp v && f ix && g v
  | _ => false
def tSetFld (U : Un) (f : Str) (g : KB) (x : Stmt) : Bool := match x with
  | .Assign [.Attribute (.Name n _) h _] v _ => decide (f = h) && U.flds.contains h && U.slot 0 n && !isComp v && g v
  | _ => false
def isAdd : Op → Bool
  | .add => true
  | .sub => true
  | _ => false
def tAugK (U : Un) (i : Nat) (o : Op) (f : KB) (x : Stmt) : Bool := match x with
  | .AugAssign (.Name n _) o' v _ => U.stslot i n && isOp o o' && isAdd o && f v
  | _ => false
def tIfK (t f : KB) (a b : List Stmt → Bool) (x : Stmt) : Bool := match x with
  | .If c p q _ => t c && f c && a p && b q
  | _ => false
def tWh (t f : KB) (a : List Stmt → Bool) (x : Stmt) : Bool := match x with
  | .While c p [] _ => t c && f c && a p
  | _ => false
def tForK (U : Un) (tg : Tg) (f : Expr → Expr → Bool) (a : List Stmt → Bool) (x : Stmt) : Bool := match x with
  | .For tgx iter p [] _ => chkTg U tg tgx && !isSetE iter && f tgx iter && a p
  | _ => false
def tRetK (f : KB) (x : Stmt) : Bool := match x with
  | .Return (some v) _ => f v
  | _ => false
def tRetNK (x : Stmt) : Bool := match x with
  | .Return none _ => true
  | _ => false
def tExprK (f : KB) (x : Stmt) : Bool := match x with
  | .Expr v _ => !isComp v && f v
  | _ => false
def tPassK (x : Stmt) : Bool := match x with
  | .Pass _ => true
  | .Expr (.Constant (.str _) _ _) _ => true
  | _ => false
def tBrkK (x : Stmt) : Bool := match x with
  | .Break _ => true
  | _ => false
def tCntK (x : Stmt) : Bool := match x with
  | .Continue _ => true
  | _ => false
def tNilK (xs : List Stmt) : Bool := match xs with
  | [] => true
  | _ => false
def tConsK (f : Stmt → Bool) (g : List Stmt → Bool) (xs : List Stmt) : Bool := match xs with
  | y :: ys => f y && g ys
  | [] => false
def tRseK (U : Un) (c : Nat) (x : Stmt) : Bool := match x with
  | .Raise (some (.Call (.Name n _) [] [] _)) none _ => !U.hot && U.gl n && decide (U.xcl c = some n)
  | _ => false
def tTryK (U : Un) (i m : Nat) (f : List Stmt → Bool) (g : Un → List Stmt → Bool) (x : Stmt) : Bool := match x with
  | .Try body [.ExceptHandler (some (.Name r _)) (some n) (b0 :: suite) _] [] [] _ => U.tr && decide (m = U.xn) && U.xi.isNone && decide (U.rg = some r) && U.gl r && decide (U.N[i]? = some n) && isK (kd U.sc n) .local && f body && g (U.su i) (b0 :: suite)
  | _ => false
mutual
def chkT : T → Un → Stmt → Bool
  | .asg i e, U, x => tAsgN U i (isLc e) (chkE e U) x
  | .asgT is e, U, x => !U.hot && tAsgT U is (chkE e U) x
  | .par is es, U, x => !U.hot && tParK U is (esLen es) (chkEs es U) x
  | .setIx i b e, U, x => tSetIx U i (chkE b U) (chkE e U) x
  | .setFld f e, U, x => tSetFld U f (chkE e U) x
  | .aug i o e, U, x => tAugK U i o (chkE e U) x
  | .if_ c a b, U, x => tIfK (tstOk c) (chkE c U) (chkTs a U) (chkTs b U) x
  | .while_ c b, U, x => tWh (tstOk c) (chkE c U) (chkTs b U) x
  | .for_ tg it b, U, x => !U.hot && tForK U tg (chkI it U) (chkTs b U) x
  | .ret e, U, x => tRetK (chkE e U) x
  | .retN, _, x => tRetNK x
  | .expr e, U, x => tExprK (chkE e U) x
  | .pass, _, x => tPassK x
  | .brk, _, x => tBrkK x
  | .cnt, _, x => tCntK x
  | .raise, _, _ => true
  | .rse c, U, x => tRseK U c x
  | .try_ b i m h, U, x => tTryK U i m (chkTs b U) (chkTs h) x
def chkTs : Ts → Un → List Stmt → Bool
  | .nil, _, x => tNilK x
  | .cons t r, U, x => tConsK (chkT t U) (chkTs r U) x
end

/-! ### the context -/
structure CallAt (p : Pm) (C : Calls) (X : Cx) (f : Nat) (F : FnD) (fa : Addr) : Prop where
  ok : ∃ fd ps, FnG X.prog X.w X.K X.mg X.base p.L fa fd ps (spF p.K p.cA p.xA C f F.lk F.np) ∧ Room (p.L + 1) X.A ∧ Binds X.K fd ps []
/-- an own exception's class -/
structure ExK (K : PySem.W.Frag) (C0 : Addr) : Prop where
  q : PySem.W.excIn K C0 [.type "ValueError", .type "Exception", .type "BaseException", .type "object"] "ValueError.__new__" = true
  k : PySem.W.keepIn K (.ref C0) = true
  b : PySem.W.subIn K (.ref C0) (.type "BaseException") = some true
  t : PySem.W.typeIn K (.ref C0) = some (.type "type")
/-- a def that is handed a lambda -/
structure LamAt (p : Pm) (C : Calls) (X : Cx) (g : Nat) (n : Str) (im : Bool) : Prop where
  ok : ∃ (a : Str) (ga c P : Addr) (pg : Arguments) (bg : List Stmt) (sg : Scope) (dV kV doc pm cdv ct oc : Value) (an od : Option Addr) (osl : Array (Option Value)) (Ng : List Str),
    X.mg n = some (.ref ga) ∧ PySem.W.keepIn X.K (.ref ga) = true ∧ X.K.lookup ga = some ⟨oc, od, .func (PySem.W.fnOf n n pg bg sg dV kV doc pm an cdv ct), osl⟩ ∧ PySem.W.codeIn X.K cdv n = true ∧
    L2.Binds X.K (PySem.W.fnOf n n pg bg sg dV kV doc pm an cdv ct) [a] [] ∧ FnScope Ng [a] sg ∧ Ng[0]? = some a ∧ Vis sg a ∧ GivesL X Ng n sg ga cdv bg a (X.env.qual ++ "<lambda>") (TTg p.K p.cA p.xA (fun o => C g none (encO o))) ∧ (im = true → GivesL X Ng n sg ga cdv bg a (X.env.qual ++ "<lambda>") (TTi p.K p.cA p.xA (fun o => C g none (encO o)))) ∧
    LamX.TabB X.base X.mg c P ∧ X.env.code = .ref c ∧ (P, X.env.qual ++ "<lambda>") ∈ p.xA.T ∧ (∀ q ∈ p.xA.T, q.1 = P → q.2 = X.env.qual ++ "<lambda>") ∧ (a == ("__debug__" : Str)) = false ∧ (a == ("__classdict__" : Str)) = false
  rm : Room (p.L + 3) X.A
structure Ctx (U : Un) (p : Pm) (C : Calls) (X : Cx) : Prop where
  hK : X.K = p.K
  calm : U.hot = false → X.calm = true
  N : X.N = U.N
  sc : X.env.scope = U.sc
  kind : U.sc.kind = .function
  nd : U.N.Nodup
  un : X.A.units + 64 < cLine
  un2 : X.A.units + 120 < cLine
  gd : NoGd X.A
  fnB : ∀ n, U.fnB n = true → X.fn n = true
  tk : Takes X p.W
  fns : ∀ f F, U.fns f = some F → isMeth F.name = false → ∃ fa, CallAt p C X f F fa ∧ X.mg F.name = some (.ref fa) ∧ PySem.W.keepIn X.K (.ref fa) = true
  mks : ∀ c n f F, U.cls c = some (n, f) → U.fns f = some F → ∃ fa C0, CallAt p C X f F fa ∧ p.cA c = some C0 ∧ Mk X.K C0 fa
  cls : ∀ c n f, U.cls c = some (n, f) → ∃ C0, p.cA c = some C0 ∧ X.mg n = some (.ref C0)
  cts : ∀ n i, (n, i) ∈ U.cts → ∃ t, X.mg n = some (.int i t)
  tcs : ∀ n ns, (n, ns) ∈ U.tcs → ∃ a, X.mg n = some (.ref a) ∧ KTp p.K a (ns.map V.int)
  blts : ∀ n, U.blts.contains n = true → X.mg n = none
  ck : ClsK X.K p.cA
  flds : ∀ f, U.flds.contains f = true → ∀ c C, p.cA c = some C → NoAttr X.K C f
  eqs : ∀ c f F, U.eqs c = some f → U.fns f = some F → ∃ fa C0, CallAt p C X f F fa ∧ p.cA c = some C0 ∧ EqAt X.K C0 fa
  rse : ∀ c n, U.xcl c = some n → X.mg n = some (.ref (p.xA.a c)) ∧ ExK X.K (p.xA.a c)
  hdl : ∀ r, U.rg = some r → ∃ cR, X.mg r = some (.ref cR) ∧ ∀ c, c < U.xn → PySem.W.exmOne X.K (.ref (p.xA.a c)) (.ref cR) = some true
  fr : U.tr = true → X.stack = X.env :: X.outer ∧ X.env.frame = some X.env.locals
  exs : U.tr = true → ∀ c, c < U.xn → ExcC X.K (p.xA.a c) ∧ PySem.W.kitOne X.K (.ref (p.xA.a c)) (.type "ValueError") = some true ∧ ∀ k n, U.xcl k = some n → PySem.W.kitOne X.K (.ref (p.xA.a c)) (.ref (p.xA.a k)) = some (decide (k = c))
  xis : ∀ k y, kXis U k y = true → PE X y (tE p C (.xis k))
  act : ∀ (W : WX) (pn : List (Addr × Obj)) (xe : Value → Shared → Prop), Takes (X.tr pn xe) W → ∀ y, kAct U y = true → PE (X.tr pn xe) y (tE { p with W := W } C .act)
  lam : ∀ g n, U.lam g = some n → LamAt p C X g n (U.lim g)
section
variable {U : Un} {p : Pm} {C : Calls} {X : Cx}
theorem isK_of {o : Option NameKind} {k : NameKind} (h : isK o k = true) : o = some k := of_decide_eq_true h
theorem notDbg_of {n : Str} (h : notDbg n = true) : (n == ("__debug__" : Str)) = false ∧ (n == ("__classdict__" : Str)) = false := by
  unfold notDbg at h
  rw [Bool.and_eq_true] at h
  exact ⟨by simpa using h.1, by simpa using h.2⟩
theorem Ctx.gl (c : Ctx U p C X) {n : Str} (h : U.gl n = true) : Gl X n ∧ (n == ("__debug__" : Str)) = false := by
  unfold Un.gl at h
  rw [Bool.and_eq_true] at h
  refine ⟨?_, (notDbg_of h.2).1⟩
  show X.env.scope.names.lookup n = _
  rw [c.sc]
  exact isK_of h.1
theorem Ctx.slot (c : Ctx U p C X) {i : Nat} {n : Str} (h : U.slot i n = true) : X.N[i]? = some n ∧ Vis X.env.scope n ∧ (n == ("__debug__" : Str)) = false ∧ (n == ("__classdict__" : Str)) = false := by
  unfold Un.slot at h
  rw [Bool.and_eq_true, Bool.and_eq_true] at h
  obtain ⟨⟨h1, h2⟩, h3⟩ := h
  refine ⟨by rw [c.N]; exact of_decide_eq_true h1, ?_, notDbg_of h3⟩
  rw [c.sc]
  rw [Bool.or_eq_true, Bool.or_eq_true] at h2
  rcases h2 with (h2 | h2) | h2
  · exact .inl (isK_of h2)
  · exact .inr (.inl (isK_of h2))
  · exact .inr (.inr (isK_of h2))
theorem Ctx.stslot (c : Ctx U p C X) {i : Nat} {n : Str} (h : U.stslot i n = true) : X.N[i]? = some n ∧ Loc X.env.scope n ∧ (X.fn n = true ∨ X.env.scope.names.lookup n = some .local) := by
  unfold Un.stslot at h
  rw [Bool.and_eq_true, Bool.or_eq_true] at h
  obtain ⟨h1, h2⟩ := h
  refine ⟨by rw [c.N]; exact of_decide_eq_true h1, ?_⟩
  rw [c.sc]
  rcases h2 with h2 | h2
  · exact ⟨.inl (isK_of h2), .inr (isK_of h2)⟩
  · rw [Bool.and_eq_true] at h2
    exact ⟨.inr (isK_of h2.1), .inl (c.fnB n h2.2)⟩
theorem star_cons {x : Expr} {xs : List Expr} {env : Env} (h : isStar x = false) : starEach (x :: xs) env = (false, eval x env) :: starEach xs env := by
  cases x <;> first | rfl | cases h
theorem star_any {xs : List Expr} {env : Env} {pos : Pos} (h : noStars xs = true) : (backTo pos (starEach xs env)).any (·.1) = false := by
  induction xs with
  | nil => rfl
  | cons x r ih =>
    unfold noStars at h
    rw [Bool.and_eq_true] at h
    rw [star_cons (by simpa using h.1)]
    have := ih h.2
    unfold backTo at this ⊢
    rw [List.map_cons, List.any_cons, this]
    rfl
theorem chkEs_stars {U : Un} : ∀ {es : Es} {xs : List Expr}, chkEs es U xs = true → noStars xs = true
  | .nil, xs, h => by
    unfold chkEs kNil at h
    cases xs with
    | nil => rfl
    | cons _ _ => cases h
  | .cons e r, xs, h => by
    unfold chkEs kCons at h
    cases xs with
    | nil => cases h
    | cons y ys =>
      simp only [Bool.and_eq_true] at h
      unfold noStars
      rw [h.1.1, chkEs_stars h.2]; rfl
theorem abase {y : Expr} {f : Str} {env : Env} {w : Sem Value} (h : isCall0 y = false) : attributeBase y f env w = w := by
  cases y <;> first | rfl | cases h
theorem plainIx_of {y : Expr} (h : isSlice y = false) : PlainIx y := by
  intro o i
  cases y <;> first | rfl | cases h
theorem swaps_no {v : Expr} {t : Option Expr} {l : Nat} {env : Env} (h : isComp v = false) : swapsWith v t l env = pure false := by
  cases v <;> first | rfl | cases h
theorem swaps_tup {v : Expr} {ts : List Expr} {k : Nat} {pt : Pos} {l : Nat} {env : Env} : swapsWith v (some (.Tuple ts k pt)) l env = pure false := by
  cases v <;> rfl
theorem folded_no {it : Expr} {env : Env} (h : isSetE it = false) : ∀ x, foldedSetIterable it env x = pure x := by
  intro x
  cases it <;> first | rfl | cases h
theorem truth_no {x : Expr} {env : Env} (h : isTst x = false) : ∀ whole, isTrue x env whole = (do let v ← whole; standAt x.pos; holding [v] (truthy v)) := by
  intro whole
  cases x with
  | UnaryOp o a p => cases o <;> first | rfl | cases h
  | _ => first | rfl | cases h
theorem marks_no {o : CmpOp} {y : Expr} (h : isSetE y = false) : behindInMarks o y = false := by
  cases y <;> first | rfl | cases h
end
end FL

set_option maxHeartbeats 4000000
/-! FS, part 12: what is compared is sound: expressions. -/
namespace FL
open PySem PySem.Spec PyProof.Rows L2

section
variable {U : Un} {p : Pm} {C : Calls} {X : Cx}
/-! ### targets -/
theorem chkNs_len : ∀ {is : List Nat} {ys : List Expr}, chkNs U is ys = true → is.length = ys.length
  | [], [], _ => rfl
  | _ :: is, _ :: ys, h => by
    unfold chkNs at h
    rw [Bool.and_eq_true] at h
    rw [List.length_cons, List.length_cons, chkNs_len h.2]
  | [], _ :: _, h => by cases h
  | _ :: _, [], h => by cases h
theorem sNs (c : Ctx U p C X) : ∀ {is : List Nat} {ys : List Expr}, chkNs U is ys = true → PGs X ys (gsOf is) ∧ (assignEach ys X.env).length = ys.length ∧ (assignEach ys X.env).findIdx? (·.1) = none
  | [], [], _ => ⟨pgs_nil, rfl, rfl⟩
  | i :: is, y :: ys, h => by
    unfold chkNs at h
    rw [Bool.and_eq_true] at h
    obtain ⟨h1, h2⟩ := h
    obtain ⟨g1, g2, g3⟩ := sNs c h2
    split at h1
    · obtain ⟨q1, q2, q3⟩ := c.stslot h1
      refine ⟨pgs_cons (pg_name (by rw [c.N]; exact c.nd) q1 q2 q3) g1 (by rfl), ?_, ?_⟩
      · show (_ :: assignEach ys X.env).length = _
        rw [List.length_cons, List.length_cons, g2]
      · show List.findIdx? _ ((false, _) :: assignEach ys X.env) = none
        rw [List.findIdx?_cons]
        simp only [Bool.false_eq_true, if_false]
        rw [g3]; rfl
    · cases h1
  | [], _ :: _, h => by cases h
  | _ :: _, [], h => by cases h
theorem sTg (c : Ctx U p C X) (hh : U.hot = false) : ∀ {tg : Tg} {y : Expr}, chkTg U tg y = true → PG X y (gOf p.K tg)
  | .v i, y, h => by
    unfold chkTg at h
    simp only at h
    split at h
    · obtain ⟨q1, q2, q3⟩ := c.stslot h
      exact pg_name (by rw [c.N]; exact c.nd) q1 q2 q3
    · cases h
  | .t is, y, h => by
    unfold chkTg at h
    simp only at h
    split at h
    · obtain ⟨g1, g2, g3⟩ := sNs c h
      have e : gOf p.K (.t is) = gTup X.K is.length (gsOf is) := by rw [c.hK]; rfl
      rw [e]
      exact pg_tup (c.calm hh) g1 (by rw [g2, chkNs_len h]) g3
    · cases h
theorem sTgL (c : Ctx U p C X) (hh : U.hot = false) {is : List Nat} {ts : List Expr} {k : Nat} {pt : Pos} (h : chkNs U is ts = true) : PG X (.Tuple ts k pt) (gTL p.K is.length (gsOf is)) := by
  obtain ⟨g1, g2, g3⟩ := sNs c h
  rw [← c.hK]
  exact pg_tl (pg_tup (c.calm hh) g1 (by rw [g2, chkNs_len h]) g3) (pg_lst (c.calm hh) g1 (by rw [g2, chkNs_len h]) g3)
theorem kXis_none {U : Un} {k : Nat} {y : Expr} (h : U.xi = none) : kXis U k y = false := by
  unfold kXis
  split
  · rw [h]
    simp only [Bool.and_false, Bool.false_and]
  · rfl
theorem kAct_none {U : Un} {y : Expr} (h : U.act = none) : kAct U y = false := by
  unfold kAct
  split
  · rw [h]
    rfl
  · rfl
/-! ### the block of a comprehension -/
theorem Ctx.blk (c : Ctx U p C X) {scope : Scope} (hk : scope.kind = .function) (s : Shared) (H : Hp) (C' : Addr) (cl : List (Str × Addr)) (fp : List Addr) : Ctx (U.blk scope) p.in_ C (X.blk s H scope (compEnvC scope cl C' X.env) fp) where
  hK := c.hK
  calm := c.calm
  N := c.N
  sc := by
    show relabel scope X.env = relS scope U.sc
    rw [← c.sc]
    rfl
  kind := hk
  nd := c.nd
  un := c.un
  un2 := c.un2
  gd := c.gd
  fnB := fun n h => h
  tk := takes0
  fns := fun f F e e2 => by
    obtain ⟨fa, ⟨h⟩, h2⟩ := c.fns f F e e2
    exact ⟨fa, ⟨h⟩, h2⟩
  mks := fun k n f F e e2 => by
    obtain ⟨fa, C0, ⟨h⟩, h2⟩ := c.mks k n f F e e2
    exact ⟨fa, C0, ⟨h⟩, h2⟩
  cls := c.cls
  cts := c.cts
  tcs := c.tcs
  blts := c.blts
  ck := c.ck
  flds := c.flds
  eqs := fun k f F e e2 => by
    obtain ⟨fa, C0, ⟨h⟩, h2⟩ := c.eqs k f F e e2
    exact ⟨fa, C0, ⟨h⟩, h2⟩
  rse := c.rse
  hdl := c.hdl
  fr := fun z => nomatch z
  exs := fun z => nomatch z
  xis := fun k y z => by rw [kXis_none rfl] at z; cases z
  act := fun _ _ _ _ y z => by rw [kAct_none rfl] at z; cases z
  lam := fun g n z => nomatch z
theorem ownOf_map (vs : List Nat) : (ownOf U vs).map (·.2) = vs := by
  unfold ownOf
  rw [List.map_map]
  exact List.map_id' _
theorem _root_.L2.PW.imp {X : Cx} {e : Expr} {t t' : TT} (h : PW X e t) (k : ∀ σ H Q, t' σ H Q → t σ H Q) : PW X e t' := ⟨fun wh pins s σ H Q I hw => h.run wh pins s σ H Q I (k σ H Q hw)⟩
theorem sCs_bl (c : Ctx U p C X) {k : Cs} {y : Expr} (hk : ∀ m, k ≠ .c m) (h : (match y with | .Name n _ => U.gl n && decide (n = (csN k : Str)) && U.blt n | _ => false) = true) (h0 : csOk p.cA k) (hb : bootBuiltins (csN k : Str) = some (csU p.cA k)) (hn : (csN k : Str) ≠ "__name__") : csOk p.cA k ∧ PE X y (tC (csV p.cA k)) := by
  split at h
  · rw [Bool.and_eq_true, Bool.and_eq_true] at h
    obtain ⟨⟨h1, h2⟩, h3⟩ := h
    obtain ⟨g1, g2⟩ := c.gl h1
    have e := of_decide_eq_true h2
    refine ⟨h0, se_cs k g1 g2 (.inr ⟨c.blts _ h3, ?_, ?_⟩)⟩
    · rw [e]; exact hb
    · rw [e]; exact hn
  · cases h
theorem sCs (c : Ctx U p C X) : ∀ {k : Cs} {y : Expr}, chkCs U k y = true → csOk p.cA k ∧ PE X y (tC (csV p.cA k))
  | .c m, y, h => by
    unfold chkCs at h
    simp only at h
    split at h
    · rw [Bool.and_eq_true] at h
      obtain ⟨h1, h2⟩ := h
      obtain ⟨g1, g2⟩ := c.gl h1
      have h2' := of_decide_eq_true h2
      cases e : U.cls m with
      | none => rw [e] at h2'; cases h2'
      | some q =>
        obtain ⟨n', f⟩ := q
        rw [e] at h2'
        cases h2'
        obtain ⟨C0, c1, c2⟩ := c.cls m _ f e
        exact ⟨⟨C0, c1⟩, se_cs (.c m) g1 g2 (.inl ⟨m, C0, rfl, c1, c2⟩)⟩
    · cases h
  | .tuple, y, h => sCs_bl c (fun _ z => by cases z) h trivial (by show bootBuiltins ("tuple" : Str) = some (Value.type "tuple"); decide +kernel) (by show ("tuple" : Str) ≠ "__name__"; decide +kernel)
  | .list, y, h => sCs_bl c (fun _ z => by cases z) h trivial (by show bootBuiltins ("list" : Str) = some (Value.type "list"); decide +kernel) (by show ("list" : Str) ≠ "__name__"; decide +kernel)
  | .int, y, h => sCs_bl c (fun _ z => by cases z) h trivial (by show bootBuiltins ("int" : Str) = some (Value.type "int"); decide +kernel) (by show ("int" : Str) ≠ "__name__"; decide +kernel)
  | .bool, y, h => sCs_bl c (fun _ z => by cases z) h trivial (by show bootBuiltins ("bool" : Str) = some (Value.type "bool"); decide +kernel) (by show ("bool" : Str) ≠ "__name__"; decide +kernel)
  | .str, y, h => sCs_bl c (fun _ z => by cases z) h trivial (by show bootBuiltins ("str" : Str) = some (Value.type "str"); decide +kernel) (by show ("str" : Str) ≠ "__name__"; decide +kernel)
  | .dict, y, h => sCs_bl c (fun _ z => by cases z) h trivial (by show bootBuiltins ("dict" : Str) = some (Value.type "dict"); decide +kernel) (by show ("dict" : Str) ≠ "__name__"; decide +kernel)
theorem sCss (c : Ctx U p C X) : ∀ {ks : List Cs} {ys : List Expr}, chkCss U ks ys = true → (∀ k ∈ ks, csOk p.cA k) ∧ PA X ys (fun _ H Q => Q (ks.map (csV p.cA)) H)
  | [], [], _ => ⟨fun _ h => (by cases h), pa_nil⟩
  | k :: ks, y :: ys, h => by
    unfold chkCss at h
    rw [Bool.and_eq_true, Bool.and_eq_true] at h
    obtain ⟨⟨h1, h2⟩, h3⟩ := h
    obtain ⟨g1, g2⟩ := sCs c h1
    obtain ⟨g3, g4⟩ := sCss c h3
    refine ⟨fun k' hk => (List.mem_cons.mp hk).elim (fun e => by rw [e]; exact g1) (g3 k'), ?_⟩
    exact pa_cons g2 g4 (star_cons (by simpa using h2))
  | [], _ :: _, h => by cases h
  | _ :: _, [], h => by cases h
theorem Room.low {k : Nat} {A : Around} (r : Room (k + 1) A) : Room k A := r.mono (Nat.le_succ k)
end
end FL

set_option maxHeartbeats 4000000
/-! FS, part 13: expressions: the comparison is sound, form by form. -/
namespace FL
open PySem PySem.Spec PyProof.Rows L2
section
variable {U : Un} {p : Pm} {C : Calls} {X : Cx} {x : Expr}
theorem q_c {d : D} (h : kC d x = true) : PE X x (tE p C (.c d)) := by
  unfold kC at h
  split at h
  · unfold kCd at h
    split at h
    · rw [← of_decide_eq_true h]; exact se_int
    · rw [← of_decide_eq_true h]; exact se_bl
    · rw [← of_decide_eq_true h]; exact se_str
    · exact se_non
    · cases h
  · cases h
theorem allI_map : ∀ {ds : List D} {ns : List Int}, allI ds = some ns → ds = ns.map D.int
  | [], ns, h => by cases h; rfl
  | .int b :: r, ns, h => by
    unfold allI at h
    cases e : allI r with
    | none => rw [e] at h; cases h
    | some ms =>
      rw [e] at h
      cases h
      rw [allI_map e]
      rfl
  | .non :: _, _, h => by cases h
  | .bl _ :: _, _, h => by cases h
  | .str _ :: _, _, h => by cases h
  | .tup _ :: _, _, h => by cases h
  | .lst _ :: _, _, h => by cases h
  | .dct _ _ :: _, _, h => by cases h
  | .ins _ _ :: _, _, h => by cases h
  | .fz _ :: _, _, h => by cases h
  | .kt _ :: _, _, h => by cases h
theorem RDs_of_ints {K : PySem.W.Frag} {cA : Nat → Option Addr} {B : Hp} : ∀ ns : List Int, RDs K cA B (ns.map D.int) (ns.map V.int)
  | [] => .nil
  | n :: ns => .cons (.int n) (RDs_of_ints ns)
theorem se_gt {p : Pm} {C : Calls} {X : Cx} {pos : Pos} {n : Str} {a : Addr} {ns : List Int} (hg : Gl X n) (hm : X.mg n = some (.ref a)) (hk : KTp p.K a (ns.map V.int)) (hd : (n == ("__debug__" : Str)) = false) : PE X (.Name n pos) (tE p C (.g n (.kt (ns.map D.int)))) := by
  refine (pe_glob (v := .ref a) hg hm rfl hd).imp fun σ H Q h => ?_
  obtain ⟨Z, B, s, zo, R, h⟩ := h
  exact Post.flat R (.kt (by rw [zo.K]; exact hk) (RDs_of_ints ns)) h
theorem q_g {n : Str} {d : D} (c : Ctx U p C X) (h : kG U n d x = true) : PE X x (tE p C (.g n d)) := by
  unfold kG at h
  split at h
  · simp only [Bool.and_eq_true] at h
    obtain ⟨⟨h1, h2⟩, h3⟩ := h
    obtain ⟨g1, g2⟩ := c.gl h2
    unfold kGd at h3
    split at h3
    · rw [of_decide_eq_true h1]
      exact se_g g1 (c.cts _ _ (of_decide_eq_true h3)) g2
    · split at h3
      · rename_i ds ns e
        rw [of_decide_eq_true h1]
        obtain ⟨a, m1, m2⟩ := c.tcs _ _ (of_decide_eq_true h3)
        rw [allI_map e]
        exact se_gt g1 m1 m2 g2
      · cases h3
    · cases h3
  · cases h
theorem q_v {i : Nat} (c : Ctx U p C X) (h : kV U i x = true) : PE X x (tE p C (.v i)) := by
  unfold kV at h
  split at h
  · obtain ⟨g1, g2, g3, g4⟩ := c.slot h
    exact se_var g1 g2 g3 g4
  · cases h
section
variable {f g k : KB} {a b d : E} (ha : ∀ y, f y = true → PE X y (tE p C a)) (hb : ∀ y, g y = true → PE X y (tE p C b)) (hd : ∀ y, k y = true → PE X y (tE p C d)) (c : Ctx U p C X)
include ha hb c in
theorem q_op {o : Op} (h : kOp o f g x = true) : PE X x (tE p C (.op o a b)) := by
  unfold kOp at h
  split at h
  · simp only [Bool.and_eq_true] at h
    obtain ⟨⟨h1, h2⟩, h3⟩ := h
    unfold isOp at h1
    rw [of_decide_eq_true h1]
    exact se_op o c.hK (ha _ h2) (hb _ h3)
  · cases h
include ha in
theorem q_neg (h : kUn .USub f x = true) : PE X x (tE p C (.neg a)) := by
  unfold kUn at h
  split at h
  · simp only [Bool.and_eq_true] at h
    unfold isUn at h
    rw [of_decide_eq_true h.1]
    exact se_neg (ha _ h.2)
  · cases h
include ha in
theorem q_not (h : kUn .Not f x = true) : PE X x (tE p C (.not a)) := by
  unfold kUn at h
  split at h
  · simp only [Bool.and_eq_true] at h
    unfold isUn at h
    rw [of_decide_eq_true h.1]
    exact se_not (ha _ h.2)
  · cases h
theorem tail_pe {op : BoolOp} {r : Expr} {rest : List Expr} {ps : Pos} {t : TE} (h : PE X (tailB op (r :: rest) ps) t) : PE X (.BoolOp op (r :: rest) ps) t := by
  unfold tailB at h
  cases rest with
  | nil => exact pe_one h
  | cons _ _ => exact h
include ha hb in
theorem q_and (h : kBo .And f g x = true) : PE X x (tE p C (.and a b)) := by
  unfold kBo at h
  split at h
  · simp only [Bool.and_eq_true] at h
    unfold isBo at h
    rw [of_decide_eq_true h.1.1]
    exact (pe_and (ha _ h.1.2) (tail_pe (hb _ h.2))).imp fun σ H Q h => and_ok h
  · cases h
include ha hb in
theorem q_or (h : kBo .Or f g x = true) : PE X x (tE p C (.or a b)) := by
  unfold kBo at h
  split at h
  · simp only [Bool.and_eq_true] at h
    unfold isBo at h
    rw [of_decide_eq_true h.1.1]
    exact (pe_or (ha _ h.1.2) (tail_pe (hb _ h.2))).imp fun σ H Q h => or_ok h
  · cases h
include ha hb c in
theorem q_cm {o : Cm} (h : kCm o f g x = true) : PE X x (tE p C (.cm o a b)) := by
  unfold kCm at h
  split at h
  · simp only [Bool.and_eq_true] at h
    obtain ⟨⟨⟨h1, h2⟩, h3⟩, h4⟩ := h
    unfold isCm at h1
    rw [of_decide_eq_true h1]
    exact se_cm o c.hK c.un (ha _ h3) (hb _ h4) (marks_no (by simpa using h2))
  · cases h
include ha hb hd c in
theorem q_ch {o q : Cm} (h : kCh o q f g k x = true) : PE X x (tE p C (.ch o q a b d)) := by
  unfold kCh at h
  split at h
  · simp only [Bool.and_eq_true] at h
    obtain ⟨⟨⟨⟨⟨h1, h2⟩, h3⟩, h4⟩, h5⟩, h6⟩ := h
    unfold isCm at h1 h2
    rw [of_decide_eq_true h1, of_decide_eq_true h2]
    exact se_ch o q c.hK c.un (ha _ h4) (hb _ h5) (hd _ h6) (marks_no (by simpa using h3))
  · cases h
theorem q_ite {t f : KB} {e : E} (he : ∀ y, f y = true → t y = true → PT X y (tT p C e)) (ha : ∀ y, g y = true → PE X y (tE p C a)) (hb : ∀ y, k y = true → PE X y (tE p C b)) (h : kIte t f g k x = true) : PE X x (tE p C (.ite e a b)) := by
  unfold kIte at h
  split at h
  · simp only [Bool.and_eq_true] at h
    obtain ⟨⟨⟨h1, h2⟩, h3⟩, h4⟩ := h
    exact se_ite (he _ h2 h1) (ha _ h3) (hb _ h4)
  · cases h
include ha hb c in
theorem q_ix (h : kIx f g x = true) : PE X x (tE p C (.ix a b)) := by
  unfold kIx at h
  split at h
  · simp only [Bool.and_eq_true] at h
    exact se_ix c.hK c.un (ha _ h.1.2) (hb _ h.2) (plainIx_of (by simpa using h.1.1))
  · cases h
include ha c in
theorem q_sl {lo hi : Eo} {g k : Option Expr → Bool} (hl : ∀ y, g y = true → PO X y (tEo p C lo)) (hh : ∀ y, k y = true → PO X y (tEo p C hi)) (h : kSl f g k x = true) : PE X x (tE p C (.sl a lo hi)) := by
  unfold kSl at h
  split at h
  · simp only [Bool.and_eq_true] at h
    exact se_sl c.hK (ha _ h.1.1) (hl _ h.1.2) (hh _ h.2)
  · cases h
include ha c in
theorem q_rev {lo : Eo} {g : Option Expr → Bool} (hl : ∀ y, g y = true → PO X y (tEo p C lo)) (h : kRev f g x = true) : PE X x (tE p C (.rev a lo)) := by
  unfold kRev at h
  split at h
  · rename_i l u k i p1 p2 p3 p4
    simp only [Bool.and_eq_true] at h
    obtain ⟨⟨h1, h2⟩, h3⟩ := h
    unfold isOne at h1
    split at h1
    · rename_i j
      have e := of_decide_eq_true h1
      subst e
      exact se_back c.hK (ha _ h2) (hl _ h3)
    · cases h1
  · cases h
include ha c in
theorem q_fld {n : Str} (h : kFld U n f x = true) : PE X x (tE p C (.fld a n)) := by
  unfold kFld at h
  split at h
  · simp only [Bool.and_eq_true] at h
    obtain ⟨⟨⟨h1, h2⟩, h3⟩, h4⟩ := h
    rw [of_decide_eq_true h1]
    exact se_fld c.hK (ha _ h4) (fun k C0 ek => ⟨c.ck.cls k C0 ek, c.flds _ h2 k C0 ek⟩) (abase (by simpa using h3))
  · cases h
include ha c in
theorem q_isi {t : Bool} {cs : List Cs} (h : kCall (kIsi U t cs f) x = true) : PE X x (tE p C (.isi a t cs)) := by
  unfold kCall at h
  split at h
  · unfold kIsi at h
    split at h
    · simp only [Bool.and_eq_true] at h
      obtain ⟨⟨⟨⟨⟨⟨h1, h2⟩, h3⟩, h4⟩, h5⟩, h6⟩, h7⟩ := h
      obtain ⟨g1, g2⟩ := c.gl h2
      have e := of_decide_eq_true h1
      have m := c.blts _ h3
      rw [e] at g1 m ⊢
      have s1 := by simpa using h4
      have s2 := by simpa using h5
      unfold kIsC at h7
      split at h7
      · obtain ⟨k1, k2⟩ := sCs c h7
        exact se_isi1 c.hK c.ck k1 g1 m (ha _ h6) k2 (star_cons s1) (star_cons s2)
      · rw [Bool.and_eq_true] at h7
        obtain ⟨k1, k2⟩ := sCss c h7.1
        exact se_isiN c.hK c.ck k1 (by simp) (of_decide_eq_true h7.2) g1 m (ha _ h6) k2 (star_cons s1)
      · cases h7
    · cases h
  · cases h
end
section
variable {f : KBs} {es : Es} (hs : ∀ ys, f ys = true → noStars ys = true) (he : ∀ ys, f ys = true → PA X ys (tEs p C es)) (hv : ∀ ys, f ys = true → PA X ys (tEv p C es)) (c : Ctx U p C X)
include he in
theorem q_tup (h : kTup (esLen es) f x = true) : PE X x (tE p C (.tup es)) := by
  unfold kTup at h
  split at h
  · simp only [Bool.and_eq_true] at h
    exact se_tup (he _ h.2) (of_decide_eq_true h.1)
  · cases h
include he in
theorem q_lst (h : kLst (esLen es) f x = true) : PE X x (tE p C (.lst es)) := by
  unfold kLst at h
  split at h
  · simp only [Bool.and_eq_true] at h
    exact se_lst (he _ h.2) (of_decide_eq_true h.1)
  · cases h
theorem noStars_cons {y : Expr} {ys : List Expr} (h : noStars (y :: ys) = true) : isStar y = false ∧ noStars ys = true := by
  unfold noStars at h
  rw [Bool.and_eq_true] at h
  exact ⟨by simpa using h.1, h.2⟩
include hs hv c in
theorem q_bi {b : Bi} (h : (!U.hot && kCall (kBi U b f) x) = true) : PE X x (tE p C (.bi b es)) := by
  rw [Bool.and_eq_true] at h
  have hh : U.hot = false := by simpa using h.1
  replace h := h.2
  unfold kCall at h
  split at h
  · unfold kBi at h
    simp only [Bool.and_eq_true] at h
    obtain ⟨⟨⟨⟨⟨h1, h2⟩, h3⟩, h4⟩, h6⟩, h5⟩ := h
    obtain ⟨g1, g2⟩ := c.gl h3
    have st := hs _ h5
    have e := of_decide_eq_true h2
    have m := c.blts _ h4
    rw [e] at g1 m ⊢
    unfold isCons at h6
    split at h6
    · rcases Bool.or_eq_true_iff.mp h1 with h1 | h1
      · have hb : bN b = biN b := by
          unfold bN
          rw [if_neg]
          intro z
          cases b <;> first
            | (exact absurd h1 (by decide))
            | (exact absurd z (by decide))
        rw [hb] at g1 m ⊢
        exact se_bi b h1 (c.calm hh) c.un c.hK g1 m (hv _ h5) (star_cons (noStars_cons st).1) (star_any (noStars_cons st).2)
      · cases b <;> first
          | (cases h1; done)
          | exact se_repr c.gd c.un2 c.hK g1 m (hv _ h5) (star_cons (noStars_cons st).1) (star_any (noStars_cons st).2)
    · cases h6
  · cases h
theorem okF_of {U : Un} {f : Nat} {lk : Bool} {k : Nat} {n : Str} (h : okF U f lk k n = true) : ∃ F, U.fns f = some F ∧ F.name = n ∧ F.lk = lk ∧ k = F.np := by
  unfold okF at h
  split at h
  · rename_i F e
    simp only [Bool.and_eq_true] at h
    exact ⟨F, e, of_decide_eq_true h.1.1, by simpa using h.1.2, of_decide_eq_true h.2⟩
  · cases h
include hs he c in
theorem q_call {k : Nat} (h : kCall (kFn U k (esLen es) f) x = true) : PE X x (tE p C (.call k es)) := by
  unfold kCall at h
  split at h
  · unfold kFn at h
    simp only [Bool.and_eq_true] at h
    obtain ⟨⟨⟨⟨h1, h0⟩, h2⟩, h6⟩, h3⟩ := h
    obtain ⟨g1, g2⟩ := c.gl h1
    have st := hs _ h3
    obtain ⟨F, eF, k1, k2, k3⟩ := okF_of h2
    obtain ⟨fa, ⟨fd, ps, F1, F2, F3⟩, m1, m2⟩ := c.fns k F eF (by rw [k1]; simpa using h0)
    rw [k2] at F1
    rw [k1] at m1
    unfold isCons at h6
    split at h6
    · exact se_call F1 (Room.low F2) c.gd g1 m1 m2 F3 c.tk (he _ h3) k3 g2 (star_cons (noStars_cons st).1) (star_any (noStars_cons st).2)
    · cases h6
  · cases h
include hs he c in
theorem q_callH {k i : Nat} (h : kCall (kFnH U k i (esLen es) f) x = true) : PE X x (tE p C (.callH k i es)) := by
  unfold kCall at h
  split at h
  · unfold kFnH at h
    split at h
    · simp only [Bool.and_eq_true] at h
      obtain ⟨⟨⟨⟨h1, h0⟩, h6⟩, h2⟩, h3⟩ := h
      obtain ⟨g1, g2⟩ := c.gl h1
      obtain ⟨v1, v2, v3, v4⟩ := c.slot h6
      have st := hs _ h3
      obtain ⟨F, eF, k1, k2, k3⟩ := okF_of h2
      obtain ⟨fa, ⟨fd, ps, F1, F2, F3⟩, m1, m2⟩ := c.fns k F eF (by rw [k1]; simpa using h0)
      rw [k2] at F1
      rw [k1] at m1
      exact se_callH F1 (Room.low F2) c.gd g1 m1 m2 F3 c.tk v1 v2 v3 v4 (he _ h3) k3 g2 (star_any st)
    · cases h
  · cases h
include hs he c in
theorem q_mk {k f' : Nat} (h : kCall (kMk U k f' (esLen es) f) x = true) : PE X x (tE p C (.mk k f' es)) := by
  unfold kCall at h
  split at h
  · unfold kMk at h
    simp only [Bool.and_eq_true] at h
    obtain ⟨⟨⟨⟨h1, h2⟩, h4⟩, h6⟩, h3⟩ := h
    obtain ⟨g1, g2⟩ := c.gl h1
    have st := hs _ h3
    obtain ⟨F, eF, k1, k2, k3⟩ := okF_of h2
    have ec := of_decide_eq_true h4
    obtain ⟨fa, C0, ⟨fd, ps, F1, F2, F3⟩, m1, m2⟩ := c.mks k _ f' F ec eF
    obtain ⟨C1, n1, n2⟩ := c.cls k _ f' ec
    rw [m1] at n1
    cases n1
    rw [k2] at F1
    unfold isCons at h6
    split at h6
    · exact se_mk m1 m2 F1 F2 c.gd g1 n2 F3 (he _ h3) k3 g2 (star_cons (noStars_cons st).1) (star_any (noStars_cons st).2)
    · cases h6
  · cases h
include hs he c in
theorem q_mt {m : Mt} {i : Nat} (h0 : f [] = true → es = .nil) (h : kMt U m i f x = true) : PE X x (tE p C (.mt m i es)) := by
  unfold kMt at h
  split at h
  · simp only [Bool.and_eq_true] at h
    obtain ⟨⟨⟨h9, h1⟩, h2⟩, h3⟩ := h
    obtain ⟨v1, v2, v3, v4⟩ := c.slot h9
    have st := hs _ h3
    unfold kMtN at h2
    split at h2
    · rw [of_decide_eq_true h2]
      exact se_append c.hK v1 v2 v3 v4 (he _ h3) (star_cons (noStars_cons st).1) h1
    · rw [of_decide_eq_true h2]
      exact se_extend c.hK v1 v2 v3 v4 (he _ h3) (star_cons (noStars_cons st).1) h1
    · rw [of_decide_eq_true h2]
      exact se_index c.hK (by have := c.un2; omega) v1 v2 v3 v4 (he _ h3) (star_cons (noStars_cons st).1) h1
    · rw [of_decide_eq_true h2]
      exact se_count c.hK (by have := c.un2; omega) v1 v2 v3 v4 (he _ h3) (star_cons (noStars_cons st).1) h1
    · rw [of_decide_eq_true h2]
      exact se_pop1 c.hK v1 v2 v3 v4 (he _ h3) (star_cons (noStars_cons st).1) h1
    · rw [of_decide_eq_true h2, h0 h3]
      exact se_pop0 c.hK v1 v2 v3 v4 h1
    · cases h2
  · cases h
include hs he c in
theorem q_rng {tg : Expr} (h : kCall (kRng U (esLen es) f) x = true) : PI X tg x (tI p C (.rng es)) := by
  unfold kCall at h
  split at h
  · unfold kRng at h
    simp only [Bool.and_eq_true] at h
    obtain ⟨⟨⟨⟨h1, h2⟩, h3⟩, h4⟩, h5⟩ := h
    obtain ⟨g1, g2⟩ := c.gl h2
    have e := of_decide_eq_true h1
    have m := c.blts _ h3
    rw [e] at g1 m ⊢
    have st := hs _ h5
    split at h4
    · exact si_rng1 g1 m (he _ h5) (of_decide_eq_true h4) (star_cons (noStars_cons st).1)
    · have st2 := noStars_cons (noStars_cons st).2
      have s2 := star_cons (xs := []) (env := X.env) st2.1
      refine si_rng2 g1 m (he _ h5) (of_decide_eq_true h4) ?_ s2
      rw [star_cons (noStars_cons st).1, s2]; rfl
    · cases h4
  · cases h
include hs he c in
theorem q_trg {t : Bool} (h : (!U.hot && kCall (kTrg U t (esLen es) f) x) = true) : PE X x (tE p C (.trg t es)) := by
  rw [Bool.and_eq_true] at h
  have hh : U.hot = false := by simpa using h.1
  replace h := h.2
  unfold kCall at h
  split at h
  · unfold kTrg at h
    split at h
    · rename_i m pm zs pz
      simp only [Bool.and_eq_true] at h
      obtain ⟨⟨⟨h1, h2⟩, h3⟩, h4⟩ := h
      obtain ⟨g1, g2⟩ := c.gl h2
      have e := of_decide_eq_true h1
      have m1 := c.blts _ h3
      rw [e] at g1 m1 ⊢
      unfold kRng at h4
      simp only [Bool.and_eq_true] at h4
      obtain ⟨⟨⟨⟨k1, k2⟩, k3⟩, k4⟩, k5⟩ := h4
      obtain ⟨l1, l2⟩ := c.gl k2
      have e' := of_decide_eq_true k1
      have m2 := c.blts _ k3
      rw [e'] at l1 m2 ⊢
      have st := hs _ k5
      refine se_trg t (c.calm hh) g1 m1 ?_ (by rfl)
      split at k4
      · rename_i y
        exact prgA1 l1 m2 (he _ k5) (star_cons (noStars_cons st).1) fun σ H P hp => by
          have := tEs_len hp
          rw [of_decide_eq_true k4] at this
          exact this
      · rename_i y1 y2
        have st2 := noStars_cons (noStars_cons st).2
        have s2 := star_cons (xs := []) (env := X.env) st2.1
        refine prgA2 l1 m2 (he _ k5) ?_ s2 fun σ H P hp => ?_
        · rw [star_cons (noStars_cons st).1, s2]; rfl
        · have := tEs_len hp
          rw [of_decide_eq_true k4] at this
          exact this
      · cases k4
    · cases h
  · cases h
include hs he c in
theorem q_rrng {tg : Expr} (h : kCall (kRvr U (esLen es) f) x = true) : PI X tg x (tI p C (.rrng es)) := by
  unfold kCall at h
  split at h
  · unfold kRvr at h
    split at h
    · rename_i m pm zs pz
      simp only [Bool.and_eq_true] at h
      obtain ⟨⟨⟨h1, h2⟩, h3⟩, h4⟩ := h
      obtain ⟨g1, g2⟩ := c.gl h2
      have e := of_decide_eq_true h1
      have m1 := c.blts _ h3
      rw [e] at g1 m1 ⊢
      unfold kRng at h4
      simp only [Bool.and_eq_true] at h4
      obtain ⟨⟨⟨⟨k1, k2⟩, k3⟩, k4⟩, k5⟩ := h4
      obtain ⟨l1, l2⟩ := c.gl k2
      have e' := of_decide_eq_true k1
      have m2 := c.blts _ k3
      rw [e'] at l1 m2 ⊢
      have st := hs _ k5
      refine si_rrng g1 m1 ?_
      split at k4
      · rename_i y
        exact prgA1 l1 m2 (he _ k5) (star_cons (noStars_cons st).1) fun σ H P hp => by
          have := tEs_len hp
          rw [of_decide_eq_true k4] at this
          exact this
      · rename_i y1 y2
        have st2 := noStars_cons (noStars_cons st).2
        have s2 := star_cons (xs := []) (env := X.env) st2.1
        refine prgA2 l1 m2 (he _ k5) ?_ s2 fun σ H P hp => ?_
        · rw [star_cons (noStars_cons st).1, s2]; rfl
        · have := tEs_len hp
          rw [of_decide_eq_true k4] at this
          exact this
      · cases k4
    · cases h
  · cases h
theorem q_dnew {t : Bool} (h : kDnew x = true) : PE X x (tE p C (.dnew t)) := by
  unfold kDnew at h
  split at h
  · exact se_dnew t
  · cases h
include hs he c in
theorem q_zip {tg : Expr} (h : kCall (kZip U tg f) x = true) : PI X tg x (tI p C (.zip es)) := by
  unfold kCall at h
  split at h
  · unfold kZip at h
    simp only [Bool.and_eq_true] at h
    obtain ⟨⟨⟨⟨h1, h2⟩, h3⟩, h4⟩, h5⟩ := h
    obtain ⟨g1, g2⟩ := c.gl h2
    have e := of_decide_eq_true h1
    have m := c.blts _ h3
    rw [e] at g1 m ⊢
    have st := hs _ h5
    split at h4
    · exact si_zip c.hK g1 m (he _ h5) (star_cons (noStars_cons st).1) (star_any (noStars_cons st).2)
    · cases h4
  · cases h
include hs he c in
theorem q_enum {tg : Expr} (h : kCall (kEnum U tg f) x = true) : PI X tg x (tI p C (.enum es)) := by
  unfold kCall at h
  split at h
  · unfold kEnum at h
    simp only [Bool.and_eq_true] at h
    obtain ⟨⟨⟨⟨h1, h2⟩, h3⟩, h4⟩, h5⟩ := h
    obtain ⟨g1, g2⟩ := c.gl h2
    have e := of_decide_eq_true h1
    have m := c.blts _ h3
    rw [e] at g1 m ⊢
    have st := hs _ h5
    split at h4
    · exact si_enum c.hK g1 m (he _ h5) (star_cons (noStars_cons st).1)
    · cases h4
  · cases h
end
section
variable {f g : KB} {a b : E} (ha : ∀ y, f y = true → PE X y (tE p C a)) (hb : ∀ y, g y = true → PE X y (tE p C b)) (c : Ctx U p C X)
include ha hb c in
theorem q_eqm2 {ne : Bool} {k m : Nat} (h : kEqm U ne k m f g x = true) : PE X x (tE p C (.eqm ne k m a b)) ∧ PT X x (tT p C (.eqm ne k m a b)) ∧ ∀ op l ps, x ≠ .BoolOp op l ps := by
  unfold kEqm at h
  split at h
  · simp only [Bool.and_eq_true] at h
    obtain ⟨⟨⟨⟨⟨h1, h2⟩, h3⟩, h4⟩, h5⟩, h6⟩ := h
    obtain ⟨F, eF, k1, k2, k3⟩ := okF_of h3
    obtain ⟨fa, C0, ⟨fd, ps, F1, F2, F3⟩, m1, m2⟩ := c.eqs k m F (of_decide_eq_true h2) eF
    rw [k2, ← k3] at F1
    have mk : ∀ o, behindInMarks o _ = false := fun o => marks_no (o := o) (by simpa using h4)
    unfold isEqm at h1
    split at h1
    · rename_i hn
      subst hn
      rw [of_decide_eq_true h1]
      exact ⟨se_ne m1 m2 F1 F2 c.gd F3 (ha _ h5) (hb _ h6) (mk _), st_ne m1 m2 F1 F2 c.gd F3 (ha _ h5) (hb _ h6) (mk _), fun _ _ _ q => by cases q⟩
    · rename_i hn
      have hn : ne = false := by simpa using hn
      subst hn
      rw [of_decide_eq_true h1]
      exact ⟨se_eq m1 m2 F1 F2 c.gd F3 (ha _ h5) (hb _ h6) (mk _), st_eq m1 m2 F1 F2 c.gd F3 (ha _ h5) (hb _ h6) (mk _), fun _ _ _ q => by cases q⟩
  · cases h
include ha hb c in
theorem q_eqm {ne : Bool} {k m : Nat} (h : kEqm U ne k m f g x = true) : PE X x (tE p C (.eqm ne k m a b)) := (q_eqm2 ha hb c h).1
end
/-- a comprehension: what its rules ask -/
theorem q_lcI {vs : List Nat} {tg : Tg} {it : I} {cond : Eo} {el : E} {fi : Expr → Expr → Bool} {fc : Un → List Expr → Bool} {fe : Un → Expr → Bool} (c : Ctx U p C X)
    (hi : ∀ t y, fi t y = true → PI X t y (tI p C it)) (hc : ∀ (V : Un) (X' : Cx) ys, Ctx V p.in_ C X' → fc V ys = true → PTs X' ys (tC0 p C cond)) (he : ∀ (V : Un) (X' : Cx) y, Ctx V p.in_ C X' → fe V y = true → PE X' y (tE p.in_ C el))
    (h : (!U.hot && kLc U vs tg fi fc fe x) = true) : U.hot = false ∧ ∃ elt tgx iter ifs scope pos, x = .ListComp elt [⟨tgx, iter, ifs, 0⟩] scope pos ∧ BlkOk X.N X.env.scope scope (ownOf U vs) ∧ PI X tgx iter (tI p C it) ∧
      (∀ (s : Shared) (H : Hp) (C' : Addr) (cl : List (Str × Addr)) (fp : List Addr), PG (X.blk s H scope (compEnvC scope cl C' X.env) fp) tgx (gOf p.K tg)) ∧
      (∀ (s : Shared) (H : Hp) (C' : Addr) (cl : List (Str × Addr)) (fp : List Addr), PTs (X.blk s H scope (compEnvC scope cl C' X.env) fp) ifs (tC0 p C cond)) ∧
      (∀ (s : Shared) (H : Hp) (C' : Addr) (cl : List (Str × Addr)) (fp : List Addr), PE (X.blk s H scope (compEnvC scope cl C' X.env) fp) elt (tE p.in_ C el)) ∧ (∀ x, foldedSetIterable iter X.env x = pure x) ∧ tgIn vs tg = true := by
  rw [Bool.and_eq_true] at h
  have hh : U.hot = false := by simpa using h.1
  replace h := h.2
  refine ⟨hh, ?_⟩
  unfold kLc at h
  split at h
  · rename_i elt tgx iter ifs ka scope pos
    simp only [Bool.and_eq_true] at h
    obtain ⟨⟨⟨⟨⟨⟨⟨h0, h1⟩, h2⟩, h3⟩, h4⟩, h5⟩, h6⟩, h7⟩ := h
    have ok := blkOk_by h1
    refine ⟨elt, tgx, iter, ifs, scope, pos, by rw [of_decide_eq_true h0], by rw [c.N, c.sc]; exact ok, hi _ _ h4, fun s H C' cl fp => sTg (c.blk ok.kind s H C' cl fp) hh h5, fun s H C' cl fp => hc _ _ _ (c.blk ok.kind s H C' cl fp) h6, fun s H C' cl fp => he _ _ _ (c.blk ok.kind s H C' cl fp) h7, folded_no (by simpa using h3), h2⟩
  · cases h
theorem q_dc {vs : List Nat} {tg : Tg} {it : I} {cond : Eo} {el : E} {fi : Expr → Expr → Bool} {fc : Un → List Expr → Bool} {fe : Un → Expr → Bool} (c : Ctx U p C X)
    (hi : ∀ t y, fi t y = true → PI X t y (tI p C it)) (hc : ∀ (V : Un) (X' : Cx) ys, Ctx V p.in_ C X' → fc V ys = true → PTs X' ys (tC0 p C cond)) (he : ∀ (V : Un) (X' : Cx) y, Ctx V p.in_ C X' → fe V y = true → PE X' y (tE p.in_ C el))
    (h : (!U.hot && kDc U vs tg fi fc fe x) = true) : PE X x (tE p C (.dcT vs tg it cond el)) := by
  rw [Bool.and_eq_true] at h
  have hh : U.hot = false := by simpa using h.1
  replace h := h.2
  unfold kDc at h
  split at h
  · rename_i kx vx tgx iter ifs ka scope pos
    simp only [Bool.and_eq_true] at h
    obtain ⟨⟨⟨⟨⟨⟨⟨⟨h0, h1⟩, h2⟩, h3⟩, h4⟩, h5⟩, h6⟩, h7⟩, h8⟩ := h
    have e0 := of_decide_eq_true h0
    subst e0
    have ok := blkOk_by h1
    unfold isTrueK at h8
    split at h8
    · rename_i kk pp
      have g := pe_dc (X := X) (vx := .Constant (.bool true) kk pp) (c.calm hh) (by rw [c.N]; exact c.nd) (hi _ _ h4) (by rw [c.N, c.sc]; exact ok) (fun s H C' cl fp => sTg (c.blk ok.kind s H C' cl fp) hh h5) (fun s H C' cl fp => hc _ _ _ (c.blk ok.kind s H C' cl fp) h6) (fun s H C' cl fp => he _ _ _ (c.blk ok.kind s H C' cl fp) h7) (fun s H C' cl fp => pe_bl) (folded_no (by simpa using h3)) (pos := pos)
      rw [ownOf_map] at g
      exact g.imp fun σ H Q hw => dc_ok h2 hw
    · cases h8
  · cases h
theorem q_nset {a : E} {f : KB} (ha : ∀ y, f y = true → PE X y (tE p C a)) (c : Ctx U p C X) (h : (!U.hot && kNset U f x) = true) : PE X x (tE p C (.nset a)) := by
  rw [Bool.and_eq_true] at h
  have hh : U.hot = false := by simpa using h.1
  replace h := h.2
  unfold kNset at h
  split at h
  · simp only [Bool.and_eq_true] at h
    obtain ⟨⟨⟨⟨⟨⟨⟨h1, h2⟩, h3⟩, h4⟩, h5⟩, h6⟩, h7⟩, h8⟩ := h
    obtain ⟨g1, g2⟩ := c.gl h2
    obtain ⟨g3, g4⟩ := c.gl h5
    have e1 := of_decide_eq_true h1
    have e2 := of_decide_eq_true h4
    have m1 := c.blts _ h3
    have m2 := c.blts _ h6
    rw [e1] at g1 m1 ⊢
    rw [e2] at g3 m2 ⊢
    exact se_nset c.hK g1 m1 g3 m2 (ha _ h8) (c.calm hh) (star_cons (by simpa using h7))
  · cases h
theorem q_lc {vs : List Nat} {tg : Tg} {it : I} {cond : Eo} {el : E} {fi : Expr → Expr → Bool} {fc : Un → List Expr → Bool} {fe : Un → Expr → Bool} (c : Ctx U p C X)
    (hi : ∀ t y, fi t y = true → PI X t y (tI p C it)) (hc : ∀ (V : Un) (X' : Cx) ys, Ctx V p.in_ C X' → fc V ys = true → PTs X' ys (tC0 p C cond)) (he : ∀ (V : Un) (X' : Cx) y, Ctx V p.in_ C X' → fe V y = true → PE X' y (tE p.in_ C el))
    (h : (!U.hot && kLc U vs tg fi fc fe x) = true) : PE X x (tE p C (.lc vs tg it cond el)) := by
  obtain ⟨hh, elt, tgx, iter, ifs, scope, pos, rfl, ok, h1, h2, h3, h4, h5, h6⟩ := q_lcI c hi hc he h
  have g := pe_lc (c.calm hh) (by rw [c.N]; exact c.nd) h1 ok h2 h3 h4 h5 (pos := pos)
  rw [ownOf_map] at g
  exact g.imp fun σ H Q hw => lc_ok h6 hw
end
end FL

set_option maxHeartbeats 4000000
/-! FS, part 14: expressions and tests. -/
namespace FL
open PySem PySem.Spec PyProof.Rows L2
theorem st_plain {U : Un} {p : Pm} {C : Calls} {X : Cx} {e : E} {x : Expr} (he : PE X x (tE p C e)) (h : isTst x = false) : PT X x (tT p C e) ∧ ∀ op l ps, x = .BoolOp op l ps → PW X x (tT p C e) :=
  ⟨st_val he (truth_no h), fun op l ps q => by subst q; cases h⟩
theorem nonTst {x : Expr} (h : (!isTst x) = true) : isTst x = false := by simpa using h
theorem nil_of {es : Es} {U : Un} (h : chkEs es U [] = true) : es = .nil := by
  cases es with
  | nil => rfl
  | cons _ _ => unfold chkEs kCons at h; cases h
theorem noPs_of {ps : Arguments} (h : noPs ps = true) : ps = ⟨[], [], none, [], [], none, []⟩ := by
  unfold noPs at h
  split at h
  · rfl
  · cases h
section
variable {U : Un} {p : Pm} {C : Calls} {X : Cx} {x : Expr}
theorem q_d1 {k : Int} {i : Nat} (c : Ctx U p C X) (h : kD1 U k i x = true) : PE X x (tE p C (.d1 k i)) := by
  unfold kD1 at h
  split at h
  · rw [Bool.and_eq_true] at h
    obtain ⟨g1, g2, g3, g4⟩ := c.slot h.2
    rw [of_decide_eq_true h.1]
    exact se_d1 g1 g2 g3 g4
  · cases h
theorem q_act (c : Ctx U p C X) (h : kAct U x = true) : PE X x (tE p C .act) := c.act p.W X.pn X.xe c.tk x h
/-- a lambda's body -/
theorem Ctx.lmb (c : Ctx U p C X) {scope : Scope} (L : LamX.LamS X.env.scope scope) {A : Around} {outer : List Env} {s : Shared} {H : Hp} {E : XK} {f c' : Addr} (hgd : NoGd A) (hr : Room (p.L + 1) (A.deeper (LamX.lamEnv X scope s.heap.objs.size f c'))) :
    Ctx (U.lmb scope) (p.lam E) C (LamX.lamCx X A outer s H E scope f c') where
  hK := c.hK
  calm := fun _ => rfl
  N := c.N
  sc := rfl
  kind := L.kind
  nd := c.nd
  un := by have := hr.un; show (A.deeper (LamX.lamEnv X scope s.heap.objs.size f c')).units + 64 < cLine; omega
  un2 := by have := hr.un; show (A.deeper (LamX.lamEnv X scope s.heap.objs.size f c')).units + 120 < cLine; omega
  gd := noGd_deeper hgd
  fnB := fun n h => nomatch h
  tk := takes_of rfl rfl rfl rfl
  fns := fun f F e e2 => by
    obtain ⟨fa, ⟨fd, ps, h1, h2, h3⟩, h4⟩ := c.fns f F e e2
    exact ⟨fa, ⟨fd, ps, h1, hr, h3⟩, h4⟩
  mks := fun k n f F e e2 => by
    obtain ⟨fa, C0, ⟨fd, ps, h1, h2, h3⟩, h4⟩ := c.mks k n f F e e2
    exact ⟨fa, C0, ⟨fd, ps, h1, hr, h3⟩, h4⟩
  cls := c.cls
  cts := c.cts
  tcs := c.tcs
  blts := c.blts
  ck := c.ck
  flds := c.flds
  eqs := fun k f F e e2 => by
    obtain ⟨fa, C0, ⟨fd, ps, h1, h2, h3⟩, h4⟩ := c.eqs k f F e e2
    exact ⟨fa, C0, ⟨fd, ps, h1, hr, h3⟩, h4⟩
  rse := c.rse
  hdl := c.hdl
  fr := fun z => nomatch z
  exs := fun z => nomatch z
  xis := fun k y z => by rw [kXis_none rfl] at z; cases z
  act := fun _ _ _ _ y z => by rw [kAct_none rfl] at z; cases z
  lam := fun g n z => nomatch z
theorem q_lam {g : Nat} {vs : List Nat} {e : E} (he : ∀ (V : Un) (pl : Pm) (X' : Cx) (y : Expr), Ctx V pl C X' → chkE e V y = true → PE X' y (tE pl C e)) (c : Ctx U p C X) (h : kLam U g (chkE e) x = true) : PE X x (tE p C (.lam g vs e)) := by
  unfold kLam at h
  split at h
  · simp only [Bool.and_eq_true] at h
    obtain ⟨⟨⟨⟨⟨h0, h1⟩, h2⟩, h3⟩, h4⟩, h5⟩ := h
    obtain ⟨g1, g2⟩ := c.gl h1
    have L := LamX.lamS_by h3
    rw [← c.sc] at L
    obtain ⟨⟨a, ga, c0, P, pg, bg, sg, dV, kV, doc, pm, cdv, ct, oc, an, od, osl, Ng, m1, m2, m3, m4, m5, m6, m7, m8, m9, m9i, m10, m11, m12, m13, m14, m15⟩, rm⟩ := c.lam g _ (of_decide_eq_true h2)
    rw [noPs_of h4]
    exact (lam_call (t := fun E => tE (p.lam E) C e) c.gd g1 m1 m2 m3 m4 m5 m6 m7 m8 m9 m10 m11 m12 m13 rm L rfl (fun _ _ _ _ _ => rfl) (fun A outer s H E f c' hgd hr => he _ _ _ _ (c.lmb L hgd hr) h5) g2 m14 m15).imp fun σ H Q h => lam_ok h
  · cases h
theorem q_lamI {g : Nat} {e : E} (he : ∀ (V : Un) (pl : Pm) (X' : Cx) (y : Expr), Ctx V pl C X' → chkE e V y = true → PE X' y (tE pl C e)) (c : Ctx U p C X) (h : kLamI U g (chkE e) x = true) : PE X x (tE p C (.lamI g e)) := by
  unfold kLamI at h
  rw [Bool.and_eq_true] at h
  obtain ⟨hi, h⟩ := h
  unfold kLam at h
  split at h
  · simp only [Bool.and_eq_true] at h
    obtain ⟨⟨⟨⟨⟨h0, h1⟩, h2⟩, h3⟩, h4⟩, h5⟩ := h
    obtain ⟨g1, g2⟩ := c.gl h1
    have L := LamX.lamS_by h3
    rw [← c.sc] at L
    obtain ⟨⟨a, ga, c0, P, pg, bg, sg, dV, kV, doc, pm, cdv, ct, oc, an, od, osl, Ng, m1, m2, m3, m4, m5, m6, m7, m8, m9, m9i, m10, m11, m12, m13, m14, m15⟩, rm⟩ := c.lam g _ (of_decide_eq_true h2)
    rw [noPs_of h4]
    exact (lam_call (t := fun E => tE (p.lam E) C e) c.gd g1 m1 m2 m3 m4 m5 m6 m7 m8 (m9i hi) m10 m11 m12 m13 rm L rfl (fun _ _ _ _ _ => rfl) (fun A outer s H E f c' hgd hr => he _ _ _ _ (c.lmb L hgd hr) h5) g2 m14 m15).imp fun σ H Q h => lami_ok h
  · cases h
end
abbrev Tst (p : Pm) (C : Calls) (X : Cx) (e : E) (x : Expr) : Prop := PT X x (tT p C e) ∧ ∀ op l ps, x = .BoolOp op l ps → PW X x (tT p C e)
theorem t_and {U : Un} {p : Pm} {C : Calls} {X : Cx} {a b : E} {f g t u : KB} {x : Expr} (ha : ∀ y, f y = true → t y = true → Tst p C X a y) (hb : ∀ y, g y = true → u y = true → Tst p C X b y) (h : kBo .And f g x = true) (ht : kAndT .And t u x = true) : Tst p C X (.and a b) x := by
  unfold kBo at h
  split at h
  · rename_i o l r rest ps
    simp only [Bool.and_eq_true] at h
    obtain ⟨⟨h1, h2⟩, h3⟩ := h
    unfold isBo at h1
    have e := of_decide_eq_true h1
    subst e
    unfold kAndT at ht
    simp only [Bool.and_eq_true] at ht
    obtain ⟨pa, _⟩ := ha _ h2 ht.1
    obtain ⟨pb, wb⟩ := hb _ h3 ht.2
    have w : PW X (.BoolOp .And (r :: rest) ps) (tT p C b) := by
      unfold tailB at pb wb
      cases rest with
      | nil => exact pw_and1 pb
      | cons _ _ => exact wb _ _ _ rfl
    have W := (pw_and pa w).imp fun σ H Q h => tand_ok (a := a) (b := b) h
    exact ⟨W.pt, fun _ _ _ _ => W⟩
  · cases h
theorem t_or {U : Un} {p : Pm} {C : Calls} {X : Cx} {a b : E} {f g t u : KB} {x : Expr} (ha : ∀ y, f y = true → t y = true → Tst p C X a y) (hb : ∀ y, g y = true → u y = true → Tst p C X b y) (h : kBo .Or f g x = true) (ht : kAndT .Or t u x = true) : Tst p C X (.or a b) x := by
  unfold kBo at h
  split at h
  · rename_i o l r rest ps
    simp only [Bool.and_eq_true] at h
    obtain ⟨⟨h1, h2⟩, h3⟩ := h
    unfold isBo at h1
    have e := of_decide_eq_true h1
    subst e
    unfold kAndT at ht
    simp only [Bool.and_eq_true] at ht
    obtain ⟨pa, _⟩ := ha _ h2 ht.1
    obtain ⟨pb, wb⟩ := hb _ h3 ht.2
    have w : PW X (.BoolOp .Or (r :: rest) ps) (tT p C b) := by
      unfold tailB at pb wb
      cases rest with
      | nil => exact pw_or1 pb
      | cons _ _ => exact wb _ _ _ rfl
    have W := (pw_or pa w).imp fun σ H Q h => tor_ok (a := a) (b := b) h
    exact ⟨W.pt, fun _ _ _ _ => W⟩
  · cases h
theorem t_not {U : Un} {p : Pm} {C : Calls} {X : Cx} {a : E} {f t : KB} {x : Expr} (ha : ∀ y, f y = true → t y = true → Tst p C X a y) (h : kUn .Not f x = true) (ht : kNotT t x = true) : Tst p C X (.not a) x := by
  unfold kUn at h
  split at h
  · simp only [Bool.and_eq_true] at h
    unfold isUn at h
    have e := of_decide_eq_true h.1
    subst e
    unfold kNotT at ht
    exact ⟨st_not (ha _ h.2 ht).1, fun _ _ _ q => by cases q⟩
  · cases h
theorem t_cm {U : Un} {p : Pm} {C : Calls} {X : Cx} {a b : E} {f g : KB} {x : Expr} {o : Cm} (c : Ctx U p C X) (ha : ∀ y, f y = true → PE X y (tE p C a)) (hb : ∀ y, g y = true → PE X y (tE p C b)) (h : kCm o f g x = true) : Tst p C X (.cm o a b) x := by
  unfold kCm at h
  split at h
  · simp only [Bool.and_eq_true] at h
    obtain ⟨⟨⟨h1, h2⟩, h3⟩, h4⟩ := h
    unfold isCm at h1
    rw [of_decide_eq_true h1]
    exact ⟨st_cm o c.hK c.un (ha _ h3) (hb _ h4) (marks_no (by simpa using h2)), fun _ _ _ q => by cases q⟩
  · cases h
theorem t_ch {U : Un} {p : Pm} {C : Calls} {X : Cx} {a b d : E} {f g k : KB} {x : Expr} {o q : Cm} (c : Ctx U p C X) (ha : ∀ y, f y = true → PE X y (tE p C a)) (hb : ∀ y, g y = true → PE X y (tE p C b)) (hd : ∀ y, k y = true → PE X y (tE p C d)) (h : kCh o q f g k x = true) : Tst p C X (.ch o q a b d) x := by
  unfold kCh at h
  split at h
  · simp only [Bool.and_eq_true] at h
    obtain ⟨⟨⟨⟨⟨h1, h2⟩, h3⟩, h4⟩, h5⟩, h6⟩ := h
    unfold isCm at h1 h2
    rw [of_decide_eq_true h1, of_decide_eq_true h2]
    exact ⟨st_ch o q c.hK c.un (ha _ h4) (hb _ h5) (hd _ h6) (marks_no (by simpa using h3)), fun _ _ _ q => by cases q⟩
  · cases h
section
variable {C : Calls}
mutual
theorem sE : ∀ (e : E) {U : Un} {p : Pm} {X : Cx} {x : Expr}, Ctx U p C X → chkE e U x = true → PE X x (tE p C e)
  | .c d, _, _, _, _, c, h => q_c (by unfold chkE at h; exact h)
  | .g n d, _, _, _, _, c, h => q_g c (by unfold chkE at h; exact h)
  | .v i, _, _, _, _, c, h => q_v c (by unfold chkE at h; exact h)
  | .op o a b, _, _, _, _, c, h => q_op (fun _ q => sE a c q) (fun _ q => sE b c q) c (by unfold chkE at h; exact h)
  | .neg a, _, _, _, _, c, h => q_neg (fun _ q => sE a c q) (by unfold chkE at h; exact h)
  | .not a, _, _, _, _, c, h => q_not (fun _ q => sE a c q) (by unfold chkE at h; exact h)
  | .and a b, _, _, _, _, c, h => q_and (fun _ q => sE a c q) (fun _ q => sE b c q) (by unfold chkE at h; exact h)
  | .or a b, _, _, _, _, c, h => q_or (fun _ q => sE a c q) (fun _ q => sE b c q) (by unfold chkE at h; exact h)
  | .cm o a b, _, _, _, _, c, h => q_cm (fun _ q => sE a c q) (fun _ q => sE b c q) c (by unfold chkE at h; exact h)
  | .ch o q a b d, _, _, _, _, c, h => q_ch (fun _ q => sE a c q) (fun _ q => sE b c q) (fun _ q => sE d c q) c (by unfold chkE at h; exact h)
  | .ite d a b, _, _, _, _, c, h => q_ite (fun _ q t => (sB d c q t).1) (fun _ q => sE a c q) (fun _ q => sE b c q) (by unfold chkE at h; exact h)
  | .tup es, _, _, _, _, c, h => q_tup (fun _ q => sEs es c q) (by unfold chkE at h; exact h)
  | .lst es, _, _, _, _, c, h => q_lst (fun _ q => sEs es c q) (by unfold chkE at h; exact h)
  | .ix a b, _, _, _, _, c, h => q_ix (fun _ q => sE a c q) (fun _ q => sE b c q) c (by unfold chkE at h; exact h)
  | .sl a lo hi, _, _, _, _, c, h => q_sl (fun _ q => sE a c q) c (fun _ q => sEo lo c q) (fun _ q => sEo hi c q) (by unfold chkE at h; exact h)
  | .bi b es, _, _, _, _, c, h => q_bi (fun _ q => chkEs_stars q) (fun _ q => sEv es c q) c (by unfold chkE at h; exact h)
  | .isi a t cs, _, _, _, _, c, h => q_isi (fun _ q => sE a c q) c (by unfold chkE at h; exact h)
  | .call f es, _, _, _, _, c, h => q_call (fun _ q => chkEs_stars q) (fun _ q => sEs es c q) c (by unfold chkE at h; exact h)
  | .callH f i es, _, _, _, _, c, h => q_callH (fun _ q => chkEs_stars q) (fun _ q => sEs es c q) c (by unfold chkE at h; exact h)
  | .mk k f es, _, _, _, _, c, h => q_mk (fun _ q => chkEs_stars q) (fun _ q => sEs es c q) c (by unfold chkE at h; exact h)
  | .fld a f, _, _, _, _, c, h => q_fld (fun _ q => sE a c q) c (by unfold chkE at h; exact h)
  | .mt m i es, _, _, _, _, c, h => q_mt (fun _ q => chkEs_stars q) (fun _ q => sEs es c q) c (fun q => nil_of q) (by unfold chkE at h; exact h)
  | .dnew t, _, _, _, _, c, h => q_dnew (by unfold chkE at h; exact h)
  | .trg t es, _, _, _, _, c, h => q_trg (fun _ q => chkEs_stars q) (fun _ q => sEs es c q) c (by unfold chkE at h; exact h)
  | .rev a lo, _, _, _, _, c, h => q_rev (fun _ q => sE a c q) c (fun _ q => sEo lo c q) (by unfold chkE at h; exact h)
  | .eqm ne k f a b, _, _, _, _, c, h => q_eqm (fun _ q => sE a c q) (fun _ q => sE b c q) c (by unfold chkE at h; exact h)
  | .d1 k i, _, _, _, _, c, h => q_d1 c (by unfold chkE at h; exact h)
  | .xis k, _, _, _, _, c, h => c.xis k _ (by unfold chkE at h; exact h)
  | .act, _, _, _, _, c, h => q_act c (by unfold chkE at h; exact h)
  | .lam g vs e, _, _, _, _, c, h => q_lam (fun _ _ _ _ c' q => sE e c' q) c (by unfold chkE at h; exact h)
  | .lamI g e, _, _, _, _, c, h => q_lamI (fun _ _ _ _ c' q => sE e c' q) c (by unfold chkE at h; exact h)
  | .nset a, _, _, _, _, c, h => q_nset (fun _ q => sE a c q) c (by unfold chkE at h; exact h)
  | .dcT vs tg it cond el, _, _, _, _, c, h => q_dc c (fun _ _ q => sI it c q) (fun _ _ _ c' q => sC cond c' q) (fun _ _ _ c' q => sE el c' q) (by unfold chkE at h; exact h)
  | .lc vs tg it cond el, _, _, _, _, c, h => q_lc c (fun _ _ q => sI it c q) (fun _ _ _ c' q => sC cond c' q) (fun _ _ _ c' q => sE el c' q) (by unfold chkE at h; exact h)
theorem sEs : ∀ (es : Es) {U : Un} {p : Pm} {X : Cx} {xs : List Expr}, Ctx U p C X → chkEs es U xs = true → PA X xs (tEs p C es)
  | .nil, U, p, X, xs, c, h => by
    unfold chkEs kNil at h
    split at h
    · exact sa_nil
    · cases h
  | .cons e r, U, p, X, xs, c, h => by
    unfold chkEs kCons at h
    split at h
    · simp only [Bool.and_eq_true] at h
      exact sa_cons (sE e c h.1.2) (sEs r c h.2) (star_cons (by simpa using h.1.1))
    · cases h
theorem sEk : ∀ (es : Es) {U : Un} {p : Pm} {X : Cx} {xs : List Expr}, Ctx U p C X → chkEs es U xs = true → PA X xs (tEk p C es)
  | .nil, U, p, X, xs, c, h => by
    unfold chkEs kNil at h
    split at h
    · exact sk_nil
    · cases h
  | .cons e r, U, p, X, xs, c, h => by
    unfold chkEs kCons at h
    split at h
    · simp only [Bool.and_eq_true] at h
      exact sk_cons (sE e c h.1.2) (sEk r c h.2) (star_cons (by simpa using h.1.1))
    · cases h
theorem sEv : ∀ (es : Es) {U : Un} {p : Pm} {X : Cx} {xs : List Expr}, Ctx U p C X → chkEs es U xs = true → PA X xs (tEv p C es)
  | .nil, U, p, X, xs, c, h => by
    unfold chkEs kNil at h
    split at h
    · exact sv_nil
    · cases h
  | .cons e r, U, p, X, xs, c, h => by
    unfold chkEs kCons at h
    split at h
    · simp only [Bool.and_eq_true] at h
      exact sv_cons (sE e c h.1.2) (sEv r c h.2) (star_cons (by simpa using h.1.1))
    · cases h
theorem sEo : ∀ (o : Eo) {U : Un} {p : Pm} {X : Cx} {x : Option Expr}, Ctx U p C X → chkEo o U x = true → PO X x (tEo p C o)
  | .none, U, p, X, x, c, h => by
    unfold chkEo at h
    cases x with
    | none => exact so_none
    | some _ => cases h
  | .some e, U, p, X, x, c, h => by
    unfold chkEo kO at h
    cases x with
    | none => cases h
    | some y => exact so_some (sE e c h)
theorem sC : ∀ (o : Eo) {U : Un} {p : Pm} {X : Cx} {xs : List Expr}, Ctx U p.in_ C X → chkC o U xs = true → PTs X xs (tC0 p C o)
  | .none, U, p, X, xs, c, h => by
    unfold chkC kNil at h
    split at h
    · exact st_none
    · cases h
  | .some e, U, p, X, xs, c, h => by
    unfold chkC kIf at h
    split at h
    · rw [Bool.and_eq_true] at h
      exact st_some (sB e c h.2 h.1).1
    · cases h
theorem sI : ∀ (it : I) {U : Un} {p : Pm} {X : Cx} {tg x : Expr}, Ctx U p C X → chkI it U tg x = true → PI X tg x (tI p C it)
  | .e e, _, _, _, _, _, c, h => si_e c.hK (sE e c (by unfold chkI at h; exact h))
  | .rng es, _, _, _, _, _, c, h => q_rng (fun _ q => chkEs_stars q) (fun _ q => sEs es c q) c (by unfold chkI at h; exact h)
  | .zip es, _, _, _, _, _, c, h => q_zip (fun _ q => chkEs_stars q) (fun _ q => sEs es c q) c (by unfold chkI at h; exact h)
  | .rrng es, _, _, _, _, _, c, h => q_rrng (fun _ q => chkEs_stars q) (fun _ q => sEs es c q) c (by unfold chkI at h; exact h)
  | .enum es, _, _, _, _, _, c, h => q_enum (fun _ q => chkEs_stars q) (fun _ q => sEs es c q) c (by unfold chkI at h; exact h)
theorem sB : ∀ (e : E) {U : Un} {p : Pm} {X : Cx} {x : Expr}, Ctx U p C X → chkE e U x = true → tstOk e x = true → Tst p C X e x
  | .and a b, U, _, _, _, c, h, t => t_and (U := U) (fun _ q t => sB a c q t) (fun _ q t => sB b c q t) (by unfold chkE at h; exact h) (by unfold tstOk at t; exact t)
  | .or a b, U, _, _, _, c, h, t => t_or (U := U) (fun _ q t => sB a c q t) (fun _ q t => sB b c q t) (by unfold chkE at h; exact h) (by unfold tstOk at t; exact t)
  | .not a, U, _, _, _, c, h, t => t_not (U := U) (fun _ q t => sB a c q t) (by unfold chkE at h; exact h) (by unfold tstOk at t; exact t)
  | .cm o a b, _, _, _, _, c, h, t => t_cm c (fun _ q => sE a c q) (fun _ q => sE b c q) (by unfold chkE at h; exact h)
  | .ch o q a b d, _, _, _, _, c, h, t => t_ch c (fun _ q => sE a c q) (fun _ q => sE b c q) (fun _ q => sE d c q) (by unfold chkE at h; exact h)
  | .eqm ne k f a b, U, _, _, _, c, h, t => (q_eqm2 (U := U) (fun _ q => sE a c q) (fun _ q => sE b c q) c (by unfold chkE at h; exact h)).2.imp id fun z op l ps q => absurd q (z op l ps)
  | .c d, U, _, _, _, c, h, t => st_plain (U := U) (q_c (by unfold chkE at h; exact h)) (nonTst (by unfold tstOk at t; exact t))
  | .g n d, U, _, _, _, c, h, t => st_plain (U := U) (q_g c (by unfold chkE at h; exact h)) (nonTst (by unfold tstOk at t; exact t))
  | .v i, U, _, _, _, c, h, t => st_plain (U := U) (q_v c (by unfold chkE at h; exact h)) (nonTst (by unfold tstOk at t; exact t))
  | .op o a b, U, _, _, _, c, h, t => st_plain (U := U) (q_op (fun _ q => sE a c q) (fun _ q => sE b c q) c (by unfold chkE at h; exact h)) (nonTst (by unfold tstOk at t; exact t))
  | .neg a, U, _, _, _, c, h, t => st_plain (U := U) (q_neg (fun _ q => sE a c q) (by unfold chkE at h; exact h)) (nonTst (by unfold tstOk at t; exact t))
  | .ite d a b, U, _, _, _, c, h, t => st_plain (U := U) (q_ite (fun _ q t => (sB d c q t).1) (fun _ q => sE a c q) (fun _ q => sE b c q) (by unfold chkE at h; exact h)) (nonTst (by unfold tstOk at t; exact t))
  | .tup es, U, _, _, _, c, h, t => st_plain (U := U) (q_tup (fun _ q => sEs es c q) (by unfold chkE at h; exact h)) (nonTst (by unfold tstOk at t; exact t))
  | .lst es, U, _, _, _, c, h, t => st_plain (U := U) (q_lst (fun _ q => sEs es c q) (by unfold chkE at h; exact h)) (nonTst (by unfold tstOk at t; exact t))
  | .ix a b, U, _, _, _, c, h, t => st_plain (U := U) (q_ix (fun _ q => sE a c q) (fun _ q => sE b c q) c (by unfold chkE at h; exact h)) (nonTst (by unfold tstOk at t; exact t))
  | .sl a lo hi, U, _, _, _, c, h, t => st_plain (U := U) (q_sl (fun _ q => sE a c q) c (fun _ q => sEo lo c q) (fun _ q => sEo hi c q) (by unfold chkE at h; exact h)) (nonTst (by unfold tstOk at t; exact t))
  | .bi b es, U, _, _, _, c, h, t => st_plain (U := U) (q_bi (fun _ q => chkEs_stars q) (fun _ q => sEv es c q) c (by unfold chkE at h; exact h)) (nonTst (by unfold tstOk at t; exact t))
  | .isi a tt cs, U, _, _, _, c, h, t => st_plain (U := U) (q_isi (fun _ q => sE a c q) c (by unfold chkE at h; exact h)) (nonTst (by unfold tstOk at t; exact t))
  | .call f es, U, _, _, _, c, h, t => st_plain (U := U) (q_call (fun _ q => chkEs_stars q) (fun _ q => sEs es c q) c (by unfold chkE at h; exact h)) (nonTst (by unfold tstOk at t; exact t))
  | .callH f i es, U, _, _, _, c, h, t => st_plain (U := U) (q_callH (fun _ q => chkEs_stars q) (fun _ q => sEs es c q) c (by unfold chkE at h; exact h)) (nonTst (by unfold tstOk at t; exact t))
  | .mk k f es, U, _, _, _, c, h, t => st_plain (U := U) (q_mk (fun _ q => chkEs_stars q) (fun _ q => sEs es c q) c (by unfold chkE at h; exact h)) (nonTst (by unfold tstOk at t; exact t))
  | .fld a f, U, _, _, _, c, h, t => st_plain (U := U) (q_fld (fun _ q => sE a c q) c (by unfold chkE at h; exact h)) (nonTst (by unfold tstOk at t; exact t))
  | .mt m i es, U, _, _, _, c, h, t => st_plain (U := U) (q_mt (fun _ q => chkEs_stars q) (fun _ q => sEs es c q) c (fun q => nil_of q) (by unfold chkE at h; exact h)) (nonTst (by unfold tstOk at t; exact t))
  | .dnew t, U, _, _, _, c, h, t' => st_plain (U := U) (q_dnew (by unfold chkE at h; exact h)) (nonTst (by unfold tstOk at t'; exact t'))
  | .trg t es, U, _, _, _, c, h, t' => st_plain (U := U) (q_trg (fun _ q => chkEs_stars q) (fun _ q => sEs es c q) c (by unfold chkE at h; exact h)) (nonTst (by unfold tstOk at t'; exact t'))
  | .rev a lo, U, _, _, _, c, h, t => st_plain (U := U) (q_rev (fun _ q => sE a c q) c (fun _ q => sEo lo c q) (by unfold chkE at h; exact h)) (nonTst (by unfold tstOk at t; exact t))
  | .d1 k i, U, _, _, _, c, h, t => st_plain (U := U) (q_d1 c (by unfold chkE at h; exact h)) (nonTst (by unfold tstOk at t; exact t))
  | .xis k, U, _, _, _, c, h, t => st_plain (U := U) (c.xis k _ (by unfold chkE at h; exact h)) (nonTst (by unfold tstOk at t; exact t))
  | .act, U, _, _, _, c, h, t => st_plain (U := U) (q_act c (by unfold chkE at h; exact h)) (nonTst (by unfold tstOk at t; exact t))
  | .lam g vs e, U, _, _, _, c, h, t => st_plain (U := U) (q_lam (fun _ _ _ _ c' q => sE e c' q) c (by unfold chkE at h; exact h)) (nonTst (by unfold tstOk at t; exact t))
  | .lamI g e, U, _, _, _, c, h, t => st_plain (U := U) (q_lamI (fun _ _ _ _ c' q => sE e c' q) c (by unfold chkE at h; exact h)) (nonTst (by unfold tstOk at t; exact t))
  | .nset a, U, _, _, _, c, h, t => st_plain (U := U) (q_nset (fun _ q => sE a c q) c (by unfold chkE at h; exact h)) (nonTst (by unfold tstOk at t; exact t))
  | .dcT vs tg it cond el, U, _, _, _, c, h, t => st_plain (U := U) (q_dc c (fun _ _ q => sI it c q) (fun _ _ _ c' q => sC cond c' q) (fun _ _ _ c' q => sE el c' q) (by unfold chkE at h; exact h)) (nonTst (by unfold tstOk at t; exact t))
  | .lc vs tg it cond el, U, _, _, _, c, h, t => st_plain (U := U) (q_lc c (fun _ _ q => sI it c q) (fun _ _ _ c' q => sC cond c' q) (fun _ _ _ c' q => sE el c' q) (by unfold chkE at h; exact h)) (nonTst (by unfold tstOk at t; exact t))
end
end
end FL

set_option maxHeartbeats 4000000
/-! FS, part 15: statements: the comparison is sound. -/
namespace FL
open PySem PySem.Spec PyProof.Rows L2
section
variable {U : Un} {p : Pm} {C : Calls} {X : Cx} {x : Stmt}
theorem r_asg {i : Nat} {e : E} (c : Ctx U p C X) (h : tAsgN U i (isLc e) (chkE e U) x = true) : PS X x (tS1 p C (.asg i e)) := by
  unfold tAsgN at h
  split at h
  · rename_i n pn v ps
    simp only [Bool.and_eq_true] at h
    obtain ⟨⟨h1, h2⟩, h3⟩ := h
    obtain ⟨g1, g2, g3⟩ := c.stslot h1
    have nd : X.N.Nodup := by rw [c.N]; exact c.nd
    refine ss_asg ?_
    by_cases hc : isComp v = true
    · rw [hc] at h3
      have h3' : isLc e = true := by simpa using h3
      cases e with
      | lc vs tg it cond el =>
        have h2' := h2
        unfold chkE at h2'
        obtain ⟨hh, elt, tgx, iter, ifs, scope, pos, rfl, ok, k1, k2, k3, k4, k5, k6⟩ := q_lcI c (fun _ _ q => sI it c q) (fun _ _ _ c' q => sC cond c' q) (fun _ _ _ c' q => sE el c' q) h2'
        have e0 : swapsWith (.ListComp elt [⟨tgx, iter, ifs, 0⟩] scope pos) (some (.Name n pn)) ps.line X.env = pure (X.env.blockKind == .function && X.env.kindOf n == some .local && pn.line == (Expr.ListComp elt [⟨tgx, iter, ifs, 0⟩] scope pos).pos.line && !(scope.names.any fun (m, k) => m == n && (k == .local || k == .cell))) := rfl
        cases hb : (X.env.blockKind == .function && X.env.kindOf n == some .local && pn.line == (Expr.ListComp elt [⟨tgx, iter, ifs, 0⟩] scope pos).pos.line && !(scope.names.any fun (m, k) => m == n && (k == .local || k == .cell))) with
        | false =>
          rw [hb] at e0
          exact ps_set nd g1 g2 (sE _ c h2) e0 g3
        | true =>
          rw [hb] at e0
          simp only [Bool.and_eq_true] at hb
          have hl : X.env.scope.names.lookup n = some .local := by
            have q : (X.env.kindOf n == some .local) = true := hb.1.1.2
            exact eq_of_beq q
          have g := ps_setLc (spos := ps) (c.calm hh) nd g1 hl e0 k1 ok k2 k3 k4 k5
          rw [ownOf_map] at g
          exact g.imp fun D σ H hw => lc_ok k6 hw
      | _ => cases h3'
    · exact ps_set nd g1 g2 (sE _ c h2) (swaps_no (by simpa using hc)) g3
  · cases h
theorem stores_no {ts : List Expr} {v : Expr} {k : Nat} {pt : Pos} {env : Env} (h : isTup v = false) : swappedStores [.Tuple ts k pt] v env = pure none := by
  cases v <;> first | rfl | cases h
theorem r_asgT {is : List Nat} {e : E} (c : Ctx U p C X) (h : (!U.hot && tAsgT U is (chkE e U) x) = true) : PS X x (tS1 p C (.asgT is e)) := by
  rw [Bool.and_eq_true] at h
  have hh : U.hot = false := by simpa using h.1
  replace h := h.2
  unfold tAsgT at h
  split at h
  · simp only [Bool.and_eq_true] at h
    obtain ⟨⟨h1, h3⟩, h4⟩ := h
    refine ss_asgT (ps_asg (sE _ c h4) (sTgL c hh h1) ?swp ?sto (by rfl))
    · rw [swapsWithSole]; exact swaps_tup
    · exact stores_no (by simpa using h3)
  · cases h
theorem folded_stores {ts vs : List Expr} {k k2 : Nat} {pt pt2 : Pos} {env : Env} (h : vs.all (foldedForSure 8) = true) : swappedStores [.Tuple ts k pt] (.Tuple vs k2 pt2) env = pure none := by
  unfold swappedStores
  simp only [pure_bind]
  split
  · rfl
  · split
    · rfl
    · split
      · rfl
      · first
        | rfl
        | rw [if_pos h]
theorem filterMap_lt {α β : Type} {f : α → Option β} : ∀ {l : List α}, (∃ x ∈ l, f x = none) → (l.filterMap f).length < l.length
  | [], h => by obtain ⟨x, hx, _⟩ := h; cases hx
  | a :: l, h => by
    rw [List.filterMap_cons]
    cases e : f a with
    | none => exact Nat.lt_succ_of_le (List.length_filterMap_le f l)
    | some b =>
      obtain ⟨x, hx, q⟩ := h
      rcases List.mem_cons.mp hx with z | z
      · rw [z, e] at q; cases q
      · have := filterMap_lt (f := f) ⟨x, z, q⟩
        simp only [List.length_cons]
        omega
theorem cell_stores {ts vs : List Expr} {k k2 : Nat} {pt pt2 : Pos} {env : Env} (h : ∃ n p, Expr.Name n p ∈ ts ∧ env.kindOf n = some .cell) : swappedStores [.Tuple ts k pt] (.Tuple vs k2 pt2) env = pure none := by
  obtain ⟨n, p, hm, hk⟩ := h
  unfold swappedStores
  simp only [pure_bind]
  split
  · rfl
  · split
    · rfl
    · split
      · rfl
      · rename_i q
        exfalso
        refine q ?_
        rw [Bool.or_eq_true]
        refine .inl ?_
        have := filterMap_lt (f := fun x : Expr => match x with | .Name id pos => if env.kindOf id == some .local && pos.line == ((ts.head?.map (·.pos.line)).getD 0) then some id else none | _ => none) (l := ts) ⟨_, hm, by simp [hk]⟩
        exact bne_iff_ne.mpr (Nat.ne_of_lt this)
theorem block_fn (c : Ctx U p C X) : X.env.blockKind = .function := by
  unfold Env.blockKind
  rw [c.sc, c.kind]
  rfl
theorem starM {u : Expr} (h : isStar u = false) : ((fun x : Expr => match x with | .Starred .. => true | _ => false) u) = false := by
  cases u <;> first | rfl | cases h
theorem noStar_any {vs : List Expr} (h : noStars vs = true) : (vs.any fun x : Expr => match x with | .Starred .. => true | _ => false) = false := by
  induction vs with
  | nil => rfl
  | cons x r ih =>
    obtain ⟨h1, h2⟩ := noStars_cons h
    rw [List.any_cons, ih h2]
    have := starM h1
    simp only at this
    rw [this]
    rfl
theorem two_stores {a b : Str} {pa pb pt pt2 : Pos} {vs : List Expr} {k k2 : Nat} {env : Env} (hb : env.blockKind = .function) (ha1 : env.kindOf a = some .local) (ha2 : env.kindOf b = some .local) (hl : pa.line = pb.line) (hne : a ≠ b) (st : noStars vs = true) (hn : vs.length = 2)
    (h1 : vs.all (foldedForSure 8) = false) (h2 : vs.all (constantsAlone 8) = false) : swappedStores [.Tuple [.Name a pa, .Name b pb] k pt] (.Tuple vs k2 pt2) env = pure (some [a, b]) := by
  have e2 : ([a, b] : List Str).eraseDups = [a, b] := by
    have : (b == a) = false := by simpa using Ne.symm hne
    simp [List.eraseDups_cons, this]
  have e1 : (([.Name a pa, .Name b pb] : List Expr).filterMap fun | .Name id pos => if env.kindOf id == some .local && pos.line == pa.line then some id else none | _ => none) = [a, b] := by
    simp [ha1, ha2, hl]
  unfold swappedStores
  simp only [pure_bind]
  refine (if_neg (by rw [hb, hn]; intro z; cases z)).trans ((if_neg (fun z => Bool.noConfusion ((noStar_any st).symm.trans z))).trans ?_)
  have key : ∀ (ns : List Str), ns = [a, b] → (if (ns.length != 2 || ns.eraseDups.length != ns.length) = true then (pure none : Sem (Option (List Str))) else if vs.all (foldedForSure 8) = true then pure none else if vs.all (constantsAlone 8) = true then (do unsupported "assign.tuple-of-constant-expressions:order-of-the-stores"; pure (some ns)) else pure (some ns)) = pure (some [a, b]) := by
    intro ns e
    subst e
    rw [e2, if_neg (by intro z; cases z), h1, h2]
    rfl
  exact key _ e1
theorem three_stores {a b d : Str} {pa pb pd pt pt2 : Pos} {vs : List Expr} {k k2 : Nat} {env : Env} (hb : env.blockKind = .function) (ha1 : env.kindOf a = some .local) (ha2 : env.kindOf b = some .local) (ha3 : env.kindOf d = some .local) (hl : pa.line = pb.line) (hl2 : pa.line = pd.line) (hne : a ≠ b) (hne2 : a ≠ d) (hne3 : b ≠ d) (st : noStars vs = true) (hn : vs.length = 3)
    (h1 : vs.all (foldedForSure 8) = false) (h2 : vs.all (constantsAlone 8) = false) : swappedStores [.Tuple [.Name a pa, .Name b pb, .Name d pd] k pt] (.Tuple vs k2 pt2) env = pure (some [a, b, d]) := by
  have e2 : ([a, b, d] : List Str).eraseDups = [a, b, d] := by
    have q1 : (b == a) = false := by simpa using Ne.symm hne
    have q2 : (d == a) = false := by simpa using Ne.symm hne2
    have q3 : (d == b) = false := by simpa using Ne.symm hne3
    simp [List.eraseDups_cons, q1, q2, q3]
  have e1 : (([.Name a pa, .Name b pb, .Name d pd] : List Expr).filterMap fun | .Name id pos => if env.kindOf id == some .local && pos.line == pa.line then some id else none | _ => none) = [a, b, d] := by
    simp [ha1, ha2, ha3, ← hl, ← hl2]
  unfold swappedStores
  simp only [pure_bind]
  refine (if_neg (by rw [hb, hn]; intro z; cases z)).trans ((if_neg (fun z => Bool.noConfusion ((noStar_any st).symm.trans z))).trans ?_)
  have key : ∀ (ns : List Str), ns = [a, b, d] → (if (ns.length != 3 || ns.eraseDups.length != ns.length) = true then (pure none : Sem (Option (List Str))) else if vs.all (foldedForSure 8) = true then pure none else if vs.all (constantsAlone 8) = true then (do unsupported "assign.tuple-of-constant-expressions:order-of-the-stores"; pure (some ns)) else pure (some ns)) = pure (some [a, b, d]) := by
    intro ns e
    subst e
    rw [e2, if_neg (by intro z; cases z), h1, h2]
    rfl
  exact key _ e1
end
end FL

set_option maxHeartbeats 400000
/-! FS, part 16: statements: the comparison is sound. -/
namespace FL
open PySem PySem.Spec PyProof.Rows L2
section
variable {U : Un} {p : Pm} {C : Calls} {X : Cx} {x : Stmt}
theorem putKs_len {lk : Nat} : ∀ (is : List Nat) (ds : List SV) (s s' : S), putKs lk s is ds = some s' → is.length = ds.length
  | [], [], _, _, _ => rfl
  | [], _ :: _, _, _, h => by cases h
  | _ :: _, [], _, _, h => by cases h
  | i :: is, d :: ds, s, s', h => by
    unfold putKs at h
    cases e : FL.put lk s i d with
    | none => rw [e] at h; cases h
    | some s1 =>
      rw [e] at h
      rw [List.length_cons, List.length_cons, putKs_len is ds s1 s' h]
theorem RKs.length {Z : Zn} {B H : Hp} {s : S} {σ : L2.St} : ∀ {ws : List SV} {vs : List V}, RKs Z B H s σ ws vs → ws.length = vs.length
  | _, _, .nil => rfl
  | _, _, .d _ r => by rw [List.length_cons, List.length_cons, r.length]
  | _, _, .o _ _ _ r => by rw [List.length_cons, List.length_cons, r.length]
theorem RKs.new {Z : Zn} {B H : Hp} {s : S} {σ : L2.St} {q : Addr} {o : HO} (hq : H q = none) : ∀ {ws : List SV} {vs : List V}, RKs Z B H s σ ws vs → RKs Z B (upd H q o) s σ ws vs
  | _, _, .nil => .nil
  | _, _, .d h r => .d h (r.new hq)
  | _, _, .o (a := a) ow ap ne r => by
    have : a ≠ q := by
      obtain ⟨o', h, _⟩ := ow.own.some_
      exact ne_of_none h hq
    exact .o ⟨ow.out, ow.mine, ow.own.heap (upd_ne this)⟩ ap ne (r.new hq)
/-- the tuple made, then taken apart -/
theorem par_asgT {is : List Nat} {es : Es} {tg y : Expr} {pos : Pos} (hl : esLen es ≤ lim) (h : PS X (.Assign [tg] y pos) (tAsg (tTup (tEk p C es)) (gOf p.K (.t is)))) : PS X (.Assign [tg] y pos) (tS1 p C (.par is es)) := h.imp fun D σ H hw => by
  obtain ⟨Z, B, s, zo, R, hw⟩ := hw
  unfold ex at hw
  refine ⟨Z, B, s, zo, R, ?_⟩
  cases e : evk C p.lk es s with
  | no => rw [e] at hw; exact hw
  | ex _ _ => rw [e] at hw; exact fun c d H' B' r sb xr => hw c d σ H' B' r sb xr
  | ok ds s1 =>
    rw [e] at hw
    rw [← zo.lk] at hw
    intro vs H1 B1 R1 sb1 r1
    have hlen := r1.length
    have hel := evk_len _ _ _ _ e
    refine ⟨by rw [← hlen, hel]; exact lim_le hl, fun q hq => ?_⟩
    cases e2 : putKs Z.lk s1 is ds with
    | none => 
      have hw' : PostS Z p.W B (stO (putKs Z.lk s1 is ds)) D := hw
      rw [e2] at hw'
      exact hw'.elim
    | some s2 =>
      have hw' : PostS Z p.W B (stO (putKs Z.lk s1 is ds)) D := hw
      rw [e2] at hw'
      refine ⟨q, vs, rfl, .inl (.inl upd_same), ?_, ?_⟩
      · rw [← hlen]; exact (putKs_len _ _ _ _ e2).symm
      · exact putsK_ok (R1.new (o := .tup vs) hq) e2 (r1.new hq) fun σ' R' => hw' _ _ B1 R' sb1
theorem r_par {is : List Nat} {es : Es} (c : Ctx U p C X) (h : (!U.hot && tParK U is (esLen es) (chkEs es U) x) = true) : PS X x (tS1 p C (.par is es)) := by
  rw [Bool.and_eq_true] at h
  have hh : U.hot = false := by simpa using h.1
  replace h := h.2
  unfold tParK at h
  split at h
  · rename_i ts kt pt vs k2 pt2 ps
    simp only [Bool.and_eq_true] at h
    obtain ⟨⟨⟨⟨⟨h1, h2⟩, h3⟩, h4⟩, h6⟩, h5⟩ := h
    have pa := sEk es c h3
    have st := chkEs_stars h3
    have hn := of_decide_eq_true h2
    have nd : X.N.Nodup := by rw [c.N]; exact c.nd
    have small : esLen es ≤ lim := of_decide_eq_true h6
    by_cases hcell : ts.any (isCellNm U) = true
    · obtain ⟨t0, hm, ht⟩ := List.any_eq_true.mp hcell
      refine par_asgT small (ps_asg (pe_tup pa) (sTg c hh (tg := .t is) (by unfold chkTg; exact h4)) ?_ (cell_stores ?_) (by rfl))
      · rw [swapsWithSole]; exact swaps_no rfl
      · unfold isCellNm at ht
        split at ht
        · refine ⟨_, _, hm, ?_⟩
          have l := isK_of ht
          unfold kd at l
          rw [← c.sc] at l
          exact l
        · cases ht
    have hcell' : ts.any (isCellNm U) = false := by simpa using hcell
    rw [hcell', Bool.false_or] at h1 h5
    by_cases hf : vs.all (foldedForSure 8) = true
    · refine par_asgT small (ps_asg (pe_tup pa) (sTg c hh (tg := .t is) (by unfold chkTg; exact h4)) ?_ (folded_stores hf) (by rfl))
      rw [swapsWithSole]; exact swaps_no rfl
    · have hf' : vs.all (foldedForSure 8) = false := by simpa using hf
      rw [hf', Bool.false_or] at h5
      have hc : vs.all (constantsAlone 8) = false := by simpa using h5
      have bk := block_fn c
      unfold kPar at h1
      split at h1
      · simp only [Bool.and_eq_true, decide_eq_true_eq] at h1
        obtain ⟨⟨⟨⟨⟨⟨⟨k1, k2'⟩, k3⟩, k4⟩, k5⟩, k6⟩, k7⟩, k8⟩ := h1
        have l1 := isK_of k5
        have l2 := isK_of k6
        unfold kd at l1 l2
        rw [← c.sc] at l1 l2
        rw [← c.N] at k3 k4
        have sw := two_stores (pt := pt) (pt2 := pt2) (k := kt) (k2 := k2) bk l1 l2 k7 k2' st k8 hf' hc
        match vs, k8, pa, sw with
        | [u, v], _, pa, sw => exact ss_par2 (ps_par (c.calm hh) nd k3 k4 k1 l1 l2 pa sw (by rw [swapsWithSole]; exact swaps_no rfl)) (by rw [hn]; rfl)
      · simp only [Bool.and_eq_true, decide_eq_true_eq] at h1
        obtain ⟨⟨⟨⟨⟨⟨⟨⟨⟨⟨⟨⟨⟨⟨k1, k2'⟩, k3⟩, k4⟩, k5⟩, k6⟩, k7⟩, k8⟩, k9⟩, k10⟩, k11⟩, k12⟩, k13⟩, k14⟩, k15⟩ := h1
        have l1 := isK_of k10
        have l2 := isK_of k11
        have l3 := isK_of k12
        unfold kd at l1 l2 l3
        rw [← c.sc] at l1 l2 l3
        rw [← c.N] at k7 k8 k9
        have sw := three_stores (pt := pt) (pt2 := pt2) (k := kt) (k2 := k2) bk l1 l2 l3 k13 k14 k4 k5 k6 st k15 hf' hc
        match vs, k15, pa, sw with
        | [u, v, w], _, pa, sw => exact ss_par3 (ps_par3 (c.calm hh) nd k7 k8 k9 k1 k2' k3 l1 l2 l3 pa sw (by rw [swapsWithSole]; exact swaps_no rfl)) (by rw [hn]; rfl)
      · cases h1
  · cases h
theorem sub_assign {o i : Expr} {pos : Pos} {env : Env} (h : isSlice i = false) : ∀ v, assign (.Subscript o i pos) env v = (do
      let ov ← holding [v] (eval o env)
      let iv ← holding [v, ov] (eval i env)
      standAt pos
      holding [v, ov, iv] (setItem ov iv v)
      release [v, ov, iv] []) := by
  intro v
  cases i <;> first | rfl | cases h
theorem r_setIx {i : Nat} {b e : E} (c : Ctx U p C X) (h : tSetIx U i (chkE b U) (chkE e U) x = true) : PS X x (tS1 p C (.setIx i b e)) := by
  unfold tSetIx at h
  split at h
  · simp only [Bool.and_eq_true] at h
    obtain ⟨⟨⟨⟨h1, h2⟩, h3⟩, h4⟩, h5⟩ := h
    obtain ⟨v1, v2, v3, v4⟩ := c.slot h1
    refine ss_setIx (ps_asg (sE _ c h5) (pg_sub (pe_var v1 v2 v3 v4) (sE _ c h4) (set_any c.un) (sub_assign (by simpa using h2))) ?_ (by rfl) (by rfl))
    rw [swapsWithSole]; exact swaps_no (by simpa using h3)
  · cases h
theorem r_setFld {f : Str} {e : E} (c : Ctx U p C X) (h : tSetFld U f (chkE e U) x = true) : PS X x (tS1 p C (.setFld f e)) := by
  unfold tSetFld at h
  split at h
  · simp only [Bool.and_eq_true] at h
    obtain ⟨⟨⟨⟨h1, h2⟩, h3⟩, h4⟩, h5⟩ := h
    obtain ⟨v1, v2, v3, v4⟩ := c.slot h3
    rw [of_decide_eq_true h1]
    exact ss_setFld c.hK v1 v2 v3 v4 (sE _ c h5) (fun k C0 ek => ⟨c.ck.cls k C0 ek, c.flds _ h2 k C0 ek⟩) (swaps_no (by simpa using h4))
  · cases h
theorem r_aug {i : Nat} {o : Op} {e : E} (c : Ctx U p C X) (h : tAugK U i o (chkE e U) x = true) : PS X x (tS1 p C (.aug i o e)) := by
  unfold tAugK at h
  split at h
  · simp only [Bool.and_eq_true] at h
    obtain ⟨⟨⟨h1, h2⟩, h3⟩, h4⟩ := h
    obtain ⟨g1, g2, g3⟩ := c.stslot h1
    unfold isOp at h2
    rw [of_decide_eq_true h2]
    have nd : X.N.Nodup := by rw [c.N]; exact c.nd
    cases o with
    | add => exact ss_aug rfl (ps_aug nd g1 g2 (sE _ c h4) ip_add g3)
    | sub => exact ss_aug rfl (ps_aug nd g1 g2 (sE _ c h4) ip_sub g3)
    | _ => cases h3
  · cases h
section
variable {f g : List Stmt → Bool} {a b : Ts} (ha : ∀ l, f l = true → PSs X l (tSs p C a)) (hb : ∀ l, g l = true → PSs X l (tSs p C b)) (c : Ctx U p C X) (po : PassesOwn (model X.prog X.w) X.A X.env X.xe)
include ha hb c in
theorem r_if {e : E} (h : tIfK (tstOk e) (chkE e U) f g x = true) : PS X x (tS1 p C (.if_ e a b)) := by
  unfold tIfK at h
  split at h
  · simp only [Bool.and_eq_true] at h
    obtain ⟨⟨⟨h1, h2⟩, h3⟩, h4⟩ := h
    exact ss_if (sB e c h2 h1).1 (ha _ h3) (hb _ h4)
  · cases h
include ha c po in
theorem r_while {e : E} (h : tWh (tstOk e) (chkE e U) f x = true) : PS X x (tS1 p C (.while_ e a)) := by
  unfold tWh at h
  split at h
  · simp only [Bool.and_eq_true] at h
    obtain ⟨⟨h1, h2⟩, h3⟩ := h
    exact ss_while po (sB e c h2 h1).1 (ha _ h3)
  · cases h
include ha c po in
theorem r_for {tg : Tg} {it : I} (h : (!U.hot && tForK U tg (chkI it U) f x) = true) : PS X x (tS1 p C (.for_ tg it a)) := by
  rw [Bool.and_eq_true] at h
  have hh : U.hot = false := by simpa using h.1
  replace h := h.2
  unfold tForK at h
  split at h
  · simp only [Bool.and_eq_true] at h
    obtain ⟨⟨⟨h1, h2⟩, h3⟩, h4⟩ := h
    exact ss_for po (c.calm hh) (sI it c h3) (sTg c hh h1) (ha _ h4) (folded_no (by simpa using h2))
  · cases h
end
theorem r_rse {k : Nat} (c : Ctx U p C X) (h : tRseK U k x = true) : PS X x (tS1 p C (.rse k)) := by
  unfold tRseK at h
  split at h
  · simp only [Bool.and_eq_true] at h
    obtain ⟨⟨h1, h2⟩, h3⟩ := h
    have hh : U.hot = false := by simpa using h1
    obtain ⟨g1, g2⟩ := c.gl h2
    obtain ⟨m1, m2⟩ := c.rse k _ (of_decide_eq_true h3)
    exact ss_rse (c.calm hh) c.tk (pmk_own0 PySem.F.excBase_ValueError m2.q m1 m2.k (raises_own m2.b m2.t) g1 g2)
  · cases h
/-- a try's body -/
theorem Ctx.trc (c : Ctx U p C X) (hx : U.xi = none) {W : WX} {pn : List (Addr × Obj)} {xe : Value → Shared → Prop} (tk : Takes (X.tr pn xe) W) : Ctx U { p with W := W } C (X.tr pn xe) where
  hK := c.hK
  calm := c.calm
  N := c.N
  sc := c.sc
  kind := c.kind
  nd := c.nd
  un := c.un
  un2 := c.un2
  gd := c.gd
  fnB := c.fnB
  tk := tk
  fns := fun f F e e2 => by
    obtain ⟨fa, ⟨h⟩, h2⟩ := c.fns f F e e2
    exact ⟨fa, ⟨h⟩, h2⟩
  mks := fun k n f F e e2 => by
    obtain ⟨fa, C0, ⟨h⟩, h2⟩ := c.mks k n f F e e2
    exact ⟨fa, C0, ⟨h⟩, h2⟩
  cls := c.cls
  cts := c.cts
  tcs := c.tcs
  blts := c.blts
  ck := c.ck
  flds := c.flds
  eqs := fun k f F e e2 => by
    obtain ⟨fa, C0, ⟨h⟩, h2⟩ := c.eqs k f F e e2
    exact ⟨fa, C0, ⟨h⟩, h2⟩
  rse := c.rse
  hdl := c.hdl
  fr := c.fr
  exs := c.exs
  xis := fun k y z => by rw [kXis_none hx] at z; cases z
  act := fun W' pn' xe' tk' y z => c.act W' pn' xe' tk' y z
  lam := fun g n z => by
    obtain ⟨h1, h2⟩ := c.lam g n z
    exact ⟨h1, h2⟩
theorem sux (c : Ctx U p C X) (ht : U.tr = true) {i : Nat} {a : Addr} {oe : Obj} {y : Exn} {pn : List (Addr × Obj)} (hz : Zc (.ref (p.xA.a y.c)) none oe) (hf : ∃ vs, oe.data = .fields vs) {k : Nat} {e : Expr} (hm : y.c < U.xn) (h : kXis (U.su i) k e = true) : PE (X.suite a ((a, oe) :: pn)) e (tE (p.su i a) (xC C y) (.xis k)) := by
  obtain ⟨E1, E2, E3⟩ := c.exs ht y.c hm
  unfold kXis at h
  split at h
  · rename_i f pf e pe cn pc pos
    simp only [Bool.and_eq_true] at h
    obtain ⟨⟨⟨⟨⟨h1, h2⟩, h3⟩, h4⟩, h5⟩, h6⟩ := h
    have e1 := of_decide_eq_true h1
    subst e1
    obtain ⟨g1, g2⟩ := c.gl (show U.gl _ = true from h2)
    obtain ⟨g3, g4⟩ := c.gl (show U.gl _ = true from h4)
    obtain ⟨v1, v2, v3, v4⟩ := c.slot (show U.slot i _ = true from h5)
    have m := c.blts _ (show U.blts.contains _ = true from h3)
    by_cases hk : k = 0
    · subst hk
      rw [if_pos rfl, Bool.and_eq_true] at h6
      have e2 := of_decide_eq_true h6.1
      subst e2
      have m2 := c.blts _ (show U.blts.contains _ = true from h6.2)
      exact se_xis E1 hz hf g1 m v1 v2 v3 v4 (cv := .ty "ValueError") (cu := .type "ValueError") (pe_bltn g3 m2 (by decide +kernel) rfl (by decide) (by decide)) (fun u r => r) (by rw [E2]; rfl)
    · rw [if_neg hk] at h6
      obtain ⟨j, rfl⟩ : ∃ j, k = j + 1 := ⟨k - 1, by omega⟩
      have e2 : U.xcl j = some cn := of_decide_eq_true h6
      obtain ⟨m1, _⟩ := c.rse j cn e2
      refine se_xis E1 hz hf g1 m v1 v2 v3 v4 (cv := .ref (p.xA.a j)) (cu := .ref (p.xA.a j)) (pe_glob g3 m1 rfl g4) (fun u r => r) ?_
      rw [E3 j cn e2]
      have q1 : decide (((j + 1 : Nat) : Int) = 0) = false := decide_eq_false (by omega)
      rw [q1, Bool.false_or]
      congr 1
      by_cases q : j = y.c
      · rw [decide_eq_true q, decide_eq_true (by omega)]
      · rw [decide_eq_false q, decide_eq_false (by omega)]
  · cases h
/-- an except suite -/
theorem Ctx.suc (c : Ctx U p C X) (ht : U.tr = true) {i : Nat} {a : Addr} {oe : Obj} {y : Exn} {pn : List (Addr × Obj)} (hz : Zc (.ref (p.xA.a y.c)) none oe) (hf : ∃ vs, oe.data = .fields vs) (hm : y.c < U.xn) : Ctx (U.su i) (p.su i a) (xC C y) (X.suite a ((a, oe) :: pn)) where
  hK := c.hK
  calm := fun z => nomatch z
  N := c.N
  sc := c.sc
  kind := c.kind
  nd := c.nd
  un := c.un
  un2 := c.un2
  gd := c.gd
  fnB := c.fnB
  tk := takes0
  fns := fun f F e => nomatch e
  mks := fun k n f F e => nomatch e
  cls := fun k n f e => nomatch e
  cts := c.cts
  tcs := c.tcs
  blts := c.blts
  ck := c.ck
  flds := c.flds
  eqs := fun k f F e => nomatch e
  rse := c.rse
  hdl := c.hdl
  fr := fun z => nomatch z
  exs := fun z => nomatch z
  xis := fun k e z => sux c ht hz hf hm z
  act := fun _ _ _ _ e z => by rw [kAct_none rfl] at z; cases z
  lam := fun g n z => nomatch z
theorem r_try {b h : Ts} {i m : Nat} {f : List Stmt → Bool} {g : Un → List Stmt → Bool} (hb : ∀ {p' : Pm} {X' : Cx} (l : List Stmt), Ctx U p' C X' → PassesOwn (model X'.prog X'.w) X'.A X'.env X'.xe → f l = true → PSs X' l (tSs p' C b)) (hs : ∀ {V : Un} {p' : Pm} {C' : Calls} {X' : Cx} (l : List Stmt), Ctx V p' C' X' → PassesOwn (model X'.prog X'.w) X'.A X'.env X'.xe → g V l = true → PSs X' l (tSs p' C' h))
    (c : Ctx U p C X) (hq : tTryK U i m f g x = true) : PS X x (tS1 p C (.try_ b i m h)) := by
  unfold tTryK at hq
  split at hq
  · rename_i body r np n b0 suite pos' pos
    simp only [Bool.and_eq_true] at hq
    obtain ⟨⟨⟨⟨⟨⟨⟨⟨h1, h0⟩, h2⟩, h3⟩, h4⟩, h5⟩, h6⟩, h7⟩, h8⟩ := hq
    have e0 := of_decide_eq_true h0
    subst e0
    have hx : U.xi = none := by simpa using h2
    obtain ⟨g1, g2⟩ := c.gl h4
    obtain ⟨cR, m1, m2⟩ := c.hdl r (of_decide_eq_true h3)
    obtain ⟨f1, f2⟩ := c.fr h1
    have l := isK_of h6
    unfold kd at l
    rw [← c.sc] at l
    have nd : X.N.Nodup := by rw [c.N]; exact c.nd
    refine ss_try f1 f2 c.hK nd (by rw [c.N]; exact of_decide_eq_true h5) l ⟨g1, g2, .inl m1⟩ m2 (fun W pn xe tk po => hb _ (c.trc hx tk) po h7) (fun a oe y pn hy hz hf => hs _ (c.suc h1 hz hf hy) ?_ h8)
    exact fun e s z => z.elim
  · cases hq
theorem r_ret {e : E} (c : Ctx U p C X) (h : tRetK (chkE e U) x = true) : PS X x (tS1 p C (.ret e)) := by
  unfold tRetK at h
  split at h
  · exact ss_ret (sE e c h)
  · cases h
theorem r_retN (h : tRetNK x = true) : PS X x (tS1 p C .retN) := by
  unfold tRetNK at h
  split at h
  · exact ss_retN
  · cases h
theorem r_expr {e : E} (c : Ctx U p C X) (h : tExprK (chkE e U) x = true) : PS X x (tS1 p C (.expr e)) := by
  unfold tExprK at h
  split at h
  · rw [Bool.and_eq_true] at h
    exact ss_expr (sE e c h.2) (swaps_no (by simpa using h.1))
  · cases h
theorem r_pass (h : tPassK x = true) : PS X x (tS1 p C .pass) := by
  unfold tPassK at h
  split at h
  · exact ss_pass
  · exact ss_doc
  · cases h
theorem r_brk (h : tBrkK x = true) : PS X x (tS1 p C .brk) := by
  unfold tBrkK at h
  split at h
  · exact ss_brk
  · cases h
theorem r_cnt (h : tCntK x = true) : PS X x (tS1 p C .cnt) := by
  unfold tCntK at h
  split at h
  · exact ss_cnt
  · cases h
end
section
mutual
theorem sT : ∀ (t : T) {U : Un} {p : Pm} {C : Calls} {X : Cx} {x : Stmt}, Ctx U p C X → PassesOwn (model X.prog X.w) X.A X.env X.xe → chkT t U x = true → PS X x (tS1 p C t)
  | .asg i e, _, _, _, _, _, c, po, h => r_asg c (by unfold chkT at h; exact h)
  | .asgT is e, _, _, _, _, _, c, po, h => r_asgT c (by unfold chkT at h; exact h)
  | .par is es, _, _, _, _, _, c, po, h => r_par c (by unfold chkT at h; exact h)
  | .setIx i b e, _, _, _, _, _, c, po, h => r_setIx c (by unfold chkT at h; exact h)
  | .setFld f e, _, _, _, _, _, c, po, h => r_setFld c (by unfold chkT at h; exact h)
  | .aug i o e, _, _, _, _, _, c, po, h => r_aug c (by unfold chkT at h; exact h)
  | .if_ e a b, _, _, _, _, _, c, po, h => r_if (fun _ q => sTs a c po q) (fun _ q => sTs b c po q) c (by unfold chkT at h; exact h)
  | .while_ e a, _, _, _, _, _, c, po, h => r_while (fun _ q => sTs a c po q) c po (by unfold chkT at h; exact h)
  | .for_ tg it a, _, _, _, _, _, c, po, h => r_for (fun _ q => sTs a c po q) c po (by unfold chkT at h; exact h)
  | .ret e, _, _, _, _, _, c, po, h => r_ret c (by unfold chkT at h; exact h)
  | .retN, _, _, _, _, _, c, po, h => r_retN (by unfold chkT at h; exact h)
  | .expr e, _, _, _, _, _, c, po, h => r_expr c (by unfold chkT at h; exact h)
  | .pass, _, _, _, _, _, c, po, h => r_pass (by unfold chkT at h; exact h)
  | .brk, _, _, _, _, _, c, po, h => r_brk (by unfold chkT at h; exact h)
  | .cnt, _, _, _, _, _, c, po, h => r_cnt (by unfold chkT at h; exact h)
  | .raise, _, _, _, _, _, c, po, h => ss_raise
  | .rse k, _, _, _, _, _, c, po, h => r_rse c (by unfold chkT at h; exact h)
  | .try_ b i m hs, _, _, _, _, _, c, po, h => r_try (fun l c' po' q => sTs b c' po' q) (fun l c' po' q => sTs hs c' po' q) c (by unfold chkT at h; exact h)
theorem sTs : ∀ (ts : Ts) {U : Un} {p : Pm} {C : Calls} {X : Cx} {xs : List Stmt}, Ctx U p C X → PassesOwn (model X.prog X.w) X.A X.env X.xe → chkTs ts U xs = true → PSs X xs (tSs p C ts)
  | .nil, _, _, _, _, xs, c, po, h => by
    unfold chkTs tNilK at h
    split at h
    · exact sss_nil
    · cases h
  | .cons t r, _, _, _, _, xs, c, po, h => by
    unfold chkTs tConsK at h
    split at h
    · rw [Bool.and_eq_true] at h
      exact sss_cons (sT t c po h.1) (sTs r c po h.2)
    · cases h
end
end
end FL

set_option maxHeartbeats 1000000
/-! FS, part 17: a text's defs. -/
namespace FL
open PySem PySem.Spec PyProof.Rows L2

/-! ### a body's start -/
theorem getS_nil {l : S} {i : Nat} (h : l.length ≤ i) : getS l i = none := by unfold getS; rw [List.getElem?_eq_none h]
theorem getS_app {l r : S} {i : Nat} (h : i < l.length) : getS (l ++ r) i = getS l i := by unfold getS; rw [List.getElem?_append_left h]
theorem getS_rep {l : S} {i k : Nat} (h : l.length ≤ i) : getS (l ++ List.replicate k none) i = none := by
  unfold getS
  rw [List.getElem?_append_right h]
  cases e : (List.replicate k (none : Option SV))[i - l.length]? with
  | none => rfl
  | some x =>
    obtain ⟨h1, h2⟩ := List.getElem?_eq_some_iff.mp e
    rw [List.getElem_replicate] at h2
    rw [← h2]
theorem getS_map {ds : List FL.D} {i : Nat} {v : SV} (h : getS (ds.map fun d => some (SV.d d)) i = some v) : ∃ d, v = .d d ∧ ds[i]? = some d := by
  unfold getS at h
  rw [List.getElem?_map] at h
  cases e : ds[i]? with
  | none => rw [e] at h; cases h
  | some d => rw [e] at h; cases h; exact ⟨d, rfl, rfl⟩
def body0 (K : PySem.W.Frag) (cA : Nat → Option Addr) (xA : XT) (B H : Hp) (lk : Bool) (ha : Addr) : Zn := ⟨K, cA, xA, nt H, B, fun b => lk = true ∧ b = ha, ln lk, fun _ => ha⟩
theorem start_σ {N : List Str} {vs : List V} {i : Nat} {v : V} (h : vs[i]? = some v) : (L2.start N vs)[i]? = some (some v) := by
  unfold L2.start
  have hi := (List.getElem?_eq_some_iff.mp h).1
  rw [List.getElem?_append_left (by rw [List.length_map]; exact hi), List.getElem?_map, h]
  rfl
theorem start_rep0 {K : PySem.W.Frag} {cA : Nat → Option Addr} {xA : XT} {B H : Hp} {N : List Str} {ds : List FL.D} {us : List V} (sb : Sub B H) (tb : TabOk xA.T B H) (r : RDs K cA B ds us) (ha : Addr) : Rep (body0 K cA xA B H false ha) B (FL.start N.length none ds) (L2.start N us) H where
  len := by
    unfold FL.start L2.start
    simp only [List.nil_append, List.length_append, List.length_map, List.length_replicate, r.length]
  sub := sb
  fr := fun b x e _ => nt_some e
  dom := fun b e => e
  tab := tb
  b0 := Sub.refl B
  bn := fun b x e => .inl e
  dat := fun i d e => by
    unfold FL.start at e
    simp only [List.nil_append] at e
    by_cases hi : i < (ds.map fun d => some (SV.d d)).length
    · rw [getS_app hi] at e
      obtain ⟨d', e1, e2⟩ := getS_map e
      cases e1
      obtain ⟨v, h1, h2⟩ := r.get e2
      exact ⟨v, start_σ h1, h2⟩
    · rw [getS_rep (Nat.le_of_not_lt hi)] at e; cases e
  own := fun i d e => by
    unfold FL.start at e
    simp only [List.nil_append] at e
    by_cases hi : i < (ds.map fun d => some (SV.d d)).length
    · rw [getS_app hi] at e
      obtain ⟨d', e1, e2⟩ := getS_map e
      cases e1
    · rw [getS_rep (Nat.le_of_not_lt hi)] at e; cases e
  dis := fun i j d e' a e _ _ _ => by
    unfold FL.start at e
    simp only [List.nil_append] at e
    by_cases hi : i < (ds.map fun d => some (SV.d d)).length
    · rw [getS_app hi] at e
      obtain ⟨d', e1, e2⟩ := getS_map e
      cases e1
    · rw [getS_rep (Nat.le_of_not_lt hi)] at e; cases e
  lk0 := fun i e => by
    have z : (0 : Nat).testBit i = true := e
    rw [Nat.zero_testBit] at z
    cases z
theorem start_1 {n : Nat} {h : FL.D} {ds : List FL.D} {i : Nat} {v : SV} (e : getS (FL.start n (some h) ds) i = some v) : (i = 0 ∧ v = .o h) ∨ ∃ j d, i = j + 1 ∧ v = .d d ∧ ds[j]? = some d := by
  unfold FL.start at e
  simp only at e
  by_cases hi : i < ([some (SV.o h)] ++ ds.map fun d => some (SV.d d)).length
  · rw [getS_app hi] at e
    cases i with
    | zero => cases e; exact .inl ⟨rfl, rfl⟩
    | succ j =>
      have e' : getS (ds.map fun d => some (SV.d d)) j = some v := e
      obtain ⟨d, e1, e2⟩ := getS_map e'
      exact .inr ⟨j, d, rfl, e1, e2⟩
  · rw [getS_rep (Nat.le_of_not_lt hi)] at e; cases e
theorem start_rep1 {K : PySem.W.Frag} {cA : Nat → Option Addr} {xA : XT} {B H : Hp} {N : List Str} {h : FL.D} {ds : List FL.D} {us : List V} {ha : Addr} (sb : Sub B H) (tb : TabOk xA.T B H) (r : RDs K cA B ds us) (hB : B ha = none) (ow : OwnAt K cA B H ha h) :
    Rep (body0 K cA xA B H true ha) B (FL.start N.length (some h) ds) (L2.start N (.ref ha :: us)) H where
  len := by
    unfold FL.start L2.start
    simp only [List.length_append, List.length_map, List.length_replicate, r.length, List.length_cons, List.length_nil]
    omega
  sub := sb
  fr := fun b x e _ => nt_some e
  dom := fun b e => e
  tab := tb
  b0 := Sub.refl B
  bn := fun b x e => .inl e
  dat := fun i d e => by
    rcases start_1 e with ⟨_, q⟩ | ⟨j, d', rfl, q, e2⟩
    · cases q
    · cases q
      obtain ⟨v, h1, h2⟩ := r.get e2
      exact ⟨v, start_σ (by rw [List.getElem?_cons_succ]; exact h1), h2⟩
  own := fun i d e => by
    rcases start_1 e with ⟨rfl, q⟩ | ⟨j, d', rfl, q, e2⟩
    · cases q
      exact ⟨ha, start_σ rfl, hB, .inr ⟨rfl, rfl⟩, ow⟩
    · cases q
  dis := fun i j d e' a e1 e2 _ _ => by
    rcases start_1 e1 with ⟨rfl, _⟩ | ⟨_, _, _, q, _⟩
    · rcases start_1 e2 with ⟨rfl, _⟩ | ⟨_, _, _, q, _⟩
      · rfl
      · cases q
    · cases q
  lk0 := fun i e => by
    have z : (1 : Nat).testBit i = true := e
    rw [Nat.testBit_one_eq_true_iff_self_eq_zero] at z
    subst z
    exact start_σ rfl

/-! ### a def -/
theorem Rep.cf {K : PySem.W.Frag} {cA : Nat → Option Addr} {xA : XT} {B H B' H' : Hp} {lk : Bool} {ha : Addr} {s : S} {σ : L2.St} (R : Rep (body0 K cA xA B H lk ha) B' s σ H') : CF xA.T B H B' H' lk ha :=
  ⟨R.b0, R.sub, R.fr, R.dom, R.tab, R.bn⟩
theorem Rep.hd {K : PySem.W.Frag} {cA : Nat → Option Addr} {xA : XT} {B H B' H' : Hp} {lk : Bool} {ha : Addr} {s : S} {σ : L2.St} (R : Rep (body0 K cA xA B H lk ha) B' s σ H') : lk = true → HdOk K cA B' H' ha (outOf lk s) := fun e => by
  subst e
  show HdOk K cA B' H' ha (getS s 0)
  have l := R.lk0 0 (by show (1 : Nat).testBit 0 = true; decide)
  cases q : getS s 0 with
  | none => trivial
  | some w =>
    cases w with
    | d d =>
      obtain ⟨v, h1, h2⟩ := R.dat 0 d q
      rw [l] at h1
      cases h1
      exact h2
    | o d =>
      obtain ⟨a, h1, h2⟩ := R.own 0 d q
      rw [l] at h1
      cases h1
      exact ⟨h2.out, h2.own⟩
theorem RRet.rv {K : PySem.W.Frag} {cA : Nat → Option Addr} {xA : XT} {B H B' H' : Hp} {lk : Bool} {ha : Addr} {w : SV} {v : V} (r : RRet (body0 K cA xA B H lk ha) B' H' w v) : RVv K cA B' H H' w v := by
  cases r with
  | d r => exact .d r
  | o ow ne =>
    refine .o ow.out ?_ ow.own
    rcases ow.mine with z | z
    · exact z
    · refine absurd z.2 (ne ?_)
      rw [show (body0 K cA xA B H lk ha).lk = ln lk from rfl, z.1]
      rfl
/-- what a body does is what its def promises -/
theorem body_post {K : PySem.W.Frag} {cA : Nat → Option Addr} {xA : XT} {B H : Hp} {lk : Bool} {ha : Addr} {Q : VK} {E : XK} {o : Out FL.Flow} {co : CO}
    (hco : co = match o with
      | .ok (.rt v) s => .ok v (outOf lk s)
      | .ok .nx s => .ok (.d .non) (outOf lk s)
      | .ok _ _ => .no
      | .ex x s => .ex x (outOf lk s)
      | .no => .no)
    (h : CPost K cA xA B H lk ha co Q E) : PostS (body0 K cA xA B H lk ha) (fun cls d _ H => E cls d H) B o { nx := fun _ H' => Q .non H', rt := Q } := by
  subst hco
  cases o with
  | no => exact h.elim
  | ex x s => exact fun c d σ' H' B' R sb xr => h c d H' B' R.cf R.hd xr
  | ok f s =>
    cases f with
    | nx => exact fun σ' H' B' R sb => h .non H' B' R.cf R.hd (.d .non)
    | rt w => exact fun v σ' H' B' R sb r => h v H' B' R.cf R.hd r.rv
    | bk => exact h.elim
    | ct => exact h.elim
/-- a def of the text -/
structure DefT where
  fd : FnD
  qual : Str
  st : Stmt
  N : List Str
  ps : List Str
  body : Ts
  /-- it makes lambdas -/
  ml : Bool := false
abbrev Tab := Nat → Option DefT
def Pr (T : Tab) (f : Nat) : Option Fn := (T f).map fun d => ⟨d.N.length, d.fd.lk, d.fd.np, d.body⟩
structure Glo where
  T : Tab
  cls : Nat → Option (Str × Nat)
  cts : List (Str × Int)
  blts : List Str
  flds : List Str
  tcs : List (Str × List Int) := []
  eqs : Nat → Option Nat := fun _ => none
  /-- own exceptions' classes; the class that clauses name -/
  xs : List Str := []
  rg : Option Str := none
/-- a def to be called -/
def Glo.fn (G : Glo) (f : Nat) : Option FnD := match G.T f with
  | some d => if d.fd.np = lamNp then none else some d.fd
  | none => none
/-- a def that is handed lambdas -/
def Glo.lamN (G : Glo) (f : Nat) : Option Str := match G.T f with
  | some d => if d.fd.np = lamNp then some d.fd.name else none
  | none => none
theorem Glo.fn_of {G : Glo} {f : Nat} {F : FnD} (h : G.fn f = some F) : ∃ d, G.T f = some d ∧ d.fd = F ∧ d.fd.np ≠ lamNp := by
  unfold Glo.fn at h
  split at h
  · rename_i d e
    split at h
    · cases h
    · cases h
      exact ⟨d, e, rfl, by assumption⟩
  · cases h
theorem Glo.lam_of {G : Glo} {f : Nat} {n : Str} (h : G.lamN f = some n) : ∃ d, G.T f = some d ∧ d.fd.name = n ∧ d.fd.np = lamNp := by
  unfold Glo.lamN at h
  split at h
  · rename_i d e
    split at h
    · cases h
      exact ⟨d, e, rfl, by assumption⟩
    · cases h
  · cases h
def Glo.un0 (G : Glo) (d : DefT) : Un := { N := d.N, sc := defScope d.st, fnB := fun _ => true, fns := G.fn, cls := G.cls, cts := G.cts, blts := G.blts, flds := G.flds, tcs := G.tcs, eqs := G.eqs, tr := G.rg.isSome, xcl := fun c => G.xs[c]?, xn := G.xs.length, rg := G.rg, lam := fun g => if d.ml = true then G.lamN g else none }
def Glo.unL (G : Glo) (d : DefT) : Un := { G.un0 d with fns := fun _ => none, cls := fun _ => none, eqs := fun _ => none, lam := fun _ => none, act := d.ps[0]? }
/-- a def that calls what it is handed ahead of all: try: call() .. -/
def Glo.imm (G : Glo) (d : DefT) : Bool := match d.body, defBody d.st with
  | .cons (.try_ (.cons (.expr .act) .nil) i m h) r, x :: xs => tTryK (G.unL d) i m (chkTs (.cons (.expr .act) .nil) (G.unL d)) (chkTs h) x && chkTs r { G.unL d with act := none } xs
  | _, _ => false
def Glo.lim (G : Glo) (g : Nat) : Bool := match G.T g with
  | some d => G.imm d
  | none => false
def Glo.un (G : Glo) (d : DefT) : Un := { G.un0 d with lim := G.lim }
/-- a def compared -/
def Glo.chk (G : Glo) (d : DefT) : Bool := if d.fd.np = lamNp then chkTs d.body (G.unL d) (defBody d.st) && decide (d.ps.length = 1) && decide (d.qual = d.fd.name) && d.ps.all notDbg
  else chkTs d.body (G.un d) (defBody d.st) && decide (d.ps.length = d.fd.np + (if d.fd.lk then 1 else 0))
/-- the name of a def's lambdas -/
def lamQ (d : DefT) : Str := (d.qual ++ ".<locals>.") ++ "<lambda>"
/-- where it all lies -/
structure Txt (G : Glo) (K : PySem.W.Frag) (mg : Str → Option Value) (cA : Nat → Option Addr) (fA : Nat → Addr) (fdA : Nat → FuncData) (xA : XT := ⟨fun _ => 0, []⟩) (cs : List (Addr × Addr) := []) : Prop where
  fn : ∀ f d, G.T f = some d → Fun K d.fd.name d.qual d.st (fA f) (fdA f) ∧ Binds K (fdA f) d.ps []
  gl : ∀ f d, G.T f = some d → isMeth d.fd.name = false → mg d.fd.name = some (.ref (fA f))
  cl : ∀ c n f, G.cls c = some (n, f) → ∃ C0, cA c = some C0 ∧ mg n = some (.ref C0) ∧ Mk K C0 (fA f)
  cts : ∀ n i, (n, i) ∈ G.cts → ∃ t, mg n = some (.int i t)
  tcs : ∀ n ns, (n, ns) ∈ G.tcs → ∃ a, mg n = some (.ref a) ∧ KTp K a (ns.map V.int)
  blts : ∀ n, G.blts.contains n = true → mg n = none
  ck : ClsK K cA
  flds : ∀ f, G.flds.contains f = true → ∀ c C, cA c = some C → NoAttr K C f
  eqs : ∀ c f, G.eqs c = some f → ∃ C0, cA c = some C0 ∧ EqAt K C0 (fA f)
  rse : ∀ c n, G.xs[c]? = some n → mg n = some (.ref (xA.a c)) ∧ ExK K (xA.a c)
  hdl : ∀ r, G.rg = some r → ∃ cR, mg r = some (.ref cR) ∧ ∀ c, c < G.xs.length → PySem.W.exmOne K (.ref (xA.a c)) (.ref cR) = some true
  exs : G.rg.isSome = true → ∀ c, c < G.xs.length → ExcC K (xA.a c) ∧ PySem.W.kitOne K (.ref (xA.a c)) (.type "ValueError") = some true ∧ ∀ k n, G.xs[k]? = some n → PySem.W.kitOne K (.ref (xA.a c)) (.ref (xA.a k)) = some (decide (k = c))
  nmL : ∀ f d, G.T f = some d → d.fd.np = lamNp → isMeth d.fd.name = false
  tabs : ∀ f d, G.T f = some d → d.ml = true → ∃ c P, (fdA f).code = .ref c ∧ (c, P) ∈ cs ∧ (P, lamQ d) ∈ xA.T ∧ ∀ q ∈ xA.T, q.1 = P → q.2 = lamQ d
theorem spF_len {K : PySem.W.Frag} {cA : Nat → Option Addr} {xA : XT} {C : Calls} {f np : Nat} {lk : Bool} {n : Nat} (hn : n = np + (if lk then 1 else 0)) : ∀ vs H Q E, spF K cA xA C f lk np vs H Q E → vs.length = n := by
  rintro vs H Q E ⟨B, h, ds, hv, us, ha, sb, tb, rfl, e1, e2, r, hh, _⟩
  rw [List.length_append, ← r.length, e2, hn]
  cases h with
  | none =>
    cases e1
    rw [hh]
    simp
  | some d =>
    cases e1
    rw [hh.1]
    simp
    omega
/-! ### a def that is handed a lambda -/
theorem lam_rep {K : PySem.W.Frag} {cA : Nat → Option Addr} {xA : XT} {B H : Hp} {N : List Str} {f : Addr} (hN : 1 ≤ N.length) (sb : Sub B H) (tb : TabOk xA.T B H) : Rep ⟨K, cA, xA, nt H, B, fun _ => False, 1, fun _ => f⟩ B (FL.start N.length none []) (L2.start N [.ref f]) H where
  len := by
    unfold FL.start L2.start
    simp only [List.nil_append, List.length_append, List.length_map, List.length_replicate, List.map_nil, List.length_nil, List.length_cons]
    omega
  sub := sb
  fr := fun b x e _ => nt_some e
  dom := fun b e => e
  tab := tb
  b0 := Sub.refl B
  bn := fun b x e => .inl e
  dat := fun i d e => by
    unfold FL.start at e
    simp only [List.nil_append, List.map_nil] at e
    rw [show ([] : S).length = 0 from rfl, Nat.sub_zero] at e
    have := getS_rep (l := ([] : S)) (i := i) (k := N.length) (Nat.zero_le _)
    rw [List.nil_append] at this
    rw [this] at e
    cases e
  own := fun i d e => by
    unfold FL.start at e
    simp only [List.nil_append, List.map_nil] at e
    rw [show ([] : S).length = 0 from rfl, Nat.sub_zero] at e
    have := getS_rep (l := ([] : S)) (i := i) (k := N.length) (Nat.zero_le _)
    rw [List.nil_append] at this
    rw [this] at e
    cases e
  dis := fun i j d e' a e _ _ _ => by
    unfold FL.start at e
    simp only [List.nil_append, List.map_nil] at e
    rw [show ([] : S).length = 0 from rfl, Nat.sub_zero] at e
    have := getS_rep (l := ([] : S)) (i := i) (k := N.length) (Nat.zero_le _)
    rw [List.nil_append] at this
    rw [this] at e
    cases e
  lk0 := fun i e => by
    have z : (1 : Nat).testBit i = true := e
    rw [Nat.testBit_one_eq_true_iff_self_eq_zero] at z
    subst z
    exact start_σ rfl
theorem lam_gives {K : PySem.W.Frag} {mg : Str → Option Value} {G : Glo} {cA : Nat → Option Addr} {xA : XT} {fA : Nat → Addr} {fdA : Nat → FuncData} {cs : List (Addr × Addr)} (T : Txt G K mg cA fA fdA xA cs)
    (hs : ∀ f d, G.T f = some d → FnScope d.N d.ps (defScope d.st)) (hc : ∀ f d, G.T f = some d → G.chk d = true) {g : Nat} {d : DefT} (hd : G.T g = some d) (hl : d.fd.np = lamNp) {a : Str} (ea : d.ps = [a]) (k : Nat) {X : Cx} (x1 : X.K = K) (x2 : X.mg = mg) {q : Str} {cdv : Value} :
    GivesL X d.N d.fd.name (defScope d.st) (fA g) cdv (defBody d.st) a q (TTg K cA xA fun o => callF (Pr G.T) k g none (encO o)) := by
  intro f c' s H Q tl hgd hr act hco ⟨B, o, ho, sb, tb, cp, ht⟩
  cases k with
  | zero => exact cp.elim
  | succ k =>
    have SC := hs g d hd
    have hch := hc g d hd
    unfold Glo.chk at hch
    rw [if_pos hl] at hch
    simp only [Bool.and_eq_true] at hch
    obtain ⟨⟨⟨h1, h2⟩, h3⟩, h4⟩ := hch
    have hN1 : 1 ≤ d.N.length := by
      have := congrArg List.length SC.pre
      rw [List.length_take, ea] at this
      have z : min 1 d.N.length = 1 := this
      omega
    have hP : Pr G.T g = some ⟨d.N.length, d.fd.lk, d.fd.np, d.body⟩ := by unfold Pr; rw [hd]; rfl
    have c : Ctx (G.unL d) ⟨K, cA, xA, 1, fun _ _ _ _ => False, fun i => if i = 0 then some f else none, some (H, B), 0⟩ (aC (callF (Pr G.T) k) o) (gCx X d.N d.fd.name (defScope d.st) (fA g) cdv s H).nox := {
      hK := x1
      calm := fun _ => rfl
      N := rfl
      sc := rfl
      kind := SC.kind
      nd := SC.nd
      un := by have := hr.un; show (X.A.deeper (envOfC d.fd.name (defScope d.st) s.heap.objs.size (fA g) cdv)).units + 64 < cLine; omega
      un2 := by have := hr.un; show (X.A.deeper (envOfC d.fd.name (defScope d.st) s.heap.objs.size (fA g) cdv)).units + 120 < cLine; omega
      gd := noGd_deeper hgd
      fnB := fun _ _ => rfl
      tk := takes0
      fns := fun f F e => nomatch e
      mks := fun k n f F e => nomatch e
      cls := fun k n f e => nomatch e
      cts := by intro n i hi; rw [show (gCx X d.N d.fd.name (defScope d.st) (fA g) cdv s H).nox.mg = mg from x2]; exact T.cts n i hi
      tcs := by intro n i hi; rw [show (gCx X d.N d.fd.name (defScope d.st) (fA g) cdv s H).nox.mg = mg from x2]; exact T.tcs n i hi
      blts := by intro n hi; rw [show (gCx X d.N d.fd.name (defScope d.st) (fA g) cdv s H).nox.mg = mg from x2]; exact T.blts n hi
      ck := by rw [show (gCx X d.N d.fd.name (defScope d.st) (fA g) cdv s H).nox.K = K from x1]; exact T.ck
      flds := by rw [show (gCx X d.N d.fd.name (defScope d.st) (fA g) cdv s H).nox.K = K from x1]; exact T.flds
      eqs := fun k f F e => nomatch e
      rse := by rw [show (gCx X d.N d.fd.name (defScope d.st) (fA g) cdv s H).nox.K = K from x1, show (gCx X d.N d.fd.name (defScope d.st) (fA g) cdv s H).nox.mg = mg from x2]; exact T.rse
      hdl := by rw [show (gCx X d.N d.fd.name (defScope d.st) (fA g) cdv s H).nox.K = K from x1, show (gCx X d.N d.fd.name (defScope d.st) (fA g) cdv s H).nox.mg = mg from x2]; exact T.hdl
      fr := fun _ => ⟨rfl, rfl⟩
      exs := by rw [show (gCx X d.N d.fd.name (defScope d.st) (fA g) cdv s H).nox.K = K from x1]; exact T.exs
      xis := fun k y z => by rw [kXis_none rfl] at z; cases z
      act := fun W pn xe tk y z => by
        unfold kAct at z
        split at z
        · rename_i b p1 p2
          have e := of_decide_eq_true z
          have e' : d.ps[0]? = some b := e
          rw [ea] at e'
          cases e'
          exact (act W pn xe p1 p2 tk).imp fun σ H1 Q1 h => act_ok (p := ⟨K, cA, xA, 1, W, fun i => if i = 0 then some f else none, some (H, B), 0⟩) (show (if 0 = 0 then some f else none) = some f from if_pos rfl) (show (1 : Nat).testBit 0 = true by decide) rfl ht hco (un_no ho) h
        · cases z
      lam := fun g n z => nomatch z }
    refine ⟨_, sTs d.body c (fun e s z => z.elim) h1, ?_⟩
    refine ⟨⟨K, cA, xA, nt H, B, fun _ => False, 1, fun _ => f⟩, B, FL.start d.N.length none [], ⟨rfl, rfl, rfl, rfl, fun i a e => ?_, fun H0 B0 e => ?_⟩, lam_rep hN1 sb tb, ?_⟩
    · have e' : (if i = 0 then some f else none) = some a := e
      split at e'
      · exact Option.some.inj e'
      · cases e'
    · cases e
      exact ⟨rfl, fun b x e => ⟨e, fun z => z⟩⟩
    · have lkf : d.fd.lk = false := by
        cases e : d.fd.lk with
        | false => rfl
        | true => 
          unfold callF at cp
          rw [hP] at cp
          simp only at cp
          rw [if_neg (by rw [e]; rintro ⟨z, _⟩; cases z), if_neg (by rw [e]; rintro ⟨_, z, _⟩; cases z)] at cp
          exact cp.elim
      unfold callF at cp
      rw [hP] at cp
      simp only at cp
      have len2 : (encO o).length ≠ lamNp := by
        unfold encO lamNp
        split <;> exact (by simp)
      rw [if_neg (by rw [hl]; exact fun z => len2 z.2), if_pos ⟨hl, lkf, trivial⟩, ho] at cp
      have go : ∀ {o2 : Out FL.Flow}, CPost K cA xA B H false 0 (match o2 with
          | .ok (.rt v) _ => .ok v none
          | .ok .nx _ => .ok (.d .non) none
          | _ => .no) Q (fun _ _ _ => False) → PostS ⟨K, cA, xA, nt H, B, fun _ => False, 1, fun _ => f⟩ (fun _ _ _ _ => False) B o2 { nx := fun _ H' => Q .non H', rt := Q } := fun {o2} cp => by
        have cf : ∀ {s' : S} {σ' : L2.St} {B' H' : Hp}, Rep ⟨K, cA, xA, nt H, B, fun _ => False, 1, fun _ => f⟩ B' s' σ' H' → CF xA.T B H B' H' false 0 := fun {s' σ' B' H'} R => {
          sb := R.b0
          sub := R.sub
          fr := fun b x e _ => R.fr b x e (fun z => z)
          dom := R.dom
          tab := R.tab
          bn := fun b x e => by
            rcases R.bn b x e with z | z | z
            · exact .inl z
            · exact .inr (.inl z)
            · exact z.elim }
        cases o2 with
        | no => exact cp.elim
        | ex x s => exact cp.elim
        | ok f s =>
          cases f with
          | nx => exact fun σ' H' B' R sb => cp .non H' B' (cf R) (fun z => nomatch z) (.d .non)
          | rt w =>
            intro v σ' H' B' R sb r
            refine cp v H' B' (cf R) (fun z => nomatch z) ?_
            cases r with
            | d r => exact .d r
            | o ow ne =>
              refine .o ow.out ?_ ow.own
              rcases ow.mine with z | z
              · exact z
              · exact z.elim
          | bk => exact cp.elim
          | ct => exact cp.elim
      cases o with
      | no => exact cp.elim
      | ok _ _ => exact go cp
      | ex _ _ => exact go cp
/-- the way from what is raised to the clause -/
theorem try_as {p : Pm} {C : Calls} {Kx : PySem.W.Frag} {cR : Addr} {i m : Nat} {h : Ts} {Z : Zn} {B B' H' : Hp} {s1 : S} {σ' : L2.St} {D : Ends} {y : Exn} {c : Value} {d : Option Addr} {Wout : WX} (zo : ZOk p Z) (hl0 : p.lk.testBit i = false)
    (hx : ∀ c, c < m → PySem.W.exmOne Kx (.ref (p.xA.a c)) (.ref cR) = some true) (R' : Rep Z B' s1 σ' H') (sb' : Sub B B') (xr : XR Z B' H' y c d)
    (hh : PostS Z p.W B (if y.f.isNone = true ∧ i < s1.length ∧ y.c < m then (noEx (exs (xC C y) (p.lk ||| (1 <<< i)) h (s1.set i none))).bind fun f s2 => .ok f (s2.set i none) else .no) D) : wAs Kx (.ref cR) i (tHd p C i m h) Wout D c d σ' H' := by
  have zl : Z.lk.testBit i = false := by rw [zo.lk]; exact hl0
  split at hh
  rotate_left
  · exact hh.elim
  rename_i hq
  obtain ⟨xr1, xr2⟩ := xr
  have ed : d = none := by
    cases ef : y.f with
    | none => rw [ef] at xr2; exact xr2
    | some v => rw [ef] at hq; cases hq.1
  subst xr1 ed
  have hσ : i < σ'.length := by rw [← R'.len]; exact hq.2.1
  refine ⟨true, by rw [zo.xA]; exact hx _ hq.2.2, fun _ a na => ⟨y, hq.2.2, by rw [zo.xA], rfl, Z.lck i a, B', s1.set i none, lck_ok zo, (R'.setN zl hq.2.1).lock (List.getElem?_set_self hσ), ?_⟩, fun z => nomatch z⟩
  show PostS (Z.lck i a) _ B' (exs (xC C y) (p.lk ||| (1 <<< i)) h (s1.set i none)) _
  cases e2 : exs (xC C y) (p.lk ||| (1 <<< i)) h (s1.set i none) with
  | no => rw [e2] at hh; exact hh
  | ex _ _ => rw [e2] at hh; exact (show False from hh).elim
  | ok f s2 =>
    rw [e2] at hh
    have hh' : PostS Z p.W B (.ok f (s2.set i none)) D := hh
    have back : ∀ {σ2 : L2.St} {H2 B2 : Hp}, Rep (Z.lck i a) B2 s2 σ2 H2 → Rep Z B2 (s2.set i none) (σ2.set i none) H2 := fun {σ2 H2 B2} R2 => by
      by_cases hi2 : i < s2.length
      · exact (R2.unlock zl).setN zl hi2
      · have q1 : s2.set i none = s2 := List.set_eq_of_length_le (by omega)
        have q2 : σ2.set i none = σ2 := List.set_eq_of_length_le (by rw [← R2.len]; omega)
        rw [q1, q2]
        exact R2.unlock zl
    cases f with
    | nx => exact fun σ2 H2 B2 R2 sb2 => hh' _ H2 B2 (back R2) (sb'.trans sb2)
    | bk => exact fun σ2 H2 B2 R2 sb2 => hh' _ H2 B2 (back R2) (sb'.trans sb2)
    | ct => exact fun σ2 H2 B2 R2 sb2 => hh' _ H2 B2 (back R2) (sb'.trans sb2)
    | rt w => exact fun v σ2 H2 B2 R2 sb2 r2 => hh' v _ H2 B2 (back R2) (sb'.trans sb2) (r2.unlock zl)
theorem PostS.impN {Z : Zn} {W : WX} {B : Hp} {o : Out FL.Flow} {D : Ends} {n' : L2.St → Hp → Prop} (h : PostS Z W B o D) (hn : ∀ σ H, D.nx σ H → n' σ H) : PostS Z W B o { D with nx := n' } := by
  cases o with
  | ok a s' =>
    cases a with
    | nx => exact fun σ' H' B' r sb => hn _ _ (h σ' H' B' r sb)
    | bk => exact h
    | ct => exact h
    | rt w => exact h
  | ex x s' => exact h
  | no => exact h
/-- a lambda's def, its end -/
theorem lam_post {K : PySem.W.Frag} {cA : Nat → Option Addr} {xA : XT} {B H : Hp} {f : Addr} {Q : VK} {o2 : Out FL.Flow} (cp : CPost K cA xA B H false 0 (match o2 with
    | .ok (.rt v) _ => .ok v none
    | .ok .nx _ => .ok (.d .non) none
    | _ => .no) Q (fun _ _ _ => False)) : PostS ⟨K, cA, xA, nt H, B, fun _ => False, 1, fun _ => f⟩ (fun _ _ _ _ => False) B o2 { nx := fun _ H' => Q .non H', rt := Q } := by
  have cf : ∀ {s' : S} {σ' : L2.St} {B' H' : Hp}, Rep ⟨K, cA, xA, nt H, B, fun _ => False, 1, fun _ => f⟩ B' s' σ' H' → CF xA.T B H B' H' false 0 := fun {s' σ' B' H'} R => {
    sb := R.b0
    sub := R.sub
    fr := fun b x e _ => R.fr b x e (fun z => z)
    dom := R.dom
    tab := R.tab
    bn := fun b x e => by
      rcases R.bn b x e with z | z | z
      · exact .inl z
      · exact .inr (.inl z)
      · exact z.elim }
  cases o2 with
  | no => exact cp.elim
  | ex x s => exact cp.elim
  | ok f s =>
    cases f with
    | nx => exact fun σ' H' B' R sb => cp .non H' B' (cf R) (fun z => nomatch z) (.d .non)
    | rt w =>
      intro v σ' H' B' R sb r
      refine cp v H' B' (cf R) (fun z => nomatch z) ?_
      cases r with
      | d r => exact .d r
      | o ow ne =>
        refine .o ow.out ?_ ow.own
        rcases ow.mine with z | z
        · exact z
        · exact z.elim
    | bk => exact cp.elim
    | ct => exact cp.elim
theorem start_bare (n : Nat) : bare (FL.start n none []) = true := by
  unfold bare FL.start
  simp
theorem act_start {C : Calls} {o : CO} {n : Nat} : exs (aC C o) 1 (.cons (.expr .act) .nil) (FL.start n none []) = (match o with
    | .ok _ _ => .ok .nx (FL.start n none [])
    | .ex x _ => .ex x (FL.start n none [])
    | .no => .no) := by
  have e : ev (aC C o) 1 .act (FL.start n none []) = callD (aC C o) aNum [] (FL.start n none []) := by
    conv => lhs; unfold ev
    rw [start_bare]
    rfl
  have ea : aC C o aNum none [] = o := if_pos rfl
  rw [exs_cons]
  unfold ex
  rw [e]
  unfold callD
  rw [ea]
  cases o with
  | no => rfl
  | ex x h => rfl
  | ok v h => cases v <;> rfl
theorem lami_gives {K : PySem.W.Frag} {mg : Str → Option Value} {G : Glo} {cA : Nat → Option Addr} {xA : XT} {fA : Nat → Addr} {fdA : Nat → FuncData} {cs : List (Addr × Addr)} (T : Txt G K mg cA fA fdA xA cs)
    (hs : ∀ f d, G.T f = some d → FnScope d.N d.ps (defScope d.st)) {g : Nat} {d : DefT} (hd : G.T g = some d) (hl : d.fd.np = lamNp) (him : G.imm d = true) {a : Str} (ea : d.ps = [a]) (k : Nat) {X : Cx} (x1 : X.K = K) (x2 : X.mg = mg) {q : Str} {cdv : Value} :
    GivesL X d.N d.fd.name (defScope d.st) (fA g) cdv (defBody d.st) a q (TTi K cA xA fun o => callF (Pr G.T) k g none (encO o)) := by
  intro f c' s H Q tl hgd hr act hco ht
  have SC := hs g d hd
  have hN1 : 1 ≤ d.N.length := by
    have := congrArg List.length SC.pre
    rw [List.length_take, ea] at this
    have z : min 1 d.N.length = 1 := this
    omega
  have hP : Pr G.T g = some ⟨d.N.length, d.fd.lk, d.fd.np, d.body⟩ := by unfold Pr; rw [hd]; rfl
  have hci := him
  unfold Glo.imm at hci
  split at hci
  rotate_left
  · cases hci
  rename_i i m hdl r x xs eb ebd
  rw [Bool.and_eq_true] at hci
  obtain ⟨hc1, hc2⟩ := hci
  have c0 : ∀ o : CO, Ctx { G.unL d with act := none } ⟨K, cA, xA, 1, fun _ _ _ _ => False, fun i => if i = 0 then some f else none, none, 0⟩ (aC (callF (Pr G.T) (k - 1)) o) (gCx X d.N d.fd.name (defScope d.st) (fA g) cdv s H).nox := fun o => {
    hK := x1
    calm := fun _ => rfl
    N := rfl
    sc := rfl
    kind := SC.kind
    nd := SC.nd
    un := by have := hr.un; show (X.A.deeper (envOfC d.fd.name (defScope d.st) s.heap.objs.size (fA g) cdv)).units + 64 < cLine; omega
    un2 := by have := hr.un; show (X.A.deeper (envOfC d.fd.name (defScope d.st) s.heap.objs.size (fA g) cdv)).units + 120 < cLine; omega
    gd := noGd_deeper hgd
    fnB := fun _ _ => rfl
    tk := takes0
    fns := fun f F e => nomatch e
    mks := fun k n f F e => nomatch e
    cls := fun k n f e => nomatch e
    cts := by intro n i hi; rw [show (gCx X d.N d.fd.name (defScope d.st) (fA g) cdv s H).nox.mg = mg from x2]; exact T.cts n i hi
    tcs := by intro n i hi; rw [show (gCx X d.N d.fd.name (defScope d.st) (fA g) cdv s H).nox.mg = mg from x2]; exact T.tcs n i hi
    blts := by intro n hi; rw [show (gCx X d.N d.fd.name (defScope d.st) (fA g) cdv s H).nox.mg = mg from x2]; exact T.blts n hi
    ck := by rw [show (gCx X d.N d.fd.name (defScope d.st) (fA g) cdv s H).nox.K = K from x1]; exact T.ck
    flds := by rw [show (gCx X d.N d.fd.name (defScope d.st) (fA g) cdv s H).nox.K = K from x1]; exact T.flds
    eqs := fun k f F e => nomatch e
    rse := by rw [show (gCx X d.N d.fd.name (defScope d.st) (fA g) cdv s H).nox.K = K from x1, show (gCx X d.N d.fd.name (defScope d.st) (fA g) cdv s H).nox.mg = mg from x2]; exact T.rse
    hdl := by rw [show (gCx X d.N d.fd.name (defScope d.st) (fA g) cdv s H).nox.K = K from x1, show (gCx X d.N d.fd.name (defScope d.st) (fA g) cdv s H).nox.mg = mg from x2]; exact T.hdl
    fr := fun _ => ⟨rfl, rfl⟩
    exs := by rw [show (gCx X d.N d.fd.name (defScope d.st) (fA g) cdv s H).nox.K = K from x1]; exact T.exs
    xis := fun k y z => by rw [kXis_none rfl] at z; cases z
    act := fun _ _ _ _ y z => by rw [kAct_none rfl] at z; cases z
    lam := fun g n z => nomatch z }
  unfold tTryK at hc1
  split at hc1
  rotate_left
  · cases hc1
  rename_i body r' np n b0 suite pos' pos
  simp only [Bool.and_eq_true] at hc1
  obtain ⟨⟨⟨⟨⟨⟨⟨⟨h1, h0⟩, h2⟩, h3⟩, h4⟩, h5⟩, h6⟩, h7⟩, h8⟩ := hc1
  have e0 := of_decide_eq_true h0
  subst e0
  have hx : (G.unL d).xi = none := by simpa using h2
  obtain ⟨g1, g2⟩ := (c0 .no).gl (show Un.gl { G.unL d with act := none } r' = true from h4)
  obtain ⟨cR, m1, m2⟩ := (c0 .no).hdl r' (of_decide_eq_true h3)
  obtain ⟨f1, f2⟩ := (c0 .no).fr h1
  have l := isK_of h6
  unfold kd at l
  rw [← (c0 .no).sc] at l
  have nd : ((gCx X d.N d.fd.name (defScope d.st) (fA g) cdv s H).nox).N.Nodup := by rw [(c0 .no).N]; exact (c0 .no).nd
  unfold chkTs tConsK at h7
  split at h7
  rotate_left
  · cases h7
  rename_i st rest
  rw [Bool.and_eq_true] at h7
  obtain ⟨h7, h9⟩ := h7
  unfold chkTs tNilK at h9
  split at h9
  rotate_left
  · cases h9
  unfold chkT tExprK at h7
  split at h7
  rotate_left
  · cases h7
  rename_i y ypos
  rw [Bool.and_eq_true] at h7
  obtain ⟨h10, h7⟩ := h7
  unfold chkE kAct at h7
  split at h7
  rotate_left
  · cases h7
  rename_i b' p1 p2
  have e := of_decide_eq_true h7
  have e' : d.ps[0]? = some b' := e
  rw [ea] at e'
  cases e'
  have hpo : ∀ {e : Value} {s : Shared}, False → False := fun z => z
  -- the try
  have T1 := ps_try_as (X := (gCx X d.N d.fd.name (defScope d.st) (fA g) cdv s H).nox) (c := .ref cR) (x := r') (n := n) (np := np) (pos := pos) (pos' := pos') (i := i) (body := [.Expr (.Call (.Name a p1) [] [] p2) ypos]) (b₀ := b0) (suite := suite) (Wout := fun _ _ _ _ => False)
    (tb := fun W => tSeq (tDrop fun σZ HZ Q => σZ[0]? = some (some (.ref f)) ∧ HZ c' = some (LamX.CodeO c' q) ∧ tl (WE W σZ) HZ Q) tNext)
    (ts := fun b cls dd D σ H => ∃ o, tHd ⟨K, cA, xA, 1, fun _ _ _ _ => False, fun i => if i = 0 then some f else none, none, 0⟩ (aC (callF (Pr G.T) (k - 1)) o) i (G.unL d).xn hdl b cls dd D σ H)
    f1 f2 nd (by rw [(c0 .no).N]; exact of_decide_eq_true h5) l ⟨g1, g2, .inl m1⟩ takes0 (fun W pn xe tk po => pss_cons (ps_expr (act W pn xe p1 p2 tk) (swaps_no (by simpa using h10))) pss_nil)
    (fun b oe cls dd pn hz hfl => ⟨fun pins s σ H D I ⟨o, y, em, ec, ed, hy⟩ => by
      subst ec ed
      exact (sTs hdl ((c0 o).suc h1 hz hfl em) (fun e s z => z.elim) h8).run pins s σ H D I hy⟩)
  have T2 : PSs (gCx X d.N d.fd.name (defScope d.st) (fA g) cdv s H).nox xs (fun D σ H => ∃ o, tSs ⟨K, cA, xA, 1, fun _ _ _ _ => False, fun i => if i = 0 then some f else none, none, 0⟩ (aC (callF (Pr G.T) (k - 1)) o) r D σ H) :=
    ⟨fun pins s σ H D I ⟨o, hy⟩ => (sTs r (c0 o) (fun e s z => z.elim) hc2).run pins s σ H D I hy⟩
  have red : ∀ (o : CO) (B2 H2 : Hp), unL (encO o) = o → o ≠ .no → CPost K cA xA B2 H2 false 0 (callF (Pr G.T) k g none (encO o)) Q (fun _ _ _ => False) →
      PostS ⟨K, cA, xA, nt H2, B2, fun _ => False, 1, fun _ => f⟩ (fun _ _ _ _ => False) B2 (exs (aC (callF (Pr G.T) (k - 1)) o) 1 d.body (FL.start d.N.length none [])) { nx := fun _ H' => Q .non H', rt := Q } := by
    intro o B2 H2 ho hno cp
    cases k with
    | zero => exact cp.elim
    | succ k =>
      have lkf : d.fd.lk = false := by
        cases e : d.fd.lk with
        | false => rfl
        | true =>
          unfold callF at cp
          rw [hP] at cp
          simp only at cp
          rw [if_neg (by rw [e]; rintro ⟨z, _⟩; cases z), if_neg (by rw [e]; rintro ⟨_, z, _⟩; cases z)] at cp
          exact cp.elim
      unfold callF at cp
      rw [hP] at cp
      simp only at cp
      have len2 : (encO o).length ≠ lamNp := by
        unfold encO lamNp
        split <;> exact (by simp)
      rw [if_neg (by rw [hl]; exact fun z => len2 z.2), if_pos ⟨hl, lkf, trivial⟩, ho] at cp
      cases o with
      | no => exact absurd rfl hno
      | ok _ _ => exact lam_post cp
      | ex _ _ => exact lam_post cp
  have zk : ∀ (B2 H2 : Hp), ZOk ⟨K, cA, xA, 1, fun _ _ _ _ => False, fun i => if i = 0 then some f else none, none, 0⟩ ⟨K, cA, xA, nt H2, B2, fun _ => False, 1, fun _ => f⟩ := fun B2 H2 => ⟨rfl, rfl, rfl, rfl, (fun i a e => by
    have e' : (if i = 0 then some f else none) = some a := e
    split at e'
    · exact Option.some.inj e'
    · cases e'), fun _ _ z => nomatch z⟩
  rw [ebd]
  refine ⟨_, pss_cons T1 T2, ?_⟩
  refine ⟨rfl, hco, ht _ _ (fun dv v H2 B2 sb tb rd cp => ?_) (fun y c dd H2 B2 yf sb tb xr cp => ?_)⟩
  · refine ⟨.ok (.d dv) none, ⟨K, cA, xA, nt H2, B2, fun _ => False, 1, fun _ => f⟩, B2, FL.start d.N.length none [], zk B2 H2, lam_rep hN1 sb tb, ?_⟩
    have hh := red _ B2 H2 (un_ok dv) (fun z => nomatch z) cp
    rw [eb, exs_cons] at hh
    unfold ex at hh
    split at hh
    · exact hh.elim
    · rw [act_start] at hh
      exact hh
  · have hh := red (.ex y none) B2 H2 (un_ex yf) (fun z => nomatch z) cp
    rw [eb, exs_cons] at hh
    replace hh := hh.seq (zk B2 H2)
    unfold ex at hh
    split at hh
    · exact hh.elim
    · rename_i hl1
      rw [act_start] at hh
      have hh2 := hh.impN (n' := fun σ H => ∃ o, tSs ⟨K, cA, xA, 1, fun _ _ _ _ => False, fun i => if i = 0 then some f else none, none, 0⟩ (aC (callF (Pr G.T) (k - 1)) o) r { nx := fun _ H' => Q .non H', rt := Q } σ H) (fun σ H q => ⟨_, q⟩)
      obtain ⟨bb, w1, w2, w3⟩ := try_as (Kx := (gCx X d.N d.fd.name (defScope d.st) (fA g) cdv s H).nox.K) (cR := cR) (Wout := fun _ _ _ _ => False) (σ' := L2.start d.N [.ref f]) (H' := H2) (B' := B2) (c := c) (d := dd) (zk B2 H2) (by simpa using hl1) m2 (lam_rep hN1 sb tb) (Sub.refl B2) (by
        unfold XRc at xr
        exact xr) hh2
      exact ⟨bb, w1, fun q a n => ⟨_, w2 q a n⟩, w3⟩
theorem okDefs {P : Program} {w : World} {K : PySem.W.Frag} {mg : Str → Option Value} {base : Heap} {G : Glo} {cA : Nat → Option Addr} {xA : XT} {fA : Nat → Addr} {fdA : Nat → FuncData} {cs : List (Addr × Addr)} (X : Txt G K mg cA fA fdA xA cs) (hTB : ∀ p ∈ cs, LamX.TabB base mg p.1 p.2)
    (hs : ∀ f d, G.T f = some d → FnScope d.N d.ps (defScope d.st)) (hc : ∀ f d, G.T f = some d → G.chk d = true) :
    ∀ (k f : Nat) (d : DefT), G.T f = some d → d.fd.np ≠ lamNp → FnG P w K mg base (4 * k) (fA f) (fdA f) d.ps (spF K cA xA (callF (Pr G.T) k) f d.fd.lk d.fd.np) := by
  intro k
  induction k with
  | zero =>
    intro f d hd hnl
    have hch := hc f d hd
    unfold Glo.chk at hch
    rw [if_neg hnl, Bool.and_eq_true] at hch
    refine ⟨spF_len (of_decide_eq_true hch.2), fun A outer s H args us vs Q E hr hgd he hb hv hsp => ?_⟩
    obtain ⟨B, h, ds, hv, us, ha, sb, tb, rfl, e1, e2, r, hh, z⟩ := hsp
    exact z.elim
  | succ k ih =>
    intro f d hd hnl
    have hch := hc f d hd
    unfold Glo.chk at hch
    rw [if_neg hnl, Bool.and_eq_true] at hch
    obtain ⟨h1, h2⟩ := hch
    obtain ⟨F, bF⟩ := X.fn f d hd
    have S := hs f d hd
    refine okG (k := 4 * k + 3) F S (spF_len (of_decide_eq_true h2)) fun cdv A outer s H vs Q E hcode hr hgd hsp => ?_
    obtain ⟨B, h, ds, hv, us, ha, sb, tb, rfl, e1, e2, r, hh, cp⟩ := hsp
    have hP : Pr G.T f = some ⟨d.N.length, d.fd.lk, d.fd.np, d.body⟩ := by unfold Pr; rw [hd]; rfl
    have hr1 : Room (4 * k + 1) (A.deeper (envOfC d.qual (defScope d.st) s.heap.objs.size (fA f) cdv)) := hr.mono (by omega)
    have c : Ctx (G.un d) ⟨K, cA, xA, ln d.fd.lk, fun cls dd _ H => E cls dd H, fun _ => none, none, 4 * k⟩ (callF (Pr G.T) k) (cxOf (L2.CX P w) P w K mg base d.N d.qual (defScope d.st) (fA f) cdv A outer s H E) := {
      hK := rfl
      calm := fun _ => rfl
      N := rfl
      sc := rfl
      kind := S.kind
      nd := S.nd
      un := hr.units
      gd := hgd
      un2 := by have := hr.un; show (A.deeper (envOfC d.qual (defScope d.st) s.heap.objs.size (fA f) cdv)).units + 120 < cLine; omega
      fnB := fun _ _ => rfl
      tk := takes_of rfl rfl rfl rfl
      fns := fun g F0 eg en => by
        obtain ⟨d', e, rfl, nl⟩ := Glo.fn_of eg
        exact ⟨fA g, ⟨⟨fdA g, d'.ps, ih g d' e nl, hr1, (X.fn g d' e).2⟩⟩, X.gl g d' e en, (X.fn g d' e).1.kp⟩
      mks := fun cc n g F0 ec eg => by
        obtain ⟨d', e, rfl, nl⟩ := Glo.fn_of eg
        obtain ⟨C0, c1, c2, c3⟩ := X.cl cc n g ec
        exact ⟨fA g, C0, ⟨⟨fdA g, d'.ps, ih g d' e nl, hr1, (X.fn g d' e).2⟩⟩, c1, c3⟩
      cls := fun cc n g ec => by
        obtain ⟨C0, c1, c2, c3⟩ := X.cl cc n g ec
        exact ⟨C0, c1, c2⟩
      cts := X.cts
      tcs := X.tcs
      blts := X.blts
      ck := X.ck
      flds := X.flds
      eqs := fun cc g F0 ec eg => by
        obtain ⟨d', e, rfl, nl⟩ := Glo.fn_of eg
        obtain ⟨C0, c1, c2⟩ := X.eqs cc g ec
        exact ⟨fA g, C0, ⟨⟨fdA g, d'.ps, ih g d' e nl, hr1, (X.fn g d' e).2⟩⟩, c1, c2⟩
      rse := X.rse
      hdl := X.hdl
      fr := fun _ => ⟨rfl, rfl⟩
      exs := X.exs
      xis := fun k y z => by rw [kXis_none rfl] at z; cases z
      act := fun _ _ _ _ y z => by rw [kAct_none rfl] at z; cases z
      lam := fun g n z => by
        have z' : (if d.ml = true then G.lamN g else none) = some n := z
        split at z'
        rotate_left
        · cases z'
        rename_i hmk
        obtain ⟨d', e, rfl, nl⟩ := Glo.lam_of z'
        obtain ⟨cA', PA', t1, t2, t3, t4⟩ := X.tabs f d hd hmk
        have hch := hc g d' e
        unfold Glo.chk at hch
        rw [if_pos nl] at hch
        simp only [Bool.and_eq_true] at hch
        obtain ⟨⟨⟨q1, q2⟩, q3⟩, q4⟩ := hch
        obtain ⟨a, ea⟩ := List.length_eq_one_iff.mp (of_decide_eq_true q2)
        obtain ⟨F', bF'⟩ := X.fn g d' e
        have S' := hs g d' e
        have kp := F'.kp
        obtain ⟨oc, od, kV, doc, pm, an, cdv', ct, osl, efd, lk, hcd⟩ := F'.ex
        rw [of_decide_eq_true q3] at efd hcd
        rw [efd] at lk bF'
        rw [ea] at bF' S' q4
        have nm : isMeth d'.fd.name = false := X.nmL g d' e nl
        have hN0 : d'.N[0]? = some a := by
          have := S'.pre
          have z : d'.N.take 1 = [a] := this
          cases eN : d'.N with
          | nil => rw [eN] at z; cases z
          | cons u us => rw [eN] at z; cases z; rfl
        have va : Vis (defScope d'.st) a := by
          rcases S'.par a (List.mem_singleton.mpr rfl) with z | z
          · exact .inl z
          · exact .inr (.inl z)
        have nd := notDbg_of (n := a) (by rw [List.all_cons, Bool.and_eq_true] at q4; exact q4.1)
        have S2 := hs g d' e
        have eQ : lamQ d = (cxOf (L2.CX P w) P w K mg base d.N d.qual (defScope d.st) (fA f) cdv A outer s H E).env.qual ++ "<lambda>" := rfl
        rw [eQ] at t3 t4
        exact ⟨⟨a, fA g, cA', PA', _, _, _, _, _, _, _, _, _, _, _, _, _, d'.N, X.gl g d' e nm, kp, lk, hcd, bF', S', hN0, va, lam_gives X hs hc e nl ea k rfl rfl, (fun him => lami_gives X hs e nl (by have him' : G.lim g = true := him; unfold Glo.lim at him'; rw [e] at him'; exact him') ea k rfl rfl), hTB _ t2, hcode.symm.trans t1, t3, t4, nd.1, nd.2⟩, hr⟩ }
    refine ⟨_, sTs d.body c (passes_of (K := fun e s'' => L2.CX P w outer H s E e s'') rfl) h1, ?_⟩
    unfold callF at cp
    rw [hP] at cp
    simp only at cp
    rw [if_pos ⟨e1, e2⟩] at cp
    cases h with
    | none =>
      have hlk : d.fd.lk = false := e1.symm
      subst hh
      refine ⟨body0 K cA xA B H d.fd.lk ha, B, FL.start d.N.length none ds, ⟨rfl, rfl, rfl, rfl, (fun _ _ z => nomatch z), (fun _ _ z => nomatch z)⟩, ?_, body_post rfl cp⟩
      rw [hlk, List.nil_append]
      exact start_rep0 sb tb r ha
    | some h =>
      have hlk : d.fd.lk = true := e1.symm
      obtain ⟨rfl, hB, ow⟩ := hh
      refine ⟨body0 K cA xA B H d.fd.lk ha, B, FL.start d.N.length (some h) ds, ⟨rfl, rfl, rfl, rfl, (fun _ _ z => nomatch z), (fun _ _ z => nomatch z)⟩, ?_, body_post rfl cp⟩
      rw [hlk]
      exact start_rep1 sb tb r hB ow
end FL

set_option maxHeartbeats 1000000
/-! FS, part 18: a law. -/
namespace FL
open PySem PySem.Spec PyProof.Rows L2
def spLaw (n : Nat) (K : PySem.W.Frag) (T : List (Addr × Str)) : Sp := fun vs H Q _ => ∃ (a : Addr) (ns : List Int), vs = [.ref a] ∧ SqL K H a (ns.map V.int) ∧ (∀ q ∈ T, H q.1 = some (.tbl #[])) ∧ ns.length ≤ n ∧ (∀ z ∈ ns, Builtin.Int.intBits z ≤ 1048576) ∧ ∀ H', Q (.bl true) H'
theorem RDs_ints {K : PySem.W.Frag} {cA : Nat → Option Addr} {B : Hp} : ∀ ns : List Int, RDs K cA B (ns.map D.int) (ns.map V.int)
  | [] => .nil
  | n :: ns => .cons (.int n) (RDs_ints ns)
theorem SqL_nt {K : PySem.W.Frag} {H : Hp} {a : Addr} {xs : List V} (h : SqL K H a xs) : SqL K (nt H) a xs := by
  rcases h with (h | ⟨o, h⟩) | h
  · exact .inl (.inl (nt_of h fun ps z => nomatch z))
  · exact .inl (.inr ⟨o, nt_of h fun ps z => nomatch z⟩)
  · exact .inr h
theorem law_sp {G : Glo} {n k f0 : Nat} (hlaw : ∀ ns : List Int, ns.length ≤ n → (∀ z ∈ ns, Builtin.Int.intBits z ≤ 1048576) → ∃ ho, callF (Pr G.T) k f0 none [.fz (ns.map D.int)] = .ok (.d (.bl true)) ho) {K : PySem.W.Frag} {cA : Nat → Option Addr} {xA : XT} (vs : List V) (H : Hp) (Q : VK) (E : XK) (h : spLaw n K xA.T vs H Q E) :
    spF K cA xA (callF (Pr G.T) k) f0 false 1 vs H Q E := by
  obtain ⟨a, ns, rfl, hS, hT, hl, hb, q⟩ := h
  obtain ⟨ho, e⟩ := hlaw ns hl hb
  refine ⟨nt H, none, [.fz (ns.map D.int)], [], [.ref a], 0, fun b x e => nt_some e, ⟨fun b ps e => nt_no e ps rfl, fun q hq => LamX.TabS.nil (hT q hq)⟩, rfl, rfl, rfl, .cons (.fz (SqL_nt hS) (RDs_ints ns)) .nil, rfl, ?_⟩
  rw [e]
  intro v H' B' _ _ r
  cases r with
  | d r => rw [r.bl_inv]; exact q H'
/-- a law's end; cs: the code objects of the defs that make lambdas, and their tables -/
theorem walkG {l : PySem.W.OpenLaw} {q : Program} {loose : List Str} {XP : (Str → Option Value) → Heap → Prop} {YP : World → Heap → Prop} {d : DefRec} {K : Params → PySem.W.Frag} {n : Nat} (G : Glo) (f0 : Nat) (D0 : DefT) (hD : G.T f0 = some D0) (h0 : D0.fd.lk = false) (h1 : D0.fd.np = 1) (hp : D0.ps = [("script" : Str)]) (k : Nat)
    (hn : l.most = some n) (hn2 : n ≤ sizeLine) (hdf : d.params.defaults = []) (hr : Room (4 * k) callerA) (hY : ∀ (w : World) (h : Heap), YP w h → (K w.params).In h)
    (hs : ∀ f d, G.T f = some d → FnScope d.N d.ps (defScope d.st)) (hc : ∀ f d, G.T f = some d → G.chk d = true)
    (hlaw : ∀ ns : List Int, ns.length ≤ n → (∀ z ∈ ns, Builtin.Int.intBits z ≤ 1048576) → ∃ ho, callF (Pr G.T) k f0 none [.fz (ns.map D.int)] = .ok (.d (.bl true)) ho)
    (F : ∀ (w : World) (mg : Str → Option Value) (fa : Addr) (h : Heap), (K w.params).In h → h.Ns mainGlobals mg → mg d.name = some (.ref fa) → (∀ (e : DefRec) (x : Str) (c P : Addr), (recsOf q).find? (fun e => e.name == x) = some e → PySem.W.tabIn (K w.params) x = some (c, P) → PySem.W.CodeHd h c P ∧ h.get? P = some tab0) →
      ∃ (cA : Nat → Option Addr) (fA : Nat → Addr) (fdA : Nat → FuncData) (xA : XT) (cs : List (Addr × Addr)), Txt G (K w.params) mg cA fA fdA xA cs ∧ fA f0 = fa ∧ (∀ (s : Shared) (u : Value), BindsTo s (fdA f0) ⟨[u], []⟩ [("script", u)]) ∧
        (∀ p ∈ cs, h.get? p.2 = some tab0 ∧ (K w.params).lookup p.2 = none ∧ PySem.W.CodeHd h p.1 p.2) ∧ ∀ q ∈ xA.T, ∃ p ∈ cs, p.2 = q.1) :
    PySem.W.WalkO q loose XP YP l.row.toRowW d [] (fun f vs => PySem.call f vs) := by
  refine Att.attach_callB hn hdf fun w s0 s1 mg mb fa o pm cd doc a vs ns G0 Y ho hd hcd hmg hobj hints hlen hbits hg => ?_
  have KX := hY w _ Y
  obtain ⟨cA, fA, fdA, xA, cs, X, e, hb, hcs, hTs⟩ := F w mg fa _ KX G0.T.g hmg fun e x c P h1 h2 => PySem.W.tab_of G0.T KX h1 h2
  refine law_callTG (sp := spLaw n (K w.params) xA.T) (cs := cs) KX G0.T.g G0.T.b G0.T.builtins G0.T.nolimit hg (fun p hp => (hcs p hp).1) (fun p hp => (hcs p hp).2.1) (fun p hp => (hcs p hp).2.2) G0.T.bmain hobj hints (Nat.le_trans hlen hn2) hr (fun base hB hG hTB => ?_) hb (fun H hO hS => ⟨a, ns, rfl, hS, fun q hq => ?_, hlen, hbits, fun _ => rfl⟩) (fun H e s' z => ?_)
  · have g := okDefs (P := l.prog) (w := w) (base := base) X hTB hs hc k f0 D0 hD (by rw [h1]; decide)
    rw [h0, h1, hp, e] at g
    exact g.weak fun vs H Q E hsp => law_sp hlaw vs H Q E hsp
  · obtain ⟨p, hp, eq⟩ := hTs q hq
    rw [← eq]
    exact hO p hp
  · obtain ⟨_, _, _, _, _, _, _, _, _, _, _, _, z⟩ := z
    exact z
theorem tabIn_of {K : PySem.W.Frag} {x nm qual : Str} {f c P : Addr} {oc : Value} {od an : Option Addr} {params : Arguments} {body : List Stmt} {sc : Scope} {dV kV doc pm cd ct : Value} {sl : Array (Option Value)} {oC : Value} {dC : Option Addr} {vC : Array Value} {sC : Array (Option Value)}
    (a : PySem.W.nsIn K mainGlobals x = some (some (.ref f))) (l : K.lookup f = some ⟨oc, od, .func (PySem.W.fnOf nm qual params body sc dV kV doc pm an cd ct), sl⟩) (cv : cd = .ref c) (tl : K.lookup c = some ⟨oC, dC, .fields vC, sC⟩) (tv : (vC[11]? : Option Value) = some (.ref P)) : PySem.W.tabIn K x = some (c, P) := by
  subst cv
  unfold PySem.W.tabIn
  rw [a]
  simp only
  rw [l]
  show (match K.lookup c with
        | some ⟨_, _, .fields vs, _⟩ => (match (vs[11]? : Option Value) with
          | some (.ref P) => some (c, P)
          | _ => none)
        | _ => none) = some (c, P)
  rw [tl]
  simp only
  rw [tv]
theorem kit_ref {K : PySem.W.Frag} {t b : Value} {C : Addr} {v r : Bool} (ne : (t == .ref C) = false) (cs : PySem.W.mroIn K C b = some r) (ty : PySem.W.typeIn K (.ref C) = some (.type "type")) (su : PySem.W.subIn K t (.ref C) = some v) : PySem.W.kitOne K t (.ref C) = some v := by
  have hc : (PySem.W.clsIn K C).isSome = true := by
    unfold PySem.W.mroIn at cs
    cases e : PySem.W.clsIn K C with
    | none => rw [e] at cs; cases cs
    | some _ => rfl
  unfold PySem.W.kitOne
  rw [ne]
  show (if ((PySem.W.clsIn K C).isSome && PySem.W.typeIn K (.ref C) == some (.type "type")) = true then PySem.W.subIn K t (.ref C) else none) = _
  rw [hc, ty, if_pos (by decide), su]
theorem kit_self {K : PySem.W.Frag} {C : Addr} : PySem.W.kitOne K (.ref C) (.ref C) = some true := if_pos (beq_self_eq_true _)
theorem kit_typ {K : PySem.W.Frag} {C : Addr} {n : String} {v : Bool} (hm : PySem.W.kitMeta n = true) (m : PySem.W.mroIn K C (.type n) = some v) : PySem.W.kitOne K (.ref C) (.type n) = some v := by
  unfold PySem.W.kitOne
  rw [if_neg (by intro z; cases z)]
  show (if PySem.W.kitMeta n = true then PySem.W.subIn K (.ref C) (.type n) else none) = _
  rw [if_pos hm]
  exact m
theorem kit_other {K : PySem.W.Frag} {C D : Addr} (cs : PySem.W.mroIn K D (.ref D) = some true) (ty : PySem.W.typeIn K (.ref D) = some (.type "type")) (m : PySem.W.mroIn K C (.ref D) = some false) : PySem.W.kitOne K (.ref C) (.ref D) = some false := by
  refine kit_ref ?_ cs ty m
  cases e : (Value.ref C == Value.ref D) with
  | false => rfl
  | true =>
    have e' : Value.ref C = Value.ref D := eq_of_beq e
    cases e'
    rw [cs] at m
    cases m
end FL

/-! FLE: running the functional reading: while, calls, comprehensions. -/
namespace FL
open PySem
theorem whileN_more {t : S → Out Bool} {b : S → Out Flow} : ∀ (n : Nat) (s : S), ¬ (whileN t b n s).isNo → whileN t b (n + 1) s = whileN t b n s
  | 0, s, h => absurd trivial h
  | n + 1, s, h => by
    have ih := whileN_more (t := t) (b := b) n
    unfold whileN at h ⊢
    cases e : t s with
    | no => rfl
    | ex x s1 => rfl
    | ok c s1 =>
      rw [e] at h
      simp only [Out.bind] at h ⊢
      cases c with
      | false => rfl
      | true =>
        simp only [if_true] at h ⊢
        cases e2 : b s1 with
        | no => rfl
        | ex x s2 => rfl
        | ok f s2 =>
          rw [e2] at h
          cases f with
          | nx => exact ih s2 h
          | ct => exact ih s2 h
          | bk => rfl
          | rt v => rfl
theorem whileN_le {t : S → Out Bool} {b : S → Out Flow} {n m : Nat} {s : S} (h : ¬ (whileN t b n s).isNo) (hm : n ≤ m) : whileN t b m s = whileN t b n s := by
  induction m with
  | zero => cases Nat.le_zero.mp hm; rfl
  | succ m ih =>
    rcases Nat.lt_or_ge m n with q | q
    · have : n = m + 1 := Nat.le_antisymm hm q
      rw [this]
    · rw [whileN_more m s (by rw [ih q]; exact h), ih q]
theorem whileL_of {t : S → Out Bool} {b : S → Out Flow} {n : Nat} {s : S} (h : ¬ (whileN t b n s).isNo) : whileL t b s = whileN t b n s := by
  unfold whileL
  have hx : ∃ n, ¬ (whileN t b n s).isNo := ⟨n, h⟩
  rw [dif_pos hx]
  rcases Nat.le_total n hx.choose with q | q
  · exact whileN_le h q
  · exact (whileN_le hx.choose_spec q).symm
theorem whileL_no {t : S → Out Bool} {b : S → Out Flow} {s : S} (h : ∀ n, (whileN t b n s).isNo) : whileL t b s = .no := by
  unfold whileL
  rw [dif_neg]
  rintro ⟨n, q⟩
  exact q (h n)
theorem isNo_no {α : Type} {o : Out α} (h : o.isNo) : o = .no := by
  cases o with
  | no => rfl
  | ok _ _ => exact h.elim
  | ex _ _ => exact h.elim
def wStep (t : S → Out Bool) (b : S → Out Flow) (k : S → Out Flow) (s : S) : Out Flow := (t s).bind fun c s1 => if c = true then (b s1).bind fun f s2 => match f with
      | .nx => k s2
      | .ct => k s2
      | .bk => .ok .nx s2
      | .rt v => .ok (.rt v) s2
    else .ok .nx s1
theorem wStep_more {t : S → Out Bool} {b : S → Out Flow} {k k' : S → Out Flow} {s : S} (h : ∀ z, ¬ (k z).isNo → k' z = k z) (hn : ¬ (wStep t b k s).isNo) : wStep t b k' s = wStep t b k s := by
  unfold wStep at hn ⊢
  cases e : t s with
  | no => rfl
  | ex x s1 => rfl
  | ok c s1 =>
    rw [e] at hn
    simp only [Out.bind] at hn ⊢
    cases c with
    | false => rfl
    | true =>
      simp only [if_true] at hn ⊢
      cases e2 : b s1 with
      | no => rfl
      | ex x s2 => rfl
      | ok f s2 =>
        rw [e2] at hn
        cases f with
        | nx => exact h _ hn
        | ct => exact h _ hn
        | bk => rfl
        | rt v => rfl
theorem whileL_eq (t : S → Out Bool) (b : S → Out Flow) (s : S) : whileL t b s = wStep t b (whileL t b) s := by
  have up : ∀ n, whileN t b (n + 1) s = wStep t b (whileN t b n) s := fun n => rfl
  have low : ∀ n z, ¬ (whileN t b n z).isNo → whileL t b z = whileN t b n z := fun n z h => whileL_of h
  by_cases hx : ∃ n, ¬ (whileN t b n s).isNo
  · obtain ⟨n, hn⟩ := hx
    cases n with
    | zero => exact absurd trivial hn
    | succ n =>
      rw [whileL_of hn, up n]
      rw [up n] at hn
      exact (wStep_more (low n) hn).symm
  · have h : ∀ n, (whileN t b n s).isNo := fun n => Classical.byContradiction fun q => hx ⟨n, q⟩
    rw [whileL_no h]
    symm
    refine isNo_no ?_
    refine Classical.byContradiction fun q => ?_
    -- some step does come to an end
    have : ∃ n, ¬ (wStep t b (whileN t b n) s).isNo := by
      unfold wStep at q ⊢
      cases e : t s with
      | no => rw [e] at q; exact absurd trivial q
      | ex x s1 => exact ⟨0, id⟩
      | ok c s1 =>
        rw [e] at q
        simp only [Out.bind] at q ⊢
        cases c with
        | false => exact ⟨0, id⟩
        | true =>
          simp only [if_true] at q ⊢
          cases e2 : b s1 with
          | no => rw [e2] at q; exact absurd trivial q
          | ex x s2 => exact ⟨0, id⟩
          | ok f s2 =>
            rw [e2] at q
            have key : ¬ (whileL t b s2).isNo → ∃ n, ¬ (whileN t b n s2).isNo := fun z => Classical.byContradiction fun w => by
              have h' : ∀ n, (whileN t b n s2).isNo := fun n => Classical.byContradiction fun q => w ⟨n, q⟩
              rw [whileL_no h'] at z
              exact z trivial
            cases f with
            | nx => exact key q
            | ct => exact key q
            | bk => exact ⟨0, id⟩
            | rt v => exact ⟨0, id⟩
    obtain ⟨n, hn⟩ := this
    have := h (n + 1)
    rw [up n] at this
    exact hn this
theorem whileL_go {t : S → Out Bool} {b : S → Out Flow} {s s1 s2 : S} (h1 : t s = .ok true s1) (h2 : b s1 = .ok .nx s2) : whileL t b s = whileL t b s2 := by
  rw [whileL_eq]
  unfold wStep
  rw [h1]
  simp only [Out.bind, if_true]
  rw [h2]
theorem whileL_stop {t : S → Out Bool} {b : S → Out Flow} {s s1 : S} (h1 : t s = .ok false s1) : whileL t b s = .ok .nx s1 := by
  rw [whileL_eq]
  unfold wStep
  rw [h1]
  rfl
theorem exs_nx {C : Calls} {lk : Nat} {t : T} {ts : Ts} {s s1 : S} (h : ex C lk t s = .ok .nx s1) : exs C lk (.cons t ts) s = exs C lk ts s1 := by
  conv => lhs; unfold exs
  rw [h]
  rfl
theorem exs_rt {C : Calls} {lk : Nat} {t : T} {ts : Ts} {s s1 : S} {v : SV} (h : ex C lk t s = .ok (.rt v) s1) : exs C lk (.cons t ts) s = .ok (.rt v) s1 := by
  conv => lhs; unfold exs
  rw [h]
  rfl
theorem exs_nil {C : Calls} {lk : Nat} {s : S} : exs C lk .nil s = .ok .nx s := by unfold exs; rfl
theorem ex_if {C : Calls} {lk : Nat} {k : Bool} {c : E} {a b : Ts} {s s1 : S} (h : evB C lk c s = .ok k s1) : ex C lk (.if_ c a b) s = if k = true then exs C lk a s1 else exs C lk b s1 := by
  conv => lhs; unfold ex
  rw [h]
  rfl
theorem ex_while {C : Calls} {lk : Nat} {c : E} {b : Ts} {s : S} : ex C lk (.while_ c b) s = whileL (fun z => evB C lk c z) (fun z => exs C lk b z) s := by
  conv => lhs; unfold ex
theorem ex_for {C : Calls} {lk : Nat} {tg : Tg} {it : I} {b : Ts} {s s1 : S} {ds : List D} (h : evi C lk it s = .ok ds s1) : ex C lk (.for_ tg it b) s = forL (bindTg lk tg) (fun z => exs C lk b z) ds s1 := by
  conv => lhs; unfold ex
  rw [h]
  rfl
theorem ev_bi {C : Calls} {lk : Nat} {b : Bi} {es : Es} {s s1 : S} {xs : List AV} {ds : List D} {v : AV} (h1 : evv C lk es s = .ok xs s1) (h2 : views xs s1 = some ds) (h3 : bltin b ds = some v) : ev C lk (.bi b es) s = .ok v s1 := by
  conv => lhs; unfold ev
  rw [h1]
  simp only [Out.bind]
  rw [h2]
  simp only
  rw [h3]
  rfl
theorem ex_ret {C : Calls} {lk : Nat} {e : E} {s s1 s2 : S} {x : AV} {v : SV} (h : ev C lk e s = .ok x s1) (h2 : retV lk x s1 = some (v, s2)) : ex C lk (.ret e) s = .ok (.rt v) s2 := by
  conv => lhs; unfold ex
  rw [h]
  simp only [Out.bind]
  rw [h2]
theorem ex_asg {C : Calls} {lk : Nat} {i : Nat} {e : E} {s s1 s2 s3 : S} {x : AV} {v : SV} (h : ev C lk e s = .ok x s1) (h2 : keepV x s1 = some (v, s2)) (h3 : put lk s2 i v = some s3) : ex C lk (.asg i e) s = .ok .nx s3 := by
  conv => lhs; unfold ex
  rw [h]
  simp only [Out.bind]
  rw [h2]
  simp only
  rw [h3]
  rfl
/-! ### calls -/
theorem run_rt {P : Nat → Option Fn} {k f : Nat} {h : Option D} {ds : List D} {F : Fn} {v : SV} {s : S} (hP : P f = some F) (hh : h.isSome = F.lk) (hn : ds.length = F.np) (ho : exs (callF P k) (ln F.lk) F.body (start F.n h ds) = .ok (.rt v) s) : callF P (k + 1) f h ds = .ok v (outOf F.lk s) := by
  unfold callF
  rw [hP]
  simp only
  rw [if_pos ⟨hh, hn⟩, ho]
theorem run_nx {P : Nat → Option Fn} {k f : Nat} {h : Option D} {ds : List D} {F : Fn} {s : S} (hP : P f = some F) (hh : h.isSome = F.lk) (hn : ds.length = F.np) (ho : exs (callF P k) (ln F.lk) F.body (start F.n h ds) = .ok .nx s) : callF P (k + 1) f h ds = .ok (.d .non) (outOf F.lk s) := by
  unfold callF
  rw [hP]
  simp only
  rw [if_pos ⟨hh, hn⟩, ho]
/-! ### comprehensions -/
inductive All2 {α β : Type} (R : α → β → Prop) : List α → List β → Prop where
  | nil : All2 R [] []
  | cons {a : α} {b : β} {l : List α} {r : List β} : R a b → All2 R l r → All2 R (a :: l) (b :: r)
theorem wipeS_l (z : S) : ∀ vs : List Nat, (wipeS vs z).length = z.length
  | [] => rfl
  | v :: r => by unfold wipeS; rw [List.length_set, wipeS_l z r]
theorem restS_of {vs : List Nat} {s0 z : S} (h : wipeS vs z = wipeS vs s0) : restS vs s0 z = s0 := by
  have key : ∀ (ws : List Nat) (a b : S), (∀ j, j ∉ ws → a[j]? = b[j]?) → a.length = b.length → restS ws b a = b := by
    intro ws
    induction ws with
    | nil =>
      intro a b hab _
      unfold restS
      exact List.ext_getElem? fun j => hab j (by simp)
    | cons w ws ih =>
      intro a b hab hl
      unfold restS
      have q : restS ws b (a.set w (getS b w)) = b := by
        refine ih _ _ (fun j hj => ?_) (by rw [List.length_set]; exact hl)
        by_cases e : w = j
        · subst e
          by_cases hw : w < a.length
          · rw [List.getElem?_set_self hw]
            unfold getS
            rw [List.getElem?_eq_getElem (by rw [← hl]; exact hw)]
          · rw [List.getElem?_eq_none (by rw [List.length_set]; exact Nat.le_of_not_lt hw), List.getElem?_eq_none (by rw [← hl]; exact Nat.le_of_not_lt hw)]
        · rw [List.getElem?_set_ne e]
          exact hab j (fun z => (List.mem_cons.mp z).elim (fun y => e y.symm) hj)
      have comm : ∀ (us : List Nat) (c : S) (x : Option SV), x = getS b w → (restS us b c).set w x = restS us b (c.set w x) := by
        intro us
        induction us with
        | nil => intro c x _; rfl
        | cons u us ihu =>
          intro c x hx
          unfold restS
          by_cases e : u = w
          · subst e
            rw [List.set_set, hx, ← hx]
            rw [← ihu c x hx, List.set_set]
          · rw [List.set_comm _ _ e, ihu c x hx]
      rw [comm ws a _ rfl, q]
  have hl : z.length = s0.length := by
    have := congrArg List.length h
    rw [wipeS_l, wipeS_l] at this
    exact this
  refine key vs z s0 (fun j hj => ?_) hl
  have out : ∀ (us : List Nat) (c : S), j ∉ us → (wipeS us c)[j]? = c[j]? := by
    intro us
    induction us with
    | nil => intro c _; rfl
    | cons u us ihu =>
      intro c hn
      unfold wipeS
      rw [List.getElem?_set_ne (fun q => hn (by rw [q]; exact List.mem_cons_self)), ihu c (fun q => hn (List.mem_cons_of_mem _ q))]
  rw [← out vs z hj, h, out vs s0 hj]
/-- a turn looks only at what is outside the block's own names -/
theorem lcTurn_same {lk : Nat} {vs : List Nat} {tg : Tg} {tst : S → Out Bool} {el : S → Out AV} {d : D} {z z' : S} (h : wipeS vs z = wipeS vs z') : lcTurn lk vs tg tst el d z = lcTurn lk vs tg tst el d z' := by
  unfold lcTurn
  rw [h]
/-- the turns, with what is kept: St x the state, x going on -/
theorem lcL_inv {α : Type} {lk : Nat} {vs : List Nat} {tg : Tg} {tst : S → Out Bool} {el : S → Out AV} {St : α → S} {I : α → Prop} {P : D → D → Prop} : ∀ (ds acc : List D) (x : α) (z : S), I x → wipeS vs z = wipeS vs (St x) → acc.length + ds.length ≤ lim →
    (∀ d ∈ ds, ∀ x, I x → ∃ x' y z', I x' ∧ P d y ∧ lcTurn lk vs tg tst el d (St x) = .ok (some y) z' ∧ wipeS vs z' = wipeS vs (St x')) →
    ∃ x' ys z', I x' ∧ All2 P ds ys ∧ lcL (lcTurn lk vs tg tst el) ds acc z = .ok (acc ++ ys) z' ∧ wipeS vs z' = wipeS vs (St x')
  | [], acc, x, z, hI, hz, _, _ => ⟨x, [], z, hI, .nil, by unfold lcL; rw [List.append_nil], hz⟩
  | d :: ds, acc, x, z, hI, hz, hl, h => by
    obtain ⟨x1, y, z1, I1, p1, e1, w1⟩ := h d List.mem_cons_self x hI
    rw [List.length_cons] at hl
    obtain ⟨x2, ys, z2, I2, p2, e2, w2⟩ := lcL_inv ds (acc ++ [y]) x1 z1 I1 w1 (by rw [List.length_append, List.length_singleton]; omega) (fun d' hd => h d' (List.mem_cons_of_mem _ hd))
    refine ⟨x2, y :: ys, z2, I2, .cons p1 p2, ?_, w2⟩
    unfold lcL
    rw [lcTurn_same hz, e1]
    simp only [Out.bind]
    rw [if_pos (by omega), e2, List.append_assoc]
    rfl
theorem lcRun_inv {α : Type} {lk : Nat} {vs : List Nat} {tg : Tg} {tst : S → Out Bool} {el : S → Out AV} {St : α → S} {I : α → Prop} {P : D → D → Prop} {ds : List D} {x : α} (hI : I x) (h0 : (noOwn vs (St x) && !(vs.any fun i => lk.testBit i)) = true) (hl : ds.length ≤ lim)
    (hs : ∀ x', restS vs (St x) (St x') = St x')
    (h : ∀ d ∈ ds, ∀ x, I x → ∃ x' y z', I x' ∧ P d y ∧ lcTurn lk vs tg tst el d (St x) = .ok (some y) z' ∧ wipeS vs z' = wipeS vs (St x')) :
    ∃ x' ys, I x' ∧ All2 P ds ys ∧ lcRun lk vs tg tst el ds (St x) = .ok (.o (.lst ys)) (St x') := by
  obtain ⟨x', ys, z', I', p, e, w⟩ := lcL_inv (St := St) ds [] x (St x) hI rfl (by simpa using hl) h
  refine ⟨x', ys, I', p, ?_⟩
  unfold lcRun
  rw [if_pos h0, e]
  show Out.ok (AV.o (.lst ([] ++ ys))) (restS vs (St x) z') = _
  have same : ∀ (us : List Nat) (a b c : S), wipeS us a = wipeS us b → restS us c a = restS us c b := by
    intro us a b c hab
    have la : a.length = b.length := by
      have := congrArg List.length hab
      rw [wipeS_l, wipeS_l] at this
      exact this
    have get : ∀ (us : List Nat) (q : S) (j : Nat), (restS us c q)[j]? = if j ∈ us ∧ j < q.length then some (getS c j) else q[j]? := by
      intro us q j
      induction us with
      | nil => unfold restS; simp
      | cons u us ih =>
        have lr : (restS us c q).length = q.length := by
          clear ih
          induction us with
          | nil => rfl
          | cons _ _ ih => unfold restS; rw [List.length_set, ih]
        unfold restS
        rw [List.getElem?_set, lr, ih]
        by_cases e : u = j
        · subst e
          by_cases hl : u < q.length
          · rw [if_pos rfl, if_pos hl, if_pos ⟨List.mem_cons_self, hl⟩]
          · rw [if_pos rfl, if_neg hl, if_neg (fun h => hl h.2), List.getElem?_eq_none (Nat.le_of_not_lt hl)]
        · rw [if_neg e]
          by_cases hm : j ∈ us ∧ j < q.length
          · rw [if_pos hm, if_pos ⟨List.mem_cons_of_mem _ hm.1, hm.2⟩]
          · rw [if_neg hm, if_neg]
            rintro ⟨h1, h2⟩
            rcases List.mem_cons.mp h1 with z | z
            · exact e z.symm
            · exact hm ⟨z, h2⟩
    have out : ∀ (us : List Nat) (q : S) (j : Nat), j ∉ us → (wipeS us q)[j]? = q[j]? := by
      intro us q j
      induction us with
      | nil => intro _; rfl
      | cons u us ih =>
        intro hn
        unfold wipeS
        rw [List.getElem?_set_ne (fun z => hn (by rw [z]; exact List.mem_cons_self)), ih (fun z => hn (List.mem_cons_of_mem _ z))]
    refine List.ext_getElem? fun j => ?_
    rw [get, get, la]
    by_cases hm : j ∈ us ∧ j < b.length
    · rw [if_pos hm, if_pos hm]
    · rw [if_neg hm, if_neg hm]
      by_cases hj : j ∈ us
      · have : ¬ j < b.length := fun z => hm ⟨hj, z⟩
        rw [List.getElem?_eq_none (by rw [la]; exact Nat.le_of_not_lt this), List.getElem?_eq_none (Nat.le_of_not_lt this)]
      · rw [← out us a j hj, hab, out us b j hj]
  rw [same vs z' (St x') (St x) w, hs x', List.nil_append]
/-- .. where nothing changes -/
theorem lcRun_map {lk : Nat} {vs : List Nat} {tg : Tg} {tst : S → Out Bool} {el : S → Out AV} {f : D → D} {ds : List D} {s : S} (h0 : (noOwn vs s && !(vs.any fun i => lk.testBit i)) = true) (hl : ds.length ≤ lim)
    (h : ∀ d ∈ ds, ∃ z', lcTurn lk vs tg tst el d s = .ok (some (f d)) z' ∧ wipeS vs z' = wipeS vs s) : lcRun lk vs tg tst el ds s = .ok (.o (.lst (ds.map f))) s := by
  obtain ⟨x', ys, _, p, e⟩ := lcRun_inv (α := Unit) (St := fun _ => s) (I := fun _ => True) (P := fun d y => y = f d) (x := ()) trivial h0 hl (fun _ => restS_of rfl) (fun d hd x _ => by
    obtain ⟨z', h1, h2⟩ := h d hd
    exact ⟨(), f d, z', trivial, rfl, h1, h2⟩)
  have : ys = ds.map f := by
    clear e h hl
    induction p with
    | nil => rfl
    | cons h _ ih => rw [List.map_cons, h, ih]
  rw [e, this]
/-! ### for -/
theorem forL_inv {bind : D → S → Option S} {b : S → Out Flow} {α : Type} {St : Nat → α → S} {I : Nat → α → Prop} : ∀ (ds : List D) (i : Nat) (x : α), I i x → (∀ (j : Nat) (d : D), ds[j]? = some d → ∀ x, I (i + j) x → ∃ x' s1, bind d (St (i + j) x) = some s1 ∧ (b s1 = .ok .nx (St (i + j + 1) x') ∨ b s1 = .ok .ct (St (i + j + 1) x')) ∧ I (i + j + 1) x') →
    ∃ x', forL bind b ds (St i x) = .ok .nx (St (i + ds.length) x') ∧ I (i + ds.length) x'
  | [], i, x, hI, _ => ⟨x, rfl, hI⟩
  | d :: ds, i, x, hI, h => by
    obtain ⟨x1, s1, e1, e2, I1⟩ := h 0 d rfl x hI
    obtain ⟨x2, e3, I2⟩ := forL_inv ds (i + 1) x1 I1 (fun j d' hd x hx => by
      have := h (j + 1) d' hd x (by rw [show i + (j + 1) = i + 1 + j from by omega]; exact hx)
      rw [show i + (j + 1) = i + 1 + j from by omega] at this
      exact this)
    refine ⟨x2, ?_, ?_⟩
    · unfold forL
      rw [show i = i + 0 from rfl] at e1 ⊢
      rw [e1]
      simp only
      rcases e2 with e2 | e2
      · rw [e2]
        simp only [Out.bind]
        rw [show i + 0 + 1 = i + 1 from rfl, e3, List.length_cons]
        congr 2
        omega
      · rw [e2]
        simp only [Out.bind]
        rw [show i + 0 + 1 = i + 1 from rfl, e3, List.length_cons]
        congr 2
        omega
    · rw [List.length_cons, show i + (ds.length + 1) = i + 1 + ds.length from by omega]
      exact I2
end FL

/-! FLB: the reading in big steps. -/
namespace FL
open PySem
theorem ev_lc {C : Calls} {lk : Nat} {vs : List Nat} {tg : Tg} {it : I} {cond : Eo} {el : E} {s s1 s2 : S} {ds : List D} {v : AV} (h1 : evi C lk it s = .ok ds s1) (h2 : lcRun lk vs tg (fun z => evc C lk cond z) (fun z => ev C lk el z) ds s1 = .ok v s2) : ev C lk (.lc vs tg it cond el) s = .ok v s2 := by
  conv => lhs; unfold ev
  rw [h1]
  simp only [Out.bind]
  rw [h2]
  rfl
theorem evs_cons {C : Calls} {lk : Nat} {e : E} {r : Es} {s s1 s2 s3 : S} {x : AV} {d : D} {ds : List D} (h1 : ev C lk e s = .ok x s1) (h2 : frz x s1 = some (d, s2)) (h3 : evs C lk r s2 = .ok ds s3) : evs C lk (.cons e r) s = .ok (d :: ds) s3 := by
  conv => lhs; unfold evs
  rw [h1]
  simp only [Out.bind]
  rw [h2]
  simp only
  rw [h3]
theorem evs_nil {C : Calls} {lk : Nat} {s : S} : evs C lk .nil s = .ok [] s := by unfold evs; rfl
theorem ev_lst {C : Calls} {lk : Nat} {es : Es} {s s1 : S} {ds : List D} (h : evs C lk es s = .ok ds s1) : ev C lk (.lst es) s = .ok (.o (.lst ds)) s1 := by
  conv => lhs; unfold ev
  rw [h]
  rfl
theorem ev_tup {C : Calls} {lk : Nat} {es : Es} {s s1 : S} {ds : List D} (h : evs C lk es s = .ok ds s1) : ev C lk (.tup es) s = .ok (.d (.tup ds)) s1 := by
  conv => lhs; unfold ev
  rw [h]
  rfl
theorem ev_op {C : Calls} {lk : Nat} {o : Op} {a b : E} {s s1 s2 : S} {x y v : AV} {d1 d2 : D} (h1 : ev C lk a s = .ok x s1) (h2 : ev C lk b s1 = .ok y s2) (h3 : view (pend x) s2 = some d1) (h4 : view y s2 = some d2) (h5 : binop o d1 d2 = some v) : ev C lk (.op o a b) s = .ok v s2 := by
  conv => lhs; unfold ev
  rw [h1]
  simp only [Out.bind]
  rw [h2]
  simp only
  rw [h3, h4]
  simp only
  rw [h5]
  rfl
theorem ev_ix {C : Calls} {lk : Nat} {a b : E} {s s1 s2 : S} {x y v : AV} {d1 d2 : D} (h1 : ev C lk a s = .ok x s1) (h2 : ev C lk b s1 = .ok y s2) (h3 : view (pend x) s2 = some d1) (h4 : view y s2 = some d2) (h5 : itemD d1 d2 = some v) : ev C lk (.ix a b) s = .ok v s2 := by
  conv => lhs; unfold ev
  rw [h1]
  simp only [Out.bind]
  rw [h2]
  simp only
  rw [h3, h4]
  simp only
  rw [h5]
  rfl
theorem ev_call {C : Calls} {lk : Nat} {f : Nat} {es : Es} {s s1 : S} {ds : List D} {v : SV} {h : Option SV} (h1 : evs C lk es s = .ok ds s1) (h2 : C f none ds = .ok v h) : ev C lk (.call f es) s = .ok (svA v) s1 := by
  conv => lhs; unfold ev
  rw [h1]
  simp only [Out.bind]
  unfold callD
  rw [h2]
  cases v <;> rfl
theorem ev_callH {C : Calls} {lk : Nat} {f i : Nat} {es : Es} {s s1 : S} {ds : List D} {h0 h1 : D} {v w : SV} (e0 : getS s i = some (.o h0)) (h : evs C lk es s = .ok ds s1) (e1 : getS s1 i = some (.o h1)) (h2 : C f (some h1) ds = .ok v (some w)) : ev C lk (.callH f i es) s = .ok (svA v) (s1.set i (some w)) := by
  conv => lhs; unfold ev
  rw [e0]
  simp only
  rw [h]
  simp only [Out.bind]
  unfold callHD
  rw [e1]
  simp only
  rw [h2]
  cases v <;> rfl
theorem ev_cm {C : Calls} {lk : Nat} {o : Cm} {a b : E} {s s1 s2 : S} {x y : AV} {d1 d2 : D} {k : Bool} (h1 : ev C lk a s = .ok x s1) (h2 : ev C lk b s1 = .ok y s2) (h3 : view (pend x) s2 = some d1) (h4 : view y s2 = some d2) (h5 : cmp o d1 d2 = some k) : ev C lk (.cm o a b) s = .ok (.d (.bl k)) s2 := by
  conv => lhs; unfold ev
  rw [h1]
  simp only [Out.bind]
  rw [h2]
  simp only
  rw [h3, h4]
  simp only
  rw [h5]
  rfl
theorem evB_of' {C : Calls} {lk : Nat} {c : E} {s s1 : S} {k : Bool} (h : ev C lk c s = .ok (.d (.bl k)) s1) : evB C lk c s = .ok k s1 := by
  unfold evB
  rw [h]
  rfl
theorem ev_not {C : Calls} {lk : Nat} {c : E} {s s1 : S} {k : Bool} (h : ev C lk c s = .ok (.d (.bl k)) s1) : ev C lk (.not c) s = .ok (.d (.bl (!k))) s1 := by
  conv => lhs; unfold ev
  rw [h]
  rfl
theorem cmp_int_eq (i j : Int) : cmp .eq (.int i) (.int j) = some (decide (i = j)) := by
  show (if okDeep (.int i) && okDeep (.int j) then some (D.eqv (.int i) (.int j)) else none) = _
  have h1 : okDeep (.int i) = true := rfl
  have h2 : okDeep (.int j) = true := rfl
  rw [h1, h2]
  show some (i == j) = _
  rfl
def tsDrop : Nat → Ts → Ts
  | 0, t => t
  | n + 1, .cons _ r => tsDrop n r
  | _ + 1, .nil => .nil
theorem evk_nil {C : Calls} {lk : Nat} {s : S} : evk C lk .nil s = .ok [] s := by unfold evk; rfl
theorem evk_cons {C : Calls} {lk : Nat} {e : E} {r : Es} {s s1 s2 s3 : S} {x : AV} {w : SV} {ws : List SV} (h1 : ev C lk e s = .ok x s1) (h2 : keepV x s1 = some (w, s2)) (h3 : evk C lk r s2 = .ok ws s3) : evk C lk (.cons e r) s = .ok (w :: ws) s3 := by
  conv => lhs; unfold evk
  rw [h1]
  simp only [Out.bind]
  rw [h2]
  simp only
  rw [h3]
theorem ex_par {C : Calls} {lk : Nat} {is : List Nat} {es : Es} {s s1 s2 : S} {ds : List SV} (h : evk C lk es s = .ok ds s1) (h2 : putKs lk s1 is ds = some s2) : ex C lk (.par is es) s = .ok .nx s2 := by
  conv => lhs; unfold ex
  rw [h]
  simp only [Out.bind]
  rw [h2]
  rfl
theorem ev_mk {C : Calls} {lk : Nat} {c f : Nat} {es : Es} {s s1 : S} {ds : List D} {d : D} (h : evs C lk es s = .ok ds s1) (h2 : C f (some (.ins c [])) ds = .ok (.d .non) (some (.o d))) : ev C lk (.mk c f es) s = .ok (.o d) s1 := by
  conv => lhs; unfold ev
  rw [h]
  simp only [Out.bind]
  unfold mkD
  rw [h2]
/-- if not t: .. (t holds) -/
theorem ex_ifnot {C : Calls} {lk : Nat} {c : E} {a : Ts} {s s1 : S} (h : ev C lk c s = .ok (.d (.bl true)) s1) : ex C lk (.if_ (.not c) a .nil) s = .ok .nx s1 := by
  rw [ex_if (evB_of' (ev_not h))]
  show exs C lk .nil s1 = _
  exact exs_nil
theorem ex_ifF {C : Calls} {lk : Nat} {c : E} {a : Ts} {s s1 : S} (h : ev C lk c s = .ok (.d (.bl false)) s1) : ex C lk (.if_ c a .nil) s = .ok .nx s1 := by
  rw [ex_if (evB_of' h)]
  show exs C lk .nil s1 = _
  exact exs_nil
theorem ex_expr {C : Calls} {lk : Nat} {e : E} {s s1 : S} {x : AV} (h : ev C lk e s = .ok x s1) : ex C lk (.expr e) s = .ok .nx s1 := by
  conv => lhs; unfold ex
  rw [h]
  rfl
theorem ex_asgT {C : Calls} {lk : Nat} {is : List Nat} {e : E} {s s1 s2 : S} {d : D} (h : ev C lk e s = .ok (.d d) s1) (h2 : bindTg lk (.t is) d s1 = some s2) : ex C lk (.asgT is e) s = .ok .nx s2 := by
  conv => lhs; unfold ex
  rw [h]
  simp only [Out.bind]
  rw [h2]
  rfl
theorem ex_setD {C : Calls} {lk : Nat} {i : Nat} {b e : E} {s s1 s2 s3 : S} {x : AV} {d k : D} {t : Bool} {kvs : List (D × D)} (h1 : ev C lk e s = .ok x s1) (h2 : frz x s1 = some (d, s2)) (h3 : getS s2 i = some (.o (.dct t kvs))) (h4 : ev C lk b s2 = .ok (.d k) s3) (h5 : getS s3 i = some (.o (.dct t kvs))) (h6 : keyOk t k = true) (h7 : kvs.length < lim) : ex C lk (.setIx i b e) s = .ok .nx (s3.set i (some (.o (.dct t (dPut k d kvs))))) := by
  conv => lhs; unfold ex
  rw [h1]
  simp only [Out.bind]
  rw [h2]
  simp only
  rw [h3]
  simp only
  rw [h4]
  simp only
  unfold setIxF
  rw [h5]
  have : ∀ k' : D, (∃ i, k' = .int i) ∨ ∀ i, k' ≠ .int i := fun k' => by
    cases k' with
    | int i => exact .inl ⟨i, rfl⟩
    | _ => exact .inr fun i h => by cases h
  rcases this k with ⟨i', rfl⟩ | hk
  · simp only
    rw [if_pos ⟨h6, h7⟩]
  · simp only
    rw [if_pos ⟨h6, h7⟩]
theorem ex_augI {C : Calls} {lk : Nat} {i : Nat} {e : E} {s s1 s2 : S} {a b : Int} (h0 : getS s i = some (.d (.int a))) (h1 : ev C lk e s = .ok (.d (.int b)) s1) (h2 : put lk s1 i (.d (.int (a + b))) = some s2) : ex C lk (.aug i .add e) s = .ok .nx s2 := by
  conv => lhs; unfold ex
  rw [h0]
  unfold augI
  simp only
  rw [h1]
  simp only [Out.bind]
  rw [h2]
  rfl
theorem ev_fld {C : Calls} {lk : Nat} {a : E} {f : Str} {s s1 : S} {x v : AV} {d : D} (h : ev C lk a s = .ok x s1) (h2 : view x s1 = some d) (h3 : fldD d f = some v) : ev C lk (.fld a f) s = .ok v s1 := by
  conv => lhs; unfold ev
  rw [h]
  simp only [Out.bind]
  rw [h2]
  simp only
  rw [h3]
  rfl
theorem ev_mt {C : Calls} {lk : Nat} {m : Mt} {i : Nat} {es : Es} {s s1 : S} {l : List D} {ds : List D} {d d' : D} {r : AV} (h0 : getS s i = some (.o (.lst l))) (h : evs C lk es s = .ok ds s1) (h1 : getS s1 i = some (.o d)) (h2 : mtf m d ds = some (d', r)) : ev C lk (.mt m i es) s = .ok r (s1.set i (some (.o d'))) := by
  conv => lhs; unfold ev
  rw [h0]
  simp only
  rw [h]
  simp only [Out.bind]
  unfold mtD
  rw [h1]
  simp only
  rw [h2]
/-- a walk that is left at turn m -/
theorem forL_rt {bind : D → S → Option S} {b : S → Out FL.Flow} {v : SV} : ∀ (m : Nat) (xs : List D) (I : Nat → S → Prop) (s : S), m < xs.length → I 0 s →
    (∀ j d s, j < m → xs[j]? = some d → I j s → ∃ s1 s2, bind d s = some s1 ∧ b s1 = .ok .nx s2 ∧ I (j + 1) s2) →
    (∀ d s, xs[m]? = some d → I m s → ∃ s1 z, bind d s = some s1 ∧ b s1 = .ok (.rt v) z) → ∃ z, forL bind b xs s = .ok (.rt v) z
  | 0, x :: xs, I, s, _, h0, _, hl => by
    obtain ⟨s1, z, e1, e2⟩ := hl x s rfl h0
    refine ⟨z, ?_⟩
    unfold forL
    rw [e1]
    simp only
    rw [e2]
    rfl
  | m + 1, x :: xs, I, s, hm, h0, hs, hl => by
    obtain ⟨s1, s2, e1, e2, I1⟩ := hs 0 x s (by omega) rfl h0
    obtain ⟨z, e⟩ := forL_rt m xs (fun j z => I (j + 1) z) s2 (by rw [List.length_cons] at hm; omega) I1 (fun j d z hj hd hz => hs (j + 1) d z (by omega) (by rw [List.getElem?_cons_succ]; exact hd) hz) (fun d z hd hz => hl d z (by rw [List.getElem?_cons_succ]; exact hd) hz)
    refine ⟨z, ?_⟩
    unfold forL
    rw [e1]
    simp only
    rw [e2]
    exact e
  | _, [], _, _, hm, _, _, _ => absurd hm (Nat.not_lt_zero _)
theorem ev_andT {C : Calls} {lk : Nat} {a b : E} {s s1 : S} (h1 : ev C lk a s = .ok (.d (.bl true)) s1) : ev C lk (.and a b) s = ev C lk b s1 := by
  conv => lhs; unfold ev
  rw [h1]
  rfl
theorem ev_andF {C : Calls} {lk : Nat} {a b : E} {s s1 : S} (h1 : ev C lk a s = .ok (.d (.bl false)) s1) : ev C lk (.and a b) s = .ok (.d (.bl false)) s1 := by
  conv => lhs; unfold ev
  rw [h1]
  rfl
theorem okR_s {n : Nat} (hn : n ≤ 1000) : okR (n : Int) = true := by
  unfold okR
  rw [Bool.and_eq_true, decide_eq_true_eq, decide_eq_true_eq]
  constructor <;> omega
theorem e1_rng {C : Calls} {lk : Nat} {e : E} {s s1 : S} {n : Nat} (hn : n ≤ 1000) (h : ev C lk e s = .ok (.d (.int n)) s1) : evi C lk (.rng (.cons e .nil)) s = .ok (rangeD 0 n) s1 := by
  simp only [evi, evs, h, Out.bind, frz, rngL]
  rw [if_pos (okR_s hn)]
  rfl
theorem mulOk {i j : Int} (h : okMul i j = true) : binop .mul (.int i) (.int j) = some (.d (.int (i * j))) := by
  show (if okMul i j = true then some (AV.d (.int (i * j))) else none) = _
  rw [if_pos h]
theorem divOk {i j : Int} (h : okDiv j = true) : binop .fdiv (.int i) (.int j) = some (.d (.int (i.fdiv j))) := by
  show (if okDiv j = true then some (AV.d (.int (i.fdiv j))) else none) = _
  rw [if_pos h]
theorem modOk {i j : Int} (h : j ≠ 0) : binop .mod (.int i) (.int j) = some (.d (.int (i.fmod j))) := by
  show (if j ≠ 0 then some (AV.d (.int (i.fmod j))) else none) = _
  rw [if_pos h]
theorem addOk {i j : Int} : binop .add (.int i) (.int j) = some (.d (.int (i + j))) := rfl
theorem subOk {i j : Int} : binop .sub (.int i) (.int j) = some (.d (.int (i - j))) := rfl
/-- int(e) -/
theorem ev_int {C : Calls} {lk : Nat} {e : E} {s s1 : S} {i : Int} (h : ev C lk e s = .ok (.d (.int i)) s1) : ev C lk (.bi .int (.cons e .nil)) s = .ok (.d (.int i)) s1 :=
  ev_bi (xs := [.d (.int i)]) (ds := [.int i]) (by simp only [evv, h, Out.bind, pend]) (by rfl) (by rfl)
theorem ev_i {C : Calls} {lk : Nat} {o : Op} {a b : E} {s s1 s2 : S} {i j r : Int} (h1 : ev C lk a s = .ok (.d (.int i)) s1) (h2 : ev C lk b s1 = .ok (.d (.int j)) s2) (h : binop o (.int i) (.int j) = some (.d (.int r))) : ev C lk (.op o a b) s = .ok (.d (.int r)) s2 :=
  ev_op h1 h2 rfl rfl h
theorem ex_setIx {C : Calls} {lk : Nat} {i : Nat} {b e : E} {s s1 s2 s3 s4 : S} {x y : AV} {d : D} {l : List D} (h1 : ev C lk e s = .ok x s1) (h2 : frz x s1 = some (d, s2)) (h3 : getS s2 i = some (.o (.lst l))) (h4 : ev C lk b s2 = .ok y s3) (h5 : setIxF i d y s3 = .ok .nx s4) : ex C lk (.setIx i b e) s = .ok .nx s4 := by
  conv => lhs; unfold ex
  rw [h1]
  simp only [Out.bind]
  rw [h2]
  simp only
  rw [h3]
  simp only
  rw [h4]
  exact h5
theorem ev_sl {C : Calls} {lk : Nat} {a : E} {lo hi : Eo} {s s1 s2 s3 : S} {x v : AV} {l h : Option Int} {d : D} (h1 : ev C lk a s = .ok x s1) (h2 : evo C lk lo s1 = .ok l s2) (h3 : evo C lk hi s2 = .ok h s3) (h4 : view (pend x) s3 = some d) (h5 : sliceOf d l h = some v) : ev C lk (.sl a lo hi) s = .ok v s3 := by
  conv => lhs; unfold ev
  rw [h1]
  simp only [Out.bind]
  rw [h2]
  simp only
  rw [h3]
  simp only
  rw [h4]
  simp only
  rw [h5]
  rfl
theorem ev_orF {C : Calls} {lk : Nat} {a b : E} {s s1 : S} (h1 : ev C lk a s = .ok (.d (.bl false)) s1) : ev C lk (.or a b) s = ev C lk b s1 := by
  conv => lhs; unfold ev
  rw [h1]
  rfl
theorem ev_orT {C : Calls} {lk : Nat} {a b : E} {s s1 : S} (h1 : ev C lk a s = .ok (.d (.bl true)) s1) : ev C lk (.or a b) s = .ok (.d (.bl true)) s1 := by
  conv => lhs; unfold ev
  rw [h1]
  rfl
theorem whileL_rt {t : S → Out Bool} {b : S → Out Flow} {s s1 s2 : S} {v : SV} (h1 : t s = .ok true s1) (h2 : b s1 = .ok (.rt v) s2) : whileL t b s = .ok (.rt v) s2 := by
  rw [whileL_eq]
  unfold wStep
  rw [h1]
  simp only [Out.bind, if_true]
  rw [h2]
theorem ev_tupl {C : Calls} {lk : Nat} {e : E} {s s1 : S} {l : List D} (h : ev C lk e s = .ok (.o (.lst l)) s1) : ev C lk (.bi .tuple (.cons e .nil)) s = .ok (.d (.tup l)) s1 :=
  ev_bi (xs := [.d (.lst l)]) (ds := [.lst l]) (by simp only [evv, h, Out.bind, pend]) rfl rfl
theorem ev_b1 {C : Calls} {lk : Nat} {b : Bi} {e : E} {s s1 : S} {x : AV} {d : D} {v : AV} (h : ev C lk e s = .ok x s1) (h2 : view (pend x) s1 = some d) (h3 : bltin b [d] = some v) : ev C lk (.bi b (.cons e .nil)) s = .ok v s1 :=
  ev_bi (xs := [pend x]) (ds := [d]) (by simp only [evv, h, Out.bind]) (by simp only [views, h2]) h3
theorem ev_b2 {C : Calls} {lk : Nat} {b : Bi} {e e' : E} {s s1 s2 : S} {x y : AV} {d d' : D} {v : AV} (h : ev C lk e s = .ok x s1) (h' : ev C lk e' s1 = .ok y s2) (h2 : view (pend x) s2 = some d) (h2' : view (pend y) s2 = some d') (h3 : bltin b [d, d'] = some v) : ev C lk (.bi b (.cons e (.cons e' .nil))) s = .ok v s2 :=
  ev_bi (xs := [pend x, pend y]) (ds := [d, d']) (by simp only [evv, h, h', Out.bind]) (by simp only [views, h2, h2']) h3
theorem ev_isi {C : Calls} {lk : Nat} {a : E} {t : Bool} {cs : List Cs} {s s1 : S} {x : AV} {d : D} {b : Bool} (h : ev C lk a s = .ok x s1) (h2 : view (pend x) s1 = some d) (h3 : isiAny d cs = some b) : ev C lk (.isi a t cs) s = .ok (.d (.bl b)) s1 := by
  conv => lhs; unfold ev
  rw [h]
  simp only [Out.bind]
  rw [h2]
  simp only
  rw [h3]
  rfl
/-- a step, its state found -/
theorem nx {C : Calls} {lk : Nat} {t : T} {ts : Ts} {s s1 : S} {r : Out Flow} (h : ex C lk t s = .ok .nx s1) (h2 : exs C lk ts s1 = r) : exs C lk (.cons t ts) s = r := (exs_nx h).trans h2
theorem ex_ifT {C : Calls} {lk : Nat} {c : E} {a b : Ts} {s s1 : S} {r : Out Flow} (h : ev C lk c s = .ok (.d (.bl true)) s1) (h2 : exs C lk a s1 = r) : ex C lk (.if_ c a b) s = r := by
  rw [ex_if (evB_of' h), if_pos rfl]
  exact h2
theorem ex_ifE {C : Calls} {lk : Nat} {c : E} {a b : Ts} {s s1 : S} {r : Out Flow} (h : ev C lk c s = .ok (.d (.bl false)) s1) (h2 : exs C lk b s1 = r) : ex C lk (.if_ c a b) s = r := by
  rw [ex_if (evB_of' h), if_neg (by decide)]
  exact h2
theorem ev_iteT {C : Calls} {lk : Nat} {c a b : E} {s s1 : S} (h : ev C lk c s = .ok (.d (.bl true)) s1) : ev C lk (.ite c a b) s = ev C lk a s1 := by
  conv => lhs; unfold ev
  rw [h]
  rfl
theorem ev_iteF {C : Calls} {lk : Nat} {c a b : E} {s s1 : S} (h : ev C lk c s = .ok (.d (.bl false)) s1) : ev C lk (.ite c a b) s = ev C lk b s1 := by
  conv => lhs; unfold ev
  rw [h]
  rfl
/-- the turns of a comprehension that keeps some -/
theorem lcL_filt {lk : Nat} {vs : List Nat} {tg : Tg} {tst : S → Out Bool} {el : S → Out AV} {c : D → Bool} {f : D → D} {s : S} : ∀ (ds acc : List D) (z : S), wipeS vs z = wipeS vs s → acc.length + ds.length ≤ lim →
    (∀ d ∈ ds, ∃ z', lcTurn lk vs tg tst el d s = .ok (if c d = true then some (f d) else none) z' ∧ wipeS vs z' = wipeS vs s) →
    ∃ z', lcL (lcTurn lk vs tg tst el) ds acc z = .ok (acc ++ (ds.filter c).map f) z' ∧ wipeS vs z' = wipeS vs s
  | [], acc, z, hz, _, _ => ⟨z, by unfold lcL; simp, hz⟩
  | d :: ds, acc, z, hz, hl, h => by
    obtain ⟨z1, e1, w1⟩ := h d List.mem_cons_self
    rw [List.length_cons] at hl
    unfold lcL
    rw [lcTurn_same hz, e1]
    simp only [Out.bind]
    cases hc : c d with
    | true =>
      obtain ⟨z2, e2, w2⟩ := lcL_filt ds (acc ++ [f d]) z1 w1 (by rw [List.length_append, List.length_singleton]; omega) (fun d' hd => h d' (List.mem_cons_of_mem _ hd))
      refine ⟨z2, ?_, w2⟩
      simp only [if_true]
      rw [if_pos (by omega), e2, List.filter_cons_of_pos hc, List.map_cons, List.append_assoc]
      rfl
    | false =>
      obtain ⟨z2, e2, w2⟩ := lcL_filt ds acc z1 w1 (by omega) (fun d' hd => h d' (List.mem_cons_of_mem _ hd))
      refine ⟨z2, ?_, w2⟩
      rw [if_neg (by decide)]
      simp only
      rw [e2, List.filter_cons_of_neg (by rw [hc]; decide)]
theorem lcRun_filt {lk : Nat} {vs : List Nat} {tg : Tg} {tst : S → Out Bool} {el : S → Out AV} {c : D → Bool} {f : D → D} {ds : List D} {s : S} (h0 : (noOwn vs s && !(vs.any fun i => lk.testBit i)) = true) (hl : ds.length ≤ lim)
    (h : ∀ d ∈ ds, ∃ z', lcTurn lk vs tg tst el d s = .ok (if c d = true then some (f d) else none) z' ∧ wipeS vs z' = wipeS vs s) : lcRun lk vs tg tst el ds s = .ok (.o (.lst ((ds.filter c).map f))) s := by
  obtain ⟨z', e, w⟩ := lcL_filt ds [] s rfl (by simpa using hl) h
  unfold lcRun
  rw [if_pos h0, e]
  show Out.ok (AV.o (.lst ([] ++ (ds.filter c).map f))) (restS vs s z') = _
  rw [restS_of w, List.nil_append]
end FL

/-! FLX: the reading step by step, by form. -/
namespace FL
open PySem
/-- a slot is written -/
inductive PutR : S → Nat → SV → S → Prop where
  | z {x : Option SV} {r : S} {v : SV} : PutR (x :: r) 0 v (some v :: r)
  | s {x : Option SV} {r r' : S} {n : Nat} {v : SV} : PutR r n v r' → PutR (x :: r) (n + 1) v (x :: r')
theorem PutR.eq {s s' : S} {i : Nat} {v : SV} (h : PutR s i v s') : s.set i (some v) = s' ∧ i < s.length := by
  induction h with
  | z => exact ⟨rfl, Nat.zero_lt_succ _⟩
  | s _ ih => exact ⟨by rw [List.set_cons_succ, ih.1], Nat.succ_lt_succ ih.2⟩
/-- a slot is read -/
inductive GetR : S → Nat → SV → Prop where
  | z {r : S} {v : SV} : GetR (some v :: r) 0 v
  | s {x : Option SV} {r : S} {n : Nat} {v : SV} : GetR r n v → GetR (x :: r) (n + 1) v
theorem GetR.eq {s : S} {i : Nat} {v : SV} (h : GetR s i v) : getS s i = some v := by
  induction h with
  | z => rfl
  | s _ ih => exact ih
inductive FrzR : AV → S → D → S → Prop where
  | d {d : D} {s : S} : FrzR (.d d) s d s
  | o {d : D} {s : S} : FrzR (.o d) s d s
  | s {i : Nat} {d : D} {s s' : S} : GetR s i (.o d) → PutR s i (.d d) s' → FrzR (.s i) s d s'
theorem FrzR.eq {x : AV} {d : D} {s s' : S} (h : FrzR x s d s') : frz x s = some (d, s') := by
  cases h with
  | d => rfl
  | o => rfl
  | s g p =>
    unfold frz
    simp only
    rw [g.eq]
    simp only
    rw [p.eq.1]
inductive KeepR : AV → S → SV → S → Prop where
  | d {d : D} {s : S} : KeepR (.d d) s (.d d) s
  | o {d : D} {s : S} : KeepR (.o d) s (.o d) s
  | s {i : Nat} {d : D} {s s' : S} : GetR s i (.o d) → PutR s i (.d d) s' → KeepR (.s i) s (.d d) s'
theorem KeepR.eq {x : AV} {v : SV} {s s' : S} (h : KeepR x s v s') : keepV x s = some (v, s') := by
  cases h with
  | d => rfl
  | o => rfl
  | s g p =>
    unfold keepV
    simp only
    rw [(FrzR.s g p).eq]
inductive ViewR : AV → S → D → Prop where
  | d {d : D} {s : S} : ViewR (.d d) s d
  | o {d : D} {s : S} : ViewR (.o d) s d
  | so {i : Nat} {d : D} {s : S} : GetR s i (.o d) → ViewR (.s i) s d
  | sd {i : Nat} {d : D} {s : S} : GetR s i (.d d) → ViewR (.s i) s d
theorem ViewR.eq {x : AV} {d : D} {s : S} (h : ViewR x s d) : view x s = some d := by
  cases h with
  | d => rfl
  | o => rfl
  | so g =>
    unfold view
    simp only
    rw [g.eq]
  | sd g =>
    unfold view
    simp only
    rw [g.eq]
theorem ViewR.pe {x : AV} {d : D} {s : S} (h : ViewR x s d) : view (pend x) s = some d := by
  cases h with
  | d => rfl
  | o => rfl
  | so g =>
    show view (.s _) s = _
    unfold view
    simp only
    rw [g.eq]
  | sd g =>
    show view (.s _) s = _
    unfold view
    simp only
    rw [g.eq]
variable {C : Calls} {lk : Nat}
theorem x_c {d : D} {s : S} : ev C lk (.c d) s = .ok (.d d) s := by unfold ev; rfl
theorem x_g {n : Str} {d : D} {s : S} : ev C lk (.g n d) s = .ok (.d d) s := by unfold ev; rfl
theorem x_vd {i : Nat} {d : D} {s : S} (h : GetR s i (.d d)) : ev C lk (.v i) s = .ok (.d d) s := by unfold ev; rw [h.eq]
theorem x_vo {i : Nat} {d : D} {s : S} (h : GetR s i (.o d)) : ev C lk (.v i) s = .ok (.s i) s := by unfold ev; rw [h.eq]
theorem x_op {o : Op} {a b : E} {s s1 s2 : S} {x y v : AV} {d1 d2 : D} (h1 : ev C lk a s = .ok x s1) (h2 : ev C lk b s1 = .ok y s2) (h3 : ViewR x s2 d1) (h4 : ViewR y s2 d2) (h5 : binop o d1 d2 = some v) : ev C lk (.op o a b) s = .ok v s2 := ev_op h1 h2 h3.pe h4.eq h5
theorem x_ix {a b : E} {s s1 s2 : S} {x y v : AV} {d1 d2 : D} (h1 : ev C lk a s = .ok x s1) (h2 : ev C lk b s1 = .ok y s2) (h3 : ViewR x s2 d1) (h4 : ViewR y s2 d2) (h5 : itemD d1 d2 = some v) : ev C lk (.ix a b) s = .ok v s2 := ev_ix h1 h2 h3.pe h4.eq h5
theorem x_cm {o : Cm} {a b : E} {s s1 s2 : S} {x y : AV} {d1 d2 : D} {k : Bool} (h1 : ev C lk a s = .ok x s1) (h2 : ev C lk b s1 = .ok y s2) (h3 : ViewR x s2 d1) (h4 : ViewR y s2 d2) (h5 : cmp o d1 d2 = some k) : ev C lk (.cm o a b) s = .ok (.d (.bl k)) s2 := ev_cm h1 h2 h3.pe h4.eq h5
theorem x_chT {o p : Cm} {a b c : E} {s s1 s2 s3 : S} {x y z : AV} {d1 d2 d3 d4 : D} {k : Bool} (h1 : ev C lk a s = .ok x s1) (h2 : ev C lk b s1 = .ok y s2) (h3 : ViewR x s2 d1) (h4 : ViewR y s2 d2) (h5 : cmp o d1 d2 = some true) (h6 : ev C lk c s2 = .ok z s3) (h7 : ViewR y s3 d3) (h8 : ViewR z s3 d4) (h9 : cmp p d3 d4 = some k) : ev C lk (.ch o p a b c) s = .ok (.d (.bl k)) s3 := by
  conv => lhs; unfold ev
  rw [h1]
  simp only [Out.bind]
  rw [h2]
  simp only
  rw [h3.pe, h4.pe]
  simp only
  rw [h5]
  simp only [if_true]
  rw [h6]
  simp only
  rw [h7.pe, h8.eq]
  simp only
  rw [h9]
  rfl
theorem x_chF {o p : Cm} {a b c : E} {s s1 s2 : S} {x y : AV} {d1 d2 : D} (h1 : ev C lk a s = .ok x s1) (h2 : ev C lk b s1 = .ok y s2) (h3 : ViewR x s2 d1) (h4 : ViewR y s2 d2) (h5 : cmp o d1 d2 = some false) : ev C lk (.ch o p a b c) s = .ok (.d (.bl false)) s2 := by
  conv => lhs; unfold ev
  rw [h1]
  simp only [Out.bind]
  rw [h2]
  simp only
  rw [h3.pe, h4.pe]
  simp only
  rw [h5]
  rfl
theorem x_neg {a : E} {i : Int} {s s1 : S} (h : ev C lk a s = .ok (.d (.int i)) s1) : ev C lk (.neg a) s = .ok (.d (.int (-i))) s1 := by
  conv => lhs; unfold ev
  rw [h]
  rfl
theorem x_notT {a : E} {s s1 : S} (h : ev C lk a s = .ok (.d (.bl false)) s1) : ev C lk (.not a) s = .ok (.d (.bl true)) s1 := ev_not h
theorem x_notF {a : E} {s s1 : S} (h : ev C lk a s = .ok (.d (.bl true)) s1) : ev C lk (.not a) s = .ok (.d (.bl false)) s1 := ev_not h
theorem x_not {a : E} {k : Bool} {s s1 : S} (h : ev C lk a s = .ok (.d (.bl k)) s1) : ev C lk (.not a) s = .ok (.d (.bl (!k))) s1 := ev_not h
theorem x_andT {a b : E} {s s1 s2 : S} {x : AV} (h1 : ev C lk a s = .ok (.d (.bl true)) s1) (h2 : ev C lk b s1 = .ok x s2) : ev C lk (.and a b) s = .ok x s2 := (ev_andT h1).trans h2
theorem x_andF {a b : E} {s s1 : S} (h1 : ev C lk a s = .ok (.d (.bl false)) s1) : ev C lk (.and a b) s = .ok (.d (.bl false)) s1 := ev_andF h1
theorem x_orF {a b : E} {s s1 s2 : S} {x : AV} (h1 : ev C lk a s = .ok (.d (.bl false)) s1) (h2 : ev C lk b s1 = .ok x s2) : ev C lk (.or a b) s = .ok x s2 := (ev_orF h1).trans h2
theorem x_orT {a b : E} {s s1 : S} (h1 : ev C lk a s = .ok (.d (.bl true)) s1) : ev C lk (.or a b) s = .ok (.d (.bl true)) s1 := ev_orT h1
theorem x_iteT {c a b : E} {s s1 s2 : S} {x : AV} (h1 : ev C lk c s = .ok (.d (.bl true)) s1) (h2 : ev C lk a s1 = .ok x s2) : ev C lk (.ite c a b) s = .ok x s2 := (ev_iteT h1).trans h2
theorem x_iteF {c a b : E} {s s1 s2 : S} {x : AV} (h1 : ev C lk c s = .ok (.d (.bl false)) s1) (h2 : ev C lk b s1 = .ok x s2) : ev C lk (.ite c a b) s = .ok x s2 := (ev_iteF h1).trans h2
theorem x_nil {s : S} : evs C lk .nil s = .ok [] s := evs_nil
theorem x_cons {e : E} {r : Es} {s s1 s2 s3 : S} {x : AV} {d : D} {ds : List D} (h1 : ev C lk e s = .ok x s1) (h2 : FrzR x s1 d s2) (h3 : evs C lk r s2 = .ok ds s3) : evs C lk (.cons e r) s = .ok (d :: ds) s3 := evs_cons h1 h2.eq h3
theorem x_knil {s : S} : evk C lk .nil s = .ok [] s := evk_nil
theorem x_kcons {e : E} {r : Es} {s s1 s2 s3 : S} {x : AV} {d : SV} {ds : List SV} (h1 : ev C lk e s = .ok x s1) (h2 : KeepR x s1 d s2) (h3 : evk C lk r s2 = .ok ds s3) : evk C lk (.cons e r) s = .ok (d :: ds) s3 := evk_cons h1 h2.eq h3
theorem x_b1 {b : Bi} {e : E} {s s1 : S} {x : AV} {d : D} {v : AV} (h : ev C lk e s = .ok x s1) (h2 : ViewR x s1 d) (h3 : bltin b [d] = some v) : ev C lk (.bi b (.cons e .nil)) s = .ok v s1 := ev_b1 h h2.pe h3
theorem x_b2 {b : Bi} {e e' : E} {s s1 s2 : S} {x y : AV} {d d' : D} {v : AV} (h : ev C lk e s = .ok x s1) (h' : ev C lk e' s1 = .ok y s2) (h2 : ViewR x s2 d) (h2' : ViewR y s2 d') (h3 : bltin b [d, d'] = some v) : ev C lk (.bi b (.cons e (.cons e' .nil))) s = .ok v s2 := ev_b2 h h' h2.pe h2'.pe h3
theorem x_isi {a : E} {t : Bool} {cs : List Cs} {s s1 : S} {x : AV} {d : D} {b : Bool} (h : ev C lk a s = .ok x s1) (h2 : ViewR x s1 d) (h3 : isiAny d cs = some b) : ev C lk (.isi a t cs) s = .ok (.d (.bl b)) s1 := ev_isi h h2.pe h3
theorem x_calld {f : Nat} {es : Es} {s s1 : S} {ds : List D} {d : D} {h : Option SV} (h1 : evs C lk es s = .ok ds s1) (h2 : C f none ds = .ok (.d d) h) : ev C lk (.call f es) s = .ok (.d d) s1 := ev_call h1 h2
theorem x_callo {f : Nat} {es : Es} {s s1 : S} {ds : List D} {d : D} {h : Option SV} (h1 : evs C lk es s = .ok ds s1) (h2 : C f none ds = .ok (.o d) h) : ev C lk (.call f es) s = .ok (.o d) s1 := ev_call h1 h2
theorem x_mk {c f : Nat} {es : Es} {s s1 : S} {ds : List D} {d : D} (h : evs C lk es s = .ok ds s1) (h2 : C f (some (.ins c [])) ds = .ok (.d .non) (some (.o d))) : ev C lk (.mk c f es) s = .ok (.o d) s1 := ev_mk h h2
theorem x_fld {a : E} {f : Str} {s s1 : S} {x v : AV} {d : D} (h : ev C lk a s = .ok x s1) (h2 : ViewR x s1 d) (h3 : fldD d f = some v) : ev C lk (.fld a f) s = .ok v s1 := ev_fld h h2.eq h3
theorem x_mt {m : Mt} {i : Nat} {es : Es} {s s1 s2 : S} {l : List D} {ds : List D} {d d' : D} {r : AV} (h0 : GetR s i (.o (.lst l))) (h : evs C lk es s = .ok ds s1) (h1 : GetR s1 i (.o d)) (h2 : mtf m d ds = some (d', r)) (h3 : PutR s1 i (.o d') s2) : ev C lk (.mt m i es) s = .ok r s2 := by
  have := ev_mt (C := C) (lk := lk) h0.eq h h1.eq h2
  rw [h3.eq.1] at this
  exact this
theorem x_lst {es : Es} {s s1 : S} {ds : List D} (h : evs C lk es s = .ok ds s1) : ev C lk (.lst es) s = .ok (.o (.lst ds)) s1 := ev_lst h
theorem x_tup {es : Es} {s s1 : S} {ds : List D} (h : evs C lk es s = .ok ds s1) : ev C lk (.tup es) s = .ok (.d (.tup ds)) s1 := ev_tup h
theorem x_on {s : S} : evo C lk .none s = .ok none s := by unfold evo; rfl
theorem x_os {e : E} {i : Int} {s s1 : S} (h : ev C lk e s = .ok (.d (.int i)) s1) : evo C lk (.some e) s = .ok (some i) s1 := by
  unfold evo
  rw [h]
  rfl
theorem x_sl {a : E} {lo hi : Eo} {s s1 s2 s3 : S} {x v : AV} {l h : Option Int} {d : D} (h1 : ev C lk a s = .ok x s1) (h2 : evo C lk lo s1 = .ok l s2) (h3 : evo C lk hi s2 = .ok h s3) (h4 : ViewR x s3 d) (h5 : sliceOf d l h = some v) : ev C lk (.sl a lo hi) s = .ok v s3 := ev_sl h1 h2 h3 h4.pe h5
theorem x_rev {a : E} {lo : Eo} {s s1 s2 : S} {x v : AV} {l : Option Int} {d : D} (h1 : ev C lk a s = .ok x s1) (h2 : evo C lk lo s1 = .ok l s2) (h4 : ViewR x s2 d) (h5 : revOf d l = some v) : ev C lk (.rev a lo) s = .ok v s2 := by
  conv => lhs; unfold ev
  rw [h1]
  simp only [Out.bind]
  rw [h2]
  simp only
  rw [h4.pe]
  simp only
  rw [h5]
  rfl
theorem x_dnew {t : Bool} {s : S} : ev C lk (.dnew t) s = .ok (.o (.dct t [])) s := by unfold ev; rfl
theorem x_trgT {es : Es} {s s1 : S} {ds ns : List D} (h : evs C lk es s = .ok ds s1) (h2 : rngA ds = some ns) (h3 : ns.length ≤ lim) : ev C lk (.trg true es) s = .ok (.d (.tup ns)) s1 := by
  conv => lhs; unfold ev
  rw [h]
  simp only [Out.bind]
  rw [show rngT true ds = rngA ds from rfl, h2]
  simp only
  rw [if_pos h3]
  rfl
theorem x_eqm {ne : Bool} {c f : Nat} {a b : E} {s s1 s2 s3 s4 : S} {x y : AV} {fs gs : List (Str × D)} {k : Bool} {h : Option SV} (h1 : ev C lk a s = .ok x s1) (h2 : FrzR x s1 (.ins c fs) s2) (h3 : ev C lk b s2 = .ok y s3) (h4 : FrzR y s3 (.ins c gs) s4) (h5 : C f none [.ins c fs, .ins c gs] = .ok (.d (.bl k)) h) : ev C lk (.eqm ne c f a b) s = .ok (.d (.bl (ne != k))) s4 := by
  conv => lhs; unfold ev
  rw [h1]
  simp only [Out.bind]
  rw [h2.eq]
  simp only
  rw [h3]
  simp only
  rw [h4.eq]
  simp only
  unfold eqmD
  simp only [and_self, if_true]
  rw [h5]
theorem x_neF {c f : Nat} {a b : E} {s s1 s2 s3 s4 : S} {x y : AV} {fs gs : List (Str × D)} {h : Option SV} (h1 : ev C lk a s = .ok x s1) (h2 : FrzR x s1 (.ins c fs) s2) (h3 : ev C lk b s2 = .ok y s3) (h4 : FrzR y s3 (.ins c gs) s4) (h5 : C f none [.ins c fs, .ins c gs] = .ok (.d (.bl true)) h) : ev C lk (.eqm true c f a b) s = .ok (.d (.bl false)) s4 := x_eqm h1 h2 h3 h4 h5
theorem x_neT {c f : Nat} {a b : E} {s s1 s2 s3 s4 : S} {x y : AV} {fs gs : List (Str × D)} {h : Option SV} (h1 : ev C lk a s = .ok x s1) (h2 : FrzR x s1 (.ins c fs) s2) (h3 : ev C lk b s2 = .ok y s3) (h4 : FrzR y s3 (.ins c gs) s4) (h5 : C f none [.ins c fs, .ins c gs] = .ok (.d (.bl false)) h) : ev C lk (.eqm true c f a b) s = .ok (.d (.bl true)) s4 := x_eqm h1 h2 h3 h4 h5
theorem x_eqv {c f : Nat} {a b : E} {s s1 s2 s3 s4 : S} {x y : AV} {fs gs : List (Str × D)} {k : Bool} {h : Option SV} (h1 : ev C lk a s = .ok x s1) (h2 : FrzR x s1 (.ins c fs) s2) (h3 : ev C lk b s2 = .ok y s3) (h4 : FrzR y s3 (.ins c gs) s4) (h5 : C f none [.ins c fs, .ins c gs] = .ok (.d (.bl k)) h) : ev C lk (.eqm false c f a b) s = .ok (.d (.bl k)) s4 := by
  have := x_eqm h1 h2 h3 h4 h5 (ne := false)
  rw [show (false != k) = k from by cases k <;> rfl] at this
  exact this
/-! ### what is walked -/
theorem x_ie {e : E} {s s1 s2 : S} {x : AV} {d : D} {ds : List D} (h : ev C lk e s = .ok x s1) (h2 : FrzR x s1 d s2) (h3 : seqOf d = some ds) : evi C lk (.e e) s = .ok ds s2 := by
  unfold evi
  rw [h]
  simp only [Out.bind]
  rw [h2.eq]
  simp only
  rw [h3]
  rfl
theorem x_irng {es : Es} {s s1 : S} {ds ns : List D} (h : evs C lk es s = .ok ds s1) (h2 : rngL ds = some ns) : evi C lk (.rng es) s = .ok ns s1 := by
  unfold evi
  rw [h]
  simp only [Out.bind]
  rw [h2]
  rfl
theorem x_izip {es : Es} {s s1 : S} {ds ns : List D} (h : evs C lk es s = .ok ds s1) (h2 : zipL ds = some ns) : evi C lk (.zip es) s = .ok ns s1 := by
  unfold evi
  rw [h]
  simp only [Out.bind]
  rw [h2]
  rfl
theorem x_ienum {es : Es} {s s1 : S} {ds ns : List D} (h : evs C lk es s = .ok ds s1) (h2 : enumL ds = some ns) : evi C lk (.enum es) s = .ok ns s1 := by
  unfold evi
  rw [h]
  simp only [Out.bind]
  rw [h2]
  rfl
/-! ### statements -/
theorem putS {s s' : S} {i : Nat} {v : SV} (h0 : lk.testBit i = false) (h : PutR s i v s') : put lk s i v = some s' := by
  unfold put
  rw [h0, if_neg (by decide), if_pos h.eq.2, h.eq.1]
theorem x_asg {i : Nat} {e : E} {s s1 s2 s3 : S} {x : AV} {v : SV} (h : ev C lk e s = .ok x s1) (h2 : KeepR x s1 v s2) (h0 : lk.testBit i = false) (h3 : PutR s2 i v s3) : ex C lk (.asg i e) s = .ok .nx s3 := ex_asg h h2.eq (putS h0 h3)
inductive PutsR (lk : Nat) : S → List Nat → List SV → S → Prop where
  | nil {s : S} : PutsR lk s [] [] s
  | cons {s s1 s2 : S} {i : Nat} {is : List Nat} {v : SV} {vs : List SV} : lk.testBit i = false → PutR s i v s1 → PutsR lk s1 is vs s2 → PutsR lk s (i :: is) (v :: vs) s2
theorem PutsR.eqK {s s' : S} {is : List Nat} {vs : List SV} (h : PutsR lk s is vs s') : putKs lk s is vs = some s' := by
  induction h with
  | nil => rfl
  | cons h0 p _ ih =>
    unfold putKs
    rw [putS h0 p]
    exact ih
inductive PutDR (lk : Nat) : S → List Nat → List D → S → Prop where
  | nil {s : S} : PutDR lk s [] [] s
  | cons {s s1 s2 : S} {i : Nat} {is : List Nat} {v : D} {vs : List D} : lk.testBit i = false → PutR s i (.d v) s1 → PutDR lk s1 is vs s2 → PutDR lk s (i :: is) (v :: vs) s2
theorem PutDR.eqT {s s' : S} {is : List Nat} {vs : List D} (h : PutDR lk s is vs s') : putTs lk s is vs = some s' ∧ is.length = vs.length := by
  induction h with
  | nil => exact ⟨rfl, rfl⟩
  | cons h0 p _ ih =>
    unfold putTs
    rw [putS h0 p]
    exact ⟨ih.1, by rw [List.length_cons, List.length_cons, ih.2]⟩
inductive BindR (lk : Nat) : Tg → D → S → S → Prop where
  | v {i : Nat} {d : D} {s s' : S} : lk.testBit i = false → PutR s i (.d d) s' → BindR lk (.v i) d s s'
  | t {is : List Nat} {ds : List D} {s s' : S} : PutDR lk s is ds s' → BindR lk (.t is) (.tup ds) s s'
theorem BindR.eq {tg : Tg} {d : D} {s s' : S} (h : BindR lk tg d s s') : bindTg lk tg d s = some s' := by
  cases h with
  | v h0 p => exact putS h0 p
  | t p =>
    unfold bindTg
    simp only
    rw [if_pos p.eqT.2, p.eqT.1]
theorem x_par {is : List Nat} {es : Es} {s s1 s2 : S} {ds : List SV} (h : evk C lk es s = .ok ds s1) (h2 : PutsR lk s1 is ds s2) : ex C lk (.par is es) s = .ok .nx s2 := ex_par h h2.eqK
theorem x_asgT {is : List Nat} {e : E} {s s1 s2 : S} {d : D} (h : ev C lk e s = .ok (.d d) s1) (h2 : BindR lk (.t is) d s1 s2) : ex C lk (.asgT is e) s = .ok .nx s2 := ex_asgT h h2.eq
theorem x_expr {e : E} {s s1 : S} {x : AV} (h : ev C lk e s = .ok x s1) : ex C lk (.expr e) s = .ok .nx s1 := ex_expr h
theorem x_if {c : E} {a b : Ts} {s s1 : S} {k : Bool} {r : Out Flow} (h : ev C lk c s = .ok (.d (.bl k)) s1) (h2 : (if k = true then exs C lk a s1 else exs C lk b s1) = r) : ex C lk (.if_ c a b) s = r := (ex_if (evB_of' h)).trans h2
theorem x_ifT {c : E} {a b : Ts} {s s1 : S} {r : Out Flow} (h : ev C lk c s = .ok (.d (.bl true)) s1) (h2 : exs C lk a s1 = r) : ex C lk (.if_ c a b) s = r := ex_ifT h h2
theorem x_ifF {c : E} {a b : Ts} {s s1 : S} {r : Out Flow} (h : ev C lk c s = .ok (.d (.bl false)) s1) (h2 : exs C lk b s1 = r) : ex C lk (.if_ c a b) s = r := ex_ifE h h2
inductive RetR (lk : Nat) : AV → S → SV → Prop where
  | d {d : D} {s : S} : RetR lk (.d d) s (.d d)
  | o {d : D} {s : S} : (lk.testBit 0 && !own0 s) = false → RetR lk (.o d) s (.o d)
  | s {i : Nat} {d : D} {s : S} : lk.testBit i = false → (lk.testBit 0 && !own0 s) = false → GetR s i (.o d) → RetR lk (.s i) s (.o d)
theorem RetR.eq {x : AV} {v : SV} {s : S} (h : RetR lk x s v) : ∃ s', retV lk x s = some (v, s') ∧ (lk.testBit 0 = true → getS s' 0 = getS s 0) := by
  cases h with
  | d => exact ⟨s, rfl, fun _ => rfl⟩
  | o h => exact ⟨s, by unfold retV; simp only; rw [h, if_neg (by decide)], fun _ => rfl⟩
  | s h0 h g =>
    rename_i i d
    refine ⟨s.set i none, ?_, fun hl => ?_⟩
    · unfold retV
      simp only
      rw [h0, if_neg (by decide), h, if_neg (by decide), g.eq]
    · have : i ≠ 0 := fun e => by rw [e, hl] at h0; cases h0
      unfold getS
      rw [List.getElem?_set_ne this]
/-- .. what it hands back; with the lock, what became of what was handed in -/
def Ends (C : Calls) (lk : Nat) (ts : Ts) (s : S) (v : SV) (h : Option SV) : Prop := ∃ z, exs C lk ts s = .ok (.rt v) z ∧ (lk.testBit 0 = true → getS z 0 = h)
theorem e_nx {t : T} {ts : Ts} {s s1 : S} {v : SV} {h : Option SV} (h1 : ex C lk t s = .ok .nx s1) (h2 : Ends C lk ts s1 v h) : Ends C lk (.cons t ts) s v h := by
  obtain ⟨z, e, q⟩ := h2
  exact ⟨z, (exs_nx h1).trans e, q⟩
theorem e_ret {e : E} {ts : Ts} {s s1 : S} {x : AV} {v : SV} {h : Option SV} (h1 : ev C lk e s = .ok x s1) (h2 : RetR lk x s1 v) (h3 : lk.testBit 0 = true → getS s1 0 = h) : Ends C lk (.cons (.ret e) ts) s v h := by
  obtain ⟨z, e2, q⟩ := h2.eq
  exact ⟨z, exs_rt (ex_ret h1 e2), fun hl => (q hl).trans (h3 hl)⟩
theorem e_ifT {c : E} {a b ts : Ts} {s s1 : S} {v : SV} {h : Option SV} (h1 : ev C lk c s = .ok (.d (.bl true)) s1) (h2 : Ends C lk a s1 v h) : Ends C lk (.cons (.if_ c a b) ts) s v h := by
  obtain ⟨z, e, q⟩ := h2
  exact ⟨z, exs_rt (ex_ifT h1 e), q⟩
theorem e_ifF {c : E} {a b ts : Ts} {s s1 : S} {v : SV} {h : Option SV} (h1 : ev C lk c s = .ok (.d (.bl false)) s1) (h2 : Ends C lk b s1 v h) : Ends C lk (.cons (.if_ c a b) ts) s v h := by
  obtain ⟨z, e, q⟩ := h2
  exact ⟨z, exs_rt (ex_ifE h1 e), q⟩
theorem e_rt {t : T} {ts : Ts} {s z : S} {v : SV} {h : Option SV} (h1 : ex C lk t s = .ok (.rt v) z) (h2 : lk.testBit 0 = true → getS z 0 = h) : Ends C lk (.cons t ts) s v h := ⟨z, exs_rt h1, h2⟩
/-- a call of a def that keeps nothing -/
theorem Ends.run {P : Nat → Option Fn} {k f np n : Nat} {b : Ts} {ds : List D} {v : SV} {h : Option SV} (e : Ends (callF P k) 0 b (FL.start n none ds) v h) (hP : P f = some ⟨n, false, np, b⟩) (hn : ds.length = np) : callF P (k + 1) f none ds = .ok v none := by
  obtain ⟨z, e, _⟩ := e
  exact run_rt (F := ⟨n, false, np, b⟩) hP rfl hn e
theorem Ends.runH {P : Nat → Option Fn} {k f np n : Nat} {b : Ts} {ds : List D} {v : SV} {d0 : D} {h : Option SV} (e : Ends (callF P k) 1 b (FL.start n (some d0) ds) v h) (hP : P f = some ⟨n, true, np, b⟩) (hn : ds.length = np) : callF P (k + 1) f (some d0) ds = .ok v h := by
  obtain ⟨z, e, q⟩ := e
  have := run_rt (F := ⟨n, true, np, b⟩) (h := some d0) hP rfl hn e
  rw [this]
  show CO.ok v (getS z 0) = _
  rw [q (by decide)]
/-! ### comparisons -/
theorem c_ltT {i j : Int} (h : i < j) : cmp .lt (.int i) (.int j) = some true := by show some (decide (i < j)) = _; rw [decide_eq_true h]
theorem c_ltF {i j : Int} (h : j ≤ i) : cmp .lt (.int i) (.int j) = some false := by show some (decide (i < j)) = _; rw [decide_eq_false (by omega)]
theorem c_lt {i j : Int} : cmp .lt (.int i) (.int j) = some (decide (i < j)) := rfl
theorem c_gtT {i j : Int} (h : j < i) : cmp .gt (.int i) (.int j) = some true := by show some (decide (j < i)) = _; rw [decide_eq_true h]
theorem c_gtF {i j : Int} (h : i ≤ j) : cmp .gt (.int i) (.int j) = some false := by show some (decide (j < i)) = _; rw [decide_eq_false (by omega)]
theorem c_gt {i j : Int} : cmp .gt (.int i) (.int j) = some (decide (j < i)) := rfl
theorem c_leT {i j : Int} (h : i ≤ j) : cmp .le (.int i) (.int j) = some true := by show some (decide (i ≤ j)) = _; rw [decide_eq_true h]
theorem c_leF {i j : Int} (h : j < i) : cmp .le (.int i) (.int j) = some false := by show some (decide (i ≤ j)) = _; rw [decide_eq_false (by omega)]
theorem c_le {i j : Int} : cmp .le (.int i) (.int j) = some (decide (i ≤ j)) := rfl
theorem c_geT {i j : Int} (h : j ≤ i) : cmp .ge (.int i) (.int j) = some true := by show some (decide (j ≤ i)) = _; rw [decide_eq_true h]
theorem c_geF {i j : Int} (h : i < j) : cmp .ge (.int i) (.int j) = some false := by show some (decide (j ≤ i)) = _; rw [decide_eq_false (by omega)]
theorem c_ge {i j : Int} : cmp .ge (.int i) (.int j) = some (decide (j ≤ i)) := rfl
theorem c_eq {i j : Int} : cmp .eq (.int i) (.int j) = some (decide (i = j)) := cmp_int_eq i j
theorem c_eqT {i j : Int} (h : i = j) : cmp .eq (.int i) (.int j) = some true := by rw [c_eq, decide_eq_true h]
theorem c_eqF {i j : Int} (h : i ≠ j) : cmp .eq (.int i) (.int j) = some false := by rw [c_eq, decide_eq_false h]
theorem c_ne {i j : Int} : cmp .ne (.int i) (.int j) = some (!decide (i = j)) := by
  show (if okDeep (.int i) && okDeep (.int j) then some (!D.eqv (.int i) (.int j)) else none) = _
  have h1 : okDeep (.int i) = true := rfl
  have h2 : okDeep (.int j) = true := rfl
  rw [h1, h2]
  show some (!(i == j)) = _
  rfl
theorem c_neT {i j : Int} (h : i ≠ j) : cmp .ne (.int i) (.int j) = some true := by rw [c_ne, decide_eq_false h]; rfl
theorem c_neF {i j : Int} (h : i = j) : cmp .ne (.int i) (.int j) = some false := by rw [c_ne, decide_eq_true h]; rfl
theorem okD_l {j : Int} (h : 1 ≤ j) (h2 : j ≤ 1000000) : okDiv j = true := by
  unfold okDiv
  have h1 : j ≠ 0 := by omega
  have h3 : j.natAbs < 1073741824 := by omega
  simp [h1, h3]
theorem okM_l {i j : Int} (h : -1000000 ≤ i) (h2 : i ≤ 1000000) : okMul i j = true := by
  unfold okMul
  have : i.natAbs < 2 ^ 64 := by omega
  simp [this]
theorem okM_r {i j : Int} (h : -1000000 ≤ j) (h2 : j ≤ 1000000) : okMul i j = true := by
  unfold okMul
  have : j.natAbs < 2 ^ 64 := by omega
  simp [this]
theorem okR_i {i : Int} (h : -1000000 ≤ i) (h2 : i ≤ 1000000) : okR i = true := by
  unfold okR
  rw [Bool.and_eq_true, decide_eq_true_eq, decide_eq_true_eq]
  constructor <;> omega
theorem rngL_1 {n : Int} (h : -1000000 ≤ n) (h2 : n ≤ 1000000) : rngL [.int n] = some (rangeD 0 n.toNat) := by
  show (if okR n = true then some (rangeD 0 n.toNat) else none) = _
  exact if_pos (okR_i h h2)
theorem rngL_2 {m n : Int} (h : -1000000 ≤ m) (h2 : m ≤ 1000000) (h3 : -1000000 ≤ n) (h4 : n ≤ 1000000) : rngL [.int m, .int n] = some (rangeD m (n - m).toNat) := by
  show (if (okR m && okR n) = true then some (rangeD m (n - m).toNat) else none) = _
  exact if_pos (by rw [okR_i h h2, okR_i h3 h4]; rfl)
theorem app_l {L : List D} {x : D} (h : L.length < 100000) : mtf .append (.lst L) [x] = some (.lst (L ++ [x]), .d .non) := by
  show (if L.length < lim then some (D.lst (L ++ [x]), AV.d .non) else none) = _
  exact if_pos h
theorem cat_l {xs ys : List D} (h : xs.length + ys.length ≤ 100000) : binop .add (.lst xs) (.lst ys) = some (.o (.lst (xs ++ ys))) := by
  show (if xs.length + ys.length ≤ lim then some (AV.o (.lst (xs ++ ys))) else none) = _
  exact if_pos h
theorem cat_t {xs ys : List D} (h : xs.length + ys.length ≤ 100000) : binop .add (.tup xs) (.tup ys) = some (.d (.tup (xs ++ ys))) := by
  show (if xs.length + ys.length ≤ lim then some (AV.d (.tup (xs ++ ys))) else none) = _
  exact if_pos h
theorem len_t {xs : List D} : bltin .len [.tup xs] = some (.d (.int xs.length)) := rfl
theorem len_l {xs : List D} : bltin .len [.lst xs] = some (.d (.int xs.length)) := rfl
theorem int_i {i : Int} : bltin .int [.int i] = some (.d (.int i)) := rfl
theorem int_b {b : Bool} : bltin .int [.bl b] = some (.d (.int (b2i b))) := rfl
theorem abs_i {i : Int} : bltin .abs [.int i] = some (.d (.int (i.natAbs : Int))) := by
  show some (AV.d (.int (if i < 0 then -i else i))) = _
  congr 3
  omega
theorem tup_l {xs : List D} : bltin .tuple [.lst xs] = some (.d (.tup xs)) := rfl
theorem tup_t {xs : List D} : bltin .tuple [.tup xs] = some (.d (.tup xs)) := rfl
theorem lst_t {xs : List D} : bltin .list [.tup xs] = some (.o (.lst xs)) := rfl
theorem lst_l {xs : List D} : bltin .list [.lst xs] = some (.o (.lst xs)) := rfl
theorem mx2 {i j : Int} : bltin .max2 [.int i, .int j] = some (.d (.int (max i j))) := by
  show some (AV.d (.int (if j > i then j else i))) = _
  congr 3
  rw [Int.max_def]
  split <;> split <;> omega
theorem mn2 {i j : Int} : bltin .min2 [.int i, .int j] = some (.d (.int (min i j))) := by
  show some (AV.d (.int (if j < i then j else i))) = _
  congr 3
  rw [Int.min_def]
  split <;> split <;> omega
theorem rep_o {d : D} (h : repOk d = true) : bltin .repr [d] = some (.d (.str (reprD d))) := by
  show (if repOk d = true then some (AV.d (.str (reprD d))) else none) = _
  rw [if_pos h]
end FL

/-! FLY: comprehensions, draws, loops. -/
namespace FL
open PySem
variable {C : Calls} {lk : Nat}
/-- a slot is emptied -/
inductive WipR : S → Nat → S → Prop where
  | z {x : Option SV} {r : S} : WipR (x :: r) 0 (none :: r)
  | s {x : Option SV} {r r' : S} {n : Nat} : WipR r n r' → WipR (x :: r) (n + 1) (x :: r')
inductive WipsR : List Nat → S → S → Prop where
  | nil {s : S} : WipsR [] s s
  | cons {v : Nat} {r : List Nat} {s s1 s2 : S} : WipsR r s s1 → WipR s1 v s2 → WipsR (v :: r) s s2
theorem WipR.eq {s s' : S} {i : Nat} (h : WipR s i s') : s.set i none = s' := by
  induction h with
  | z => rfl
  | s _ ih => rw [List.set_cons_succ, ih]
theorem WipsR.eq {vs : List Nat} {s s' : S} (h : WipsR vs s s') : wipeS vs s = s' := by
  induction h with
  | nil => rfl
  | cons _ p ih =>
    unfold wipeS
    rw [ih, p.eq]
/-- a turn of a comprehension -/
def Turn (C : Calls) (lk : Nat) (vs : List Nat) (tg : Tg) (el : E) (s : S) (d y : D) : Prop := ∃ z', lcTurn lk vs tg (fun z => evc C lk .none z) (fun z => ev C lk el z) d s = .ok (some y) z' ∧ wipeS vs z' = wipeS vs s
theorem turn_mk {vs : List Nat} {tg : Tg} {el : E} {s s0 z z1 z2 : S} {d y : D} {x : AV} (h : WipsR vs s s0) (h1 : BindR lk tg d s0 z) (h2 : ev C lk el z = .ok x z1) (h3 : FrzR x z1 y z2) (h4 : wipeS vs z2 = wipeS vs s) : Turn C lk vs tg el s d y := by
  refine ⟨z2, ?_, h4⟩
  unfold lcTurn
  rw [h.eq, h1.eq]
  simp only [evc, Out.bind, if_true]
  rw [h2]
  simp only
  rw [h3.eq]
theorem x_lc {α : Type} {l : List α} {g f : α → D} {vs : List Nat} {tg : Tg} {it : I} {el : E} {s s1 : S} {ds : List D} (h1 : evi C lk it s = .ok ds s1) (hd : ds = l.map g) (h0 : (noOwn vs s1 && !(vs.any fun i => lk.testBit i)) = true) (hl : l.length ≤ 100000)
    (h : ∀ a ∈ l, Turn C lk vs tg el s1 (g a) (f a)) : ev C lk (.lc vs tg it .none el) s = .ok (.o (.lst (l.map f))) s1 := by
  subst hd
  refine ev_lc h1 ?_
  have key : ∀ (l : List α) (acc : List D) (z : S), wipeS vs z = wipeS vs s1 → acc.length + l.length ≤ lim → (∀ a ∈ l, Turn C lk vs tg el s1 (g a) (f a)) →
      ∃ z', lcL (lcTurn lk vs tg (fun z => evc C lk .none z) (fun z => ev C lk el z)) (l.map g) acc z = .ok (acc ++ l.map f) z' ∧ wipeS vs z' = wipeS vs s1 := by
    intro l
    induction l with
    | nil => intro acc z hz _ _; exact ⟨z, by unfold lcL; simp, hz⟩
    | cons a r ih =>
      intro acc z hz hl h
      obtain ⟨z1, e1, w1⟩ := h a List.mem_cons_self
      rw [List.length_cons] at hl
      obtain ⟨z2, e2, w2⟩ := ih (acc ++ [f a]) z1 w1 (by rw [List.length_append, List.length_singleton]; omega) fun b hb => h b (List.mem_cons_of_mem _ hb)
      refine ⟨z2, ?_, w2⟩
      rw [List.map_cons]
      unfold lcL
      rw [lcTurn_same hz, e1]
      simp only [Out.bind]
      rw [if_pos (by omega), e2, List.append_assoc]
      rfl
  obtain ⟨z', e, w⟩ := key l [] s1 rfl (by rw [List.length_nil, Nat.zero_add]; exact hl) h
  unfold lcRun
  rw [if_pos h0, e]
  show Out.ok (AV.o (.lst ([] ++ l.map f))) (restS vs s1 z') = _
  rw [restS_of w, List.nil_append]
/-- .. with a test -/
def TurnC (C : Calls) (lk : Nat) (vs : List Nat) (tg : Tg) (cond : E) (el : E) (s : S) (d : D) (b : Bool) (y : D) : Prop := ∃ z', lcTurn lk vs tg (fun z => evc C lk (.some cond) z) (fun z => ev C lk el z) d s = .ok (if b = true then some y else none) z' ∧ wipeS vs z' = wipeS vs s
theorem turn_T {vs : List Nat} {tg : Tg} {c el : E} {s s0 z z0 z1 z2 : S} {d y : D} {x : AV} (h : WipsR vs s s0) (h1 : BindR lk tg d s0 z) (hc : ev C lk c z = .ok (.d (.bl true)) z0) (h2 : ev C lk el z0 = .ok x z1) (h3 : FrzR x z1 y z2) (h4 : wipeS vs z2 = wipeS vs s) : TurnC C lk vs tg c el s d true y := by
  refine ⟨z2, ?_, h4⟩
  unfold lcTurn
  rw [h.eq, h1.eq]
  simp only [evc, hc, Out.bind, if_true]
  rw [h2]
  simp only
  rw [h3.eq]
theorem turn_F {vs : List Nat} {tg : Tg} {c el : E} {s s0 z z0 : S} {d y : D} (h : WipsR vs s s0) (h1 : BindR lk tg d s0 z) (hc : ev C lk c z = .ok (.d (.bl false)) z0) (h4 : wipeS vs z0 = wipeS vs s) : TurnC C lk vs tg c el s d false y := by
  refine ⟨z0, ?_, h4⟩
  unfold lcTurn
  rw [h.eq, h1.eq]
  simp only [evc, hc, Out.bind]
  rfl
theorem turn_G {vs : List Nat} {tg : Tg} {c el : E} {s s0 z z0 z1 z2 : S} {d y : D} {x : AV} {k : Bool} (h : WipsR vs s s0) (h1 : BindR lk tg d s0 z) (hc : ev C lk c z = .ok (.d (.bl k)) z0) (h2 : ev C lk el z0 = .ok x z1) (h3 : FrzR x z1 y z2) (h4 : wipeS vs z2 = wipeS vs s) (h5 : wipeS vs z0 = wipeS vs s) : TurnC C lk vs tg c el s d k y := by
  cases k with
  | true => exact turn_T h h1 hc h2 h3 h4
  | false => exact turn_F h h1 hc h5
theorem x_lcf {α : Type} {l : List α} {g f : α → D} {b : α → Bool} {vs : List Nat} {tg : Tg} {it : I} {c el : E} {s s1 : S} {ds : List D} (h1 : evi C lk it s = .ok ds s1) (hd : ds = l.map g) (h0 : (noOwn vs s1 && !(vs.any fun i => lk.testBit i)) = true) (hl : l.length ≤ 100000)
    (h : ∀ a ∈ l, TurnC C lk vs tg c el s1 (g a) (b a) (f a)) : ev C lk (.lc vs tg it (.some c) el) s = .ok (.o (.lst ((l.filter b).map f))) s1 := by
  subst hd
  refine ev_lc h1 ?_
  have key : ∀ (l : List α) (acc : List D) (z : S), wipeS vs z = wipeS vs s1 → acc.length + l.length ≤ lim → (∀ a ∈ l, TurnC C lk vs tg c el s1 (g a) (b a) (f a)) →
      ∃ z', lcL (lcTurn lk vs tg (fun z => evc C lk (.some c) z) (fun z => ev C lk el z)) (l.map g) acc z = .ok (acc ++ (l.filter b).map f) z' ∧ wipeS vs z' = wipeS vs s1 := by
    intro l
    induction l with
    | nil => intro acc z hz _ _; exact ⟨z, by unfold lcL; simp, hz⟩
    | cons a r ih =>
      intro acc z hz hl h
      obtain ⟨z1, e1, w1⟩ := h a List.mem_cons_self
      rw [List.length_cons] at hl
      rw [List.map_cons]
      unfold lcL
      rw [lcTurn_same hz, e1]
      simp only [Out.bind]
      cases hb : b a with
      | true =>
        obtain ⟨z2, e2, w2⟩ := ih (acc ++ [f a]) z1 w1 (by rw [List.length_append, List.length_singleton]; omega) fun b hb => h b (List.mem_cons_of_mem _ hb)
        refine ⟨z2, ?_, w2⟩
        simp only [if_true]
        rw [if_pos (by omega), e2, List.filter_cons_of_pos hb, List.map_cons, List.append_assoc]
        rfl
      | false =>
        obtain ⟨z2, e2, w2⟩ := ih acc z1 w1 (by omega) fun b hb => h b (List.mem_cons_of_mem _ hb)
        refine ⟨z2, ?_, w2⟩
        rw [if_neg (by decide)]
        simp only
        rw [e2, List.filter_cons_of_neg (by rw [hb]; decide)]
  obtain ⟨z', e, w⟩ := key l [] s1 rfl (by rw [List.length_nil, Nat.zero_add]; exact hl) h
  unfold lcRun
  rw [if_pos h0, e]
  show Out.ok (AV.o (.lst ([] ++ (l.filter b).map f))) (restS vs s1 z') = _
  rw [restS_of w, List.nil_append]
/-- a turn that changes what stands outside -/
def TurnTo (C : Calls) (lk : Nat) (vs : List Nat) (tg : Tg) (el : E) (s : S) (d y : D) (s' : S) : Prop := ∃ z', lcTurn lk vs tg (fun z => evc C lk .none z) (fun z => ev C lk el z) d s = .ok (some y) z' ∧ wipeS vs z' = wipeS vs s'
theorem turnTo_mk {vs : List Nat} {tg : Tg} {el : E} {s s0 s' z z1 z2 : S} {d y : D} {x : AV} (h : WipsR vs s s0) (h1 : BindR lk tg d s0 z) (h2 : ev C lk el z = .ok x z1) (h3 : FrzR x z1 y z2) (h4 : wipeS vs z2 = wipeS vs s') : TurnTo C lk vs tg el s d y s' := by
  refine ⟨z2, ?_, h4⟩
  unfold lcTurn
  rw [h.eq, h1.eq]
  simp only [evc, Out.bind, if_true]
  rw [h2]
  simp only
  rw [h3.eq]
theorem x_lci {α β : Type} {l : List β} {g : β → D} {St : α → S} {Iv : α → Prop} {Pr : D → Prop} {vs : List Nat} {tg : Tg} {it : I} {el : E} {s : S} {ds : List D} {a0 : α} (h1 : evi C lk it s = .ok ds (St a0)) (hd : ds = l.map g) (hI : Iv a0) (h0 : (noOwn vs (St a0) && !(vs.any fun i => lk.testBit i)) = true) (hl : l.length ≤ 100000)
    (hs : ∀ a, restS vs (St a0) (St a) = St a) (h : ∀ x ∈ l, ∀ a, Iv a → ∃ y a', Iv a' ∧ Pr y ∧ TurnTo C lk vs tg el (St a) (g x) y (St a')) : ∃ a ys, Iv a ∧ ys.length = l.length ∧ (∀ y ∈ ys, Pr y) ∧ ev C lk (.lc vs tg it .none el) s = .ok (.o (.lst ys)) (St a) := by
  subst hd
  obtain ⟨a, ys, Ia, p, e⟩ := lcRun_inv (lk := lk) (vs := vs) (tg := tg) (tst := fun z => evc C lk .none z) (el := fun z => ev C lk el z) (St := St) (I := Iv) (P := fun _ y => Pr y) (ds := l.map g) hI h0 (by rw [List.length_map]; exact hl) hs (fun d hd a ha => by
    obtain ⟨x, hx, rfl⟩ := List.mem_map.mp hd
    obtain ⟨y, a', i, p, z, e, w⟩ := h x hx a ha
    exact ⟨a', y, z, i, p, e, w⟩)
  refine ⟨a, ys, Ia, ?_, ?_, ev_lc h1 e⟩
  · clear e
    have key : ∀ {ds ys : List D}, All2 (fun _ y => Pr y) ds ys → ys.length = ds.length := by
      intro ds ys p
      induction p with
      | nil => rfl
      | cons _ _ ih => rw [List.length_cons, List.length_cons, ih]
    rw [key p, List.length_map]
  · clear e
    intro y hy
    have key : ∀ {ds ys : List D}, All2 (fun _ y => Pr y) ds ys → ∀ y ∈ ys, Pr y := by
      intro ds ys p
      induction p with
      | nil => intro y hy; cases hy
      | cons a _ ih =>
        intro y hy
        rcases List.mem_cons.mp hy with e | e
        · rw [e]; exact a
        · exact ih y e
    exact key p y hy
/-- the whole numbers lo, lo + 1 .. -/
def rgI (lo : Int) (n : Nat) : List Int := (List.range n).map fun (i : Nat) => lo + (i : Int)
theorem rgI_len (lo : Int) (n : Nat) : (rgI lo n).length = n := by unfold rgI; rw [List.length_map, List.length_range]
theorem rgI_mem {lo i : Int} {n : Nat} : i ∈ rgI lo n ↔ lo ≤ i ∧ i < lo + n := by
  unfold rgI
  rw [List.mem_map]
  constructor
  · rintro ⟨j, hj, rfl⟩
    have := List.mem_range.mp hj
    omega
  · intro h
    exact ⟨(i - lo).toNat, List.mem_range.mpr (by omega), by omega⟩
theorem rgI_at {lo i : Int} {n j : Nat} (h : (rgI lo n)[j]? = some i) : j < n ∧ i = lo + (j : Int) := by
  unfold rgI at h
  rw [List.getElem?_map] at h
  by_cases q : j < n
  · rw [List.getElem?_range q] at h
    cases h
    exact ⟨q, rfl⟩
  · rw [List.getElem?_eq_none (by rw [List.length_range]; omega)] at h
    cases h
theorem rgI_succ (n : Nat) : rgI 0 n ++ [(n : Int)] = rgI 0 (n + 1) := by
  unfold rgI
  rw [List.range_succ, List.map_append]
  simp
theorem rngD_I (lo : Int) (n : Nat) : rangeD lo n = (rgI lo n).map D.int := by
  unfold rangeD rgI
  rw [List.map_map]
  rfl
theorem rng_1 {n : Int} (h : -1000000 ≤ n) (h2 : n ≤ 1000000) : rngL [.int n] = some ((rgI 0 n.toNat).map D.int) := by rw [rngL_1 h h2, rngD_I]
theorem rng_2 {m n : Int} (h : -1000000 ≤ m) (h2 : m ≤ 1000000) (h3 : -1000000 ≤ n) (h4 : n ≤ 1000000) : rngL [.int m, .int n] = some ((rgI m (n - m).toNat).map D.int) := by rw [rngL_2 h h2 h3 h4, rngD_I]
theorem rgA_1 {n : Int} : rngA [.int n] = some ((rgI 0 n.toNat).map D.int) := by rw [← rngD_I]; rfl
theorem rgA_2 {m n : Int} : rngA [.int m, .int n] = some ((rgI m (n - m).toNat).map D.int) := by rw [← rngD_I]; rfl
theorem allB_map {α : Type} (c : α → Bool) : ∀ l : List α, allB (l.map fun a => D.bl (c a)) = some (l.map c)
  | [] => rfl
  | a :: r => by
    rw [List.map_cons]
    unfold allB
    rw [allB_map c r]
    rfl
theorem all_m {α : Type} {c : α → Bool} {l : List α} : bltin .all [.lst (l.map fun a => D.bl (c a))] = some (.d (.bl (l.all c))) := by
  show (match allB (l.map fun a => D.bl (c a)) with | some bs => some (AV.d (.bl (bs.all id))) | none => none) = _
  rw [allB_map]
  simp [List.all_map]
theorem any_m {α : Type} {c : α → Bool} {l : List α} : bltin .any [.lst (l.map fun a => D.bl (c a))] = some (.d (.bl (l.any c))) := by
  show (match allB (l.map fun a => D.bl (c a)) with | some bs => some (AV.d (.bl (bs.any id))) | none => none) = _
  rw [allB_map]
  simp [List.any_map]
theorem len_m {α : Type} {f : α → D} {l : List α} : bltin .len [.lst (l.map f)] = some (.d (.int l.length)) := by
  show some (AV.d (.int ((l.map f).length : Int))) = _
  rw [List.length_map]
theorem len_tm {α : Type} {f : α → D} {l : List α} : bltin .len [.tup (l.map f)] = some (.d (.int l.length)) := by
  show some (AV.d (.int ((l.map f).length : Int))) = _
  rw [List.length_map]
theorem app_m {α : Type} {f : α → D} {l : List α} {a : α} (h : l.length < 100000) : mtf .append (.lst (l.map f)) [f a] = some (.lst ((l ++ [a]).map f), .d .non) := by
  rw [app_l (by rw [List.length_map]; exact h), List.map_append]
  rfl
theorem map_self (ds : List D) : ds = ds.map fun x => x := (List.map_id' ds).symm
theorem all_mb {α : Type} {c : α → Bool} {l : List α} {b : Bool} (h : l.all c = b) : bltin .all [.lst (l.map fun a => D.bl (c a))] = some (.d (.bl b)) := by rw [all_m, h]
theorem any_mb {α : Type} {c : α → Bool} {l : List α} {b : Bool} (h : l.any c = b) : bltin .any [.lst (l.map fun a => D.bl (c a))] = some (.d (.bl b)) := by rw [any_m, h]
theorem ints_plain : ∀ l : List Int, D.plains (l.map D.int) = true ∧ D.depths (l.map D.int) = 0
  | [] => ⟨rfl, rfl⟩
  | i :: r => by
    obtain ⟨h1, h2⟩ := ints_plain r
    refine ⟨?_, ?_⟩
    · show ((D.int i).plain && D.plains (r.map D.int)) = true
      rw [h1]; rfl
    · show max (D.int i).depth (D.depths (r.map D.int)) = 0
      rw [h2]; rfl
theorem ints_deep (l : List Int) : okDeep (.tup (l.map D.int)) = true ∧ okDeep (.lst (l.map D.int)) = true := by
  obtain ⟨h1, h2⟩ := ints_plain l
  refine ⟨?_, ?_⟩
  · unfold okDeep D.plain D.depth
    rw [h1, h2]; rfl
  · unfold okDeep D.plain D.depth
    rw [h1, h2]; rfl
theorem any_int (x : Int) : ∀ l : List Int, (l.map D.int).any (fun z => z.eqv (.int x)) = decide (x ∈ l)
  | [] => by simp
  | i :: r => by
    rw [List.map_cons, List.any_cons, any_int x r]
    have : D.eqv (.int i) (.int x) = decide (x = i) := by
      show (i == x) = _
      rw [Bool.eq_iff_iff]
      simp
      exact eq_comm
    rw [this]
    simp
theorem in_it {x : Int} {l : List Int} : cmp .in_ (.int x) (.tup (l.map D.int)) = some (decide (x ∈ l)) := by
  show (if okDeep (.int x) && okDeep (.tup (l.map D.int)) then some ((l.map D.int).any fun z => z.eqv (.int x)) else none) = _
  rw [(ints_deep l).1, any_int]
  rfl
theorem in_il {x : Int} {l : List Int} : cmp .in_ (.int x) (.lst (l.map D.int)) = some (decide (x ∈ l)) := by
  show (if okDeep (.int x) && okDeep (.lst (l.map D.int)) then some ((l.map D.int).any fun z => z.eqv (.int x)) else none) = _
  rw [(ints_deep l).2, any_int]
  rfl
theorem eqvs_int : ∀ a b : List Int, D.eqvs (a.map D.int) (b.map D.int) = decide (a = b)
  | [], [] => rfl
  | [], _ :: _ => rfl
  | _ :: _, [] => rfl
  | x :: a, y :: b => by
    show (D.eqv (.int x) (.int y) && D.eqvs (a.map D.int) (b.map D.int)) = _
    rw [eqvs_int a b]
    show ((x == y) && decide (a = b)) = _
    rw [Bool.eq_iff_iff]
    simp
theorem eq_it {a b : List Int} : cmp .eq (.tup (a.map D.int)) (.tup (b.map D.int)) = some (decide (a = b)) := by
  show (if okDeep (.tup (a.map D.int)) && okDeep (.tup (b.map D.int)) then some (D.eqvs (a.map D.int) (b.map D.int)) else none) = _
  rw [(ints_deep a).1, (ints_deep b).1, eqvs_int]
  rfl
theorem eq_il {a b : List Int} : cmp .eq (.lst (a.map D.int)) (.lst (b.map D.int)) = some (decide (a = b)) := by
  show (if okDeep (.lst (a.map D.int)) && okDeep (.lst (b.map D.int)) then some (D.eqvs (a.map D.int) (b.map D.int)) else none) = _
  rw [(ints_deep a).2, (ints_deep b).2, eqvs_int]
  rfl
theorem ne_it {a b : List Int} : cmp .ne (.tup (a.map D.int)) (.tup (b.map D.int)) = some (!decide (a = b)) := by
  show (if okDeep (.tup (a.map D.int)) && okDeep (.tup (b.map D.int)) then some (!D.eqvs (a.map D.int) (b.map D.int)) else none) = _
  rw [(ints_deep a).1, (ints_deep b).1, eqvs_int]
  rfl
theorem ne_il {a b : List Int} : cmp .ne (.lst (a.map D.int)) (.lst (b.map D.int)) = some (!decide (a = b)) := by
  show (if okDeep (.lst (a.map D.int)) && okDeep (.lst (b.map D.int)) then some (!D.eqvs (a.map D.int) (b.map D.int)) else none) = _
  rw [(ints_deep a).2, (ints_deep b).2, eqvs_int]
  rfl
theorem it_i {l : List Int} {i : Int} (h : 0 ≤ i) (h2 : i < l.length) : itemD (.tup (l.map D.int)) (.int i) = some (.d (.int (l.getD i.toNat 0))) := by
  show (ixAt (l.map D.int) i).map AV.d = _
  unfold ixAt ixN
  have hl : i.toNat < l.length := by omega
  rw [List.length_map, if_pos h, if_pos h2]
  simp [hl]
theorem il_i {l : List Int} {i : Int} (h : 0 ≤ i) (h2 : i < l.length) : itemD (.lst (l.map D.int)) (.int i) = some (.d (.int (l.getD i.toNat 0))) := it_i h h2
theorem it_n {l : List Int} {i : Int} (h : i < 0) (h2 : -(l.length : Int) ≤ i) : itemD (.tup (l.map D.int)) (.int i) = some (.d (.int (l.getD (i + l.length).toNat 0))) := by
  show (ixAt (l.map D.int) i).map AV.d = _
  unfold ixAt ixN
  have hl : (i + (l.length : Int)).toNat < l.length := by omega
  rw [List.length_map, if_neg (by omega), if_pos h2]
  simp [hl]
theorem il_n {l : List Int} {i : Int} (h : i < 0) (h2 : -(l.length : Int) ≤ i) : itemD (.lst (l.map D.int)) (.int i) = some (.d (.int (l.getD (i + l.length).toNat 0))) := it_n h h2
theorem cutI (l : List Int) (lo hi : Option Int) : cut (l.map D.int) lo hi = (cut l lo hi).map D.int := by
  unfold cut
  rw [List.length_map, ← List.map_drop, ← List.map_take]
theorem sl_it {l : List Int} {lo hi : Option Int} : sliceOf (.tup (l.map D.int)) lo hi = some (.d (.tup ((cut l lo hi).map D.int))) := by rw [← cutI]; rfl
theorem sl_il {l : List Int} {lo hi : Option Int} : sliceOf (.lst (l.map D.int)) lo hi = some (.o (.lst ((cut l lo hi).map D.int))) := by rw [← cutI]; rfl
theorem cut_1 {α : Type} (l : List α) : cut l (some 1) none = l.drop 1 := by
  unfold cut clip
  simp only []
  rw [if_neg (by decide)]
  by_cases h : 1 ≤ l.length
  · rw [Nat.min_eq_left (by simpa using h)]
    exact List.take_of_length_le (by simp)
  · have : l = [] := List.length_eq_zero_iff.mp (by omega)
    subst this
    rfl
theorem cut_h1 {α : Type} (l : List α) : cut l none (some 1) = l.take 1 := by
  unfold cut clip
  simp only []
  rw [if_neg (by decide), List.drop_zero, Nat.sub_zero]
  cases l <;> simp
theorem cut_m {α : Type} (l : List α) : cut l none (some (-1)) = l.dropLast := by
  unfold cut clip
  simp only []
  rw [if_pos (by decide), List.drop_zero, Nat.sub_zero, List.dropLast_eq_take]
  congr 1
  omega
theorem cut_ap {α : Type} {l : List α} {i : Int} (h : 0 ≤ i) (h2 : i ≤ l.length) : cut l none (some i) = l.take i.toNat := by
  unfold cut clip
  simp only []
  rw [if_neg (by omega), List.drop_zero, Nat.sub_zero, Nat.min_eq_left (by omega)]
theorem cut_fr {α : Type} {l : List α} {i : Int} (h : 0 ≤ i) : cut l (some i) none = l.drop i.toNat := by
  unfold cut clip
  simp only []
  rw [if_neg (by omega)]
  by_cases h2 : i.toNat ≤ l.length
  · rw [Nat.min_eq_left h2]
    exact List.take_of_length_le (by simp)
  · rw [Nat.min_eq_right (by omega), List.drop_of_length_le (Nat.le_refl _), List.drop_of_length_le (by omega)]
    exact List.take_nil
theorem zipI : ∀ a b : List Int, zipD (a.map D.int) (b.map D.int) = (a.zip b).map fun p => .tup [.int p.1, .int p.2]
  | [], _ => by cases ‹List Int› <;> rfl
  | _ :: _, [] => rfl
  | x :: a, y :: b => by
    show D.tup [.int x, .int y] :: zipD (a.map D.int) (b.map D.int) = _
    rw [zipI a b]
    rfl
theorem zip_i {a b : List Int} : zipL [.tup (a.map D.int), .tup (b.map D.int)] = some ((a.zip b).map fun p => .tup [.int p.1, .int p.2]) := by
  show some (zipD (a.map D.int) (b.map D.int)) = _
  rw [zipI]
/-! ### a thing handed in -/
theorem x_hd {f i : Nat} {es : Es} {s s1 s2 : S} {ds : List D} {h0 h1 d : D} {w : SV} (e0 : GetR s i (.o h0)) (h : evs C lk es s = .ok ds s1) (e1 : GetR s1 i (.o h1)) (h2 : C f (some h1) ds = .ok (.d d) (some w)) (h3 : PutR s1 i w s2) : ev C lk (.callH f i es) s = .ok (.d d) s2 := by
  have := ev_callH (C := C) (lk := lk) e0.eq h e1.eq h2
  rw [h3.eq.1] at this
  exact this
theorem x_ho {f i : Nat} {es : Es} {s s1 s2 : S} {ds : List D} {h0 h1 d : D} {w : SV} (e0 : GetR s i (.o h0)) (h : evs C lk es s = .ok ds s1) (e1 : GetR s1 i (.o h1)) (h2 : C f (some h1) ds = .ok (.o d) (some w)) (h3 : PutR s1 i w s2) : ev C lk (.callH f i es) s = .ok (.o d) s2 := by
  have := ev_callH (C := C) (lk := lk) e0.eq h e1.eq h2
  rw [h3.eq.1] at this
  exact this
/-! ### loops -/
/-- a walk with an invariant; the end -/
theorem x_for {α β : Type} {l : List β} {g : β → D} {St : α → S} {Iv : Nat → α → Prop} {tg : Tg} {it : I} {b : Ts} {s : S} {ds : List D} {a0 : α} (h1 : evi C lk it s = .ok ds (St a0)) (hd : ds = l.map g) (h0 : Iv 0 a0)
    (h : ∀ (j : Nat) (x : β) (a : α), l[j]? = some x → Iv j a → ∃ z a', BindR lk tg (g x) (St a) z ∧ exs C lk b z = .ok .nx (St a') ∧ Iv (j + 1) a') : ∃ a, ex C lk (.for_ tg it b) s = .ok .nx (St a) ∧ Iv l.length a := by
  subst hd
  rw [ex_for h1]
  have key : ∀ (l : List β) (k : Nat) (a : α), Iv k a → (∀ (j : Nat) (x : β) (a : α), l[j]? = some x → Iv (k + j) a → ∃ z a', BindR lk tg (g x) (St a) z ∧ exs C lk b z = .ok .nx (St a') ∧ Iv (k + j + 1) a') →
      ∃ a', forL (bindTg lk tg) (fun z => exs C lk b z) (l.map g) (St a) = .ok .nx (St a') ∧ Iv (k + l.length) a' := by
    intro l
    induction l with
    | nil => intro k a hi _; exact ⟨a, rfl, hi⟩
    | cons x r ih =>
      intro k a hi h
      obtain ⟨z, a1, e1, e2, i1⟩ := h 0 x a rfl hi
      obtain ⟨a2, e3, i2⟩ := ih (k + 1) a1 i1 fun j y c hj hc => by
        have := h (j + 1) y c (by rw [List.getElem?_cons_succ]; exact hj) (by rw [show k + (j + 1) = k + 1 + j from by omega]; exact hc)
        rw [show k + (j + 1) + 1 = k + 1 + j + 1 from by omega] at this
        exact this
      refine ⟨a2, ?_, by rw [List.length_cons, show k + (r.length + 1) = k + 1 + r.length from by omega]; exact i2⟩
      rw [List.map_cons]
      unfold forL
      rw [e1.eq]
      simp only
      rw [e2]
      exact e3
  have := key l 0 a0 h0 fun j x a hj hi => by
    have := h j x a hj (by rw [Nat.zero_add] at hi; exact hi)
    rw [Nat.zero_add]
    exact this
  rw [Nat.zero_add] at this
  exact this
end FL

/-! FLZ: running what is raised and handled. -/
namespace FL
open PySem
section
variable {C : Calls} {lk : Nat}
/-- a block raises -/
def Throws (C : Calls) (lk : Nat) (ts : Ts) (s : S) (x : Exn) : Prop := ∃ z, exs C lk ts s = .ex x z
theorem exs_ex {t : T} {ts : Ts} {s z : S} {x : Exn} (h : ex C lk t s = .ex x z) : exs C lk (.cons t ts) s = .ex x z := by
  unfold exs
  rw [h]
  rfl
theorem th_nx {t : T} {ts : Ts} {s s1 : S} {x : Exn} (h : ex C lk t s = .ok .nx s1) (h2 : Throws C lk ts s1 x) : Throws C lk (.cons t ts) s x := by
  obtain ⟨z, h2⟩ := h2
  exact ⟨z, (exs_nx h).trans h2⟩
theorem th_rse {c : Nat} {ts : Ts} {s : S} : Throws C lk (.cons (.rse c) ts) s ⟨c, none⟩ := ⟨s, exs_ex (by unfold ex; rfl)⟩
theorem th_ifT {c : E} {a b ts : Ts} {s s1 : S} {x : Exn} (h : ev C lk c s = .ok (.d (.bl true)) s1) (h2 : Throws C lk a s1 x) : Throws C lk (.cons (.if_ c a b) ts) s x := by
  obtain ⟨z, h2⟩ := h2
  exact ⟨z, exs_ex (x_ifT h h2)⟩
theorem th_ifF {c : E} {a b ts : Ts} {s s1 : S} {x : Exn} (h : ev C lk c s = .ok (.d (.bl false)) s1) (h2 : Throws C lk b s1 x) : Throws C lk (.cons (.if_ c a b) ts) s x := by
  obtain ⟨z, h2⟩ := h2
  exact ⟨z, exs_ex (x_ifF h h2)⟩
theorem th_expr {e : E} {ts : Ts} {s z : S} {x : Exn} (h : ev C lk e s = .ex x z) : Throws C lk (.cons (.expr e) ts) s x := ⟨z, exs_ex (by unfold ex; rw [h]; rfl)⟩
theorem th_ret {e : E} {ts : Ts} {s z : S} {x : Exn} (h : ev C lk e s = .ex x z) : Throws C lk (.cons (.ret e) ts) s x := ⟨z, exs_ex (by unfold ex; rw [h]; rfl)⟩
theorem th_asg {i : Nat} {e : E} {ts : Ts} {s z : S} {x : Exn} (h : ev C lk e s = .ex x z) : Throws C lk (.cons (.asg i e) ts) s x := ⟨z, exs_ex (by unfold ex; rw [h]; rfl)⟩
theorem Throws.run {P : Nat → Option Fn} {k f np n : Nat} {b : Ts} {ds : List D} {x : Exn} (e : Throws (callF P k) 0 b (FL.start n none ds) x) (hP : P f = some ⟨n, false, np, b⟩) (hn : ds.length = np) : callF P (k + 1) f none ds = .ex x none := by
  obtain ⟨z, e⟩ := e
  unfold callF
  rw [hP]
  simp only
  rw [if_pos ⟨rfl, hn⟩]
  have e' : exs (callF P k) (ln false) b (FL.start n none ds) = .ex x z := e
  rw [e']
  rfl
theorem x_callX {f : Nat} {es : Es} {s s1 : S} {ds : List D} {x : Exn} {h : Option SV} (h1 : evs C lk es s = .ok ds s1) (h2 : C f none ds = .ex x h) : ev C lk (.call f es) s = .ex x s1 := by
  unfold ev
  rw [h1]
  show callD C f ds s1 = _
  unfold callD
  rw [h2]
theorem x_lamT {g : Nat} {vs : List Nat} {e : E} {s s1 s2 s3 : S} {a : AV} {d : D} {v : SV} {ho : Option SV} (h1 : frzV vs s = some s1) (h2 : ev C lk e (dropO s1) = .ok a s2) (h3 : FrzR a s2 d s3) (h4 : C g none [.int 0, d] = .ok v ho) : ev C lk (.lam g vs e) s = .ok (svA v) s1 := by
  unfold ev
  rw [h1]
  simp only
  rw [h2]
  unfold lamD
  simp only
  rw [h3.eq]
  show noEx (callD C g [.int 0, d] s1) = _
  unfold callD
  rw [h4]
  cases v <;> rfl
theorem x_lamX {g c : Nat} {vs : List Nat} {e : E} {s s1 s2 : S} {v : SV} {ho : Option SV} (h1 : frzV vs s = some s1) (h2 : ev C lk e (dropO s1) = .ex ⟨c, none⟩ s2) (h4 : C g none [.int 1, .int (c : Int)] = .ok v ho) : ev C lk (.lam g vs e) s = .ok (svA v) s1 := by
  unfold ev
  rw [h1]
  simp only
  rw [h2]
  unfold lamD
  show noEx (callD C g [.int 1, .int (c : Int)] s1) = _
  unfold callD
  rw [h4]
  cases v <;> rfl
end
/-- a def that is handed a lambda: what it makes of a value, of an exception -/
theorem run_lamV {P : Nat → Option Fn} {k f n : Nat} {b : Ts} {d : D} {v : SV} {z : S} (hP : P f = some ⟨n, false, lamNp, b⟩) (h : exs (aC (callF P k) (.ok (.d d) none)) 1 b (FL.start n none []) = .ok (.rt v) z) : callF P (k + 1) f none [.int 0, d] = .ok v none := by
  unfold callF
  rw [hP]
  simp only
  rw [if_neg (by intro q; exact absurd q.2 (by unfold lamNp; simp)), if_pos ⟨trivial, trivial, trivial⟩]
  have e : unL [.int 0, d] = .ok (.d d) none := by simp [unL]
  rw [e]
  simp only
  rw [h]
theorem run_lamX {P : Nat → Option Fn} {k f n c : Nat} {b : Ts} {v : SV} {z : S} (hP : P f = some ⟨n, false, lamNp, b⟩) (h : exs (aC (callF P k) (.ex ⟨c, none⟩ none)) 1 b (FL.start n none []) = .ok (.rt v) z) : callF P (k + 1) f none [.int 1, .int (c : Int)] = .ok v none := by
  unfold callF
  rw [hP]
  simp only
  rw [if_neg (by intro q; exact absurd q.2 (by unfold lamNp; simp)), if_pos ⟨trivial, trivial, trivial⟩]
  have e : unL [.int 1, .int (c : Int)] = .ex ⟨c, none⟩ none := by simp [unL]
  rw [e]
  simp only
  rw [h]
/-- a try whose body raises; one whose body does not -/
theorem x_tryX {C : Calls} {lk : Nat} {b h : Ts} {i m c : Nat} {s s1 s2 : S} {f : Flow} (hl : lk.testBit i = false) (h1 : exs C lk b s = .ex ⟨c, none⟩ s1) (hi : i < s1.length) (hm : c < m) (h2 : exs (xC C ⟨c, none⟩) (lk ||| (1 <<< i)) h (s1.set i none) = .ok f s2) : ex C lk (.try_ b i m h) s = .ok f (s2.set i none) := by
  unfold ex
  rw [if_neg (by rw [hl]; decide), h1]
  simp only
  rw [if_pos ⟨rfl, hi, hm⟩, h2]
  rfl
theorem x_tryO {C : Calls} {lk : Nat} {b h : Ts} {i m : Nat} {s s1 : S} {f : Flow} (hl : lk.testBit i = false) (h1 : exs C lk b s = .ok f s1) : ex C lk (.try_ b i m h) s = .ok f s1 := by
  unfold ex
  rw [if_neg (by rw [hl]; decide), h1]
end FL

/-! FLW: what holds behind a reading, form by form, forwards. -/
namespace FLW
open FL
open PySem (Str)
abbrev PR := Exn → S → Prop
def NoR : PR := fun _ _ => False
inductive Post {α : Type} : Out α → (α → S → Prop) → PR → Prop where
  | y {a : α} {s : S} {Q : α → S → Prop} {R : PR} (q : Q a s) : Post (.ok a s) Q R
  | x {x : Exn} {s : S} {Q : α → S → Prop} {R : PR} (q : R x s) : Post (.ex x s) Q R
theorem Post.of {α : Type} {o : Out α} {a : α} {s : S} {Q : α → S → Prop} {R : PR} (e : o = .ok a s) (q : Q a s) : Post o Q R := by subst e; exact .y q
theorem Post.gy {α : Type} {a : α} {s : S} {Q : α → S → Prop} {R : PR} (h : Post (.ok a s) Q R) : Q a s := by cases h; assumption
theorem Post.gx {α : Type} {x : Exn} {s : S} {Q : α → S → Prop} {R : PR} (h : Post (.ex x s) Q R) : R x s := by cases h; assumption
theorem Post.gn {α : Type} {Q : α → S → Prop} {R : PR} {P : Prop} (h : Post .no Q R) : P := by cases h
theorem Post.bind {α β : Type} {o : Out α} {f : α → S → Out β} {Q : β → S → Prop} {R : PR} (h : Post o (fun a s => Post (f a s) Q R) R) : Post (o.bind f) Q R := by
  cases h with
  | y q => exact q
  | x q => exact .x q
theorem Post.mono {α : Type} {o : Out α} {Q Q' : α → S → Prop} {R R' : PR} (h : Post o Q R) (h1 : ∀ a s, Q a s → Q' a s) (h2 : ∀ x s, R x s → R' x s) : Post o Q' R' := by
  cases h with
  | y q => exact .y (h1 _ _ q)
  | x q => exact .x (h2 _ _ q)
theorem Post.ok {α : Type} {o : Out α} {Q : α → S → Prop} (h : Post o Q NoR) : ∃ a s, o = .ok a s ∧ Q a s := by
  cases h with
  | y q => exact ⟨_, _, rfl, q⟩
  | x q => exact absurd q id
def W (C : Calls) (lk : Nat) (e : E) (s : S) (Q : AV → S → Prop) (R : PR) : Prop := Post (ev C lk e s) Q R
def Ws (C : Calls) (lk : Nat) (e : Es) (s : S) (Q : List D → S → Prop) (R : PR) : Prop := Post (evs C lk e s) Q R
def Wk (C : Calls) (lk : Nat) (e : Es) (s : S) (Q : List SV → S → Prop) (R : PR) : Prop := Post (evk C lk e s) Q R
def Wo (C : Calls) (lk : Nat) (e : Eo) (s : S) (Q : Option Int → S → Prop) (R : PR) : Prop := Post (evo C lk e s) Q R
def Wi (C : Calls) (lk : Nat) (e : I) (s : S) (Q : List D → S → Prop) (R : PR) : Prop := Post (evi C lk e s) Q R
def X (C : Calls) (lk : Nat) (t : T) (s : S) (Q : Flow → S → Prop) (R : PR) : Prop := Post (ex C lk t s) Q R
def Xs (C : Calls) (lk : Nat) (t : Ts) (s : S) (Q : Flow → S → Prop) (R : PR) : Prop := Post (exs C lk t s) Q R
variable {C : Calls} {lk : Nat} {s s1 s2 s3 : S} {R : PR}
section
variable {Q : AV → S → Prop}
theorem w_of {e : E} {x : AV} (h : ev C lk e s = .ok x s1) (q : Q x s1) : W C lk e s Q R := by unfold W; rw [h]; exact .y q
theorem w_mono {e : E} {Q' : AV → S → Prop} (h : W C lk e s Q' R) (q : ∀ x s', Q' x s' → Q x s') : W C lk e s Q R := Post.mono h q fun _ _ h => h
theorem w_c {d : D} (q : Q (.d d) s) : W C lk (.c d) s Q R := w_of x_c q
theorem w_g {n : Str} {d : D} (q : Q (.d d) s) : W C lk (.g n d) s Q R := w_of x_g q
theorem w_vd {i : Nat} {d : D} (h : GetR s i (.d d)) (q : Q (.d d) s) : W C lk (.v i) s Q R := w_of (x_vd h) q
theorem w_vo {i : Nat} {d : D} (h : GetR s i (.o d)) (q : Q (.s i) s) : W C lk (.v i) s Q R := w_of (x_vo h) q
/-- what two seen things give -/
def Two (f : D → D → Option AV) (x y : AV) (s : S) (Q : AV → S → Prop) : Prop := ∃ d1 d2 v, view (pend x) s = some d1 ∧ view y s = some d2 ∧ f d1 d2 = some v ∧ Q v s
theorem two {f : D → D → Option AV} {x y v : AV} {d1 d2 : D} (h1 : ViewR x s d1) (h2 : ViewR y s d2) (h : f d1 d2 = some v) (q : Q v s) : Two f x y s Q := ⟨d1, d2, v, h1.pe, h2.eq, h, q⟩
theorem Two.post {f : D → D → Option AV} {x y : AV} (h : Two f x y s Q) : Post (match view (pend x) s, view y s with | some d1, some d2 => ofO (f d1 d2) s | _, _ => Out.no) Q R := by
  obtain ⟨d1, d2, v, e1, e2, e3, q⟩ := h
  rw [e1, e2]
  simp only
  rw [e3]
  exact .y q
theorem w_op {o : Op} {a b : E} (h : W C lk a s (fun x s1 => W C lk b s1 (fun y s2 => Two (binop o) x y s2 Q) R) R) : W C lk (.op o a b) s Q R := by
  unfold W ev
  exact Post.bind (Post.mono h (fun x s1 h => Post.bind (Post.mono h (fun y s2 h => h.post) fun _ _ h => h)) fun _ _ h => h)
theorem w_ix {a b : E} (h : W C lk a s (fun x s1 => W C lk b s1 (fun y s2 => Two itemD x y s2 Q) R) R) : W C lk (.ix a b) s Q R := by
  unfold W ev
  exact Post.bind (Post.mono h (fun x s1 h => Post.bind (Post.mono h (fun y s2 h => h.post) fun _ _ h => h)) fun _ _ h => h)
/-- .. where they are compared -/
def Cmp (o : Cm) (x y : AV) (s : S) (Q : AV → S → Prop) : Prop := ∃ d1 d2 k, view (pend x) s = some d1 ∧ view y s = some d2 ∧ cmp o d1 d2 = some k ∧ Q (.d (.bl k)) s
theorem cmp_i {o : Cm} {x y : AV} {d1 d2 : D} {k : Bool} (h1 : ViewR x s d1) (h2 : ViewR y s d2) (h : cmp o d1 d2 = some k) (q : Q (.d (.bl k)) s) : Cmp o x y s Q := ⟨d1, d2, k, h1.pe, h2.eq, h, q⟩
theorem w_cm {o : Cm} {a b : E} (h : W C lk a s (fun x s1 => W C lk b s1 (fun y s2 => Cmp o x y s2 Q) R) R) : W C lk (.cm o a b) s Q R := by
  unfold W ev
  refine Post.bind (Post.mono h (fun x s1 h => Post.bind (Post.mono h (fun y s2 h => ?_) fun _ _ h => h)) fun _ _ h => h)
  obtain ⟨d1, d2, k, e1, e2, e3, q⟩ := h
  rw [e1, e2]
  simp only
  rw [e3]
  exact .y q
/-- one comparison behind another -/
def Chn (C : Calls) (lk : Nat) (o p : Cm) (c : E) (x y : AV) (s : S) (Q : AV → S → Prop) (R : PR) : Prop := ∃ d1 d2 k, view (pend x) s = some d1 ∧ view (pend y) s = some d2 ∧ cmp o d1 d2 = some k ∧ (k = true → W C lk c s (fun z s3 => Cmp p (pend y) z s3 Q) R) ∧ (k = false → Q (.d (.bl false)) s)
theorem pend2 (x : AV) : pend (pend x) = pend x := by cases x <;> rfl
theorem w_ch {o p : Cm} {a b c : E} (h : W C lk a s (fun x s1 => W C lk b s1 (fun y s2 => Chn C lk o p c x y s2 Q R) R) R) : W C lk (.ch o p a b c) s Q R := by
  unfold W ev
  refine Post.bind (Post.mono h (fun x s1 h => Post.bind (Post.mono h (fun y s2 h => ?_) fun _ _ h => h)) fun _ _ h => h)
  obtain ⟨d1, d2, k, e1, e2, e3, q1, q2⟩ := h
  rw [e1, e2]
  simp only
  rw [e3]
  simp only
  cases k with
  | false => rw [if_neg (by decide)]; exact .y (q2 rfl)
  | true =>
    rw [if_pos rfl]
    refine Post.bind (Post.mono (q1 rfl) (fun z s3 h => ?_) fun _ _ h => h)
    obtain ⟨d1, d2, k, e1, e2, e3, q⟩ := h
    rw [pend2] at e1
    rw [e1, e2]
    simp only
    rw [e3]
    exact .y q
theorem chn {o p : Cm} {c : E} {x y : AV} {d1 d2 : D} {k : Bool} (h1 : ViewR x s d1) (h2 : ViewR y s d2) (h : cmp o d1 d2 = some k) (q1 : k = true → W C lk c s (fun z s3 => Cmp p (pend y) z s3 Q) R) (q2 : k = false → Q (.d (.bl false)) s) : Chn C lk o p c x y s Q R := ⟨d1, d2, k, h1.pe, h2.pe, h, q1, q2⟩
/-- .. the second reckoned though the first fail -/
theorem chn_p {o p : Cm} {c : E} {x y z : AV} {d1 d2 d3 : D} {k m : Bool} (h1 : ViewR x s d1) (h2 : ViewR y s d2) (h : cmp o d1 d2 = some k) (hc : ev C lk c s = .ok z s) (h3 : ViewR z s d3) (h4 : cmp p d2 d3 = some m) (q : Q (.d (.bl (k && m))) s) : Chn C lk o p c x y s Q R := by
  refine ⟨d1, d2, k, h1.pe, h2.pe, h, fun e => ?_, fun e => ?_⟩
  · subst e
    exact w_of hc ⟨d2, d3, m, by rw [pend2]; exact h2.pe, h3.eq, h4, q⟩
  · subst e
    exact q
/-- a flag is told -/
def Flag (x : AV) (K : Bool → Prop) : Prop := ∃ k, x = .d (.bl k) ∧ K k
theorem flag {k : Bool} {K : Bool → Prop} (h : K k) : Flag (.d (.bl k)) K := ⟨k, rfl, h⟩
theorem w_neg {a : E} (h : W C lk a s (fun x s1 => ∃ i, x = .d (.int i) ∧ Q (.d (.int (-i))) s1) R) : W C lk (.neg a) s Q R := by
  unfold W ev
  refine Post.bind (Post.mono h (fun x s1 h => ?_) fun _ _ h => h)
  obtain ⟨i, rfl, q⟩ := h
  exact .y q
theorem w_not {a : E} (h : W C lk a s (fun x s1 => Flag x fun k => Q (.d (.bl (!k))) s1) R) : W C lk (.not a) s Q R := by
  unfold W ev
  refine Post.bind (Post.mono h (fun x s1 h => ?_) fun _ _ h => h)
  obtain ⟨i, rfl, q⟩ := h
  exact .y q
/-- two ways -/
def Br (k : Bool) (A B : Prop) : Prop := (k = true → A) ∧ (k = false → B)
theorem br {k : Bool} {A B : Prop} (h1 : k = true → A) (h2 : k = false → B) : Br k A B := ⟨h1, h2⟩
theorem brT {k : Bool} {A B : Prop} (h : k = true) (h1 : A) : Br k A B := ⟨fun _ => h1, fun e => by rw [h] at e; cases e⟩
theorem brF {k : Bool} {A B : Prop} (h : k = false) (h1 : B) : Br k A B := ⟨fun e => (by rw [h] at e; cases e), fun _ => h1⟩
theorem Br.of {k : Bool} {A B : Prop} (h : Br k A B) : if k = true then A else B := by
  cases k with
  | true => rw [if_pos rfl]; exact h.1 rfl
  | false => rw [if_neg (by decide)]; exact h.2 rfl
theorem w_and {a b : E} (h : W C lk a s (fun x s1 => Flag x fun k => Br k (W C lk b s1 Q R) (Q (.d (.bl false)) s1)) R) : W C lk (.and a b) s Q R := by
  unfold W ev
  refine Post.bind (Post.mono h (fun x s1 h => ?_) fun _ _ h => h)
  obtain ⟨k, rfl, q⟩ := h
  cases k with
  | true => exact q.1 rfl
  | false => exact .y (q.2 rfl)
theorem w_or {a b : E} (h : W C lk a s (fun x s1 => Flag x fun k => Br k (Q (.d (.bl true)) s1) (W C lk b s1 Q R)) R) : W C lk (.or a b) s Q R := by
  unfold W ev
  refine Post.bind (Post.mono h (fun x s1 h => ?_) fun _ _ h => h)
  obtain ⟨k, rfl, q⟩ := h
  cases k with
  | true => exact .y (q.1 rfl)
  | false => exact q.2 rfl
/-- .. both reckoned, where neither changes anything -/
theorem w_andP {a b : E} {k m : Bool} (h1 : ev C lk a s = .ok (.d (.bl k)) s) (h2 : k = true → ev C lk b s = .ok (.d (.bl m)) s) (q : Q (.d (.bl (k && m))) s) : W C lk (.and a b) s Q R := by
  refine w_and (w_of h1 ⟨k, rfl, fun e => w_of (h2 e) ?_, fun e => ?_⟩)
  · subst e; exact q
  · subst e; exact q
theorem w_orP {a b : E} {k m : Bool} (h1 : ev C lk a s = .ok (.d (.bl k)) s) (h2 : k = false → ev C lk b s = .ok (.d (.bl m)) s) (q : Q (.d (.bl (k || m))) s) : W C lk (.or a b) s Q R := by
  refine w_or (w_of h1 ⟨k, rfl, fun e => ?_, fun e => w_of (h2 e) ?_⟩)
  · subst e; exact q
  · subst e; exact q
theorem w_ite {c a b : E} (h : W C lk c s (fun x s1 => Flag x fun k => Br k (W C lk a s1 Q R) (W C lk b s1 Q R)) R) : W C lk (.ite c a b) s Q R := by
  unfold W ev
  refine Post.bind (Post.mono h (fun x s1 h => ?_) fun _ _ h => h)
  obtain ⟨k, rfl, q⟩ := h
  cases k with
  | true => exact q.1 rfl
  | false => exact q.2 rfl
theorem w_tup {es : Es} (h : Ws C lk es s (fun ds s1 => Q (.d (.tup ds)) s1) R) : W C lk (.tup es) s Q R := by
  unfold W ev
  exact Post.bind (Post.mono h (fun _ _ q => .y q) fun _ _ h => h)
theorem w_lst {es : Es} (h : Ws C lk es s (fun ds s1 => Q (.o (.lst ds)) s1) R) : W C lk (.lst es) s Q R := by
  unfold W ev
  exact Post.bind (Post.mono h (fun _ _ q => .y q) fun _ _ h => h)
/-- what one seen thing gives -/
def One (f : D → Option AV) (x : AV) (s : S) (Q : AV → S → Prop) : Prop := ∃ d v, view (pend x) s = some d ∧ f d = some v ∧ Q v s
theorem one {f : D → Option AV} {x v : AV} {d : D} (h1 : ViewR x s d) (h : f d = some v) (q : Q v s) : One f x s Q := ⟨d, v, h1.pe, h, q⟩
theorem w_sl {a : E} {lo hi : Eo} (h : W C lk a s (fun x s1 => Wo C lk lo s1 (fun l s2 => Wo C lk hi s2 (fun h s3 => One (fun d => sliceOf d l h) x s3 Q) R) R) R) : W C lk (.sl a lo hi) s Q R := by
  unfold W ev
  refine Post.bind (Post.mono h (fun x s1 h => Post.bind (Post.mono h (fun l s2 h => Post.bind (Post.mono h (fun h' s3 h => ?_) fun _ _ h => h)) fun _ _ h => h)) fun _ _ h => h)
  obtain ⟨d, v, e1, e2, q⟩ := h
  rw [e1]
  simp only
  simp only at e2
  rw [e2]
  exact .y q
theorem w_rev {a : E} {lo : Eo} (h : W C lk a s (fun x s1 => Wo C lk lo s1 (fun l s2 => One (fun d => revOf d l) x s2 Q) R) R) : W C lk (.rev a lo) s Q R := by
  unfold W ev
  refine Post.bind (Post.mono h (fun x s1 h => Post.bind (Post.mono h (fun l s2 h => ?_) fun _ _ h => h)) fun _ _ h => h)
  obtain ⟨d, v, e1, e2, q⟩ := h
  rw [e1]
  simp only
  simp only at e2
  rw [e2]
  exact .y q
theorem w_on {Q : Option Int → S → Prop} (q : Q none s) : Wo C lk .none s Q R := by unfold Wo evo; exact .y q
theorem w_os {Q : Option Int → S → Prop} {e : E} (h : W C lk e s (fun x s1 => ∃ i, x = .d (.int i) ∧ Q (some i) s1) R) : Wo C lk (.some e) s Q R := by
  unfold Wo evo
  refine Post.bind (Post.mono h (fun x s1 h => ?_) fun _ _ h => h)
  obtain ⟨i, rfl, q⟩ := h
  exact .y q
theorem w_b1 {b : Bi} {e : E} (h : W C lk e s (fun x s1 => One (fun d => bltin b [d]) x s1 Q) R) : W C lk (.bi b (.cons e .nil)) s Q R := by
  unfold W ev evv
  refine Post.bind (Post.bind (Post.mono h (fun x s1 h => ?_) fun _ _ h => h))
  obtain ⟨d, v, e1, e2, q⟩ := h
  simp only at e2
  unfold evv
  refine .y ?_
  show Post (match views [pend x] s1 with | some ds => ofO (bltin b ds) s1 | none => Out.no) Q R
  unfold views views
  rw [e1]
  simp only
  rw [e2]
  exact .y q
theorem w_b2 {b : Bi} {e e' : E} (h : W C lk e s (fun x s1 => W C lk e' s1 (fun y s2 => Two (fun d d' => bltin b [d, d']) x (pend y) s2 Q) R) R) : W C lk (.bi b (.cons e (.cons e' .nil))) s Q R := by
  unfold W ev evv
  refine Post.bind (Post.bind (Post.mono h (fun x s1 h => ?_) fun _ _ h => h))
  unfold evv
  refine Post.bind (Post.bind (Post.mono h (fun y s2 h => ?_) fun _ _ h => h))
  obtain ⟨d, d', v, e1, e2, e3, q⟩ := h
  simp only at e3
  unfold evv
  refine .y ?_
  refine .y ?_
  show Post (match views [pend x, pend y] s2 with | some ds => ofO (bltin b ds) s2 | none => Out.no) Q R
  unfold views views views
  rw [e1, e2]
  simp only
  rw [e3]
  exact .y q
/-- asked of what kind -/
def Isi (cs : List Cs) (x : AV) (s : S) (Q : AV → S → Prop) : Prop := ∃ d b, view (pend x) s = some d ∧ isiAny d cs = some b ∧ Q (.d (.bl b)) s
theorem isi_i {cs : List Cs} {x : AV} {d : D} {b : Bool} (h1 : ViewR x s d) (h : isiAny d cs = some b) (q : Q (.d (.bl b)) s) : Isi cs x s Q := ⟨d, b, h1.pe, h, q⟩
theorem w_isi {a : E} {t : Bool} {cs : List Cs} (h : W C lk a s (fun x s1 => Isi cs x s1 Q) R) : W C lk (.isi a t cs) s Q R := by
  unfold W ev
  refine Post.bind (Post.mono h (fun x s1 h => ?_) fun _ _ h => h)
  obtain ⟨d, b, e1, e2, q⟩ := h
  rw [e1]
  simp only
  rw [e2]
  exact .y q
theorem w_fld {a : E} {f : Str} (h : W C lk a s (fun x s1 => One (fun d => fldD d f) x s1 Q) R) : W C lk (.fld a f) s Q R := by
  unfold W ev
  refine Post.bind (Post.mono h (fun x s1 h => ?_) fun _ _ h => h)
  obtain ⟨d, v, e1, e2, q⟩ := h
  have e1' : view x s1 = some d := by
    cases x <;> exact e1
  rw [e1']
  simp only
  simp only at e2
  rw [e2]
  exact .y q
/-- a call's end -/
def Cl (C : Calls) (f : Nat) (ds : List D) (s : S) (Q : AV → S → Prop) (R : PR) : Prop := (∃ v h, C f none ds = .ok v h ∧ Q (svA v) s) ∨ ∃ x h, C f none ds = .ex x h ∧ R x s
theorem cl_d {f : Nat} {ds : List D} {d : D} {h : Option SV} (e : C f none ds = .ok (.d d) h) (q : Q (.d d) s) : Cl C f ds s Q R := .inl ⟨_, _, e, q⟩
theorem cl_o {f : Nat} {ds : List D} {d : D} {h : Option SV} (e : C f none ds = .ok (.o d) h) (q : Q (.o d) s) : Cl C f ds s Q R := .inl ⟨_, _, e, q⟩
theorem cl_x {f : Nat} {ds : List D} {x : Exn} {h : Option SV} (e : C f none ds = .ex x h) (q : R x s) : Cl C f ds s Q R := .inr ⟨_, _, e, q⟩
/-- .. where just something is known of what comes -/
def CN (C : Calls) (f : Nat) (ds : List D) (P : SV → Prop) : Prop := ∃ v h, C f none ds = .ok v h ∧ P v
theorem cl_n {f : Nat} {ds : List D} {P : SV → Prop} (e : CN C f ds P) (q : ∀ v, P v → Q (svA v) s) : Cl C f ds s Q R := by
  obtain ⟨v, h, e, p⟩ := e
  exact .inl ⟨v, h, e, q v p⟩
theorem Cl.post {f : Nat} {ds : List D} (h : Cl C f ds s Q R) : Post (callD C f ds s) Q R := by
  unfold callD
  rcases h with ⟨v, h, e, q⟩ | ⟨x, h, e, q⟩
  · rw [e]
    cases v <;> exact .y q
  · rw [e]
    exact .x q
theorem w_call {f : Nat} {es : Es} (h : Ws C lk es s (fun ds s1 => Cl C f ds s1 Q R) R) : W C lk (.call f es) s Q R := by
  unfold W ev
  exact Post.bind (Post.mono h (fun ds s1 h => h.post) fun _ _ h => h)
/-- what a call with a thing of its own handed in does -/
def CH (C : Calls) (f : Nat) (h : D) (ds : List D) (P : SV → D → Prop) : Prop := ∃ v h', C f (some h) ds = .ok v (some (.o h')) ∧ P v h'
theorem CH.mono {f : Nat} {h : D} {ds : List D} {P P' : SV → D → Prop} (e : CH C f h ds P) (q : ∀ v h', P v h' → P' v h') : CH C f h ds P' := by
  obtain ⟨v, h', e, p⟩ := e
  exact ⟨v, h', e, q _ _ p⟩
def CHQ (C : Calls) (f i : Nat) (ds : List D) (s : S) (Q : AV → S → Prop) : Prop := ∃ h v h' s', getS s i = some (.o h) ∧ C f (some h) ds = .ok v (some (.o h')) ∧ PutR s i (.o h') s' ∧ Q (svA v) s'
theorem chq {f i : Nat} {ds : List D} {h : D} {P : SV → D → Prop} (g : GetR s i (.o h)) (e : CH C f h ds P) (q : ∀ v h', P v h' → ∃ s', PutR s i (.o h') s' ∧ Q (svA v) s') : CHQ C f i ds s Q := by
  obtain ⟨v, h', e, p⟩ := e
  obtain ⟨s', p1, q⟩ := q _ _ p
  exact ⟨h, v, h', s', g.eq, e, p1, q⟩
theorem w_callH {f i : Nat} {es : Es} {h0 : D} (g : GetR s i (.o h0)) (h : Ws C lk es s (fun ds s1 => CHQ C f i ds s1 Q) R) : W C lk (.callH f i es) s Q R := by
  unfold W ev
  rw [g.eq]
  simp only
  refine Post.bind (Post.mono h (fun ds s1 h => ?_) fun _ _ h => h)
  obtain ⟨h, v, h', s', e1, e2, e3, q⟩ := h
  unfold callHD
  rw [e1]
  simp only
  rw [e2]
  rw [← e3.eq.1] at q
  cases v <;> exact .y q
theorem w_mk {c f : Nat} {es : Es} (h : Ws C lk es s (fun ds s1 => ∃ d, C f (some (.ins c [])) ds = .ok (.d .non) (some (.o d)) ∧ Q (.o d) s1) R) : W C lk (.mk c f es) s Q R := by
  unfold W ev
  refine Post.bind (Post.mono h (fun ds s1 h => ?_) fun _ _ h => h)
  obtain ⟨d, e, q⟩ := h
  unfold mkD
  rw [e]
  exact .y q
/-- a method of a list of one's own -/
def Mth (m : Mt) (i : Nat) (ds : List D) (s : S) (Q : AV → S → Prop) : Prop := ∃ d d' r s', getS s i = some (.o d) ∧ mtf m d ds = some (d', r) ∧ PutR s i (.o d') s' ∧ Q r s'
theorem mth {m : Mt} {i : Nat} {ds : List D} {d d' : D} {r : AV} {s' : S} (g : GetR s i (.o d)) (e : mtf m d ds = some (d', r)) (p : PutR s i (.o d') s') (q : Q r s') : Mth m i ds s Q := ⟨d, d', r, s', g.eq, e, p, q⟩
theorem w_mt {m : Mt} {i : Nat} {es : Es} {l : List D} (g : GetR s i (.o (.lst l))) (h : Ws C lk es s (fun ds s1 => Mth m i ds s1 Q) R) : W C lk (.mt m i es) s Q R := by
  unfold W ev
  rw [g.eq]
  simp only
  refine Post.bind (Post.mono h (fun ds s1 h => ?_) fun _ _ h => h)
  obtain ⟨d, d', r, s', e1, e2, e3, q⟩ := h
  unfold mtD
  rw [e1]
  simp only
  rw [e2]
  rw [← e3.eq.1] at q
  exact .y q
theorem w_dnew {t : Bool} (q : Q (.o (.dct t [])) s) : W C lk (.dnew t) s Q R := by unfold W ev; exact .y q
theorem w_trgT {es : Es} (h : Ws C lk es s (fun ds s1 => ∃ ns, rngA ds = some ns ∧ ns.length ≤ lim ∧ Q (.d (.tup ns)) s1) R) : W C lk (.trg true es) s Q R := by
  unfold W ev
  refine Post.bind (Post.mono h (fun ds s1 h => ?_) fun _ _ h => h)
  obtain ⟨ns, e, l, q⟩ := h
  rw [show rngT true ds = rngA ds from rfl, e]
  simp only
  rw [if_pos l]
  exact .y q
theorem w_trgF {es : Es} (h : Ws C lk es s (fun ds s1 => ∃ ns, rngL ds = some ns ∧ ns.length ≤ lim ∧ Q (.o (.lst ns)) s1) R) : W C lk (.trg false es) s Q R := by
  unfold W ev
  refine Post.bind (Post.mono h (fun ds s1 h => ?_) fun _ _ h => h)
  obtain ⟨ns, e, l, q⟩ := h
  rw [show rngT false ds = rngL ds from rfl, e]
  simp only
  rw [if_pos l]
  exact .y q
theorem w_eqm {ne : Bool} {c f : Nat} {a b : E} (h : W C lk a s (fun x s1 => ∃ fs s2, FrzR x s1 (.ins c fs) s2 ∧ W C lk b s2 (fun y s3 => ∃ gs s4 k h, FrzR y s3 (.ins c gs) s4 ∧ C f none [.ins c fs, .ins c gs] = .ok (.d (.bl k)) h ∧ Q (.d (.bl (ne != k))) s4) R) R) : W C lk (.eqm ne c f a b) s Q R := by
  unfold W ev
  refine Post.bind (Post.mono h (fun x s1 h => ?_) fun _ _ h => h)
  obtain ⟨fs, s2, e1, h⟩ := h
  rw [e1.eq]
  simp only
  refine Post.bind (Post.mono h (fun y s3 h => ?_) fun _ _ h => h)
  obtain ⟨gs, s4, k, ho, e2, e3, q⟩ := h
  rw [e2.eq]
  simp only
  unfold eqmD
  simp only [and_self, if_true]
  rw [e3]
  exact .y q
theorem w_d1 {k : Int} {i : Nat} {d : D} (h : FrzR (.s i) s d s1) (q : Q (.o (.dct false [(.int k, d)])) s1) : W C lk (.d1 k i) s Q R := by
  unfold W ev
  rw [h.eq]
  exact .y q
theorem w_d1d {k : Int} {i : Nat} {d : D} (h : GetR s i (.d d)) (q : Q (.o (.dct false [(.int k, d)])) s) : W C lk (.d1 k i) s Q R := by
  unfold W ev
  unfold frz
  simp only
  rw [h.eq]
  exact .y q
theorem w_xis {k : Nat} (h : Cl C xNum [.int (k : Int)] s Q R) : W C lk (.xis k) s Q R := by
  unfold W ev
  exact h.post
theorem w_act (hb : bare s = true) (h : Cl C aNum [] s Q R) : W C lk .act s Q R := by
  unfold W ev
  rw [if_pos hb]
  exact h.post
/-- a lambda's call by what the lambda gives -/
theorem w_lamI {g : Nat} {e : E} (h : W C lk e s (fun a s2 => ∃ d s3, FrzR a s2 d s3 ∧ Cl C g [.int 0, d] s3 Q NoR) (fun x s2 => x.f = none ∧ Cl C g [.int 1, .int (x.c : Int)] s2 Q NoR)) : W C lk (.lamI g e) s Q R := by
  unfold W ev
  unfold W at h
  cases ho : ev C lk e s with
  | ok a s2 =>
    rw [ho] at h
    obtain ⟨d, s3, e1, h⟩ := h.gy
    unfold lamE
    simp only
    rw [e1.eq]
    simp only
    obtain ⟨v, s4, e2, q⟩ := (h.post).ok
    rw [e2]
    exact .y q
  | ex x s2 =>
    rw [ho] at h
    obtain ⟨e1, h⟩ := h.gx
    unfold lamE
    simp only
    rw [e1]
    simp only
    obtain ⟨v, s4, e2, q⟩ := (h.post).ok
    rw [e2]
    exact .y q
  | no => rw [ho] at h; exact h.gn
theorem w_lam {g : Nat} {vs : List Nat} {e : E} (h1 : frzV vs s = some s1) (h : W C lk e (dropO s1) (fun a s2 => ∃ d s3, FrzR a s2 d s3 ∧ Cl C g [.int 0, d] s1 Q NoR) (fun x _ => x.f = none ∧ Cl C g [.int 1, .int (x.c : Int)] s1 Q NoR)) : W C lk (.lam g vs e) s Q R := by
  unfold W ev
  rw [h1]
  simp only
  unfold W at h
  cases ho : ev C lk e (dropO s1) with
  | ok a s2 =>
    rw [ho] at h
    obtain ⟨d, s3, e1, h⟩ := h.gy
    unfold lamD
    simp only
    rw [e1.eq]
    simp only
    obtain ⟨v, s4, e2, q⟩ := (h.post).ok
    rw [e2]
    exact .y q
  | ex x s2 =>
    rw [ho] at h
    obtain ⟨e1, h⟩ := h.gx
    unfold lamD
    simp only
    rw [e1]
    simp only
    obtain ⟨v, s4, e2, q⟩ := (h.post).ok
    rw [e2]
    exact .y q
  | no => rw [ho] at h; exact h.gn
end
/-! ### rows of expressions -/
section
variable {Q : List D → S → Prop}
theorem ws_nil (q : Q [] s) : Ws C lk .nil s Q R := by unfold Ws evs; exact .y q
/-- made data for good -/
def Fr (x : AV) (s : S) (Q : D → S → Prop) : Prop := ∃ d s', frz x s = some (d, s') ∧ Q d s'
theorem fr {x : AV} {d : D} {s' : S} {Q : D → S → Prop} (h : FrzR x s d s') (q : Q d s') : Fr x s Q := ⟨d, s', h.eq, q⟩
theorem ws_cons {e : E} {r : Es} (h : W C lk e s (fun x s1 => Fr x s1 fun d s2 => Ws C lk r s2 (fun ds s3 => Q (d :: ds) s3) R) R) : Ws C lk (.cons e r) s Q R := by
  unfold Ws evs
  refine Post.bind (Post.mono h (fun x s1 h => ?_) fun _ _ h => h)
  obtain ⟨d, s2, e1, h⟩ := h
  rw [e1]
  simp only
  exact Post.bind (Post.mono h (fun _ _ q => .y q) fun _ _ h => h)
theorem wi_e {e : E} (h : W C lk e s (fun x s1 => Fr x s1 fun d s2 => ∃ ds, seqOf d = some ds ∧ Q ds s2) R) : Wi C lk (.e e) s Q R := by
  unfold Wi evi
  refine Post.bind (Post.mono h (fun x s1 h => ?_) fun _ _ h => h)
  obtain ⟨d, s2, e1, ds, e2, q⟩ := h
  rw [e1]
  simp only
  rw [e2]
  exact .y q
theorem wi_rng {es : Es} (h : Ws C lk es s (fun ds s1 => ∃ ns, rngL ds = some ns ∧ Q ns s1) R) : Wi C lk (.rng es) s Q R := by
  unfold Wi evi
  refine Post.bind (Post.mono h (fun x s1 h => ?_) fun _ _ h => h)
  obtain ⟨ns, e1, q⟩ := h
  rw [e1]
  exact .y q
theorem wi_rrng {es : Es} (h : Ws C lk es s (fun ds s1 => ∃ ns, rngL ds = some ns ∧ Q ns.reverse s1) R) : Wi C lk (.rrng es) s Q R := by
  unfold Wi evi
  refine Post.bind (Post.mono h (fun x s1 h => ?_) fun _ _ h => h)
  obtain ⟨ns, e1, q⟩ := h
  rw [e1]
  exact .y q
theorem wi_zip {es : Es} (h : Ws C lk es s (fun ds s1 => ∃ ns, zipL ds = some ns ∧ Q ns s1) R) : Wi C lk (.zip es) s Q R := by
  unfold Wi evi
  refine Post.bind (Post.mono h (fun x s1 h => ?_) fun _ _ h => h)
  obtain ⟨ns, e1, q⟩ := h
  rw [e1]
  exact .y q
theorem wi_enum {es : Es} (h : Ws C lk es s (fun ds s1 => ∃ ns, enumL ds = some ns ∧ Q ns s1) R) : Wi C lk (.enum es) s Q R := by
  unfold Wi evi
  refine Post.bind (Post.mono h (fun x s1 h => ?_) fun _ _ h => h)
  obtain ⟨ns, e1, q⟩ := h
  rw [e1]
  exact .y q
end
section
variable {Q : List SV → S → Prop}
theorem wk_nil (q : Q [] s) : Wk C lk .nil s Q R := by unfold Wk evk; exact .y q
def Kp (x : AV) (s : S) (Q : SV → S → Prop) : Prop := ∃ d s', keepV x s = some (d, s') ∧ Q d s'
theorem kp {x : AV} {d : SV} {s' : S} {Q : SV → S → Prop} (h : KeepR x s d s') (q : Q d s') : Kp x s Q := ⟨d, s', h.eq, q⟩
theorem wk_cons {e : E} {r : Es} (h : W C lk e s (fun x s1 => Kp x s1 fun d s2 => Wk C lk r s2 (fun ds s3 => Q (d :: ds) s3) R) R) : Wk C lk (.cons e r) s Q R := by
  unfold Wk evk
  refine Post.bind (Post.mono h (fun x s1 h => ?_) fun _ _ h => h)
  obtain ⟨d, s2, e1, h⟩ := h
  rw [e1]
  simp only
  exact Post.bind (Post.mono h (fun _ _ q => .y q) fun _ _ h => h)
end
/-! ### comprehensions -/
section
variable {Q : AV → S → Prop}
/-- one turn, nothing changed outside -/
def Tu (C : Calls) (lk : Nat) (vs : List Nat) (tg : Tg) (el : E) (s : S) (d y : D) : Prop := ∃ s0 z, WipsR vs s s0 ∧ BindR lk tg d s0 z ∧ W C lk el z (fun x z1 => ∃ z2, FrzR x z1 y z2 ∧ wipeS vs z2 = wipeS vs s) NoR
theorem Tu.turn {vs : List Nat} {tg : Tg} {el : E} {d y : D} (h : Tu C lk vs tg el s d y) : Turn C lk vs tg el s d y := by
  obtain ⟨s0, z, h1, h2, h3⟩ := h
  obtain ⟨x, z1, e, z2, f, w⟩ := Post.ok h3
  exact turn_mk h1 h2 e f w
theorem tu {vs : List Nat} {tg : Tg} {el : E} {s s0 z : S} {d y : D} (h1 : WipsR vs s s0) (h2 : BindR lk tg d s0 z) (h : W C lk el z (fun x z1 => ∃ z2, FrzR x z1 y z2 ∧ wipeS vs z2 = wipeS vs s) NoR) : Tu C lk vs tg el s d y := ⟨s0, z, h1, h2, h⟩
theorem w_lc {vs : List Nat} {tg : Tg} {it : I} {el : E} (h : Wi C lk it s (fun ds s1 => ∃ f : D → D, (noOwn vs s1 && !(vs.any fun i => lk.testBit i)) = true ∧ ds.length ≤ 100000 ∧ (∀ a ∈ ds, Tu C lk vs tg el s1 a (f a)) ∧ Q (.o (.lst (ds.map f))) s1) NoR) : W C lk (.lc vs tg it .none el) s Q R := by
  obtain ⟨ds, s1, e, f, h0, hl, ht, q⟩ := Post.ok h
  exact w_of (x_lc (g := fun x => x) e (map_self ds) h0 hl fun a ha => (ht a ha).turn) q
/-- .. over a list that is a list of other things -/
def Lcm0 (C : Calls) (lk : Nat) (vs : List Nat) (tg : Tg) (el : E) (Q : AV → S → Prop) (ds : List D) (s1 : S) : Prop := ∃ (α : Type) (l : List α) (g f : α → D), ds = l.map g ∧ (noOwn vs s1 && !(vs.any fun i => lk.testBit i)) = true ∧ l.length ≤ 100000 ∧ (∀ a ∈ l, Tu C lk vs tg el s1 (g a) (f a)) ∧ Q (.o (.lst (l.map f))) s1
def LcH (C : Calls) (lk : Nat) (vs : List Nat) (tg : Tg) (el : E) (Q : AV → S → Prop) (ds : List D) (s1 : S) : Prop := ∃ (St : D → S) (Iv : D → Prop) (h0 : D) (Pr : D → D → Prop), s1 = St h0 ∧ Iv h0 ∧ (noOwn vs (St h0) && !(vs.any fun i => lk.testBit i)) = true ∧ ds.length ≤ 100000 ∧ (∀ a, restS vs (St h0) (St a) = St a) ∧
    (∀ x ∈ ds, ∀ a, Iv a → ∃ s0 z, WipsR vs (St a) s0 ∧ BindR lk tg x s0 z ∧ W C lk el z (fun v z1 => ∃ y z2 a', FrzR v z1 y z2 ∧ wipeS vs z2 = wipeS vs (St a') ∧ Iv a' ∧ Pr x y) NoR) ∧ ∀ a ys, Iv a → All2 Pr ds ys → Q (.o (.lst ys)) (St a)
theorem all2_len {α β : Type} {R : α → β → Prop} {ds : List α} {ys : List β} (p : All2 R ds ys) : ys.length = ds.length := by
  induction p with
  | nil => rfl
  | cons _ _ ih => rw [List.length_cons, List.length_cons, ih]
theorem all2_mem {α β : Type} {Pr : β → Prop} {ds : List α} {ys : List β} (p : All2 (fun _ y => Pr y) ds ys) : ∀ y ∈ ys, Pr y := by
  induction p with
  | nil => intro y hy; cases hy
  | cons a _ ih =>
    intro y hy
    rcases List.mem_cons.mp hy with e | e
    · rw [e]; exact a
    · exact ih y e
def Lcm (C : Calls) (lk : Nat) (vs : List Nat) (tg : Tg) (el : E) (Q : AV → S → Prop) (ds : List D) (s1 : S) : Prop := Lcm0 C lk vs tg el Q ds s1 ∨ LcH C lk vs tg el Q ds s1
theorem lcm {vs : List Nat} {tg : Tg} {el : E} {ds : List D} {α : Type} {l : List α} {g f : α → D} (hd : ds = l.map g) (h0 : (noOwn vs s1 && !(vs.any fun i => lk.testBit i)) = true) (hl : l.length ≤ 100000) (ht : ∀ a ∈ l, Tu C lk vs tg el s1 (g a) (f a)) (q : Q (.o (.lst (l.map f))) s1) : Lcm C lk vs tg el Q ds s1 := .inl ⟨α, l, g, f, hd, h0, hl, ht, q⟩
def TuC (C : Calls) (lk : Nat) (vs : List Nat) (tg : Tg) (c el : E) (s : S) (d : D) (b : Bool) (y : D) : Prop := ∃ s0 z, WipsR vs s s0 ∧ BindR lk tg d s0 z ∧ W C lk c z (fun x z0 => x = .d (.bl b) ∧ (b = true → W C lk el z0 (fun x z1 => ∃ z2, FrzR x z1 y z2 ∧ wipeS vs z2 = wipeS vs s) NoR) ∧ wipeS vs z0 = wipeS vs s) NoR
theorem TuC.turn {vs : List Nat} {tg : Tg} {c el : E} {d y : D} {b : Bool} (h : TuC C lk vs tg c el s d b y) : TurnC C lk vs tg c el s d b y := by
  obtain ⟨s0, z, h1, h2, h3⟩ := h
  obtain ⟨x, z0, e0, rfl, h4, w0⟩ := Post.ok h3
  cases b with
  | false => exact turn_F h1 h2 e0 w0
  | true =>
    obtain ⟨x, z1, e, z2, f, w⟩ := Post.ok (h4 rfl)
    exact turn_T h1 h2 e0 e f w
theorem tuC {vs : List Nat} {tg : Tg} {c el : E} {s s0 z : S} {d y : D} {b : Bool} (h1 : WipsR vs s s0) (h2 : BindR lk tg d s0 z) (h : W C lk c z (fun x z0 => x = .d (.bl b) ∧ (b = true → W C lk el z0 (fun x z1 => ∃ z2, FrzR x z1 y z2 ∧ wipeS vs z2 = wipeS vs s) NoR) ∧ wipeS vs z0 = wipeS vs s) NoR) : TuC C lk vs tg c el s d b y := ⟨s0, z, h1, h2, h⟩
def Lcf (C : Calls) (lk : Nat) (vs : List Nat) (tg : Tg) (c el : E) (Q : AV → S → Prop) (ds : List D) (s1 : S) : Prop := ∃ (α : Type) (l : List α) (g f : α → D) (b : α → Bool), ds = l.map g ∧ (noOwn vs s1 && !(vs.any fun i => lk.testBit i)) = true ∧ l.length ≤ 100000 ∧ (∀ a ∈ l, TuC C lk vs tg c el s1 (g a) (b a) (f a)) ∧ Q (.o (.lst ((l.filter b).map f))) s1
theorem lcf {vs : List Nat} {tg : Tg} {c el : E} {ds : List D} {α : Type} {l : List α} {g f : α → D} {b : α → Bool} (hd : ds = l.map g) (h0 : (noOwn vs s1 && !(vs.any fun i => lk.testBit i)) = true) (hl : l.length ≤ 100000) (ht : ∀ a ∈ l, TuC C lk vs tg c el s1 (g a) (b a) (f a)) (q : Q (.o (.lst ((l.filter b).map f))) s1) : Lcf C lk vs tg c el Q ds s1 := ⟨α, l, g, f, b, hd, h0, hl, ht, q⟩
theorem w_lcf {vs : List Nat} {tg : Tg} {it : I} {c el : E} (h : Wi C lk it s (Lcf C lk vs tg c el Q) NoR) : W C lk (.lc vs tg it (.some c) el) s Q R := by
  obtain ⟨ds, s1, e, α, l, g, f, b, hd, h0, hl, ht, q⟩ := Post.ok h
  exact w_of (x_lcf e hd h0 hl fun a ha => (ht a ha).turn) q
/-- .. each turn leaving another hand behind -/
theorem lcH {vs : List Nat} {tg : Tg} {el : E} {ds : List D} (St : D → S) (Iv : D → Prop) (h0 : D) (Pr : D → Prop) (e0 : s1 = St h0) (i0 : Iv h0) (hn : (noOwn vs (St h0) && !(vs.any fun i => lk.testBit i)) = true) (hl : ds.length ≤ 100000) (hr : ∀ a, restS vs (St h0) (St a) = St a)
    (ht : ∀ x ∈ ds, ∀ a, Iv a → ∃ s0 z, WipsR vs (St a) s0 ∧ BindR lk tg x s0 z ∧ W C lk el z (fun x z1 => ∃ y z2 a', FrzR x z1 y z2 ∧ wipeS vs z2 = wipeS vs (St a') ∧ Iv a' ∧ Pr y) NoR) (q : ∀ a ys, Iv a → ys.length = ds.length → (∀ y ∈ ys, Pr y) → Q (.o (.lst ys)) (St a)) : Lcm C lk vs tg el Q ds s1 := .inr ⟨St, Iv, h0, fun _ y => Pr y, e0, i0, hn, hl, hr, ht, fun a ys i p => q a ys i (all2_len p) (all2_mem p)⟩
/-- a turn with the hand, its end -/
theorem tuH {vs : List Nat} {tg : Tg} {el : E} {s0 z : S} {d : D} {K : AV → S → Prop} (h1 : WipsR vs s s0) (h2 : BindR lk tg d s0 z) (h : W C lk el z K NoR) : ∃ s0 z, WipsR vs s s0 ∧ BindR lk tg d s0 z ∧ W C lk el z K NoR := ⟨s0, z, h1, h2, h⟩
theorem tuE {vs : List Nat} {x : AV} {z1 z2 : S} {y a' : D} {St : D → S} {Iv Pr : D → Prop} (h1 : FrzR x z1 y z2) (i : Iv a') (h2 : wipeS vs z2 = wipeS vs (St a')) (p : Pr y) : ∃ y z2 a', FrzR x z1 y z2 ∧ wipeS vs z2 = wipeS vs (St a') ∧ Iv a' ∧ Pr y := ⟨y, z2, a', h1, h2, i, p⟩
theorem w_lcm {vs : List Nat} {tg : Tg} {it : I} {el : E} (h : Wi C lk it s (Lcm C lk vs tg el Q) NoR) : W C lk (.lc vs tg it .none el) s Q R := by
  obtain ⟨ds, s1, e, h⟩ := Post.ok h
  rcases h with ⟨α, l, g, f, hd, h0, hl, ht, q⟩ | ⟨St, Iv, h0, Pr, rfl, i0, hn, hl, hr, ht, q⟩
  · exact w_of (x_lc e hd h0 hl fun a ha => (ht a ha).turn) q
  · obtain ⟨a, ys, Ia, p, e2⟩ := lcRun_inv (lk := lk) (vs := vs) (tg := tg) (tst := fun z => evc C lk .none z) (el := fun z => ev C lk el z) (St := St) (I := Iv) (P := Pr) (ds := ds) i0 hn hl hr (fun x hx a ha => by
      obtain ⟨s0, z, h1, h2, h3⟩ := ht x hx a ha
      obtain ⟨v, z1, e, y, z2, a', f, w, i', p⟩ := Post.ok h3
      obtain ⟨z', e', w'⟩ := turnTo_mk (C := C) (lk := lk) (vs := vs) (tg := tg) (el := el) (s := St a) (d := x) h1 h2 e f w
      exact ⟨a', y, z', i', p, e', w'⟩)
    exact w_of (ev_lc e e2) (q a ys Ia p)
theorem getR_set {i : Nat} {v : SV} {s : S} (h : GetR s i v) : s.set i (some v) = s := by
  induction h with
  | z => rfl
  | s _ ih => rw [List.set_cons_succ, ih]
/-- .. the hand in a slot -/
theorem lcS {vs : List Nat} {tg : Tg} {el : E} {ds : List D} {α : Type} {l : List α} {g : α → D} (i : Nat) (Iv : D → Prop) (Pr : D → Prop) {h0 : D} (hd : ds = l.map g) (g0 : GetR s1 i (.o h0)) (i0 : Iv h0) (hn : (noOwn vs s1 && !(vs.any fun i => lk.testBit i)) = true) (hl : l.length ≤ 100000) (hr : ∀ a : D, restS vs s1 (s1.set i (some (.o a))) = s1.set i (some (.o a)))
    (ht : ∀ x ∈ l, ∀ a, Iv a → ∃ s', PutR s1 i (.o a) s' ∧ ∃ s0 z, WipsR vs s' s0 ∧ BindR lk tg (g x) s0 z ∧ W C lk el z (fun x z1 => ∃ y z2 a', FrzR x z1 y z2 ∧ wipeS vs z2 = wipeS vs (s1.set i (some (.o a'))) ∧ Iv a' ∧ Pr y) NoR) (q : ∀ a ys, Iv a → ys.length = l.length → (∀ y ∈ ys, Pr y) → ∃ s', PutR s1 i (.o a) s' ∧ Q (.o (.lst ys)) s') : Lcm C lk vs tg el Q ds s1 := by
  have e1 : s1 = s1.set i (some (.o h0)) := (getR_set g0).symm
  refine .inr ⟨fun a => s1.set i (some (.o a)), Iv, h0, fun _ y => Pr y, e1, i0, ?_, by rw [hd, List.length_map]; exact hl, ?_, ?_, ?_⟩
  · show (noOwn vs (s1.set i (some (.o h0))) && _) = true
    rw [← e1]; exact hn
  · intro a
    show restS vs (s1.set i (some (.o h0))) _ = _
    rw [← e1]
    exact hr a
  · intro x hx a ha
    rw [hd] at hx
    obtain ⟨b, hb, rfl⟩ := List.mem_map.mp hx
    obtain ⟨s', p, h⟩ := ht b hb a ha
    have e2 := p.eq.1
    subst e2
    exact h
  · intro a ys ha hp2
    have hy := all2_len hp2
    have hp := all2_mem hp2
    rw [hd, List.length_map] at hy
    obtain ⟨s', p, h⟩ := q a ys ha hy hp
    have e2 := p.eq.1
    subst e2
    exact h
/-- .. and what comes of each -/
theorem lcS2 {vs : List Nat} {tg : Tg} {el : E} {ds : List D} (i : Nat) (Iv : D → Prop) (Pr : D → D → Prop) {h0 : D} (g0 : GetR s1 i (.o h0)) (i0 : Iv h0) (hn : (noOwn vs s1 && !(vs.any fun i => lk.testBit i)) = true) (hl : ds.length ≤ 100000) (hr : ∀ a : D, restS vs s1 (s1.set i (some (.o a))) = s1.set i (some (.o a)))
    (ht : ∀ d ∈ ds, ∀ a, Iv a → ∃ s', PutR s1 i (.o a) s' ∧ ∃ s0 z, WipsR vs s' s0 ∧ BindR lk tg d s0 z ∧ W C lk el z (fun x z1 => ∃ y z2 a', FrzR x z1 y z2 ∧ wipeS vs z2 = wipeS vs (s1.set i (some (.o a'))) ∧ Iv a' ∧ Pr d y) NoR) (q : ∀ a ys, Iv a → All2 Pr ds ys → ∃ s', PutR s1 i (.o a) s' ∧ Q (.o (.lst ys)) s') : Lcm C lk vs tg el Q ds s1 := by
  have e1 : s1 = s1.set i (some (.o h0)) := (getR_set g0).symm
  refine .inr ⟨fun a => s1.set i (some (.o a)), Iv, h0, Pr, e1, i0, ?_, hl, ?_, ?_, ?_⟩
  · show (noOwn vs (s1.set i (some (.o h0))) && _) = true
    rw [← e1]; exact hn
  · intro a
    show restS vs (s1.set i (some (.o h0))) _ = _
    rw [← e1]
    exact hr a
  · intro x hx a ha
    obtain ⟨s', p, h⟩ := ht x hx a ha
    have e2 := p.eq.1
    subst e2
    exact h
  · intro a ys ha hp
    obtain ⟨s', p, h⟩ := q a ys ha hp
    have e2 := p.eq.1
    subst e2
    exact h
theorem bind_inv {α β : Type} {o : Out α} {f : α → S → Out β} {b : β} {s' : S} (h : o.bind f = .ok b s') : ∃ a s, o = .ok a s ∧ f a s = .ok b s' := by
  cases o with
  | ok a s => exact ⟨a, s, rfl, h⟩
  | ex _ _ => cases h
  | no => cases h
/-- a dict of what a list would hold -/
theorem lcL_pre {turn : D → S → Out (Option D)} : ∀ (ds acc : List D) (z : S) {rs : List D} {z' : S}, lcL turn ds acc z = .ok rs z' → ∃ m, rs = acc ++ m
  | [], acc, z, rs, z', h => by
    unfold lcL at h
    cases h
    exact ⟨[], (List.append_nil _).symm⟩
  | d :: ds, acc, z, rs, z', h => by
    unfold lcL at h
    obtain ⟨o, s1, e1, h⟩ := bind_inv h
    cases o with
    | none => exact lcL_pre ds acc s1 h
    | some k =>
      simp only at h
      split at h
      · obtain ⟨m, e⟩ := lcL_pre ds (acc ++ [k]) s1 h
        exact ⟨k :: m, by rw [e, List.append_assoc]; rfl⟩
      · cases h
theorem lcL_dc {vs : List Nat} {tg : Tg} {tst : S → Out Bool} {el : S → Out AV} : ∀ (ds acc : List D) (z : S) {rs : List D} {z' : S}, lcL (lcTurn lk vs tg tst el) ds acc z = .ok rs z' → (∀ r ∈ rs, r.isK = true) → lcL (dcTurn lk vs tg tst el) ds acc z = .ok rs z'
  | [], acc, z, rs, z', h, _ => by
    unfold lcL at h ⊢
    exact h
  | d :: ds, acc, z, rs, z', h, hk => by
    unfold lcL at h ⊢
    obtain ⟨o, s1, e1, h⟩ := bind_inv h
    unfold dcTurn
    rw [e1]
    cases o with
    | none => exact lcL_dc ds acc s1 h hk
    | some k =>
      simp only at h
      split at h
      · rename_i hl
        obtain ⟨m, e⟩ := lcL_pre ds (acc ++ [k]) s1 h
        have kk : k.isK = true := hk k (by rw [e]; simp)
        show ((if k.isK = true then Out.ok (some k) s1 else .no).bind fun r s1 => match r with
          | some d => if acc.length < lim then lcL (dcTurn lk vs tg tst el) ds (acc ++ [d]) s1 else .no
          | none => lcL (dcTurn lk vs tg tst el) ds acc s1) = _
        rw [if_pos kk]
        show (if acc.length < lim then lcL (dcTurn lk vs tg tst el) ds (acc ++ [k]) s1 else .no) = _
        rw [if_pos hl]
        exact lcL_dc ds (acc ++ [k]) s1 h hk
      · cases h
theorem ev_dc {vs : List Nat} {tg : Tg} {it : I} {cond : Eo} {el : E} {ys : List D} {s2 : S} (h : ev C lk (.lc vs tg it cond el) s = .ok (.o (.lst ys)) s2) (hk : ∀ y ∈ ys, y.isK = true) : ev C lk (.dcT vs tg it cond el) s = .ok (.o (.dct false (dk ys))) s2 := by
  unfold ev at h ⊢
  cases e : evi C lk it s with
  | no => rw [e] at h; cases h
  | ex _ _ => rw [e] at h; cases h
  | ok ds s1 =>
    rw [e] at h
    have h' : noEx (lcRun lk vs tg (fun z => evc C lk cond z) (fun z => ev C lk el z) ds s1) = .ok (.o (.lst ys)) s2 := h
    show noEx (dcRun lk vs tg (fun z => evc C lk cond z) (fun z => ev C lk el z) ds s1) = _
    unfold lcRun at h'
    unfold dcRun
    split at h'
    · rename_i hg
      rw [if_pos hg]
      cases e2 : lcL (lcTurn lk vs tg (fun z => evc C lk cond z) (fun z => ev C lk el z)) ds [] s1 with
      | no => rw [e2] at h'; cases h'
      | ex _ _ => rw [e2] at h'; cases h'
      | ok rs z' =>
        rw [e2] at h'
        have h2 : Out.ok (AV.o (.lst rs)) (restS vs s1 z') = .ok (.o (.lst ys)) s2 := h'
        cases h2
        rw [lcL_dc ds [] s1 e2 hk]
        rfl
    · cases h'
theorem w_dc {vs : List Nat} {tg : Tg} {it : I} {cond : Eo} {el : E} {Q : AV → S → Prop} (h : W C lk (.lc vs tg it cond el) s (fun x s1 => ∃ ys, x = .o (.lst ys) ∧ (∀ y ∈ ys, y.isK = true) ∧ Q (.o (.dct false (dk ys))) s1) NoR) : W C lk (.dcT vs tg it cond el) s Q R := by
  obtain ⟨x, s1, e, ys, rfl, hk, q⟩ := Post.ok h
  exact w_of (ev_dc e hk) q
/-- how many unlike ones -/
theorem w_nset {a : E} {Q : AV → S → Prop} (h : W C lk a s (fun x s1 => ∃ ns : List Int, ns.length ≤ 4000 ∧ view (pend x) s1 = some (.lst (ns.map D.int)) ∧ Q (.d (.int (nsetL ns).length)) s1) R) : W C lk (.nset a) s Q R := by
  unfold W ev
  refine Post.bind (Post.mono h (fun x s1 h => ?_) fun _ _ h => h)
  obtain ⟨ns, hl, e, q⟩ := h
  rw [e]
  have ai : ∀ ns : List Int, allI (ns.map D.int) = some ns := by
    intro ns
    induction ns with
    | nil => rfl
    | cons n ns ih => rw [List.map_cons]; unfold allI; rw [ih]; rfl
  simp only
  rw [ai]
  simp only
  rw [if_pos hl]
  exact .y q
end
/-! ### statements -/
section
variable {Q : Flow → S → Prop}
theorem X_of {t : T} {f : Flow} (h : ex C lk t s = .ok f s1) (q : Q f s1) : X C lk t s Q R := by unfold X; rw [h]; exact .y q
theorem Xs_mono {ts : Ts} {Q' : Flow → S → Prop} {R' : PR} (h : Xs C lk ts s Q' R') (q : ∀ x s', Q' x s' → Q x s') (r : ∀ x s', R' x s' → R x s') : Xs C lk ts s Q R := Post.mono h q r
def Nx (C : Calls) (lk : Nat) (ts : Ts) (Q : Flow → S → Prop) (R : PR) (f : Flow) (s : S) : Prop := match f with
  | .nx => Xs C lk ts s Q R
  | f => Q f s
theorem nx_n {ts : Ts} (h : Xs C lk ts s Q R) : Nx C lk ts Q R .nx s := h
theorem nx_r {ts : Ts} {v : SV} (h : Q (.rt v) s) : Nx C lk ts Q R (.rt v) s := h
theorem nx_b {ts : Ts} (h : Q .bk s) : Nx C lk ts Q R .bk s := h
theorem nx_c {ts : Ts} (h : Q .ct s) : Nx C lk ts Q R .ct s := h
theorem xs_nil (q : Q .nx s) : Xs C lk .nil s Q R := by unfold Xs exs; exact .y q
theorem xs_cons {t : T} {ts : Ts} (h : X C lk t s (Nx C lk ts Q R) R) : Xs C lk (.cons t ts) s Q R := by
  unfold Xs exs
  refine Post.bind (Post.mono h (fun f s1 h => ?_) fun _ _ h => h)
  cases f <;> first | exact h | exact .y h
/-- a store -/
def Pt (lk : Nat) (s : S) (i : Nat) (v : SV) (Q : S → Prop) : Prop := ∃ s', put lk s i v = some s' ∧ Q s'
theorem pt {i : Nat} {v : SV} {s' : S} {Q : S → Prop} (h0 : lk.testBit i = false) (p : PutR s i v s') (q : Q s') : Pt lk s i v Q := ⟨s', putS h0 p, q⟩
theorem x_asg' {i : Nat} {e : E} (h : W C lk e s (fun x s1 => Kp x s1 fun v s2 => Pt lk s2 i v fun s3 => Q .nx s3) R) : X C lk (.asg i e) s Q R := by
  unfold X ex
  refine Post.bind (Post.mono h (fun x s1 h => ?_) fun _ _ h => h)
  obtain ⟨v, s2, e1, s3, e2, q⟩ := h
  rw [e1]
  simp only
  rw [e2]
  exact .y q
theorem x_asgT' {is : List Nat} {e : E} (h : W C lk e s (fun x s1 => ∃ d s2, (x = .d d ∨ ∃ ds, x = .o (.lst ds) ∧ d = .tup ds) ∧ BindR lk (.t is) d s1 s2 ∧ Q .nx s2) R) : X C lk (.asgT is e) s Q R := by
  unfold X ex
  refine Post.bind (Post.mono h (fun x s1 h => ?_) fun _ _ h => h)
  obtain ⟨d, s2, e0, e1, q⟩ := h
  rcases e0 with rfl | ⟨ds, rfl, rfl⟩
  · simp only
    rw [e1.eq]
    exact .y q
  · simp only
    rw [e1.eq]
    exact .y q
theorem x_par' {is : List Nat} {es : Es} (h : Wk C lk es s (fun ds s1 => ∃ s2, PutsR lk s1 is ds s2 ∧ Q .nx s2) R) : X C lk (.par is es) s Q R := by
  unfold X ex
  refine Post.bind (Post.mono h (fun x s1 h => ?_) fun _ _ h => h)
  obtain ⟨s2, e1, q⟩ := h
  rw [e1.eqK]
  exact .y q
theorem x_expr' {e : E} (h : W C lk e s (fun _ s1 => Q .nx s1) R) : X C lk (.expr e) s Q R := by
  unfold X ex
  exact Post.bind (Post.mono h (fun _ _ q => .y q) fun _ _ h => h)
theorem x_if' {c : E} {a b : Ts} (h : W C lk c s (fun x s1 => Flag x fun k => Br k (Xs C lk a s1 Q R) (Xs C lk b s1 Q R)) R) : X C lk (.if_ c a b) s Q R := by
  unfold X ex evB
  refine Post.bind (Post.bind (Post.mono h (fun x s1 h => ?_) fun _ _ h => h))
  obtain ⟨k, rfl, q⟩ := h
  refine .y ?_
  show Post (if k = true then exs C lk a s1 else exs C lk b s1) Q R
  cases k with
  | true => exact q.1 rfl
  | false => exact q.2 rfl
def Rt (lk : Nat) (x : AV) (s : S) (Q : Flow → S → Prop) : Prop := ∃ v s', retV lk x s = some (v, s') ∧ Q (.rt v) s'
theorem rt_d {d : D} (q : Q (.rt (.d d)) s) : Rt lk (.d d) s Q := ⟨_, _, rfl, q⟩
theorem rt_o {d : D} (h : (lk.testBit 0 && !own0 s) = false) (q : Q (.rt (.o d)) s) : Rt lk (.o d) s Q := ⟨_, _, by unfold retV; simp only; rw [h, if_neg (by decide)], q⟩
theorem rt_s {i : Nat} {d : D} (h0 : lk.testBit i = false) (h : (lk.testBit 0 && !own0 s) = false) (g : GetR s i (.o d)) (q : Q (.rt (.o d)) (s.set i none)) : Rt lk (.s i) s Q := by
  refine ⟨_, _, ?_, q⟩
  unfold retV
  simp only
  rw [h0, if_neg (by decide), h, if_neg (by decide), g.eq]
theorem x_ret' {e : E} (h : W C lk e s (fun x s1 => Rt lk x s1 Q) R) : X C lk (.ret e) s Q R := by
  unfold X ex
  refine Post.bind (Post.mono h (fun x s1 h => ?_) fun _ _ h => h)
  obtain ⟨v, s2, e1, q⟩ := h
  rw [e1]
  exact .y q
theorem x_retN' (q : Q (.rt (.d .non)) s) : X C lk .retN s Q R := by unfold X ex; exact .y q
theorem x_pass' (q : Q .nx s) : X C lk .pass s Q R := by unfold X ex; exact .y q
theorem x_brk' (q : Q .bk s) : X C lk .brk s Q R := by unfold X ex; exact .y q
theorem x_cnt' (q : Q .ct s) : X C lk .cnt s Q R := by unfold X ex; exact .y q
theorem x_rse' {c : Nat} (q : R ⟨c, none⟩ s) : X C lk (.rse c) s Q R := by unfold X ex; exact .x q
theorem x_augA {i : Nat} {e : E} {a : Int} (g : GetR s i (.d (.int a))) (h : W C lk e s (fun x s1 => ∃ b, x = .d (.int b) ∧ Pt lk s1 i (.d (.int (a + b))) fun s2 => Q .nx s2) R) : X C lk (.aug i .add e) s Q R := by
  unfold X ex
  rw [g.eq]
  show Post ((ev C lk e s).bind _) Q R
  refine Post.bind (Post.mono h (fun x s1 h => ?_) fun _ _ h => h)
  obtain ⟨b, rfl, s2, e1, q⟩ := h
  show Post (stO (put lk s1 i (.d (.int (a + b))))) Q R
  rw [e1]
  exact .y q
theorem x_augS {i : Nat} {e : E} {a : Int} (g : GetR s i (.d (.int a))) (h : W C lk e s (fun x s1 => ∃ b, x = .d (.int b) ∧ Pt lk s1 i (.d (.int (a - b))) fun s2 => Q .nx s2) R) : X C lk (.aug i .sub e) s Q R := by
  unfold X ex
  rw [g.eq]
  show Post ((ev C lk e s).bind _) Q R
  refine Post.bind (Post.mono h (fun x s1 h => ?_) fun _ _ h => h)
  obtain ⟨b, rfl, s2, e1, q⟩ := h
  show Post (stO (put lk s1 i (.d (.int (a - b))))) Q R
  rw [e1]
  exact .y q
/-- a store at a place of a list -/
def SIx (i : Nat) (d : D) (y : AV) (s : S) (Q : S → Prop) : Prop := (∃ (k : Int) (ds : List D) (j : Nat) (s' : S), y = .d (.int k) ∧ getS s i = some (.o (.lst ds)) ∧ ixN ds.length k = some j ∧ PutR s i (.o (.lst (ds.set j d))) s' ∧ Q s') ∨
  ∃ (k : D) (t : Bool) (kvs : List (D × D)) (s' : S), y = .d k ∧ getS s i = some (.o (.dct t kvs)) ∧ keyOk t k = true ∧ kvs.length < lim ∧ PutR s i (.o (.dct t (dPut k d kvs))) s' ∧ Q s'
theorem sixD {i : Nat} {d k : D} {t : Bool} {kvs : List (D × D)} {s' : S} {Q : S → Prop} (g : GetR s i (.o (.dct t kvs))) (hk : keyOk t k = true) (hl : kvs.length < 100000) (p : PutR s i (.o (.dct t (dPut k d kvs))) s') (q : Q s') : SIx i d (.d k) s Q := .inr ⟨k, t, kvs, s', rfl, g.eq, hk, hl, p, q⟩
theorem six {i : Nat} {d : D} {k : Int} {ds : List D} {j : Nat} {s' : S} {Q : S → Prop} (g : GetR s i (.o (.lst ds))) (hj : ixN ds.length k = some j) (p : PutR s i (.o (.lst (ds.set j d))) s') (q : Q s') : SIx i d (.d (.int k)) s Q := .inl ⟨k, ds, j, s', rfl, g.eq, hj, p, q⟩
theorem x_setIx' {i : Nat} {b e : E} (h : W C lk e s (fun x s1 => Fr x s1 fun d s2 => (∃ h0, GetR s2 i (.o h0)) ∧ W C lk b s2 (fun y s3 => SIx i d y s3 fun s4 => Q .nx s4) R) R) : X C lk (.setIx i b e) s Q R := by
  unfold X ex
  refine Post.bind (Post.mono h (fun x s1 h => ?_) fun _ _ h => h)
  obtain ⟨d, s2, e1, ⟨h0, g⟩, h⟩ := h
  rw [e1]
  simp only
  rw [g.eq]
  simp only
  refine Post.bind (Post.mono h (fun y s3 h => ?_) fun _ _ h => h)
  rcases h with ⟨k, ds, j, s', rfl, e2, e3, p, q⟩ | ⟨k, t, kvs, s', rfl, e2, e3, e4, p, q⟩
  · unfold setIxF
    rw [e2]
    simp only
    rw [e3]
    rw [← p.eq.1] at q
    exact .y q
  · unfold setIxF
    rw [e2]
    rw [← p.eq.1] at q
    cases k with
    | int k =>
      simp only
      rw [if_pos ⟨e3, e4⟩]
      exact .y q
    | _ =>
      simp only
      rw [if_pos ⟨e3, e4⟩]
      exact .y q
theorem x_setFld' {f : Str} {e : E} (h : W C lk e s (fun x s1 => Fr x s1 fun d s2 => ∃ c fs s3, GetR s2 0 (.o (.ins c fs)) ∧ lookF f fs = none ∧ fs.length < 900 ∧ PutR s2 0 (.o (.ins c (fs ++ [(f, d)]))) s3 ∧ Q .nx s3) R) : X C lk (.setFld f e) s Q R := by
  unfold X ex
  refine Post.bind (Post.mono h (fun x s1 h => ?_) fun _ _ h => h)
  obtain ⟨d, s2, e1, c, fs, s3, g, e2, e3, p, q⟩ := h
  rw [e1]
  simp only
  unfold setFldF
  rw [g.eq]
  simp only
  rw [if_pos ⟨e2, e3⟩]
  rw [← p.eq.1] at q
  exact .y q
/-- a loop's turn: on, or out of it -/
def Lp (Q : Flow → S → Prop) (Iv : S → Prop) (f : Flow) (s : S) : Prop := match f with
  | .nx => Iv s
  | .ct => Iv s
  | .bk => Q .nx s
  | .rt v => Q (.rt v) s
theorem lp_n {Iv : S → Prop} (h : Iv s) : Lp Q Iv .nx s := h
theorem lp_c {Iv : S → Prop} (h : Iv s) : Lp Q Iv .ct s := h
theorem lp_b {Iv : S → Prop} (h : Q .nx s) : Lp Q Iv .bk s := h
theorem lp_r {Iv : S → Prop} {v : SV} (h : Q (.rt v) s) : Lp Q Iv (.rt v) s := h
theorem forP {bind : D → S → Option S} {b : S → Out Flow} {Iv : Nat → S → Prop} : ∀ (ds : List D) (k : Nat) (s : S), Iv k s → (∀ (j : Nat) (d : D) (s : S), ds[j]? = some d → Iv (k + j) s → ∃ s', bind d s = some s' ∧ Post (b s') (Lp Q (Iv (k + j + 1))) R) → (∀ s, Iv (k + ds.length) s → Q .nx s) → Post (forL bind b ds s) Q R
  | [], k, s, h0, _, q => by
    unfold forL
    exact .y (q s h0)
  | d :: ds, k, s, h0, h, q => by
    obtain ⟨s', e, p⟩ := h 0 d s rfl h0
    unfold forL
    rw [e]
    simp only
    refine Post.bind (Post.mono p (fun f s2 h2 => ?_) fun _ _ h => h)
    have go : Iv (k + 1) s2 → Post (forL bind b ds s2) Q R := fun hi => forP ds (k + 1) s2 hi (fun j d s hj hs => by
      have := h (j + 1) d s hj (by rw [show k + (j + 1) = k + 1 + j from by omega]; exact hs)
      rw [show k + (j + 1) + 1 = k + 1 + j + 1 from by omega] at this
      exact this) (fun s hs => q s (by rw [List.length_cons, show k + (ds.length + 1) = k + 1 + ds.length from by omega]; exact hs))
    cases f with
    | nx => exact go h2
    | ct => exact go h2
    | bk => exact .y h2
    | rt v => exact .y h2
def ForQ (C : Calls) (lk : Nat) (tg : Tg) (b : Ts) (Q : Flow → S → Prop) (R : PR) (ds : List D) (s1 : S) : Prop := ∃ Iv : Nat → S → Prop, Iv 0 s1 ∧ (∀ (j : Nat) (d : D) (s : S), ds[j]? = some d → Iv j s → ∃ s', BindR lk tg d s s' ∧ Xs C lk b s' (Lp Q (Iv (j + 1))) R) ∧ ∀ s, Iv ds.length s → Q .nx s
theorem forQ {tg : Tg} {b : Ts} {ds : List D} (Iv : Nat → S → Prop) (h0 : Iv 0 s1) (h : ∀ (j : Nat) (d : D) (s : S), ds[j]? = some d → Iv j s → ∃ s', BindR lk tg d s s' ∧ Xs C lk b s' (Lp Q (Iv (j + 1))) R) (q : ∀ s, Iv ds.length s → Q .nx s) : ForQ C lk tg b Q R ds s1 := ⟨Iv, h0, h, q⟩
theorem x_for' {tg : Tg} {it : I} {b : Ts} (h : Wi C lk it s (ForQ C lk tg b Q R) R) : X C lk (.for_ tg it b) s Q R := by
  unfold X ex
  refine Post.bind (Post.mono h (fun ds s1 h => ?_) fun _ _ h => h)
  obtain ⟨Iv, i0, h, q⟩ := h
  exact forP ds 0 s1 i0 (fun j d s hj hs => by
    rw [Nat.zero_add] at hs ⊢
    obtain ⟨s', e, p⟩ := h j d s hj hs
    exact ⟨s', e.eq, p⟩) (fun s hs => q s (by rw [Nat.zero_add] at hs; exact hs))
/-- a loop with a number that falls -/
theorem x_while' {c : E} {b : Ts} (Iv : Nat → S → Prop) (n : Nat) (h0 : Iv n s) (h : ∀ n s, Iv n s → W C lk c s (fun x s1 => Flag x fun k => Br k (∃ m, n = m + 1 ∧ Xs C lk b s1 (Lp Q (Iv m)) R) (Q .nx s1)) R) : X C lk (.while_ c b) s Q R := by
  unfold X ex
  have key : ∀ n s, Iv n s → Post (whileL (fun z => evB C lk c z) (fun z => exs C lk b z) s) Q R := by
    intro n
    induction n with
    | zero =>
      intro s hs
      rw [whileL_eq]
      unfold wStep evB
      refine Post.bind (Post.bind (Post.mono (h 0 s hs) (fun x s1 h1 => ?_) fun _ _ h => h))
      obtain ⟨k, rfl, q⟩ := h1
      cases k with
      | false => exact .y (.y (q.2 rfl))
      | true =>
        obtain ⟨m, e, _⟩ := q.1 rfl
        cases e
    | succ n ih =>
      intro s hs
      rw [whileL_eq]
      unfold wStep evB
      refine Post.bind (Post.bind (Post.mono (h _ s hs) (fun x s1 h1 => ?_) fun _ _ h => h))
      obtain ⟨k, rfl, q⟩ := h1
      cases k with
      | false => exact .y (.y (q.2 rfl))
      | true =>
        obtain ⟨m, e, p⟩ := q.1 rfl
        cases e
        refine .y ?_
        show Post (if (true : Bool) = true then _ else _) Q R
        rw [if_pos rfl]
        refine Post.bind (Post.mono p (fun f s2 h2 => ?_) fun _ _ h => h)
        cases f with
        | nx => exact ih _ h2
        | ct => exact ih _ h2
        | bk => exact .y h2
        | rt v => exact .y h2
  exact key n s h0
theorem x_try' {b h : Ts} {i m : Nat} (hl : lk.testBit i = false) (hb : Xs C lk b s Q (fun x s1 => x.f = none ∧ i < s1.length ∧ x.c < m ∧ Xs (xC C x) (lk ||| (1 <<< i)) h (s1.set i none) (fun f s2 => Q f (s2.set i none)) NoR)) : X C lk (.try_ b i m h) s Q R := by
  unfold X ex
  rw [if_neg (by rw [hl]; decide)]
  unfold Xs at hb
  cases e : exs C lk b s with
  | ok f s1 =>
    rw [e] at hb
    exact .y hb.gy
  | ex x s1 =>
    rw [e] at hb
    obtain ⟨e1, e2, e3, h4⟩ := hb.gx
    simp only
    rw [if_pos ⟨by rw [e1]; rfl, e2, e3⟩]
    obtain ⟨f, s2, e5, q⟩ := Post.ok h4
    rw [e5]
    exact .y q
  | no => rw [e] at hb; exact hb.gn
end
/-! ### a def -/
theorem run_w {P : Nat → Option Fn} {k f np n : Nat} {b : Ts} {ds : List D} {v : SV} (hP : P f = some ⟨n, false, np, b⟩) (hn : ds.length = np) (h : Xs (callF P k) 0 b (FL.start n none ds) (fun f _ => f = .rt v) NoR) : callF P (k + 1) f none ds = .ok v none := by
  obtain ⟨fl, s, e, rfl⟩ := Post.ok h
  exact run_rt (F := ⟨n, false, np, b⟩) hP rfl hn e
theorem run_w0 {P : Nat → Option Fn} {k f np n : Nat} {b : Ts} {ds : List D} (hP : P f = some ⟨n, false, np, b⟩) (hn : ds.length = np) (h : Xs (callF P k) 0 b (FL.start n none ds) (fun f _ => f = .nx) NoR) : callF P (k + 1) f none ds = .ok (.d .non) none := by
  obtain ⟨fl, s, e, rfl⟩ := Post.ok h
  exact run_nx (F := ⟨n, false, np, b⟩) hP rfl hn e
theorem run_wN {P : Nat → Option Fn} {k f np n : Nat} {b : Ts} {ds : List D} {Pv : SV → Prop} (hP : P f = some ⟨n, false, np, b⟩) (hn : ds.length = np) (h : Xs (callF P k) 0 b (FL.start n none ds) (fun f _ => ∃ v, f = .rt v ∧ Pv v) NoR) : CN (callF P (k + 1)) f ds Pv := by
  obtain ⟨fl, s, e, v, rfl, p⟩ := Post.ok h
  exact ⟨v, none, run_rt (F := ⟨n, false, np, b⟩) hP rfl hn e, p⟩
theorem run_wH {P : Nat → Option Fn} {k f np n : Nat} {b : Ts} {ds : List D} {h0 : D} {Pv : SV → D → Prop} (hP : P f = some ⟨n, true, np, b⟩) (hn : ds.length = np) (h : Xs (callF P k) 1 b (FL.start n (some h0) ds) (fun f s => ∃ v h', f = .rt v ∧ getS s 0 = some (.o h') ∧ Pv v h') NoR) : CH (callF P (k + 1)) f h0 ds Pv := by
  obtain ⟨fl, s, e, v, h', rfl, g, p⟩ := Post.ok h
  refine ⟨v, h', ?_, p⟩
  have := run_rt (F := ⟨n, true, np, b⟩) (h := some h0) hP rfl hn e
  rw [this]
  show CO.ok v (getS s 0) = _
  rw [g]
/-- .. that makes a thing -/
theorem run_wM {P : Nat → Option Fn} {k f np n : Nat} {b : Ts} {ds : List D} {h0 h' : D} (hP : P f = some ⟨n, true, np, b⟩) (hn : ds.length = np) (h : Xs (callF P k) 1 b (FL.start n (some h0) ds) (fun f s => f = .nx ∧ getS s 0 = some (.o h')) NoR) : callF P (k + 1) f (some h0) ds = .ok (.d .non) (some (.o h')) := by
  obtain ⟨fl, s, e, rfl, g⟩ := Post.ok h
  have := run_nx (F := ⟨n, true, np, b⟩) (h := some h0) hP rfl hn e
  rw [this]
  show CO.ok _ (getS s 0) = _
  rw [g]
/-- .. that raises -/
theorem run_wX {P : Nat → Option Fn} {k f np n : Nat} {b : Ts} {ds : List D} {x : Exn} (hP : P f = some ⟨n, false, np, b⟩) (hn : ds.length = np) (h : Xs (callF P k) 0 b (FL.start n none ds) (fun _ _ => False) (fun y _ => y = x)) : callF P (k + 1) f none ds = .ex x none := by
  unfold Xs at h
  cases e : exs (callF P k) 0 b (FL.start n none ds) with
  | ok f s => rw [e] at h; exact absurd h.gy id
  | no => rw [e] at h; exact h.gn
  | ex y s =>
    rw [e] at h
    have h' : y = x := h.gx
    subst h'
    unfold callF
    rw [hP]
    simp only
    rw [if_pos ⟨rfl, hn⟩]
    show (match exs (callF P k) (ln false) b (FL.start n none ds) with | .ok (.rt v) s => CO.ok v (outOf false s) | .ok .nx s => .ok (.d .non) (outOf false s) | .ok _ _ => .no | .ex x s => .ex x (outOf false s) | .no => .no) = _
    rw [show ln false = 0 from rfl, e]
    rfl
/-- a def that is handed a lambda -/
theorem run_wLV {P : Nat → Option Fn} {k f n : Nat} {b : Ts} {d : D} {v : SV} (hP : P f = some ⟨n, false, lamNp, b⟩) (h : Xs (aC (callF P k) (.ok (.d d) none)) 1 b (FL.start n none []) (fun f _ => f = .rt v) NoR) : callF P (k + 1) f none [.int 0, d] = .ok v none := by
  obtain ⟨fl, s, e, rfl⟩ := Post.ok h
  exact run_lamV hP e
theorem run_wLX {P : Nat → Option Fn} {k f n c : Nat} {b : Ts} {v : SV} (hP : P f = some ⟨n, false, lamNp, b⟩) (h : Xs (aC (callF P k) (.ex ⟨c, none⟩ none)) 1 b (FL.start n none []) (fun f _ => f = .rt v) NoR) : callF P (k + 1) f none [.int 1, .int (c : Int)] = .ok v none := by
  obtain ⟨fl, s, e, rfl⟩ := Post.ok h
  exact run_lamX hP e
theorem c_eqB {a b : Bool} : cmp .eq (.bl a) (.bl b) = some (a == b) := rfl
theorem c_neB {a b : Bool} : cmp .ne (.bl a) (.bl b) = some (!(a == b)) := rfl
theorem c_isN {d : D} : cmp .is d .non = some d.isNon := rfl
theorem c_isntN {d : D} : cmp .isnot d .non = some (!d.isNon) := rfl
theorem rgD_at {lo : Int} {n j : Nat} {d : D} (h : ((rgI lo n).map D.int)[j]? = some d) : j < n ∧ d = .int (lo + (j : Int)) := by
  rw [List.getElem?_map] at h
  cases e : (rgI lo n)[j]? with
  | none => rw [e] at h; cases h
  | some i =>
    rw [e] at h
    obtain ⟨h1, rfl⟩ := rgI_at e
    cases h
    exact ⟨h1, rfl⟩
theorem rrD_at {lo : Int} {n j : Nat} {d : D} (h : ((rgI lo n).map D.int).reverse[j]? = some d) : j < n ∧ d = .int (lo + ((n - 1 - j : Nat) : Int)) := by
  have hj : j < ((rgI lo n).map D.int).length := by
    have := (List.getElem?_eq_some_iff.mp h).1
    rw [List.length_reverse] at this
    exact this
  rw [List.getElem?_reverse hj] at h
  rw [List.length_map, rgI_len] at h hj
  exact ⟨hj, (rgD_at h).2⟩
theorem ext_l {ds xs : List D} (h : ds.length + xs.length ≤ 100000) : mtf .extend (.lst ds) [.lst xs] = some (.lst (ds ++ xs), .d .non) := by
  show (if ds.length + xs.length ≤ lim then some (D.lst (ds ++ xs), AV.d .non) else none) = _
  rw [if_pos (show _ ≤ lim from h)]
theorem sq_t {ds : List D} : seqOf (.tup ds) = some ds := rfl
theorem sq_l {ds : List D} : seqOf (.lst ds) = some ds := rfl
theorem sq_f {ds : List D} : seqOf (.fz ds) = some ds := rfl
theorem sq_k {ds : List D} : seqOf (.kt ds) = some ds := rfl
theorem en_t {ds : List D} : enumL [.tup ds] = some (enumD 0 ds) := rfl
theorem en_l {ds : List D} : enumL [.lst ds] = some (enumD 0 ds) := rfl
theorem zi_tt {a b : List D} : zipL [.tup a, .tup b] = some (zipD a b) := rfl
theorem zi_tl {a b : List D} : zipL [.tup a, .lst b] = some (zipD a b) := rfl
theorem zi_lt {a b : List D} : zipL [.lst a, .tup b] = some (zipD a b) := rfl
theorem zi_ll {a b : List D} : zipL [.lst a, .lst b] = some (zipD a b) := rfl
theorem ex_i {α : Sort _} {A B : α → Prop} {a : α} (h : A a) (q : B a) : ∃ x, A x ∧ B x := ⟨a, h, q⟩
theorem ex_l {α β : Sort _} {A B : α → β → Prop} {a : α} {b : β} (h : A a b) (q : B a b) : ∃ x y, A x y ∧ B x y := ⟨a, b, h, q⟩
theorem ex_j {α : Sort _} {A B D : α → Prop} {a : α} (h : A a) (h2 : B a) (q : D a) : ∃ x, A x ∧ B x ∧ D x := ⟨a, h, h2, q⟩
theorem ex_k {α β : Sort _} {A B D : α → β → Prop} {a : α} {b : β} (h : A a b) (h2 : B a b) (q : D a b) : ∃ x y, A x y ∧ B x y ∧ D x y := ⟨a, b, h, h2, q⟩
theorem ex_f {s2 : S} {f : Str} {d : D} {c : Nat} {fs : List (Str × D)} {s3 : S} {Q : S → Prop} (g : GetR s2 0 (.o (.ins c fs))) (h1 : lookF f fs = none) (h2 : fs.length < 900) (p : PutR s2 0 (.o (.ins c (fs ++ [(f, d)]))) s3) (q : Q s3) : ∃ c fs s3, GetR s2 0 (.o (.ins c fs)) ∧ lookF f fs = none ∧ fs.length < 900 ∧ PutR s2 0 (.o (.ins c (fs ++ [(f, d)]))) s3 ∧ Q s3 := ⟨c, fs, s3, g, h1, h2, p, q⟩
theorem ex_h {A : D → Prop} {B : Prop} {a : D} (h : A a) (q : B) : (∃ x, A x) ∧ B := ⟨⟨a, h⟩, q⟩
theorem i_and {A B G : Prop} (h : A → B → G) : A ∧ B → G := fun q => h q.1 q.2
theorem i_ex {α : Sort _} {A : α → Prop} {G : Prop} (h : ∀ x, A x → G) : (∃ x, A x) → G := fun ⟨x, q⟩ => h x q
theorem i_tr {G : Prop} (h : G) : True → G := fun _ => h
/-- what came of it, known -/
theorem W.ok {e : E} {Q : AV → S → Prop} (h : W C lk e s Q NoR) : ∃ x s', ev C lk e s = .ok x s' ∧ Q x s' := Post.ok h
end FLW

set_option maxHeartbeats 1000000
namespace K37
open PySem PySem.Spec L2 FL
def top (i : Nat) : Stmt := PySem.Challenge.pw_dotmaps_k37_whole_patterns_judged_and_to.main.body.getD i (.Pass ⟨0, 0, 0, 0⟩)
/-- law -/
def B0 : Ts := (.cons (.asg 1 (.call 14 (.cons (.v 0) .nil))) (.cons (.asg 2 (.lst (.cons (.call 8 (.cons (.tup (.cons (.c (.int 1)) (.cons (.c (.int 2)) (.cons (.c (.int 0)) .nil)))) .nil)) (.cons (.call 8 (.cons (.tup (.cons (.c (.int 3)) (.cons (.c (.int 4)) .nil))) .nil)) (.cons (.call 13 (.cons (.tup (.cons (.c (.int 1)) (.cons (.c (.int 2)) (.cons (.c (.int 0)) .nil)))) .nil)) .nil))))) (.cons (.expr (.mt .append 2 (.cons (.call 11 (.cons (.tup (.cons (.c (.int 1)) (.cons (.c (.int 2)) (.cons (.c (.int 0)) .nil)))) (.cons (.c (.int 1)) .nil))) .nil))) (.cons (.if_ (.not (.call 18 (.cons (.v 2) (.cons (.lst (.cons (.tup (.cons (.c (.int 0)) (.cons (.c (.int 1)) .nil))) (.cons (.tup (.cons (.c (.int 3)) (.cons (.c (.int 2)) .nil))) (.cons (.tup (.cons (.neg (.c (.int 2))) (.cons (.c (.int 2)) (.cons (.c (.int 3)) .nil)))) (.cons (.tup (.cons (.c (.int 1)) (.cons (.neg (.c (.int 1))) (.cons (.c (.int 3)) .nil)))) .nil))))) .nil)))) (.cons (.ret (.c (.bl false))) .nil) .nil) (.cons (.ret (.bi .all (.cons (.lc [3] (.v 3) (.rng (.cons (.c (.int 5)) .nil)) .none (.callH 26 1 (.cons (.callH 20 1 (.cons (.op .add (.c (.int 1)) (.callH 15 1 (.cons (.c (.int 8)) .nil))) .nil)) .nil))) .nil))) .nil)))))
def D0 : DefT := { fd := ⟨"law", false, 1⟩, qual := "law", st := (top 34), N := ["script", "hand", "told", "turn"], ps := ["script"], body := B0 }
/-- is_integer -/
def B1 : Ts := (.cons (.ret (.and (.isi (.v 0) false [.int]) (.not (.isi (.v 0) false [.bool])))) .nil)
def D1 : DefT := { fd := ⟨"is_integer", false, 1⟩, qual := "is_integer", st := (top 5), N := ["thing"], ps := ["thing"], body := B1 }
/-- common_divisor -/
def B2 : Ts := (.cons (.par [0, 1] (.cons (.bi .abs (.cons (.v 0) .nil)) (.cons (.bi .abs (.cons (.v 1) .nil)) .nil))) (.cons (.while_ (.cm .gt (.v 1) (.c (.int 0))) (.cons (.par [0, 1] (.cons (.v 1) (.cons (.op .mod (.v 0) (.v 1)) .nil))) .nil)) (.cons (.ret (.v 0)) .nil)))
def D2 : DefT := { fd := ⟨"common_divisor", false, 2⟩, qual := "common_divisor", st := (top 6), N := ["one", "other"], ps := ["one", "other"], body := B2 }
/-- fraction -/
def B3 : Ts := (.cons (.asg 2 (.call 2 (.cons (.v 0) (.cons (.v 1) .nil)))) (.cons (.asg 2 (.ite (.cm .gt (.v 1) (.c (.int 0))) (.v 2) (.neg (.v 2)))) (.cons (.ret (.tup (.cons (.op .fdiv (.v 0) (.v 2)) (.cons (.op .fdiv (.v 1) (.v 2)) .nil)))) .nil)))
def D3 : DefT := { fd := ⟨"fraction", false, 2⟩, qual := "fraction", st := (top 7), N := ["top", "bottom", "by"], ps := ["top", "bottom"], body := B3 }
/-- places_met -/
def B4 : Ts := (.cons (.par [1, 2] (.cons (.dnew false) (.cons (.c (.int 0)) .nil))) (.cons (.while_ (.cm .notin (.v 2) (.v 1)) (.cons (.setIx 1 (.v 2) (.c (.bl true))) (.cons (.asg 2 (.op .mod (.ix (.v 0) (.v 2)) (.bi .len (.cons (.v 0) .nil)))) .nil))) (.cons (.ret (.bi .list (.cons (.v 1) .nil))) .nil)))
def D4 : DefT := { fd := ⟨"places_met", false, 1⟩, qual := "places_met", st := (top 10), N := ["moves", "met", "here"], ps := ["moves"], body := B4 }
/-- is_pattern -/
def B5 : Ts := (.cons (.if_ (.or (.not (.isi (.v 0) false [.tuple])) (.not (.ch .le .le (.c (.int 1)) (.bi .len (.cons (.v 0) .nil)) (.g "MOST_PLACES" (.int 8))))) (.cons (.ret (.c (.bl false))) .nil) .nil) (.cons (.if_ (.not (.bi .all (.cons (.lc [1] (.v 1) (.e (.v 0)) .none (.call 1 (.cons (.v 1) .nil))) .nil))) (.cons (.ret (.c (.bl false))) .nil) .nil) (.cons (.ret (.ch .eq .eq (.bi .len (.cons (.dcT [1] (.v 1) (.e (.v 0)) .none (.op .mod (.v 1) (.bi .len (.cons (.v 0) .nil)))) .nil)) (.bi .len (.cons (.v 0) .nil)) (.bi .len (.cons (.call 4 (.cons (.v 0) .nil)) .nil)))) .nil)))
def D5 : DefT := { fd := ⟨"is_pattern", false, 1⟩, qual := "is_pattern", st := (top 11), N := ["thing", "move"], ps := ["thing"], body := B5 }
/-- check_pattern -/
def B6 : Ts := (.cons (.if_ (.not (.call 5 (.cons (.v 0) .nil))) (.cons (.raise) .nil) .nil) .nil)
def D6 : DefT := { fd := ⟨"check_pattern", false, 1⟩, qual := "check_pattern", st := (top 12), N := ["thing"], ps := ["thing"], body := B6 }
/-- rounds_of -/
def B7 : Ts := (.cons (.ret (.op .fdiv (.bi .sum (.cons (.lc [1, 2] (.t [1, 2]) (.enum (.cons (.v 0) .nil)) .none (.op .sub (.v 2) (.v 1))) .nil)) (.bi .len (.cons (.v 0) .nil)))) .nil)
def D7 : DefT := { fd := ⟨"rounds_of", false, 1⟩, qual := "rounds_of", st := (top 13), N := ["pattern", "place", "move"], ps := ["pattern"], body := B7 }
/-- pattern_share -/
def B8 : Ts := (.cons (.expr (.call 6 (.cons (.v 0) .nil))) (.cons (.ret (.call 3 (.cons (.call 7 (.cons (.v 0) .nil)) (.cons (.bi .len (.cons (.v 0) .nil)) .nil)))) .nil))
def D8 : DefT := { fd := ⟨"pattern_share", false, 1⟩, qual := "pattern_share", st := (top 14), N := ["pattern"], ps := ["pattern"], body := B8 }
/-- move_from -/
def B9 : Ts := (.cons (.asg 2 (.bi .len (.cons (.v 0) .nil))) (.cons (.ret (.op .add (.ix (.v 0) (.op .mod (.v 1) (.v 2))) (.op .mul (.v 2) (.op .fdiv (.v 1) (.v 2))))) .nil))
def D9 : DefT := { fd := ⟨"move_from", false, 2⟩, qual := "move_from", st := (top 15), N := ["pattern", "place", "size"], ps := ["pattern", "place"], body := B9 }
/-- raw_from -/
def B10 : Ts := (.cons (.ret (.bi .tuple (.cons (.lc [2] (.v 2) (.rng (.cons (.bi .len (.cons (.v 0) .nil)) .nil)) .none (.op .sub (.call 9 (.cons (.v 0) (.cons (.op .add (.v 2) (.v 1)) .nil))) (.v 1))) .nil))) .nil)
def D10 : DefT := { fd := ⟨"raw_from", false, 2⟩, qual := "raw_from", st := (top 16), N := ["pattern", "place", "at"], ps := ["pattern", "place"], body := B10 }
/-- pattern_from -/
def B11 : Ts := (.cons (.expr (.call 6 (.cons (.v 0) .nil))) (.cons (.if_ (.not (.call 1 (.cons (.v 1) .nil))) (.cons (.raise) .nil) .nil) (.cons (.ret (.call 10 (.cons (.v 0) (.cons (.v 1) .nil)))) .nil)))
def D11 : DefT := { fd := ⟨"pattern_from", false, 2⟩, qual := "pattern_from", st := (top 17), N := ["pattern", "place"], ps := ["pattern", "place"], body := B11 }
/-- raw_plain -/
def B12 : Ts := (.cons (.ret (.bi .mint (.cons (.lc [1] (.v 1) (.rng (.cons (.bi .len (.cons (.v 0) .nil)) .nil)) .none (.call 10 (.cons (.v 0) (.cons (.v 1) .nil)))) .nil))) .nil)
def D12 : DefT := { fd := ⟨"raw_plain", false, 1⟩, qual := "raw_plain", st := (top 18), N := ["pattern", "place"], ps := ["pattern"], body := B12 }
/-- plain_pattern -/
def B13 : Ts := (.cons (.expr (.call 6 (.cons (.v 0) .nil))) (.cons (.ret (.call 12 (.cons (.v 0) .nil))) .nil))
def D13 : DefT := { fd := ⟨"plain_pattern", false, 1⟩, qual := "plain_pattern", st := (top 19), N := ["pattern"], ps := ["pattern"], body := B13 }
/-- _law_hand -/
def B14 : Ts := (.cons (.asg 1 (.lc [2] (.v 2) (.e (.sl (.v 0) .none (.some (.c (.int 63))))) .none (.bi .abs (.cons (.bi .int (.cons (.v 2) .nil)) .nil)))) (.cons (.ret (.lst (.cons (.v 1) (.cons (.c (.int 0)) (.cons (.c (.int 0)) (.cons (.op .add (.c (.int 61)) (.op .mul (.c (.int 7)) (.bi .len (.cons (.v 1) .nil)))) (.cons (.c (.int 0)) .nil))))))) .nil))
def D14 : DefT := { fd := ⟨"_law_hand", false, 1⟩, qual := "_law_hand", st := (top 21), N := ["script", "cells", "cell"], ps := ["script"], body := B14 }
/-- _law_draw -/
def B15 : Ts := (.cons (.if_ (.and (.cm .eq (.ix (.v 0) (.c (.int 2))) (.c (.int 0))) (.cm .lt (.ix (.v 0) (.c (.int 1))) (.bi .len (.cons (.ix (.v 0) (.c (.int 0))) .nil)))) (.cons (.asg 3 (.ix (.ix (.v 0) (.c (.int 0))) (.ix (.v 0) (.c (.int 1))))) (.cons (.setIx 0 (.c (.int 1)) (.op .add (.ix (.v 0) (.c (.int 1))) (.c (.int 1)))) (.cons (.setIx 0 (.c (.int 3)) (.op .mod (.bi .int (.cons (.op .add (.op .add (.op .mul (.ix (.v 0) (.c (.int 3))) (.c (.int 69621))) (.v 3)) (.c (.int 13))) .nil)) (.c (.int 2147483629)))) (.cons (.if_ (.cm .ge (.v 3) (.op .pow (.c (.int 10)) (.c (.int 18)))) (.cons (.setIx 0 (.c (.int 2)) (.v 3)) .nil) .nil) .nil)))) .nil) (.cons (.if_ (.cm .gt (.ix (.v 0) (.c (.int 2))) (.c (.int 0))) (.cons (.asg 4 (.op .mod (.bi .int (.cons (.ix (.v 0) (.c (.int 2))) .nil)) (.v 1))) (.cons (.setIx 0 (.c (.int 2)) (.op .fdiv (.ix (.v 0) (.c (.int 2))) (.v 1))) (.cons (.ret (.v 4)) .nil))) .nil) (.cons (.setIx 0 (.c (.int 4)) (.op .add (.ix (.v 0) (.c (.int 4))) (.c (.int 1)))) (.cons (.asg 2 (.op .mod (.bi .int (.cons (.op .mul (.bi .int (.cons (.op .add (.ix (.v 0) (.c (.int 3))) (.op .mul (.c (.int 7919)) (.ix (.v 0) (.c (.int 4))))) .nil)) (.c (.int 48271))) .nil)) (.c (.int 2147483647)))) (.cons (.asg 2 (.op .mod (.bi .int (.cons (.op .mul (.v 2) (.op .add (.op .fdiv (.v 2) (.c (.int 1009))) (.c (.int 69621)))) .nil)) (.c (.int 2147483647)))) (.cons (.asg 2 (.op .mod (.bi .int (.cons (.op .mul (.v 2) (.op .add (.op .fdiv (.v 2) (.c (.int 2003))) (.c (.int 40692)))) .nil)) (.c (.int 2147483399)))) (.cons (.ret (.op .mod (.bi .int (.cons (.op .fdiv (.v 2) (.c (.int 16))) .nil)) (.v 1))) .nil)))))))
def D15 : DefT := { fd := ⟨"_law_draw", true, 1⟩, qual := "_law_draw", st := (top 22), N := ["hand", "many", "number", "cell", "digit"], ps := ["hand", "many"], body := B15 }
/-- _law_some -/
def B16 : Ts := (.cons (.ret (.ix (.v 1) (.callH 15 0 (.cons (.bi .len (.cons (.v 1) .nil)) .nil)))) .nil)
def D16 : DefT := { fd := ⟨"_law_some", true, 1⟩, qual := "_law_some", st := (top 23), N := ["hand", "things"], ps := ["hand", "things"], body := B16 }
/-- _law_mixed -/
def B17 : Ts := (.cons (.par [2, 3] (.cons (.bi .list (.cons (.v 1) .nil)) (.cons (.lst .nil) .nil))) (.cons (.while_ (.cm .gt (.bi .len (.cons (.v 2) .nil)) (.c (.int 0))) (.cons (.expr (.mt .append 3 (.cons (.mt .pop1 2 (.cons (.callH 15 0 (.cons (.bi .len (.cons (.v 2) .nil)) .nil)) .nil)) .nil))) .nil)) (.cons (.ret (.v 3)) .nil)))
def D17 : DefT := { fd := ⟨"_law_mixed", true, 1⟩, qual := "_law_mixed", st := (top 24), N := ["hand", "things", "left", "found"], ps := ["hand", "things"], body := B17 }
/-- _law_is -/
def B18 : Ts := (.cons (.if_ (.isi (.v 1) true [.tuple, .list]) (.cons (.if_ (.cm .ne (.isi (.v 0) false [.tuple]) (.isi (.v 1) false [.tuple])) (.cons (.ret (.c (.bl false))) .nil) .nil) (.cons (.if_ (.or (.cm .ne (.isi (.v 0) false [.list]) (.isi (.v 1) false [.list])) (.cm .ne (.bi .len (.cons (.v 0) .nil)) (.bi .len (.cons (.v 1) .nil)))) (.cons (.ret (.c (.bl false))) .nil) .nil) (.cons (.ret (.bi .all (.cons (.lc [2, 3] (.t [2, 3]) (.zip (.cons (.v 0) (.cons (.v 1) .nil))) .none (.call 18 (.cons (.v 2) (.cons (.v 3) .nil)))) .nil))) .nil))) .nil) (.cons (.if_ (.or (.cm .is (.v 1) (.c .non)) (.cm .is (.v 0) (.c .non))) (.cons (.ret (.and (.cm .is (.v 1) (.c .non)) (.cm .is (.v 0) (.c .non)))) .nil) .nil) (.cons (.if_ (.cm .ne (.isi (.v 0) false [.bool]) (.isi (.v 1) false [.bool])) (.cons (.ret (.c (.bl false))) .nil) .nil) (.cons (.ret (.and (.cm .eq (.isi (.v 0) false [.str]) (.isi (.v 1) false [.str])) (.cm .eq (.v 0) (.v 1)))) .nil))))
def D18 : DefT := { fd := ⟨"_law_is", false, 2⟩, qual := "_law_is", st := (top 25), N := ["got", "due", "one", "other"], ps := ["got", "due"], body := B18 }
/-- _law_cut -/
def B19 : Ts := (.cons (.par [2, 3] (.cons (.v 0) (.cons (.v 1) .nil))) (.cons (.while_ (.cm .ne (.v 3) (.c (.int 0))) (.cons (.par [2, 3] (.cons (.v 3) (.cons (.op .mod (.bi .int (.cons (.v 2) .nil)) (.v 3)) .nil))) .nil)) (.cons (.asg 2 (.bi .abs (.cons (.v 2) .nil))) (.cons (.ret (.ite (.cm .gt (.v 1) (.c (.int 0))) (.tup (.cons (.op .fdiv (.v 0) (.v 2)) (.cons (.op .fdiv (.v 1) (.v 2)) .nil))) (.tup (.cons (.op .sub (.c (.int 0)) (.op .fdiv (.v 0) (.v 2))) (.cons (.op .sub (.c (.int 0)) (.op .fdiv (.v 1) (.v 2))) .nil))))) .nil))))
def D19 : DefT := { fd := ⟨"_law_cut", false, 2⟩, qual := "_law_cut", st := (top 26), N := ["n", "d", "one", "other"], ps := ["n", "d"], body := B19 }
/-- _law_pattern -/
def B20 : Ts := (.cons (.par [3, 4] (.cons (.callH 17 0 (.cons (.trg false (.cons (.v 1) .nil)) .nil)) (.cons (.op .mul (.lst (.cons (.c (.int 0)) .nil)) (.v 1)) .nil))) (.cons (.asg 2 (.callH 16 0 (.cons (.lst (.cons (.c (.int 1)) (.cons (.c (.int 1)) (.cons (.c (.int 3)) (.cons (.c (.int 5)) .nil))))) .nil))) (.cons (.for_ (.t [5, 6]) (.enum (.cons (.v 3) .nil)) (.cons (.setIx 4 (.v 6) (.op .add (.ix (.v 3) (.op .mod (.bi .int (.cons (.op .add (.v 5) (.c (.int 1))) .nil)) (.v 1))) (.op .mul (.v 1) (.op .sub (.callH 15 0 (.cons (.v 2) .nil)) (.op .fdiv (.v 2) (.c (.int 2))))))) .nil)) (.cons (.ret (.bi .tuple (.cons (.v 4) .nil))) .nil))))
def D20 : DefT := { fd := ⟨"_law_pattern", true, 1⟩, qual := "_law_pattern", st := (top 27), N := ["hand", "many", "wide", "way", "found", "at", "place"], ps := ["hand", "many"], body := B20 }
/-- _law_is_pattern -/
def B21 : Ts := (.cons (.if_ (.or (.not (.isi (.v 0) false [.tuple])) (.not (.ch .le .le (.c (.int 1)) (.bi .len (.cons (.v 0) .nil)) (.c (.int 8))))) (.cons (.ret (.c (.bl false))) .nil) .nil) (.cons (.if_ (.not (.bi .all (.cons (.lc [5] (.v 5) (.e (.v 0)) .none (.and (.isi (.v 5) false [.int]) (.not (.isi (.v 5) false [.bool])))) .nil))) (.cons (.ret (.c (.bl false))) .nil) .nil) (.cons (.par [2, 3, 4] (.cons (.bi .len (.cons (.v 0) .nil)) (.cons (.c (.int 0)) (.cons (.lst .nil) .nil)))) (.cons (.for_ (.v 1) (.rng (.cons (.v 2) .nil)) (.cons (.expr (.mt .append 4 (.cons (.v 3) .nil))) (.cons (.asg 3 (.op .mod (.bi .int (.cons (.ix (.v 0) (.v 3)) .nil)) (.v 2))) .nil))) (.cons (.ret (.and (.cm .eq (.v 3) (.c (.int 0))) (.cm .eq (.nset (.v 4)) (.v 2)))) .nil)))))
def D21 : DefT := { fd := ⟨"_law_is_pattern", false, 1⟩, qual := "_law_is_pattern", st := (top 28), N := ["thing", "turn", "many", "place", "met_here", "one"], ps := ["thing"], body := B21 }
/-- _law_from_place -/
def B22 : Ts := (.cons (.par [3, 4] (.cons (.bi .len (.cons (.v 0) .nil)) (.cons (.lst .nil) .nil))) (.cons (.for_ (.v 2) (.rng (.cons (.v 3) .nil)) (.cons (.asg 5 (.op .add (.v 2) (.v 1))) (.cons (.expr (.mt .append 4 (.cons (.op .sub (.op .sub (.op .add (.ix (.v 0) (.op .mod (.bi .int (.cons (.v 5) .nil)) (.v 3))) (.v 5)) (.op .mod (.bi .int (.cons (.v 5) .nil)) (.v 3))) (.v 1)) .nil))) .nil))) (.cons (.ret (.bi .tuple (.cons (.v 4) .nil))) .nil)))
def D22 : DefT := { fd := ⟨"_law_from_place", false, 2⟩, qual := "_law_from_place", st := (top 29), N := ["moves", "place", "at", "many", "found", "goal"], ps := ["moves", "place"], body := B22 }
/-- _law_plain -/
def B23 : Ts := (.cons (.ret (.bi .mint (.cons (.lc [1] (.v 1) (.rng (.cons (.bi .len (.cons (.v 0) .nil)) .nil)) .none (.call 22 (.cons (.v 0) (.cons (.v 1) .nil)))) .nil))) .nil)
def D23 : DefT := { fd := ⟨"_law_plain", false, 1⟩, qual := "_law_plain", st := (top 30), N := ["moves", "place"], ps := ["moves"], body := B23 }
/-- _law_deep -/
def B24 : Ts := (.cons (.asg 1 (.lst (.cons (.v 1) (.cons (.c .non) .nil)))) (.cons (.for_ (.v 2) (.rng (.cons (.op .add (.c (.int 5)) (.callH 15 0 (.cons (.c (.int 40)) .nil))) .nil)) (.cons (.asg 1 (.ite (.cm .eq (.callH 15 0 (.cons (.c (.int 2)) .nil)) (.c (.int 0))) (.tup (.cons (.v 1) .nil)) (.lst (.cons (.v 1) .nil)))) .nil)) (.cons (.ret (.v 1)) .nil)))
def D24 : DefT := { fd := ⟨"_law_deep", true, 1⟩, qual := "_law_deep", st := (top 31), N := ["hand", "thing", "turn"], ps := ["hand", "thing"], body := B24 }
/-- _law_bent -/
def B25 : Ts := (.cons (.par [4, 5] (.cons (.callH 15 0 (.cons (.bi .len (.cons (.v 1) .nil)) .nil)) (.cons (.bi .len (.cons (.v 1) .nil)) .nil))) (.cons (.asg 2 (.lst (.cons (.op .add (.ix (.v 1) (.v 4)) (.c (.int 1))) (.cons (.op .sub (.ix (.v 1) (.v 4)) (.v 5)) (.cons (.op .add (.ix (.v 1) (.v 4)) (.v 5)) (.cons (.c (.int 61)) (.cons (.neg (.c (.int 61))) (.cons (.c (.int 60)) (.cons (.op .add (.ix (.v 1) (.v 4)) (.op .mul (.v 5) (.op .pow (.c (.int 10)) (.c (.int 20))))) (.cons (.c (.bl true)) (.cons (.c .non) .nil))))))))))) (.cons (.asg 2 (.op .add (.v 2) (.lst (.cons (.c (.str "1")) (.cons (.tup (.cons (.c (.int 0)) .nil)) (.cons (.op .pow (.c (.int 10)) (.c (.int 30))) .nil)))))) (.cons (.asg 3 (.lc [6] (.v 6) (.e (.v 2)) .none (.op .add (.op .add (.sl (.v 1) .none (.some (.v 4))) (.tup (.cons (.v 6) .nil))) (.sl (.v 1) (.some (.op .add (.v 4) (.c (.int 1)))) .none)))) (.cons (.asg 3 (.op .add (.v 3) (.lst (.cons (.bi .list (.cons (.v 1) .nil)) (.cons (.op .add (.v 1) (.sl (.v 1) .none (.some (.c (.int 1))))) (.cons (.sl (.v 1) (.some (.c (.int 1))) .none) (.cons (.rev (.v 1) .none) (.cons (.tup .nil) (.cons (.c .non) (.cons (.c (.int 0)) (.cons (.dnew false) (.cons (.c (.str "pattern")) (.cons (.tup (.cons (.v 1) .nil)) .nil))))))))))))) (.cons (.ret (.callH 16 0 (.cons (.op .add (.v 3) (.lst (.cons (.trg true (.cons (.v 5) .nil)) (.cons (.op .mul (.tup (.cons (.c (.int 1)) .nil)) (.v 5)) (.cons (.op .mul (.v 1) (.c (.int 3))) (.cons (.callH 24 0 (.cons (.v 1) .nil)) .nil)))))) .nil))) .nil))))))
def D25 : DefT := { fd := ⟨"_law_bent", true, 1⟩, qual := "_law_bent", st := (top 32), N := ["hand", "moves", "odds", "some", "at", "many", "odd"], ps := ["hand", "moves"], body := B25 }
/-- _law_is_right -/
def B26 : Ts := (.cons (.asg 2 (.bi .len (.cons (.v 1) .nil))) (.cons (.asg 3 (.op .fdiv (.bi .sum (.cons (.lc [12] (.v 12) (.rng (.cons (.v 2) .nil)) .none (.op .sub (.ix (.v 1) (.v 12)) (.v 12))) .nil)) (.v 2))) (.cons (.par [5, 6] (.cons (.call 19 (.cons (.v 3) (.cons (.v 2) .nil))) (.cons (.call 23 (.cons (.v 1) .nil)) .nil))) (.cons (.if_ (.or (.cm .isnot (.call 5 (.cons (.v 1) .nil)) (.c (.bl true))) (.not (.call 18 (.cons (.call 8 (.cons (.v 1) .nil)) (.cons (.v 5) .nil))))) (.cons (.ret (.c (.bl false))) .nil) .nil) (.cons (.for_ (.v 4) (.rng (.cons (.c (.int 3)) .nil)) (.cons (.par [10, 11] (.cons (.op .sub (.callH 15 0 (.cons (.c (.int 30)) .nil)) (.c (.int 15))) (.cons (.op .sub (.callH 15 0 (.cons (.c (.int 30)) .nil)) (.c (.int 15))) .nil))) (.cons (.asg 7 (.call 11 (.cons (.v 1) (.cons (.v 10) .nil)))) (.cons (.if_ (.or (.not (.call 18 (.cons (.v 7) (.cons (.call 22 (.cons (.v 1) (.cons (.v 10) .nil))) .nil)))) (.not (.call 21 (.cons (.v 7) .nil)))) (.cons (.ret (.c (.bl false))) .nil) .nil) (.cons (.if_ (.cm .isnot (.call 5 (.cons (.v 7) .nil)) (.c (.bl true))) (.cons (.ret (.c (.bl false))) .nil) .nil) (.cons (.if_ (.not (.call 18 (.cons (.call 11 (.cons (.v 7) (.cons (.v 11) .nil))) (.cons (.call 22 (.cons (.v 1) (.cons (.op .add (.v 10) (.v 11)) .nil))) .nil)))) (.cons (.ret (.c (.bl false))) .nil) .nil) (.cons (.if_ (.not (.call 18 (.cons (.lst (.cons (.call 13 (.cons (.v 7) .nil)) (.cons (.call 8 (.cons (.v 7) .nil)) .nil))) (.cons (.lst (.cons (.v 6) (.cons (.v 5) .nil))) .nil)))) (.cons (.ret (.c (.bl false))) .nil) .nil) .nil))))))) (.cons (.if_ (.not (.call 18 (.cons (.lst (.cons (.call 11 (.cons (.v 1) (.cons (.v 2) .nil))) (.cons (.call 11 (.cons (.v 1) (.cons (.op .sub (.c (.int 0)) (.v 2)) .nil))) .nil))) (.cons (.lst (.cons (.v 1) (.cons (.v 1) .nil))) .nil)))) (.cons (.ret (.c (.bl false))) .nil) .nil) (.cons (.if_ (.not (.call 18 (.cons (.call 13 (.cons (.v 1) .nil)) (.cons (.v 6) .nil)))) (.cons (.ret (.c (.bl false))) .nil) .nil) (.cons (.for_ (.v 4) (.rng (.cons (.c (.int 6)) .nil)) (.cons (.asg 8 (.callH 25 0 (.cons (.v 1) .nil))) (.cons (.asg 9 (.bi .repr (.cons (.v 8) .nil))) (.cons (.if_ (.or (.not (.call 18 (.cons (.call 5 (.cons (.v 8) .nil)) (.cons (.call 21 (.cons (.v 8) .nil)) .nil)))) (.cm .ne (.bi .repr (.cons (.v 8) .nil)) (.v 9))) (.cons (.ret (.c (.bl false))) .nil) .nil) .nil)))) (.cons (.ret (.c (.bl true))) .nil)))))))))
def D26 : DefT := { fd := ⟨"_law_is_right", true, 1⟩, qual := "_law_is_right", st := (top 33), N := ["hand", "moves", "many", "rounds", "turn", "share_due", "least", "told", "thing", "before", "one", "other", "at"], ps := ["hand", "moves"], body := B26 }
def tab : Tab := fun f => match f with
  | 0 => some D0
  | 1 => some D1
  | 2 => some D2
  | 3 => some D3
  | 4 => some D4
  | 5 => some D5
  | 6 => some D6
  | 7 => some D7
  | 8 => some D8
  | 9 => some D9
  | 10 => some D10
  | 11 => some D11
  | 12 => some D12
  | 13 => some D13
  | 14 => some D14
  | 15 => some D15
  | 16 => some D16
  | 17 => some D17
  | 18 => some D18
  | 19 => some D19
  | 20 => some D20
  | 21 => some D21
  | 22 => some D22
  | 23 => some D23
  | 24 => some D24
  | 25 => some D25
  | 26 => some D26
  | _ => none
def G : Glo := { T := tab, cls := fun c => match c with  | _ => none, cts := [("MOST_PLACES", 8)], blts := ["abs", "all", "bool", "enumerate", "int", "isinstance", "len", "list", "min", "range", "repr", "set", "str", "sum", "tuple", "zip"], flds := [], tcs := [], eqs := fun c => match c with | _ => none }
theorem sc0 : FnScope D0.N D0.ps (defScope D0.st) := ⟨rfl, rfl, rfl, by decide +kernel, rfl, by decide +kernel, by decide +kernel⟩
theorem ch0 : G.chk D0 = true := by decide +kernel
theorem sc1 : FnScope D1.N D1.ps (defScope D1.st) := ⟨rfl, rfl, rfl, by decide +kernel, rfl, by decide +kernel, by decide +kernel⟩
theorem ch1 : G.chk D1 = true := by decide +kernel
theorem sc2 : FnScope D2.N D2.ps (defScope D2.st) := ⟨rfl, rfl, rfl, by decide +kernel, rfl, by decide +kernel, by decide +kernel⟩
theorem ch2 : G.chk D2 = true := by decide +kernel
theorem sc3 : FnScope D3.N D3.ps (defScope D3.st) := ⟨rfl, rfl, rfl, by decide +kernel, rfl, by decide +kernel, by decide +kernel⟩
theorem ch3 : G.chk D3 = true := by decide +kernel
theorem sc4 : FnScope D4.N D4.ps (defScope D4.st) := ⟨rfl, rfl, rfl, by decide +kernel, rfl, by decide +kernel, by decide +kernel⟩
theorem ch4 : G.chk D4 = true := by decide +kernel
theorem sc5 : FnScope D5.N D5.ps (defScope D5.st) := ⟨rfl, rfl, rfl, by decide +kernel, rfl, by decide +kernel, by decide +kernel⟩
theorem ch5 : G.chk D5 = true := by decide +kernel
theorem sc6 : FnScope D6.N D6.ps (defScope D6.st) := ⟨rfl, rfl, rfl, by decide +kernel, rfl, by decide +kernel, by decide +kernel⟩
theorem ch6 : G.chk D6 = true := by decide +kernel
theorem sc7 : FnScope D7.N D7.ps (defScope D7.st) := ⟨rfl, rfl, rfl, by decide +kernel, rfl, by decide +kernel, by decide +kernel⟩
theorem ch7 : G.chk D7 = true := by decide +kernel
theorem sc8 : FnScope D8.N D8.ps (defScope D8.st) := ⟨rfl, rfl, rfl, by decide +kernel, rfl, by decide +kernel, by decide +kernel⟩
theorem ch8 : G.chk D8 = true := by decide +kernel
theorem sc9 : FnScope D9.N D9.ps (defScope D9.st) := ⟨rfl, rfl, rfl, by decide +kernel, rfl, by decide +kernel, by decide +kernel⟩
theorem ch9 : G.chk D9 = true := by decide +kernel
theorem sc10 : FnScope D10.N D10.ps (defScope D10.st) := ⟨rfl, rfl, rfl, by decide +kernel, rfl, by decide +kernel, by decide +kernel⟩
theorem ch10 : G.chk D10 = true := by decide +kernel
theorem sc11 : FnScope D11.N D11.ps (defScope D11.st) := ⟨rfl, rfl, rfl, by decide +kernel, rfl, by decide +kernel, by decide +kernel⟩
theorem ch11 : G.chk D11 = true := by decide +kernel
theorem sc12 : FnScope D12.N D12.ps (defScope D12.st) := ⟨rfl, rfl, rfl, by decide +kernel, rfl, by decide +kernel, by decide +kernel⟩
theorem ch12 : G.chk D12 = true := by decide +kernel
theorem sc13 : FnScope D13.N D13.ps (defScope D13.st) := ⟨rfl, rfl, rfl, by decide +kernel, rfl, by decide +kernel, by decide +kernel⟩
theorem ch13 : G.chk D13 = true := by decide +kernel
theorem sc14 : FnScope D14.N D14.ps (defScope D14.st) := ⟨rfl, rfl, rfl, by decide +kernel, rfl, by decide +kernel, by decide +kernel⟩
theorem ch14 : G.chk D14 = true := by decide +kernel
theorem sc15 : FnScope D15.N D15.ps (defScope D15.st) := ⟨rfl, rfl, rfl, by decide +kernel, rfl, by decide +kernel, by decide +kernel⟩
theorem ch15 : G.chk D15 = true := by decide +kernel
theorem sc16 : FnScope D16.N D16.ps (defScope D16.st) := ⟨rfl, rfl, rfl, by decide +kernel, rfl, by decide +kernel, by decide +kernel⟩
theorem ch16 : G.chk D16 = true := by decide +kernel
theorem sc17 : FnScope D17.N D17.ps (defScope D17.st) := ⟨rfl, rfl, rfl, by decide +kernel, rfl, by decide +kernel, by decide +kernel⟩
theorem ch17 : G.chk D17 = true := by decide +kernel
theorem sc18 : FnScope D18.N D18.ps (defScope D18.st) := ⟨rfl, rfl, rfl, by decide +kernel, rfl, by decide +kernel, by decide +kernel⟩
theorem ch18 : G.chk D18 = true := by decide +kernel
theorem sc19 : FnScope D19.N D19.ps (defScope D19.st) := ⟨rfl, rfl, rfl, by decide +kernel, rfl, by decide +kernel, by decide +kernel⟩
theorem ch19 : G.chk D19 = true := by decide +kernel
theorem sc20 : FnScope D20.N D20.ps (defScope D20.st) := ⟨rfl, rfl, rfl, by decide +kernel, rfl, by decide +kernel, by decide +kernel⟩
theorem ch20 : G.chk D20 = true := by decide +kernel
theorem sc21 : FnScope D21.N D21.ps (defScope D21.st) := ⟨rfl, rfl, rfl, by decide +kernel, rfl, by decide +kernel, by decide +kernel⟩
theorem ch21 : G.chk D21 = true := by decide +kernel
theorem sc22 : FnScope D22.N D22.ps (defScope D22.st) := ⟨rfl, rfl, rfl, by decide +kernel, rfl, by decide +kernel, by decide +kernel⟩
theorem ch22 : G.chk D22 = true := by decide +kernel
theorem sc23 : FnScope D23.N D23.ps (defScope D23.st) := ⟨rfl, rfl, rfl, by decide +kernel, rfl, by decide +kernel, by decide +kernel⟩
theorem ch23 : G.chk D23 = true := by decide +kernel
theorem sc24 : FnScope D24.N D24.ps (defScope D24.st) := ⟨rfl, rfl, rfl, by decide +kernel, rfl, by decide +kernel, by decide +kernel⟩
theorem ch24 : G.chk D24 = true := by decide +kernel
theorem sc25 : FnScope D25.N D25.ps (defScope D25.st) := ⟨rfl, rfl, rfl, by decide +kernel, rfl, by decide +kernel, by decide +kernel⟩
theorem ch25 : G.chk D25 = true := by decide +kernel
theorem sc26 : FnScope D26.N D26.ps (defScope D26.st) := ⟨rfl, rfl, rfl, by decide +kernel, rfl, by decide +kernel, by decide +kernel⟩
theorem ch26 : G.chk D26 = true := by decide +kernel
theorem scs : ∀ f d, G.T f = some d → FnScope d.N d.ps (defScope d.st) := fun f d h => match f, h with
  | 0, h => by cases h; exact sc0
  | 1, h => by cases h; exact sc1
  | 2, h => by cases h; exact sc2
  | 3, h => by cases h; exact sc3
  | 4, h => by cases h; exact sc4
  | 5, h => by cases h; exact sc5
  | 6, h => by cases h; exact sc6
  | 7, h => by cases h; exact sc7
  | 8, h => by cases h; exact sc8
  | 9, h => by cases h; exact sc9
  | 10, h => by cases h; exact sc10
  | 11, h => by cases h; exact sc11
  | 12, h => by cases h; exact sc12
  | 13, h => by cases h; exact sc13
  | 14, h => by cases h; exact sc14
  | 15, h => by cases h; exact sc15
  | 16, h => by cases h; exact sc16
  | 17, h => by cases h; exact sc17
  | 18, h => by cases h; exact sc18
  | 19, h => by cases h; exact sc19
  | 20, h => by cases h; exact sc20
  | 21, h => by cases h; exact sc21
  | 22, h => by cases h; exact sc22
  | 23, h => by cases h; exact sc23
  | 24, h => by cases h; exact sc24
  | 25, h => by cases h; exact sc25
  | 26, h => by cases h; exact sc26
  | _ + 27, h => by cases h
theorem chs : ∀ f d, G.T f = some d → G.chk d = true := fun f d h => match f, h with
  | 0, h => by cases h; exact ch0
  | 1, h => by cases h; exact ch1
  | 2, h => by cases h; exact ch2
  | 3, h => by cases h; exact ch3
  | 4, h => by cases h; exact ch4
  | 5, h => by cases h; exact ch5
  | 6, h => by cases h; exact ch6
  | 7, h => by cases h; exact ch7
  | 8, h => by cases h; exact ch8
  | 9, h => by cases h; exact ch9
  | 10, h => by cases h; exact ch10
  | 11, h => by cases h; exact ch11
  | 12, h => by cases h; exact ch12
  | 13, h => by cases h; exact ch13
  | 14, h => by cases h; exact ch14
  | 15, h => by cases h; exact ch15
  | 16, h => by cases h; exact ch16
  | 17, h => by cases h; exact ch17
  | 18, h => by cases h; exact ch18
  | 19, h => by cases h; exact ch19
  | 20, h => by cases h; exact ch20
  | 21, h => by cases h; exact ch21
  | 22, h => by cases h; exact ch22
  | 23, h => by cases h; exact ch23
  | 24, h => by cases h; exact ch24
  | 25, h => by cases h; exact ch25
  | 26, h => by cases h; exact ch26
  | _ + 27, h => by cases h
theorem all_mk {K : PySem.W.Frag} {h : Heap} {mg : Str → Option Value} {fa f0 f1 f2 f3 f4 f5 f6 f7 f8 f9 f10 f11 f12 f13 f14 f15 f16 f17 f18 f19 f20 f21 f22 f23 f24 f25 f26 : Addr} (X : K.In h) (GX : h.Ns mainGlobals mg) (hfa : mg "law" = some (.ref fa)) {prog : Program} (tbs : ∀ (e : PySem.DefRec) (x : Str) (c P : Addr), (PyProof.Rows.recsOf prog).find? (fun e => e.name == x) = some e → PySem.W.tabIn K x = some (c, P) → PySem.W.CodeHd h c P ∧ h.get? P = some tab0)
    {od0 an0 od1 an1 od2 an2 od3 an3 od4 an4 od5 an5 od6 an6 od7 an7 od8 an8 od9 an9 od10 an10 od11 an11 od12 an12 od13 an13 od14 an14 od15 an15 od16 an16 od17 an17 od18 an18 od19 an19 od20 an20 od21 an21 od22 an22 od23 an23 od24 an24 od25 an25 od26 an26 : Option Addr} {sl0 sl1 sl2 sl3 sl4 sl5 sl6 sl7 sl8 sl9 sl10 sl11 sl12 sl13 sl14 sl15 sl16 sl17 sl18 sl19 sl20 sl21 sl22 sl23 sl24 sl25 sl26 : Array (Option Value)} {oc0 kV0 dc0 pm0 cd0 ct0 oc1 kV1 dc1 pm1 cd1 ct1 oc2 kV2 dc2 pm2 cd2 ct2 oc3 kV3 dc3 pm3 cd3 ct3 oc4 kV4 dc4 pm4 cd4 ct4 oc5 kV5 dc5 pm5 cd5 ct5 oc6 kV6 dc6 pm6 cd6 ct6 oc7 kV7 dc7 pm7 cd7 ct7 oc8 kV8 dc8 pm8 cd8 ct8 oc9 kV9 dc9 pm9 cd9 ct9 oc10 kV10 dc10 pm10 cd10 ct10 oc11 kV11 dc11 pm11 cd11 ct11 oc12 kV12 dc12 pm12 cd12 ct12 oc13 kV13 dc13 pm13 cd13 ct13 oc14 kV14 dc14 pm14 cd14 ct14 oc15 kV15 dc15 pm15 cd15 ct15 oc16 kV16 dc16 pm16 cd16 ct16 oc17 kV17 dc17 pm17 cd17 ct17 oc18 kV18 dc18 pm18 cd18 ct18 oc19 kV19 dc19 pm19 cd19 ct19 oc20 kV20 dc20 pm20 cd20 ct20 oc21 kV21 dc21 pm21 cd21 ct21 oc22 kV22 dc22 pm22 cd22 ct22 oc23 kV23 dc23 pm23 cd23 ct23 oc24 kV24 dc24 pm24 cd24 ct24 oc25 kV25 dc25 pm25 cd25 ct25 oc26 kV26 dc26 pm26 cd26 ct26 : Value} {tkMOST_PLACES : Tok}
    (a0 : PySem.W.nsIn K mainGlobals "law" = some (some (.ref f0))) (l0 : K.lookup f0 = some ⟨oc0, od0, .func (PySem.W.fnOf "law" "law" (defArgs D0.st) (defBody D0.st) (defScope D0.st) .none kV0 dc0 pm0 an0 cd0 ct0), sl0⟩) (c0 : PySem.W.codeIn K cd0 "law" = true) (k0 : PySem.W.keepIn K (.ref f0) = true) (a1 : PySem.W.nsIn K mainGlobals "is_integer" = some (some (.ref f1))) (l1 : K.lookup f1 = some ⟨oc1, od1, .func (PySem.W.fnOf "is_integer" "is_integer" (defArgs D1.st) (defBody D1.st) (defScope D1.st) .none kV1 dc1 pm1 an1 cd1 ct1), sl1⟩) (c1 : PySem.W.codeIn K cd1 "is_integer" = true) (k1 : PySem.W.keepIn K (.ref f1) = true) (a2 : PySem.W.nsIn K mainGlobals "common_divisor" = some (some (.ref f2))) (l2 : K.lookup f2 = some ⟨oc2, od2, .func (PySem.W.fnOf "common_divisor" "common_divisor" (defArgs D2.st) (defBody D2.st) (defScope D2.st) .none kV2 dc2 pm2 an2 cd2 ct2), sl2⟩) (c2 : PySem.W.codeIn K cd2 "common_divisor" = true) (k2 : PySem.W.keepIn K (.ref f2) = true) (a3 : PySem.W.nsIn K mainGlobals "fraction" = some (some (.ref f3))) (l3 : K.lookup f3 = some ⟨oc3, od3, .func (PySem.W.fnOf "fraction" "fraction" (defArgs D3.st) (defBody D3.st) (defScope D3.st) .none kV3 dc3 pm3 an3 cd3 ct3), sl3⟩) (c3 : PySem.W.codeIn K cd3 "fraction" = true) (k3 : PySem.W.keepIn K (.ref f3) = true) (a4 : PySem.W.nsIn K mainGlobals "places_met" = some (some (.ref f4))) (l4 : K.lookup f4 = some ⟨oc4, od4, .func (PySem.W.fnOf "places_met" "places_met" (defArgs D4.st) (defBody D4.st) (defScope D4.st) .none kV4 dc4 pm4 an4 cd4 ct4), sl4⟩) (c4 : PySem.W.codeIn K cd4 "places_met" = true) (k4 : PySem.W.keepIn K (.ref f4) = true) (a5 : PySem.W.nsIn K mainGlobals "is_pattern" = some (some (.ref f5))) (l5 : K.lookup f5 = some ⟨oc5, od5, .func (PySem.W.fnOf "is_pattern" "is_pattern" (defArgs D5.st) (defBody D5.st) (defScope D5.st) .none kV5 dc5 pm5 an5 cd5 ct5), sl5⟩) (c5 : PySem.W.codeIn K cd5 "is_pattern" = true) (k5 : PySem.W.keepIn K (.ref f5) = true) (a6 : PySem.W.nsIn K mainGlobals "check_pattern" = some (some (.ref f6))) (l6 : K.lookup f6 = some ⟨oc6, od6, .func (PySem.W.fnOf "check_pattern" "check_pattern" (defArgs D6.st) (defBody D6.st) (defScope D6.st) .none kV6 dc6 pm6 an6 cd6 ct6), sl6⟩) (c6 : PySem.W.codeIn K cd6 "check_pattern" = true) (k6 : PySem.W.keepIn K (.ref f6) = true) (a7 : PySem.W.nsIn K mainGlobals "rounds_of" = some (some (.ref f7))) (l7 : K.lookup f7 = some ⟨oc7, od7, .func (PySem.W.fnOf "rounds_of" "rounds_of" (defArgs D7.st) (defBody D7.st) (defScope D7.st) .none kV7 dc7 pm7 an7 cd7 ct7), sl7⟩) (c7 : PySem.W.codeIn K cd7 "rounds_of" = true) (k7 : PySem.W.keepIn K (.ref f7) = true) (a8 : PySem.W.nsIn K mainGlobals "pattern_share" = some (some (.ref f8))) (l8 : K.lookup f8 = some ⟨oc8, od8, .func (PySem.W.fnOf "pattern_share" "pattern_share" (defArgs D8.st) (defBody D8.st) (defScope D8.st) .none kV8 dc8 pm8 an8 cd8 ct8), sl8⟩) (c8 : PySem.W.codeIn K cd8 "pattern_share" = true) (k8 : PySem.W.keepIn K (.ref f8) = true) (a9 : PySem.W.nsIn K mainGlobals "move_from" = some (some (.ref f9))) (l9 : K.lookup f9 = some ⟨oc9, od9, .func (PySem.W.fnOf "move_from" "move_from" (defArgs D9.st) (defBody D9.st) (defScope D9.st) .none kV9 dc9 pm9 an9 cd9 ct9), sl9⟩) (c9 : PySem.W.codeIn K cd9 "move_from" = true) (k9 : PySem.W.keepIn K (.ref f9) = true) (a10 : PySem.W.nsIn K mainGlobals "raw_from" = some (some (.ref f10))) (l10 : K.lookup f10 = some ⟨oc10, od10, .func (PySem.W.fnOf "raw_from" "raw_from" (defArgs D10.st) (defBody D10.st) (defScope D10.st) .none kV10 dc10 pm10 an10 cd10 ct10), sl10⟩) (c10 : PySem.W.codeIn K cd10 "raw_from" = true) (k10 : PySem.W.keepIn K (.ref f10) = true) (a11 : PySem.W.nsIn K mainGlobals "pattern_from" = some (some (.ref f11))) (l11 : K.lookup f11 = some ⟨oc11, od11, .func (PySem.W.fnOf "pattern_from" "pattern_from" (defArgs D11.st) (defBody D11.st) (defScope D11.st) .none kV11 dc11 pm11 an11 cd11 ct11), sl11⟩) (c11 : PySem.W.codeIn K cd11 "pattern_from" = true) (k11 : PySem.W.keepIn K (.ref f11) = true) (a12 : PySem.W.nsIn K mainGlobals "raw_plain" = some (some (.ref f12))) (l12 : K.lookup f12 = some ⟨oc12, od12, .func (PySem.W.fnOf "raw_plain" "raw_plain" (defArgs D12.st) (defBody D12.st) (defScope D12.st) .none kV12 dc12 pm12 an12 cd12 ct12), sl12⟩) (c12 : PySem.W.codeIn K cd12 "raw_plain" = true) (k12 : PySem.W.keepIn K (.ref f12) = true) (a13 : PySem.W.nsIn K mainGlobals "plain_pattern" = some (some (.ref f13))) (l13 : K.lookup f13 = some ⟨oc13, od13, .func (PySem.W.fnOf "plain_pattern" "plain_pattern" (defArgs D13.st) (defBody D13.st) (defScope D13.st) .none kV13 dc13 pm13 an13 cd13 ct13), sl13⟩) (c13 : PySem.W.codeIn K cd13 "plain_pattern" = true) (k13 : PySem.W.keepIn K (.ref f13) = true) (a14 : PySem.W.nsIn K mainGlobals "_law_hand" = some (some (.ref f14))) (l14 : K.lookup f14 = some ⟨oc14, od14, .func (PySem.W.fnOf "_law_hand" "_law_hand" (defArgs D14.st) (defBody D14.st) (defScope D14.st) .none kV14 dc14 pm14 an14 cd14 ct14), sl14⟩) (c14 : PySem.W.codeIn K cd14 "_law_hand" = true) (k14 : PySem.W.keepIn K (.ref f14) = true) (a15 : PySem.W.nsIn K mainGlobals "_law_draw" = some (some (.ref f15))) (l15 : K.lookup f15 = some ⟨oc15, od15, .func (PySem.W.fnOf "_law_draw" "_law_draw" (defArgs D15.st) (defBody D15.st) (defScope D15.st) .none kV15 dc15 pm15 an15 cd15 ct15), sl15⟩) (c15 : PySem.W.codeIn K cd15 "_law_draw" = true) (k15 : PySem.W.keepIn K (.ref f15) = true) (a16 : PySem.W.nsIn K mainGlobals "_law_some" = some (some (.ref f16))) (l16 : K.lookup f16 = some ⟨oc16, od16, .func (PySem.W.fnOf "_law_some" "_law_some" (defArgs D16.st) (defBody D16.st) (defScope D16.st) .none kV16 dc16 pm16 an16 cd16 ct16), sl16⟩) (c16 : PySem.W.codeIn K cd16 "_law_some" = true) (k16 : PySem.W.keepIn K (.ref f16) = true) (a17 : PySem.W.nsIn K mainGlobals "_law_mixed" = some (some (.ref f17))) (l17 : K.lookup f17 = some ⟨oc17, od17, .func (PySem.W.fnOf "_law_mixed" "_law_mixed" (defArgs D17.st) (defBody D17.st) (defScope D17.st) .none kV17 dc17 pm17 an17 cd17 ct17), sl17⟩) (c17 : PySem.W.codeIn K cd17 "_law_mixed" = true) (k17 : PySem.W.keepIn K (.ref f17) = true) (a18 : PySem.W.nsIn K mainGlobals "_law_is" = some (some (.ref f18))) (l18 : K.lookup f18 = some ⟨oc18, od18, .func (PySem.W.fnOf "_law_is" "_law_is" (defArgs D18.st) (defBody D18.st) (defScope D18.st) .none kV18 dc18 pm18 an18 cd18 ct18), sl18⟩) (c18 : PySem.W.codeIn K cd18 "_law_is" = true) (k18 : PySem.W.keepIn K (.ref f18) = true) (a19 : PySem.W.nsIn K mainGlobals "_law_cut" = some (some (.ref f19))) (l19 : K.lookup f19 = some ⟨oc19, od19, .func (PySem.W.fnOf "_law_cut" "_law_cut" (defArgs D19.st) (defBody D19.st) (defScope D19.st) .none kV19 dc19 pm19 an19 cd19 ct19), sl19⟩) (c19 : PySem.W.codeIn K cd19 "_law_cut" = true) (k19 : PySem.W.keepIn K (.ref f19) = true) (a20 : PySem.W.nsIn K mainGlobals "_law_pattern" = some (some (.ref f20))) (l20 : K.lookup f20 = some ⟨oc20, od20, .func (PySem.W.fnOf "_law_pattern" "_law_pattern" (defArgs D20.st) (defBody D20.st) (defScope D20.st) .none kV20 dc20 pm20 an20 cd20 ct20), sl20⟩) (c20 : PySem.W.codeIn K cd20 "_law_pattern" = true) (k20 : PySem.W.keepIn K (.ref f20) = true) (a21 : PySem.W.nsIn K mainGlobals "_law_is_pattern" = some (some (.ref f21))) (l21 : K.lookup f21 = some ⟨oc21, od21, .func (PySem.W.fnOf "_law_is_pattern" "_law_is_pattern" (defArgs D21.st) (defBody D21.st) (defScope D21.st) .none kV21 dc21 pm21 an21 cd21 ct21), sl21⟩) (c21 : PySem.W.codeIn K cd21 "_law_is_pattern" = true) (k21 : PySem.W.keepIn K (.ref f21) = true) (a22 : PySem.W.nsIn K mainGlobals "_law_from_place" = some (some (.ref f22))) (l22 : K.lookup f22 = some ⟨oc22, od22, .func (PySem.W.fnOf "_law_from_place" "_law_from_place" (defArgs D22.st) (defBody D22.st) (defScope D22.st) .none kV22 dc22 pm22 an22 cd22 ct22), sl22⟩) (c22 : PySem.W.codeIn K cd22 "_law_from_place" = true) (k22 : PySem.W.keepIn K (.ref f22) = true) (a23 : PySem.W.nsIn K mainGlobals "_law_plain" = some (some (.ref f23))) (l23 : K.lookup f23 = some ⟨oc23, od23, .func (PySem.W.fnOf "_law_plain" "_law_plain" (defArgs D23.st) (defBody D23.st) (defScope D23.st) .none kV23 dc23 pm23 an23 cd23 ct23), sl23⟩) (c23 : PySem.W.codeIn K cd23 "_law_plain" = true) (k23 : PySem.W.keepIn K (.ref f23) = true) (a24 : PySem.W.nsIn K mainGlobals "_law_deep" = some (some (.ref f24))) (l24 : K.lookup f24 = some ⟨oc24, od24, .func (PySem.W.fnOf "_law_deep" "_law_deep" (defArgs D24.st) (defBody D24.st) (defScope D24.st) .none kV24 dc24 pm24 an24 cd24 ct24), sl24⟩) (c24 : PySem.W.codeIn K cd24 "_law_deep" = true) (k24 : PySem.W.keepIn K (.ref f24) = true) (a25 : PySem.W.nsIn K mainGlobals "_law_bent" = some (some (.ref f25))) (l25 : K.lookup f25 = some ⟨oc25, od25, .func (PySem.W.fnOf "_law_bent" "_law_bent" (defArgs D25.st) (defBody D25.st) (defScope D25.st) .none kV25 dc25 pm25 an25 cd25 ct25), sl25⟩) (c25 : PySem.W.codeIn K cd25 "_law_bent" = true) (k25 : PySem.W.keepIn K (.ref f25) = true) (a26 : PySem.W.nsIn K mainGlobals "_law_is_right" = some (some (.ref f26))) (l26 : K.lookup f26 = some ⟨oc26, od26, .func (PySem.W.fnOf "_law_is_right" "_law_is_right" (defArgs D26.st) (defBody D26.st) (defScope D26.st) .none kV26 dc26 pm26 an26 cd26 ct26), sl26⟩) (c26 : PySem.W.codeIn K cd26 "_law_is_right" = true) (k26 : PySem.W.keepIn K (.ref f26) = true) (sp1 : PySem.W.specialIn K (.builtin "object.__class__") "__get__" = some (some (.builtin "getset_descriptor.__get__"))) (sp2 : PySem.W.takesIn K (.builtin "object.__class__") = some true) (gMOST_PLACES : PySem.W.nsIn K mainGlobals "MOST_PLACES" = some (some (.int 8 tkMOST_PLACES))) (zabs : PySem.W.nsIn K mainGlobals "abs" = some none) (zall : PySem.W.nsIn K mainGlobals "all" = some none) (zbool : PySem.W.nsIn K mainGlobals "bool" = some none) (zenumerate : PySem.W.nsIn K mainGlobals "enumerate" = some none) (zint : PySem.W.nsIn K mainGlobals "int" = some none) (zisinstance : PySem.W.nsIn K mainGlobals "isinstance" = some none) (zlen : PySem.W.nsIn K mainGlobals "len" = some none) (zlist : PySem.W.nsIn K mainGlobals "list" = some none) (zmin : PySem.W.nsIn K mainGlobals "min" = some none) (zrange : PySem.W.nsIn K mainGlobals "range" = some none) (zrepr : PySem.W.nsIn K mainGlobals "repr" = some none) (zset : PySem.W.nsIn K mainGlobals "set" = some none) (zstr : PySem.W.nsIn K mainGlobals "str" = some none) (zsum : PySem.W.nsIn K mainGlobals "sum" = some none) (ztuple : PySem.W.nsIn K mainGlobals "tuple" = some none) (zzip : PySem.W.nsIn K mainGlobals "zip" = some none) :
    ∃ (cA : Nat → Option Addr) (fA : Nat → Addr) (fdA : Nat → FuncData) (xA : XT) (cs : List (Addr × Addr)), Txt G K mg cA fA fdA xA cs ∧ fA 0 = fa ∧ (∀ (s : Shared) (u : Value), BindsTo s (fdA 0) ⟨[u], []⟩ [("script", u)]) ∧ (∀ p ∈ cs, h.get? p.2 = some tab0 ∧ K.lookup p.2 = none ∧ PySem.W.CodeHd h p.1 p.2) ∧ ∀ q ∈ xA.T, ∃ p ∈ cs, p.2 = q.1 := by
  have e := hfa.symm.trans (PySem.W.mg_of X GX a0)
  cases e
  have F0 := fun_mk (st := D0.st) l0 c0 k0
  have b0 := F0.binds (ps := D0.ps) fun _ _ _ _ _ _ us hl => match us, hl with | [_], _ => rfl
  have F1 := fun_mk (st := D1.st) l1 c1 k1
  have b1 := F1.binds (ps := D1.ps) fun _ _ _ _ _ _ us hl => match us, hl with | [_], _ => rfl
  have F2 := fun_mk (st := D2.st) l2 c2 k2
  have b2 := F2.binds (ps := D2.ps) fun _ _ _ _ _ _ us hl => match us, hl with | [_, _], _ => rfl
  have F3 := fun_mk (st := D3.st) l3 c3 k3
  have b3 := F3.binds (ps := D3.ps) fun _ _ _ _ _ _ us hl => match us, hl with | [_, _], _ => rfl
  have F4 := fun_mk (st := D4.st) l4 c4 k4
  have b4 := F4.binds (ps := D4.ps) fun _ _ _ _ _ _ us hl => match us, hl with | [_], _ => rfl
  have F5 := fun_mk (st := D5.st) l5 c5 k5
  have b5 := F5.binds (ps := D5.ps) fun _ _ _ _ _ _ us hl => match us, hl with | [_], _ => rfl
  have F6 := fun_mk (st := D6.st) l6 c6 k6
  have b6 := F6.binds (ps := D6.ps) fun _ _ _ _ _ _ us hl => match us, hl with | [_], _ => rfl
  have F7 := fun_mk (st := D7.st) l7 c7 k7
  have b7 := F7.binds (ps := D7.ps) fun _ _ _ _ _ _ us hl => match us, hl with | [_], _ => rfl
  have F8 := fun_mk (st := D8.st) l8 c8 k8
  have b8 := F8.binds (ps := D8.ps) fun _ _ _ _ _ _ us hl => match us, hl with | [_], _ => rfl
  have F9 := fun_mk (st := D9.st) l9 c9 k9
  have b9 := F9.binds (ps := D9.ps) fun _ _ _ _ _ _ us hl => match us, hl with | [_, _], _ => rfl
  have F10 := fun_mk (st := D10.st) l10 c10 k10
  have b10 := F10.binds (ps := D10.ps) fun _ _ _ _ _ _ us hl => match us, hl with | [_, _], _ => rfl
  have F11 := fun_mk (st := D11.st) l11 c11 k11
  have b11 := F11.binds (ps := D11.ps) fun _ _ _ _ _ _ us hl => match us, hl with | [_, _], _ => rfl
  have F12 := fun_mk (st := D12.st) l12 c12 k12
  have b12 := F12.binds (ps := D12.ps) fun _ _ _ _ _ _ us hl => match us, hl with | [_], _ => rfl
  have F13 := fun_mk (st := D13.st) l13 c13 k13
  have b13 := F13.binds (ps := D13.ps) fun _ _ _ _ _ _ us hl => match us, hl with | [_], _ => rfl
  have F14 := fun_mk (st := D14.st) l14 c14 k14
  have b14 := F14.binds (ps := D14.ps) fun _ _ _ _ _ _ us hl => match us, hl with | [_], _ => rfl
  have F15 := fun_mk (st := D15.st) l15 c15 k15
  have b15 := F15.binds (ps := D15.ps) fun _ _ _ _ _ _ us hl => match us, hl with | [_, _], _ => rfl
  have F16 := fun_mk (st := D16.st) l16 c16 k16
  have b16 := F16.binds (ps := D16.ps) fun _ _ _ _ _ _ us hl => match us, hl with | [_, _], _ => rfl
  have F17 := fun_mk (st := D17.st) l17 c17 k17
  have b17 := F17.binds (ps := D17.ps) fun _ _ _ _ _ _ us hl => match us, hl with | [_, _], _ => rfl
  have F18 := fun_mk (st := D18.st) l18 c18 k18
  have b18 := F18.binds (ps := D18.ps) fun _ _ _ _ _ _ us hl => match us, hl with | [_, _], _ => rfl
  have F19 := fun_mk (st := D19.st) l19 c19 k19
  have b19 := F19.binds (ps := D19.ps) fun _ _ _ _ _ _ us hl => match us, hl with | [_, _], _ => rfl
  have F20 := fun_mk (st := D20.st) l20 c20 k20
  have b20 := F20.binds (ps := D20.ps) fun _ _ _ _ _ _ us hl => match us, hl with | [_, _], _ => rfl
  have F21 := fun_mk (st := D21.st) l21 c21 k21
  have b21 := F21.binds (ps := D21.ps) fun _ _ _ _ _ _ us hl => match us, hl with | [_], _ => rfl
  have F22 := fun_mk (st := D22.st) l22 c22 k22
  have b22 := F22.binds (ps := D22.ps) fun _ _ _ _ _ _ us hl => match us, hl with | [_, _], _ => rfl
  have F23 := fun_mk (st := D23.st) l23 c23 k23
  have b23 := F23.binds (ps := D23.ps) fun _ _ _ _ _ _ us hl => match us, hl with | [_], _ => rfl
  have F24 := fun_mk (st := D24.st) l24 c24 k24
  have b24 := F24.binds (ps := D24.ps) fun _ _ _ _ _ _ us hl => match us, hl with | [_, _], _ => rfl
  have F25 := fun_mk (st := D25.st) l25 c25 k25
  have b25 := F25.binds (ps := D25.ps) fun _ _ _ _ _ _ us hl => match us, hl with | [_, _], _ => rfl
  have F26 := fun_mk (st := D26.st) l26 c26 k26
  have b26 := F26.binds (ps := D26.ps) fun _ _ _ _ _ _ us hl => match us, hl with | [_, _], _ => rfl
  refine ⟨(fun _ => none), (fun i => match i with | 0 => fa | 1 => f1 | 2 => f2 | 3 => f3 | 4 => f4 | 5 => f5 | 6 => f6 | 7 => f7 | 8 => f8 | 9 => f9 | 10 => f10 | 11 => f11 | 12 => f12 | 13 => f13 | 14 => f14 | 15 => f15 | 16 => f16 | 17 => f17 | 18 => f18 | 19 => f19 | 20 => f20 | 21 => f21 | 22 => f22 | 23 => f23 | 24 => f24 | 25 => f25 | 26 => f26 | _ => 0), (fun i => match i with | 0 => PySem.W.fnOf "law" "law" (defArgs D0.st) (defBody D0.st) (defScope D0.st) .none kV0 dc0 pm0 an0 cd0 ct0 | 1 => PySem.W.fnOf "is_integer" "is_integer" (defArgs D1.st) (defBody D1.st) (defScope D1.st) .none kV1 dc1 pm1 an1 cd1 ct1 | 2 => PySem.W.fnOf "common_divisor" "common_divisor" (defArgs D2.st) (defBody D2.st) (defScope D2.st) .none kV2 dc2 pm2 an2 cd2 ct2 | 3 => PySem.W.fnOf "fraction" "fraction" (defArgs D3.st) (defBody D3.st) (defScope D3.st) .none kV3 dc3 pm3 an3 cd3 ct3 | 4 => PySem.W.fnOf "places_met" "places_met" (defArgs D4.st) (defBody D4.st) (defScope D4.st) .none kV4 dc4 pm4 an4 cd4 ct4 | 5 => PySem.W.fnOf "is_pattern" "is_pattern" (defArgs D5.st) (defBody D5.st) (defScope D5.st) .none kV5 dc5 pm5 an5 cd5 ct5 | 6 => PySem.W.fnOf "check_pattern" "check_pattern" (defArgs D6.st) (defBody D6.st) (defScope D6.st) .none kV6 dc6 pm6 an6 cd6 ct6 | 7 => PySem.W.fnOf "rounds_of" "rounds_of" (defArgs D7.st) (defBody D7.st) (defScope D7.st) .none kV7 dc7 pm7 an7 cd7 ct7 | 8 => PySem.W.fnOf "pattern_share" "pattern_share" (defArgs D8.st) (defBody D8.st) (defScope D8.st) .none kV8 dc8 pm8 an8 cd8 ct8 | 9 => PySem.W.fnOf "move_from" "move_from" (defArgs D9.st) (defBody D9.st) (defScope D9.st) .none kV9 dc9 pm9 an9 cd9 ct9 | 10 => PySem.W.fnOf "raw_from" "raw_from" (defArgs D10.st) (defBody D10.st) (defScope D10.st) .none kV10 dc10 pm10 an10 cd10 ct10 | 11 => PySem.W.fnOf "pattern_from" "pattern_from" (defArgs D11.st) (defBody D11.st) (defScope D11.st) .none kV11 dc11 pm11 an11 cd11 ct11 | 12 => PySem.W.fnOf "raw_plain" "raw_plain" (defArgs D12.st) (defBody D12.st) (defScope D12.st) .none kV12 dc12 pm12 an12 cd12 ct12 | 13 => PySem.W.fnOf "plain_pattern" "plain_pattern" (defArgs D13.st) (defBody D13.st) (defScope D13.st) .none kV13 dc13 pm13 an13 cd13 ct13 | 14 => PySem.W.fnOf "_law_hand" "_law_hand" (defArgs D14.st) (defBody D14.st) (defScope D14.st) .none kV14 dc14 pm14 an14 cd14 ct14 | 15 => PySem.W.fnOf "_law_draw" "_law_draw" (defArgs D15.st) (defBody D15.st) (defScope D15.st) .none kV15 dc15 pm15 an15 cd15 ct15 | 16 => PySem.W.fnOf "_law_some" "_law_some" (defArgs D16.st) (defBody D16.st) (defScope D16.st) .none kV16 dc16 pm16 an16 cd16 ct16 | 17 => PySem.W.fnOf "_law_mixed" "_law_mixed" (defArgs D17.st) (defBody D17.st) (defScope D17.st) .none kV17 dc17 pm17 an17 cd17 ct17 | 18 => PySem.W.fnOf "_law_is" "_law_is" (defArgs D18.st) (defBody D18.st) (defScope D18.st) .none kV18 dc18 pm18 an18 cd18 ct18 | 19 => PySem.W.fnOf "_law_cut" "_law_cut" (defArgs D19.st) (defBody D19.st) (defScope D19.st) .none kV19 dc19 pm19 an19 cd19 ct19 | 20 => PySem.W.fnOf "_law_pattern" "_law_pattern" (defArgs D20.st) (defBody D20.st) (defScope D20.st) .none kV20 dc20 pm20 an20 cd20 ct20 | 21 => PySem.W.fnOf "_law_is_pattern" "_law_is_pattern" (defArgs D21.st) (defBody D21.st) (defScope D21.st) .none kV21 dc21 pm21 an21 cd21 ct21 | 22 => PySem.W.fnOf "_law_from_place" "_law_from_place" (defArgs D22.st) (defBody D22.st) (defScope D22.st) .none kV22 dc22 pm22 an22 cd22 ct22 | 23 => PySem.W.fnOf "_law_plain" "_law_plain" (defArgs D23.st) (defBody D23.st) (defScope D23.st) .none kV23 dc23 pm23 an23 cd23 ct23 | 24 => PySem.W.fnOf "_law_deep" "_law_deep" (defArgs D24.st) (defBody D24.st) (defScope D24.st) .none kV24 dc24 pm24 an24 cd24 ct24 | 25 => PySem.W.fnOf "_law_bent" "_law_bent" (defArgs D25.st) (defBody D25.st) (defScope D25.st) .none kV25 dc25 pm25 an25 cd25 ct25 | 26 => PySem.W.fnOf "_law_is_right" "_law_is_right" (defArgs D26.st) (defBody D26.st) (defScope D26.st) .none kV26 dc26 pm26 an26 cd26 ct26 | _ => PySem.W.fnOf "" "" (defArgs D0.st) [] (defScope D0.st) .none kV0 dc0 pm0 an0 cd0 ct0), ⟨(fun _ => 0), []⟩, [], ⟨fun f d h => ?_, fun f d h hn => ?_, fun c n f h => ?_, fun n i h => ?_, fun n ns h => ?_, fun n h => ?_, ⟨fun c C h => ?_, fun c C h => ?_, sp1, sp2, fun c C h => ?_, fun c C h n hn => ?_, fun c C c' C' h h' => ?_, fun c C h n hn => ?_⟩, fun f hf c C h => ?_, fun c f h => ?_, fun c n h => ?_, fun r h => ?_, fun hr c hc => ?_, fun f d h hl => ?_, fun f d h hm => ?_⟩, rfl, fun s u => .of_eq rfl, fun p hp => ?_, fun q hq => ?_⟩
  · match f, h with
    | 0, h => cases h; exact ⟨F0, b0⟩
    | 1, h => cases h; exact ⟨F1, b1⟩
    | 2, h => cases h; exact ⟨F2, b2⟩
    | 3, h => cases h; exact ⟨F3, b3⟩
    | 4, h => cases h; exact ⟨F4, b4⟩
    | 5, h => cases h; exact ⟨F5, b5⟩
    | 6, h => cases h; exact ⟨F6, b6⟩
    | 7, h => cases h; exact ⟨F7, b7⟩
    | 8, h => cases h; exact ⟨F8, b8⟩
    | 9, h => cases h; exact ⟨F9, b9⟩
    | 10, h => cases h; exact ⟨F10, b10⟩
    | 11, h => cases h; exact ⟨F11, b11⟩
    | 12, h => cases h; exact ⟨F12, b12⟩
    | 13, h => cases h; exact ⟨F13, b13⟩
    | 14, h => cases h; exact ⟨F14, b14⟩
    | 15, h => cases h; exact ⟨F15, b15⟩
    | 16, h => cases h; exact ⟨F16, b16⟩
    | 17, h => cases h; exact ⟨F17, b17⟩
    | 18, h => cases h; exact ⟨F18, b18⟩
    | 19, h => cases h; exact ⟨F19, b19⟩
    | 20, h => cases h; exact ⟨F20, b20⟩
    | 21, h => cases h; exact ⟨F21, b21⟩
    | 22, h => cases h; exact ⟨F22, b22⟩
    | 23, h => cases h; exact ⟨F23, b23⟩
    | 24, h => cases h; exact ⟨F24, b24⟩
    | 25, h => cases h; exact ⟨F25, b25⟩
    | 26, h => cases h; exact ⟨F26, b26⟩
    | _ + 27, h => cases h
  · match f, h, hn with
    | 0, h, hn => cases h; exact PySem.W.mg_of X GX a0
    | 1, h, hn => cases h; exact PySem.W.mg_of X GX a1
    | 2, h, hn => cases h; exact PySem.W.mg_of X GX a2
    | 3, h, hn => cases h; exact PySem.W.mg_of X GX a3
    | 4, h, hn => cases h; exact PySem.W.mg_of X GX a4
    | 5, h, hn => cases h; exact PySem.W.mg_of X GX a5
    | 6, h, hn => cases h; exact PySem.W.mg_of X GX a6
    | 7, h, hn => cases h; exact PySem.W.mg_of X GX a7
    | 8, h, hn => cases h; exact PySem.W.mg_of X GX a8
    | 9, h, hn => cases h; exact PySem.W.mg_of X GX a9
    | 10, h, hn => cases h; exact PySem.W.mg_of X GX a10
    | 11, h, hn => cases h; exact PySem.W.mg_of X GX a11
    | 12, h, hn => cases h; exact PySem.W.mg_of X GX a12
    | 13, h, hn => cases h; exact PySem.W.mg_of X GX a13
    | 14, h, hn => cases h; exact PySem.W.mg_of X GX a14
    | 15, h, hn => cases h; exact PySem.W.mg_of X GX a15
    | 16, h, hn => cases h; exact PySem.W.mg_of X GX a16
    | 17, h, hn => cases h; exact PySem.W.mg_of X GX a17
    | 18, h, hn => cases h; exact PySem.W.mg_of X GX a18
    | 19, h, hn => cases h; exact PySem.W.mg_of X GX a19
    | 20, h, hn => cases h; exact PySem.W.mg_of X GX a20
    | 21, h, hn => cases h; exact PySem.W.mg_of X GX a21
    | 22, h, hn => cases h; exact PySem.W.mg_of X GX a22
    | 23, h, hn => cases h; exact PySem.W.mg_of X GX a23
    | 24, h, hn => cases h; exact PySem.W.mg_of X GX a24
    | 25, h, hn => cases h; exact PySem.W.mg_of X GX a25
    | 26, h, hn => cases h; exact PySem.W.mg_of X GX a26
    | _ + 27, h, hn => cases h
  · cases h
  · have h' : (n, i) ∈ ([("MOST_PLACES", 8)] : List (Str × Int)) := h
    simp only [List.mem_cons, Prod.mk.injEq, List.not_mem_nil, or_false] at h'
    rcases h' with ⟨rfl, rfl⟩
    · exact ⟨tkMOST_PLACES, PySem.W.mg_of X GX gMOST_PLACES⟩
  · cases h
  · have h' : n ∈ (["abs", "all", "bool", "enumerate", "int", "isinstance", "len", "list", "min", "range", "repr", "set", "str", "sum", "tuple", "zip"] : List Str) := List.contains_iff_mem.mp h
    simp only [List.mem_cons, List.not_mem_nil, or_false] at h'
    rcases h' with rfl | rfl | rfl | rfl | rfl | rfl | rfl | rfl | rfl | rfl | rfl | rfl | rfl | rfl | rfl | rfl
    · exact PySem.W.mg_none_of X GX zabs
    · exact PySem.W.mg_none_of X GX zall
    · exact PySem.W.mg_none_of X GX zbool
    · exact PySem.W.mg_none_of X GX zenumerate
    · exact PySem.W.mg_none_of X GX zint
    · exact PySem.W.mg_none_of X GX zisinstance
    · exact PySem.W.mg_none_of X GX zlen
    · exact PySem.W.mg_none_of X GX zlist
    · exact PySem.W.mg_none_of X GX zmin
    · exact PySem.W.mg_none_of X GX zrange
    · exact PySem.W.mg_none_of X GX zrepr
    · exact PySem.W.mg_none_of X GX zset
    · exact PySem.W.mg_none_of X GX zstr
    · exact PySem.W.mg_none_of X GX zsum
    · exact PySem.W.mg_none_of X GX ztuple
    · exact PySem.W.mg_none_of X GX zzip
  · cases h
  · cases h
  · cases h
  · cases h
  · cases h
  · cases h
  · cases h
  · cases h
  · cases h
  · cases h
  · cases hr
  · match f, h with
    | 0, h => cases h; decide +kernel
    | 1, h => cases h; decide +kernel
    | 2, h => cases h; decide +kernel
    | 3, h => cases h; decide +kernel
    | 4, h => cases h; decide +kernel
    | 5, h => cases h; decide +kernel
    | 6, h => cases h; decide +kernel
    | 7, h => cases h; decide +kernel
    | 8, h => cases h; decide +kernel
    | 9, h => cases h; decide +kernel
    | 10, h => cases h; decide +kernel
    | 11, h => cases h; decide +kernel
    | 12, h => cases h; decide +kernel
    | 13, h => cases h; decide +kernel
    | 14, h => cases h; decide +kernel
    | 15, h => cases h; decide +kernel
    | 16, h => cases h; decide +kernel
    | 17, h => cases h; decide +kernel
    | 18, h => cases h; decide +kernel
    | 19, h => cases h; decide +kernel
    | 20, h => cases h; decide +kernel
    | 21, h => cases h; decide +kernel
    | 22, h => cases h; decide +kernel
    | 23, h => cases h; decide +kernel
    | 24, h => cases h; decide +kernel
    | 25, h => cases h; decide +kernel
    | 26, h => cases h; decide +kernel
    | _ + 27, h => cases h
  · match f, h, hm with
    | 0, h, hm => cases h; cases hm
    | 1, h, hm => cases h; cases hm
    | 2, h, hm => cases h; cases hm
    | 3, h, hm => cases h; cases hm
    | 4, h, hm => cases h; cases hm
    | 5, h, hm => cases h; cases hm
    | 6, h, hm => cases h; cases hm
    | 7, h, hm => cases h; cases hm
    | 8, h, hm => cases h; cases hm
    | 9, h, hm => cases h; cases hm
    | 10, h, hm => cases h; cases hm
    | 11, h, hm => cases h; cases hm
    | 12, h, hm => cases h; cases hm
    | 13, h, hm => cases h; cases hm
    | 14, h, hm => cases h; cases hm
    | 15, h, hm => cases h; cases hm
    | 16, h, hm => cases h; cases hm
    | 17, h, hm => cases h; cases hm
    | 18, h, hm => cases h; cases hm
    | 19, h, hm => cases h; cases hm
    | 20, h, hm => cases h; cases hm
    | 21, h, hm => cases h; cases hm
    | 22, h, hm => cases h; cases hm
    | 23, h, hm => cases h; cases hm
    | 24, h, hm => cases h; cases hm
    | 25, h, hm => cases h; cases hm
    | 26, h, hm => cases h; cases hm
    | _ + 27, h, _ => cases h
  · cases hp
  · cases hq
end K37

set_option maxHeartbeats 1000000
/-! KM: rings, points, rounds: plain facts. -/
namespace KM
open PySem FL
theorem absI (i : Int) : (if i < 0 then -i else i) = (i.natAbs : Int) := by omega
/-- a share, in its lowest terms -/
def rd (t b : Int) : Int × Int := (t.fdiv (Int.gcd t b), b.fdiv (Int.gcd t b))
def dp (p : Int × Int) : D := .tup [.int p.1, .int p.2]
theorem gcd_ok {t b : Int} (h : 1 ≤ b) (h2 : b ≤ 1000000000) : okDiv (Int.gcd t b) = true ∧ (Int.gcd t b : Int) ≠ 0 ∧ 0 < (Int.gcd t b : Int) ∧ (Int.gcd t b : Int) ≤ b := by
  have h0 : Int.gcd t b ≠ 0 := fun e => by
    have := (Int.gcd_eq_zero_iff.mp e).2
    omega
  have hl : Int.gcd t b ∣ b.natAbs := Int.gcd_dvd_natAbs_right ..
  have := Nat.le_of_dvd (by omega) hl
  refine ⟨?_, by omega, by omega, by omega⟩
  unfold okDiv
  simp only [Bool.or_eq_true, Bool.and_eq_true, decide_eq_true_eq]
  left
  constructor
  · omega
  · have : (Int.gcd t b : Int).natAbs = Int.gcd t b := rfl
    rw [this]
    omega
abbrev zs (vs : List Int) : List D := vs.map D.int
def RG (vs : List Int) (dg : Int) : D := .ins 0 [("dots", .tup (zs vs)), ("degree", .int dg), ("many", .int vs.length)]
structure Okw (vs : List Int) (dg : Int) : Prop where
  l1 : 2 ≤ vs.length
  l2 : vs.length ≤ 8
  v : ∀ z ∈ vs, -60 ≤ z ∧ z ≤ 60
  d1 : -4 ≤ dg
  d2 : dg ≤ 4
theorem okMul_l {i j : Int} (h : -1000000 ≤ i) (h2 : i ≤ 1000000) : okMul i j = true := by
  unfold okMul
  have : i.natAbs < 2 ^ 64 := by omega
  simp [this]
theorem okMul_r {i j : Int} (h : -1000000 ≤ j) (h2 : j ≤ 1000000) : okMul i j = true := by
  unfold okMul
  have : j.natAbs < 2 ^ 64 := by omega
  simp [this]
theorem okDiv_s {j : Int} (h : 1 ≤ j) (h2 : j ≤ 1000000) : okDiv j = true := by
  unfold okDiv
  have h1 : j ≠ 0 := by omega
  have h3 : j.natAbs < 1073741824 := by omega
  simp [h1, h3]
def val (vs : List Int) (dg d : Int) : Int := vs.getD (d.fmod vs.length).toNat 0 + vs.length * dg * d.fdiv vs.length
theorem fm {d m : Int} (h : 1 ≤ m) : d.fmod m = d % m := Int.fmod_eq_emod_of_nonneg _ (by omega)
theorem fd {d m : Int} (h : 1 ≤ m) : d.fdiv m = d / m := Int.fdiv_eq_ediv_of_nonneg _ (by omega)
theorem fm0 {d m : Int} (h : 1 ≤ m) : 0 ≤ d.fmod m := by rw [fm h]; exact Int.emod_nonneg _ (by omega)
theorem fm1 {d m : Int} (h : 1 ≤ m) : d.fmod m < m := by rw [fm h]; exact Int.emod_lt_of_pos _ (by omega)
theorem it_mod {vs : List Int} {d : Int} (h : 1 ≤ vs.length) : ixAt (zs vs) (d.fmod vs.length) = some (.int (vs.getD (d.fmod vs.length).toNat 0)) := by
  have h0 : 0 ≤ d.fmod vs.length := fm0 (by omega)
  have h1 : d.fmod vs.length < vs.length := fm1 (by omega)
  unfold ixAt ixN zs
  have hl : (d.fmod vs.length).toNat < vs.length := by omega
  rw [List.length_map, if_pos h0, if_pos h1]
  simp [hl]
theorem mulB {m g : Int} (h1 : 2 ≤ m) (h2 : m ≤ 8) (h3 : -4 ≤ g) (h4 : g ≤ 4) : -1000000 ≤ m * g ∧ m * g ≤ 1000000 := by
  have q1 : m = 2 ∨ m = 3 ∨ m = 4 ∨ m = 5 ∨ m = 6 ∨ m = 7 ∨ m = 8 := by omega
  rcases q1 with rfl | rfl | rfl | rfl | rfl | rfl | rfl <;> omega
theorem nd1 : ¬ ("degree" : Str) = "dots" := by decide +kernel
theorem nd2 : ¬ ("many" : Str) = "dots" := by decide +kernel
theorem nd3 : ¬ ("many" : Str) = "degree" := by decide +kernel
def num (vs : List Int) (dg : Int) (p : Int × Int) : Int := val vs dg (p.1.fdiv p.2) * p.2 + (p.1 - p.1.fdiv p.2 * p.2) * (val vs dg (p.1.fdiv p.2 + 1) - val vs dg (p.1.fdiv p.2))
def F (vs : List Int) (dg : Int) (p : Int × Int) : Int × Int := rd (num vs dg p) p.2
theorem rest_small {t b : Int} (h : 1 ≤ b) (h2 : b ≤ 1000) : -1000000 ≤ t - t.fdiv b * b ∧ t - t.fdiv b * b ≤ 1000000 := by
  have e : t - t.fdiv b * b = t.fmod b := by rw [Int.fmod_def, Int.mul_comm]
  have h0 : 0 ≤ t.fmod b := fm0 (by omega)
  have h1 : t.fmod b < b := fm1 (by omega)
  rw [e]
  omega
structure Good (p : Int × Int) : Prop where
  b1 : 1 ≤ p.2
  b2 : p.2 ≤ 1000
  g : Int.gcd p.1 p.2 = 1
theorem rd_good (t : Int) {b : Int} (h : 1 ≤ b) (h2 : b ≤ 1000) : Good (rd t b) := by
  obtain ⟨g1, g2, g3, g4⟩ := gcd_ok (t := t) h (by omega)
  have d1 : (Int.gcd t b : Int) ∣ t := Int.gcd_dvd_left ..
  have d2 : (Int.gcd t b : Int) ∣ b := Int.gcd_dvd_right ..
  have e1 : t.fdiv (Int.gcd t b) = t / (Int.gcd t b) := Int.fdiv_eq_ediv_of_nonneg _ (by omega)
  have e2 : b.fdiv (Int.gcd t b) = b / (Int.gcd t b) := Int.fdiv_eq_ediv_of_nonneg _ (by omega)
  unfold rd
  rw [e1, e2]
  refine ⟨?_, ?_, ?_⟩
  · exact Int.ediv_pos_of_pos_of_dvd (by omega) (by omega) d2
  · have := Int.ediv_le_self (b := Int.gcd t b) (a := b) (by omega)
    show b / (Int.gcd t b : Int) ≤ 1000
    omega
  · show Int.gcd (t / (Int.gcd t b)) (b / (Int.gcd t b)) = 1
    exact Int.gcd_ediv_gcd_ediv_gcd_of_ne_zero_right (by omega)
theorem rd_le (t : Int) {b : Int} (h : 1 ≤ b) (h2 : b ≤ 1000) : (rd t b).2 ≤ b := by
  obtain ⟨g1, g2, g3, g4⟩ := gcd_ok (t := t) h (by omega)
  show b.fdiv (Int.gcd t b) ≤ b
  rw [Int.fdiv_eq_ediv_of_nonneg _ (by omega)]
  exact Int.ediv_le_self (b := Int.gcd t b) (a := b) (by omega)
theorem F_good {vs : List Int} {dg : Int} {p : Int × Int} (h : Good p) : Good (F vs dg p) := rd_good _ h.b1 h.b2
theorem rd_self {t b : Int} (h : 1 ≤ b) (hg : Int.gcd t b = 1) : rd t b = (t, b) := by
  unfold rd
  rw [hg]
  simp
def it (f : Int × Int → Int × Int) : Nat → Int × Int → Int × Int
  | 0, p => p
  | n + 1, p => f (it f n p)
def way (f : Int × Int → Int × Int) (n : Nat) (p : Int × Int) : List (Int × Int) := (List.range (n + 1)).map fun i => it f i p
theorem way_succ (f : Int × Int → Int × Int) (n : Nat) (p : Int × Int) : way f (n + 1) p = way f n p ++ [it f (n + 1) p] := by
  unfold way
  rw [List.range_succ, List.map_append]
  rfl
theorem way_len (f : Int × Int → Int × Int) (n : Nat) (p : Int × Int) : (way f n p).length = n + 1 := by unfold way; simp
theorem it_good {vs : List Int} {dg : Int} {p : Int × Int} (h : Good p) : ∀ n, Good (it (F vs dg) n p)
  | 0 => h
  | n + 1 => F_good (it_good h n)
def ws (l : List (Int × Int)) : List D := l.map dp
theorem last_at {f : Int × Int → Int × Int} {n : Nat} {p : Int × Int} : ixAt (ws (way f n p)) (-1) = some (dp (it f n p)) := by
  unfold ixAt ixN ws
  rw [List.length_map, way_len, if_neg (by decide), if_pos (by omega)]
  have : ((-1 : Int) + ((n + 1 : Nat) : Int)).toNat = n := by omega
  simp only [Option.bind, this]
  unfold way
  simp
theorem cut_all {ds : List D} (h : ds.length ≤ 63) : cut ds none (some 63) = ds := by
  unfold cut clip
  simp only []
  rw [if_neg (by decide), List.drop_zero, Nat.sub_zero]
  exact List.take_of_length_le (by omega)
def absD : D → D
  | .int i => .int (if i < 0 then -i else i)
  | d => d
structure Hand (h : D) : Prop where
  ex : ∃ (cs : List D) (p g s c : Int), h = .lst [.lst cs, .int p, .int g, .int s, .int c] ∧ 0 ≤ p ∧ ∀ d ∈ cs, ∃ i, d = .int i
def HD (cs : List D) (p g s c : Int) : D := .lst [.lst cs, .int p, .int g, .int s, .int c]
theorem HandE {h : D} (H : Hand h) : ∃ (cs : List D) (p g s c : Int), h = HD cs p g s c ∧ 0 ≤ p ∧ ∀ d ∈ cs, ∃ i, d = .int i := H.ex
theorem okMul_b {i j : Int} (h : 0 ≤ i) (h2 : i < 18446744073709551616) : okMul i j = true := by
  unfold okMul
  have : i.natAbs < 2 ^ 64 := by omega
  simp [this]
theorem rng_int {n : Nat} {d : FL.D} (h : d ∈ rangeD 0 n) : ∃ i : Int, d = .int i := by
  unfold rangeD at h
  obtain ⟨i, _, rfl⟩ := List.mem_map.mp h
  exact ⟨_, rfl⟩
def isI (y : FL.D) : Prop := ∃ i : Int, y = .int i
theorem all2_len {R : FL.D → FL.D → Prop} {l r : List FL.D} (h : All2 R l r) : r.length = l.length := by
  induction h with
  | nil => rfl
  | cons _ _ ih => simp [ih]
theorem all2_I {l r : List FL.D} (h : All2 (fun _ y => isI y) l r) : ∃ ns : List Int, r = zs ns := by
  induction h with
  | nil => exact ⟨[], rfl⟩
  | cons a _ ih =>
    obtain ⟨i, rfl⟩ := a
    obtain ⟨ns, rfl⟩ := ih
    exact ⟨i :: ns, rfl⟩
theorem val_gap {vs : List Int} {dg : Int} (w : Okw vs dg) (d r : Int) : val vs dg (d + r * vs.length) = val vs dg d + dg * (r * vs.length) := by
  have l1 := w.l1
  have hm : 1 ≤ (vs.length : Int) := by omega
  unfold val
  rw [fm hm, fm hm, fd hm, fd hm, Int.add_mul_emod_self_right, Int.add_mul_ediv_right _ _ (by omega), Int.mul_add]
  have : (vs.length : Int) * dg * r = dg * (r * vs.length) := by
    rw [Int.mul_comm (vs.length : Int) dg, Int.mul_assoc, Int.mul_comm (vs.length : Int) r]
  rw [this]
  omega
theorem rd_gap (n K : Int) {b : Int} (h : 1 ≤ b) : rd (n + K * b) b = ((rd n b).1 + K * (rd n b).2, (rd n b).2) := by
  unfold rd
  rw [Int.gcd_add_mul_right_left]
  have g0 : 0 < Int.gcd n b := by
    have : Int.gcd n b ≠ 0 := fun e => by
      have := (Int.gcd_eq_zero_iff.mp e).2
      omega
    omega
  have hg : 1 ≤ (Int.gcd n b : Int) := by omega
  rw [fd hg, fd hg, fd hg]
  have hd : (Int.gcd n b : Int) ∣ b := Int.gcd_dvd_right ..
  generalize (Int.gcd n b : Int) = g at hg hd ⊢
  obtain ⟨c, hc⟩ := hd
  have e : b / g = c := Int.ediv_eq_of_eq_mul_right (by omega) hc
  have e2 : n + K * b = n + K * c * g := by
    rw [hc, Int.mul_comm g c, Int.mul_assoc]
  simp only []
  rw [e2, Int.add_mul_ediv_right _ _ (by omega), e]
theorem F_gap {vs : List Int} {dg : Int} (w : Okw vs dg) {t b : Int} (h : 1 ≤ b) (r : Int) : F vs dg (t + r * vs.length * b, b) = ((F vs dg (t, b)).1 + dg * (r * vs.length) * (F vs dg (t, b)).2, (F vs dg (t, b)).2) := by
  unfold F
  have e : num vs dg (t + r * vs.length * b, b) = num vs dg (t, b) + dg * (r * vs.length) * b := by
    unfold num
    simp only []
    rw [fd h, fd h, Int.add_mul_ediv_right _ _ (by omega)]
    rw [show t / b + r * vs.length + 1 = (t / b + 1) + r * vs.length from by omega, val_gap w, val_gap w]
    rw [Int.add_mul (t / b), Int.add_mul (val vs dg (t / b))]
    have e1 : t + r * ↑vs.length * b - (t / b * b + r * ↑vs.length * b) = t - t / b * b := by omega
    have e2 : val vs dg (t / b + 1) + dg * (r * ↑vs.length) - (val vs dg (t / b) + dg * (r * ↑vs.length)) = val vs dg (t / b + 1) - val vs dg (t / b) := by omega
    rw [e1, e2]
    omega
  rw [e]
  exact rd_gap _ _ h
theorem home_gap {n : Nat} (hn : 1 ≤ n) {t b : Int} (h : 1 ≤ b) (r : Int) : (t + r * n * b).fmod (n * b) = t.fmod (n * b) := by
  have hp : 1 ≤ (n : Int) * b := by
    have : 0 < (n : Int) * b := Int.mul_pos (by omega) (by omega)
    omega
  rw [fm hp, fm hp, Int.mul_assoc, Int.add_mul_emod_self_right]
theorem rd_one (x : Int) : rd x 1 = (x, 1) := rd_self (by decide) (by simp)
theorem F_one {vs : List Int} {dg d : Int} : F vs dg (d, 1) = (val vs dg d, 1) := by
  unfold F num
  simp only []
  rw [fd (by decide), Int.ediv_one]
  have : val vs dg d * 1 + (d - d * 1) * (val vs dg (d + 1) - val vs dg d) = val vs dg d := by
    rw [Int.mul_one, Int.mul_one, Int.sub_self, Int.zero_mul, Int.add_zero]
  rw [this]
  exact rd_one _
theorem F_half {vs : List Int} {dg d : Int} : F vs dg (2 * d + 1, 2) = rd (val vs dg d + val vs dg (d + 1)) 2 := by
  unfold F num
  simp only []
  have e : (2 * d + 1).fdiv 2 = d := by rw [fd (by decide)]; omega
  rw [e]
  have : val vs dg d * 2 + (2 * d + 1 - d * 2) * (val vs dg (d + 1) - val vs dg d) = val vs dg d + val vs dg (d + 1) := by
    rw [show 2 * d + 1 - d * 2 = 1 from by omega, Int.one_mul]
    omega
  rw [this]
theorem good_one (d : Int) : Good (d, 1) := ⟨(by decide : (1 : Int) ≤ 1), (by decide : (1 : Int) ≤ 1000), by simp⟩
theorem good_half (d : Int) : Good (2 * d + 1, 2) := ⟨(by decide : (1 : Int) ≤ 2), (by decide : (2 : Int) ≤ 1000), by
  show Int.gcd (2 * d + 1) 2 = 1
  rw [show 2 * d + 1 = 1 + d * 2 from by omega, Int.gcd_add_mul_right_left]
  decide⟩
theorem it_add (f : Int × Int → Int × Int) (i j : Nat) (p : Int × Int) : it f (i + j) p = it f j (it f i p) := by
  induction j with
  | zero => rfl
  | succ j ih =>
    show f (it f (i + j) p) = f (it f j (it f i p))
    rw [ih]
theorem way_add (f : Int × Int → Int × Int) (n : Nat) (p : Int × Int) : ∀ m, way f (n + m) p = way f n p ++ (way f m (it f n p)).drop 1
  | 0 => by
    have : (way f 0 (it f n p)).drop 1 = [] := rfl
    rw [this, List.append_nil]
    rfl
  | m + 1 => by
    rw [show n + (m + 1) = (n + m) + 1 from by omega, way_succ, way_add f n p m, way_succ, List.drop_append_of_le_length (by rw [way_len]; omega), List.append_assoc]
    rw [show n + m + 1 = n + (m + 1) from by omega, it_add]
/-- the way from a point that lies r rounds on -/
theorem it_gap {vs : List Int} {dg : Int} (w : Okw vs dg) {p : Int × Int} (hp : Good p) : ∀ (i : Nat) (r : Int), ∃ s : Int, it (F vs dg) i (p.1 + r * vs.length * p.2, p.2) = ((it (F vs dg) i p).1 + s * vs.length * (it (F vs dg) i p).2, (it (F vs dg) i p).2) ∧ s = r * dg ^ i
  | 0, r => ⟨r, rfl, by simp⟩
  | i + 1, r => by
    obtain ⟨s, e, hs⟩ := it_gap w hp i r
    have g := it_good (vs := vs) (dg := dg) hp i
    refine ⟨s * dg, ?_, by rw [hs, Int.pow_succ, Int.mul_assoc]⟩
    show F vs dg (it (F vs dg) i _) = _
    rw [e]
    have q := F_gap w (t := (it (F vs dg) i p).1) g.b1 s
    rw [q]
    show _ = ((F vs dg (it (F vs dg) i p)).1 + s * dg * ↑vs.length * (F vs dg (it (F vs dg) i p)).2, (F vs dg (it (F vs dg) i p)).2)
    have : dg * (s * (vs.length : Int)) = s * dg * vs.length := by rw [← Int.mul_assoc, Int.mul_comm dg s]
    rw [this]
structure Rho {α : Type} (u : Nat → α) (a p : Nat) : Prop where
  p1 : 1 ≤ p
  eq : u (a + p) = u a
  ne : ∀ i j, i < j → j < a + p → u i ≠ u j
theorem nodup_lt : ∀ (N : Nat) (l : List Nat), l.Nodup → (∀ x ∈ l, x < N) → l.length ≤ N
  | 0, l, _, h => by
    cases l with
    | nil => exact Nat.le_refl _
    | cons x r => exact absurd (h x List.mem_cons_self) (Nat.not_lt_zero _)
  | N + 1, l, hn, h => by
    have h1 := nodup_lt N (l.erase N) (hn.erase N) fun x hx => by
      have h2 := h x (List.mem_of_mem_erase hx)
      have h3 : x ≠ N := fun e => by
        rw [e] at hx
        exact hn.not_mem_erase hx
      omega
    have h4 : l.length ≤ (l.erase N).length + 1 := by
      rw [List.length_erase]
      split <;> omega
    omega
theorem least {P : Nat → Prop} (h : ∃ n, P n) : ∃ n, P n ∧ ∀ m, m < n → ¬ P m := by
  obtain ⟨n, hn⟩ := h
  induction n using Nat.strongRecOn with
  | _ n ih =>
    by_cases q : ∃ m, m < n ∧ P m
    · obtain ⟨m, h1, h2⟩ := q
      exact ih m h1 h2
    · exact ⟨n, hn, fun m h1 h2 => q ⟨m, h1, h2⟩⟩
theorem rho_of {α : Type} (u : Nat → α) (c : α → Nat) (N : Nat) (hc : ∀ i, c (u i) < N) (inj : ∀ i j, c (u i) = c (u j) → u i = u j) : ∃ a p, Rho u a p ∧ a + p ≤ N := by
  have ex : ∃ k, k ≤ N ∧ ∃ i, i < k ∧ u i = u k := by
    refine Classical.byContradiction fun q => ?_
    have hn : ((List.range (N + 1)).map fun i => c (u i)).Nodup := by
      unfold List.Nodup
      rw [List.pairwise_map]
      have := List.nodup_range (n := N + 1)
      unfold List.Nodup at this
      refine List.Pairwise.imp_of_mem ?_ (List.pairwise_lt_range (n := N + 1))
      intro i j hi hj hij e
      exact q ⟨j, by have := List.mem_range.mp hj; omega, i, hij, inj i j e⟩
    have := nodup_lt N _ hn fun x hx => by
      obtain ⟨i, _, rfl⟩ := List.mem_map.mp hx
      exact hc i
    rw [List.length_map, List.length_range] at this
    omega
  obtain ⟨k, ⟨hk, i, hi, e⟩, hm⟩ := least ex
  refine ⟨i, k - i, ⟨by omega, ?_, fun x y hxy hy exy => ?_⟩, by omega⟩
  · rw [show i + (k - i) = k from by omega]
    exact e.symm
  · exact hm y (by omega) ⟨by omega, x, hxy, exy⟩
theorem Rho.per {α : Type} {u : Nat → α} {a p : Nat} (h : Rho u a p) (g : α → α) (hg : ∀ i, u (i + 1) = g (u i)) : ∀ i, a ≤ i → u (i + p) = u i := by
  intro i hi
  induction i with
  | zero =>
    have : a = 0 := by omega
    have e := h.eq
    rw [this] at e
    exact e
  | succ i ih =>
    by_cases q : a ≤ i
    · rw [show i + 1 + p = (i + p) + 1 from by omega, hg, hg, ih q]
    · have : a = i + 1 := by omega
      rw [← this]
      exact h.eq
theorem Rho.mod {α : Type} {u : Nat → α} {a p : Nat} (h : Rho u a p) (g : α → α) (hg : ∀ i, u (i + 1) = g (u i)) (i : Nat) : ∀ m, u (a + i + m * p) = u (a + i)
  | 0 => by rw [Nat.zero_mul, Nat.add_zero]
  | m + 1 => by
    rw [Nat.succ_mul, ← Nat.add_assoc, h.per g hg _ (by omega), Rho.mod h g hg i m]
theorem Rho.from {α : Type} {u : Nat → α} {a p : Nat} (h : Rho u a p) (g : α → α) (hg : ∀ i, u (i + 1) = g (u i)) (t : Nat) : Rho (fun i => u (t + i)) (a - t) p := by
  have hp := h.p1
  by_cases q : t ≤ a
  · refine ⟨h.p1, ?_, fun i j hij hj => h.ne _ _ (by omega) (by omega)⟩
    show u (t + (a - t + p)) = u (t + (a - t))
    rw [show t + (a - t + p) = a + p from by omega, show t + (a - t) = a from by omega]
    exact h.eq
  · refine ⟨h.p1, ?_, fun i j hij hj => ?_⟩
    · show u (t + (a - t + p)) = u (t + (a - t))
      rw [show t + (a - t + p) = t + p from by omega, show t + (a - t) = t from by omega]
      exact h.per g hg t (by omega)
    · show u (t + i) ≠ u (t + j)
      have e : ∀ x, a ≤ x → u x = u (a + (x - a) % p) := fun x hx => by
        have := h.mod g hg ((x - a) % p) ((x - a) / p)
        rw [Nat.mul_comm, Nat.add_assoc, Nat.mod_add_div, show a + (x - a) = x from by omega] at this
        exact this
      rw [e (t + i) (by omega), e (t + j) (by omega)]
      have h1 : (t + i - a) % p < p := Nat.mod_lt _ hp
      have h2 : (t + j - a) % p < p := Nat.mod_lt _ hp
      have h3 : (t + i - a) % p ≠ (t + j - a) % p := fun z => by
        have d : p ∣ (t + j - a) - (t + i - a) := Nat.dvd_of_mod_eq_zero (Nat.sub_mod_eq_zero_of_mod_eq z.symm)
        have := Nat.le_of_dvd (by omega) d
        omega
      rcases Nat.lt_or_gt_of_ne h3 with z | z
      · exact h.ne _ _ (by omega) (by omega)
      · exact (h.ne _ _ (by omega) (by omega)).symm
def hm (n : Nat) (p : Int × Int) : Int × Int := (p.1.fmod (n * p.2), p.2)
theorem hm_mul {n : Nat} (hn : 1 ≤ n) {p : Int × Int} (h : 1 ≤ p.2) : 1 ≤ (n : Int) * p.2 := by
  have : 0 < (n : Int) * p.2 := Int.mul_pos (by omega) (by omega)
  omega
/-- a point some rounds on -/
def sh (n : Nat) (p : Int × Int) (r : Int) : Int × Int := (p.1 + r * n * p.2, p.2)
theorem hm_sh {n : Nat} (hn : 1 ≤ n) {p : Int × Int} (h : 1 ≤ p.2) : ∃ r, p = sh n (hm n p) r := by
  have hp := hm_mul hn h
  refine ⟨p.1.fdiv (n * p.2), ?_⟩
  unfold sh hm
  have : p.1.fmod (n * p.2) + p.1.fdiv (n * p.2) * n * p.2 = p.1 := by
    rw [Int.fmod_def, Int.mul_assoc (p.1.fdiv _) n p.2, Int.mul_comm (p.1.fdiv _) (n * p.2)]
    omega
  simp only [this]
theorem sh_hm {n : Nat} (hn : 1 ≤ n) {p : Int × Int} (h : 1 ≤ p.2) (r : Int) : hm n (sh n p r) = hm n p := by
  unfold hm sh
  simp only
  rw [home_gap hn h]
theorem hm_eq {n : Nat} (hn : 1 ≤ n) {p q : Int × Int} (h : 1 ≤ p.2) (h2 : 1 ≤ q.2) (e : hm n p = hm n q) : ∃ r, q = sh n p r := by
  obtain ⟨r1, e1⟩ := hm_sh hn h
  obtain ⟨r2, e2⟩ := hm_sh hn h2
  refine ⟨r2 - r1, ?_⟩
  rw [← e] at e2
  have e3 : p.2 = (hm n p).2 := rfl
  have e4 : p.1 = (hm n p).1 + r1 * n * (hm n p).2 := congrArg Prod.fst e1
  rw [e2]
  unfold sh
  rw [e4, e3]
  have : (hm n p).1 + r1 * n * (hm n p).2 + (r2 - r1) * n * (hm n p).2 = (hm n p).1 + r2 * n * (hm n p).2 := by
    rw [Int.sub_mul, Int.sub_mul]; omega
  rw [this]
theorem sh_sh {n : Nat} {p : Int × Int} (r s : Int) : sh n (sh n p r) s = sh n p (r + s) := by
  unfold sh
  simp only
  rw [Int.add_mul, Int.add_mul]
  congr 1
  omega
theorem hm_good {n : Nat} (hn : 1 ≤ n) {p : Int × Int} (h : Good p) : Good (hm n p) := by
  have hp := hm_mul hn h.b1
  refine ⟨h.b1, h.b2, ?_⟩
  have e : p.1 % (n * p.2) = p.1 + (-(n * (p.1 / (n * p.2)))) * p.2 := by
    rw [Int.emod_def, Int.neg_mul, Int.mul_right_comm]
    omega
  show Int.gcd (p.1.fmod (n * p.2)) p.2 = 1
  rw [fm hp, e, Int.gcd_add_mul_right_left]
  exact h.g
theorem hm_hm {n : Nat} (hn : 1 ≤ n) {p : Int × Int} (h : 1 ≤ p.2) : hm n (hm n p) = hm n p := by
  have hp := hm_mul hn h
  unfold hm
  simp only
  rw [fm hp, fm hp, Int.emod_emod_of_dvd _ (Int.dvd_refl _)]
theorem sh_good {n : Nat} {p : Int × Int} (h : Good p) (r : Int) : Good (sh n p r) := by
  refine ⟨h.b1, h.b2, ?_⟩
  show Int.gcd (p.1 + r * n * p.2) p.2 = 1
  rw [Int.gcd_add_mul_right_left]
  exact h.g
theorem F_sh {vs : List Int} {dg : Int} (w : Okw vs dg) {p : Int × Int} (h : 1 ≤ p.2) (r : Int) : F vs dg (sh vs.length p r) = sh vs.length (F vs dg p) (dg * r) := by
  unfold sh
  rw [F_gap w (t := p.1) h]
  show ((F vs dg p).1 + dg * (r * vs.length) * (F vs dg p).2, (F vs dg p).2) = _
  rw [← Int.mul_assoc dg r]
/-- a step of homes -/
def Gs (vs : List Int) (dg : Int) (p : Int × Int) : Int × Int := hm vs.length (F vs dg p)
theorem G_hm {vs : List Int} {dg : Int} (w : Okw vs dg) {p : Int × Int} (h : Good p) : Gs vs dg (hm vs.length p) = hm vs.length (F vs dg p) := by
  have l1 := w.l1
  obtain ⟨r, e⟩ := hm_sh (n := vs.length) (by omega) h.b1
  unfold Gs
  conv => rhs; rw [e]
  rw [F_sh w (hm_good (by omega) h).b1, sh_hm (by omega) (F_good (hm_good (by omega) h)).b1]
/-- the row of homes -/
def U (vs : List Int) (dg : Int) (p : Int × Int) (i : Nat) : Int × Int := hm vs.length (it (F vs dg) i p)
theorem U_succ {vs : List Int} {dg : Int} (w : Okw vs dg) {p : Int × Int} (h : Good p) (i : Nat) : U vs dg p (i + 1) = Gs vs dg (U vs dg p i) := by
  unfold U
  rw [G_hm w (it_good h i)]
  rfl
theorem U_zero {vs : List Int} {dg : Int} {p : Int × Int} : U vs dg p 0 = hm vs.length p := rfl
theorem U_row {vs : List Int} {dg : Int} (w : Okw vs dg) {p q : Int × Int} (hp : Good p) (hq : Good q) (e : hm vs.length p = hm vs.length q) : ∀ i, U vs dg p i = U vs dg q i
  | 0 => e
  | i + 1 => by rw [U_succ w hp, U_succ w hq, U_row w hp hq e i]
theorem U_from {vs : List Int} {dg : Int} {p : Int × Int} (t i : Nat) : U vs dg (it (F vs dg) t p) i = U vs dg p (t + i) := by
  unfold U
  rw [it_add]
theorem F_dvd {vs : List Int} {dg : Int} {p : Int × Int} (h : Good p) : (F vs dg p).2 ∣ p.2 := by
  obtain ⟨g1, g2, g3, g4⟩ := gcd_ok (t := num vs dg p) h.b1 (by have := h.b2; omega)
  have d2 : (Int.gcd (num vs dg p) p.2 : Int) ∣ p.2 := Int.gcd_dvd_right ..
  show p.2.fdiv (Int.gcd (num vs dg p) p.2) ∣ p.2
  rw [Int.fdiv_eq_ediv_of_nonneg _ (by omega)]
  exact Int.ediv_dvd_of_dvd d2
theorem it_dvd {vs : List Int} {dg : Int} {p : Int × Int} (h : Good p) : ∀ i, (it (F vs dg) i p).2 ∣ p.2
  | 0 => Int.dvd_refl _
  | i + 1 => Int.dvd_trans (F_dvd (it_good h i)) (it_dvd h i)
def code (q : Int) (x : Int × Int) : Nat := (x.1 * (q / x.2)).toNat
theorem cop {a b d : Int} (h : b ∣ a * d) (g : Int.gcd a b = 1) : b ∣ d := by
  have h1 : b.natAbs ∣ a.natAbs * d.natAbs := by
    rw [← Int.natAbs_mul]
    exact Int.natAbs_dvd_natAbs.mpr h
  have h2 : Nat.Coprime b.natAbs a.natAbs := by
    show Nat.gcd b.natAbs a.natAbs = 1
    rw [Nat.gcd_comm]
    exact g
  exact Int.natAbs_dvd_natAbs.mp (h2.dvd_of_dvd_mul_left h1)
theorem low_eq {a b c d : Int} (hb : 1 ≤ b) (hd : 1 ≤ d) (g1 : Int.gcd a b = 1) (g2 : Int.gcd c d = 1) (e : a * d = c * b) : a = c ∧ b = d := by
  have e1 : b ∣ d := by
    have : b ∣ a * d := ⟨c, by rw [e, Int.mul_comm]⟩
    exact cop this g1
  have e2 : d ∣ b := by
    have : d ∣ c * b := ⟨a, by rw [← e, Int.mul_comm]⟩
    exact cop this g2
  have e3 : b = d := Int.le_antisymm (Int.le_of_dvd (by omega) e1) (Int.le_of_dvd (by omega) e2)
  subst e3
  exact ⟨Int.eq_of_mul_eq_mul_right (by omega) e, rfl⟩
theorem U_rho {vs : List Int} {dg : Int} (w : Okw vs dg) {p : Int × Int} (h : Good p) (hb : p.2 ≤ 20) : ∃ a k, Rho (U vs dg p) a k ∧ a + k ≤ 160 := by
  have l1 := w.l1
  have l2 := w.l2
  have b1 := h.b1
  have nq : (vs.length : Int) * p.2 ≤ 160 := by
    have h1 : (vs.length : Int) * p.2 ≤ 8 * p.2 := Int.mul_le_mul_of_nonneg_right (by omega) (by omega)
    omega
  have np : 0 < (vs.length : Int) * p.2 := Int.mul_pos (by omega) (by omega)
  have fact : ∀ i, 1 ≤ (U vs dg p i).2 ∧ 0 ≤ (U vs dg p i).1 ∧ (U vs dg p i).1 < vs.length * (U vs dg p i).2 ∧ Int.gcd (U vs dg p i).1 (U vs dg p i).2 = 1 ∧ (U vs dg p i).2 ∣ p.2 := fun i => by
    have g := it_good (vs := vs) (dg := dg) h i
    have gg := hm_good (n := vs.length) (by omega) g
    have hp := hm_mul (n := vs.length) (by omega) g.b1
    exact ⟨g.b1, fm0 hp, fm1 hp, gg.g, it_dvd h i⟩
  have cd : ∀ i, (code p.2 (U vs dg p i) : Int) = (U vs dg p i).1 * (p.2 / (U vs dg p i).2) ∧ (U vs dg p i).1 * (p.2 / (U vs dg p i).2) < vs.length * p.2 ∧ p.2 = (U vs dg p i).2 * (p.2 / (U vs dg p i).2) ∧ 1 ≤ p.2 / (U vs dg p i).2 := fun i => by
    obtain ⟨f1, f2, f3, f4, f5⟩ := fact i
    have e := (Int.mul_ediv_cancel' f5).symm
    have q1 : 1 ≤ p.2 / (U vs dg p i).2 := Int.ediv_pos_of_pos_of_dvd (by omega) (by omega) f5
    have n0 : 0 ≤ (U vs dg p i).1 * (p.2 / (U vs dg p i).2) := Int.mul_nonneg f2 (by omega)
    refine ⟨by unfold code; omega, ?_, e, q1⟩
    have := Int.mul_lt_mul_of_pos_right f3 (show 0 < p.2 / (U vs dg p i).2 by omega)
    rw [Int.mul_assoc, ← e] at this
    exact this
  obtain ⟨a, k, r, hk⟩ := rho_of (U vs dg p) (code p.2) ((vs.length : Int) * p.2).toNat (fun i => by have := cd i; omega) (fun i j e => by
    obtain ⟨i1, i2, i3, i4⟩ := cd i
    obtain ⟨j1, j2, j3, j4⟩ := cd j
    obtain ⟨f1, f2, f3, f4, f5⟩ := fact i
    obtain ⟨k1, k2, k3, k4, k5⟩ := fact j
    have e' : (U vs dg p i).1 * (p.2 / (U vs dg p i).2) = (U vs dg p j).1 * (p.2 / (U vs dg p j).2) := by rw [← i1, ← j1, e]
    generalize p.2 / (U vs dg p i).2 = x at *
    generalize p.2 / (U vs dg p j).2 = y at *
    have e2 : (U vs dg p i).1 * (U vs dg p j).2 = (U vs dg p j).1 * (U vs dg p i).2 := by
      have hx : x * y ≠ 0 := fun z => by rcases Int.mul_eq_zero.mp z with z | z <;> omega
      refine Int.eq_of_mul_eq_mul_right hx ?_
      have a1 : (U vs dg p i).1 * (U vs dg p j).2 * (x * y) = ((U vs dg p i).1 * x) * ((U vs dg p j).2 * y) := by
        rw [Int.mul_assoc, Int.mul_assoc, Int.mul_left_comm (U vs dg p j).2]
      have a2 : (U vs dg p j).1 * (U vs dg p i).2 * (x * y) = ((U vs dg p j).1 * y) * ((U vs dg p i).2 * x) := by
        rw [Int.mul_comm x y, Int.mul_assoc, Int.mul_assoc, Int.mul_left_comm (U vs dg p i).2]
      rw [a1, a2, e', ← i3, ← j3]
    obtain ⟨z1, z2⟩ := low_eq f1 k1 f4 k4 e2
    exact Prod.ext z1 z2)
  exact ⟨a, k, r, by omega⟩
theorem it_sh {vs : List Int} (w : Okw vs 1) {p : Int × Int} (h : Good p) (r : Int) : ∀ i, it (F vs 1) i (sh vs.length p r) = sh vs.length (it (F vs 1) i p) r
  | 0 => rfl
  | i + 1 => by
    show F vs 1 (it (F vs 1) i _) = _
    rw [it_sh w h r i, F_sh w (it_good h i).b1, Int.one_mul]
    rfl
/-- .. and the same for each point on the round -/
theorem disp {vs : List Int} (w : Okw vs 1) {p : Int × Int} (h : Good p) {a k : Nat} (R : Rho (U vs 1 p) a k) : ∃ s, ∀ j, a ≤ j → it (F vs 1) (j + k) p = sh vs.length (it (F vs 1) j p) s := by
  have l1 := w.l1
  obtain ⟨s, e⟩ := hm_eq (n := vs.length) (by omega) (it_good h a).b1 (it_good h (a + k)).b1 (show hm vs.length (it (F vs 1) a p) = _ from R.eq.symm)
  refine ⟨s, fun j hj => ?_⟩
  induction j with
  | zero =>
    have : a = 0 := by omega
    rw [this] at e
    exact e
  | succ j ih =>
    by_cases q : a ≤ j
    · have := ih q
      show it (F vs 1) (j + 1 + k) p = _
      rw [show j + 1 + k = (j + k) + 1 from by omega]
      show F vs 1 (it (F vs 1) (j + k) p) = _
      rw [this, F_sh w (it_good h j).b1, Int.one_mul]
      rfl
    · have : a = j + 1 := by omega
      rw [← this]
      exact e
/-- from any point with the home of one on the round -/
theorem disp_from {vs : List Int} (w : Okw vs 1) {p : Int × Int} (h : Good p) {k : Nat} {s : Int} {j : Nat} (e : it (F vs 1) (j + k) p = sh vs.length (it (F vs 1) j p) s) {b : Int × Int} (hb : Good b) (hh : hm vs.length b = U vs 1 p j) : it (F vs 1) k b = sh vs.length b s := by
  have l1 := w.l1
  obtain ⟨r, er⟩ := hm_eq (n := vs.length) (by omega) (it_good h j).b1 hb.b1 (show hm vs.length (it (F vs 1) j p) = _ from hh.symm)
  rw [er, it_sh w (it_good h j), ← it_add, e, sh_sh, sh_sh, Int.add_comm]
def up (vs : List Int) : List Int := vs.map fun v => v + vs.length
theorem up_val {vs : List Int} (w : Okw vs 1) (d : Int) : val (up vs) 1 d = val vs 1 d + vs.length := by
  have l1 := w.l1
  have hm : 1 ≤ (vs.length : Int) := by omega
  unfold val up
  rw [List.length_map]
  have h0 : 0 ≤ d.fmod vs.length := fm0 hm
  have h1 : d.fmod vs.length < vs.length := fm1 hm
  have hl : (d.fmod vs.length).toNat < vs.length := by omega
  rw [List.getD_eq_getElem?_getD, List.getD_eq_getElem?_getD, List.getElem?_map, List.getElem?_eq_getElem hl]
  simp only [Option.map, Option.getD]
  omega
theorem up_F {vs : List Int} (w : Okw vs 1) {p : Int × Int} (h : Good p) : F (up vs) 1 p = sh vs.length (F vs 1 p) 1 := by
  unfold F
  have e : num (up vs) 1 p = num vs 1 p + vs.length * p.2 := by
    unfold num
    rw [up_val w, up_val w, Int.add_mul]
    have : val vs 1 (p.1.fdiv p.2 + 1) + ↑vs.length - (val vs 1 (p.1.fdiv p.2) + ↑vs.length) = val vs 1 (p.1.fdiv p.2 + 1) - val vs 1 (p.1.fdiv p.2) := by omega
    rw [this]
    omega
  rw [e, rd_gap _ _ h.b1]
  unfold sh
  rw [Int.one_mul]
theorem up_len {vs : List Int} : (up vs).length = vs.length := by unfold up; rw [List.length_map]
theorem up_U {vs : List Int} (w : Okw vs 1) (w' : Okw (up vs) 1) {p : Int × Int} (h : Good p) : ∀ i, U (up vs) 1 p i = U vs 1 p i
  | 0 => by rw [U_zero, U_zero, up_len]
  | i + 1 => by
    have l1 := w.l1
    rw [U_succ w' h, U_succ w h, up_U w w' h i]
    have g : Good (U vs 1 p i) := hm_good (by omega) (it_good h i)
    unfold Gs
    rw [up_F w g, up_len, sh_hm (by omega) (F_good g).b1]
theorem up_it {vs : List Int} (w : Okw vs 1) {p : Int × Int} (h : Good p) : ∀ i : Nat, it (F (up vs) 1) i p = sh vs.length (it (F vs 1) i p) i
  | 0 => by unfold it sh; simp
  | i + 1 => by
    show F (up vs) 1 (it (F (up vs) 1) i p) = _
    rw [up_it w h i, up_F w (sh_good (it_good h i) _), F_sh w (it_good h i).b1, sh_sh, Int.one_mul]
    rfl
theorem rd_scale (s p c : Int) (hp : 1 ≤ p) (hc : 1 ≤ c) : rd (s * c) (p * c) = rd s p := by
  unfold rd
  have hg : Int.gcd (s * c) (p * c) = Int.gcd s p * c.natAbs := Int.gcd_mul_right ..
  have g0 : Int.gcd s p ≠ 0 := fun e => by
    have := (Int.gcd_eq_zero_iff.mp e).2
    omega
  have g1 : 1 ≤ (Int.gcd s p : Int) := by omega
  have e : ((Int.gcd (s * c) (p * c) : Nat) : Int) = (Int.gcd s p : Int) * c := by
    rw [hg]
    have : ((c.natAbs : Nat) : Int) = c := by omega
    rw [Int.natCast_mul, this]
  rw [e]
  have q : 1 ≤ (Int.gcd s p : Int) * c := by
    have : 0 < (Int.gcd s p : Int) * c := Int.mul_pos (by omega) (by omega)
    omega
  rw [fd q, fd q, fd g1, fd g1, Int.mul_ediv_mul_of_pos_left _ _ (by omega), Int.mul_ediv_mul_of_pos_left _ _ (by omega)]
theorem dp_eqv (a b : Int × Int) : D.eqv (dp a) (dp b) = decide (a = b) := by
  unfold dp D.eqv D.eqvs D.eqvs D.eqvs
  unfold D.eqv
  rw [Bool.eq_iff_iff]
  simp [Prod.ext_iff]
theorem dGet_at {x : Int × Int} : ∀ (l : List (FL.D × FL.D)) (i : Nat) (y v : FL.D), l[i]? = some (y, v) → y.eqv (dp x) = true → (∀ j, j < i → ∀ z w, l[j]? = some (z, w) → z.eqv (dp x) = false) → dGet (dp x) l = some v
  | [], i, _, _, h, _, _ => by simp at h
  | (z, w) :: r, 0, y, v, h, e, _ => by
    rw [List.getElem?_cons_zero] at h
    cases h
    unfold dGet
    rw [if_pos e]
  | (z, w) :: r, i + 1, y, v, h, e, hn => by
    rw [List.getElem?_cons_succ] at h
    unfold dGet
    rw [if_neg (by rw [hn 0 (by omega) z w rfl]; decide)]
    exact dGet_at r i y v h e fun j hj z' w' hz => hn (j + 1) (by omega) z' w' (by rw [List.getElem?_cons_succ]; exact hz)
theorem many_fld (vs : List Int) (dg : Int) : fldD (RG vs dg) "many" = some (.d (.int vs.length)) := by simp [fldD, RG, lookF, nd2, nd3]
theorem deg_fld (vs : List Int) (dg : Int) : fldD (RG vs dg) "degree" = some (.d (.int dg)) := by simp [fldD, RG, lookF, nd1]
theorem dots_fld (vs : List Int) (dg : Int) : fldD (RG vs dg) "dots" = some (.d (.tup (zs vs))) := by simp [fldD, RG, lookF]
theorem moved_eq (n : Nat) (b : Int × Int) (hb : 1 ≤ b.2) (s : Int) : rd ((sh n b s).1 * b.2 - b.1 * (sh n b s).2) ((sh n b s).2 * b.2) = (s * n, 1) := by
  have e1 : (sh n b s).1 * b.2 - b.1 * (sh n b s).2 = (s * n) * (b.2 * b.2) := by
    show (b.1 + s * n * b.2) * b.2 - b.1 * b.2 = _
    rw [Int.add_mul, Int.mul_assoc (s * n)]
    omega
  have e2 : (sh n b s).2 * b.2 = 1 * (b.2 * b.2) := by rw [Int.one_mul]; rfl
  have q : 1 ≤ b.2 * b.2 := by
    have := Int.mul_pos (show 0 < b.2 by omega) (show 0 < b.2 by omega)
    omega
  rw [e1, e2, rd_scale _ _ _ (by decide) q, rd_one]
def addD1 (m : Int) : FL.D → FL.D
  | .int i => .int (i + m)
  | d => d
theorem ws_plain : ∀ l : List (Int × Int), D.plains (ws l) = true ∧ D.noss (ws l) = true ∧ D.depths (ws l) ≤ 1
  | [] => ⟨rfl, rfl, by decide⟩
  | q :: r => by
    obtain ⟨h1, h2, h3⟩ := ws_plain r
    refine ⟨?_, ?_, ?_⟩
    · show ((dp q).plain && D.plains (ws r)) = true
      rw [h1]; rfl
    · show ((dp q).nos && D.noss (ws r)) = true
      rw [h2]; rfl
    · show max (dp q).depth (D.depths (ws r)) ≤ 1
      have : (dp q).depth = 1 := rfl
      omega
theorem ws_deep (l : List (Int × Int)) : okDeep (.lst (ws l)) = true := by
  obtain ⟨h1, h2, h3⟩ := ws_plain l
  unfold okDeep
  rw [Bool.and_eq_true]
  exact ⟨h1, decide_eq_true (show D.depths (ws l) + 1 ≤ 60 by omega)⟩
theorem in_ws (x : Int × Int) (l : List (Int × Int)) : cmp .in_ (dp x) (.lst (ws l)) = some (decide (x ∈ l)) := by
  have h1 : okDeep (dp x) = true := rfl
  show (if okDeep (dp x) && okDeep (.lst (ws l)) then some ((ws l).any fun z => z.eqv (dp x)) else none) = _
  rw [h1, ws_deep]
  show some ((ws l).any fun z => z.eqv (dp x)) = _
  congr 1
  unfold ws
  rw [Bool.eq_iff_iff, List.any_eq_true, decide_eq_true_eq]
  constructor
  · rintro ⟨z, hz, e⟩
    obtain ⟨y, hy, rfl⟩ := List.mem_map.mp hz
    rw [dp_eqv, decide_eq_true_eq] at e
    rw [← e]; exact hy
  · intro h
    exact ⟨dp x, List.mem_map.mpr ⟨x, h, rfl⟩, by rw [dp_eqv]; simp⟩
theorem place_ws {x : Int × Int} : ∀ (l : List (Int × Int)) (j0 i : Nat), l[i]? = some x → (∀ a, a < i → l[a]? ≠ some x) → placeD (dp x) j0 (ws l) = some (j0 + i)
  | [], _, _, h, _ => by simp at h
  | y :: r, j0, 0, h, _ => by
    rw [List.getElem?_cons_zero] at h
    cases h
    show (if (dp x).eqv (dp x) = true then some j0 else placeD (dp x) (j0 + 1) (ws r)) = _
    rw [if_pos (by rw [dp_eqv]; simp)]
    rfl
  | y :: r, j0, i + 1, h, hn => by
    rw [List.getElem?_cons_succ] at h
    show (if (dp y).eqv (dp x) = true then some j0 else placeD (dp x) (j0 + 1) (ws r)) = _
    have : y ≠ x := fun e => hn 0 (by omega) (by rw [List.getElem?_cons_zero, e])
    rw [if_neg (by rw [dp_eqv]; simpa using this), place_ws r (j0 + 1) i h fun a ha => by
      have := hn (a + 1) (by omega)
      rw [List.getElem?_cons_succ] at this
      exact this]
    congr 1
    omega
def hs (u : Nat → Int × Int) (j : Nat) : List (Int × Int) := (List.range (j + 1)).map u
theorem hs_succ (u : Nat → Int × Int) (j : Nat) : hs u (j + 1) = hs u j ++ [u (j + 1)] := by
  unfold hs
  rw [List.range_succ, List.map_append]
  rfl
theorem hs_len (u : Nat → Int × Int) (j : Nat) : (hs u j).length = j + 1 := by unfold hs; simp
theorem hs_at (u : Nat → Int × Int) {j i : Nat} (h : i ≤ j) : (hs u j)[i]? = some (u i) := by
  unfold hs
  rw [List.getElem?_map, List.getElem?_range (by omega)]
  rfl
theorem hs_mem {u : Nat → Int × Int} {j : Nat} {x : Int × Int} : x ∈ hs u j ↔ ∃ i, i ≤ j ∧ u i = x := by
  unfold hs
  rw [List.mem_map]
  constructor
  · rintro ⟨i, hi, e⟩
    exact ⟨i, by have := List.mem_range.mp hi; omega, e⟩
  · rintro ⟨i, hi, e⟩
    exact ⟨i, List.mem_range.mpr (by omega), e⟩
theorem enumD_zs : ∀ (k : Nat) (vs : List Int) (j : Nat) (d : FL.D), (enumD k (zs vs))[j]? = some d → ∃ z ∈ vs, d = .tup [.int ((k + j : Nat) : Int), .int z]
  | _, [], _, _, h => by simp [zs, enumD] at h
  | k, v :: vs, 0, d, h => by
    simp [zs, enumD] at h
    exact ⟨v, List.mem_cons_self, h.symm⟩
  | k, v :: vs, j + 1, d, h => by
    have h' : (enumD (k + 1) (zs vs))[j]? = some d := by
      simpa [zs, enumD] using h
    obtain ⟨z, hz, e⟩ := enumD_zs (k + 1) vs j d h'
    refine ⟨z, List.mem_cons_of_mem _ hz, ?_⟩
    rw [e, show k + 1 + j = k + (j + 1) from by omega]
theorem dep_mem : ∀ {ds : List FL.D} {d : FL.D}, d ∈ ds → d.depth ≤ D.depths ds
  | x :: r, d, hd => by
    unfold D.depths
    rcases List.mem_cons.mp hd with e | e
    · rw [e]; omega
    · have := dep_mem e; omega
  | [], _, hd => by cases hd
theorem zip_self : ∀ ds : List FL.D, zipD ds ds = ds.map fun d => .tup [d, d]
  | [] => rfl
  | d :: r => by unfold zipD; rw [zip_self r]; rfl
theorem allB_true : ∀ ds : List FL.D, allB (ds.map fun _ => FL.D.bl true) = some (ds.map fun _ => true)
  | [] => rfl
  | d :: r => by
    rw [List.map_cons]
    unfold allB
    rw [allB_true r]; rfl
theorem it_at {f : Int × Int → Int × Int} {n t : Nat} {p : Int × Int} (h : t ≤ n) : itemD (.lst (ws (way f n p))) (.int (t : Int)) = some (.d (dp (it f t p))) := by
  show (ixAt (ws (way f n p)) (t : Int)).map AV.d = _
  unfold ixAt FL.ixN ws
  rw [List.length_map, way_len, if_pos (by omega), if_pos (by omega)]
  simp only [Option.bind, Int.toNat_natCast]
  unfold way
  rw [List.getElem?_map, List.getElem?_map, List.getElem?_range (by omega)]
  rfl
theorem len_zt {l : List Int} : bltin .len [.tup (zs l)] = some (.d (.int l.length)) := by
  show some (AV.d (.int ((zs l).length : Int))) = _
  unfold zs
  rw [List.length_map]
theorem len_zl {l : List Int} : bltin .len [.lst (zs l)] = some (.d (.int l.length)) := by
  show some (AV.d (.int ((zs l).length : Int))) = _
  unfold zs
  rw [List.length_map]
end KM

set_option maxHeartbeats 1000000
/-! KN: rising rings: one share for all walkers. -/
namespace KM
open PySem FL
def iti (h : Int → Int) : Nat → Int → Int
  | 0, t => t
  | n + 1, t => h (iti h n t)
theorem iti_add (h : Int → Int) (i j : Nat) (t : Int) : iti h (i + j) t = iti h j (iti h i t) := by
  induction j with
  | zero => rfl
  | succ j ih =>
    show h (iti h (i + j) t) = h (iti h j (iti h i t))
    rw [ih]
structure Deg (h : Int → Int) (M : Int) : Prop where
  p : 1 ≤ M
  d : ∀ t r, h (t + r * M) = h t + r * M
  m : ∀ t u, t ≤ u → h t ≤ h u
section
variable {h : Int → Int} {M : Int} (D : Deg h M)
include D
theorem iti_d (i : Nat) (t r : Int) : iti h i (t + r * M) = iti h i t + r * M := by
  induction i with
  | zero => rfl
  | succ i ih =>
    show h (iti h i (t + r * M)) = h (iti h i t) + r * M
    rw [ih, D.d]
theorem iti_m (i : Nat) {t u : Int} (q : t ≤ u) : iti h i t ≤ iti h i u := by
  induction i with
  | zero => exact q
  | succ i ih => exact D.m _ _ ih
theorem iti_round {k : Nat} {b s : Int} (e : iti h k b = b + s * M) : ∀ j : Nat, iti h (k * j) b = b + (s * j) * M
  | 0 => by simp [iti]
  | j + 1 => by
    rw [Nat.mul_succ, iti_add, iti_round e j, iti_d D, e, Int.natCast_succ, Int.mul_add s, Int.add_mul (s * j), Int.mul_one]
    omega
/-- one share -/
theorem one_share {k m : Nat} {b c s s' : Int} (hk : 1 ≤ k) (hm : 1 ≤ m) (e : iti h k b = b + s * M) (e' : iti h m c = c + s' * M) : s' * k = s * m := by
  have hp := D.p
  have a1 := iti_round D e (m * 2)
  have a2 := iti_round D e' (k * 2)
  have e3 : m * (k * 2) = k * (m * 2) := by rw [← Nat.mul_assoc, ← Nat.mul_assoc, Nat.mul_comm m k]
  rw [e3] at a2
  -- put c just above b
  have q0 : 0 ≤ (c - b) % M := Int.emod_nonneg _ (by omega)
  have q1 : (c - b) % M < M := Int.emod_lt_of_pos _ (by omega)
  have q2 : c + (-((c - b) / M)) * M = b + (c - b) % M := by
    rw [Int.emod_def, Int.neg_mul, Int.mul_comm M]
    omega
  have a3 := iti_d D (k * (m * 2)) c (-((c - b) / M))
  rw [a2] at a3
  have a4 := iti_m D (k * (m * 2)) (show b ≤ c + (-((c - b) / M)) * M by omega)
  have a5 := iti_m D (k * (m * 2)) (show c + (-((c - b) / M)) * M ≤ b + 1 * M by rw [Int.one_mul]; omega)
  have a6 := iti_d D (k * (m * 2)) b 1
  rw [a1, a3] at a4
  rw [a3, a6, a1] at a5
  have w1 : s' * ((k * 2 : Nat) : Int) = 2 * (s' * k) := by rw [Int.natCast_mul, ← Int.mul_assoc]; omega
  have w2 : s * ((m * 2 : Nat) : Int) = 2 * (s * m) := by rw [Int.natCast_mul, ← Int.mul_assoc]; omega
  rw [w1, w2] at a4 a5
  generalize s' * (k : Int) = x at *
  generalize s * (m : Int) = y at *
  rcases Int.lt_trichotomy x y with z | z | z
  · exfalso
    have : x * M + 1 * M ≤ y * M := by rw [← Int.add_mul]; exact Int.mul_le_mul_of_nonneg_right (by omega) (by omega)
    rw [Int.mul_assoc] at a4 a5
    rw [Int.mul_assoc 2 x] at a4
    omega
  · exact z
  · exfalso
    have : y * M + 1 * M ≤ x * M := by rw [← Int.add_mul]; exact Int.mul_le_mul_of_nonneg_right (by omega) (by omega)
    rw [Int.mul_assoc] at a4 a5
    rw [Int.mul_assoc 2 y] at a5
    omega
end
/-- what comes back behind some steps stays -/
theorem mono_fix {h : Int → Int} (m : ∀ t u, t ≤ u → h t ≤ h u) {b : Int} : ∀ d, iti h (d + 1) b = b → h b = b := by
  intro d e
  have up : b < h b → ∀ d, b < iti h (d + 1) b := fun q d => by
    induction d with
    | zero => exact q
    | succ d ih => exact Int.lt_of_lt_of_le q (m _ _ (by omega))
  have dn : h b < b → ∀ d, iti h (d + 1) b < b := fun q d => by
    induction d with
    | zero => exact q
    | succ d ih => exact Int.lt_of_le_of_lt (m _ _ (by omega)) q
  rcases Int.lt_trichotomy (h b) b with z | z | z
  · have := dn z d; omega
  · exact z
  · have := up z d; omega
/-! ### a ring's own steps on dots -/
def Mon (vs : List Int) : Prop := ∀ d, val vs 1 d ≤ val vs 1 (d + 1)
theorem Mon.le {vs : List Int} (m : Mon vs) {d e : Int} (h : d ≤ e) : val vs 1 d ≤ val vs 1 e := by
  obtain ⟨n, hn⟩ : ∃ n : Nat, e = d + n := ⟨(e - d).toNat, by omega⟩
  subst hn
  clear h
  induction n with
  | zero => simp
  | succ n ih =>
    have := m (d + n)
    rw [show d + ((n + 1 : Nat) : Int) = d + n + 1 from by omega]
    omega
theorem deg_val {vs : List Int} (w : Okw vs 1) (m : Mon vs) : Deg (val vs 1) vs.length := by
  have l1 := w.l1
  exact ⟨by omega, fun t r => by rw [val_gap w, Int.one_mul], fun t u h => m.le h⟩
/-- .. with a bottom of Q -/
def N (vs : List Int) (Q t : Int) : Int := num vs 1 (t, Q)
theorem N_d {vs : List Int} (w : Okw vs 1) {Q : Int} (hQ : 1 ≤ Q) (t r : Int) : N vs Q (t + r * (vs.length * Q)) = N vs Q t + r * (vs.length * Q) := by
  unfold N num
  simp only []
  rw [fd hQ, fd hQ, ← Int.mul_assoc r, Int.add_mul_ediv_right _ _ (by omega)]
  rw [show t / Q + r * (vs.length : Int) + 1 = (t / Q + 1) + r * vs.length from by omega, val_gap w, val_gap w]
  rw [Int.add_mul (t / Q), Int.add_mul (val vs 1 (t / Q)), Int.one_mul]
  have e1 : t + r * ↑vs.length * Q - (t / Q * Q + r * ↑vs.length * Q) = t - t / Q * Q := by omega
  have e2 : val vs 1 (t / Q + 1) + r * ↑vs.length - (val vs 1 (t / Q) + r * ↑vs.length) = val vs 1 (t / Q + 1) - val vs 1 (t / Q) := by omega
  rw [e1, e2]
  omega
theorem N_dot {vs : List Int} {Q : Int} (hQ : 1 ≤ Q) (b : Int) : N vs Q (b * Q) = val vs 1 b * Q := by
  unfold N num
  simp only []
  rw [fd hQ, Int.mul_ediv_cancel _ (by omega), Int.sub_self, Int.zero_mul]
  omega
theorem N_bet {vs : List Int} {Q : Int} (m : Mon vs) (hQ : 1 ≤ Q) (t : Int) : val vs 1 (t / Q) * Q ≤ N vs Q t ∧ N vs Q t ≤ val vs 1 (t / Q + 1) * Q := by
  unfold N num
  simp only []
  rw [fd hQ]
  have a := m (t / Q)
  have e : t - t / Q * Q = t % Q := by rw [Int.emod_def, Int.mul_comm]
  have q0 : 0 ≤ t % Q := Int.emod_nonneg _ (by omega)
  have q1 : t % Q < Q := Int.emod_lt_of_pos _ (by omega)
  rw [e]
  generalize t % Q = r at *
  generalize val vs 1 (t / Q) = x at *
  generalize val vs 1 (t / Q + 1) = y at *
  have h1 : 0 ≤ r * (y - x) := Int.mul_nonneg q0 (by omega)
  have h2 : r * (y - x) ≤ Q * (y - x) := Int.mul_le_mul_of_nonneg_right (by omega) (by omega)
  have h3 : Q * (y - x) = y * Q - x * Q := by rw [Int.mul_sub, Int.mul_comm Q y, Int.mul_comm Q x]
  omega
theorem N_m {vs : List Int} {Q : Int} (m : Mon vs) (hQ : 1 ≤ Q) (t u : Int) (h : t ≤ u) : N vs Q t ≤ N vs Q u := by
  have hd : t / Q ≤ u / Q := Int.ediv_le_ediv (by omega) h
  by_cases e : t / Q = u / Q
  · unfold N num
    simp only []
    rw [fd hQ, fd hQ, e]
    have a := m (u / Q)
    have : (t - u / Q * Q) * (val vs 1 (u / Q + 1) - val vs 1 (u / Q)) ≤ (u - u / Q * Q) * (val vs 1 (u / Q + 1) - val vs 1 (u / Q)) := Int.mul_le_mul_of_nonneg_right (by omega) (by omega)
    omega
  · have h1 := (N_bet m hQ t).2
    have h2 := (N_bet m hQ u).1
    have h3 : val vs 1 (t / Q + 1) * Q ≤ val vs 1 (u / Q) * Q := Int.mul_le_mul_of_nonneg_right (m.le (by omega)) (by omega)
    omega
theorem deg_N {vs : List Int} (w : Okw vs 1) (m : Mon vs) {Q : Int} (hQ : 1 ≤ Q) : Deg (N vs Q) (vs.length * Q) := by
  have l1 := w.l1
  refine ⟨?_, N_d w hQ, N_m m hQ⟩
  have := Int.mul_pos (show 0 < (vs.length : Int) by omega) (show 0 < Q by omega)
  omega
theorem iti_dot {vs : List Int} {Q : Int} (hQ : 1 ≤ Q) (b : Int) : ∀ i, iti (N vs Q) i (b * Q) = iti (val vs 1) i b * Q
  | 0 => rfl
  | i + 1 => by
    show N vs Q (iti (N vs Q) i (b * Q)) = val vs 1 (iti (val vs 1) i b) * Q
    rw [iti_dot hQ b i, N_dot hQ]
/-! ### points and integers -/
theorem rd_parts (t : Int) {b : Int} (h : 1 ≤ b) : ∃ g : Int, 1 ≤ g ∧ t = (rd t b).1 * g ∧ b = (rd t b).2 * g ∧ 1 ≤ (rd t b).2 := by
  have g0 : Int.gcd t b ≠ 0 := fun e => by
    have := (Int.gcd_eq_zero_iff.mp e).2
    omega
  have hg : 1 ≤ (Int.gcd t b : Int) := by omega
  have d1 : (Int.gcd t b : Int) ∣ t := Int.gcd_dvd_left ..
  have d2 : (Int.gcd t b : Int) ∣ b := Int.gcd_dvd_right ..
  refine ⟨Int.gcd t b, hg, ?_, ?_, ?_⟩
  · show t = t.fdiv _ * _
    rw [fd hg]
    exact (Int.ediv_mul_cancel d1).symm
  · show b = b.fdiv _ * _
    rw [fd hg]
    exact (Int.ediv_mul_cancel d2).symm
  · show 1 ≤ b.fdiv _
    rw [fd hg]
    exact Int.ediv_pos_of_pos_of_dvd (by omega) (by omega) d2
theorem rd_inj {x y b : Int} (h : 1 ≤ b) (e : rd x b = rd y b) : x = y := by
  obtain ⟨g, hg, e1, e2, e3⟩ := rd_parts x h
  obtain ⟨g', hg', e1', e2', e3'⟩ := rd_parts y h
  rw [e] at e1 e2
  have : g = g' := Int.eq_of_mul_eq_mul_left (show (rd y b).2 ≠ 0 by omega) (e2.symm.trans e2')
  exact e1.trans (by rw [this]; exact e1'.symm)
theorem F_rd {vs : List Int} {Q : Int} (hQ : 1 ≤ Q) (t : Int) : F vs 1 (rd t Q) = rd (N vs Q t) Q := by
  obtain ⟨g, hg, e1, e2, e3⟩ := rd_parts t hQ
  generalize rd t Q = p at *
  unfold F N
  have q : num vs 1 (t, Q) = num vs 1 p * g := by
    unfold num
    simp only []
    rw [fd hQ, fd e3]
    have : t / Q = p.1 / p.2 := by
      rw [e1, e2, Int.mul_ediv_mul_of_pos_left _ _ (by omega)]
    rw [this, e1, e2, Int.add_mul, Int.mul_assoc (val vs 1 _), ← Int.mul_assoc (p.1 / p.2), ← Int.sub_mul, Int.mul_right_comm]
  rw [q, e2, rd_scale _ _ _ e3 hg]
theorem it_rd {vs : List Int} {Q : Int} (hQ : 1 ≤ Q) (t : Int) : ∀ i, it (F vs 1) i (rd t Q) = rd (iti (N vs Q) i t) Q
  | 0 => rfl
  | i + 1 => by
    show F vs 1 (it (F vs 1) i (rd t Q)) = _
    rw [it_rd hQ t i, F_rd hQ]
    rfl
/-- so many steps, so many rounds on -/
theorem it_iff {vs : List Int} {p : Int × Int} (h : Good p) (m : Nat) (s : Int) : it (F vs 1) m p = sh vs.length p s ↔ iti (N vs p.2) m p.1 = p.1 + s * (vs.length * p.2) := by
  have e : rd p.1 p.2 = p := rd_self h.b1 h.g
  have e2 : rd (p.1 + s * (vs.length * p.2)) p.2 = sh vs.length p s := by
    unfold sh
    rw [← Int.mul_assoc]
    have := rd_gap p.1 (s * vs.length) h.b1
    rw [e] at this
    exact this
  have e3 := it_rd (vs := vs) h.b1 p.1 m
  rw [e] at e3
  rw [e3, ← e2]
  exact ⟨fun q => rd_inj h.b1 q, fun q => by rw [q]⟩
theorem it_dot {vs : List Int} (m : Nat) (d s : Int) : it (F vs 1) m (d, 1) = sh vs.length (d, 1) s ↔ iti (val vs 1) m d = d + s * vs.length := by
  rw [it_iff (good_one d)]
  have e := iti_dot (vs := vs) (Q := 1) (by decide) d m
  rw [Int.mul_one, Int.mul_one] at e
  show iti (N vs 1) m d = d + s * (vs.length * 1) ↔ _
  rw [e, Int.mul_one]
/-! ### the share -/
structure Sh (vs : List Int) (s : Int) (k : Nat) : Prop where
  k1 : 1 ≤ k
  k2 : k ≤ vs.length
  g : Int.gcd s k = 1
  b : ∃ b, iti (val vs 1) k b = b + s * vs.length
theorem Sh.dots {vs : List Int} {s : Int} {k : Nat} (h : Sh vs s k) (w : Okw vs 1) (m : Mon vs) {n : Nat} {c s' : Int} (hn : 1 ≤ n) (e : iti (val vs 1) n c = c + s' * vs.length) : s' * k = s * n := by
  obtain ⟨b, hb⟩ := h.b
  exact one_share (deg_val w m) h.k1 hn hb e
theorem Sh.all {vs : List Int} {s : Int} {k : Nat} (h : Sh vs s k) (w : Okw vs 1) (m : Mon vs) {p : Int × Int} (hp : Good p) {n : Nat} {s' : Int} (hn : 1 ≤ n) (e : it (F vs 1) n p = sh vs.length p s') : rd s' n = (s, (k : Int)) := by
  have l1 := w.l1
  obtain ⟨b, hb⟩ := h.b
  have hk := h.k1
  have e1 := (it_iff hp n s').mp e
  have e2 := iti_dot (vs := vs) hp.b1 b k
  rw [hb, Int.add_mul, Int.mul_assoc s] at e2
  have q := one_share (deg_N w m hp.b1) hk hn e2 e1
  have r1 : rd (s' * k) (n * k) = rd s' n := rd_scale _ _ _ (by omega) (by omega)
  have r2 : rd (s * n) (k * n) = rd s k := rd_scale _ _ _ (by omega) (by omega)
  rw [← r1, q, Int.mul_comm (n : Int) k, r2]
  exact rd_self (by omega) h.g
theorem Sh.uniq {vs : List Int} {s s' : Int} {k k' : Nat} (h : Sh vs s k) (h' : Sh vs s' k') (w : Okw vs 1) (m : Mon vs) : s = s' ∧ k = k' := by
  obtain ⟨b, hb⟩ := h'.b
  have q := h.dots w m h'.k1 hb
  have := low_eq (a := s) (b := k) (c := s') (d := k') (by have := h.k1; omega) (by have := h'.k1; omega) h.g h'.g q.symm
  exact ⟨this.1, by have := this.2; omega⟩
theorem U_dot {vs : List Int} {d : Int} (i : Nat) : U vs 1 (d, 1) i = ((iti (val vs 1) i d).fmod vs.length, 1) := by
  have e : ∀ i, it (F vs 1) i (d, 1) = (iti (val vs 1) i d, 1) := fun i => by
    induction i with
    | zero => rfl
    | succ i ih =>
      show F vs 1 (it (F vs 1) i (d, 1)) = _
      rw [ih, F_one]
      rfl
  unfold U
  rw [e]
  unfold hm
  simp only [Int.mul_one]
theorem it_one {vs : List Int} {d : Int} : ∀ i, it (F vs 1) i (d, 1) = (iti (val vs 1) i d, 1)
  | 0 => rfl
  | i + 1 => by
    show F vs 1 (it (F vs 1) i (d, 1)) = _
    rw [it_one i, F_one]
    rfl
theorem sh_ex {vs : List Int} (w : Okw vs 1) (m : Mon vs) : ∃ s k, Sh vs s k := by
  have l1 := w.l1
  have D := deg_val w m
  obtain ⟨a, k, R, hk⟩ := U_rho w (good_one 0) (by decide)
  obtain ⟨s, hs⟩ := disp w (good_one 0) R
  have e := hs a (Nat.le_refl a)
  rw [it_one, it_one] at e
  have e1 : iti (val vs 1) (a + k) 0 = iti (val vs 1) a 0 + s * vs.length := by
    have := congrArg Prod.fst e
    unfold sh at this
    simpa using this
  rw [iti_add] at e1
  generalize hb : iti (val vs 1) a 0 = b at e1
  have k1 := R.p1
  -- lowest terms
  have g0 : Int.gcd s k ≠ 0 := fun z => by
    have := (Int.gcd_eq_zero_iff.mp z).2
    omega
  obtain ⟨u, hu⟩ : (Int.gcd s k : Int) ∣ s := Int.gcd_dvd_left ..
  obtain ⟨v, hv⟩ : Int.gcd s k ∣ k := by
    have : (Int.gcd s k : Int) ∣ (k : Int) := Int.gcd_dvd_right ..
    exact Int.natCast_dvd_natCast.mp this
  generalize hd : Int.gcd s k = d at *
  have v1 : 1 ≤ v := by
    rcases Nat.eq_zero_or_pos v with z | z
    · rw [z] at hv; omega
    · exact z
  obtain ⟨d', rfl⟩ : ∃ d', d = d' + 1 := ⟨d - 1, by omega⟩
  have fix : iti (val vs 1) v b - u * vs.length = b := by
    refine mono_fix (h := fun t => iti (val vs 1) v t - u * vs.length) (fun t t' q => by have := iti_m D v q; omega) d' ?_
    have key : ∀ j : Nat, iti (fun t => iti (val vs 1) v t - u * vs.length) j b = iti (val vs 1) (v * j) b - (u * j) * vs.length := fun j => by
      induction j with
      | zero => simp [iti]
      | succ j ih =>
        show iti (val vs 1) v (iti _ j b) - u * vs.length = _
        rw [ih, Nat.mul_succ, iti_add]
        have := iti_d D v (iti (val vs 1) (v * j) b) (-(u * j))
        rw [Int.neg_mul] at this
        rw [show iti (val vs 1) (v * j) b - u * ↑j * (vs.length : Int) = iti (val vs 1) (v * j) b + -(u * ↑j * (vs.length : Int)) from by omega, this, Int.natCast_succ, Int.mul_add u, Int.add_mul (u * j), Int.mul_one]
        omega
    rw [key, Nat.mul_comm v, ← hv, e1, Int.mul_comm u, ← hu]
    omega
  have vk : v = k := by
    refine Classical.byContradiction fun z => ?_
    have lt : v < k := by
      have : v ≤ k := by rw [hv]; exact Nat.le_mul_of_pos_left v (by omega)
      omega
    refine R.ne a (a + v) (by omega) (by omega) ?_
    rw [U_dot, U_dot, iti_add, hb]
    have : iti (val vs 1) v b = b + u * vs.length := by omega
    rw [this, fm (by omega), fm (by omega), Int.add_mul_emod_self_right]
  have d1 : d' + 1 = 1 := by
    rw [vk] at hv
    have : (d' + 1) * k = 1 * k := by omega
    exact Nat.eq_of_mul_eq_mul_right (by omega) this
  refine ⟨s, k, k1, ?_, by rw [hd, d1], b, e1⟩
  -- as many as dots at most
  have := nodup_lt vs.length ((List.range k).map fun i => (U vs 1 (0, 1) (a + i)).1.toNat) (by
    unfold List.Nodup
    rw [List.pairwise_map]
    refine List.Pairwise.imp_of_mem ?_ (List.pairwise_lt_range (n := k))
    intro i j hi hj hij z
    have hi' := List.mem_range.mp hi
    have hj' := List.mem_range.mp hj
    refine R.ne (a + i) (a + j) (by omega) (by omega) ?_
    rw [U_dot, U_dot] at z ⊢
    simp only at z
    have q1 : 0 ≤ (iti (val vs 1) (a + i) 0).fmod vs.length := fm0 (by omega)
    have q2 : 0 ≤ (iti (val vs 1) (a + j) 0).fmod vs.length := fm0 (by omega)
    rw [show (iti (val vs 1) (a + i) 0).fmod vs.length = (iti (val vs 1) (a + j) 0).fmod vs.length from by omega]) (fun x hx => by
    obtain ⟨i, _, rfl⟩ := List.mem_map.mp hx
    rw [U_dot]
    simp only
    have q1 : 0 ≤ (iti (val vs 1) (a + i) 0).fmod vs.length := fm0 (by omega)
    have q2 : (iti (val vs 1) (a + i) 0).fmod vs.length < vs.length := fm1 (by omega)
    omega)
  rw [List.length_map, List.length_range] at this
  exact this
/-- a dot below the number of dots goes so -/
theorem Sh.dot {vs : List Int} {s : Int} {k : Nat} (h : Sh vs s k) (w : Okw vs 1) (m : Mon vs) : ∃ d : Nat, d < vs.length ∧ iti (val vs 1) k d = d + s * vs.length := by
  have l1 := w.l1
  obtain ⟨b, hb⟩ := h.b
  have q1 : 0 ≤ b % (vs.length : Int) := Int.emod_nonneg _ (by omega)
  have q2 : b % (vs.length : Int) < vs.length := Int.emod_lt_of_pos _ (by omega)
  refine ⟨(b % (vs.length : Int)).toNat, by omega, ?_⟩
  have e : (((b % (vs.length : Int)).toNat : Nat) : Int) = b + (-(b / vs.length)) * vs.length := by
    rw [Int.toNat_of_nonneg q1, Int.emod_def, Int.neg_mul, Int.mul_comm (vs.length : Int)]
    omega
  rw [e, iti_d (deg_val w m), hb]
  omega
end KM

set_option maxHeartbeats 1000000
/-! KB: bodies that come in many laws. -/
namespace KM
open PySem FL
/-! ### dictionaries of what was met -/
def kvw (u : Nat → Int × Int) (w : Nat → FL.D) (j : Nat) : List (FL.D × FL.D) := (List.range j).map fun i => (dp (u i), w i)
theorem kvw_succ (u : Nat → Int × Int) (w : Nat → FL.D) (j : Nat) : kvw u w (j + 1) = kvw u w j ++ [(dp (u j), w j)] := by
  unfold kvw
  rw [List.range_succ, List.map_append]
  rfl
theorem kvw_len (u : Nat → Int × Int) (w : Nat → FL.D) (j : Nat) : (kvw u w j).length = j := by unfold kvw; simp
theorem kvw_no {u : Nat → Int × Int} {w : Nat → FL.D} {j : Nat} {x : Int × Int} (h : ∀ i, i < j → u i ≠ x) : dHas (dp x) (kvw u w j) = false := by
  unfold dHas kvw
  rw [List.any_eq_false]
  intro q hq
  obtain ⟨i, hi, rfl⟩ := List.mem_map.mp hq
  rw [dp_eqv]
  simpa using h i (List.mem_range.mp hi)
theorem kvw_yes {u : Nat → Int × Int} {w : Nat → FL.D} {j i : Nat} {x : Int × Int} (h : i < j) (e : u i = x) : dHas (dp x) (kvw u w j) = true := by
  unfold dHas kvw
  rw [List.any_eq_true]
  exact ⟨_, List.mem_map.mpr ⟨i, List.mem_range.mpr h, rfl⟩, by rw [dp_eqv]; simpa using e⟩
theorem kvw_get {u : Nat → Int × Int} {w : Nat → FL.D} {j i : Nat} {x : Int × Int} (h : i < j) (e : u i = x) (hn : ∀ a, a < i → u a ≠ x) : dGet (dp x) (kvw u w j) = some (w i) := by
  have at_ : ∀ a, a < j → (kvw u w j)[a]? = some (dp (u a), w a) := fun a ha => by
    unfold kvw
    rw [List.getElem?_map, List.getElem?_range ha]
    rfl
  refine dGet_at _ i _ _ (at_ i h) (by rw [dp_eqv]; simpa using e) fun a ha z v hz => ?_
  rw [at_ a (by omega)] at hz
  cases hz
  rw [dp_eqv]
  simpa using hn a ha
theorem kvw_put {u : Nat → Int × Int} {w : Nat → FL.D} {j : Nat} (h : dHas (dp (u j)) (kvw u w j) = false) : dPut (dp (u j)) (w j) (kvw u w j) = kvw u w (j + 1) := by
  unfold dPut
  rw [h, kvw_succ]
  rfl
/-! ### two fractions put together -/
def opB (g : Nat) (o : Op) : Ts := .cons (.ret (.call g (.cons (.op o (.op .mul (.ix (.v 0) (.c (.int 0))) (.ix (.v 1) (.c (.int 1)))) (.op .mul (.ix (.v 1) (.c (.int 0))) (.ix (.v 0) (.c (.int 1))))) (.cons (.op .mul (.ix (.v 0) (.c (.int 1))) (.ix (.v 1) (.c (.int 1)))) .nil)))) .nil
theorem g_op {C : Calls} {g : Nat} {o : Op} {f : Int → Int → Int} (ho : ∀ i j, binop o (.int i) (.int j) = some (.d (.int (f i j)))) {a b r : Int × Int} (ha : 1 ≤ a.2) (ha2 : a.2 ≤ 1000) (hb : 1 ≤ b.2) (hb2 : b.2 ≤ 1000)
    (q : C g none [.int (f (a.1 * b.2) (b.1 * a.2)), .int (a.2 * b.2)] = .ok (.d (dp r)) none) : exs C 0 (opB g o) (FL.start 2 none [dp a, dp b]) = .ok (.rt (.d (dp r))) [some (.d (dp a)), some (.d (dp b))] := by
  have m1 : okMul a.1 b.2 = true := okMul_r (by omega) (by omega)
  have m2 : okMul b.1 a.2 = true := okMul_r (by omega) (by omega)
  have m3 : okMul a.2 b.2 = true := okMul_r (by omega) (by omega)
  have i0 : ∀ s : S, ev C 0 (.ix (.v 0) (.c (.int 0))) (some (.d (dp a)) :: s) = .ok (.d (.int a.1)) (some (.d (dp a)) :: s) := fun _ => rfl
  have i1 : ∀ s : S, ev C 0 (.ix (.v 0) (.c (.int 1))) (some (.d (dp a)) :: s) = .ok (.d (.int a.2)) (some (.d (dp a)) :: s) := fun _ => rfl
  have j0 : ∀ (x : Option SV) (s : S), ev C 0 (.ix (.v 1) (.c (.int 0))) (x :: some (.d (dp b)) :: s) = .ok (.d (.int b.1)) (x :: some (.d (dp b)) :: s) := fun _ _ => rfl
  have j1 : ∀ (x : Option SV) (s : S), ev C 0 (.ix (.v 1) (.c (.int 1))) (x :: some (.d (dp b)) :: s) = .ok (.d (.int b.2)) (x :: some (.d (dp b)) :: s) := fun _ _ => rfl
  refine exs_rt (ex_ret (ev_call (evs_cons (ev_i (ev_i (i0 _) (j1 _ _) (mulOk m1)) (ev_i (j0 _ _) (i1 _) (mulOk m2)) (ho _ _)) (by rfl) (evs_cons (ev_i (i1 _) (j1 _ _) (mulOk m3)) (by rfl) evs_nil)) q) (by rfl))
theorem low_pos {a b : Int × Int} (ha : 1 ≤ a.2) (ha2 : a.2 ≤ 1000) (hb : 1 ≤ b.2) (hb2 : b.2 ≤ 1000) : 1 ≤ a.2 * b.2 ∧ a.2 * b.2 ≤ 1000000 := by
  have m := Int.mul_pos (show 0 < a.2 by omega) (show 0 < b.2 by omega)
  have m2 : a.2 * b.2 ≤ 1000 * 1000 := Int.mul_le_mul ha2 hb2 (by omega) (by decide)
  omega
/-- a point and whole rounds -/
theorem add_rounds {n : Nat} {p : Int × Int} (h : Good p) (s : Int) : rd (p.1 * 1 + s * n * p.2) (p.2 * 1) = sh n p s := by
  rw [Int.mul_one, Int.mul_one]
  have := rd_gap p.1 (s * n) h.b1
  rw [rd_self h.b1 h.g] at this
  exact this
theorem add_none {p : Int × Int} (h : Good p) : rd (p.1 * 1 + 0 * p.2) (p.2 * 1) = p := by
  rw [Int.mul_one, Int.mul_one, Int.zero_mul, Int.add_zero]
  exact rd_self h.b1 h.g
/-- does a point go k steps just s rounds on -/
def go (vs : List Int) (s : Int) (k : Nat) (p : Int × Int) : Bool := decide (it (F vs 1) k p = sh vs.length p s)
theorem cmp_dp (a b : Int × Int) : cmp .eq (dp a) (dp b) = some (decide (a = b)) := by
  show (if okDeep (dp a) && okDeep (dp b) then some (D.eqv (dp a) (dp b)) else none) = _
  have d1 : okDeep (dp a) = true := rfl
  have d2 : okDeep (dp b) = true := rfl
  rw [d1, d2, dp_eqv]
  rfl
theorem cmp_dpN (a b : Int × Int) : cmp .ne (dp a) (dp b) = some (!decide (a = b)) := by
  show (if okDeep (dp a) && okDeep (dp b) then some (!(D.eqv (dp a) (dp b))) else none) = _
  have d1 : okDeep (dp a) = true := rfl
  have d2 : okDeep (dp b) = true := rfl
  rw [d1, d2, dp_eqv]
  rfl
def goD (vs : List Int) (s : Int) (k : Nat) : FL.D → Bool
  | .int i => go vs s k (i, 1)
  | _ => false
def goL (vs : List Int) (s : Int) (k : Nat) : List FL.D := (rangeD 0 vs.length).filter (goD vs s k)
theorem goL_mem {vs : List Int} {s : Int} {k : Nat} {d : FL.D} (h : d ∈ goL vs s k) : ∃ i : Nat, i < vs.length ∧ d = .int i := by
  unfold goL rangeD at h
  have h1 := (List.mem_filter.mp h).1
  obtain ⟨i, hi, rfl⟩ := List.mem_map.mp h1
  exact ⟨i, List.mem_range.mp hi, by rw [Int.zero_add]⟩
theorem goL_head {vs : List Int} {s : Int} {k : Nat} (h : Sh vs s k) (w : Okw vs 1) (m : Mon vs) : ∃ (d0 : Nat) (r : List FL.D), d0 < vs.length ∧ goL vs s k = .int d0 :: r ∧ go vs s k ((d0 : Int), 1) = true := by
  obtain ⟨d, hd, e⟩ := h.dot w m
  have hm : FL.D.int (d : Int) ∈ goL vs s k := by
    unfold goL rangeD
    refine List.mem_filter.mpr ⟨List.mem_map.mpr ⟨d, List.mem_range.mpr hd, by rw [Int.zero_add]⟩, ?_⟩
    show go vs s k ((d : Int), 1) = true
    unfold go
    rw [decide_eq_true_eq]
    exact (it_dot k d s).mpr e
  cases hl : goL vs s k with
  | nil => rw [hl] at hm; cases hm
  | cons x r =>
    have hx : x ∈ goL vs s k := by rw [hl]; exact List.mem_cons_self
    obtain ⟨i, hi, rfl⟩ := goL_mem hx
    refine ⟨i, r, hi, rfl, ?_⟩
    unfold goL at hx
    exact (List.mem_filter.mp hx).2
theorem item0 {x : FL.D} {r : List FL.D} : itemD (.lst (x :: r)) (.int 0) = some (.d x) := by
  show (ixAt (x :: r) 0).map AV.d = _
  unfold ixAt ixN
  rw [if_pos (by decide), if_pos (by simp)]
  rfl
theorem F_one_dp {vs : List Int} (d : Int) : F vs 1 (d, 1) = (val vs 1 d, 1) := F_one
/-- how far a dot goes -/
theorem val_near {vs : List Int} (w : Okw vs 1) (d : Int) : -68 ≤ val vs 1 d - d ∧ val vs 1 d - d ≤ 68 := by
  have l1 := w.l1
  have l2 := w.l2
  have q0 : 0 ≤ d.fmod vs.length := fm0 (by omega)
  have q1 : d.fmod vs.length < vs.length := fm1 (by omega)
  have e : d = vs.length * d.fdiv vs.length + d.fmod vs.length := by rw [Int.fmod_def]; omega
  have hl : (d.fmod vs.length).toNat < vs.length := by omega
  have hv := w.v (vs.getD (d.fmod vs.length).toNat 0) (by
    rw [List.getD_eq_getElem?_getD, List.getElem?_eq_getElem hl]
    exact List.getElem_mem hl)
  unfold val
  rw [Int.mul_one]
  omega
theorem iti_near {vs : List Int} (w : Okw vs 1) (d : Int) : ∀ k : Nat, -(68 * k : Int) ≤ iti (val vs 1) k d - d ∧ iti (val vs 1) k d - d ≤ 68 * k
  | 0 => by simp [iti]
  | k + 1 => by
    have h1 := iti_near w d k
    have h2 := val_near w (iti (val vs 1) k d)
    show _ ≤ val vs 1 (iti (val vs 1) k d) - d ∧ val vs 1 (iti (val vs 1) k d) - d ≤ _
    omega
theorem Sh.near {vs : List Int} {s : Int} {k : Nat} (h : Sh vs s k) (w : Okw vs 1) : -600 ≤ s ∧ s ≤ 600 := by
  obtain ⟨b, hb⟩ := h.b
  have l1 := w.l1
  have l2 := w.l2
  have k2 := h.k2
  have q := iti_near w b k
  have e : iti (val vs 1) k b - b = s * vs.length := by omega
  rw [e] at q
  rcases Int.lt_or_le s 0 with z | z
  · have : s * (vs.length : Int) ≤ s * 1 := Int.mul_le_mul_of_nonpos_left (by omega) (by omega)
    omega
  · have : s * 1 ≤ s * (vs.length : Int) := Int.mul_le_mul_of_nonneg_left (by omega) z
    omega
/-- all([.. for ..]) -/
theorem ev_all {C : Calls} {lk : Nat} {vs : List Nat} {tg : Tg} {it : I} {el : E} {Z Z1 : S} {ds : List FL.D} (c : FL.D → Bool) (hit : evi C lk it Z = .ok ds Z1) (h0 : (noOwn vs Z1 && !(vs.any fun i => lk.testBit i)) = true) (hl : ds.length ≤ lim)
    (h : ∀ d ∈ ds, ∃ z z', bindTg lk tg d (wipeS vs Z1) = some z ∧ ev C lk el z = .ok (.d (.bl (c d))) z' ∧ wipeS vs z' = wipeS vs Z1) : ev C lk (.bi .all (.cons (.lc vs tg it .none el) .nil)) Z = .ok (.d (.bl (ds.all c))) Z1 := by
  have L := lcRun_map (lk := lk) (vs := vs) (tg := tg) (tst := fun z => evc C lk .none z) (el := fun z => ev C lk el z) (f := fun d => .bl (c d)) (ds := ds) (s := Z1) h0 hl (fun d hd => by
    obtain ⟨z, z', e1, e2, e3⟩ := h d hd
    refine ⟨z', ?_, e3⟩
    unfold lcTurn
    rw [e1]
    simp only [evc, Out.bind, if_true]
    rw [e2]
    rfl)
  have e := ev_lc hit L
  have key : ∀ ds : List FL.D, allB (ds.map fun d => FL.D.bl (c d)) = some (ds.map c) := fun ds => by
    induction ds with
    | nil => rfl
    | cons d r ih =>
      rw [List.map_cons]
      unfold allB
      rw [ih]
      rfl
  refine ev_bi (xs := [.d (.lst (ds.map fun d => FL.D.bl (c d)))]) (ds := [.lst (ds.map fun d => FL.D.bl (c d))]) (by simp only [evv, e, Out.bind, pend]) (by rfl) ?_
  show (match allB (ds.map fun d => FL.D.bl (c d)) with | some bs => some (AV.d (.bl (bs.all id))) | none => none) = _
  rw [key]
  simp [List.all_map]
def rsD (vs : List Int) (dg : Int) : FL.D → FL.D
  | .int d => .int (val vs dg (d + 1) - val vs dg d)
  | d => d
def rises (vs : List Int) (dg : Int) : List FL.D := (rangeD 0 vs.length).map (rsD vs dg)
def risI (vs : List Int) : FL.D → Bool
  | .int d => decide (val vs 1 d ≤ val vs 1 (d + 1))
  | _ => false
def risB (vs : List Int) : Bool := (rangeD 0 vs.length).all (risI vs)
theorem Mon.ris {vs : List Int} (m : Mon vs) : risB vs = true := by
  unfold risB
  rw [List.all_eq_true]
  intro d hd
  obtain ⟨i, rfl⟩ := rng_int hd
  exact decide_eq_true (m i)
def isFr : FL.D → Bool
  | .tup [.int t, .int b] => decide (1 ≤ b) && decide (Int.gcd t b = 1)
  | _ => false
theorem isFr_inv {x : FL.D} (h : isFr x = true) : ∃ p : Int × Int, x = dp p ∧ 1 ≤ p.2 ∧ Int.gcd p.1 p.2 = 1 := by
  unfold isFr at h
  split at h
  · rename_i t b
    rw [Bool.and_eq_true, decide_eq_true_eq, decide_eq_true_eq] at h
    exact ⟨(t, b), rfl, h.1, h.2⟩
  · cases h
theorem isFr_dp {p : Int × Int} (h : 1 ≤ p.2) (g : Int.gcd p.1 p.2 = 1) : isFr (dp p) = true := by
  show (decide (1 ≤ p.2) && decide (Int.gcd p.1 p.2 = 1)) = true
  rw [decide_eq_true h, decide_eq_true g]
  rfl
/-- is it the share and a point that goes so -/
def shB (vs : List Int) (s : Int) (n : Nat) : FL.D → Bool
  | .tup [x, y] => isFr x && isFr y && D.eqv (dp (s, (n : Int))) x && (match y with
    | .tup [.int t, .int q] => go vs s n (t, q)
    | _ => false)
  | _ => false
theorem shB_len {vs : List Int} {s : Int} {n : Nat} {ds : List FL.D} (h : ds.length ≠ 2) : shB vs s n (.tup ds) = false := by
  match ds, h with
  | [], _ => rfl
  | [x], _ => rfl
  | [x, y], h => exact absurd rfl h
  | x :: y :: z :: r, _ => rfl
def sfD (vs : List Int) (s : Int) : FL.D → FL.D
  | .int d => .int (val vs 1 (d + s) - s)
  | d => d
def seenL (vs : List Int) (s : Int) : List Int := (List.range vs.length).map fun (i : Nat) => val vs 1 ((i : Int) + s) - s
theorem seen_map (vs : List Int) (s : Int) : (rangeD 0 vs.length).map (sfD vs s) = zs (seenL vs s) := by
  unfold rangeD zs seenL
  rw [List.map_map, List.map_map]
  refine List.map_congr_left fun i _ => ?_
  show FL.D.int (val vs 1 (0 + (i : Int) + s) - s) = _
  rw [Int.zero_add]
  rfl
theorem seen_len (vs : List Int) (s : Int) : (seenL vs s).length = vs.length := by unfold seenL; simp
theorem seen_val {vs : List Int} (w : Okw vs 1) (s d : Int) : val (seenL vs s) 1 d = val vs 1 (d + s) - s := by
  have l1 := w.l1
  have hm : 1 ≤ (vs.length : Int) := by omega
  conv => lhs; unfold val
  rw [seen_len]
  have h0 : 0 ≤ d.fmod vs.length := fm0 hm
  have h1 : d.fmod vs.length < vs.length := fm1 hm
  have hl : (d.fmod vs.length).toNat < vs.length := by omega
  unfold seenL
  rw [List.getD_eq_getElem?_getD, List.getElem?_map, List.getElem?_range hl]
  simp only [Option.map, Option.getD]
  rw [Int.toNat_of_nonneg h0, Int.mul_one]
  have e : d + s = (d.fmod vs.length + s) + d.fdiv vs.length * vs.length := by
    have : d = vs.length * d.fdiv vs.length + d.fmod vs.length := by rw [Int.fmod_def]; omega
    rw [Int.mul_comm] at this
    omega
  rw [e, val_gap w, Int.one_mul, Int.mul_comm (vs.length : Int)]
  omega
theorem seen_iti {vs : List Int} (w : Okw vs 1) (s d : Int) : ∀ i, iti (val (seenL vs s) 1) i d = iti (val vs 1) i (d + s) - s
  | 0 => by simp [iti]
  | i + 1 => by
    show val (seenL vs s) 1 (iti (val (seenL vs s) 1) i d) = val vs 1 (iti (val vs 1) i (d + s)) - s
    rw [seen_iti w s d i, seen_val w]
    rw [show iti (val vs 1) i (d + s) - s + s = iti (val vs 1) i (d + s) from by omega]
theorem seen_mon {vs : List Int} (w : Okw vs 1) (m : Mon vs) (s : Int) : Mon (seenL vs s) := fun d => by
  rw [seen_val w, seen_val w]
  have := m (d + s)
  rw [show d + 1 + s = d + s + 1 from by omega]
  omega
theorem seen_sh {vs : List Int} (w : Okw vs 1) {s0 s : Int} {k : Nat} (h : Sh vs s k) : Sh (seenL vs s0) s k := by
  obtain ⟨b, hb⟩ := h.b
  refine ⟨h.k1, by rw [seen_len]; exact h.k2, h.g, b - s0, ?_⟩
  rw [seen_iti w, show b - s0 + s0 = b from by omega, hb, seen_len]
  omega
theorem up_mon {vs : List Int} (w : Okw vs 1) (m : Mon vs) : Mon (up vs) := fun d => by
  rw [up_val w, up_val w]
  have := m d
  omega
theorem up_sh {vs : List Int} (w : Okw vs 1) (m : Mon vs) {s : Int} {k : Nat} (h : Sh vs s k) : Sh (up vs) (s + k) k := by
  obtain ⟨b, hb⟩ := h.b
  have e : ∀ i : Nat, iti (val (up vs) 1) i b = iti (val vs 1) i b + i * vs.length := fun i => by
    induction i with
    | zero => simp [iti]
    | succ i ih =>
      show val (up vs) 1 (iti (val (up vs) 1) i b) = val vs 1 (iti (val vs 1) i b) + _
      rw [ih, up_val w, val_gap w, Int.one_mul, Int.natCast_succ, Int.add_mul, Int.one_mul]
      omega
  refine ⟨h.k1, by rw [up_len]; exact h.k2, ?_, b, ?_⟩
  · have e : Int.gcd (s + 1 * k) k = Int.gcd s k := Int.gcd_add_mul_right_left ..
    rw [Int.one_mul] at e
    rw [e]
    exact h.g
  · rw [e, hb, up_len, Int.add_mul]
    omega
theorem getD_mem {vs : List Int} {j : Nat} (h : j < vs.length) : vs.getD j 0 ∈ vs := by
  rw [List.getD_eq_getElem?_getD, List.getElem?_eq_getElem h]
  exact List.getElem_mem h
theorem mon_of {vs : List Int} (l1 : 1 ≤ vs.length) (h : ∀ j, j + 1 < vs.length → vs.getD j 0 ≤ vs.getD (j + 1) 0) (hw : vs.getD (vs.length - 1) 0 ≤ vs.getD 0 0 + vs.length) : Mon vs := by
  intro d
  have hm : 1 ≤ (vs.length : Int) := by omega
  have h0 : 0 ≤ d.fmod vs.length := fm0 hm
  have h1 : d.fmod vs.length < vs.length := fm1 hm
  have e : d = vs.length * d.fdiv vs.length + d.fmod vs.length := by rw [Int.fmod_def]; omega
  by_cases q : d.fmod vs.length + 1 < vs.length
  · have e1 : (d + 1).fmod vs.length = d.fmod vs.length + 1 := by
      rw [fm hm, fm hm]
      rw [fm hm] at q h0
      rw [Int.add_emod, Int.emod_eq_of_lt (a := 1) (by omega) (by omega)]
      exact Int.emod_eq_of_lt (by omega) q
    have e2 : (d + 1).fdiv vs.length = d.fdiv vs.length := by
      have := Int.fmod_def (d + 1) vs.length
      rw [e1] at this
      have k : (vs.length : Int) * (d + 1).fdiv vs.length = vs.length * d.fdiv vs.length := by omega
      exact Int.eq_of_mul_eq_mul_left (by omega) k
    unfold val
    rw [e1, e2]
    have a := h (d.fmod vs.length).toNat (by omega)
    rw [show (d.fmod (vs.length : Int) + 1).toNat = (d.fmod vs.length).toNat + 1 from by omega]
    omega
  · have ef : d.fmod vs.length = vs.length - 1 := by omega
    have e0 : d + 1 = (d.fdiv vs.length + 1) * vs.length := by rw [Int.add_mul, Int.mul_comm (d.fdiv _)]; omega
    have e1 : (d + 1).fmod vs.length = 0 := by rw [e0, fm hm, Int.mul_emod_left]
    have e2 : (d + 1).fdiv vs.length = d.fdiv vs.length + 1 := by rw [e0, fd hm, Int.mul_ediv_cancel _ (by omega)]
    unfold val
    rw [e1, e2, ef, Int.mul_one, Int.mul_add, Int.mul_one]
    rw [show ((vs.length : Int) - 1).toNat = vs.length - 1 from by omega, show (0 : Int).toNat = 0 from rfl]
    omega
/-- rising numbers, from 0 on, so much left -/
structure Ris (n left : Int) (l : List Int) : Prop where
  l1 : 1 ≤ l.length
  z : l.getD 0 0 = 0
  m : ∀ j, j + 1 < l.length → l.getD j 0 ≤ l.getD (j + 1) 0
  e : l.getD (l.length - 1) 0 = n - left
  p : 0 ≤ left
theorem Ris.lo {n left : Int} {l : List Int} (h : Ris n left l) : ∀ j, j < l.length → 0 ≤ l.getD j 0
  | 0, _ => by rw [h.z]; exact Int.le_refl 0
  | j + 1, hj => Int.le_trans (h.lo j (by omega)) (h.m j hj)
theorem Ris.hi {n left : Int} {l : List Int} (h : Ris n left l) : ∀ i j, j + i = l.length - 1 → l.getD j 0 ≤ n
  | 0, j, e => by
    have := h.e
    have := h.p
    rw [show j = l.length - 1 from by omega]
    omega
  | i + 1, j, e => Int.le_trans (h.m j (by have := h.l1; omega)) (h.hi i (j + 1) (by omega))
theorem Ris.mem {n left : Int} {l : List Int} (h : Ris n left l) {x : Int} (hx : x ∈ l) : 0 ≤ x ∧ x ≤ n := by
  obtain ⟨j, hj, e⟩ := List.mem_iff_getElem.mp hx
  have q : l.getD j 0 = x := by rw [List.getD_eq_getElem?_getD, List.getElem?_eq_getElem hj]; exact e
  have h1 := h.lo j hj
  have h2 := h.hi (l.length - 1 - j) j (by omega)
  omega
theorem getD_app {l : List Int} {x : Int} {j : Nat} : (l ++ [x]).getD j 0 = if j < l.length then l.getD j 0 else if j = l.length then x else 0 := by
  rw [List.getD_eq_getElem?_getD, List.getD_eq_getElem?_getD]
  by_cases h : j < l.length
  · rw [if_pos h, List.getElem?_append_left h]
  · rw [if_neg h, List.getElem?_append_right (by omega)]
    by_cases e : j = l.length
    · subst e; simp
    · rw [if_neg e, List.getElem?_eq_none (by simp; omega)]
      rfl
theorem Ris.add {n left : Int} {l : List Int} (h : Ris n left l) {s : Int} (s0 : 0 ≤ s) (s1 : s ≤ left) : Ris n (left - s) (l ++ [l.getD (l.length - 1) 0 + s]) := by
  have l1 := h.l1
  have he := h.e
  refine ⟨by rw [List.length_append]; simp, ?_, fun j hj => ?_, ?_, by omega⟩
  · rw [getD_app, if_pos (by omega)]
    exact h.z
  · rw [List.length_append, List.length_singleton] at hj
    rw [getD_app, getD_app, if_pos (by omega)]
    by_cases q : j + 1 < l.length
    · rw [if_pos q]
      exact h.m j q
    · rw [if_neg q, if_pos (by omega), show l.length - 1 = j from by omega]
      omega
  · rw [List.length_append, List.length_singleton, getD_app, if_neg (by omega), if_pos (by omega)]
    omega
theorem Ris.ring {n : Nat} {left : Int} {l : List Int} (h : Ris n left l) (hl : l.length = n) (n1 : 2 ≤ n) (n2 : n ≤ 6) {b : Int} (b1 : -(n : Int) ≤ b) (b2 : b ≤ n) : Okw (l.map fun z => z + b) 1 ∧ Mon (l.map fun z => z + b) ∧ ∀ z ∈ l.map (fun z => z + b), -6 ≤ z ∧ z ≤ 12 := by
  have hz : ∀ z ∈ l.map (fun z => z + b), -6 ≤ z ∧ z ≤ 12 := fun z hz => by
    obtain ⟨x, hx, rfl⟩ := List.mem_map.mp hz
    have := h.mem hx
    omega
  have gm : ∀ j, j < l.length → (l.map fun z => z + b).getD j 0 = l.getD j 0 + b := fun j hj => by
    rw [List.getD_eq_getElem?_getD, List.getD_eq_getElem?_getD, List.getElem?_map, List.getElem?_eq_getElem hj]
    rfl
  refine ⟨⟨by rw [List.length_map]; omega, by rw [List.length_map]; omega, fun z q => by have := hz z q; omega, by decide, by decide⟩, mon_of (by rw [List.length_map]; omega) (fun j hj => ?_) ?_, hz⟩
  · rw [List.length_map] at hj
    rw [gm j (by omega), gm (j + 1) hj]
    have := h.m j hj
    omega
  · rw [List.length_map, gm _ (by omega), gm 0 (by omega), h.e, h.z]
    have := h.p
    omega
theorem str_eq (x : Str) : cmp .eq (.str x) (.str x) = some true := by
  show (if okDeep (.str x) && okDeep (.str x) then some (D.eqv (.str x) (.str x)) else none) = _
  have h1 : okDeep (.str x) = true := rfl
  rw [h1]
  show some (x == x) = _
  rw [beq_self_eq_true]
theorem str_ne (x : Str) : cmp .ne (.str x) (.str x) = some false := by
  show (if okDeep (.str x) && okDeep (.str x) then some (!(D.eqv (.str x) (.str x))) else none) = _
  have h1 : okDeep (.str x) = true := rfl
  rw [h1]
  show some (!(x == x)) = _
  rw [beq_self_eq_true]
  rfl
theorem rep_int {i : Int} (h : i.natAbs < 2 ^ 200) : repOk (.int i) = true := by
  have e : repOk (.int i) = decide (i.natAbs < 2 ^ 200) := by
    show (decide (i.natAbs < 2 ^ 200) && decide ((0 : Nat) ≤ 60) && decide ((201 : Nat) ≤ 70000)) = _
    simp
  rw [e, decide_eq_true h]
theorem ev_repr {C : Calls} {lk : Nat} {e : E} {s s1 : S} {x : AV} {d : FL.D} (h : ev C lk e s = .ok x s1) (h2 : view (pend x) s1 = some d) (hr : repOk d = true) : ev C lk (.bi .repr (.cons e .nil)) s = .ok (.d (.str (reprD d))) s1 :=
  ev_b1 h h2 (by show (if repOk d = true then some (AV.d (.str (reprD d))) else none) = _; rw [if_pos hr])
mutual
def samD : FL.D → Bool
  | .int i => decide (i.natAbs < 2 ^ 200)
  | .bl _ => true
  | .tup ds => samDs ds && decide (ds.length ≤ 1000)
  | .lst ds => samDs ds && decide (ds.length ≤ 1000)
  | _ => false
def samDs : List FL.D → Bool
  | [] => true
  | d :: r => samD d && samDs r
end
theorem sam_mem : ∀ {ds : List FL.D}, samDs ds = true → ∀ d ∈ ds, samD d = true
  | [], _, d, h => by cases h
  | x :: r, h, d, hd => by
    unfold samDs at h
    rw [Bool.and_eq_true] at h
    rcases List.mem_cons.mp hd with e | e
    · rw [e]; exact h.1
    · exact sam_mem h.2 d e
end KM

set_option maxHeartbeats 1000000
/-! KQ: fractions as rational numbers; ways along loops of bars. -/
namespace KM
open PySem FL
theorem q_nd (x : Rat) : (x.num : Rat) / ((x.den : Int) : Rat) = x := by
  have := Rat.mkRat_self x
  rw [Rat.mkRat_eq_div] at this
  rw [Rat.intCast_natCast]
  exact this
def pr (x : Rat) : Int × Int := (x.num, (x.den : Int))
def dq (x : Rat) : FL.D := dp (pr x)
theorem pr_pos (x : Rat) : 1 ≤ (pr x).2 := by
  have := x.den_nz
  show (1 : Int) ≤ (x.den : Int)
  omega
theorem pr_gcd (x : Rat) : Int.gcd (pr x).1 (pr x).2 = 1 := x.reduced
theorem pr_inj {x y : Rat} (h : pr x = pr y) : x = y := by
  have h1 := congrArg Prod.fst h
  have h2 := congrArg Prod.snd h
  have h3 : (x.den : Int) = (y.den : Int) := h2
  exact Rat.ext h1 (by omega)
theorem pr_iff {x y : Rat} : pr x = pr y ↔ x = y := ⟨pr_inj, fun h => by rw [h]⟩
theorem pr_int (i : Int) : pr (i : Rat) = (i, 1) := by
  unfold pr
  rw [Rat.num_intCast, Rat.den_intCast]
  rfl
theorem q_ne {b : Int} (h : b ≠ 0) : (b : Rat) ≠ 0 := fun z => h (by
  have : (b : Rat) = ((0 : Int) : Rat) := z
  exact Rat.intCast_inj.mp this)
theorem den_ne (x : Rat) : ((x.den : Int) : Rat) ≠ 0 := q_ne (by have := x.den_nz; omega)
theorem rd_pr (t : Int) {b : Int} (h : 1 ≤ b) : rd t b = pr ((t : Rat) / (b : Rat)) := by
  obtain ⟨g, hg, e1, e2, e3⟩ := rd_parts t h
  have hb : (b : Rat) ≠ 0 := q_ne (by omega)
  generalize hx : (t : Rat) / (b : Rat) = x
  have c : x.num * b = t * x.den := by
    have e := q_nd x
    rw [← hx] at e
    have d := den_ne x
    rw [← hx] at d
    rw [hx] at e d
    have k : (x.num : Rat) * b = t * ((x.den : Int) : Rat) := by
      have e' : (x.num : Rat) / ((x.den : Int) : Rat) = (t : Rat) / b := e.trans hx.symm
      grind
    rw [← Rat.intCast_mul, ← Rat.intCast_mul] at k
    exact Rat.intCast_inj.mp k
  have g1 : Int.gcd (rd t b).1 (rd t b).2 = 1 := by
    have g0 : Int.gcd t b ≠ 0 := fun z => by
      have := (Int.gcd_eq_zero_iff.mp z).2
      omega
    have e4 : (rd t b).1 = t / (Int.gcd t b) := fd (by omega)
    have e5 : (rd t b).2 = b / (Int.gcd t b) := fd (by omega)
    rw [e4, e5]
    exact Int.gcd_ediv_gcd_ediv_gcd_of_ne_zero_right (by omega)
  have c2 : (rd t b).1 * x.den = x.num * (rd t b).2 := by
    have : (rd t b).1 * x.den * g = x.num * (rd t b).2 * g := by
      rw [Int.mul_right_comm, ← e1, Int.mul_assoc x.num, ← e2, c]
    exact Int.eq_of_mul_eq_mul_right (by omega) this
  obtain ⟨h1, h2⟩ := low_eq e3 (pr_pos x) g1 (pr_gcd x) c2
  exact Prod.ext h1 h2
/-- a fraction, its bottom of any sign -/
def fr (t b : Int) : Int × Int := pr ((t : Rat) / (b : Rat))
theorem fr_neg (t : Int) {b : Int} (h : b < 0) : rd (-t) (-b) = fr t b := by
  rw [rd_pr _ (by omega)]
  unfold fr
  congr 1
  rw [Rat.intCast_neg, Rat.intCast_neg]
  have : (b : Rat) ≠ 0 := q_ne (by omega)
  grind
theorem gcd_neg' (t b : Int) : Int.gcd (-t) (-b) = Int.gcd t b := by rw [Int.gcd_neg, Int.neg_gcd]
theorem gcd_dv (t b : Int) (h : b ≠ 0) : 1 ≤ (Int.gcd t b : Int) ∧ (Int.gcd t b : Int) ∣ t ∧ (Int.gcd t b : Int) ∣ b := by
  have g0 : Int.gcd t b ≠ 0 := fun z => h (Int.gcd_eq_zero_iff.mp z).2
  exact ⟨by omega, Int.gcd_dvd_left .., Int.gcd_dvd_right ..⟩
theorem fdiv_negg {t g : Int} (hg : 1 ≤ g) (d : g ∣ t) : t.fdiv (-g) = (-t).fdiv g := by
  obtain ⟨c, rfl⟩ := d
  rw [fd hg, ← Int.mul_neg, Int.mul_ediv_cancel_left _ (by omega)]
  have : g * c = (-c) * (-g) := by rw [Int.neg_mul_neg, Int.mul_comm]
  rw [this, Int.mul_fdiv_cancel _ (by omega)]
theorem fr_pos (t : Int) {b : Int} (h : 1 ≤ b) : rd t b = fr t b := rd_pr t h
theorem okDiv_q {j : Int} (h : j ≠ 0) (h2 : j.natAbs < 2 ^ 200) : okDiv j = true := by
  have h4 : (2 : Nat) ^ 200 ≤ 2 ^ 9000 := Nat.pow_le_pow_right (by decide) (by decide)
  unfold okDiv
  rw [Bool.or_eq_true]
  right
  rw [Bool.and_eq_true, decide_eq_true_eq, decide_eq_true_eq]
  exact ⟨h, Nat.lt_of_lt_of_le h2 h4⟩
theorem okDiv_gcd {t b : Int} (h : b ≠ 0) (h2 : b.natAbs < 2 ^ 200) : okDiv (Int.gcd t b) = true ∧ okDiv (-(Int.gcd t b : Int)) = true := by
  obtain ⟨g1, _, _⟩ := gcd_dv t b h
  have hl : Int.gcd t b ∣ b.natAbs := Int.gcd_dvd_natAbs_right ..
  have h3 := Nat.le_of_dvd (by omega) hl
  have e : (Int.gcd t b : Int).natAbs = Int.gcd t b := rfl
  exact ⟨okDiv_q (by omega) (by rw [e]; omega), okDiv_q (by omega) (by rw [Int.natAbs_neg, e]; omega)⟩
/-! ### bounds -/
/-- a fraction whose bottom divides Q -/
def Dn (Q : Int) (x : Rat) : Prop := ∃ l : Int, x * (Q : Rat) = (l : Rat)
theorem Dn.den {Q : Int} (h : 1 ≤ Q) {x : Rat} (d : Dn Q x) : (x.den : Int) ≤ Q := by
  obtain ⟨l, e⟩ := d
  have hQ : (Q : Rat) ≠ 0 := q_ne (by omega)
  have : x = (l : Rat) / (Q : Rat) := by grind
  have k := rd_pr l h
  rw [← this] at k
  obtain ⟨g, hg, e1, e2, e3⟩ := rd_parts l h
  rw [k] at e2
  have e4 : (pr x).2 = (x.den : Int) := rfl
  rw [e4] at e2
  have : (x.den : Int) * 1 ≤ (x.den : Int) * g := Int.mul_le_mul_of_nonneg_left hg (by omega)
  omega
theorem Dn.int (Q i : Int) : Dn Q (i : Rat) := ⟨i * Q, by rw [Rat.intCast_mul]⟩
theorem Dn.add {Q : Int} {x y : Rat} (a : Dn Q x) (b : Dn Q y) : Dn Q (x + y) := by
  obtain ⟨l, e⟩ := a
  obtain ⟨m, f⟩ := b
  exact ⟨l + m, by rw [Rat.intCast_add, ← e, ← f]; grind⟩
theorem Dn.sub {Q : Int} {x y : Rat} (a : Dn Q x) (b : Dn Q y) : Dn Q (x - y) := by
  obtain ⟨l, e⟩ := a
  obtain ⟨m, f⟩ := b
  exact ⟨l - m, by rw [Rat.intCast_sub, ← e, ← f]; grind⟩
theorem Dn.mul {Q : Int} {x : Rat} (a : Dn Q x) (s : Int) : Dn Q ((s : Rat) * x) := by
  obtain ⟨l, e⟩ := a
  exact ⟨s * l, by rw [Rat.intCast_mul, ← e]; grind⟩
theorem Dn.div {Q : Int} {x : Rat} (a : Dn Q x) {s : Int} (h : s ≠ 0) : Dn (Q * s) (x / (s : Rat)) := by
  obtain ⟨l, e⟩ := a
  have : (s : Rat) ≠ 0 := q_ne h
  exact ⟨l, by rw [Rat.intCast_mul, ← e]; grind⟩
theorem Dn.abs {Q : Int} {x : Rat} (a : Dn Q x) : Dn (Q.natAbs : Int) x := by
  obtain ⟨l, e⟩ := a
  rcases Int.natAbs_eq Q with h | h
  · rw [← h]; exact ⟨l, e⟩
  · refine ⟨-l, ?_⟩
    have : ((Q.natAbs : Int)) = -Q := by omega
    rw [this, Rat.intCast_neg, Rat.intCast_neg, ← e]
    grind
theorem num_le {x : Rat} {N : Int} (h1 : -(N : Rat) ≤ x) (h2 : x ≤ (N : Rat)) : -(N * x.den) ≤ x.num ∧ x.num ≤ N * x.den := by
  have e := q_nd x
  have d := den_ne x
  have dp : (0 : Rat) < ((x.den : Int) : Rat) := by
    have : ((0 : Int) : Rat) < ((x.den : Int) : Rat) := Rat.intCast_lt_intCast.mpr (by have := x.den_nz; omega)
    exact this
  have k : (x.num : Rat) = x * ((x.den : Int) : Rat) := by grind
  have a1 : 0 ≤ ((N : Rat) - x) * ((x.den : Int) : Rat) := Rat.mul_nonneg (by grind) (by grind)
  have a2 : 0 ≤ (x + (N : Rat)) * ((x.den : Int) : Rat) := Rat.mul_nonneg (by grind) (by grind)
  constructor
  · have : (((-(N * x.den) : Int)) : Rat) ≤ (x.num : Rat) := by
      rw [Rat.intCast_neg, Rat.intCast_mul, k]
      grind
    exact Rat.intCast_le_intCast.mp this
  · have : (x.num : Rat) ≤ (((N * x.den : Int)) : Rat) := by
      rw [Rat.intCast_mul, k]
      grind
    exact Rat.intCast_le_intCast.mp this
theorem less_q (x y : Rat) : (decide (x.num * (y.den : Int) < y.num * (x.den : Int))) = decide (x < y) := by
  rw [Bool.eq_iff_iff, decide_eq_true_eq, decide_eq_true_eq, Rat.lt_iff]
end KM

/-! patterns, plainly -/
namespace K37P
open FL
/-- where a place goes -/
def nx (ms : List Int) (p : Nat) : Nat := ((ms.getD p 0).fmod (ms.length : Int)).toNat
def pl (ms : List Int) : Nat → Nat
  | 0 => 0
  | i + 1 => nx ms (pl ms i)
theorem nx_lt {ms : List Int} (h : 1 ≤ ms.length) (p : Nat) : nx ms p < ms.length := by
  have h0 := KM.fm0 (d := ms.getD p 0) (m := (ms.length : Int)) (by omega)
  have h1 := KM.fm1 (d := ms.getD p 0) (m := (ms.length : Int)) (by omega)
  unfold nx
  omega
theorem pl_lt {ms : List Int} (h : 1 ≤ ms.length) (i : Nat) : pl ms i < ms.length := by
  cases i with
  | zero => exact h
  | succ i => exact nx_lt h _
def pls (ms : List Int) (k : Nat) : List Nat := (List.range k).map (pl ms)
theorem pls_len (ms : List Int) (k : Nat) : (pls ms k).length = k := by unfold pls; rw [List.length_map, List.length_range]
theorem pls_s (ms : List Int) (k : Nat) : pls ms (k + 1) = pls ms k ++ [pl ms k] := by
  unfold pls
  rw [List.range_succ, List.map_append]
  rfl
theorem pls_mem {ms : List Int} {k p : Nat} : p ∈ pls ms k ↔ ∃ i, i < k ∧ pl ms i = p := by
  unfold pls
  simp [List.mem_map, List.mem_range]
def Inj (f : Nat → Nat) (n : Nat) : Prop := ∀ i j, i < n → j < n → f i = f j → i = j
theorem nodup_map {f : Nat → Nat} {n : Nat} : ((List.range n).map f).Nodup ↔ Inj f n := by
  constructor
  · intro h i j hi hj e
    have h2 := List.pairwise_iff_getElem.mp h
    rcases Nat.lt_trichotomy i j with q | q | q
    · exact absurd (by rw [List.getElem_map, List.getElem_map, List.getElem_range, List.getElem_range]; exact e) (h2 i j (by simpa using hi) (by simpa using hj) q)
    · exact q
    · exact absurd (by rw [List.getElem_map, List.getElem_map, List.getElem_range, List.getElem_range]; exact e.symm) (h2 j i (by simpa using hj) (by simpa using hi) q)
  · intro h
    unfold List.Nodup
    rw [List.pairwise_map]
    refine List.Pairwise.imp_of_mem ?_ List.pairwise_lt_range
    intro a b ha hb hlt e
    have := h a b (List.mem_range.mp ha) (List.mem_range.mp hb) e
    omega
/-- pigeons -/
theorem pigeon : ∀ (l : List Nat) (n : Nat), l.Nodup → (∀ x ∈ l, x < n) → l.length ≤ n
  | l, 0, h, hx => by
    cases l with
    | nil => exact Nat.le_refl _
    | cons a l => exact absurd (hx a List.mem_cons_self) (by omega)
  | l, n + 1, h, hx => by
    by_cases hn : n ∈ l
    · have := pigeon (l.erase n) n (h.erase n) fun x hx' => by
        have h1 := List.mem_of_mem_erase hx'
        have h2 : x ≠ n := fun e => by
          subst e
          exact (List.Nodup.not_mem_erase h) hx'
        have := hx x h1
        omega
      rw [List.length_erase_of_mem hn] at this
      omega
    · have := pigeon l n h fun x hx' => by
        have h2 : x ≠ n := fun e => by subst e; exact hn hx'
        have := hx x hx'
        omega
      omega
/-- as many pigeons as holes: none is left -/
theorem full {l : List Nat} {n : Nat} (h : l.Nodup) (hx : ∀ x ∈ l, x < n) (hl : l.length = n) {p : Nat} (hp : p < n) : p ∈ l := by
  by_cases hm : p ∈ l
  · exact hm
  · have := pigeon (p :: l) n (List.nodup_cons.mpr ⟨hm, h⟩) (fun x hx' => by
      rcases List.mem_cons.mp hx' with rfl | q
      · exact hp
      · exact hx x q)
    rw [List.length_cons] at this
    omega
theorem main {ms : List Int} (h : 1 ≤ ms.length) (d : (pls ms ms.length).Nodup) : Inj (nx ms) ms.length ↔ pl ms ms.length = 0 := by
  have dj : Inj (pl ms) ms.length := nodup_map.mp d
  have sur : ∀ p, p < ms.length → ∃ i, i < ms.length ∧ pl ms i = p := fun p hp => pls_mem.mp (full d (fun x hx => by
    obtain ⟨i, _, rfl⟩ := pls_mem.mp hx
    exact pl_lt h i) (pls_len _ _) hp)
  constructor
  · intro hi
    obtain ⟨j, hj, e⟩ := sur (pl ms ms.length) (pl_lt h _)
    cases j with
    | zero => exact e.symm
    | succ j =>
      obtain ⟨m, hm⟩ : ∃ m, ms.length = m + 1 := ⟨ms.length - 1, by omega⟩
      rw [hm] at e
      have e2 : nx ms (pl ms j) = nx ms (pl ms m) := e
      have e3 := hi _ _ (pl_lt h j) (pl_lt h m) e2
      have := dj j m (by omega) (by omega) e3
      omega
  · intro h0 a b ha hb e
    obtain ⟨i, hi, rfl⟩ := sur a ha
    obtain ⟨j, hj, rfl⟩ := sur b hb
    have e' : pl ms (i + 1) = pl ms (j + 1) := e
    by_cases hi1 : i + 1 = ms.length
    · by_cases hj1 : j + 1 = ms.length
      · rw [show i = j by omega]
      · rw [hi1, h0] at e'
        have := dj 0 (j + 1) (by omega) (by omega) e'
        omega
    · by_cases hj1 : j + 1 = ms.length
      · rw [hj1, h0] at e'
        have := dj (i + 1) 0 (by omega) (by omega) e'
        omega
      · have := dj (i + 1) (j + 1) (by omega) (by omega) e'
        rw [show i = j by omega]
/-! ### a pattern by its way -/
/-- a way through all places -/
structure Cyc (ms way : List Int) : Prop where
  l1 : 1 ≤ ms.length
  l8 : ms.length ≤ 8
  wl : way.length = ms.length
  nd : way.Nodup
  rg : ∀ x ∈ way, 0 ≤ x ∧ x < ms.length
  go : ∀ a, a < ms.length → (ms.getD (way.getD a 0).toNat 0).fmod ms.length = way.getD ((a + 1) % ms.length) 0
variable {ms way : List Int}
theorem Cyc.at (c : Cyc ms way) {a : Nat} (h : a < ms.length) : 0 ≤ way.getD a 0 ∧ way.getD a 0 < ms.length := by
  have hw : a < way.length := by rw [c.wl]; exact h
  rw [List.getD_eq_getElem?_getD, List.getElem?_eq_getElem hw]
  exact c.rg _ (List.getElem_mem hw)
theorem Cyc.inj (c : Cyc ms way) {a b : Nat} (ha : a < ms.length) (hb : b < ms.length) (e : way.getD a 0 = way.getD b 0) : a = b := by
  have h2 := List.pairwise_iff_getElem.mp c.nd
  have hwa : a < way.length := by rw [c.wl]; exact ha
  have hwb : b < way.length := by rw [c.wl]; exact hb
  rw [List.getD_eq_getElem?_getD, List.getElem?_eq_getElem hwa, List.getD_eq_getElem?_getD, List.getElem?_eq_getElem hwb] at e
  rcases Nat.lt_trichotomy a b with q | q | q
  · exact absurd e (h2 a b hwa hwb q)
  · exact q
  · exact absurd e.symm (h2 b a hwb hwa q)
theorem Cyc.nx (c : Cyc ms way) {a : Nat} (h : a < ms.length) : nx ms (way.getD a 0).toNat = (way.getD ((a + 1) % ms.length) 0).toNat := by
  unfold K37P.nx
  rw [c.go a h]
/-- place 0 stands on the way -/
theorem Cyc.zero (c : Cyc ms way) : ∃ j, j < ms.length ∧ way.getD j 0 = 0 := by
  have f := full (l := way.map Int.toNat) (n := ms.length) (by
    unfold List.Nodup
    rw [List.pairwise_map]
    refine List.Pairwise.imp_of_mem ?_ c.nd
    intro a b ha hb ne e
    have := c.rg a ha
    have := c.rg b hb
    exact ne (by omega)) (fun x hx => by
    obtain ⟨y, hy, rfl⟩ := List.mem_map.mp hx
    have := c.rg y hy
    omega) (by rw [List.length_map, c.wl]) (p := 0) (by have := c.l1; omega)
  obtain ⟨y, hy, e⟩ := List.mem_map.mp f
  have h0 := c.rg y hy
  obtain ⟨j, hj, e2⟩ := List.getElem_of_mem hy
  refine ⟨j, by rw [← c.wl]; exact hj, ?_⟩
  rw [List.getD_eq_getElem?_getD, List.getElem?_eq_getElem hj]
  show way[j] = 0
  omega
theorem Cyc.pla (c : Cyc ms way) {j : Nat} (hj : j < ms.length) (e : way.getD j 0 = 0) : ∀ i, K37P.pl ms i = (way.getD ((j + i) % ms.length) 0).toNat
  | 0 => by
    rw [Nat.add_zero, Nat.mod_eq_of_lt hj, e]
    rfl
  | i + 1 => by
    have l1 := c.l1
    have h : (j + i) % ms.length < ms.length := Nat.mod_lt _ (by omega)
    show K37P.nx ms (K37P.pl ms i) = _
    rw [Cyc.pla c hj e i, c.nx h]
    congr 2
    rw [Nat.mod_add_mod, Nat.add_assoc]
/-- it is a pattern -/
theorem Cyc.pat (c : Cyc ms way) : (pls ms ms.length).Nodup ∧ pl ms ms.length = 0 := by
  obtain ⟨j, hj, e⟩ := c.zero
  have l1 := c.l1
  have key := c.pla hj e
  refine ⟨nodup_map.mpr fun a b ha hb q => ?_, ?_⟩
  · rw [key, key] at q
    have h1 : (j + a) % ms.length < ms.length := Nat.mod_lt _ (by omega)
    have h2 : (j + b) % ms.length < ms.length := Nat.mod_lt _ (by omega)
    have q2 := c.inj h1 h2 (by
      have := c.at h1
      have := c.at h2
      omega)
    have e1 := Nat.mod_add_div (j + a) ms.length
    have e2 := Nat.mod_add_div (j + b) ms.length
    rw [q2] at e1
    have dv : ∀ x, x < ms.length → (j + x) / ms.length ≤ 1 := fun x hx => by
      refine Nat.le_of_lt_succ (Nat.div_lt_of_lt_mul ?_)
      rw [Nat.mul_comm]
      show j + x < 2 * ms.length
      omega
    have d1 := dv a ha
    have d2 := dv b hb
    have c1 : (j + a) / ms.length = 0 ∨ (j + a) / ms.length = 1 := Nat.le_one_iff_eq_zero_or_eq_one.mp d1
    have c2 : (j + b) / ms.length = 0 ∨ (j + b) / ms.length = 1 := Nat.le_one_iff_eq_zero_or_eq_one.mp d2
    rcases c1 with c1 | c1 <;> rcases c2 with c2 | c2 <;> rw [c1] at e1 <;> rw [c2] at e2 <;> omega
  · rw [key, Nat.add_mod_right, Nat.mod_eq_of_lt hj, e]
    rfl
/-! ### told from a place on -/
abbrev nn (ms : List Int) : Int := ms.length
def fr (ms : List Int) (p : Int) : List Int := (rgI 0 ms.length).map fun a => ms.getD ((a + p).fmod (nn ms)).toNat 0 + nn ms * (a + p).fdiv (nn ms) - p
theorem fr_len (ms : List Int) (p : Int) : (fr ms p).length = ms.length := by unfold fr; rw [List.length_map, rgI_len]
theorem fr_at {ms : List Int} {p : Int} {a : Nat} (h : a < ms.length) : (fr ms p).getD a 0 = ms.getD (((a : Int) + p).fmod (nn ms)).toNat 0 + nn ms * ((a : Int) + p).fdiv (nn ms) - p := by
  unfold fr
  rw [List.getD_eq_getElem?_getD, List.getElem?_map]
  have : (rgI 0 ms.length)[a]? = some (0 + (a : Int)) := by
    unfold rgI
    rw [List.getElem?_map, List.getElem?_range h]
    rfl
  rw [this, Int.zero_add]
  rfl
theorem dm {n : Int} (hn : 1 ≤ n) (x : Int) : n * x.fdiv n + x.fmod n = x := by rw [KM.fd hn, KM.fm hn]; exact Int.mul_ediv_add_emod x n
/-- one quotient, one rest -/
theorem dm_uniq {n x q r : Int} (hn : 1 ≤ n) (e : x = n * q + r) (h0 : 0 ≤ r) (h1 : r < n) : x.fdiv n = q ∧ x.fmod n = r := by
  rw [KM.fd hn, KM.fm hn]
  have a : (n * q + r) / n = q := by
    rw [Int.add_comm, Int.add_mul_ediv_left _ _ (by omega), Int.ediv_eq_zero_of_lt h0 h1, Int.zero_add]
  have b : (n * q + r) % n = r := by
    rw [Int.add_comm, Int.add_mul_emod_self_left, Int.emod_eq_of_lt h0 h1]
  rw [e]
  exact ⟨a, b⟩
theorem list_ext {a b : List Int} (hl : a.length = b.length) (h : ∀ j, j < a.length → a.getD j 0 = b.getD j 0) : a = b := by
  refine List.ext_getElem hl fun j h1 h2 => ?_
  have := h j h1
  rw [List.getD_eq_getElem?_getD, List.getD_eq_getElem?_getD, List.getElem?_eq_getElem h1, List.getElem?_eq_getElem h2] at this
  exact this
theorem fr_fr {ms : List Int} (h : 1 ≤ ms.length) (a b : Int) : fr (fr ms a) b = fr ms (a + b) := by
  have hn : (1 : Int) ≤ nn ms := by show (1 : Int) ≤ (ms.length : Int); omega
  refine list_ext (by rw [fr_len, fr_len, fr_len]) fun j hj => ?_
  rw [fr_len, fr_len] at hj
  have hl : nn (fr ms a) = nn ms := by show (((fr ms a).length : Nat) : Int) = _; rw [fr_len]
  rw [fr_at (by rw [fr_len]; exact hj), fr_at hj, hl]
  have r0 := KM.fm0 (d := (j : Int) + b) hn
  have r1 := KM.fm1 (d := (j : Int) + b) hn
  have e1 := dm hn ((j : Int) + b)
  have s0 := KM.fm0 (d := ((j : Int) + b).fmod (nn ms) + a) hn
  have s1 := KM.fm1 (d := ((j : Int) + b).fmod (nn ms) + a) hn
  have e2 := dm hn (((j : Int) + b).fmod (nn ms) + a)
  rw [fr_at (by show _ < ms.length; have : nn ms = (ms.length : Int) := rfl; omega), show ((((j : Int) + b).fmod (nn ms)).toNat : Int) = ((j : Int) + b).fmod (nn ms) by omega]
  obtain ⟨u1, u2⟩ := dm_uniq (x := (j : Int) + (a + b)) (q := ((j : Int) + b).fdiv (nn ms) + (((j : Int) + b).fmod (nn ms) + a).fdiv (nn ms)) hn (by rw [Int.mul_add]; omega) s0 s1
  rw [u1, u2, Int.mul_add]
  omega
theorem fr_per {ms : List Int} (h : 1 ≤ ms.length) (p k : Int) : fr ms (p + nn ms * k) = fr ms p := by
  have hn : (1 : Int) ≤ nn ms := by show (1 : Int) ≤ (ms.length : Int); omega
  refine list_ext (by rw [fr_len, fr_len]) fun j hj => ?_
  rw [fr_len] at hj
  rw [fr_at hj, fr_at hj]
  have s0 := KM.fm0 (d := (j : Int) + p) hn
  have s1 := KM.fm1 (d := (j : Int) + p) hn
  have e1 := dm hn ((j : Int) + p)
  obtain ⟨u1, u2⟩ := dm_uniq (x := (j : Int) + (p + nn ms * k)) (q := ((j : Int) + p).fdiv (nn ms) + k) hn (by rw [Int.mul_add]; omega) s0 s1
  rw [u1, u2, Int.mul_add]
  omega
theorem fr_0 {ms : List Int} (h : 1 ≤ ms.length) : fr ms 0 = ms := by
  have hn : (1 : Int) ≤ nn ms := by show (1 : Int) ≤ (ms.length : Int); omega
  refine list_ext (fr_len _ _) fun j hj => ?_
  rw [fr_len] at hj
  obtain ⟨u1, u2⟩ := dm_uniq (x := (j : Int) + 0) (q := 0) (r := j) hn (by omega) (by omega) (by show (j : Int) < (ms.length : Int); omega)
  rw [fr_at hj, u1, u2, Int.toNat_natCast]
  omega
theorem fr_n {ms : List Int} (h : 1 ≤ ms.length) : fr ms (nn ms) = ms := by
  have := fr_per h 0 1
  rw [fr_0 h, Int.mul_one, Int.zero_add] at this
  exact this
theorem fr_neg {ms : List Int} (h : 1 ≤ ms.length) : fr ms (0 - nn ms) = ms := by
  have := fr_per h 0 (-1)
  rw [fr_0 h] at this
  rw [show (0 : Int) - nn ms = 0 + nn ms * (-1) by omega]
  exact this
/-- the way from there -/
theorem Cyc.fr {ms way : List Int} (c : Cyc ms way) (p : Int) : Cyc (fr ms p) (way.map fun x => (x - p).fmod (nn ms)) := by
  have l1 := c.l1
  have hn : (1 : Int) ≤ nn ms := by show (1 : Int) ≤ (ms.length : Int); omega
  have hne : nn ms = (ms.length : Int) := rfl
  have gd : ∀ a, a < ms.length → (way.map fun x => (x - p).fmod (nn ms)).getD a 0 = (way.getD a 0 - p).fmod (nn ms) := fun a ha => by
    have hw : a < way.length := by rw [c.wl]; exact ha
    rw [List.getD_eq_getElem?_getD, List.getElem?_map, List.getElem?_eq_getElem hw, List.getD_eq_getElem?_getD, List.getElem?_eq_getElem hw]
    rfl
  refine ⟨by rw [fr_len]; exact c.l1, by rw [fr_len]; exact c.l8, by rw [List.length_map, fr_len, c.wl], ?_, ?_, ?_⟩
  · unfold List.Nodup
    rw [List.pairwise_map]
    refine List.Pairwise.imp_of_mem ?_ c.nd
    intro x y hx hy ne e
    have gx := c.rg x hx
    have gy := c.rg y hy
    have e1 := dm hn (x - p)
    have e2 := dm hn (y - p)
    rw [e] at e1
    obtain ⟨u1, u2⟩ := dm_uniq (x := x) (q := 0) (r := x) hn (by omega) gx.1 gx.2
    obtain ⟨v1, v2⟩ := dm_uniq (x := x) (q := (x - p).fdiv (nn ms) - (y - p).fdiv (nn ms)) (r := y) hn (by rw [Int.mul_sub]; omega) gy.1 gy.2
    exact ne (by omega)
  · intro x hx
    obtain ⟨y, _, rfl⟩ := List.mem_map.mp hx
    rw [fr_len]
    exact ⟨KM.fm0 hn, KM.fm1 hn⟩
  · intro a ha
    rw [fr_len] at ha ⊢
    have ha2 : (a + 1) % ms.length < ms.length := Nat.mod_lt _ (by omega)
    rw [gd a ha, gd _ ha2, ← c.go a ha]
    have gx := c.at ha
    have r0 := KM.fm0 (d := way.getD a 0 - p) hn
    have r1 := KM.fm1 (d := way.getD a 0 - p) hn
    have e1 := dm hn (way.getD a 0 - p)
    rw [fr_at (by omega), show (((way.getD a 0 - p).fmod (nn ms)).toNat : Int) = (way.getD a 0 - p).fmod (nn ms) by omega]
    obtain ⟨u1, u2⟩ := dm_uniq (x := (way.getD a 0 - p).fmod (nn ms) + p) (q := -(way.getD a 0 - p).fdiv (nn ms)) (r := way.getD a 0) hn (by rw [Int.mul_neg]; omega) gx.1 gx.2
    rw [u1, u2]
    show _ = ((ms.getD (way.getD a 0).toNat 0).fmod (nn ms) - p).fmod (nn ms)
    generalize ms.getD (way.getD a 0).toNat 0 = m
    generalize (way.getD a 0 - p).fdiv (nn ms) = k
    rw [← hne]
    have e3 := dm hn m
    have s0 := KM.fm0 (d := m.fmod (nn ms) - p) hn
    have s1 := KM.fm1 (d := m.fmod (nn ms) - p) hn
    have e4 := dm hn (m.fmod (nn ms) - p)
    exact (dm_uniq (x := m + nn ms * -k - p) (q := m.fdiv (nn ms) + -k + (m.fmod (nn ms) - p).fdiv (nn ms)) hn (by rw [Int.mul_add, Int.mul_add]; omega) s0 s1).2
/-! ### the least -/
theorem ltT_irrefl : ∀ a : List Int, ltT a a = false
  | [] => rfl
  | x :: a => by unfold ltT; rw [if_pos rfl]; exact ltT_irrefl a
theorem ltT_asym : ∀ a b : List Int, ltT a b = false → ltT b a = false → a = b
  | [], [], _, _ => rfl
  | [], y :: b, h, _ => by cases h
  | x :: a, [], _, h => by cases h
  | x :: a, y :: b, h1, h2 => by
    unfold ltT at h1 h2
    by_cases e : x = y
    · subst e
      rw [if_pos rfl] at h1 h2
      rw [ltT_asym a b h1 h2]
    · rw [if_neg e] at h1
      rw [if_neg (Ne.symm e)] at h2
      have := of_decide_eq_false h1
      have := of_decide_eq_false h2
      omega
theorem ltT_trans : ∀ a b c : List Int, ltT b a = false → ltT c b = false → ltT c a = false
  | a, b, [], h1, h2 => by
    cases b with
    | nil => exact h1
    | cons y b => cases h2
  | [], b, z :: c, _, _ => rfl
  | x :: a, [], z :: c, h1, _ => by cases h1
  | x :: a, y :: b, z :: c, h1, h2 => by
    unfold ltT at h1 h2 ⊢
    by_cases e1 : y = x
    · subst e1
      rw [if_pos rfl] at h1
      by_cases e2 : z = y
      · subst e2
        rw [if_pos rfl] at h2 ⊢
        exact ltT_trans a b c h1 h2
      · rw [if_neg e2] at h2 ⊢
        exact h2
    · rw [if_neg e1] at h1
      have g1 := of_decide_eq_false h1
      by_cases e2 : z = y
      · subst e2
        rw [if_neg e1]
        exact h1
      · rw [if_neg e2] at h2
        have g2 := of_decide_eq_false h2
        rw [if_neg (by omega)]
        exact decide_eq_false (by omega)
theorem ltT_anti {a b : List Int} (h : ltT a b = true) : ltT b a = false := by
  cases e : ltT b a with
  | false => rfl
  | true =>
    have key : ∀ a b : List Int, ltT a b = true → ltT b a = true → False := by
      intro a
      induction a with
      | nil => intro b h1 h2; cases b <;> cases h2
      | cons x a ih =>
        intro b h1 h2
        cases b with
        | nil => cases h1
        | cons y b =>
          unfold ltT at h1 h2
          by_cases e : x = y
          · subst e
            rw [if_pos rfl] at h1 h2
            exact ih b h1 h2
          · rw [if_neg e] at h1
            rw [if_neg (Ne.symm e)] at h2
            have := of_decide_eq_true h1
            have := of_decide_eq_true h2
            omega
    exact (key a b h e).elim
theorem minT_le : ∀ (l : List (List Int)) (m : List Int), ltT m (minT m l) = false ∧ ∀ x ∈ l, ltT x (minT m l) = false
  | [], m => ⟨ltT_irrefl m, fun x h => by cases h⟩
  | y :: l, m => by
    unfold minT
    obtain ⟨h1, h2⟩ := minT_le l (if ltT y m = true then y else m)
    have h3 : ltT m (if ltT y m = true then y else m) = false ∧ ltT y (if ltT y m = true then y else m) = false := by
      by_cases q : ltT y m = true
      · rw [if_pos q]
        exact ⟨ltT_anti q, ltT_irrefl y⟩
      · rw [if_neg q]
        exact ⟨ltT_irrefl m, by simpa using q⟩
    refine ⟨ltT_trans _ _ _ h1 h3.1, fun x hx => ?_⟩
    rcases List.mem_cons.mp hx with rfl | q
    · exact ltT_trans _ _ _ h1 h3.2
    · exact h2 x q
theorem minT_mem : ∀ (l : List (List Int)) (m : List Int), minT m l = m ∨ minT m l ∈ l
  | [], m => .inl rfl
  | x :: l, m => by
    unfold minT
    rcases minT_mem l (if ltT x m = true then x else m) with h | h
    · rw [h]
      split
      · exact .inr List.mem_cons_self
      · exact .inl rfl
    · exact .inr (List.mem_cons_of_mem _ h)

def plain (ms : List Int) : List Int := match (rgI 0 ms.length).map (fr ms) with
  | x :: xs => minT x xs
  | [] => []
theorem rg_head {n : Nat} (h : 1 ≤ n) : ∃ xs, rgI 0 n = 0 :: xs := by
  obtain ⟨m, rfl⟩ : ∃ m, n = m + 1 := ⟨n - 1, by omega⟩
  refine ⟨(List.range m).map fun i => (0 : Int) + ((i + 1 : Nat) : Int), ?_⟩
  unfold rgI
  rw [List.range_succ_eq_map, List.map_cons, List.map_map]
  rfl
theorem plain_mem {ms : List Int} (h : 1 ≤ ms.length) : ∃ p : Int, plain ms = fr ms p := by
  unfold plain
  cases e : (rgI 0 ms.length).map (fr ms) with
  | nil =>
    have := congrArg List.length e
    rw [List.length_map, rgI_len] at this
    have : ms.length = 0 := this
    omega
  | cons x xs =>
    have hm : minT x xs ∈ x :: xs := by
      rcases minT_mem xs x with h | h
      · rw [h]; exact List.mem_cons_self
      · exact List.mem_cons_of_mem _ h
    rw [← e] at hm
    obtain ⟨p, _, e2⟩ := List.mem_map.mp hm
    exact ⟨p, e2.symm⟩
theorem plain_le {ms : List Int} (h : 1 ≤ ms.length) (p : Int) : ltT (fr ms p) (plain ms) = false := by
  have hn : (1 : Int) ≤ nn ms := by show (1 : Int) ≤ (ms.length : Int); omega
  have e1 := dm hn p
  have r0 := KM.fm0 (d := p) hn
  have r1 := KM.fm1 (d := p) hn
  have e2 := fr_per h (p.fmod (nn ms)) (p.fdiv (nn ms))
  rw [show p.fmod (nn ms) + nn ms * p.fdiv (nn ms) = p by omega] at e2
  have hm : fr ms p ∈ (rgI 0 ms.length).map (fr ms) := by
    rw [e2]
    exact List.mem_map.mpr ⟨_, rgI_mem.mpr ⟨r0, by show p.fmod (nn ms) < 0 + (ms.length : Int); have : nn ms = (ms.length : Int) := rfl; omega⟩, rfl⟩
  unfold plain
  cases e : (rgI 0 ms.length).map (fr ms) with
  | nil => rw [e] at hm; cases hm
  | cons x xs =>
    rw [e] at hm
    obtain ⟨h1, h2⟩ := minT_le xs x
    rcases List.mem_cons.mp hm with q | q
    · rw [q]; exact h1
    · exact h2 _ q
theorem plain_fr {ms : List Int} (h : 1 ≤ ms.length) (a : Int) : plain (fr ms a) = plain ms := by
  have h' : 1 ≤ (fr ms a).length := by rw [fr_len]; exact h
  obtain ⟨p, e1⟩ := plain_mem h
  obtain ⟨q, e2⟩ := plain_mem h'
  have l1 := plain_le h (a + q)
  have l2 := plain_le h' (p - a)
  rw [fr_fr h, show a + (p - a) = p by omega, ← e1] at l2
  rw [← fr_fr h, ← e2] at l1
  exact ltT_asym _ _ l1 l2
/-! ### the rounds -/
def rnd (ms : List Int) : Int := ((rgI 0 ms.length).map fun a => ms.getD a.toNat 0 - a).sum
theorem perm_sum {l l' : List Int} (h : l.Perm l') : l.sum = l'.sum := by
  induction h with
  | nil => rfl
  | cons x _ ih => rw [List.sum_cons, List.sum_cons, ih]
  | swap x y l => rw [List.sum_cons, List.sum_cons, List.sum_cons, List.sum_cons]; omega
  | trans _ _ ih1 ih2 => rw [ih1, ih2]
theorem rg_nd (n : Nat) : (rgI 0 n).Nodup := by
  unfold rgI List.Nodup
  rw [List.pairwise_map]
  refine List.Pairwise.imp ?_ (List.pairwise_lt_range (n := n))
  intro a b h e
  omega
theorem rot_perm {n : Nat} (h : 1 ≤ n) (p : Int) : ((rgI 0 n).map fun a => (a + p).fmod (n : Int)).Perm (rgI 0 n) := by
  have hn : (1 : Int) ≤ (n : Int) := by omega
  refine (List.perm_ext_iff_of_nodup ?_ (rg_nd n)).mpr fun x => ⟨fun hx => ?_, fun hx => ?_⟩
  · unfold List.Nodup
    rw [List.pairwise_map]
    refine List.Pairwise.imp_of_mem ?_ (rg_nd n)
    intro a b ha hb ne e
    have ga := rgI_mem.mp ha
    have gb := rgI_mem.mp hb
    have e1 := dm hn (a + p)
    have e2 := dm hn (b + p)
    rw [e] at e1
    obtain ⟨u1, u2⟩ := dm_uniq (x := a) (q := 0) (r := a) hn (by omega) (by omega) (by omega)
    obtain ⟨v1, v2⟩ := dm_uniq (x := a) (q := (a + p).fdiv n - (b + p).fdiv n) (r := b) hn (by rw [Int.mul_sub]; omega) (by omega) (by omega)
    exact ne (by omega)
  · obtain ⟨a, _, rfl⟩ := List.mem_map.mp hx
    have := KM.fm0 (d := a + p) hn
    have := KM.fm1 (d := a + p) hn
    exact rgI_mem.mpr ⟨by omega, by omega⟩
  · have gx := rgI_mem.mp hx
    have r0 := KM.fm0 (d := x - p) hn
    have r1 := KM.fm1 (d := x - p) hn
    have e1 := dm hn (x - p)
    refine List.mem_map.mpr ⟨(x - p).fmod n, rgI_mem.mpr ⟨by omega, by omega⟩, ?_⟩
    exact (dm_uniq (x := (x - p).fmod n + p) (q := -(x - p).fdiv n) hn (by rw [Int.mul_neg]; omega) (by omega) (by omega)).2
theorem rnd_fr {ms : List Int} (h : 1 ≤ ms.length) (p : Int) : rnd (fr ms p) = rnd ms := by
  have hn : (1 : Int) ≤ nn ms := by show (1 : Int) ≤ (ms.length : Int); omega
  have e : rnd (fr ms p) = (((rgI 0 ms.length).map fun a => (a + p).fmod (nn ms)).map fun a => ms.getD a.toNat 0 - a).sum := by
    unfold rnd
    rw [List.map_map, fr_len]
    congr 1
    refine List.map_congr_left fun a ha => ?_
    have ga := rgI_mem.mp ha
    have e1 := dm hn (a + p)
    rw [fr_at (by omega), show ((a.toNat : Nat) : Int) = a by omega]
    show _ = ms.getD ((a + p).fmod (nn ms)).toNat 0 - (a + p).fmod (nn ms)
    omega
  rw [e]
  exact perm_sum ((rot_perm h p).map _)
/-! ### unlike ones -/
theorem nset_acc : ∀ (l a : List Int), (l.foldl (fun a x => if (a.any (· == x)) = true then a else a ++ [x]) a).length ≤ a.length + l.length ∧
    ((l.foldl (fun a x => if (a.any (· == x)) = true then a else a ++ [x]) a).length = a.length + l.length ↔ l.Nodup ∧ ∀ x ∈ l, x ∉ a)
  | [], a => ⟨Nat.le_refl _, ⟨fun _ => ⟨List.Pairwise.nil, (fun x h => by cases h)⟩, fun _ => rfl⟩⟩
  | x :: l, a => by
    rw [List.foldl_cons, List.length_cons]
    by_cases hx : x ∈ a
    · have ha : (a.any (· == x)) = true := List.any_eq_true.mpr ⟨x, hx, by simp⟩
      rw [if_pos ha]
      obtain ⟨h1, _⟩ := nset_acc l a
      refine ⟨by omega, ⟨fun h => by omega, fun h => absurd hx (h.2 x List.mem_cons_self)⟩⟩
    · have ha : ¬ (a.any (· == x)) = true := fun q => by
        obtain ⟨y, hy, e⟩ := List.any_eq_true.mp q
        have : y = x := by simpa using e
        subst this
        exact hx hy
      rw [if_neg ha]
      obtain ⟨h1, h2⟩ := nset_acc l (a ++ [x])
      have hl : (a ++ [x]).length = a.length + 1 := by simp
      rw [hl] at h1 h2
      refine ⟨by omega, ?_⟩
      rw [show a.length + (l.length + 1) = a.length + 1 + l.length by omega, h2]
      constructor
      · rintro ⟨n1, n2⟩
        refine ⟨List.nodup_cons.mpr ⟨fun hm => n2 x hm (by simp), n1⟩, fun y hy => ?_⟩
        rcases List.mem_cons.mp hy with rfl | q
        · exact hx
        · exact fun w => n2 y q (List.mem_append_left _ w)
      · rintro ⟨n1, n2⟩
        obtain ⟨m1, m2⟩ := List.nodup_cons.mp n1
        refine ⟨m2, fun y hy w => ?_⟩
        rcases List.mem_append.mp w with w | w
        · exact n2 y (List.mem_cons_of_mem _ hy) w
        · rw [List.mem_singleton.mp w] at hy
          exact m1 hy
theorem nset_iff (l : List Int) : (nsetL l).length = l.length ↔ l.Nodup := by
  have := (nset_acc l []).2
  rw [List.length_nil, Nat.zero_add] at this
  unfold nsetL
  rw [this]
  exact ⟨fun h => h.1, fun h => ⟨h, fun x _ w => by cases w⟩⟩
theorem dk_int (l : List Int) : dk (l.map D.int) = (nsetL l).map fun k => (D.int k, D.bl true) := by
  have key : ∀ (l a : List Int), (l.map D.int).foldl (fun a k => dPut k (.bl true) a) (a.map fun k => (D.int k, D.bl true)) = (l.foldl (fun a x => if (a.any (· == x)) = true then a else a ++ [x]) a).map fun k => (D.int k, D.bl true) := by
    intro l
    induction l with
    | nil => intro a; rfl
    | cons x l ih =>
      intro a
      rw [List.map_cons, List.foldl_cons, List.foldl_cons]
      have h1 : dHas (D.int x) (a.map fun k => (D.int k, D.bl true)) = a.any (· == x) := by
        unfold dHas
        rw [List.any_map]
        rfl
      have h2 : dPut (D.int x) (.bl true) (a.map fun k => (D.int k, D.bl true)) = (if (a.any (· == x)) = true then a else a ++ [x]).map fun k => (D.int k, D.bl true) := by
        unfold dPut
        rw [h1]
        split
        · rw [List.map_map]
          refine List.map_congr_left fun k _ => ?_
          show (if (D.int k).eqv (D.int x) = true then _ else _) = _
          split <;> rfl
        · rw [List.map_append]
          rfl
      rw [h2]
      exact ih _
  exact key l []
/-- the residues are unlike just if each place is reached from one alone -/
theorem res_iff {ms : List Int} (h : 1 ≤ ms.length) : (ms.map fun m => m.fmod (nn ms)).Nodup ↔ Inj (nx ms) ms.length := by
  have hn : (1 : Int) ≤ nn ms := by show (1 : Int) ≤ (ms.length : Int); omega
  have gd : ∀ i (hi : i < ms.length), (ms.getD i 0) = ms[i] := fun i hi => by rw [List.getD_eq_getElem?_getD, List.getElem?_eq_getElem hi]; rfl
  constructor
  · intro q i j hi hj e
    have h2 := List.pairwise_iff_getElem.mp q
    have e' : (ms.getD i 0).fmod (nn ms) = (ms.getD j 0).fmod (nn ms) := by
      have a0 := KM.fm0 (d := ms.getD i 0) hn
      have b0 := KM.fm0 (d := ms.getD j 0) hn
      have : ((ms.getD i 0).fmod (nn ms)).toNat = ((ms.getD j 0).fmod (nn ms)).toNat := e
      omega
    rw [gd i hi, gd j hj] at e'
    rcases Nat.lt_trichotomy i j with q | q | q
    · exact absurd (by rw [List.getElem_map, List.getElem_map]; exact e') (h2 i j (by rw [List.length_map]; exact hi) (by rw [List.length_map]; exact hj) q)
    · exact q
    · exact absurd (by rw [List.getElem_map, List.getElem_map]; exact e'.symm) (h2 j i (by rw [List.length_map]; exact hj) (by rw [List.length_map]; exact hi) q)
  · intro q
    refine List.pairwise_iff_getElem.mpr fun i j hi hj hij e => ?_
    rw [List.length_map] at hi hj
    rw [List.getElem_map, List.getElem_map, ← gd i hi, ← gd j hj] at e
    have := q i j hi hj (by unfold nx; show _ = ((ms.getD j 0).fmod (nn ms)).toNat; rw [← e])
    omega
/-- as it is judged here -/
def patB (ms : List Int) : Bool := decide (pl ms ms.length = 0 ∧ (pls ms ms.length).Nodup)
theorem Cyc.patB {ms way : List Int} (c : Cyc ms way) : patB ms = true := decide_eq_true ⟨c.pat.2, c.pat.1⟩
theorem patB_iff {ms : List Int} (h : 1 ≤ ms.length) : patB ms = (decide ((ms.map fun m => m.fmod (nn ms)).Nodup) && decide ((pls ms ms.length).Nodup)) := by
  unfold K37P.patB
  rw [← Bool.decide_and, decide_eq_decide]
  constructor
  · rintro ⟨a, b⟩
    exact ⟨(res_iff h).mpr ((main h b).mpr a), b⟩
  · rintro ⟨a, b⟩
    exact ⟨(main h b).mp ((res_iff h).mp a), b⟩
/-- places as whole numbers -/
theorem zn_nodup {l : List Nat} : (l.map fun p : Nat => (p : Int)).Nodup ↔ l.Nodup := by
  unfold List.Nodup
  rw [List.pairwise_map]
  constructor
  · intro h
    exact h.imp fun {a b} q e => q (by rw [e])
  · intro h
    exact h.imp fun {a b} q e => q (by omega)
end K37P

set_option maxHeartbeats 1000000
local macro_rules | `(tactic| walk_at "get") => `(tactic| repeat (first | exact FL.GetR.z | apply FL.GetR.s))
local macro_rules | `(tactic| walk_at "put") => `(tactic| repeat (first | exact FL.PutR.z | apply FL.PutR.s))
local macro_rules | `(tactic| walk_at "frz") => `(tactic| first | exact FL.FrzR.d | exact FL.FrzR.o | (apply FL.FrzR.s; (· walk_at "get"); (· walk_at "put")))
local macro_rules | `(tactic| walk_at "keep") => `(tactic| first | exact FL.KeepR.d | exact FL.KeepR.o | (apply FL.KeepR.s; (· walk_at "get"); (· walk_at "put")))
local macro_rules | `(tactic| walk_at "view") => `(tactic| first | exact FL.ViewR.d | exact FL.ViewR.o | (apply FL.ViewR.so; walk_at "get"; done) | (apply FL.ViewR.sd; walk_at "get"; done))
local macro_rules | `(tactic| walk_at "sd") => `(tactic| first | assumption | omega | (simp; done) | (simp; omega))
local macro_rules | `(tactic| walk_at "bin") => `(tactic| first | with_reducible assumption | with_reducible exact FL.addOk | with_reducible exact FL.subOk | ((with_reducible apply FL.mulOk); (· first | assumption | exact FL.okM_l (by omega) (by omega) | exact FL.okM_r (by omega) (by omega) | (apply_assumption; done) | (apply_assumption <;> omega))) | ((with_reducible apply FL.divOk); (· first | assumption | exact FL.okD_l (by omega) (by omega))) | ((with_reducible apply FL.modOk); (· omega)) | ((with_reducible apply FL.cat_t); (· walk_at "sd")) | ((with_reducible apply FL.cat_l); (· walk_at "sd")))
local macro_rules | `(tactic| walk_at "cmp") => `(tactic| first | with_reducible assumption | ((with_reducible apply FL.c_ltT); (· omega)) | ((with_reducible apply FL.c_ltF); (· omega)) | ((with_reducible apply FL.c_leT); (· omega)) | ((with_reducible apply FL.c_leF); (· omega)) | ((with_reducible apply FL.c_gtT); (· omega)) | ((with_reducible apply FL.c_gtF); (· omega)) | ((with_reducible apply FL.c_geT); (· omega)) | ((with_reducible apply FL.c_geF); (· omega)) | ((with_reducible apply FL.c_eqT); (· omega)) | ((with_reducible apply FL.c_eqF); (· omega)) | ((with_reducible apply FL.c_neT); (· omega)) | ((with_reducible apply FL.c_neF); (· omega)) | with_reducible exact FL.c_lt | with_reducible exact FL.c_le | with_reducible exact FL.c_gt | with_reducible exact FL.c_ge | with_reducible exact FL.c_eq | with_reducible exact FL.c_ne | with_reducible exact FLW.c_eqB | with_reducible exact FLW.c_neB | with_reducible exact FLW.c_isN | with_reducible exact FLW.c_isntN | with_reducible exact FL.in_it | with_reducible exact FL.in_il | with_reducible exact FL.eq_it | with_reducible exact FL.eq_il | with_reducible exact FL.ne_it | with_reducible exact FL.ne_il | with_reducible exact KM.str_ne _ | with_reducible exact KM.str_eq _)
local macro_rules | `(tactic| walk_at "blt") => `(tactic| first | with_reducible assumption | ((with_reducible apply FL.all_mb); (· with_reducible assumption)) | ((with_reducible apply FL.any_mb); (· with_reducible assumption)) | with_reducible exact FL.all_m | with_reducible exact FL.any_m | with_reducible exact KM.len_zt | with_reducible exact KM.len_zl | with_reducible exact FL.len_m | with_reducible exact FL.len_tm | with_reducible exact FL.len_t | with_reducible exact FL.len_l | with_reducible exact FL.int_i | with_reducible exact FL.int_b | with_reducible exact FL.abs_i | with_reducible exact FL.tup_l | with_reducible exact FL.tup_t | with_reducible exact FL.lst_t | with_reducible exact FL.lst_l | with_reducible exact FL.mx2 | with_reducible exact FL.mn2 | ((with_reducible apply FL.rep_o); (· with_reducible assumption)))
local macro_rules | `(tactic| walk_at "isi") => `(tactic| first | with_reducible assumption | rfl)
local macro_rules | `(tactic| walk_at "itm") => `(tactic| first | with_reducible assumption | (apply_assumption <;> omega) | ((with_reducible apply FL.it_i); (· omega); (· omega)) | ((with_reducible apply FL.il_i); (· omega); (· omega)) | ((with_reducible apply FL.it_n); (· omega); (· omega)) | ((with_reducible apply FL.il_n); (· omega); (· omega)) | exact (rfl : FL.itemD _ _ = _))
local macro_rules | `(tactic| walk_at "fld") => `(tactic| first | with_reducible assumption | exact KM.many_fld _ _ | exact KM.deg_fld _ _ | exact KM.dots_fld _ _ | exact (rfl : FL.fldD _ _ = _))
local macro_rules | `(tactic| walk_at "cl") => `(tactic| first | with_reducible assumption | (apply_assumption <;> first | with_reducible assumption | omega | (apply_assumption <;> with_reducible assumption)))
local macro_rules | `(tactic| walk_at "ev") => `(tactic| first
  | with_reducible assumption
  | with_reducible exact FL.x_c
  | with_reducible exact FL.x_g
  | ((with_reducible apply FL.x_vd); walk_at "get"; done)
  | ((with_reducible apply FL.x_vo); walk_at "get"; done)
  | ((with_reducible apply FL.x_op); (· walk_at "ev"); (· walk_at "ev"); (· walk_at "view"); (· walk_at "view"); (· walk_at "bin"))
  | ((with_reducible apply FL.x_ix); (· walk_at "ev"); (· walk_at "ev"); (· walk_at "view"); (· walk_at "view"); (· walk_at "itm"))
  | ((with_reducible apply FL.x_cm); (· walk_at "ev"); (· walk_at "ev"); (· walk_at "view"); (· walk_at "view"); (· walk_at "cmp"))
  | ((with_reducible apply FL.x_fld); (· walk_at "ev"); (· walk_at "view"); (· walk_at "fld"))
  | ((with_reducible apply FL.x_neg); (· walk_at "ev"))
  | ((with_reducible apply FL.x_calld); (· walk_at "evs"); (· walk_at "cl"))
  | ((with_reducible apply FL.x_callo); (· walk_at "evs"); (· walk_at "cl"))
  | ((with_reducible apply FL.x_b1); (· walk_at "ev"); (· walk_at "view"); (· walk_at "blt"))
  | ((with_reducible apply FL.x_b2); (· walk_at "ev"); (· walk_at "ev"); (· walk_at "view"); (· walk_at "view"); (· walk_at "blt"))
  | ((with_reducible apply FL.x_tup); (· walk_at "evs"))
  | ((with_reducible apply FL.x_lst); (· walk_at "evs"))
  | ((with_reducible apply FL.x_isi); (· walk_at "ev"); (· walk_at "view"); (· walk_at "isi"))
  | ((with_reducible apply FL.x_mt); (· walk_at "get"); (· walk_at "evs"); (· walk_at "get"); (· walk_at "mt"); (· walk_at "put"))
  | ((with_reducible apply FL.x_mk); (· walk_at "evs"); (· walk_at "cl"))
  | ((with_reducible apply FL.x_trgT); (· walk_at "evs"); (· first | exact FL.rgA_1 | exact FL.rgA_2); (· walk_at "trl"))
  | ((with_reducible apply FL.x_notF); (· walk_at "ev"))
  | ((with_reducible apply FL.x_notT); (· walk_at "ev"))
  | ((with_reducible apply FL.x_not); (· walk_at "ev"))
  | ((with_reducible apply FL.x_andT); (· walk_at "ev"); (· walk_at "ev"))
  | ((with_reducible apply FL.x_andF); (· walk_at "ev"))
  | ((with_reducible apply FL.x_orF); (· walk_at "ev"); (· walk_at "ev"))
  | ((with_reducible apply FL.x_orT); (· walk_at "ev"))
  | ((with_reducible apply FL.x_iteT); (· walk_at "ev"); (· walk_at "ev"))
  | ((with_reducible apply FL.x_iteF); (· walk_at "ev"); (· walk_at "ev"))
  | ((with_reducible apply FL.x_chT); (· walk_at "ev"); (· walk_at "ev"); (· walk_at "view"); (· walk_at "view"); (· walk_at "cmp"); (· walk_at "ev"); (· walk_at "view"); (· walk_at "view"); (· walk_at "cmp"))
  | ((with_reducible apply FL.x_chF); (· walk_at "ev"); (· walk_at "ev"); (· walk_at "view"); (· walk_at "view"); (· walk_at "cmp"))
  | ((with_reducible apply FL.x_sl); (· walk_at "ev"); (· walk_at "evo"); (· walk_at "evo"); (· walk_at "view"); (· walk_at "slc"))
  | ((with_reducible apply FL.x_rev); (· walk_at "ev"); (· walk_at "evo"); (· walk_at "view"); (· walk_at "slc"))
  | ((with_reducible apply FL.x_hd); (· walk_at "get"); (· walk_at "evs"); (· walk_at "get"); (· walk_at "cl"); (· walk_at "put"))
  | ((with_reducible apply FL.x_ho); (· walk_at "get"); (· walk_at "evs"); (· walk_at "get"); (· walk_at "cl"); (· walk_at "put"))
  | ((with_reducible apply FL.x_eqv); (· walk_at "ev"); (· walk_at "frz"); (· walk_at "ev"); (· walk_at "frz"); (· walk_at "cl"))
  | ((with_reducible apply FL.x_neF); (· walk_at "ev"); (· walk_at "frz"); (· walk_at "ev"); (· walk_at "frz"); (· walk_at "cl"))
  | ((with_reducible apply FL.x_neT); (· walk_at "ev"); (· walk_at "frz"); (· walk_at "ev"); (· walk_at "frz"); (· walk_at "cl"))
  | ((with_reducible apply FL.x_lc); (· walk_at "evi"); (· walk_at "lst"); (· rfl); (· walk_at "len"); (· intro i hi; walk_at "mem"; walk_at "turn"))
  | ((with_reducible apply FL.x_lcf); (· walk_at "evi"); (· walk_at "lst"); (· rfl); (· walk_at "len"); (· intro i hi; walk_at "mem"; walk_at "turc"))
  | with_reducible exact FL.x_dnew)
local macro_rules | `(tactic| walk_at "lst") => `(tactic| first | with_reducible assumption | rfl | exact FL.map_self _)
local macro_rules | `(tactic| walk_at "len") => `(tactic| first | with_reducible assumption | (rw [FL.rgI_len]; omega) | (simp; omega) | (simp; done) | omega)
local macro_rules | `(tactic| walk_at "mem") => `(tactic| first | (have hr := FL.rgI_mem.mp ‹_ ∈ FL.rgI _ _›) | skip)
local macro_rules | `(tactic| walk_at "wps") => `(tactic| repeat (first | exact FL.WipsR.nil | exact FL.WipR.z | apply FL.WipR.s | apply FL.WipsR.cons))
local macro_rules | `(tactic| walk_at "turn") => `(tactic| first | with_reducible assumption | (apply FL.turn_mk; (· walk_at "wps"); (· walk_at "bind"); (· walk_at "ev"); (· walk_at "frz"); (· rfl)))
local macro_rules | `(tactic| walk_at "turc") => `(tactic| first | with_reducible assumption | (apply FL.turn_T; (· walk_at "wps"); (· walk_at "bind"); (· walk_at "ev"); (· walk_at "ev"); (· walk_at "frz"); (· rfl)) | (apply FL.turn_F; (· walk_at "wps"); (· walk_at "bind"); (· walk_at "ev"); (· rfl)) | (apply FL.turn_G; (· walk_at "wps"); (· walk_at "bind"); (· walk_at "ev"); (· walk_at "ev"); (· walk_at "frz"); (· rfl); (· rfl)))
local macro_rules | `(tactic| walk_at "slc") => `(tactic| first | with_reducible assumption | with_reducible exact FL.sl_it | with_reducible exact FL.sl_il | exact (rfl : FL.sliceOf _ _ _ = _) | exact (rfl : FL.revOf _ _ = _))
local macro_rules | `(tactic| walk_at "mt") => `(tactic| first | with_reducible assumption | with_reducible exact FL.app_m (by walk_at "sd") | exact FL.app_l (by walk_at "sd") | exact FLW.ext_l (by walk_at "sd") | exact (rfl : FL.mtf FL.Mt.count _ _ = some _) | exact (rfl : FL.mtf FL.Mt.index _ _ = some _))
local macro_rules | `(tactic| walk_at "evo") => `(tactic| first | with_reducible exact FL.x_on | ((with_reducible apply FL.x_os); (· walk_at "ev")))
local macro_rules | `(tactic| walk_at "evs") => `(tactic| first
  | with_reducible assumption
  | with_reducible exact FL.x_nil
  | ((with_reducible apply FL.x_cons); (· walk_at "ev"); (· walk_at "frz"); (· walk_at "evs")))
local macro_rules | `(tactic| walk_at "evk") => `(tactic| first
  | with_reducible exact FL.x_knil
  | ((with_reducible apply FL.x_kcons); (· walk_at "ev"); (· walk_at "keep"); (· walk_at "evk")))
local macro_rules | `(tactic| walk_at "evi") => `(tactic| first
  | with_reducible assumption
  | ((with_reducible apply FL.x_irng); (· walk_at "evs"); (· first | exact FL.rng_1 (by omega) (by omega) | exact FL.rng_2 (by omega) (by omega) (by omega) (by omega)))
  | ((with_reducible apply FL.x_ie); (· walk_at "ev"); (· walk_at "frz"); (· rfl))
  | ((with_reducible apply FL.x_izip); (· walk_at "evs"); (· first | with_reducible exact FL.zip_i | rfl))
  | ((with_reducible apply FL.x_ienum); (· walk_at "evs"); (· rfl)))
local macro_rules | `(tactic| walk_at "puts") => `(tactic| first | exact FL.PutsR.nil | (apply FL.PutsR.cons; (· rfl); (· walk_at "put"); (· walk_at "puts")))
local macro_rules | `(tactic| walk_at "putd") => `(tactic| first | exact FL.PutDR.nil | (apply FL.PutDR.cons; (· rfl); (· walk_at "put"); (· walk_at "putd")))
local macro_rules | `(tactic| walk_at "bind") => `(tactic| first | (apply FL.BindR.v; (· rfl); (· walk_at "put")) | (apply FL.BindR.t; (· walk_at "putd")))
local macro_rules | `(tactic| walk_at "ex") => `(tactic| first
  | with_reducible assumption
  | ((with_reducible apply FL.x_asg); (· walk_at "ev"); (· walk_at "keep"); (· rfl); (· walk_at "put"))
  | ((with_reducible apply FL.x_par); (· walk_at "evk"); (· walk_at "puts"))
  | ((with_reducible apply FL.x_asgT); (· walk_at "ev"); (· walk_at "bind"))
  | ((with_reducible apply FL.x_expr); (· walk_at "ev"))
  | ((with_reducible apply FL.x_ifF); (· walk_at "ev"); (· walk_at "exs"))
  | ((with_reducible apply FL.x_ifT); (· walk_at "ev"); (· walk_at "exs")))
local macro_rules | `(tactic| walk_at "exs") => `(tactic| first
  | with_reducible assumption
  | with_reducible exact FL.exs_nil
  | ((with_reducible apply FL.nx); (· walk_at "ex"); (· walk_at "exs")))
local macro_rules | `(tactic| walk_at "ret") => `(tactic| first | exact FL.RetR.d | exact FL.RetR.o rfl | (refine FL.RetR.s rfl rfl ?_; walk_at "get"; done))
local macro_rules | `(tactic| walk_at "en") => `(tactic| first
  | with_reducible assumption
  | ((with_reducible apply FL.e_ret); (· walk_at "ev"); (· walk_at "ret"); (· first | (intro _; rfl) | (intro q; cases q)))
  | ((with_reducible apply FL.e_nx); (· walk_at "ex"); (· walk_at "en"))
  | ((with_reducible apply FL.e_ifT); (· walk_at "ev"); (· walk_at "en"))
  | ((with_reducible apply FL.e_ifF); (· walk_at "ev"); (· walk_at "en")))
local macro_rules | `(tactic| walk_at "trl") => `(tactic| first | with_reducible assumption | (apply_assumption; done) | (rw [List.length_map, FL.rgI_len]; unfold FL.lim; omega))
local macro_rules | `(tactic| walk_at "tt") => `(tactic| first | rfl | assumption | (simp only [decide_eq_true_eq, decide_eq_false_iff_not, Bool.not_eq_true', Bool.not_eq_false', Bool.and_eq_true, Bool.or_eq_true, bne_iff_ne, ne_eq, Bool.not_not]; omega))
local macro_rules | `(tactic| walk_at "ff") => `(tactic| first | rfl | assumption | (simp only [decide_eq_true_eq, decide_eq_false_iff_not, Bool.not_eq_true', Bool.not_eq_false', Bool.and_eq_false_iff, Bool.or_eq_false_iff, Bool.and_eq_true, Bool.or_eq_true, Bool.not_not]; omega))
local macro_rules | `(tactic| walk_at "sc") => `(tactic| first | with_reducible assumption | omega | (simp; done) | (simp; omega) | rfl)
local macro_rules | `(tactic| walk_at "w1") => `(tactic| first
  | with_reducible apply FLW.xs_cons
  | with_reducible apply FLW.nx_n
  | with_reducible apply FLW.nx_r
  | with_reducible apply FLW.w_c
  | ((with_reducible apply FLW.w_vd); (· walk_at "get"); skip)
  | ((with_reducible apply FLW.w_vo); (· walk_at "get"); skip)
  | with_reducible apply FLW.w_op
  | with_reducible apply FLW.w_ix
  | with_reducible apply FLW.w_cm
  | ((with_reducible apply FLW.two); (· walk_at "view"); (· walk_at "view"); (· first | walk_at "bin" | walk_at "itm" | walk_at "blt" | exact (rfl : FL.binop FL.Op.pow _ _ = _)); skip)
  | ((with_reducible apply FLW.cmp_i); (· walk_at "view"); (· walk_at "view"); (· walk_at "cmp"); skip)
  | ((with_reducible apply FLW.one); (· walk_at "view"); (· first | walk_at "blt" | walk_at "fld" | walk_at "slc"); skip)
  | with_reducible apply FLW.ws_cons
  | ((with_reducible apply FLW.fr); (· walk_at "frz"); skip)
  | with_reducible apply FLW.ws_nil
  | with_reducible apply FLW.w_call
  | ((with_reducible apply FLW.cl_d); (· walk_at "cl"); skip)
  | ((with_reducible apply FLW.cl_o); (· walk_at "cl"); skip)
  | with_reducible apply FLW.x_asg'
  | ((with_reducible apply FLW.kp); (· walk_at "keep"); skip)
  | ((with_reducible apply FLW.pt); (· rfl); (· walk_at "put"); skip)
  | with_reducible apply FLW.x_ret'
  | with_reducible apply FLW.rt_d
  | ((with_reducible apply FLW.rt_o); (· rfl); skip)
  | ((with_reducible apply FLW.rt_s); (· rfl); (· rfl); (· walk_at "get"); skip)
  | with_reducible apply FLW.x_if'
  | with_reducible apply FLW.flag
  | ((with_reducible apply FLW.brT); (· walk_at "tt"); skip)
  | ((with_reducible apply FLW.brF); (· walk_at "ff"); skip)
  | (with_reducible apply FLW.br <;> (intro hbr; try simp only [decide_eq_true_eq, decide_eq_false_iff_not, Bool.not_eq_true', Bool.not_eq_false', Bool.and_eq_true, Bool.or_eq_true, Bool.and_eq_false_iff, Bool.or_eq_false_iff, Bool.not_not] at hbr))
  | with_reducible apply FLW.xs_nil
  | with_reducible apply FLW.w_g
  | with_reducible apply FLW.w_fld
  | with_reducible apply FLW.w_b1
  | with_reducible apply FLW.w_b2
  | with_reducible apply FLW.w_tup
  | with_reducible apply FLW.w_lst
  | with_reducible apply FLW.w_isi
  | ((with_reducible apply FLW.isi_i); (· walk_at "view"); (· walk_at "isi"); skip)
  | ((with_reducible apply FLW.w_andP); (· walk_at "ev"); (· intro _; walk_at "ev"); skip)
  | ((with_reducible apply FLW.w_orP); (· walk_at "ev"); (· intro _; walk_at "ev"); skip)
  | with_reducible apply FLW.w_not
  | with_reducible apply FLW.w_and
  | with_reducible apply FLW.w_or
  | with_reducible apply FLW.w_neg
  | with_reducible apply FLW.w_ch
  | ((with_reducible apply FLW.chn_p); (· walk_at "view"); (· walk_at "view"); (· walk_at "cmp"); (· walk_at "ev"); (· walk_at "view"); (· walk_at "cmp"); skip)
  | ((with_reducible apply FLW.chn); (· walk_at "view"); (· walk_at "view"); (· walk_at "cmp"); (· intro hbr; try simp only [decide_eq_true_eq, decide_eq_false_iff_not] at hbr); (· intro hbr; try simp only [decide_eq_true_eq, decide_eq_false_iff_not] at hbr))
  | with_reducible apply FLW.w_ite
  | with_reducible apply FLW.w_sl
  | with_reducible apply FLW.w_rev
  | with_reducible apply FLW.w_on
  | with_reducible apply FLW.w_os
  | ((with_reducible apply FLW.w_callH); (· walk_at "get"); skip)
  | ((with_reducible apply FLW.chq); (· walk_at "get"); (· walk_at "ch"); (intro _ _; walk_at "ds"; refine ⟨_, by walk_at "put", ?_⟩; try dsimp only [FL.svA]))
  | ((with_reducible apply FLW.cl_n); (· walk_at "cl"); (intro _; walk_at "ds"; try dsimp only [FL.svA]))
  | with_reducible apply FLW.w_mk
  | ((with_reducible apply FLW.w_mt); (· walk_at "get"); skip)
  | ((with_reducible apply FLW.mth); (· walk_at "get"); (· walk_at "mt"); (· walk_at "put"); skip)
  | with_reducible apply FLW.w_dnew
  | with_reducible apply FLW.w_trgT
  | with_reducible apply FLW.w_trgF
  | with_reducible apply FLW.w_eqm
  | ((with_reducible apply FLW.w_d1d); (· walk_at "get"); skip)
  | with_reducible apply FLW.w_xis
  | ((with_reducible apply FLW.w_act); (· rfl); skip)
  | with_reducible apply FLW.w_lamI
  | with_reducible apply FLW.w_dc
  | with_reducible apply FLW.w_nset
  | ((with_reducible apply FLW.w_lam); (· rfl); (try dsimp only [FL.dropO, List.map]); skip)
  | ((with_reducible apply FLW.cl_x); (· walk_at "cl"); (try dsimp only); skip)
  | ((with_reducible apply FLW.ex_l); (· walk_at "frz"); skip)
  | with_reducible apply FLW.x_expr'
  | with_reducible apply FLW.x_par'
  | with_reducible apply FLW.x_asgT'
  | with_reducible apply FLW.wk_cons
  | with_reducible apply FLW.wk_nil
  | with_reducible apply FLW.x_setIx'
  | ((with_reducible apply FLW.six); (· walk_at "get"); (· first | with_reducible assumption | rfl | walk_at "ixn"); (· walk_at "put"); skip)
  | ((with_reducible apply FLW.sixD); (· walk_at "get"); (· first | assumption | rfl); (· first | with_reducible assumption | omega | (simp; omega) | (simp; done)); (· walk_at "put"); skip)
  | with_reducible apply FLW.x_setFld'
  | ((with_reducible apply FLW.x_augA); (· walk_at "get"); skip)
  | ((with_reducible apply FLW.x_augS); (· walk_at "get"); skip)
  | with_reducible apply FLW.x_pass'
  | with_reducible apply FLW.x_retN'
  | with_reducible apply FLW.x_brk'
  | with_reducible apply FLW.x_cnt'
  | with_reducible apply FLW.x_rse'
  | ((with_reducible apply FLW.x_try'); (· rfl); skip)
  | with_reducible apply FLW.nx_b
  | with_reducible apply FLW.nx_c
  | with_reducible apply FLW.lp_n
  | with_reducible apply FLW.lp_r
  | with_reducible apply FLW.lp_b
  | with_reducible apply FLW.lp_c
  | with_reducible apply FLW.wi_e
  | with_reducible apply FLW.wi_rng
  | with_reducible apply FLW.wi_rrng
  | with_reducible apply FLW.wi_zip
  | with_reducible apply FLW.wi_enum
  | with_reducible apply FLW.x_for'
  | with_reducible apply FLW.w_lcm
  | with_reducible apply FLW.w_lcf
  | ((with_reducible apply FLW.lcm); (· walk_at "lst"); (· rfl); (· walk_at "len"); (· intro i hi; walk_at "mem"; walk_at "tu"); skip)
  | ((with_reducible apply FLW.lcf); (· walk_at "lst"); (· rfl); (· walk_at "len"); (· intro i hi; walk_at "mem"; walk_at "tc"); skip)
  | (walk_at "wex"))
-- what remains as a statement that something is
local macro_rules | `(tactic| walk_at "wex") => `(tactic| first
  | ((with_reducible apply FLW.ex_i); (· first | with_reducible rfl | exact FL.rng_1 (by omega) (by omega) | exact FL.rng_2 (by omega) (by omega) (by omega) (by omega) | with_reducible exact FL.zip_i | with_reducible exact FLW.sq_t | with_reducible exact FLW.sq_l | with_reducible exact FLW.sq_f | with_reducible exact FLW.sq_k | with_reducible exact FLW.en_t | with_reducible exact FLW.en_l | with_reducible exact FLW.zi_tt | with_reducible exact FLW.zi_tl | with_reducible exact FLW.zi_lt | with_reducible exact FLW.zi_ll | walk_at "puts" | walk_at "cl"); skip)
  | ((with_reducible apply FLW.ex_j); (· first | exact FL.rgA_1 | exact FL.rgA_2 | exact FL.rng_1 (by omega) (by omega)); (· walk_at "trl"); skip)
  | ((with_reducible apply FLW.ex_k); (· first | with_reducible rfl | with_reducible exact Or.inl rfl | with_reducible exact Or.inr ⟨_, rfl, rfl⟩); (· walk_at "bind"); skip)
  | ((with_reducible apply FLW.ex_h); (· walk_at "get"); skip)
  | ((with_reducible apply FLW.ex_f); (· walk_at "get"); (· rfl); (· simp); (· walk_at "put"); skip)
  | (refine ⟨rfl, ?_, ?_, ?_⟩; (· simp; done); (· first | decide | omega); try dsimp only [List.set])
  | ((with_reducible refine ⟨rfl, ?_⟩); try dsimp only)
  | fail)
local macro_rules | `(tactic| walk_at "ws") => `(tactic| repeat' (walk_at "w1"))
local macro_rules | `(tactic| walk_at "tu") => `(tactic| (apply FLW.tu; (· walk_at "wps"); (· walk_at "bind"); walk_at "ws"; (first | ((with_reducible apply FLW.ex_i); (· walk_at "frz"); (· rfl); done) | skip)))
local macro_rules | `(tactic| walk_at "tc") => `(tactic| (apply FLW.tuC; (· walk_at "wps"); (· walk_at "bind"); walk_at "ws"; (first | ((first | refine ⟨rfl, ?_, rfl⟩ | refine ⟨?_, rfl⟩); intro hb; walk_at "ws"; ((with_reducible apply FLW.ex_i); (· walk_at "frz"); (· rfl); done)) | skip)))
local macro_rules | `(tactic| walk_at "ch") => `(tactic| first | with_reducible assumption | (apply_assumption <;> walk_at "sc"))
local macro_rules | `(tactic| walk_at "ixn") => `(tactic| (unfold FL.ixN; rw [if_pos (by omega), if_pos (by omega)]))
local macro_rules | `(tactic| walk_at "st") => `(tactic| simp only [FL.start, List.map_cons, List.map_nil, List.nil_append, List.cons_append, List.length_cons, List.length_nil, List.replicate_succ, List.replicate_zero, Nat.zero_add, Nat.reduceAdd, Nat.reduceSub])
local macro_rules | `(tactic| walk_at "ds") => `(tactic| ((repeat (first | (with_reducible refine FLW.i_and ?_; intro _) | (with_reducible refine FLW.i_ex ?_; intro _))); (first | with_reducible refine FLW.i_tr ?_ | intro _); subst_vars))
local macro_rules | `(tactic| walk_at "th") => `(tactic| (refine ⟨_, by walk_at "put", ?_⟩; apply FLW.tuH; (· walk_at "wps"); (· walk_at "bind"); walk_at "ws"; (try ((apply FLW.tuE); (· walk_at "frz"); (· assumption); (· rfl); skip))))
namespace K37
open PySem FL KM FLW
abbrev P : Nat → Option Fn := FL.Pr G.T
abbrev Q_int (C : Calls) : Prop := ∀ i : Int, C 1 none [.int i] = .ok (.d (.bl true)) none
theorem f_int : ∀ {k : Nat}, 1 ≤ k → Q_int (callF P k)
  | k + 1, _ => fun i => by
    refine run_w (n := 1) (np := 1) (b := B1) rfl rfl ?_
    generalize callF P k = C
    walk_at "st"
    unfold B1
    walk_at "ws"
    rfl
def isI : FL.D → Bool
  | .int _ => true
  | _ => false
def nf : FL.D → Bool
  | .fz _ => false
  | _ => true
abbrev Q_intA (C : Calls) : Prop := ∀ d, nf d = true → C 1 none [d] = .ok (.d (.bl (isI d))) none
theorem f_intA : ∀ {k : Nat}, 1 ≤ k → Q_intA (callF P k)
  | k + 1, _ => fun d hd => by
    refine run_w (n := 1) (np := 1) (b := B1) rfl rfl ?_
    generalize callF P k = C
    walk_at "st"
    unfold B1
    cases d
    all_goals first | (cases hd; done) | walk_at "ws"
    all_goals rfl
/-! ### the hand -/
abbrev Q_draw (C : Calls) : Prop := ∀ h m, Hand h → 1 ≤ m → m ≤ 1000000 → CH C 15 h [.int m] fun v h' => Hand h' ∧ ∃ r : Int, v = .d (.int r) ∧ 0 ≤ r ∧ r < m ∧ True
theorem f_draw : ∀ {k : Nat}, 1 ≤ k → Q_draw (callF P k)
  | k + 1, hk => fun h m H h1 h2 => by
    obtain ⟨cs, p, g, sd, c, rfl, hp, hc⟩ := HandE H
    have q1 : okMul sd 69621 = true := okMul_r (by decide) (by decide)
    have qm0 : ∀ i : Int, okMul i 40692 = true := fun i => okMul_r (by decide) (by decide)
    have qm1 : ∀ i : Int, okMul 7919 i = true := fun i => okMul_l (by decide) (by decide)
    have qm2 : ∀ i : Int, okMul i 48271 = true := fun i => okMul_r (by decide) (by decide)
    have hm : ∀ i : Int, 0 ≤ i.fmod m ∧ i.fmod m < m := fun i => ⟨fm0 h1, fm1 h1⟩
    have hd : okDiv m = true := okDiv_s h1 h2
    have qm3 : ∀ i j : Int, okMul (i.fmod 2147483647) j = true := fun i j => okMul_b (fm0 (by decide)) (by have := fm1 (d := i) (m := 2147483647) (by decide); omega)
    have hi : p < cs.length → ∃ i, itemD (.lst cs) (.int p) = some (.d (.int i)) := fun hl => by
      have hlt : p.toNat < cs.length := by omega
      obtain ⟨i, ei⟩ := hc cs[p.toNat] (List.getElem_mem hlt)
      refine ⟨i, ?_⟩
      show (ixAt cs p).map AV.d = _
      unfold ixAt ixN
      rw [if_pos hp, if_pos hl]
      simp only [Option.bind]
      rw [List.getElem?_eq_getElem hlt, ei]
      rfl
    refine run_wH (n := 5) (np := 1) (b := B15) rfl rfl ?_
    generalize callF P k = C
    walk_at "st"
    unfold HD
    unfold B15
    walk_at "ws"
    · rename_i hb
      obtain ⟨i, e0⟩ := hi hb.2
      walk_at "ws"
      all_goals exact ⟨_, _, rfl, rfl, ⟨_, _, _, _, _, rfl, by omega, hc⟩, _, rfl, (hm _).1, (hm _).2, trivial⟩
    all_goals exact ⟨_, _, rfl, rfl, ⟨_, _, _, _, _, rfl, hp, hc⟩, _, rfl, (hm _).1, (hm _).2, trivial⟩
abbrev Q_any (C : Calls) : Prop := ∀ h ds, Hand h → ds ≠ [] → ds.length ≤ 1000 → CH C 16 h [.lst ds] fun v h' => Hand h' ∧ ∃ x, v = .d x ∧ x ∈ ds ∧ True
theorem f_any : ∀ {k : Nat}, 2 ≤ k → Q_any (callF P k)
  | k + 1, hk => fun h ds H hn hl => by
    have q1 := f_draw (k := k) (by omega)
    have hp : 1 ≤ ds.length := by
      cases ds with
      | nil => exact absurd rfl hn
      | cons _ _ => simp
    have hi : ∀ r : Int, 0 ≤ r → r < ds.length → ∃ x, x ∈ ds ∧ itemD (.lst ds) (.int r) = some (.d x) := fun r r1 r2 => by
      have hr : r.toNat < ds.length := by omega
      refine ⟨ds[r.toNat], List.getElem_mem hr, ?_⟩
      show (ixAt ds r).map AV.d = _
      unfold ixAt ixN
      rw [if_pos r1, if_pos r2]
      simp only [Option.bind]
      rw [List.getElem?_eq_getElem hr]
      rfl
    refine run_wH (n := 2) (np := 1) (b := B16) rfl rfl ?_
    generalize callF P k = C at q1 ⊢
    walk_at "st"
    unfold B16
    walk_at "ws"
    rename_i h' H' r r1 r2
    obtain ⟨x, hx, e0⟩ := hi r r1 r2
    walk_at "ws"
    exact ⟨_, _, rfl, rfl, H', x, rfl, hx, trivial⟩
abbrev Q_hand (C : Calls) : Prop := ∀ ns : List Int, ns.length ≤ 63 → CN C 14 [.fz (zs ns)] fun v => ∃ h, v = .o h ∧ Hand h ∧ True
theorem f_hand : ∀ {k : Nat}, 1 ≤ k → Q_hand (callF P k)
  | k + 1, hk => fun ns hl => by
    have hz : (zs ns).length = ns.length := by unfold zs; rw [List.length_map]
    have e1 : sliceOf (.fz (zs ns)) none (some 63) = some (.o (.lst (zs ns))) := by show some (AV.o (D.lst (cut (zs ns) none (some 63)))) = _; rw [cut_all (by omega)]
    first | refine run_wN (n := 2) (np := 1) (b := B14) rfl rfl ?_ | refine run_wN (n := 3) (np := 1) (b := B14) rfl rfl ?_
    generalize callF P k = C
    walk_at "st"
    unfold B14
    walk_at "ws"
    exact ⟨⟨_, _, _, _, _, rfl, by decide, fun d hd => by
      obtain ⟨i, _, rfl⟩ := List.mem_map.mp hd
      exact ⟨_, rfl⟩⟩, trivial⟩
end K37

set_option maxHeartbeats 1000000
namespace K37
open PySem FL KM FLW
theorem gcd_step {a b : Int} (ha : 0 ≤ a) (hb : 0 < b) : Int.gcd b (a.fmod b) = Int.gcd a b := by
  obtain ⟨m, rfl⟩ := Int.eq_ofNat_of_zero_le ha
  obtain ⟨n, rfl⟩ := Int.eq_ofNat_of_zero_le (Int.le_of_lt hb)
  rw [fm (by omega)]
  show Nat.gcd n (m % n) = Nat.gcd m n
  rw [Nat.gcd_comm n, ← Nat.gcd_rec, Nat.gcd_comm]
abbrev Q_gcd (C : Calls) : Prop := ∀ a b : Int, C 2 none [.int a, .int b] = .ok (.d (.int (Int.gcd a b))) none
theorem f_gcd : ∀ {k : Nat}, 1 ≤ k → Q_gcd (callF P k)
  | k + 1, _ => fun a b => by
    refine run_w (n := 2) (np := 2) (b := B2) rfl rfl ?_
    generalize callF P k = C
    walk_at "st"
    unfold B2
    walk_at "ws"
    refine x_while' (fun n s => ∃ c d : Int, s = [some (.d (.int c)), some (.d (.int d))] ∧ 0 ≤ c ∧ 0 ≤ d ∧ Int.gcd c d = Int.gcd a b ∧ d < n) (b.natAbs + 1) ⟨_, _, rfl, by omega, by omega, rfl, by omega⟩ ?_
    rintro n _ ⟨c, d, rfl, h1, h2, h3, h4⟩
    walk_at "ws"
    · rename_i hd
      have := fm0 (d := c) (m := d) (by omega)
      have := fm1 (d := c) (m := d) (by omega)
      refine ⟨n - 1, by omega, ?_⟩
      walk_at "ws"
      exact ⟨_, _, rfl, h2, by assumption, (gcd_step h1 hd).trans h3, by omega⟩
    · have : d = 0 := by omega
      subst this
      rw [Int.gcd_zero_right] at h3
      rw [← h3]
      congr 4
      omega
abbrev Q_frac (C : Calls) : Prop := ∀ t b : Int, 1 ≤ b → b ≤ 1000000000 → C 3 none [.int t, .int b] = .ok (.d (dp (rd t b))) none
theorem f_frac : ∀ {k : Nat}, 2 ≤ k → Q_frac (callF P k)
  | k + 1, hk => fun t b h1 h2 => by
    obtain ⟨g1, g2, g3, g4⟩ := gcd_ok (t := t) h1 h2
    have q1 := f_gcd (k := k) (by omega)
    refine run_w (n := 3) (np := 2) (b := B3) rfl rfl ?_
    generalize callF P k = C at q1 ⊢
    walk_at "st"
    unfold B3
    walk_at "ws"
    rfl
/-- the two parts of a pair -/
theorem dp_0 (p : Int × Int) : itemD (dp p) (.int 0) = some (.d (.int p.1)) := rfl
theorem dp_1 (p : Int × Int) : itemD (dp p) (.int 1) = some (.d (.int p.2)) := rfl
end K37

set_option maxHeartbeats 1000000
namespace K37
open PySem FL KM FLW
open K37P (pl pls pls_len pls_s pls_mem pl_lt nn patB)
def kvs (ms : List Int) (i : Nat) : List (FL.D × FL.D) := (pls ms i).map fun p : Nat => (FL.D.int (p : Int), FL.D.bl true)
theorem kvs_has (ms : List Int) (i : Nat) (p : Nat) : dHas (.int (p : Int)) (kvs ms i) = decide (p ∈ pls ms i) := by
  unfold dHas kvs
  rw [List.any_map]
  rw [Bool.eq_iff_iff, List.any_eq_true, decide_eq_true_eq]
  constructor
  · rintro ⟨x, hx, e⟩
    have e' : ((x : Int) == (p : Int)) = true := e
    have : x = p := by have := eq_of_beq e'; omega
    exact this ▸ hx
  · intro h
    exact ⟨p, h, by show ((p : Int) == (p : Int)) = true; simp⟩
theorem kvs_s {ms : List Int} {i : Nat} (h : ¬ pl ms i ∈ pls ms i) : dPut (.int ((pl ms i : Nat) : Int)) (.bl true) (kvs ms i) = kvs ms (i + 1) := by
  unfold dPut
  rw [kvs_has, decide_eq_false h, if_neg (by decide)]
  unfold kvs
  rw [pls_s, List.map_append]
  rfl
theorem kvs_len (ms : List Int) (i : Nat) : (kvs ms i).length = i := by unfold kvs; rw [List.length_map, pls_len]
abbrev Q_plm (C : Calls) : Prop := ∀ ms : List Int, 1 ≤ ms.length → ms.length ≤ 8 → CN C 4 [.tup (zs ms)] fun v => ∃ L : List FL.D, v = .o (.lst L) ∧ (L.length = ms.length ↔ (pls ms ms.length).Nodup) ∧ True
theorem f_plm : ∀ {k : Nat}, 1 ≤ k → Q_plm (callF P k)
  | k + 1, _ => fun ms l1 l8 => by
    have o1 : okDiv (ms.length : Int) = true := okDiv_s (by omega) (by omega)
    refine run_wN (n := 3) (np := 1) (b := B4) rfl rfl ?_
    generalize callF P k = C
    walk_at "st"
    unfold B4
    walk_at "ws"
    refine x_while' (fun m s => ∃ i : Nat, s = [some (.d (.tup (zs ms))), some (.o (.dct false (kvs ms i))), some (.d (.int ((pl ms i : Nat) : Int)))] ∧ (pls ms i).Nodup ∧ i + m = ms.length) ms.length ⟨0, rfl, List.Pairwise.nil, by omega⟩ ?_
    rintro m _ ⟨i, rfl, nd, hm⟩
    have c1 : cmp .notin (.int ((pl ms i : Nat) : Int)) (.dct false (kvs ms i)) = some (!decide (pl ms i ∈ pls ms i)) := by
      show (inD (.int ((pl ms i : Nat) : Int)) (.dct false (kvs ms i))).map (!·) = _
      show (some (dHas (.int ((pl ms i : Nat) : Int)) (kvs ms i))).map (!·) = _
      rw [kvs_has]
      rfl
    have pt := pl_lt l1 i
    have i1 := it_i (l := ms) (i := ((pl ms i : Nat) : Int)) (by omega) (by omega)
    have b1 : bltin .list [.dct false (kvs ms i)] = some (.o (.lst ((kvs ms i).map Prod.fst))) := rfl
    by_cases hp : pl ms i ∈ pls ms i
    · rw [decide_eq_true hp] at c1
      walk_at "ws"
      rw [List.length_map, kvs_len]
      refine ⟨⟨fun e => by rw [← e]; exact nd, fun h => ?_⟩, trivial⟩
      obtain ⟨j, hj, e⟩ := pls_mem.mp hp
      have inj := K37P.nodup_map.mp h
      by_cases hi : i < ms.length
      · have := inj j i (by omega) hi e
        omega
      · omega
    · rw [decide_eq_false hp] at c1
      have nd2 : (pls ms (i + 1)).Nodup := by
        rw [pls_s]
        unfold List.Nodup
        rw [List.pairwise_append]
        exact ⟨nd, List.pairwise_singleton _ _, fun a ha b hb => by rw [List.mem_singleton.mp hb]; exact fun e => hp (e ▸ ha)⟩
      have pg := K37P.pigeon _ ms.length nd2 fun x hx => by
        obtain ⟨j, _, rfl⟩ := pls_mem.mp hx
        exact pl_lt l1 j
      rw [pls_len] at pg
      have dp := kvs_s hp
      have kl := kvs_len ms i
      have e1 : ((K37P.nx ms (pl ms i) : Nat) : Int) = (ms.getD ((pl ms i : Nat) : Int).toNat 0).fmod (ms.length : Int) := by
        have := fm0 (d := ms.getD (pl ms i) 0) (m := (ms.length : Int)) (by omega)
        unfold K37P.nx
        rw [Int.toNat_natCast]
        omega
      walk_at "ws"
      refine ⟨m - 1, by omega, ?_⟩
      walk_at "ws"
      exact ⟨i + 1, by rw [dp, ← e1]; rfl, nd2, by omega⟩
/-- what a thing is, as both look at it -/
inductive Th : FL.D → Bool → Prop where
  | nt {x : FL.D} (h : isiAny x [.tuple] = some false) : Th x false
  | ln {ds : List FL.D} (h : ¬ (1 ≤ ds.length ∧ ds.length ≤ 8)) : Th (.tup ds) false
  | ni {ds : List FL.D} (h1 : 1 ≤ ds.length) (h8 : ds.length ≤ 8) (hn : ∀ d ∈ ds, nf d = true) (h : ds.all isI = false) : Th (.tup ds) false
  | ok {ms : List Int} (h1 : 1 ≤ ms.length) (h8 : ms.length ≤ 8) : Th (.tup (zs ms)) (patB ms)
theorem zs_isI (ms : List Int) : (zs ms).all isI = true := by unfold zs; rw [List.all_map]; exact List.all_eq_true.mpr fun _ _ => rfl
theorem zs_nf (ms : List Int) : ∀ d ∈ zs ms, nf d = true := fun d h => by
  obtain ⟨i, _, rfl⟩ := List.mem_map.mp h
  rfl
theorem all_bl {α : Type} (l : List α) (f : α → Bool) : bltin .all [.lst (l.map fun a => FL.D.bl (f a))] = some (.d (.bl (l.all f))) := by
  have key : ∀ l : List α, allB (l.map fun a => FL.D.bl (f a)) = some (l.map f) := by
    intro l
    induction l with
    | nil => rfl
    | cons a l ih => rw [List.map_cons]; unfold allB; rw [ih]; rfl
  show (match allB (l.map fun a => FL.D.bl (f a)) with | some bs => some (AV.d (.bl (bs.all id))) | none => none) = _
  rw [key]
  simp only [List.all_map]
  rfl
abbrev Q_isp (C : Calls) : Prop := ∀ x b, Th x b → C 5 none [x] = .ok (.d (.bl b)) none
theorem f_isp : ∀ {k : Nat}, 2 ≤ k → Q_isp (callF P k)
  | k + 1, hk => fun x b h => by
    have q1 := f_intA (k := k) (by omega)
    have q2 := f_plm (k := k) (by omega)
    refine run_w (n := 2) (np := 1) (b := B5) rfl rfl ?_
    generalize callF P k = C at q1 q2 ⊢
    walk_at "st"
    unfold B5
    cases h with
    | nt h =>
      walk_at "ws"
      all_goals rfl
    | @ln ds h =>
      walk_at "ws"
      · rfl
      · omega
    | @ni ds h1 h8 hn h =>
      have ab := all_bl ds isI
      rw [h] at ab
      walk_at "ws"
      all_goals rfl
    | @ok ms h1 h8 =>
      have q3 : ∀ i : Int, C 1 none [.int i] = .ok (.d (.bl true)) none := fun i => q1 (.int i) rfl
      have ab : bltin .all [.lst (ms.map fun _ => FL.D.bl true)] = some (.d (.bl true)) := by
        rw [all_bl]
        rw [List.all_eq_true.mpr (fun _ _ => rfl)]
      have o1 : okDiv (ms.length : Int) = true := okDiv_s (by omega) (by omega)
      clear q1
      have q4 := q2 ms h1 h8
      clear q2
      have bl : bltin .len [.dct false (dk (ms.map fun i => FL.D.int (i.fmod (ms.length : Int))))] = some (.d (.int (nsetL (ms.map fun i => i.fmod (ms.length : Int))).length)) := by
        show some (AV.d (.int ((dk (ms.map fun i => FL.D.int (i.fmod (ms.length : Int)))).length : Int))) = _
        have e : (ms.map fun i => FL.D.int (i.fmod (ms.length : Int))) = (ms.map fun i => i.fmod (ms.length : Int)).map FL.D.int := by rw [List.map_map]; rfl
        rw [e, K37P.dk_int, List.length_map]
      have ni := K37P.nset_iff (ms.map fun i => i.fmod (ms.length : Int))
      rw [List.length_map] at ni
      have pb := K37P.patB_iff h1
      walk_at "ws"
      refine ⟨fun y hy => ?_, ?_⟩
      · obtain ⟨i, _, rfl⟩ := List.mem_map.mp hy
        rfl
      by_cases hr : (ms.map fun m => m.fmod (nn ms)).Nodup
      · have e1 := ni.mpr hr
        rw [e1] at bl
        rw [decide_eq_true hr, Bool.true_and] at pb
        rw [pb]
        walk_at "ws"
        refine chn (k := true) (by walk_at "view") (by walk_at "view") (c_eqT rfl) (fun _ => ?_) (fun h => by cases h)
        walk_at "ws"
        rename_i L hL
        have e3 : ((ms.length : Int) = (L.length : Int)) ↔ (pls ms ms.length).Nodup := ⟨fun e => hL.mp (by omega), fun h => by rw [hL.mpr h]⟩
        rw [decide_eq_decide.mpr e3]
      · have e1 : ¬ (((nsetL (ms.map fun i => i.fmod (ms.length : Int))).length : Nat) : Int) = (ms.length : Int) := fun e => hr (ni.mp (by omega))
        rw [decide_eq_false hr, Bool.false_and] at pb
        rw [pb]
        walk_at "ws"
        refine chn (k := false) (by walk_at "view") (by walk_at "view") (c_eqF e1) (fun h => by cases h) (fun _ => ?_)
        walk_at "ws"
        all_goals rfl
abbrev Q_lip (C : Calls) : Prop := ∀ x b, Th x b → C 21 none [x] = .ok (.d (.bl b)) none
theorem f_lip : ∀ {k : Nat}, 1 ≤ k → Q_lip (callF P k)
  | k + 1, hk => fun x b h => by
    refine run_w (n := 6) (np := 1) (b := B21) rfl rfl ?_
    generalize callF P k = C
    walk_at "st"
    unfold B21
    cases h with
    | nt h =>
      walk_at "ws"
      all_goals rfl
    | @ln ds h =>
      walk_at "ws"
      · rfl
      · omega
    | @ni ds h1 h8 hn h =>
      have ab := all_bl ds isI
      rw [h] at ab
      walk_at "ws"
      refine lcm (l := ds) (g := fun d => d) (f := fun d => .bl (isI d)) (by simp) rfl (by omega) (fun d hd => ?_) ?_
      · have := hn d hd
        cases d
        all_goals first | (cases this; done) | walk_at "tu"
      · walk_at "ws"
        all_goals rfl
    | @ok ms h1 h8 =>
      have ab : bltin .all [.lst (ms.map fun _ => FL.D.bl true)] = some (.d (.bl true)) := by
        rw [all_bl]
        rw [List.all_eq_true.mpr (fun _ _ => rfl)]
      have o1 : okDiv (ms.length : Int) = true := okDiv_s (by omega) (by omega)
      walk_at "ws"
      · rename_i hb
        simp at hb
      · refine forQ (fun j s => ∃ t, s = [some (.d (.tup (zs ms))), t, some (.d (.int ms.length)), some (.d (.int ((pl ms j : Nat) : Int))), some (.o (.lst (zs ((pls ms j).map fun p : Nat => (p : Int))))), none]) ⟨_, rfl⟩ ?_ ?_
        · rintro j d _ hd ⟨t, rfl⟩
          obtain ⟨hj, rfl⟩ := rgD_at hd
          have pt := pl_lt h1 j
          have i1 := it_i (l := ms) (i := ((pl ms j : Nat) : Int)) (by omega) (by omega)
          have e1 : ((K37P.nx ms (pl ms j) : Nat) : Int) = (ms.getD ((pl ms j : Nat) : Int).toNat 0).fmod (ms.length : Int) := by
            have := fm0 (d := ms.getD (pl ms j) 0) (m := (ms.length : Int)) (by omega)
            unfold K37P.nx
            rw [Int.toNat_natCast]
            omega
          have ap : mtf .append (.lst (zs ((pls ms j).map fun p : Nat => (p : Int)))) [.int ((pl ms j : Nat) : Int)] = some (.lst (zs ((pls ms (j + 1)).map fun p : Nat => (p : Int))), .d .non) := by
            rw [pls_s, List.map_append]
            exact app_m (f := FL.D.int) (a := ((pl ms j : Nat) : Int)) (by rw [List.length_map, pls_len]; omega)
          refine ⟨_, by walk_at "bind", ?_⟩
          walk_at "ws"
          exact ⟨_, by rw [← e1]; rfl⟩
        · rintro _ ⟨t, rfl⟩
          rw [List.length_map, rgI_len, Int.toNat_natCast]
          have nz : (nsetL ((pls ms ms.length).map fun p : Nat => (p : Int))).length = ms.length ↔ (pls ms ms.length).Nodup := by
            rw [← K37P.zn_nodup, ← K37P.nset_iff, List.length_map, pls_len]
          have ln : ((pls ms ms.length).map fun p : Nat => (p : Int)).length ≤ 4000 := by rw [List.length_map, pls_len]; omega
          have pb : patB ms = (decide (((pl ms ms.length : Nat) : Int) = 0) && decide ((((nsetL ((pls ms ms.length).map fun p : Nat => (p : Int))).length : Nat) : Int) = (ms.length : Int))) := by
            unfold K37P.patB
            rw [← Bool.decide_and, decide_eq_decide]
            exact ⟨fun h => ⟨by omega, by have := nz.mpr h.2; omega⟩, fun h => ⟨by omega, nz.mp (by omega)⟩⟩
          rw [pb]
          walk_at "ws"
          · rename_i hb
            rw [decide_eq_true hb, Bool.true_and]
          · rename_i hb
            rw [decide_eq_false hb, Bool.false_and]
end K37

set_option maxHeartbeats 1000000
namespace K37
open PySem FL KM FLW
open K37P (nn patB rnd plain)
/-- a pattern -/
structure Pt (ms : List Int) : Prop where
  l1 : 1 ≤ ms.length
  l8 : ms.length ≤ 8
  b : patB ms = true
theorem Pt.th {ms : List Int} (p : Pt ms) : Th (.tup (zs ms)) true := by
  have := Th.ok p.l1 p.l8
  rw [p.b] at this
  exact this
abbrev Q_chp (C : Calls) : Prop := ∀ ms, Pt ms → C 6 none [.tup (zs ms)] = .ok (.d .non) none
theorem f_chp : ∀ {k : Nat}, 3 ≤ k → Q_chp (callF P k)
  | k + 1, hk => fun ms p => by
    have q1 := f_isp (k := k) (by omega) _ _ p.th
    refine run_w0 (n := 1) (np := 1) (b := B6) rfl rfl ?_
    generalize callF P k = C at q1 ⊢
    walk_at "st"
    unfold B6
    walk_at "ws"
    all_goals rfl
theorem allI_m {α : Type} (f : α → Int) : ∀ l : List α, allI (l.map fun a => FL.D.int (f a)) = some (l.map f)
  | [] => rfl
  | a :: l => by
    rw [List.map_cons]
    unfold allI
    rw [allI_m f l]
    rfl
theorem sum_m {α : Type} (f : α → Int) (l : List α) : bltin .sum [.lst (l.map fun a => FL.D.int (f a))] = some (.d (.int (l.map f).sum)) := by
  show (match allI (l.map fun a => FL.D.int (f a)) with | some ns => some (AV.d (.int ns.sum)) | none => none) = _
  rw [allI_m]
theorem enum_zs (ms : List Int) : enumD 0 (zs ms) = (rgI 0 ms.length).map fun a => FL.D.tup [.int a, .int (ms.getD a.toNat 0)] := by
  have key : ∀ (ms : List Int) (i : Nat), enumD i (zs ms) = (List.range ms.length).map fun a => FL.D.tup [.int ((i + a : Nat) : Int), .int (ms.getD a 0)] := by
    intro ms
    induction ms with
    | nil => intro i; rfl
    | cons m ms ih =>
      intro i
      show FL.D.tup [.int (i : Int), .int m] :: enumD (i + 1) (zs ms) = _
      rw [ih (i + 1), List.length_cons, List.range_succ_eq_map, List.map_cons, List.map_map]
      congr 1
      refine List.map_congr_left fun a _ => ?_
      show FL.D.tup [.int ((i + 1 + a : Nat) : Int), .int (ms.getD a 0)] = FL.D.tup [.int ((i + (a + 1) : Nat) : Int), .int ((m :: ms).getD (a + 1) 0)]
      rw [show i + 1 + a = i + (a + 1) by omega]
      rfl
  rw [key ms 0]
  unfold rgI
  rw [List.map_map]
  refine List.map_congr_left fun a _ => ?_
  show FL.D.tup [.int ((0 + a : Nat) : Int), .int (ms.getD a 0)] = FL.D.tup [.int (0 + (a : Int)), .int (ms.getD (0 + (a : Int)).toNat 0)]
  rw [Nat.zero_add, Int.zero_add, Int.toNat_natCast]
abbrev Q_rnd (C : Calls) : Prop := ∀ ms : List Int, 1 ≤ ms.length → ms.length ≤ 8 → C 7 none [.tup (zs ms)] = .ok (.d (.int ((rnd ms).fdiv (nn ms)))) none
theorem f_rnd : ∀ {k : Nat}, 1 ≤ k → Q_rnd (callF P k)
  | k + 1, _ => fun ms l1 l8 => by
    have o1 : okDiv (ms.length : Int) = true := okDiv_s (by omega) (by omega)
    have ez := enum_zs ms
    have sm := sum_m (fun a : Int => ms.getD a.toNat 0 - a) (rgI 0 ms.length)
    refine run_w (n := 3) (np := 1) (b := B7) rfl rfl ?_
    generalize callF P k = C
    walk_at "st"
    unfold B7
    walk_at "ws"
    all_goals rfl
abbrev Q_psh (C : Calls) : Prop := ∀ ms, Pt ms → C 8 none [.tup (zs ms)] = .ok (.d (dp (rd ((rnd ms).fdiv (nn ms)) (nn ms)))) none
theorem f_psh : ∀ {k : Nat}, 4 ≤ k → Q_psh (callF P k)
  | k + 1, hk => fun ms p => by
    have l1 := p.l1
    have l8 := p.l8
    have q1 := f_chp (k := k) (by omega) ms p
    have q2 := f_rnd (k := k) (by omega) ms l1 l8
    have q3 := fun t => f_frac (k := k) (by omega) t (ms.length : Int) (by omega) (by omega)
    refine run_w (n := 1) (np := 1) (b := B8) rfl rfl ?_
    generalize callF P k = C at q1 q2 q3 ⊢
    walk_at "st"
    unfold B8
    walk_at "ws"
    all_goals rfl
/-- a move of the line -/
def mv (ms : List Int) (q : Int) : Int := ms.getD (q.fmod (nn ms)).toNat 0 + nn ms * q.fdiv (nn ms)
abbrev Q_mov (C : Calls) : Prop := ∀ (ms : List Int) (q : Int), 1 ≤ ms.length → ms.length ≤ 8 → C 9 none [.tup (zs ms), .int q] = .ok (.d (.int (mv ms q))) none
theorem f_mov : ∀ {k : Nat}, 1 ≤ k → Q_mov (callF P k)
  | k + 1, _ => fun ms q l1 l8 => by
    have o1 : okDiv (ms.length : Int) = true := okDiv_s (by omega) (by omega)
    have o2 : ∀ j, okMul (ms.length : Int) j = true := fun j => okMul_l (by omega) (by omega)
    have f0 := fm0 (d := q) (m := (ms.length : Int)) (by omega)
    have f1 := fm1 (d := q) (m := (ms.length : Int)) (by omega)
    have i1 := it_i (l := ms) (i := q.fmod (ms.length : Int)) f0 f1
    refine run_w (n := 3) (np := 2) (b := B9) rfl rfl ?_
    generalize callF P k = C
    walk_at "st"
    unfold B9
    walk_at "ws"
    all_goals rfl
abbrev Q_raw (C : Calls) : Prop := ∀ (ms : List Int) (p : Int), 1 ≤ ms.length → ms.length ≤ 8 → C 10 none [.tup (zs ms), .int p] = .ok (.d (.tup (zs (K37P.fr ms p)))) none
theorem f_raw : ∀ {k : Nat}, 2 ≤ k → Q_raw (callF P k)
  | k + 1, hk => fun ms p l1 l8 => by
    have q1 := fun q => f_mov (k := k) (by omega) ms q l1 l8
    have e1 : zs (K37P.fr ms p) = (rgI 0 ms.length).map fun a => FL.D.int (mv ms (a + p) - p) := by unfold K37P.fr zs; rw [List.map_map]; rfl
    rw [e1]
    refine run_w (n := 3) (np := 2) (b := B10) rfl rfl ?_
    generalize callF P k = C at q1 ⊢
    walk_at "st"
    unfold B10
    walk_at "ws"
    rw [Int.toNat_natCast]
abbrev Q_pfr (C : Calls) : Prop := ∀ (ms : List Int) (p : Int), Pt ms → C 11 none [.tup (zs ms), .int p] = .ok (.d (.tup (zs (K37P.fr ms p)))) none
theorem f_pfr : ∀ {k : Nat}, 4 ≤ k → Q_pfr (callF P k)
  | k + 1, hk => fun ms p h => by
    have q1 := f_chp (k := k) (by omega) ms h
    have q2 := f_int (k := k) (by omega)
    have q3 := f_raw (k := k) (by omega) ms p h.l1 h.l8
    refine run_w (n := 2) (np := 2) (b := B11) rfl rfl ?_
    generalize callF P k = C at q1 q2 q3 ⊢
    walk_at "st"
    unfold B11
    walk_at "ws"
    all_goals rfl
abbrev Q_rpl (C : Calls) : Prop := ∀ (ms : List Int), 1 ≤ ms.length → ms.length ≤ 8 → C 12 none [.tup (zs ms)] = .ok (.d (.tup (zs (plain ms)))) none
theorem allI_zs : ∀ l : List Int, allI (zs l) = some l
  | [] => rfl
  | i :: l => by
    show (allI (zs l)).map (i :: ·) = _
    rw [allI_zs l]
    rfl
theorem allT_map {α : Type} (f : α → List Int) : ∀ l : List α, allT (l.map fun a => FL.D.tup (zs (f a))) = some (l.map f)
  | [] => rfl
  | a :: l => by
    rw [List.map_cons]
    unfold allT
    rw [allI_zs, allT_map f l]
    rfl
theorem mint_p (ms : List Int) (h : 1 ≤ ms.length) : bltin .mint [.lst ((rgI 0 ms.length).map fun p => .tup (zs (K37P.fr ms p)))] = some (.d (.tup (zs (plain ms)))) := by
  show (match allT ((rgI 0 ms.length).map fun p => FL.D.tup (zs (K37P.fr ms p))) with | some (x :: xs) => some (AV.d (.tup ((minT x xs).map FL.D.int))) | _ => none) = _
  rw [allT_map]
  unfold K37P.plain
  cases e : (rgI 0 ms.length).map (K37P.fr ms) with
  | nil =>
    have := congrArg List.length e
    rw [List.length_map, rgI_len] at this
    have : ms.length = 0 := this
    omega
  | cons x xs => rfl
theorem f_rpl : ∀ {k : Nat}, 3 ≤ k → Q_rpl (callF P k)
  | k + 1, hk => fun ms l1 l8 => by
    have q1 := fun p => f_raw (k := k) (by omega) ms p l1 l8
    have mp := mint_p ms l1
    refine run_w (n := 2) (np := 1) (b := B12) rfl rfl ?_
    generalize callF P k = C at q1 ⊢
    walk_at "st"
    unfold B12
    walk_at "ws"
    rw [Int.toNat_natCast]
    walk_at "ws"
    all_goals rfl
abbrev Q_ppl (C : Calls) : Prop := ∀ (ms : List Int), Pt ms → C 13 none [.tup (zs ms)] = .ok (.d (.tup (zs (plain ms)))) none
theorem f_ppl : ∀ {k : Nat}, 4 ≤ k → Q_ppl (callF P k)
  | k + 1, hk => fun ms p => by
    have q1 := f_chp (k := k) (by omega) ms p
    have q2 := f_rpl (k := k) (by omega) ms p.l1 p.l8
    refine run_w (n := 1) (np := 1) (b := B13) rfl rfl ?_
    generalize callF P k = C at q1 q2 ⊢
    walk_at "st"
    unfold B13
    walk_at "ws"
    all_goals rfl
end K37

set_option maxHeartbeats 1000000
namespace K37
open PySem FL KM FLW
open K37P (nn patB rnd plain)
abbrev Q_cut (C : Calls) : Prop := ∀ n m : Int, 1 ≤ m → m ≤ 8 → C 19 none [.int n, .int m] = .ok (.d (dp (rd n m))) none
theorem f_cut : ∀ {k : Nat}, 1 ≤ k → Q_cut (callF P k)
  | k + 1, _ => fun n m h1 h8 => by
    obtain ⟨g1, g2, g3, g4⟩ := gcd_ok (t := n) h1 (by omega)
    refine run_w (n := 4) (np := 2) (b := B19) rfl rfl ?_
    generalize callF P k = C
    walk_at "st"
    unfold B19
    walk_at "ws"
    refine x_while' (fun f s => ∃ c d : Int, s = [some (.d (.int n)), some (.d (.int m)), some (.d (.int c)), some (.d (.int d))] ∧ 0 ≤ d ∧ d ≤ 8 ∧ Int.gcd c d = Int.gcd n m ∧ d < f) (m.natAbs + 1) ⟨_, _, rfl, by omega, by omega, rfl, by omega⟩ ?_
    rintro f _ ⟨c, d, rfl, h0, hd8, hg, hf⟩
    by_cases hz : d = 0
    · subst hz
      rw [Int.gcd_zero_right] at hg
      have e1 : bltin .abs [.int c] = some (.d (.int (Int.gcd n m))) := by
        show some (AV.d (.int (if c < 0 then -c else c))) = _
        rw [← hg]
        congr 3
        split <;> omega
      walk_at "ws"
      all_goals rfl
    · have o1 : okDiv d = true := okDiv_s (by omega) (by omega)
      have f0 := fm0 (d := c) (m := d) (by omega)
      have f1 := fm1 (d := c) (m := d) (by omega)
      walk_at "ws"
      refine ⟨f - 1, by omega, ?_⟩
      walk_at "ws"
      refine ⟨_, _, rfl, f0, by omega, ?_, by omega⟩
      rw [← hg, fm (by omega), Int.gcd_comm c, Int.emod_def, Int.gcd_sub_mul_left_right]
abbrev Q_lfp (C : Calls) : Prop := ∀ (ms : List Int) (p : Int), 1 ≤ ms.length → ms.length ≤ 8 → C 22 none [.tup (zs ms), .int p] = .ok (.d (.tup (zs (K37P.fr ms p)))) none
theorem f_lfp : ∀ {k : Nat}, 1 ≤ k → Q_lfp (callF P k)
  | k + 1, _ => fun ms p l1 l8 => by
    have o1 : okDiv (ms.length : Int) = true := okDiv_s (by omega) (by omega)
    have hn : (1 : Int) ≤ nn ms := by show (1 : Int) ≤ (ms.length : Int); omega
    refine run_w (n := 6) (np := 2) (b := B22) rfl rfl ?_
    generalize callF P k = C
    walk_at "st"
    unfold B22
    walk_at "ws"
    refine forQ (fun j s => ∃ x y, s = [some (.d (.tup (zs ms))), some (.d (.int p)), x, some (.d (.int ms.length)), some (.o (.lst (zs ((K37P.fr ms p).take j)))), y]) ⟨_, _, rfl⟩ ?_ ?_
    · rintro j d _ hd ⟨x, y, rfl⟩
      obtain ⟨hj, rfl⟩ := rgD_at hd
      have f0 := fm0 (d := 0 + (j : Int) + p) (m := (ms.length : Int)) (by omega)
      have f1 := fm1 (d := 0 + (j : Int) + p) (m := (ms.length : Int)) (by omega)
      have i1 := it_i (l := ms) (i := (0 + (j : Int) + p).fmod (ms.length : Int)) f0 f1
      have e1 := K37P.dm hn (0 + (j : Int) + p)
      have hj' : j < ms.length := by omega
      have ap : mtf .append (.lst (zs ((K37P.fr ms p).take j))) [.int (ms.getD ((0 + (j : Int) + p).fmod (ms.length : Int)).toNat 0 + (0 + (j : Int) + p) - (0 + (j : Int) + p).fmod (ms.length : Int) - p)] = some (.lst (zs ((K37P.fr ms p).take (j + 1))), .d .non) := by
        have e2 : (K37P.fr ms p).take (j + 1) = (K37P.fr ms p).take j ++ [ms.getD ((0 + (j : Int) + p).fmod (ms.length : Int)).toNat 0 + (0 + (j : Int) + p) - (0 + (j : Int) + p).fmod (ms.length : Int) - p] := by
          rw [List.take_succ]
          congr 1
          have hl : j < (K37P.fr ms p).length := by rw [K37P.fr_len]; exact hj'
          rw [List.getElem?_eq_getElem hl]
          have := K37P.fr_at (p := p) hj'
          rw [List.getD_eq_getElem?_getD, List.getElem?_eq_getElem hl] at this
          have e3 : (K37P.fr ms p)[j] = ms.getD (((j : Int) + p).fmod (nn ms)).toNat 0 + nn ms * ((j : Int) + p).fdiv (nn ms) - p := this
          rw [Int.zero_add] at e1 ⊢
          show [(K37P.fr ms p)[j]] = _
          rw [e3]
          congr 1
          show _ = ms.getD (((j : Int) + p).fmod (nn ms)).toNat 0 + ((j : Int) + p) - ((j : Int) + p).fmod (nn ms) - p
          omega
        rw [e2]
        exact app_m (f := FL.D.int) (by rw [List.length_take, K37P.fr_len]; omega)
      refine ⟨_, by walk_at "bind", ?_⟩
      walk_at "ws"
      exact ⟨_, _, rfl⟩
    · rintro _ ⟨x, y, rfl⟩
      rw [List.length_map, rgI_len, Int.toNat_natCast, List.take_of_length_le (by rw [K37P.fr_len]; exact Nat.le_refl _)]
      walk_at "ws"
      all_goals rfl
abbrev Q_lpl (C : Calls) : Prop := ∀ (ms : List Int), 1 ≤ ms.length → ms.length ≤ 8 → C 23 none [.tup (zs ms)] = .ok (.d (.tup (zs (plain ms)))) none
theorem f_lpl : ∀ {k : Nat}, 2 ≤ k → Q_lpl (callF P k)
  | k + 1, hk => fun ms l1 l8 => by
    have q1 := fun p => f_lfp (k := k) (by omega) ms p l1 l8
    have mp := mint_p ms l1
    refine run_w (n := 2) (np := 1) (b := B23) rfl rfl ?_
    generalize callF P k = C at q1 ⊢
    walk_at "st"
    unfold B23
    walk_at "ws"
    rw [Int.toNat_natCast]
    walk_at "ws"
    all_goals rfl
end K37

set_option maxHeartbeats 1000000
namespace K37
open PySem FL KM FLW
/-- numbers, flags; rows of these; .. -/
def SS : Nat → FL.D → Prop
  | 0, d => (∃ i, d = .int i) ∨ ∃ b, d = .bl b
  | m + 1, d => ∃ ds, (d = .tup ds ∨ d = .lst ds) ∧ ds.length ≤ 1000 ∧ ∀ x ∈ ds, SS m x
theorem zip_self : ∀ ds : List FL.D, zipD ds ds = ds.map fun x => .tup [x, x]
  | [] => rfl
  | x :: ds => by
    show FL.D.tup [x, x] :: zipD ds ds = _
    rw [zip_self ds]
    rfl
abbrev Q_is (m : Nat) (C : Calls) : Prop := ∀ d, SS m d → C 18 none [d, d] = .ok (.d (.bl true)) none
theorem f_is : ∀ (m : Nat) {k : Nat}, m + 1 ≤ k → Q_is m (callF P k)
  | 0, k + 1, _ => fun d h => by
    refine run_w (n := 4) (np := 2) (b := B18) rfl rfl ?_
    generalize callF P k = C
    walk_at "st"
    unfold B18
    rcases h with ⟨i, rfl⟩ | ⟨b, rfl⟩
    · walk_at "ws"
      all_goals rfl
    · have e : cmp .eq (.bl b) (.bl b) = some true := by rw [c_eqB]; simp
      walk_at "ws"
      all_goals rfl
  | m + 1, k + 1, hk => fun d h => by
    have q1 := f_is m (k := k) (by omega)
    obtain ⟨ds, hd, hl, hs⟩ := h
    have zs_ := zip_self ds
    have ab : bltin .all [.lst (ds.map fun _ => FL.D.bl true)] = some (.d (.bl true)) := by
      rw [all_bl, List.all_eq_true.mpr (fun _ _ => rfl)]
    refine run_w (n := 4) (np := 2) (b := B18) rfl rfl ?_
    generalize callF P k = C at q1 ⊢
    walk_at "st"
    unfold B18
    rcases hd with rfl | rfl
    · walk_at "ws"
      all_goals rfl
    · walk_at "ws"
      all_goals rfl
end K37

set_option maxHeartbeats 1000000
namespace K37
open PySem FL KM FLW
open K37P (nn patB rnd plain Cyc)
theorem era_map : ∀ (l : List Int) (j : Nat), (l.map FL.D.int).eraseIdx j = (l.eraseIdx j).map FL.D.int
  | [], _ => rfl
  | x :: l, 0 => rfl
  | x :: l, j + 1 => by
    show FL.D.int x :: (l.map FL.D.int).eraseIdx j = FL.D.int x :: (l.eraseIdx j).map FL.D.int
    rw [era_map l j]
theorem era_perm : ∀ (l : List Int) (j : Nat), j < l.length → (l.getD j 0 :: l.eraseIdx j).Perm l
  | [], _, h => absurd h (Nat.not_lt_zero _)
  | x :: l, 0, _ => List.Perm.refl _
  | x :: l, j + 1, h => by
    show (l.getD j 0 :: x :: l.eraseIdx j).Perm (x :: l)
    exact (List.Perm.swap x (l.getD j 0) (l.eraseIdx j)).trans ((era_perm l j (Nat.lt_of_succ_lt_succ h)).cons x)
theorem era_len : ∀ (l : List Int) (j : Nat), j < l.length → (l.eraseIdx j).length = l.length - 1 := fun l j h => by
  have := (era_perm l j h).length_eq
  rw [List.length_cons] at this
  omega
abbrev Q_mix (C : Calls) : Prop := ∀ h (n : Nat), Hand h → 1 ≤ n → n ≤ 8 → CH C 17 h [.lst (zs (rgI 0 n))] fun v h' => Hand h' ∧ ∃ w : List Int, v = .o (.lst (zs w)) ∧ w.Perm (rgI 0 n) ∧ True
theorem f_mix : ∀ {k : Nat}, 2 ≤ k → Q_mix (callF P k)
  | k + 1, hk => fun h n H h1 h8 => by
    have q1 := f_draw (k := k) (by omega)
    refine run_wH (n := 4) (np := 1) (b := B17) rfl rfl ?_
    generalize callF P k = C at q1 ⊢
    walk_at "st"
    unfold B17
    walk_at "ws"
    refine x_while' (fun m s => ∃ h l f, s = [some (.o h), some (.d (.lst (zs (rgI 0 n)))), some (.o (.lst (zs l))), some (.o (.lst (zs f)))] ∧ Hand h ∧ (f ++ l).Perm (rgI 0 n) ∧ l.length = m) n ⟨_, rgI 0 n, [], rfl, H, List.Perm.refl _, rgI_len _ _⟩ ?_
    rintro m _ ⟨h, l, f, rfl, H, pm, hl⟩
    have pl := pm.length_eq
    rw [rgI_len, List.length_append] at pl
    have zl : (zs l).length = l.length := by unfold zs; rw [List.length_map]
    have zf : (zs f).length = f.length := by unfold zs; rw [List.length_map]
    walk_at "ws"
    · rename_i hb
      have hlp : 0 < l.length := by omega
      have pop : ∀ r : Int, 0 ≤ r → r < l.length → mtf .pop1 (.lst (zs l)) [.int r] = some (.lst (zs (l.eraseIdx r.toNat)), .d (.int (l.getD r.toNat 0))) := fun r r0 r1 => by
        show pop1D (.lst (zs l)) [.int r] = _
        have hr : r.toNat < l.length := by omega
        have e1 : (zs l)[r.toNat]? = some (.int (l.getD r.toNat 0)) := by
          unfold zs
          rw [List.getElem?_map, List.getElem?_eq_getElem hr, List.getD_eq_getElem?_getD, List.getElem?_eq_getElem hr]
          rfl
        have e2 : (zs l).eraseIdx r.toNat = zs (l.eraseIdx r.toNat) := era_map l _
        show (if 0 ≤ r ∧ r < 2 ^ 62 then (match (zs l)[r.toNat]? with
          | some x => some (FL.D.lst ((zs l).eraseIdx r.toNat), AV.d x)
          | none => none) else none) = _
        rw [if_pos ⟨r0, by omega⟩, e1]
        simp only
        rw [e2]
      refine ⟨m - 1, by omega, ?_⟩
      walk_at "ws"
      rename_i h2 H2 r r0 r1
      have p1 := pop r r0 r1
      have hr : r.toNat < l.length := by omega
      have ap : mtf .append (.lst (zs f)) [.int (l.getD r.toNat 0)] = some (.lst (zs (f ++ [l.getD r.toNat 0])), .d .non) := by
        unfold zs
        exact app_m (f := FL.D.int) (by omega)
      walk_at "ws"
      refine ⟨_, l.eraseIdx r.toNat, f ++ [l.getD r.toNat 0], rfl, H2, ?_, by rw [era_len l _ hr]⟩
      rw [List.append_assoc]
      exact (((era_perm l _ hr)).append_left f).trans pm
    · rename_i hb
      have : l = [] := List.eq_nil_of_length_eq_zero (by omega)
      subst this
      rw [List.append_nil] at pm
      exact ⟨_, _, rfl, rfl, H, f, rfl, pm, trivial⟩
theorem rep_zs (n : Nat) : (List.replicate n [FL.D.int 0]).flatten = zs (List.replicate n 0) := by
  induction n with
  | zero => rfl
  | succ n ih =>
    rw [List.replicate_succ, List.flatten_cons, ih]
    rfl
/-- the way goes on, so far -/
def Far (n j : Nat) (F w : List Int) : Prop := (F.length = n ∧ ∀ m ∈ F, m.natAbs ≤ 1000) ∧ ∀ a, a < j → (F.getD (w.getD a 0).toNat 0).fmod (n : Int) = w.getD ((a + 1) % n) 0
abbrev Q_pat (C : Calls) : Prop := ∀ h (n : Nat), Hand h → 1 ≤ n → n ≤ 8 → CH C 20 h [.int n] fun v h' => Hand h' ∧ ∃ ms way : List Int, v = .d (.tup (zs ms)) ∧ Cyc ms way ∧ (∀ m ∈ ms, m.natAbs ≤ 1000) ∧ True
theorem f_pat : ∀ {k : Nat}, 3 ≤ k → Q_pat (callF P k)
  | k + 1, hk => fun h n H h1 h8 => by
    have q1 := f_draw (k := k) (by omega)
    have q2 := fun h H => f_mix (k := k) (by omega) h n H h1 h8
    have q3 := f_any (k := k) (by omega)
    have o1 : okDiv (n : Int) = true := okDiv_s (by omega) (by omega)
    have o2 : ∀ j, okMul (n : Int) j = true := fun j => okMul_l (by omega) (by omega)
    refine run_wH (n := 7) (np := 1) (b := B20) rfl rfl ?_
    generalize callF P k = C at q1 q2 q3 ⊢
    walk_at "st"
    unfold B20
    walk_at "ws"
    refine ⟨by rw [List.length_map, rgI_len]; show _ ≤ 100000; omega, ?_⟩
    rw [Int.toNat_natCast]
    have bz : binop .mul (.lst [.int 0]) (.int (n : Int)) = some (.o (.lst (zs (List.replicate n 0)))) := by
      rw [← rep_zs]
      show (if [FL.D.int 0].length * ((n : Int)).toNat ≤ lim ∧ ((n : Int)).natAbs ≤ lim then some (AV.o (.lst (List.replicate ((n : Int)).toNat [FL.D.int 0]).flatten)) else none) = _
      rw [if_pos ⟨by show 1 * _ ≤ 100000; omega, by show _ ≤ 100000; omega⟩, Int.toNat_natCast]
    walk_at "ws"
    rename_i h1' H1 w pm h2' H2 x hx
    obtain ⟨wi, rfl, w1, w5⟩ : ∃ wi : Int, x = .int wi ∧ 1 ≤ wi ∧ wi ≤ 5 := by
      simp only [List.mem_cons, List.not_mem_nil, or_false] at hx
      rcases hx with rfl | rfl | rfl | rfl
      all_goals exact ⟨_, rfl, by decide, by decide⟩
    have wl : w.length = n ∧ True := ⟨by rw [pm.length_eq, rgI_len], trivial⟩
    have wnd : w.Nodup := (pm.nodup_iff).mpr (K37P.rg_nd n)
    have wrg : ∀ x ∈ w, 0 ≤ x ∧ x < (n : Int) := fun x hx => by
      have := rgI_mem.mp (pm.mem_iff.mp hx)
      omega
    have wat : ∀ a, a < n → 0 ≤ w.getD a 0 ∧ w.getD a 0 < (n : Int) := fun a ha => by
      have hw : a < w.length := by have := wl.1; omega
      rw [List.getD_eq_getElem?_getD, List.getElem?_eq_getElem hw]
      exact wrg _ (List.getElem_mem hw)
    have winj : ∀ a b, a < n → b < n → w.getD a 0 = w.getD b 0 → a = b := fun a b ha hb e => by
      have h2 := List.pairwise_iff_getElem.mp wnd
      have hwa : a < w.length := by have := wl.1; omega
      have hwb : b < w.length := by have := wl.1; omega
      rw [List.getD_eq_getElem?_getD, List.getElem?_eq_getElem hwa, List.getD_eq_getElem?_getD, List.getElem?_eq_getElem hwb] at e
      rcases Nat.lt_trichotomy a b with q | q | q
      · exact absurd e (h2 a b hwa hwb q)
      · exact q
      · exact absurd e.symm (h2 b a hwb hwa q)
    refine forQ (fun j s => ∃ h x y F, s = [some (.o h), some (.d (.int n)), some (.d (.int wi)), some (.d (.lst (zs w))), some (.o (.lst (zs F))), x, y] ∧ Hand h ∧ Far n j F w) ⟨_, _, _, _, rfl, H2, ⟨by simp, fun m hm => by rw [(List.mem_replicate.mp hm).2]; decide⟩, fun a h => absurd h (Nat.not_lt_zero _)⟩ ?_ ?_
    · rintro j d _ hd ⟨h, x, y, F, rfl, H, hF⟩
      rw [enum_zs, List.getElem?_map] at hd
      obtain ⟨hj, rfl⟩ : j < n ∧ d = .tup [.int (j : Int), .int (w.getD j 0)] := by
        cases e : (rgI 0 w.length)[j]? with
        | none => rw [e] at hd; cases hd
        | some a =>
          obtain ⟨g1, rfl⟩ := rgI_at e
          rw [e] at hd
          cases hd
          refine ⟨by have := wl.1; omega, ?_⟩
          show FL.D.tup [.int (0 + (j : Int)), .int (w.getD (0 + (j : Int)).toNat 0)] = _
          rw [Int.zero_add, Int.toNat_natCast]
      have wj := wat j hj
      have f0 := fm0 (d := (j : Int) + 1) (m := (n : Int)) (by omega)
      have f1 := fm1 (d := (j : Int) + 1) (m := (n : Int)) (by omega)
      have i1 := il_i (l := w) (i := ((j : Int) + 1).fmod (n : Int)) f0 (by have := wl.1; omega)
      have e1 : (((j : Int) + 1).fmod (n : Int)).toNat = (j + 1) % n := by
        rw [fm (by omega), show ((j : Int) + 1) = ((j + 1 : Nat) : Int) from rfl, ← Int.natCast_emod, Int.toNat_natCast]
      have zl : (zs F).length = n ∧ True := ⟨by unfold zs; rw [List.length_map, hF.1.1], trivial⟩
      have zl1 : (w.getD j 0) < ((zs F).length : Int) := by have := zl.1; omega
      have o3 : okDiv (2 : Int) = true := okDiv_s (by decide) (by decide)
      refine ⟨_, by walk_at "bind", ?_⟩
      walk_at "ws"
      rename_i h3 H3 r r0 r1
      obtain ⟨⟨hF1, hB⟩, hF2⟩ := hF
      have fin : ∀ v : Int, v.natAbs ≤ 1000 → v.fmod (n : Int) = w.getD ((j + 1) % n) 0 → Far n (j + 1) (F.set (w.getD j 0).toNat v) w := fun v hvb hv => by
        refine ⟨⟨by rw [List.length_set, hF1], fun m hm => by
          rcases List.mem_or_eq_of_mem_set hm with hm | rfl
          · exact hB m hm
          · exact hvb⟩, fun a ha => ?_⟩
        by_cases haj : a = j
        · subst haj
          have hp : (w.getD a 0).toNat < F.length := by omega
          rw [List.getD_eq_getElem?_getD, List.getElem?_set_self hp]
          exact hv
        · have wa := wat a (by omega)
          have ne : (w.getD j 0).toNat ≠ (w.getD a 0).toNat := fun e => haj (winj a j (by omega) hj (by omega))
          rw [List.getD_eq_getElem?_getD, List.getElem?_set_ne ne, ← List.getD_eq_getElem?_getD]
          exact hF2 a (by omega)
      have wn := wat ((j + 1) % n) (Nat.mod_lt _ (by omega))
      have hset : ∀ (i : Nat) (v : Int), (zs F).set i (.int v) = zs (F.set i v) := fun i v => (List.map_set ..).symm
      rw [hset]
      have bnd : (w.getD (((j : Int) + 1).fmod (n : Int)).toNat 0 + (n : Int) * (r - wi.fdiv 2)).natAbs ≤ 1000 := by
        have hw2 : wi.fdiv 2 = wi / 2 := fd (by decide)
        rw [e1, hw2]
        have b1 : (n : Int) * (r - wi / 2) ≤ 8 * 10 := Int.le_trans (Int.mul_le_mul_of_nonneg_left (c := (n : Int)) (show r - wi / 2 ≤ 10 by omega) (by omega)) (by omega)
        have b2 : 8 * (-10) ≤ (n : Int) * (r - wi / 2) := Int.le_trans (by omega) (Int.mul_le_mul_of_nonneg_left (c := (n : Int)) (show -10 ≤ r - wi / 2 by omega) (by omega))
        omega
      refine ⟨_, _, _, F.set (w.getD j 0).toNat _, rfl, H3, fin _ bnd ?_⟩
      rw [e1]
      exact (K37P.dm_uniq (q := r - wi.fdiv 2) (by omega) (by omega) wn.1 wn.2).2
    · rintro _ ⟨h, x, y, F, rfl, H, hF⟩
      rw [enum_zs, List.length_map, rgI_len, wl.1] at hF
      walk_at "ws"
      obtain ⟨⟨hF1, hB⟩, hF2⟩ := hF
      have wl1 := wl.1
      exact ⟨_, _, rfl, rfl, H, F, w, rfl, ⟨by omega, by omega, by omega, wnd, fun x hx => by rw [hF1]; exact wrg x hx, fun a ha => by rw [hF1] at ha ⊢; exact hF2 a ha⟩, hB, trivial⟩
end K37

set_option maxHeartbeats 1000000
namespace K37
open PySem FL KM FLW
open K37P (nn patB rnd plain Cyc)
/-! ### what can be told -/
def Tl (ds : List FL.D) (e t : Nat) : Prop := FL.D.reps ds = true ∧ FL.D.depths ds ≤ e ∧ FL.D.wts ds ≤ t
theorem Tl.app {a b : List FL.D} {e t t' : Nat} (h : Tl a e t) (h' : Tl b e t') : Tl (a ++ b) e (t + t') := by
  induction a generalizing t with
  | nil =>
    obtain ⟨h1, h2, h3⟩ := h'
    exact ⟨h1, h2, by show FL.D.wts b ≤ _; omega⟩
  | cons x a ih =>
    obtain ⟨h1, h2, h3⟩ := h
    unfold FL.D.reps at h1
    unfold FL.D.depths at h2
    unfold FL.D.wts at h3
    rw [Bool.and_eq_true] at h1
    obtain ⟨i1, i2, i3⟩ := ih (t := t - (x.wt + 1)) ⟨h1.2, by omega, by omega⟩
    refine ⟨?_, ?_, ?_⟩
    · show (x.rep && FL.D.reps (a ++ b)) = true
      rw [h1.1, i1]
      rfl
    · show max x.depth (FL.D.depths (a ++ b)) ≤ e
      omega
    · show x.wt + 1 + FL.D.wts (a ++ b) ≤ _
      omega
theorem Tl.one {x : FL.D} {e t : Nat} (h1 : x.rep = true) (h2 : x.depth ≤ e) (h3 : x.wt + 1 ≤ t) : Tl [x] e t := ⟨by show (x.rep && true) = true; rw [h1]; rfl, by show max x.depth 0 ≤ e; omega, by show x.wt + 1 + 0 ≤ t; omega⟩
theorem Tl.le {a : List FL.D} {e t e' t' : Nat} (h : Tl a e t) (he : e ≤ e') (ht : t ≤ t') : Tl a e' t' := ⟨h.1, Nat.le_trans h.2.1 he, Nat.le_trans h.2.2 ht⟩
theorem Tl.zs {l : List Int} (h : ∀ m ∈ l, m.natAbs < 2 ^ 200) : Tl (l.map FL.D.int) 0 (202 * l.length) := by
  induction l with
  | nil => exact ⟨rfl, Nat.le_refl _, Nat.le_refl _⟩
  | cons x l ih =>
    have := Tl.app (Tl.one (x := .int x) (e := 0) (t := 202) (decide_eq_true (h x List.mem_cons_self)) (Nat.le_refl _) (Nat.le_refl _)) (ih fun m hm => h m (List.mem_cons_of_mem _ hm))
    exact this.le (Nat.le_refl _) (by rw [List.length_cons]; omega)
theorem Tl.tup {ds : List FL.D} {e t : Nat} (h : Tl ds e t) : Tl [.tup ds] (e + 1) (t + 1) := Tl.one h.1 (by show FL.D.depths ds + 1 ≤ _; exact Nat.succ_le_succ h.2.1) (by show FL.D.wts ds + 1 ≤ _; exact Nat.succ_le_succ h.2.2)
theorem Tl.lst {ds : List FL.D} {e t : Nat} (h : Tl ds e t) : Tl [.lst ds] (e + 1) (t + 1) := Tl.one h.1 (by show FL.D.depths ds + 1 ≤ _; exact Nat.succ_le_succ h.2.1) (by show FL.D.wts ds + 1 ≤ _; exact Nat.succ_le_succ h.2.2)
theorem Tl.ok {x : FL.D} {e t : Nat} (h : Tl [x] e t) (he : e ≤ 60) (ht : t ≤ 70000) : repOk x = true := by
  obtain ⟨h1, h2, h3⟩ := h
  have h1' : (x.rep && true) = true := h1
  rw [Bool.and_true] at h1'
  have h2' : max x.depth 0 ≤ e := h2
  have h3' : x.wt + 1 + 0 ≤ t := h3
  unfold repOk
  rw [h1', decide_eq_true (by omega), decide_eq_true (by omega)]
  rfl
abbrev Q_dee (C : Calls) : Prop := ∀ h (ms : List Int), Hand h → ms.length ≤ 8 → (∀ m ∈ ms, m.natAbs ≤ 1000) → CH C 24 h [.tup (zs ms)] fun v h' => Hand h' ∧ ∃ x, (v = .d x ∨ ∃ ds, v = .o (.lst ds) ∧ x = .lst ds) ∧ Th x false ∧ Tl [x] 60 10000 ∧ True
theorem f_dee : ∀ {k : Nat}, 2 ≤ k → Q_dee (callF P k)
  | k + 1, hk => fun h ms H l8 hb => by
    have q1 := f_draw (k := k) (by omega)
    refine run_wH (n := 3) (np := 1) (b := B24) rfl rfl ?_
    generalize callF P k = C at q1 ⊢
    walk_at "st"
    unfold B24
    walk_at "ws"
    rename_i h1 H1 r r0 r1
    refine forQ (fun j s => ∃ h x t, (s = [some (.o h), some (.d x), t] ∨ ∃ ds, x = .lst ds ∧ s = [some (.o h), some (.o (.lst ds)), t]) ∧ Hand h ∧ Tl [x] (j + 2) (5000 + j) ∧ nf x = true ∧ isI x = false ∧ (1 ≤ j → Th x false)) ⟨_, _, _, .inr ⟨_, rfl, rfl⟩, H1, ?_, rfl, rfl, fun h => absurd h (by decide)⟩ ?_ ?_
    · exact (Tl.lst (Tl.app (Tl.tup ((Tl.zs (l := ms) fun m hm => by have := hb m hm; omega))) (Tl.one (x := .non) (e := 1) (t := 1) rfl (Nat.zero_le _) (Nat.le_refl _)))).le (Nat.le_refl _) (by omega)
    · rintro j d _ hd ⟨h, x, t, hs, H, tl, hnf, hni, hth⟩
      have tt : Tl [.tup [x]] (j + 1 + 2) (5000 + (j + 1)) := tl.tup
      have t2 : Tl [.lst [x]] (j + 1 + 2) (5000 + (j + 1)) := tl.lst
      have th1 : Th (.tup [x]) false := (Th.ni (Nat.le_refl _) (by show 1 ≤ 8; decide) (fun d hd => by rw [List.mem_singleton.mp hd]; exact hnf) (by show (isI x && true) = false; rw [hni]; rfl))
      have th2 : Th (.lst [x]) false := .nt rfl
      rcases hs with rfl | ⟨ds, rfl, rfl⟩
      · refine ⟨_, by walk_at "bind", ?_⟩
        walk_at "ws"
        · exact ⟨_, _, _, .inl rfl, ‹_›, tt, rfl, rfl, fun _ => th1⟩
        · exact ⟨_, _, _, .inr ⟨_, rfl, rfl⟩, ‹_›, t2, rfl, rfl, fun _ => th2⟩
      · refine ⟨_, by walk_at "bind", ?_⟩
        walk_at "ws"
        · exact ⟨_, _, _, .inl rfl, ‹_›, tt, rfl, rfl, fun _ => th1⟩
        · exact ⟨_, _, _, .inr ⟨_, rfl, rfl⟩, ‹_›, t2, rfl, rfl, fun _ => th2⟩
    · rintro s ⟨h, x, t, hs, H, tl, hnf, hni, hth⟩
      rw [List.length_map, rgI_len] at tl hth
      have tl2 : Tl [x] 60 10000 := tl.le (by omega) (by omega)
      have th := hth (by omega)
      rcases hs with rfl | ⟨ds, rfl, rfl⟩
      · walk_at "ws"
        exact ⟨_, _, rfl, rfl, H, _, .inl rfl, th, tl2, trivial⟩
      · walk_at "ws"
        exact ⟨_, _, rfl, rfl, H, _, .inr ⟨_, rfl, rfl⟩, th, tl2, trivial⟩
theorem cut_len {α : Type} {l : List α} {lo hi : Option Int} : (cut l lo hi).length ≤ l.length := by
  unfold cut
  rw [List.length_take, List.length_drop]
  omega
theorem rep1 (n : Nat) : (List.replicate n [FL.D.int 1]).flatten = zs (List.replicate n 1) := by
  induction n with
  | zero => rfl
  | succ n ih =>
    rw [List.replicate_succ, List.flatten_cons, ih]
    rfl
theorem mul_one (n : Nat) (h : 1 ≤ n) (h8 : n ≤ 8) : binop .mul (.tup [.int 1]) (.int (n : Int)) = some (.d (.tup (zs (List.replicate n 1)))) := by
  show (if (n : Int) = 1 then some (AV.d (.tup [FL.D.int 1])) else if [FL.D.int 1].isEmpty = false ∧ 2 ≤ (n : Int) ∧ (n : Int) ≤ 1000 ∧ [FL.D.int 1].length ≤ 1000 then some (AV.d (.tup (List.replicate (n : Int).toNat [FL.D.int 1]).flatten)) else none) = _
  by_cases e : n = 1
  · subst e
    rfl
  · rw [if_neg (by omega), if_pos ⟨rfl, by omega, by omega, by show 1 ≤ 1000; decide⟩, Int.toNat_natCast, rep1]
theorem mul_3 (ms : List Int) (h : 1 ≤ ms.length) (h8 : ms.length ≤ 8) : binop .mul (.tup (zs ms)) (.int 3) = some (.d (.tup (zs (ms ++ (ms ++ ms))))) := by
  have h1 : (zs ms).isEmpty = false := by
    cases ms with
    | nil => exact absurd h (by decide)
    | cons _ _ => rfl
  show (if (3 : Int) = 1 then some (AV.d (.tup (zs ms))) else if (zs ms).isEmpty = false ∧ 2 ≤ (3 : Int) ∧ (3 : Int) ≤ 1000 ∧ (zs ms).length ≤ 1000 then some (AV.d (.tup (List.replicate (3 : Int).toNat (zs ms)).flatten)) else none) = _
  rw [if_neg (by decide), if_pos ⟨h1, by decide, by decide, by unfold zs; rw [List.length_map]; omega⟩]
  have : (List.replicate (3 : Int).toNat (zs ms)).flatten = zs (ms ++ (ms ++ ms)) := by
    show (zs ms ++ (zs ms ++ (zs ms ++ []))) = _
    rw [List.append_nil]
    unfold zs
    rw [List.map_append, List.map_append]
  rw [this]
/-- what is judged, and can be told -/
def Ok2 (y : FL.D) : Prop := ∃ b, Th y b ∧ repOk y = true
theorem okz {l : List Int} (h : ∀ m ∈ l, m.natAbs < 2 ^ 200) (hl : l.length ≤ 50) : Ok2 (.tup (zs l)) := by
  have r : repOk (.tup (zs l)) = true := ((Tl.zs h).tup).ok (by decide) (by omega)
  by_cases q : 1 ≤ l.length ∧ l.length ≤ 8
  · exact ⟨_, .ok q.1 q.2, r⟩
  · exact ⟨_, .ln (by unfold zs; rw [List.length_map]; exact q), r⟩
theorem okn {a b : List Int} {d : FL.D} (ha : ∀ m ∈ a, m.natAbs < 2 ^ 200) (hb : ∀ m ∈ b, m.natAbs < 2 ^ 200) (la : a.length ≤ 10) (lb : b.length ≤ 10) (h1 : nf d = true) (h2 : isI d = false) (ht : Tl [d] 50 50000) : Ok2 (.tup (zs a ++ [d] ++ zs b)) := by
  have t := Tl.app (Tl.app ((Tl.zs ha).le (e' := 50) (t' := 2020) (by decide) (by omega)) ht) ((Tl.zs hb).le (e' := 50) (t' := 2020) (by decide) (by omega))
  have r : repOk (.tup (zs a ++ [d] ++ zs b)) = true := t.tup.ok (by decide) (by decide)
  by_cases q : 1 ≤ (zs a ++ [d] ++ zs b).length ∧ (zs a ++ [d] ++ zs b).length ≤ 8
  · refine ⟨_, .ni q.1 q.2 (fun x hx => ?_) ?_, r⟩
    · rcases List.mem_append.mp hx with hx | hx
      · rcases List.mem_append.mp hx with hx | hx
        · exact zs_nf a x hx
        · rw [List.mem_singleton.mp hx]; exact h1
      · exact zs_nf b x hx
    · rw [List.all_append, List.all_append]
      have : [d].all isI = false := by show (isI d && true) = false; rw [h2]; rfl
      rw [this, Bool.and_false, Bool.false_and]
  · exact ⟨_, .ln q, r⟩
theorem oki {a b : List Int} {i : Int} (ha : ∀ m ∈ a, m.natAbs < 2 ^ 200) (hb : ∀ m ∈ b, m.natAbs < 2 ^ 200) (la : a.length ≤ 10) (lb : b.length ≤ 10) (hi : i.natAbs < 2 ^ 200) : Ok2 (.tup (zs a ++ [.int i] ++ zs b)) := by
  have e : zs a ++ [FL.D.int i] ++ zs b = zs (a ++ [i] ++ b) := by
    unfold zs
    rw [List.map_append, List.map_append]
    rfl
  rw [e]
  refine okz (fun m hm => ?_) (by rw [List.length_append, List.length_append]; show _ + 1 + _ ≤ _; omega)
  rcases List.mem_append.mp hm with hm | hm
  · rcases List.mem_append.mp hm with hm | hm
    · exact ha m hm
    · rw [List.mem_singleton.mp hm]; exact hi
  · exact hb m hm
theorem cut_sub {α : Type} {l : List α} {lo hi : Option Int} {x : α} (h : x ∈ cut l lo hi) : x ∈ l := List.mem_of_mem_drop (List.mem_of_mem_take h)
theorem cutB_zs (ms : List Int) : cutB (zs ms) none = zs (cutB ms none) := by
  unfold cutB zs
  rw [List.length_map, ← List.map_take, ← List.map_reverse]
theorem big_ok {m : Int} {n : Nat} (hm : m.natAbs ≤ 1000) (hn : n ≤ 8) : (m + (n : Int) * 10 ^ (20 : Int).toNat).natAbs < 2 ^ 200 := by
  have e : (10 : Int) ^ (20 : Int).toNat = 100000000000000000000 := by decide
  rw [e]
  have : (2 : Nat) ^ 200 ≥ 2 ^ 80 := Nat.pow_le_pow_right (by decide) (by decide)
  have e2 : (2 : Nat) ^ 80 = 1208925819614629174706176 := by decide
  omega
theorem low_ok {m : Int} (hm : m.natAbs ≤ 2000) : m.natAbs < 2 ^ 200 := by
  have : (2 : Nat) ^ 200 ≥ 2 ^ 12 := Nat.pow_le_pow_right (by decide) (by decide)
  omega
theorem bent_ok {ms : List Int} {r : Int} {x y : FL.D} (l1 : 1 ≤ ms.length) (l8 : ms.length ≤ 8) (hb : ∀ m ∈ ms, m.natAbs ≤ 1000) (th : Th x false) (tl : Tl [x] 60 10000)
    (hy : y ∈ List.map (fun d => FL.D.tup (zs (cut ms none (some r)) ++ [d] ++ zs (cut ms (some (r + 1)) none))) ([.int (ms.getD r.toNat 0 + 1), .int (ms.getD r.toNat 0 - (ms.length : Int)), .int (ms.getD r.toNat 0 + (ms.length : Int)), .int 61, .int (-61), .int 60, .int (ms.getD r.toNat 0 + (ms.length : Int) * 10 ^ (20 : Int).toNat), .bl true, .non] ++ [.str "1", .tup [.int 0], .int (10 ^ (30 : Int).toNat)]) ++
      [.lst (zs ms), .tup (zs ms ++ zs (cut ms none (some 1))), .tup (zs (cut ms (some 1) none)), .tup (cutB (zs ms) none), .tup [], .non, .int 0, .dct false [], .str "pattern", .tup [.tup (zs ms)]] ++
      [.tup (zs (rgI 0 ms.length)), .tup (zs (List.replicate ms.length 1)), .tup (zs (ms ++ (ms ++ ms))), x]) : Ok2 y := by
  have hbg : ∀ m ∈ ms, m.natAbs < 2 ^ 200 := fun m hm => low_ok (by have := hb m hm; omega)
  have ca : ∀ {lo hi : Option Int}, ∀ m ∈ cut ms lo hi, m.natAbs < 2 ^ 200 := fun m hm => hbg m (cut_sub hm)
  have cl : ∀ {lo hi : Option Int}, (cut ms lo hi).length ≤ 10 := fun {lo hi} => Nat.le_trans cut_len (by omega)
  have gd : (ms.getD r.toNat 0).natAbs ≤ 1000 := by
    by_cases h : r.toNat < ms.length
    · rw [List.getD_eq_getElem?_getD, List.getElem?_eq_getElem h]
      exact hb _ (List.getElem_mem h)
    · rw [List.getD_eq_getElem?_getD, List.getElem?_eq_none (by omega)]
      decide
  rcases List.mem_append.mp hy with hy | hy
  · rcases List.mem_append.mp hy with hy | hy
    · obtain ⟨d, hd, rfl⟩ := List.mem_map.mp hy
      simp only [List.cons_append, List.nil_append, List.mem_cons, List.not_mem_nil, or_false] at hd
      rcases hd with rfl | rfl | rfl | rfl | rfl | rfl | rfl | rfl | rfl | rfl | rfl | rfl
      · exact oki ca ca cl cl (low_ok (by omega))
      · exact oki ca ca cl cl (low_ok (by omega))
      · exact oki ca ca cl cl (low_ok (by omega))
      · exact oki ca ca cl cl (low_ok (by decide))
      · exact oki ca ca cl cl (low_ok (by decide))
      · exact oki ca ca cl cl (low_ok (by decide))
      · exact oki ca ca cl cl (big_ok gd l8)
      · exact okn ca ca cl cl rfl rfl (Tl.one rfl (by decide) (by decide))
      · exact okn ca ca cl cl rfl rfl (Tl.one rfl (by decide) (by decide))
      · exact okn ca ca cl cl rfl rfl (Tl.one (by decide) (by decide) (by decide))
      · exact okn ca ca cl cl rfl rfl (Tl.one (by decide) (by decide) (by decide))
      · exact oki ca ca cl cl (by decide)
    · simp only [List.mem_cons, List.not_mem_nil, or_false] at hy
      rcases hy with rfl | rfl | rfl | rfl | rfl | rfl | rfl | rfl | rfl | rfl
      · exact ⟨_, .nt rfl, ((Tl.zs hbg).lst).ok (by decide) (by omega)⟩
      · have e : zs ms ++ zs (cut ms none (some 1)) = zs (ms ++ cut ms none (some 1)) := by unfold zs; rw [List.map_append]
        rw [e]
        exact okz (fun m hm => by
          rcases List.mem_append.mp hm with hm | hm
          · exact hbg m hm
          · exact ca m hm) (by have := cl (lo := none) (hi := some 1); rw [List.length_append]; omega)
      · exact okz ca (by have := cl (lo := some 1) (hi := none); omega)
      · rw [cutB_zs]
        refine okz (fun m hm => ?_) ?_
        · unfold cutB at hm
          exact hbg m (List.mem_of_mem_take (List.mem_reverse.mp hm))
        · unfold cutB
          rw [List.length_reverse, List.length_take]
          omega
      · exact okz (l := []) (fun m hm => by cases hm) (by decide)
      · exact ⟨_, .nt rfl, by decide⟩
      · exact ⟨_, .nt rfl, by decide⟩
      · exact ⟨_, .nt rfl, by decide⟩
      · exact ⟨_, .nt rfl, by decide⟩
      · exact okn (a := []) (b := []) (fun m hm => by cases hm) (fun m hm => by cases hm) (by decide) (by decide) rfl rfl (((Tl.zs hbg).tup).le (by decide) (by omega))
  · simp only [List.mem_cons, List.not_mem_nil, or_false] at hy
    rcases hy with rfl | rfl | rfl | rfl
    · exact okz (fun m hm => by have := rgI_mem.mp hm; exact low_ok (by omega)) (by rw [rgI_len]; omega)
    · exact okz (fun m hm => by rw [(List.mem_replicate.mp hm).2]; exact low_ok (by decide)) (by rw [List.length_replicate]; omega)
    · exact okz (fun m hm => by
        rcases List.mem_append.mp hm with hm | hm
        · exact hbg m hm
        · rcases List.mem_append.mp hm with hm | hm
          · exact hbg m hm
          · exact hbg m hm) (by rw [List.length_append, List.length_append]; omega)
    · exact ⟨_, th, tl.ok (by decide) (by decide)⟩
abbrev Q_ben (C : Calls) : Prop := ∀ h (ms : List Int), Hand h → 1 ≤ ms.length → ms.length ≤ 8 → (∀ m ∈ ms, m.natAbs ≤ 1000) → CH C 25 h [.tup (zs ms)] fun v h' => Hand h' ∧ ∃ x b, v = .d x ∧ Th x b ∧ repOk x = true ∧ True
theorem f_ben : ∀ {k : Nat}, 3 ≤ k → Q_ben (callF P k)
  | k + 1, hk => fun h ms H l1 l8 hb => by
    have q1 := f_draw (k := k) (by omega)
    have q2 := fun h H => f_dee (k := k) (by omega) h ms H l8 hb
    have q3 := f_any (k := k) (by omega)
    have o2 : okMul (ms.length : Int) (10 ^ (20 : Int).toNat) = true := okMul_l (by omega) (by omega)
    refine run_wH (n := 7) (np := 1) (b := B25) rfl rfl ?_
    generalize callF P k = C at q1 q2 q3 ⊢
    walk_at "st"
    unfold B25
    walk_at "ws"
    rename_i h1 H1 r r0 r1
    have la : (zs (cut ms none (some r))).length ≤ 8 := by unfold zs; rw [List.length_map]; exact Nat.le_trans cut_len l8
    have lb : (zs (cut ms (some (r + 1)) none)).length ≤ 8 := by unfold zs; rw [List.length_map]; exact Nat.le_trans cut_len l8
    have lz : (zs ms).length = ms.length ∧ True := ⟨by unfold zs; rw [List.length_map], trivial⟩
    have lz8 : (zs ms).length ≤ 8 := by rw [lz.1]; exact l8
    refine lcm (g := fun d => d) (f := fun d => .tup (zs (cut ms none (some r)) ++ [d] ++ zs (cut ms (some (r + 1)) none))) (List.map_id' _).symm rfl (by simp) (fun d _ => ?_) ?_
    · have l3 : (zs (cut ms none (some r)) ++ [d]).length + (zs (cut ms (some (r + 1)) none)).length ≤ 100000 := by rw [List.length_append]; show _ + 1 + _ ≤ _; omega
      have l4 : (zs (cut ms none (some r))).length + [d].length ≤ 100000 := by show _ + 1 ≤ _; omega
      walk_at "tu"
    · have bA := cat_t (xs := zs ms) (ys := zs (cut ms none (some 1))) (by
        have : (zs (cut ms none (some 1))).length ≤ 8 := by unfold zs; rw [List.length_map]; exact Nat.le_trans cut_len l8
        omega)
      have m1 := mul_one ms.length l1 l8
      have m3 := mul_3 ms l1 l8
      have rz : rangeD 0 ((ms.length : Int)).toNat = zs (rgI 0 ms.length) := by
        rw [Int.toNat_natCast]
        unfold rangeD rgI zs
        rw [List.map_map]
        rfl
      walk_at "ws"
      rw [rz]
      refine ⟨by unfold zs; rw [List.length_map, rgI_len]; show _ ≤ 100000; omega, ?_⟩
      walk_at "ws"
      rename_i v h2 H2 x hv th tl
      have fz : ∀ s : S, FrzR (FL.svA v) s x s := fun s => by
        rcases hv with rfl | ⟨ds, rfl, rfl⟩
        · exact FL.FrzR.d
        · exact FL.FrzR.o
      refine fr (fz _) ?_
      walk_at "ws"
      rename_i h3 H3 y hy
      obtain ⟨b, g1, g2⟩ := bent_ok l1 l8 hb th tl hy
      exact ⟨_, _, rfl, rfl, H3, y, b, rfl, g1, g2, trivial⟩
end K37

set_option maxHeartbeats 1000000
namespace K37
open PySem FL KM FLW
open K37P (nn patB rnd plain Cyc)
theorem pt_of {ms way : List Int} (c : Cyc ms way) : Pt ms := ⟨c.l1, c.l8, c.patB⟩
theorem pt_fr {ms way : List Int} (c : Cyc ms way) (p : Int) : Pt (K37P.fr ms p) := pt_of (c.fr p)
theorem is_bl (b : Bool) : cmp .isnot (.bl b) (.bl true) = some (!b) := by cases b <;> rfl
theorem ne_str (s : Str) : cmp .ne (.str s) (.str s) = some false := by
  show (if okDeep (.str s) && okDeep (.str s) then some (!(s == s)) else none) = _
  rw [show (okDeep (.str s) && okDeep (.str s)) = true from rfl, if_pos rfl]
  simp
theorem SS_zs (l : List Int) (h : l.length ≤ 8) : SS 1 (.tup (zs l)) := ⟨_, .inl rfl, by unfold zs; rw [List.length_map]; omega, fun x hx => by
  obtain ⟨i, _, rfl⟩ := List.mem_map.mp hx
  exact .inl ⟨i, rfl⟩⟩
theorem SS_dp (p : Int × Int) : SS 1 (dp p) := ⟨_, .inl rfl, by show 2 ≤ 1000; decide, fun x hx => by
  simp only [List.mem_cons, List.not_mem_nil, or_false] at hx
  rcases hx with rfl | rfl
  · exact .inl ⟨_, rfl⟩
  · exact .inl ⟨_, rfl⟩⟩
theorem SS_two {m : Nat} {a b : FL.D} (h1 : SS m a) (h2 : SS m b) : SS (m + 1) (.lst [a, b]) := ⟨_, .inr rfl, by show 2 ≤ 1000; decide, fun x hx => by
  simp only [List.mem_cons, List.not_mem_nil, or_false] at hx
  rcases hx with rfl | rfl
  · exact h1
  · exact h2⟩
theorem plain_len {ms : List Int} (h : 1 ≤ ms.length) : (plain ms).length = ms.length := by
  obtain ⟨p, e⟩ := K37P.plain_mem h
  rw [e, K37P.fr_len]
abbrev Q_rgt (C : Calls) : Prop := ∀ h (ms way : List Int), Hand h → Cyc ms way → (∀ m ∈ ms, m.natAbs ≤ 1000) → CH C 26 h [.tup (zs ms)] fun v h' => Hand h' ∧ v = .d (.bl true) ∧ True
theorem f_rgt : ∀ {k : Nat}, 5 ≤ k → Q_rgt (callF P k)
  | k + 1, hk => fun h ms way H c hb => by
    have l1 := c.l1
    have l8 := c.l8
    have pm := pt_of c
    have pf := pt_fr c
    have o1 : okDiv (ms.length : Int) = true := okDiv_s (by omega) (by omega)
    have q1 := f_draw (k := k) (by omega)
    have q2 := fun h H => f_ben (k := k) (by omega) h ms H l1 l8 hb
    have s1 := f_isp (k := k) (by omega)
    have s2 := f_lip (k := k) (by omega)
    have s1m := s1 _ _ pm.th
    have s1f := fun p => s1 _ _ (pf p).th
    have s2f := fun p => s2 _ _ (pf p).th
    have c1 := f_cut (k := k) (by omega) ((rnd ms).fdiv (nn ms)) (ms.length : Int) (by omega) (by omega)
    have c2 := f_lpl (k := k) (by omega) ms l1 l8
    have c3 := fun p => f_lfp (k := k) (by omega) ms p l1 l8
    have d1 := f_psh (k := k) (by omega) ms pm
    have d2 : ∀ p, callF P k 8 none [.tup (zs (K37P.fr ms p))] = .ok (.d (dp (rd ((rnd ms).fdiv (nn ms)) (nn ms)))) none := fun p => by
      rw [f_psh (k := k) (by omega) _ (pf p), K37P.rnd_fr l1, show nn (K37P.fr ms p) = nn ms by show (((K37P.fr ms p).length : Nat) : Int) = _; rw [K37P.fr_len]]
    have d3 := fun p => f_pfr (k := k) (by omega) ms p pm
    have d4 : ∀ a b, callF P k 11 none [.tup (zs (K37P.fr ms a)), .int b] = .ok (.d (.tup (zs (K37P.fr ms (a + b))))) none := fun a b => by
      rw [f_pfr (k := k) (by omega) _ b (pf a), K37P.fr_fr l1]
    have d5 := f_ppl (k := k) (by omega) ms pm
    have d6 : ∀ p, callF P k 13 none [.tup (zs (K37P.fr ms p))] = .ok (.d (.tup (zs (plain ms)))) none := fun p => by
      rw [f_ppl (k := k) (by omega) _ (pf p), K37P.plain_fr l1]
    have d7 : callF P k 11 none [.tup (zs ms), .int (ms.length : Int)] = .ok (.d (.tup (zs ms))) none := by
      rw [d3, K37P.fr_n l1]
    have d8 : callF P k 11 none [.tup (zs ms), .int (0 - (ms.length : Int))] = .ok (.d (.tup (zs ms))) none := by
      rw [d3, K37P.fr_neg l1]
    have i0 := fun b => f_is 0 (k := k) (by omega) (.bl b) (.inr ⟨b, rfl⟩)
    have i1 := fun p => f_is 1 (k := k) (by omega) (.tup (zs (K37P.fr ms p))) (SS_zs _ (by rw [K37P.fr_len]; exact l8))
    have i2 := f_is 1 (k := k) (by omega) _ (SS_dp (rd ((rnd ms).fdiv (nn ms)) (nn ms)))
    have i3 := f_is 2 (k := k) (by omega) _ (SS_two (SS_zs (plain ms) (by rw [plain_len l1]; exact l8)) (SS_dp (rd ((rnd ms).fdiv (nn ms)) (nn ms))))
    have i4 := f_is 2 (k := k) (by omega) _ (SS_two (SS_zs ms l8) (SS_zs ms l8))
    have i5 := f_is 1 (k := k) (by omega) _ (SS_zs (plain ms) (by rw [plain_len l1]; exact l8))
    have sm : bltin .sum [.lst ((rgI 0 ms.length).map fun a => FL.D.int (ms.getD a.toNat 0 - a))] = some (.d (.int (rnd ms))) := sum_m (fun a : Int => ms.getD a.toNat 0 - a) (rgI 0 ms.length)
    have b1 := is_bl true
    have s12 := And.intro s1 s2
    clear s1 s2 pm pf
    refine run_wH (n := 13) (np := 1) (b := B26) rfl rfl ?_
    generalize callF P k = C at *
    walk_at "st"
    unfold B26
    walk_at "ws"
    rw [Int.toNat_natCast]
    walk_at "ws"
    refine forQ (fun j s => ∃ h x4 x7 x8 x9 xa xb, s = [some (.o h), some (.d (.tup (zs ms))), some (.d (.int ms.length)), some (.d (.int ((rnd ms).fdiv (nn ms)))), x4, some (.d (dp (rd ((rnd ms).fdiv (nn ms)) (nn ms)))), some (.d (.tup (zs (plain ms)))), x7, x8, x9, xa, xb, none] ∧ Hand h) ⟨_, _, _, _, _, _, _, rfl, H⟩ ?_ ?_
    · rintro j d _ hd ⟨h, x4, x7, x8, x9, xa, xb, rfl, H⟩
      refine ⟨_, by walk_at "bind", ?_⟩
      walk_at "ws"
      exact ⟨_, _, _, _, _, _, _, rfl, ‹_›⟩
    · rintro _ ⟨h, x4, x7, x8, x9, xa, xb, rfl, H⟩
      walk_at "ws"
      obtain ⟨s1, s2⟩ := s12
      refine forQ (fun j s => ∃ h x4 x7 x8 x9 xa xb, s = [some (.o h), some (.d (.tup (zs ms))), some (.d (.int ms.length)), some (.d (.int ((rnd ms).fdiv (nn ms)))), x4, some (.d (dp (rd ((rnd ms).fdiv (nn ms)) (nn ms)))), some (.d (.tup (zs (plain ms)))), x7, x8, x9, xa, xb, none] ∧ Hand h) ⟨_, _, _, _, _, _, _, rfl, H⟩ ?_ ?_
      · rintro j d _ hd ⟨h, x4, x7, x8, x9, xa, xb, rfl, H⟩
        refine ⟨_, by walk_at "bind", ?_⟩
        walk_at "ws"
        rename_i h3 H3 x b th rp
        have t1 := s1 x b th
        have t2 := s2 x b th
        have t3 := i0 b
        have t4 := rep_o rp
        have t5 := ne_str (reprD x)
        clear s1m s1f s2f s1 s2 i1 i2 i3 i4 i5
        walk_at "ws"
        exact ⟨_, _, _, _, _, _, _, rfl, ‹_›⟩
      · rintro _ ⟨h, x4, x7, x8, x9, xa, xb, rfl, H⟩
        walk_at "ws"
        exact ⟨_, _, rfl, rfl, H, rfl, trivial⟩
theorem f_law {k : Nat} (hk : 6 ≤ k) (ns : List Int) (hl : ns.length ≤ 63) : callF P (k + 1) 0 none [.fz (zs ns)] = .ok (.d (.bl true)) none := by
  have q1 := f_hand (k := k) (by omega) ns hl
  have q2 := f_draw (k := k) (by omega)
  have q3 := f_pat (k := k) (by omega)
  have q4 := f_rgt (k := k) (by omega)
  have p1 : Pt [1, 2, 0] := ⟨by decide, by decide, by decide⟩
  have p2 : Pt [3, 4] := ⟨by decide, by decide, by decide⟩
  have a1 : callF P k 8 none [.tup [.int 1, .int 2, .int 0]] = .ok (.d (.tup [.int 0, .int 1])) none := by
    have := f_psh (k := k) (by omega) _ p1
    rw [show rd ((rnd [1, 2, 0]).fdiv (nn [1, 2, 0])) (nn [1, 2, 0]) = (0, 1) by decide] at this
    exact this
  have a2 : callF P k 8 none [.tup [.int 3, .int 4]] = .ok (.d (.tup [.int 3, .int 2])) none := by
    have := f_psh (k := k) (by omega) _ p2
    rw [show rd ((rnd [3, 4]).fdiv (nn [3, 4])) (nn [3, 4]) = (3, 2) by decide] at this
    exact this
  have a3 : callF P k 13 none [.tup [.int 1, .int 2, .int 0]] = .ok (.d (.tup [.int (-2), .int 2, .int 3])) none := by
    have := f_ppl (k := k) (by omega) _ p1
    rw [show plain [1, 2, 0] = [-2, 2, 3] by decide] at this
    exact this
  have a4 : callF P k 11 none [.tup [.int 1, .int 2, .int 0], .int 1] = .ok (.d (.tup [.int 1, .int (-1), .int 3])) none := by
    have := f_pfr (k := k) (by omega) _ 1 p1
    rw [show K37P.fr [1, 2, 0] 1 = [1, -1, 3] by decide] at this
    exact this
  have ss : SS 2 (.lst [.tup [.int 0, .int 1], .tup [.int 3, .int 2], .tup [.int (-2), .int 2, .int 3], .tup [.int 1, .int (-1), .int 3]]) := ⟨_, .inr rfl, by show 4 ≤ 1000; decide, fun x hx => by
    simp only [List.mem_cons, List.not_mem_nil, or_false] at hx
    rcases hx with rfl | rfl | rfl | rfl
    · exact SS_zs [0, 1] (by decide)
    · exact SS_zs [3, 2] (by decide)
    · exact SS_zs [-2, 2, 3] (by decide)
    · exact SS_zs [1, -1, 3] (by decide)⟩
  have a5 := f_is 2 (k := k) (by omega) _ ss
  refine run_w (n := 4) (np := 1) (b := B0) rfl rfl ?_
  generalize callF P k = C at *
  walk_at "st"
  unfold B0
  walk_at "ws"
  rename_i h0 H0
  refine lcS 1 Hand (fun y => y = .bl true) (by walk_at "lst") (by walk_at "get") H0 rfl (by walk_at "len") (fun _ => rfl) ?_ ?_
  · intro i hi h H
    walk_at "th"
    rename_i h1 H1 r r0 r1
    have e : (((1 + r).toNat : Nat) : Int) = 1 + r := by omega
    have q5 := q3 h1 (1 + r).toNat H1 (by omega) (by omega)
    rw [e] at q5
    walk_at "ws"
    exact ⟨_, _, _, FL.FrzR.d, rfl, ‹_›, rfl⟩
  · intro h ys H ly hy
    refine ⟨_, by walk_at "put", ?_⟩
    have ab : bltin .all [.lst ys] = some (.d (.bl true)) := by
      have e : ys = ys.map fun _ => FL.D.bl true := by
        conv => lhs; rw [← List.map_id ys]
        exact List.map_congr_left fun y h => hy y h
      rw [e, all_bl, List.all_eq_true.mpr (fun _ _ => rfl)]
    walk_at "ws"
    all_goals rfl
theorem law_ok (ns : List Int) (hl : ns.length ≤ 63) (hb : ∀ z ∈ ns, Builtin.Int.intBits z ≤ 1048576) : ∃ ho, callF (Pr G.T) 30 0 none [.fz (ns.map FL.D.int)] = .ok (.d (.bl true)) ho := ⟨none, f_law (k := 29) (by omega) ns hl⟩
end K37

open PySem PySem.W PyProof.Rows in
set_option maxHeartbeats 0 in
theorem PySem.Challenge.cw_dotmaps_k37_whole_patterns_judged_and_to_holds : PySem.Challenge.rw_dotmaps_k37_whole_patterns_judged_and_to.Holds := by
  w_on; o_law; k_head; (case hw => w_witness2)
  k_fill
  refine FL.walkG (l := PySem.Challenge.rw_dotmaps_k37_whole_patterns_judged_and_to) (n := 63) K37.G 0 K37.D0 rfl rfl rfl rfl 30 rfl (by decide) rfl ⟨rfl, by decide, by decide⟩ (fun w h Y => PySem.W.kIn_of Y) K37.scs K37.chs K37.law_ok ?F
  case F =>
    intro w mg fa h KX GX hmg tbs
    refine' K37.all_mk KX GX hmg tbs ?a0 ?l0 ?c0 ?k0 ?a1 ?l1 ?c1 ?k1 ?a2 ?l2 ?c2 ?k2 ?a3 ?l3 ?c3 ?k3 ?a4 ?l4 ?c4 ?k4 ?a5 ?l5 ?c5 ?k5 ?a6 ?l6 ?c6 ?k6 ?a7 ?l7 ?c7 ?k7 ?a8 ?l8 ?c8 ?k8 ?a9 ?l9 ?c9 ?k9 ?a10 ?l10 ?c10 ?k10 ?a11 ?l11 ?c11 ?k11 ?a12 ?l12 ?c12 ?k12 ?a13 ?l13 ?c13 ?k13 ?a14 ?l14 ?c14 ?k14 ?a15 ?l15 ?c15 ?k15 ?a16 ?l16 ?c16 ?k16 ?a17 ?l17 ?c17 ?k17 ?a18 ?l18 ?c18 ?k18 ?a19 ?l19 ?c19 ?k19 ?a20 ?l20 ?c20 ?k20 ?a21 ?l21 ?c21 ?k21 ?a22 ?l22 ?c22 ?k22 ?a23 ?l23 ?c23 ?k23 ?a24 ?l24 ?c24 ?k24 ?a25 ?l25 ?c25 ?k25 ?a26 ?l26 ?c26 ?k26 ?sp1 ?sp2 ?gMOST_PLACES ?zabs ?zall ?zbool ?zenumerate ?zint ?zisinstance ?zlen ?zlist ?zmin ?zrange ?zrepr ?zset ?zstr ?zsum ?ztuple ?zzip
    (case a0 => k_is)
    (case l0 => k_is)
    (case c0 => k_is)
    (case k0 => k_is)
    (case a1 => k_is)
    (case l1 => k_is)
    (case c1 => k_is)
    (case k1 => k_is)
    (case a2 => k_is)
    (case l2 => k_is)
    (case c2 => k_is)
    (case k2 => k_is)
    (case a3 => k_is)
    (case l3 => k_is)
    (case c3 => k_is)
    (case k3 => k_is)
    (case a4 => k_is)
    (case l4 => k_is)
    (case c4 => k_is)
    (case k4 => k_is)
    (case a5 => k_is)
    (case l5 => k_is)
    (case c5 => k_is)
    (case k5 => k_is)
    (case a6 => k_is)
    (case l6 => k_is)
    (case c6 => k_is)
    (case k6 => k_is)
    (case a7 => k_is)
    (case l7 => k_is)
    (case c7 => k_is)
    (case k7 => k_is)
    (case a8 => k_is)
    (case l8 => k_is)
    (case c8 => k_is)
    (case k8 => k_is)
    (case a9 => k_is)
    (case l9 => k_is)
    (case c9 => k_is)
    (case k9 => k_is)
    (case a10 => k_is)
    (case l10 => k_is)
    (case c10 => k_is)
    (case k10 => k_is)
    (case a11 => k_is)
    (case l11 => k_is)
    (case c11 => k_is)
    (case k11 => k_is)
    (case a12 => k_is)
    (case l12 => k_is)
    (case c12 => k_is)
    (case k12 => k_is)
    (case a13 => k_is)
    (case l13 => k_is)
    (case c13 => k_is)
    (case k13 => k_is)
    (case a14 => k_is)
    (case l14 => k_is)
    (case c14 => k_is)
    (case k14 => k_is)
    (case a15 => k_is)
    (case l15 => k_is)
    (case c15 => k_is)
    (case k15 => k_is)
    (case a16 => k_is)
    (case l16 => k_is)
    (case c16 => k_is)
    (case k16 => k_is)
    (case a17 => k_is)
    (case l17 => k_is)
    (case c17 => k_is)
    (case k17 => k_is)
    (case a18 => k_is)
    (case l18 => k_is)
    (case c18 => k_is)
    (case k18 => k_is)
    (case a19 => k_is)
    (case l19 => k_is)
    (case c19 => k_is)
    (case k19 => k_is)
    (case a20 => k_is)
    (case l20 => k_is)
    (case c20 => k_is)
    (case k20 => k_is)
    (case a21 => k_is)
    (case l21 => k_is)
    (case c21 => k_is)
    (case k21 => k_is)
    (case a22 => k_is)
    (case l22 => k_is)
    (case c22 => k_is)
    (case k22 => k_is)
    (case a23 => k_is)
    (case l23 => k_is)
    (case c23 => k_is)
    (case k23 => k_is)
    (case a24 => k_is)
    (case l24 => k_is)
    (case c24 => k_is)
    (case k24 => k_is)
    (case a25 => k_is)
    (case l25 => k_is)
    (case c25 => k_is)
    (case k25 => k_is)
    (case a26 => k_is)
    (case l26 => k_is)
    (case c26 => k_is)
    (case k26 => k_is)
    (case sp1 => k_is)
    (case sp2 => k_is)
    (case gMOST_PLACES => k_is)
    (case zabs => k_is)
    (case zall => k_is)
    (case zbool => k_is)
    (case zenumerate => k_is)
    (case zint => k_is)
    (case zisinstance => k_is)
    (case zlen => k_is)
    (case zlist => k_is)
    (case zmin => k_is)
    (case zrange => k_is)
    (case zrepr => k_is)
    (case zset => k_is)
    (case zstr => k_is)
    (case zsum => k_is)
    (case ztuple => k_is)
    (case zzip => k_is)

