import PyProof.Rows.All
import Wide.All
import OpenK.AllK
import Wide.FinOn
import HandS.ForMost
import HandS.ForExc
import HandS.TupAny
import KE.KeyNested
import HandS.IsInst
import HandS.Style
import HandS.Deep
import KE.LtData
import HandS.Text
import KE.KDictCopyH
import KE.KDictPairs
import KE.KIntText
import Open.Fast
import HandS.Star
import HandS.Flow
import HandS.ExcCtx
import HandS.Zip
import HandS.DictComp
import KE.KDictDisplayH
import HandS.HotCalls
import HandS.ExcIs
import HandS.Defaults
import PyProof.ExcBaseAll.ValueError
import HandS.HeadEnd
import HandS.HeadHook4
import PySem.Challenge.RW_chasehouse_k00_schemas_judged
import KE.KStateDown
import HandS.Head0
import HandS.Head1
import HandS.Head2
section
/-! MpCore: a small Python as plain functions: data, heap, expressions, statements, calls by level. Core Lean alone. -/
set_option autoImplicit false
namespace Mp

/-- data: ref: a list or dict of the heap; lck: a list that is never written; tl, td: a list, a dict just made, that no name holds yet; exn: an error -/
inductive D where
  | non | bl (b : Bool) | int (i : Int) | str (s : List Nat)
  | tup (xs : List D) | lck (xs : List D) | ref (n : Nat)
  | tl (xs : List D) | td (ks vs : List D)
  | exn (c : Nat) (fs : List D)

inductive Ob where
  | lst (xs : List D) | dic (ks vs : List D)

abbrev Hd := List Ob
abbrev Env := List (Option D)

inductive R (α : Type) where
  | ok (a : α) (h : Hd) | ex (c : Nat) (fs : List D) (h : Hd) | no

def R.bind {α β : Type} : R α → (α → Hd → R β) → R β
  | .ok a h, f => f a h
  | .ex c fs h, _ => .ex c fs h
  | .no, _ => .no
/-- where nothing may be raised -/
def R.bindN {α β : Type} : R α → (α → Hd → R β) → R β
  | .ok a h, f => f a h
  | .ex _ _ _, _ => .no
  | .no, _ => .no
/-- an option's value -/
def R.get {α : Type} (o : Option α) (h : Hd) : R α := match o with
  | some a => .ok a h
  | none => .no

/-- the largest list, text -/
def lim : Nat := 16777216

/-! ### looks at data -/
mutual
def D.pure : D → Bool
  | .ref _ => false
  | .tup xs => D.pures xs
  | .lck xs => D.pures xs
  | .tl xs => D.pures xs
  | .td ks vs => D.pures ks && D.pures vs
  | .exn _ fs => D.pures fs
  | .non => true | .bl _ => true | .int _ => true | .str _ => true
def D.pures : List D → Bool
  | [] => true
  | x :: xs => D.pure x && D.pures xs
end
def Ob.pure : Ob → Bool
  | .lst xs => D.pures xs
  | .dic ks vs => D.pures ks && D.pures vs

def lnat : List Nat → List Nat → Bool
  | [], [] => true
  | a :: as, b :: bs => Nat.beq a b && lnat as bs
  | _, _ => false
mutual
/-- the very same data -/
def D.same : D → D → Bool
  | .non, .non => true
  | .bl a, .bl b => a == b
  | .int a, .int b => decide (a = b)
  | .str a, .str b => lnat a b
  | .tup a, .tup b => D.sames a b
  | .lck a, .lck b => D.sames a b
  | .ref a, .ref b => Nat.beq a b
  | .tl a, .tl b => D.sames a b
  | .td a c, .td b d => D.sames a b && D.sames c d
  | .exn c a, .exn d b => Nat.beq c d && D.sames a b
  | _, _ => false
def D.sames : List D → List D → Bool
  | [], [] => true
  | a :: as, b :: bs => D.same a b && D.sames as bs
  | _, _ => false
end
def Ob.same : Ob → Ob → Bool
  | .lst a, .lst b => D.sames a b
  | .dic a c, .dic b d => D.sames a b && D.sames c d
  | _, _ => false

def b2i (b : Bool) : Int := if b then 1 else 0
mutual
/-- == of data without refs -/
def D.eqv : D → D → Bool
  | .non, .non => true
  | .bl a, .bl b => a == b
  | .bl a, .int j => decide (b2i a = j)
  | .int i, .bl b => decide (i = b2i b)
  | .int a, .int b => decide (a = b)
  | .str a, .str b => lnat a b
  | .tup a, .tup b => D.eqvs a b
  | .tl a, .tl b => D.eqvs a b
  | _, _ => false
def D.eqvs : List D → List D → Bool
  | [], [] => true
  | a :: as, b :: bs => D.eqv a b && D.eqvs as bs
  | _, _ => false
end
def mapO {α β : Type} (f : α → Option β) : List α → Option (List β)
  | [] => some []
  | x :: xs => match f x with
    | some y => match mapO f xs with
      | some ys => some (y :: ys)
      | none => none
    | none => none
/-- lists read out: the data behind refs, to a depth -/
def D.res (h : Hd) : Nat → D → Option D
  | _, .non => some .non
  | _, .bl b => some (.bl b)
  | _, .int i => some (.int i)
  | _, .str s => some (.str s)
  | 0, _ => none
  | n + 1, .tup xs => (mapO (D.res h n) xs).map .tup
  | n + 1, .lck xs => (mapO (D.res h n) xs).map .tl
  | n + 1, .tl xs => (mapO (D.res h n) xs).map .tl
  | n + 1, .ref k => match h[k]? with
    | some (.lst xs) => (mapO (D.res h n) xs).map .tl
    | _ => none
  | _ + 1, .td _ _ => none
  | _ + 1, .exn _ _ => none
/-- x == y -/
def eqH (h : Hd) (x y : D) : Option Bool := match D.res h 20 x with
  | some a => match D.res h 20 y with
    | some b => some (D.eqv a b)
    | none => none
  | none => none
/-- the items of a list, a tuple -/
def seqOf (h : Hd) : D → Option (List D)
  | .tup xs => some xs
  | .lck xs => some xs
  | .tl xs => some xs
  | .ref n => match h[n]? with
    | some (.lst xs) => some xs
    | _ => none
  | _ => none
/-- the items of a list -/
def lstOf (h : Hd) : D → Option (List D)
  | .lck xs => some xs
  | .tl xs => some xs
  | .ref n => match h[n]? with
    | some (.lst xs) => some xs
    | _ => none
  | _ => none
/-- the items of a list of the heap's own -/
def ownOf (h : Hd) : D → Option (List D)
  | .tl xs => some xs
  | .ref n => match h[n]? with
    | some (.lst xs) => some xs
    | _ => none
  | _ => none
def dicOf (h : Hd) : D → Option (List D × List D)
  | .td ks vs => some (ks, vs)
  | .ref n => match h[n]? with
    | some (.dic ks vs) => some (ks, vs)
    | _ => none
  | _ => none
/-- a thing is given a name: it goes into the heap -/
def reg (h : Hd) : D → D × Hd
  | .tl xs => (.ref h.length, h ++ [.lst xs])
  | .td ks vs => (.ref h.length, h ++ [.dic ks vs])
  | d => (d, h)
/-- truth -/
def truth (h : Hd) : D → Option Bool
  | .non => some false
  | .bl b => some b
  | .int i => some (decide (i ≠ 0))
  | .str s => if s.length ≤ lim then some (!s.isEmpty) else none
  | .tup xs => some (!xs.isEmpty)
  | .lck xs => some (!xs.isEmpty)
  | .tl xs => some (!xs.isEmpty)
  | .td ks _ => some (!ks.isEmpty)
  | .ref n => match h[n]? with
    | some (.lst xs) => some (!xs.isEmpty)
    | some (.dic ks _) => some (!ks.isEmpty)
    | none => none
  | .exn _ _ => none

/-! ### order -/
def ltNat : List Nat → List Nat → Bool
  | [], [] => false
  | [], _ :: _ => true
  | _ :: _, [] => false
  | a :: as, b :: bs => if Nat.beq a b then ltNat as bs else Nat.blt a b
mutual
/-- the two can be compared, place by place -/
def D.alike : D → D → Bool
  | .non, .non => true
  | .bl _, .bl _ => true
  | .int _, .int _ => true
  | .str _, .str _ => true
  | .tup a, .tup b => D.alikes a b
  | _, _ => false
def D.alikes : List D → List D → Bool
  | a :: as, b :: bs => D.alike a b && D.alikes as bs
  | [], _ => true
  | _ :: _, [] => true
end
mutual
/-- < of things that are alike -/
def D.ltb : D → D → Bool
  | .bl a, .bl b => decide (b2i a < b2i b)
  | .int a, .int b => decide (a < b)
  | .str a, .str b => ltNat a b
  | .tup a, .tup b => D.ltbs a b
  | _, _ => false
def D.ltbs : List D → List D → Bool
  | [], [] => false
  | [], _ :: _ => true
  | _ :: _, [] => false
  | a :: as, b :: bs => if D.eqv a b then D.ltbs as bs else D.ltb a b
end
mutual
/-- made of tuples alone, at most so deep -/
def D.tree : Nat → D → Bool
  | _, .non => true
  | _, .bl _ => true
  | _, .int _ => true
  | _, .str _ => true
  | n + 1, .tup xs => D.trees n xs
  | _, _ => false
def D.trees : Nat → List D → Bool
  | _, [] => true
  | n, x :: xs => D.tree n x && D.trees n xs
end
/-- x < y -/
def D.lt (x y : D) : Option Bool := match x with
  | .non => none
  | _ => if D.tree 20 x && D.tree 20 y && D.alike x y then some (D.ltb x y) else none

/-! ### places -/
def ixN (n : Nat) (i : Int) : Option Nat := if 0 ≤ i then (if i < n then some i.toNat else none) else if -(n : Int) ≤ i then some (i + n).toNat else none
def atI {α : Type} (xs : List α) (i : Int) : Option α := match ixN xs.length i with
  | some j => xs[j]?
  | none => none
def clip (n d : Nat) : Option Int → Nat
  | none => d
  | some i => if i < 0 then (i + n).toNat else min i.toNat n
def cut {α : Type} (xs : List α) (lo hi : Option Int) : List α := (xs.drop (clip xs.length 0 lo)).take (clip xs.length xs.length hi - clip xs.length 0 lo)
/-- place of the first equal one -/
def find (x : D) : List D → Nat → Option Nat
  | [], _ => none
  | y :: ys, n => if D.eqv y x then some n else find x ys (n + 1)

/-! ### dicts: keys and values side by side -/
def kget (k : D) : List D → List D → Option D
  | a :: as, v :: vs => if D.eqv a k then some v else kget k as vs
  | _, _ => none
def khas (k : D) : List D → Bool
  | [] => false
  | a :: as => D.eqv a k || khas k as
def kput (k v : D) : List D → List D → List D × List D
  | a :: as, u :: us => if D.eqv a k then (a :: as, v :: us) else (a :: (kput k v as us).1, u :: (kput k v as us).2)
  | _, _ => ([k], [v])
mutual
/-- a key: an int, a text, or a tuple of such, at most so deep -/
def D.key : Nat → D → Bool
  | _, .int _ => true
  | _, .str _ => true
  | n + 1, .tup xs => D.keys n xs
  | _, _ => false
def D.keys : Nat → List D → Bool
  | _, [] => true
  | n, x :: xs => D.key n x && D.keys n xs
end
def D.isTup : D → Bool
  | .tup _ => true
  | _ => false
/-- a key, of the kind of those that are there -/
def keyOk (ks : List D) (k : D) : Bool := D.key 8 k && (match ks with
  | [] => true
  | a :: _ => D.isTup a == D.isTup k)

/-! ### the text -/
inductive Op where
  | add | sub | mul | fdv | mod | pow
  deriving DecidableEq
inductive Cm where
  | eq | ne | lt | le | gt | ge | is | isn | inn | nin
  deriving DecidableEq
inductive Ty where
  | str | int | bool | tuple | list | dict
  deriving DecidableEq
/-- built-ins of one thing -/
inductive Bi where
  | len | all | any | list | tuple | dict | sorted | sum | int | abs | str
  deriving DecidableEq
inductive Me where
  | append | extend | pop | popAt | index | get1 | get2 | setdefault
  deriving DecidableEq
inductive Tg where
  | nm (i : Nat) | tp (ts : Tg) | nil | cons (t r : Tg)
  deriving DecidableEq
mutual
/-- nil, cons, star: lists of expressions -/
inductive E where
  | var (i : Nat) | non | bl (b : Bool) | int (i : Int) | str (s : List Nat)
  | nil | cons (e es : E) | star (e es : E)
  | tup (es : E) | lst (es : E) | dct (es : E)
  | bin (o : Op) (a b : E) | neg (a : E) | not (a : E)
  | cmp (o : Cm) (a b : E) | chn (o p : Cm) (a b c : E)
  | and (a b : E) | or (a b : E) | ite (c a b : E)
  | ix (a i : E) | slB (a lo hi : E) | slL (a lo : E) | slH (a hi : E) | slN (a : E)
  | cal (f : Nat) (es : E) | bif (b : Bi) (a : E) | isi (a : E) (t : Ty)
  | met (m : Me) (o es : E)
  | lc (own : List Nat) (t : Tg) (it : I) (c e : E) | dc (own : List Nat) (t : Tg) (it : I) (c k v : E)
  deriving DecidableEq
/-- what is walked -/
inductive I where
  | e (e : E) | rng (es : E) | zip (es : E) | enm (es : E)
  deriving DecidableEq
end
inductive S where
  | nil | seq (a r : S)
  | ex (e : E) | asg (t : Tg) (e : E) | par (i j : Nat) (a b : E) | sas (o i e : E) | aug (i : Nat) (o : Op) (e : E)
  | iff (c : E) (a b : S) | whl (c : E) (b : S) | for (t : Tg) (it : I) (b : S)
  | ret (e : E) | rse (c : Nat) (es : E) | brk | cnt | pass
  /-- try b, by the error's class; its name's slot i -/
  | tri (b : S) (i : Nat) (alts : S) | aS (s r : S) | aN (r : S)
  deriving DecidableEq

/-! ### operations -/
def pow2 : Nat := 18446744073709551616
def small64 (i : Int) : Bool := decide (-(pow2 : Int) < i) && decide (i < (pow2 : Int))
def binO (h : Hd) : Op → D → D → R D
  | .add, .int a, .int b => .ok (.int (a + b)) h
  | .add, .str a, .str b => if a.length + b.length ≤ lim then .ok (.str (a ++ b)) h else .no
  | .add, .tup a, .tup b => if a.length + b.length ≤ lim then .ok (.tup (a ++ b)) h else .no
  | .add, x, y => match ownOf h x with
    | some a => match ownOf h y with
      | some b => if a.length + b.length ≤ lim then .ok (.tl (a ++ b)) h else .no
      | none => .no
    | none => .no
  | .sub, .int a, .int b => .ok (.int (a - b)) h
  | .mul, .int a, .int b => if small64 a || small64 b then .ok (.int (a * b)) h else .no
  | .fdv, .int a, .int b => if b ≠ 0 ∧ b.natAbs < 1073741824 then .ok (.int (a.fdiv b)) h else .no
  | .mod, .int a, .int b => if b ≠ 0 then .ok (.int (a.fmod b)) h else .no
  | .pow, .int a, .int b => if 0 ≤ b ∧ b ≤ 1000000 ∧ a.natAbs < pow2 then .ok (.int (a ^ b.toNat)) h else .no
  | _, _, _ => .no
/-- membership in a list or a tuple -/
def inS (h : Hd) (x y : D) : Option Bool := match seqOf h y with
  | some ys => match D.res h 20 x with
    | some a => match mapO (D.res h 20) ys with
      | some bs => some (bs.any fun b => D.eqv b a)
      | none => none
    | none => none
  | none => none
def inT (t : List Nat) : D → Option Bool
  | .str [c] => some (t.any fun b => Nat.beq b c)
  | _ => none
/-- x in y -/
def inO (h : Hd) (x y : D) : Option Bool := match dicOf h y with
  | some (ks, _) => if keyOk ks x then some (khas x ks) else none
  | none => match y with
    | .str t => inT t x
    | y => inS h x y
def isO : D → D → Option Bool
  | .non, .non => some true
  | .bl a, .bl b => some (a == b)
  | x, .non => match x with
    | .exn _ _ => none
    | _ => some false
  | _, _ => none
def cmpO (h : Hd) : Cm → D → D → Option Bool
  | .eq, x, y => eqH h x y
  | .ne, x, y => (eqH h x y).map fun b => !b
  | .lt, x, y => D.lt x y
  | .gt, .int a, .int b => some (decide (b < a))
  | .le, .int a, .int b => some (decide (a ≤ b))
  | .ge, .int a, .int b => some (decide (b ≤ a))
  | .is, x, y => isO x y
  | .isn, x, y => (isO x y).map fun b => !b
  | .inn, x, y => inO h x y
  | .nin, x, y => (inO h x y).map fun b => !b
  | _, _, _ => none
def isTy (h : Hd) : D → Ty → Option Bool
  | .non, _ => some false
  | .bl _, t => some (t == .bool || t == .int)
  | .int _, t => some (t == .int)
  | .str _, t => some (t == .str)
  | .tup _, t => some (t == .tuple)
  | .lck _, t => some (t == .list)
  | .tl _, t => some (t == .list)
  | .td _ _, t => some (t == .dict)
  | .ref n, t => match h[n]? with
    | some (.lst _) => some (t == .list)
    | some (.dic _ _) => some (t == .dict)
    | none => none
  | .exn _ _, _ => none
def atD (xs : List D) : D → Option D
  | .int k => atI xs k
  | _ => none
def atS (s : List Nat) : D → Option D
  | .int k => if s.length ≤ lim then (atI s k).map fun c => .str [c] else none
  | _ => none
/-- x[i] of texts, lists, tuples -/
def ixS (h : Hd) (x i : D) : Option D := match x with
  | .str s => atS s i
  | x => match seqOf h x with
    | some xs => atD xs i
    | none => none
def ixO (h : Hd) (x i : D) : Option D := match dicOf h x with
  | some (ks, vs) => if keyOk ks i then kget i ks vs else none
  | none => ixS h x i
def slcO (h : Hd) (x : D) (lo hi : Option Int) : Option D := match x with
  | .str s => if s.length ≤ lim then some (.str (cut s lo hi)) else none
  | .tup xs => some (.tup (cut xs lo hi))
  | x => match lstOf h x with
    | some xs => some (.tl (cut xs lo hi))
    | none => none
def digs (n : Nat) : List Nat := (Nat.toDigits 10 n).map Char.toNat
def strI : Int → List Nat
  | .ofNat n => digs n
  | .negSucc n => 45 :: digs (n + 1)
def bools : List D → Option (List Bool)
  | [] => some []
  | .bl b :: r => (bools r).map fun bs => b :: bs
  | _ :: _ => none
def intsL : List D → Option (List Int)
  | [] => some []
  | .int i :: r => (intsL r).map fun is => i :: is
  | _ :: _ => none
def pairs : List D → Option (List D × List D)
  | [] => some ([], [])
  | .tup [k, v] :: r => match pairs r with
    | some (ks, vs) => some (k :: ks, v :: vs)
    | none => none
  | _ :: _ => none
def kputs : List D → List D → List D → List D → Option (List D × List D)
  | [], [], ks, vs => some (ks, vs)
  | k :: r, v :: s, ks, vs => if keyOk ks k then kputs r s (kput k v ks vs).1 (kput k v ks vs).2 else none
  | _, _, _, _ => none
/-- put into a sorted list, behind those that are not greater -/
def insD (x : D) : List D → Option (List D)
  | [] => some [x]
  | y :: ys => match D.lt x y with
    | some true => some (x :: y :: ys)
    | some false => match insD x ys with
      | some r => some (y :: r)
      | none => none
    | none => none
def sortD : List D → Option (List D) → Option (List D)
  | [], o => o
  | x :: xs, o => match o with
    | some ys => sortD xs (insD x ys)
    | none => none
def bifO (h : Hd) : Bi → D → R D
  | .len, .str s => if s.length ≤ lim then .ok (.int s.length) h else .no
  | .len, x => match seqOf h x with
    | some xs => .ok (.int xs.length) h
    | none => match dicOf h x with
      | some (ks, _) => .ok (.int ks.length) h
      | none => .no
  | .all, x => match lstOf h x with
    | some xs => match bools xs with
      | some bs => .ok (.bl (bs.all id)) h
      | none => .no
    | none => .no
  | .any, x => match lstOf h x with
    | some xs => match bools xs with
      | some bs => .ok (.bl (bs.any id)) h
      | none => .no
    | none => .no
  | .sum, x => match lstOf h x with
    | some xs => match intsL xs with
      | some is => .ok (.int is.sum) h
      | none => .no
    | none => .no
  | .list, x => match seqOf h x with
    | some xs => .ok (.tl xs) h
    | none => match dicOf h x with
      | some (ks, _) => .ok (.tl ks) h
      | none => .no
  | .tuple, x => match seqOf h x with
    | some xs => .ok (.tup xs) h
    | none => .no
  | .dict, x => match seqOf h x with
    | some xs => match pairs xs with
      | some (ks, vs) => match kputs ks vs [] [] with
        | some (as, bs) => .ok (.td as bs) h
        | none => .no
      | none => .no
    | none => .no
  | .sorted, x => match seqOf h x with
    | some xs => match sortD xs (some []) with
      | some ys => .ok (.tl ys) h
      | none => .no
    | none => match dicOf h x with
      | some (ks, _) => match sortD ks (some []) with
        | some ys => .ok (.tl ys) h
        | none => .no
      | none => .no
  | .int, .int i => .ok (.int i) h
  | .int, .bl b => .ok (.int (b2i b)) h
  | .int, _ => .no
  | .abs, .int i => .ok (.int (if i < 0 then -i else i)) h
  | .abs, _ => .no
  | .str, .int i => if i.natAbs < 10000000000 then .ok (.str (strI i)) h else .no
  | .str, _ => .no
def metO (h : Hd) : Me → D → List D → R D
  | .append, .ref n, [x] => match h[n]? with
    | some (.lst xs) => if xs.length < lim then .ok .non (h.set n (.lst (xs ++ [x]))) else .no
    | _ => .no
  | .extend, .ref n, [y] => match h[n]? with
    | some (.lst xs) => match ownOf h y with
      | some ys => if xs.length + ys.length ≤ lim then .ok .non (h.set n (.lst (xs ++ ys))) else .no
      | none => .no
    | _ => .no
  | .pop, .ref n, [] => match h[n]? with
    | some (.lst xs) => match xs[xs.length - 1]? with
      | some x => .ok x (h.set n (.lst xs.dropLast))
      | none => .no
    | _ => .no
  | .popAt, .ref n, [.int i] => match h[n]? with
    | some (.lst xs) => match ixN xs.length i with
      | some k => match xs[k]? with
        | some x => .ok x (h.set n (.lst (xs.eraseIdx k)))
        | none => .no
      | none => .no
    | _ => .no
  | .index, x, [y] => match seqOf h x with
    | some xs => match D.res h 20 y with
      | some a => match mapO (D.res h 20) xs with
        | some bs => match find a bs 0 with
          | some k => .ok (.int k) h
          | none => .no
        | none => .no
      | none => .no
    | none => .no
  | .get1, x, [k] => match dicOf h x with
    | some (ks, vs) => if keyOk ks k then .ok ((kget k ks vs).getD .non) h else .no
    | none => .no
  | .get2, x, [k, d] => match dicOf h x with
    | some (ks, vs) => if keyOk ks k then .ok ((kget k ks vs).getD d) h else .no
    | none => .no
  | .setdefault, .ref n, [k, d] => match h[n]? with
    | some (.dic ks vs) => if keyOk ks k && decide (ks.length < lim) then (match kget k ks vs with
      | some v => .ok v h
      | none => .ok d (h.set n (.dic (kput k d ks vs).1 (kput k d ks vs).2))) else .no
    | _ => .no
  | _, _, _ => .no
/-- ahead of a method's arguments: the receiver's kind -/
def metP (h : Hd) (m : Me) (x : D) : Bool := match m, x with
  | .append, .ref n => (match h[n]? with
    | some (.lst _) => true
    | _ => false)
  | .extend, .ref n => (match h[n]? with
    | some (.lst _) => true
    | _ => false)
  | .pop, .ref n => (match h[n]? with
    | some (.lst _) => true
    | _ => false)
  | .popAt, .ref n => (match h[n]? with
    | some (.lst _) => true
    | _ => false)
  | .get1, x => (dicOf h x).isSome
  | .get2, x => (dicOf h x).isSome
  | .setdefault, x => (dicOf h x).isSome
  | _, _ => false
/-- o[i] = x -/
def setO (h : Hd) (o i x : D) : Option Hd := match o with
  | .ref n => match h[n]? with
    | some (.lst xs) => match i with
      | .int k => match ixN xs.length k with
        | some j => some (h.set n (.lst (xs.set j x)))
        | none => none
      | _ => none
    | some (.dic ks vs) => if keyOk ks i && decide (ks.length < lim) then some (h.set n (.dic (kput i x ks vs).1 (kput i x ks vs).2)) else none
    | none => none
  | _ => none

/-! ### targets, walks -/
mutual
def asgT : Tg → D → Env → Option Env
  | .nm i, d, env => some (env.set i (some d))
  | .tp ts, .tup xs, env => asgTs ts xs env
  | _, _, _ => none
def asgTs : Tg → List D → Env → Option Env
  | .nil, [], env => some env
  | .cons t r, x :: xs, env => match asgT t x env with
    | some env' => asgTs r xs env'
    | none => none
  | _, _, _ => none
end
/-- a list that is walked stands as it was -/
abbrev Gs := List (Nat × List D)
def gOk (h : Hd) : Gs → Bool
  | [] => true
  | (n, xs) :: r => (match h[n]? with
    | some (.lst ys) => D.sames xs ys
    | _ => false) && gOk h r
def gOf : D → List D → Gs
  | .ref n, xs => [(n, xs)]
  | _, _ => []
def strsL : List Nat → List D
  | [] => []
  | c :: r => .str [c] :: strsL r
/-- what a thing gives when it is walked -/
def itOf (h : Hd) (x : D) : Option (List D × Gs) := match x with
  | .str s => some (strsL s, [])
  | _ => match seqOf h x with
    | some xs => some (xs, gOf x xs)
    | none => none
def rngD (lo : Int) : Nat → List D
  | 0 => []
  | n + 1 => .int lo :: rngD (lo + 1) n
def zipD : List D → List D → List D
  | x :: xs, y :: ys => .tup [x, y] :: zipD xs ys
  | _, _ => []
def enmD : List D → Int → List D
  | [], _ => []
  | x :: xs, i => .tup [.int i, x] :: enmD xs (i + 1)
def rngO (lo hi : Int) : Option (List D) := if -(1073741824 : Int) ≤ lo ∧ lo ≤ 1073741824 ∧ -(1073741824 : Int) ≤ hi ∧ hi ≤ 1073741824 ∧ (hi - lo).toNat ≤ lim then some (rngD lo (hi - lo).toNat) else none
def wipe (env : Env) : List Nat → Env
  | [] => env
  | v :: vs => (wipe env vs).set v none
def lcL (t : Tg) (c : Env → Hd → R Bool) (e : Env → Hd → R D) (env : Env) (gs : Gs) : List D → Hd → List D → R (List D)
  | [], h, acc => if gOk h gs then .ok acc h else .no
  | x :: xs, h, acc => if gOk h gs && decide (acc.length < lim) then (match asgT t x env with
    | some env1 => (c env1 h).bindN fun b h1 => if b then (e env1 h1).bindN fun d h2 => lcL t c e env gs xs (reg h2 d).2 (acc ++ [(reg h2 d).1]) else lcL t c e env gs xs h1 acc
    | none => .no) else .no
def dcL (t : Tg) (c : Env → Hd → R Bool) (k v : Env → Hd → R D) (env : Env) (gs : Gs) : List D → Hd → List D → List D → R (List D × List D)
  | [], h, ks, vs => if gOk h gs then .ok (ks, vs) h else .no
  | x :: xs, h, ks, vs => if gOk h gs && decide (ks.length < lim) then (match asgT t x env with
    | some env1 => (c env1 h).bindN fun b h1 => if b then (k env1 h1).bindN fun d h2 => (v env1 h2).bindN fun u h3 => if keyOk ks d && !d.isTup then dcL t c k v env gs xs (reg h3 u).2 (kput d (reg h3 u).1 ks vs).1 (kput d (reg h3 u).1 ks vs).2 else .no else dcL t c k v env gs xs h1 ks vs
    | none => .no) else .no

/-! ### expressions -/
section
variable (F : Nat → List D → Hd → R D)
def keyVals : List D → Option (List D × List D)
  | [] => some ([], [])
  | k :: v :: r => match keyVals r with
    | some (ks, vs) => some (k :: ks, v :: vs)
    | none => none
  | [_] => none
/-- a test, by what it is worth -/
def tst (r : R D) : R Bool := r.bind fun d h => R.get (truth h d) h
def int? : D → Option Int
  | .int i => some i
  | _ => none
mutual
def ev : E → Env → Hd → R D
  | .var i, env, h => match env[i]? with
    | some (some d) => .ok d h
    | _ => .no
  | .non, _, h => .ok .non h
  | .bl b, _, h => .ok (.bl b) h
  | .int i, _, h => .ok (.int i) h
  | .str s, _, h => .ok (.str s) h
  | .tup es, env, h => (evs es env h).bind fun ds h1 => if ds.length ≤ lim then .ok (.tup ds) h1 else .no
  | .lst es, env, h => (evs es env h).bind fun ds h1 => if ds.length ≤ lim then .ok (.tl ds) h1 else .no
  | .dct es, env, h => (evs es env h).bind fun ds h1 => match keyVals ds with
    | some (ks, vs) => match kputs ks vs [] [] with
      | some (as, bs) => .ok (.td as bs) h1
      | none => .no
    | none => .no
  | .bin o a b, env, h => (ev a env h).bind fun x h1 => (ev b env h1).bind fun y h2 => binO h2 o x y
  | .neg a, env, h => (ev a env h).bind fun x h1 => match x with
    | .int i => .ok (.int (-i)) h1
    | _ => .no
  | .not a, env, h => (ev a env h).bind fun x h1 => match truth h1 x with
    | some b => .ok (.bl (!b)) h1
    | none => .no
  | .cmp o a b, env, h => (ev a env h).bind fun x h1 => (ev b env h1).bind fun y h2 => match cmpO h2 o x y with
    | some b => .ok (.bl b) h2
    | none => .no
  | .chn o p a b c, env, h => (ev a env h).bind fun x h1 => (ev b env h1).bind fun y h2 => match cmpO h2 o x y with
    | some true => (ev c env h2).bind fun z h3 => match cmpO h3 p y z with
      | some b => .ok (.bl b) h3
      | none => .no
    | some false => .ok (.bl false) h2
    | none => .no
  | .and a b, env, h => (ev a env h).bind fun x h1 => match truth h1 x with
    | some true => ev b env h1
    | some false => .ok x h1
    | none => .no
  | .or a b, env, h => (ev a env h).bind fun x h1 => match truth h1 x with
    | some true => .ok x h1
    | some false => ev b env h1
    | none => .no
  | .ite c a b, env, h => (tst (ev c env h)).bind fun k h1 => if k then ev a env h1 else ev b env h1
  | .ix a i, env, h => (ev a env h).bind fun x h1 => (ev i env h1).bind fun y h2 => R.get (ixO h2 x y) h2
  | .slB a lo hi, env, h => (ev a env h).bind fun x h1 => (ev lo env h1).bind fun l h2 => match int? l with
    | some i => (ev hi env h2).bind fun u h3 => match int? u with
      | some j => R.get (slcO h3 x (some i) (some j)) h3
      | none => .no
    | none => .no
  | .slL a lo, env, h => (ev a env h).bind fun x h1 => (ev lo env h1).bind fun l h2 => match int? l with
    | some i => R.get (slcO h2 x (some i) none) h2
    | none => .no
  | .slH a hi, env, h => (ev a env h).bind fun x h1 => (ev hi env h1).bind fun l h2 => match int? l with
    | some i => R.get (slcO h2 x none (some i)) h2
    | none => .no
  | .slN a, env, h => (ev a env h).bind fun x h1 => R.get (slcO h1 x none none) h1
  | .cal f es, env, h => (evs es env h).bind fun ds h1 => F f ds h1
  | .bif b a, env, h => (ev a env h).bind fun x h1 => bifO h1 b x
  | .isi a t, env, h => (ev a env h).bind fun x h1 => match isTy h1 x t with
    | some b => .ok (.bl b) h1
    | none => .no
  | .met m o es, env, h => (ev o env h).bind fun x h1 => if metP h1 m x then (evs es env h1).bind fun ds h2 => metO h2 m x ds else .no
  | .lc own t it c e, env, h => (evI it env h).bind fun p h1 => (lcL t (fun env h => tst (ev c env h)) (ev e) (wipe env own) p.2 p.1 h1 []).bind fun ds h2 => .ok (.tl ds) h2
  | .dc own t it c k v, env, h => (evI it env h).bind fun p h1 => (dcL t (fun env h => tst (ev c env h)) (ev k) (ev v) (wipe env own) p.2 p.1 h1 [] []).bind fun q h2 => .ok (.td q.1 q.2) h2
  | _, _, _ => .no
/-- arguments, items: each has a place from there on -/
def evs : E → Env → Hd → R (List D)
  | .nil, _, h => .ok [] h
  | .cons e es, env, h => (ev e env h).bind fun d h1 => (evs es env (reg h1 d).2).bind fun ds h2 => .ok ((reg h1 d).1 :: ds) h2
  | .star e es, env, h => (ev e env h).bind fun d h1 => match seqOf h1 d with
    | some xs => (evs es env h1).bind fun ds h2 => .ok (xs ++ ds) h2
    | none => .no
  | _, _, _ => .no
/-- what is walked -/
def evI : I → Env → Hd → R (List D × Gs)
  | .rng es, env, h => (evs es env h).bind fun ds h1 => match ds with
    | [.int n] => (match rngO 0 n with
      | some xs => .ok (xs, []) h1
      | none => .no)
    | [.int k, .int n] => (match rngO k n with
      | some xs => .ok (xs, []) h1
      | none => .no)
    | _ => .no
  | .zip es, env, h => (evs es env h).bind fun ds h1 => match ds with
    | [.tup xs, .tup ys] => .ok (zipD xs ys, []) h1
    | [x, y] => (match lstOf h1 x, lstOf h1 y with
      | some xs, some ys => .ok (zipD xs ys, gOf x xs ++ gOf y ys) h1
      | _, _ => .no)
    | _ => .no
  | .enm es, env, h => (evs es env h).bind fun ds h1 => match ds with
    | [x] => (match seqOf h1 x with
      | some xs => .ok (enmD xs 0, gOf x xs) h1
      | none => .no)
    | _ => .no
  | .e a, env, h => (ev a env h).bind fun x h1 => R.get (itOf h1 x) h1
end
def evT (e : E) (env : Env) (h : Hd) : R Bool := tst (ev F e env h)

/-! ### statements -/
inductive Fl where
  | nx | bk | ct | rt (d : D)
def forL (t : Tg) (body : Env → Hd → R (Fl × Env)) (gs : Gs) : List D → Env → Hd → R (Fl × Env)
  | [], env, h => if gOk h gs then .ok (.nx, env) h else .no
  | x :: xs, env, h => if gOk h gs then (match asgT t x env with
    | some env1 => (body env1 h).bind fun p h1 => match p.1 with
      | .nx => forL t body gs xs p.2 h1
      | .ct => forL t body gs xs p.2 h1
      | .bk => .ok (.nx, p.2) h1
      | .rt d => .ok (.rt d, p.2) h1
    | none => .no) else .no
def whL (c : Env → Hd → R Bool) (body : Env → Hd → R (Fl × Env)) : Nat → Env → Hd → R (Fl × Env)
  | 0, _, _ => .no
  | n + 1, env, h => (c env h).bind fun b h1 => if b then (body env h1).bind fun p h2 => match p.1 with
      | .nx => whL c body n p.2 h2
      | .ct => whL c body n p.2 h2
      | .bk => .ok (.nx, p.2) h2
      | .rt d => .ok (.rt d, p.2) h2
    else .ok (.nx, env) h1
/-- how a suite ends: the error's name goes -/
def triE (i : Nat) : R (Fl × Env) → R (Fl × Env)
  | .ok p h => .ok (p.1, p.2.set i none) h
  | .ex _ _ _ => .no
  | .no => .no
/-! w: the most turns of a while -/
mutual
def ex (w : Nat) : S → Env → Hd → R (Fl × Env)
  | .nil, env, h => .ok (.nx, env) h
  | .seq a r, env, h => (ex w a env h).bind fun p h1 => match p.1 with
    | .nx => ex w r p.2 h1
    | f => .ok (f, p.2) h1
  | .ex e, env, h => (ev F e env h).bind fun _ h1 => .ok (.nx, env) h1
  | .asg t e, env, h => (ev F e env h).bind fun d h1 => match asgT t (reg h1 d).1 env with
    | some env1 => .ok (.nx, env1) (reg h1 d).2
    | none => .no
  | .par i j a b, env, h => (evs F (.cons a (.cons b .nil)) env h).bind fun ds h1 => match ds with
    | [x, y] => .ok (.nx, (env.set i (some x)).set j (some y)) h1
    | _ => .no
  | .sas o i e, env, h => (ev F e env h).bind fun x h1 => (ev F o env (reg h1 x).2).bind fun q h2 => (ev F i env h2).bind fun k h3 => match setO h3 q k (reg h1 x).1 with
    | some h4 => .ok (.nx, env) h4
    | none => .no
  | .aug i o e, env, h => match env[i]? with
    | some (some x) => (ev F e env h).bind fun y h1 => match x, y with
      | .int a, .int b => match o with
        | .add => .ok (.nx, env.set i (some (.int (a + b)))) h1
        | .sub => .ok (.nx, env.set i (some (.int (a - b)))) h1
        | _ => .no
      | _, _ => .no
    | _ => .no
  | .iff c a b, env, h => (evT F c env h).bind fun k h1 => if k then ex w a env h1 else ex w b env h1
  | .whl c b, env, h => whL (evT F c) (ex w b) w env h
  | .for t it b, env, h => (evI F it env h).bind fun p h1 => forL t (ex w b) p.2 p.1 env h1
  | .ret e, env, h => (ev F e env h).bind fun d h1 => .ok (.rt d, env) h1
  | .rse c es, env, h => (evs F es env h).bind fun ds h1 => .ex c ds h1
  | .brk, env, h => .ok (.bk, env) h
  | .cnt, env, h => .ok (.ct, env) h
  | .pass, env, h => .ok (.nx, env) h
  | .tri b i alts, env, h => match ex w b env h with
    | .ok p h1 => .ok p h1
    | .ex c fs h1 => exA w alts c c i fs (List.replicate env.length none) h1
    | .no => .no
  | .aS _ _, _, _ => .no
  | .aN _, _, _ => .no
/-- the suite for an error of the class c -/
def exA (w : Nat) : S → Nat → Nat → Nat → List D → Env → Hd → R (Fl × Env)
  | .aS s _, 0, _, i, _, env, h => triE i (ex w s env h)
  | .aN _, 0, k, _, fs, _, h => .ex k fs h
  | .aS _ r, c + 1, k, i, fs, env, h => exA w r c k i fs env h
  | .aN r, c + 1, k, i, fs, env, h => exA w r c k i fs env h
  | _, _, _, _, _, _, _ => .no
end
end

/-! ### calls -/
/-- what a call leaves of the heap that it found is what it found, or holds no refs -/
def okT : Hd → Hd → Bool
  | [], _ => true
  | o :: r, u :: s => (u.pure || Ob.same o u) && okT r s
  | _ :: _, [] => false
/-- what is made in a call is dropped, if nothing names it -/
def fin (h0 : Hd) (d : D) (h : Hd) : R D :=
  if Nat.ble h.length h0.length then .ok d h else
  if okT h0 h then (match d with
    | .ref k => if Nat.blt k h0.length then .ok d (h.take h0.length) else (match h[k]? with
      | some (.lst xs) => if D.pures xs then .ok (.tl xs) (h.take h0.length) else .ok d h
      | some (.dic ks vs) => if D.pures ks && D.pures vs then .ok (.td ks vs) (h.take h0.length) else .ok d h
      | none => .ok d h)
    | d => if d.pure then .ok d (h.take h0.length) else .ok d h)
  else .ok d h
structure Fn where
  ps : Nat
  ns : Nat
  body : S
def start (n : Nat) (ds : List D) : Env := ds.map some ++ List.replicate (n - ds.length) none
/-- a def's body -/
def runB (F : Nat → List D → Hd → R D) (w : Nat) (fn : Fn) (ds : List D) (h : Hd) : R D := (ex F w fn.body (start fn.ns ds) h).bind fun p h1 => match p.1 with
  | .rt d => fin h d h1
  | .nx => fin h .non h1
  | _ => .no
/-- the k-th level: a call of a def, in which calls are of the level below. What is handed in without refs is answered off the heap, where that can be -/
def callF (P : List Fn) (w : Nat) : Nat → Nat → List D → Hd → R D
  | 0, _, _, _ => .no
  | k + 1, f, ds, h => match P[f]? with
    | some fn => if ds.length = fn.ps then (if D.pures ds = true then (match runB (callF P w k) w fn ds [] with
      | .ok d [] => if d.pure = true then .ok d h else runB (callF P w k) w fn ds h
      | .ex c fs _ => if D.pures fs = true then .ex c fs h else runB (callF P w k) w fn ds h
      | _ => runB (callF P w k) w fn ds h) else runB (callF P w k) w fn ds h) else .no
    | none => .no
end Mp
end
section
set_option Elab.async false
set_option linter.all false
set_option maxRecDepth 100000
set_option maxHeartbeats 4000000
set_option autoImplicit false
/-! MpSim: how the small Python's data and heap lie in the abstract heap of the hand layer. -/
namespace Mp
open PySem PySem.Spec PyProof.Rows L2
abbrev St := L2.St

/-! ### keys -/
mutual
def nk : D → NestedKey
  | .non => .none
  | .bl b => .num (b2i b)
  | .int i => .num i
  | .str s => .text ⟨s.toArray⟩
  | .tup xs => .tup (nks xs)
  | _ => .none
def nks : List D → List NestedKey
  | [] => []
  | x :: xs => nk x :: nks xs
end

/-! ### data -/
/-- its signs are code points -/
def okS (s : List Nat) : Bool := s.all fun c => Nat.blt c 1114112
/-- a list that is never written -/
def LkL (K : PySem.W.Frag) (H : Hp) (a : Addr) (xs : List V) : Prop :=
  (∃ o, H a = some (.frz o (.lst xs))) ∨
    ∃ (o : Obj) (its : Array Value) (n : Nat), K.lookup a = some o ∧ o.cls = .type "list" ∧ o.dict = none ∧ o.data = .seq its n ∧ its.size ≤ sizeLine ∧ Vals xs its.toList
theorem LkL.seq {K : PySem.W.Frag} {H : Hp} {a : Addr} {xs : List V} (h : LkL K H a xs) : SqL K H a xs := by
  rcases h with ⟨o, h⟩ | h
  · exact .inl (.inr ⟨o, h⟩)
  · exact .inr h
/-- a tuple that has no dict of its own -/
def SqN (K : PySem.W.Frag) (H : Hp) (a : Addr) (xs : List V) : Prop :=
  (∃ o, H a = some (.frz o (.tup xs)) ∧ o.dict = none) ∨
    ∃ (o : Obj) (its : Array Value) (n : Nat), K.lookup a = some o ∧ o.cls = .type "tuple" ∧ o.dict = none ∧ o.data = .seq its n ∧ its.size ≤ sizeLine ∧ Vals xs its.toList
theorem SqN.sq {K : PySem.W.Frag} {H : Hp} {a : Addr} {xs : List V} (h : SqN K H a xs) : SqT K H a xs := by
  rcases h with ⟨o, h, _⟩ | ⟨o, its, n, h1, h2, _, h3, h4, h5⟩
  · exact .inl (.inr ⟨o, h⟩)
  · exact .inr ⟨o, its, n, h1, h2, h3, h4, h5⟩
section
variable (K : PySem.W.Frag) (w : World) (m : List Addr) (H : Hp)
mutual
def SRep : D → V → Prop
  | .non, v => v = .non
  | .bl b, v => v = .bl b
  | .int i, v => v = .int i
  | .str s, v => v = .str ⟨s.toArray⟩ ∧ okS s = true
  | .tup xs, v => ∃ a vs, v = .ref a ∧ SqN K H a vs ∧ SReps xs vs
  | .lck xs, v => ∃ a vs, v = .ref a ∧ LkL K H a vs ∧ SReps xs vs
  | .ref n, v => ∃ a, m[n]? = some a ∧ v = .ref a
  | .tl _, _ => False
  | .td _ _, _ => False
  | .exn _ _, _ => False
def SReps : List D → List V → Prop
  | [], vs => vs = []
  | x :: xs, vs => ∃ v r, vs = v :: r ∧ SRep x v ∧ SReps xs r
end
/-- a dict's own entries -/
def DRaw (a : Addr) (es : List DictEntry) : Heap → Prop := fun h => ∃ o ep, h.get? a = some o ∧ o.ExactDict ∧ o.data = .dict es.toArray ep
def EntR : List D → List D → List DictEntry → Prop
  | [], vs, es => vs = [] ∧ es = []
  | k :: ks, vs, es => ∃ v vr e er, vs = v :: vr ∧ es = e :: er ∧ (∃ x, RelV x e.key ∧ SRep K m H k x) ∧ (∃ y, RelV y e.val ∧ SRep K m H v y) ∧ e.hash = (nk k).hash w ∧ EntR ks vr er
/-- the keys are of one kind, each once -/
def KeysOk (ks : List D) : Prop := (∀ k ∈ ks, D.key 8 k = true) ∧ (∀ k ∈ ks, ∀ k' ∈ ks, D.isTup k = D.isTup k') ∧ (ks.map nk).Nodup
def DicR (a : Addr) (ks vs : List D) : Prop := ∃ es, H a = some (.ext (DRaw a es)) ∧ (a == sysModules) = false ∧ ks.length ≤ lim ∧ KeysOk ks ∧ EntR K w m H ks vs es
def ObR (a : Addr) : Ob → Prop
  | .lst xs => ∃ vs, H a = some (.lst vs) ∧ SReps K m H xs vs
  | .dic ks vs => DicR K w m H a ks vs
structure Sim (h : Hd) : Prop where
  len : m.length = h.length
  nd : m.Nodup
  ob : ∀ (n : Nat) (o : Ob) (a : Addr), h[n]? = some o → m[n]? = some a → ObR K w m H a o
def Rep : D → V → Prop
  | .tl xs, v => ∃ a vs, v = .ref a ∧ a ∉ m ∧ H a = some (.lst vs) ∧ SReps K m H xs vs
  | .td ks vs, v => ∃ a, v = .ref a ∧ a ∉ m ∧ DicR K w m H a ks vs
  | d, v => SRep K m H d v
end
/-- a list, a dict just made was not there ahead of that -/
def New (Hb : Hp) : D → V → Prop
  | .tl _, v => ∀ a, v = .ref a → Hb a = none
  | .td _ _, v => ∀ a, v = .ref a → Hb a = none
  | _, _ => True
def RepB (K : PySem.W.Frag) (w : World) : Hp → List Addr → Hp → D → V → Prop := fun Hb m H d v => Rep K w m H d v ∧ New Hb d v
/-- what the map does not name stands as it was -/
def Ext (m : List Addr) (H H' : Hp) : Prop := ∀ a o, a ∉ m → H a = some o → H' a = some o
/-- a state behind another -/
structure Nx (K : PySem.W.Frag) (w : World) (m : List Addr) (H : Hp) (m' : List Addr) (h' : Hd) (H' : Hp) : Prop where
  pre : ∃ ms, m' = m ++ ms ∧ ∀ a ∈ ms, H a = none
  sim : Sim K w m' H' h'
  ext : Ext m H H'
section
variable {K : PySem.W.Frag} {w : World} {m m' m1 m2 : List Addr} {H H' H1 H2 : Hp} {h h' h1 h2 : Hd}
/-- what the map names is a list or a dict -/
theorem Sim.at (S : Sim K w m H h) {a : Addr} (ha : a ∈ m) : (∃ vs, H a = some (.lst vs)) ∨ ∃ φ, H a = some (.ext φ) := by
  obtain ⟨n, hn, e⟩ := List.mem_iff_getElem.mp ha
  have hl : n < h.length := by rw [← S.len]; exact hn
  have q := S.ob n h[n] a (List.getElem?_eq_getElem hl) (by rw [List.getElem?_eq_getElem hn, e])
  cases hh : h[n] with
  | lst xs =>
    rw [hh] at q
    obtain ⟨vs, q, _⟩ := q
    exact .inl ⟨vs, q⟩
  | dic ks vs =>
    rw [hh] at q
    obtain ⟨es, q, _⟩ := q
    exact .inr ⟨_, q⟩
theorem Sim.some (S : Sim K w m H h) {a : Addr} (ha : a ∈ m) : ∃ o, H a = some o := by
  rcases S.at ha with ⟨vs, q⟩ | ⟨φ, q⟩
  · exact ⟨_, q⟩
  · exact ⟨_, q⟩
theorem Sim.notTup (S : Sim K w m H h) {a : Addr} {xs : List V} (q : H a = Option.some (.tup xs)) : a ∉ m := fun ha => by
  rcases S.at ha with ⟨vs, z⟩ | ⟨φ, z⟩ <;> (rw [q] at z; cases z)
theorem Sim.notFrz (S : Sim K w m H h) {a : Addr} {o : Obj} {u : HO} (q : H a = Option.some (.frz o u)) : a ∉ m := fun ha => by
  rcases S.at ha with ⟨vs, z⟩ | ⟨φ, z⟩ <;> (rw [q] at z; cases z)
/-- what a reading leans on: tuples and locked things stay, the map grows -/
structure Grow (K : PySem.W.Frag) (m : List Addr) (H : Hp) (m' : List Addr) (H' : Hp) : Prop where
  map : ∀ (n : Nat) (a : Addr), m[n]? = some a → m'[n]? = some a
  tup : ∀ a xs, SqN K H a xs → SqN K H' a xs
  lck : ∀ a xs, LkL K H a xs → LkL K H' a xs
mutual
theorem SRep.grow (G : Grow K m H m' H') : ∀ (d : D) (v : V), SRep K m H d v → SRep K m' H' d v
  | .non, v, r => by simpa only [SRep] using r
  | .bl _, v, r => by simpa only [SRep] using r
  | .int _, v, r => by simpa only [SRep] using r
  | .str _, v, r => by simpa only [SRep] using r
  | .tup xs, v, r => by
    simp only [SRep] at r ⊢
    obtain ⟨a, vs, e, q, z⟩ := r
    exact ⟨a, vs, e, G.tup a vs q, SReps.grow G xs vs z⟩
  | .lck xs, v, r => by
    simp only [SRep] at r ⊢
    obtain ⟨a, vs, e, q, z⟩ := r
    exact ⟨a, vs, e, G.lck a vs q, SReps.grow G xs vs z⟩
  | .ref n, v, r => by
    simp only [SRep] at r ⊢
    obtain ⟨a, e, q⟩ := r
    exact ⟨a, G.map n a e, q⟩
  | .tl _, _, r => by simp only [SRep] at r
  | .td _ _, _, r => by simp only [SRep] at r
  | .exn _ _, _, r => by simp only [SRep] at r
theorem SReps.grow (G : Grow K m H m' H') : ∀ (ds : List D) (vs : List V), SReps K m H ds vs → SReps K m' H' ds vs
  | [], vs, r => by simpa only [SReps] using r
  | d :: ds, vs, r => by
    simp only [SReps] at r ⊢
    obtain ⟨v, t, e, q, z⟩ := r
    exact ⟨v, t, e, SRep.grow G d v q, SReps.grow G ds t z⟩
end
theorem EntR.grow (G : Grow K m H m' H') : ∀ (ks vs : List D) (es : List DictEntry), EntR K w m H ks vs es → EntR K w m' H' ks vs es
  | [], vs, es, r => by simpa only [EntR] using r
  | k :: ks, vs, es, r => by
    simp only [EntR] at r ⊢
    obtain ⟨v, vr, e, er, e1, e2, ⟨x, x1, x2⟩, ⟨y, y1, y2⟩, hh, z⟩ := r
    exact ⟨v, vr, e, er, e1, e2, ⟨x, x1, x2.grow G k x⟩, ⟨y, y1, y2.grow G v y⟩, hh, EntR.grow G ks vr er z⟩
theorem DicR.grow (G : Grow K m H m' H') {a : Addr} {ks vs : List D} (hk : ∀ o, H a = some o → H' a = some o) (r : DicR K w m H a ks vs) : DicR K w m' H' a ks vs := by
  obtain ⟨es, e, s, l, n, q⟩ := r
  exact ⟨es, hk _ e, s, l, n, EntR.grow G ks vs es q⟩
theorem Nx.grow (S : Sim K w m H h) (N : Nx K w m H m' h' H') : Grow K m H m' H' := by
  obtain ⟨ms, e, _⟩ := N.pre
  refine ⟨fun n a q => ?_, fun a xs q => ?_, fun a xs q => ?_⟩
  · rw [e, List.getElem?_append_left (List.getElem?_eq_some_iff.mp q).1]
    exact q
  · rcases q with ⟨o, q, n⟩ | q
    · exact .inl ⟨o, N.ext a _ (S.notFrz q) q, n⟩
    · exact .inr q
  · rcases q with ⟨o, q⟩ | q
    · exact .inl ⟨o, N.ext a _ (S.notFrz q) q⟩
    · exact .inr q
theorem Nx.refl (S : Sim K w m H h) : Nx K w m H m h H := ⟨⟨[], by simp, by simp⟩, S, fun _ _ _ e => e⟩
theorem Nx.trans (a : Nx K w m H m1 h1 H1) (b : Nx K w m1 H1 m2 h2 H2) : Nx K w m H m2 h2 H2 := by
  obtain ⟨s1, e1, f1⟩ := a.pre
  obtain ⟨s2, e2, f2⟩ := b.pre
  refine ⟨⟨s1 ++ s2, by rw [e2, e1, List.append_assoc], fun x hx => ?_⟩, b.sim, fun x o hx q => ?_⟩
  · rcases List.mem_append.mp hx with z | z
    · exact f1 x z
    · cases q : H x with
      | none => rfl
      | some o =>
        have n1 := f2 x z
        by_cases hm : x ∈ m
        · obtain ⟨u, hu⟩ := a.sim.some (show x ∈ m1 by rw [e1]; exact List.mem_append_left _ hm)
          rw [n1] at hu; cases hu
        · rw [a.ext x o hm q] at n1; cases n1
  · refine b.ext x o (fun z => ?_) (a.ext x o hx q)
    rw [e1] at z
    rcases List.mem_append.mp z with z | z
    · exact hx z
    · rw [f1 x z] at q; cases q
theorem Rep.grow (S : Sim K w m H h) (N : Nx K w m H m' h' H') : ∀ (d : D) (v : V), Rep K w m H d v → Rep K w m' H' d v := by
  have G := N.grow S
  obtain ⟨ms, e, f⟩ := N.pre
  have out : ∀ (a : Addr) (o : HO), a ∉ m → H a = some o → a ∉ m' := fun a o hn q z => by
    rw [e] at z
    rcases List.mem_append.mp z with z | z
    · exact hn z
    · rw [f a z] at q; cases q
  intro d v r
  cases d with
  | tl xs =>
    obtain ⟨a, vs, e, n, q, z⟩ := r
    exact ⟨a, vs, e, out a _ n q, N.ext a _ n q, SReps.grow G xs vs z⟩
  | td ks vs =>
    obtain ⟨a, e, n, q⟩ := r
    obtain ⟨es, q1, _⟩ := id q
    exact ⟨a, e, out a _ n q1, q.grow G fun o z => N.ext a o n z⟩
  | _ => exact SRep.grow G _ v r
/-! ### slots -/
def EnvR (K : PySem.W.Frag) (m : List Addr) (H : Hp) (env : Env) (σ : St) : Prop := env.length = σ.length ∧ ∀ (i : Nat) (d : D), env[i]? = some (some d) → ∃ v, σ[i]? = some (some v) ∧ SRep K m H d v
theorem EnvR.grow {env : Env} {σ : St} (G : Grow K m H m' H') (E : EnvR K m H env σ) : EnvR K m' H' env σ :=
  ⟨E.1, fun i d e => let ⟨v, q, r⟩ := E.2 i d e; ⟨v, q, SRep.grow G d v r⟩⟩
theorem EnvR.set {env : Env} {σ : St} {i : Nat} {d : D} {v : V} (E : EnvR K m H env σ) (r : SRep K m H d v) : EnvR K m H (env.set i (some d)) (σ.set i (some v)) := by
  refine ⟨by rw [List.length_set, List.length_set]; exact E.1, fun j x e => ?_⟩
  by_cases hij : i = j
  · subst hij
    by_cases hl : i < env.length
    · rw [List.getElem?_set_self hl] at e
      cases e
      exact ⟨v, List.getElem?_set_self (by rw [← E.1]; exact hl), r⟩
    · rw [List.getElem?_eq_none (by rw [List.length_set]; omega)] at e; cases e
  · rw [List.getElem?_set_ne hij] at e
    rw [List.getElem?_set_ne hij]
    exact E.2 j x e
theorem EnvR.wiped {env : Env} {σ : St} (E : EnvR K m H env σ) : ∀ vs : List Nat, EnvR K m H (Mp.wipe env vs) (L2.wipe σ vs)
  | [] => E
  | v :: vs => by
    have q := EnvR.wiped E vs
    refine ⟨by show ((Mp.wipe env vs).set v none).length = ((L2.wipe σ vs).set v none).length; rw [List.length_set, List.length_set]; exact q.1, fun j x e => ?_⟩
    have e : ((Mp.wipe env vs).set v none)[j]? = some (some x) := e
    show ∃ u, ((L2.wipe σ vs).set v none)[j]? = some (some u) ∧ _
    by_cases hij : v = j
    · subst hij
      by_cases hl : v < (Mp.wipe env vs).length
      · rw [List.getElem?_set_self hl] at e; cases e
      · rw [List.getElem?_eq_none (by rw [List.length_set]; omega)] at e; cases e
    · rw [List.getElem?_set_ne hij] at e
      rw [List.getElem?_set_ne hij]
      exact q.2 j x e
end

/-! ### results, readings -/
/-- how an error of the small Python lies: class, own dict -/
abbrev XR := List Addr → Hp → Nat → List D → Value → Option Addr → Prop
section
variable {α β γ δ : Type}
/-- Hb: the heap ahead of what made it -/
abbrev Rel (α β : Type) := Hp → List Addr → Hp → α → β → Prop
def DownR {α β : Type} (rel : Rel α β) : Prop := ∀ (Hb Hb' : Hp) (m : List Addr) (H : Hp) (a : α) (b : β), (∀ p, Hb' p = none → Hb p = none) → rel Hb' m H a b → rel Hb m H a b
variable (K : PySem.W.Frag) (w : World) (xr : XR)
def Post (rel : Rel α β) (W : WX) (m : List Addr) (H : Hp) (σ : St) (r : R α) (Q : β → Hp → Prop) : Prop := match r with
  | .ok a h' => ∀ b H' m', Nx K w m H m' h' H' → rel H m' H' a b → Q b H'
  | .ex c fs h' => ∀ cls od H' m', Nx K w m H m' h' H' → xr m' H' c fs cls od → W cls od σ H'
  | .no => False
def tG (rel : Rel α β) (W : WX) (f : Env → Hd → R α) : St → Hp → (β → Hp → Prop) → Prop := fun σ H Q =>
  ∃ m env h, EnvR K m H env σ ∧ Sim K w m H h ∧ Post K w xr rel W m H σ (f env h) Q
end
section
variable {K : PySem.W.Frag} {w : World} {xr : XR} {α β γ δ : Type} {rel : Rel α β} {rel2 : Rel γ δ} {W : WX} {m m1 : List Addr} {H H1 : Hp} {h h1 : Hd} {σ : St}
theorem RepB.down {K : PySem.W.Frag} {w : World} : DownR (RepB K w) := fun Hb Hb' m H d v e r => ⟨r.1, by
  have q := r.2
  cases d with
  | tl xs => exact fun a ea => e _ (q a ea)
  | td ks vs => exact fun a ea => e _ (q a ea)
  | _ => exact True.intro⟩
theorem Post.imp {r : R α} {Q Q' : β → Hp → Prop} (p : Post K w xr rel W m H σ r Q) (f : ∀ b H', Q b H' → Q' b H') : Post K w xr rel W m H σ r Q' := by
  cases r with
  | ok a h' => exact fun b H' m' n q => f b H' (p b H' m' n q)
  | ex c fs h' => exact p
  | no => exact p
theorem Nx.gone (N : Nx K w m H m1 h1 H1) : ∀ p, H1 p = none → H p = none := fun p e => by
  cases q : H p with
  | none => rfl
  | some o =>
    by_cases hm : p ∈ m
    · obtain ⟨ms, e1, _⟩ := N.pre
      obtain ⟨u, hu⟩ := N.sim.some (show p ∈ m1 by rw [e1]; exact List.mem_append_left _ hm)
      rw [e] at hu; cases hu
    · rw [N.ext p o hm q] at e; cases e
theorem Post.step {r : R α} {Q : β → Hp → Prop} (hd : DownR rel) (N : Nx K w m H m1 h1 H1) (p : Post K w xr rel W m H σ r Q) : Post K w xr rel W m1 H1 σ r Q := by
  cases r with
  | ok a h' => exact fun b H' m' n q => p b H' m' (N.trans n) (hd _ _ _ _ _ _ N.gone q)
  | ex c fs h' => exact fun cls od H' m' n q => p cls od H' m' (N.trans n) q
  | no => exact p
theorem Post.bind {r : R α} {f : α → Hd → R γ} {Q : δ → Hp → Prop} (p : Post K w xr rel2 W m H σ (r.bind f) Q) :
    Post K w xr rel W m H σ r fun b H1 => ∃ a m1 h1, Nx K w m H m1 h1 H1 ∧ rel H m1 H1 a b ∧ Post K w xr rel2 W m H σ (f a h1) Q := by
  cases r with
  | ok a h' => exact fun b H' m' n q => ⟨a, m', h', n, q, p⟩
  | ex c fs h' => exact p
  | no => exact p
theorem Post.bindN {r : R α} {f : α → Hd → R γ} {Q : δ → Hp → Prop} (p : Post K w xr rel2 W m H σ (r.bindN f) Q) {W' : WX} :
    Post K w xr rel W' m H σ r fun b H1 => ∃ a m1 h1, Nx K w m H m1 h1 H1 ∧ rel H m1 H1 a b ∧ Post K w xr rel2 W m H σ (f a h1) Q := by
  cases r with
  | ok a h' => exact fun b H' m' n q => ⟨a, m', h', n, q, p⟩
  | ex c fs h' => exact p.elim
  | no => exact p
/-- an operation of values that raises nothing: its end -/
theorem Post.ok {a : α} {b : β} {Q : β → Hp → Prop} (S : Sim K w m H h) (r : rel H m H a b) (p : Post K w xr rel W m H σ (.ok a h) Q) : Q b H := p b H m (Nx.refl S) r
end

theorem PE.mono {X : Cx} {e : Expr} {t t' : TE} (p : PE X e t) (f : ∀ σ H Q, t' σ H Q → t σ H Q) : PE X e t' := ⟨fun pins s σ H Q I q => p.run pins s σ H Q I (f σ H Q q)⟩
theorem PT.mono {X : Cx} {e : Expr} {t t' : TT} (p : PT X e t) (f : ∀ σ H Q, t' σ H Q → t σ H Q) : PT X e t' := ⟨fun pins s σ H Q I q => p.run pins s σ H Q I (f σ H Q q)⟩
theorem PA.mono {X : Cx} {e : List Expr} {t t' : TA} (p : PA X e t) (f : ∀ σ H Q, t' σ H Q → t σ H Q) : PA X e t' := ⟨fun pos pins s σ H Q I q => p.run pos pins s σ H Q I (f σ H Q q)⟩
theorem PI.mono {X : Cx} {tg e : Expr} {t t' : TI} (p : PI X tg e t) (f : ∀ σ H Q, t' σ H Q → t σ H Q) : PI X tg e t' := ⟨fun pins s σ H Q I q => p.run pins s σ H Q I (f σ H Q q)⟩
theorem PG.mono {X : Cx} {e : Expr} {t t' : TG} (p : PG X e t) (f : ∀ v σ H Q, t' v σ H Q → t v σ H Q) : PG X e t' := ⟨fun pins s σ H v u Q I r q => p.run pins s σ H v u Q I r (f v σ H Q q)⟩
theorem PS.mono {X : Cx} {e : Stmt} {t t' : TS} (p : PS X e t) (f : ∀ D σ H, t' D σ H → t D σ H) : PS X e t' := ⟨fun pins s σ H D I q => p.run pins s σ H D I (f D σ H q)⟩
theorem PSs.mono {X : Cx} {e : List Stmt} {t t' : TS} (p : PSs X e t) (f : ∀ D σ H, t' D σ H → t D σ H) : PSs X e t' := ⟨fun pins s σ H D I q => p.run pins s σ H D I (f D σ H q)⟩
theorem PE.or {X : Cx} {e : Expr} {t u : TE} (p : PE X e t) (q : PE X e u) : PE X e (fun σ H Q => t σ H Q ∨ u σ H Q) := ⟨fun pins s σ H Q I z => z.elim (p.run pins s σ H Q I) (q.run pins s σ H Q I)⟩
theorem PT.or {X : Cx} {e : Expr} {t u : TT} (p : PT X e t) (q : PT X e u) : PT X e (fun σ H Q => t σ H Q ∨ u σ H Q) := ⟨fun pins s σ H Q I z => z.elim (p.run pins s σ H Q I) (q.run pins s σ H Q I)⟩
theorem PI.or {X : Cx} {tg e : Expr} {t u : TI} (p : PI X tg e t) (q : PI X tg e u) : PI X tg e (fun σ H Q => t σ H Q ∨ u σ H Q) := ⟨fun pins s σ H Q I z => z.elim (p.run pins s σ H Q I) (q.run pins s σ H Q I)⟩
end Mp
end
section
set_option Elab.async false
set_option linter.all false
set_option maxRecDepth 100000
set_option maxHeartbeats 4000000
set_option autoImplicit false
/-! MpOps: the operations of the small Python, each sound over the hand layer's rules. -/
namespace Mp
open PySem PySem.Spec PyProof.Rows L2

theorem lim_eq : lim = sizeLine := by rw [sizeLine_eq]; rfl
section
variable {K : PySem.W.Frag} {w : World} {m m' : List Addr} {H H' : Hp} {h h' : Hd}
theorem rep_s {d : D} {v : V} (hd : ∀ xs, d ≠ .tl xs) (hd2 : ∀ ks vs, d ≠ .td ks vs) (r : Rep K w m H d v) : SRep K m H d v := by
  cases d with
  | tl xs => exact absurd rfl (hd xs)
  | td ks vs => exact absurd rfl (hd2 ks vs)
  | _ => exact r
theorem rep_non {v : V} (r : Rep K w m H .non v) : v = .non := by
  have r : SRep K m H .non v := r
  simpa only [SRep] using r
theorem rep_bl {b : Bool} {v : V} (r : Rep K w m H (.bl b) v) : v = .bl b := by
  have r : SRep K m H (.bl b) v := r
  simpa only [SRep] using r
theorem rep_int {i : Int} {v : V} (r : Rep K w m H (.int i) v) : v = .int i := by
  have r : SRep K m H (.int i) v := r
  simpa only [SRep] using r
theorem rep_str {s : List Nat} {v : V} (r : Rep K w m H (.str s) v) : v = .str ⟨s.toArray⟩ ∧ okS s = true := by
  have r : SRep K m H (.str s) v := r
  simpa only [SRep] using r
theorem rep_tupn {xs : List D} {v : V} (r : Rep K w m H (.tup xs) v) : ∃ a vs, v = .ref a ∧ SqN K H a vs ∧ SReps K m H xs vs := by
  have r : SRep K m H (.tup xs) v := r
  simpa only [SRep] using r
theorem rep_tup {xs : List D} {v : V} (r : Rep K w m H (.tup xs) v) : ∃ a vs, v = .ref a ∧ SqT K H a vs ∧ SReps K m H xs vs := by
  obtain ⟨a, vs, e, q, z⟩ := rep_tupn r
  exact ⟨a, vs, e, q.sq, z⟩
theorem rep_lck {xs : List D} {v : V} (r : Rep K w m H (.lck xs) v) : ∃ a vs, v = .ref a ∧ LkL K H a vs ∧ SReps K m H xs vs := by
  have r : SRep K m H (.lck xs) v := r
  simpa only [SRep] using r
theorem rep_ref {n : Nat} {v : V} (r : Rep K w m H (.ref n) v) : ∃ a, m[n]? = some a ∧ v = .ref a := by
  have r : SRep K m H (.ref n) v := r
  simpa only [SRep] using r
variable {Hb : Hp}
theorem mk_non : RepB K w Hb m H .non .non := ⟨by show SRep K m H .non .non; simp only [SRep], True.intro⟩
theorem mk_bl {b : Bool} : RepB K w Hb m H (.bl b) (.bl b) := ⟨by show SRep K m H (.bl b) (.bl b); simp only [SRep], True.intro⟩
theorem mk_int {i : Int} : RepB K w Hb m H (.int i) (.int i) := ⟨by show SRep K m H (.int i) (.int i); simp only [SRep], True.intro⟩
theorem mk_str {s : List Nat} (hs : okS s = true) : RepB K w Hb m H (.str s) (.str ⟨s.toArray⟩) := by
  refine ⟨?_, True.intro⟩
  show SRep K m H (.str s) _
  simp only [SRep]
  exact ⟨trivial, hs⟩
theorem okS_append {a b : List Nat} (ha : okS a = true) (hb : okS b = true) : okS (a ++ b) = true := by
  unfold okS at *
  rw [List.all_append, ha, hb]
  rfl
theorem mk_tup {xs : List D} {a : Addr} {vs : List V} (q : SqN K H a vs) (r : SReps K m H xs vs) : RepB K w Hb m H (.tup xs) (.ref a) := by
  refine ⟨?_, True.intro⟩
  show SRep K m H (.tup xs) _
  simp only [SRep]
  exact ⟨a, vs, rfl, q, r⟩
theorem SReps.length : ∀ {xs : List D} {vs : List V}, SReps K m H xs vs → xs.length = vs.length
  | [], vs, r => by simp only [SReps] at r; rw [r]; rfl
  | x :: xs, vs, r => by
    simp only [SReps] at r
    obtain ⟨v, t, rfl, _, q⟩ := r
    rw [List.length_cons, List.length_cons, SReps.length q]
theorem SReps.append : ∀ {xs ys : List D} {vs us : List V}, SReps K m H xs vs → SReps K m H ys us → SReps K m H (xs ++ ys) (vs ++ us)
  | [], ys, vs, us, r, q => by simp only [SReps] at r; rw [r]; exact q
  | x :: xs, ys, vs, us, r, q => by
    simp only [SReps] at r
    obtain ⟨v, t, rfl, z, r⟩ := r
    show SReps K m H (x :: (xs ++ ys)) (v :: (t ++ us))
    simp only [SReps]
    exact ⟨v, t ++ us, rfl, z, SReps.append r q⟩
theorem SReps.get : ∀ {xs : List D} {vs : List V} {i : Nat} {x : D}, SReps K m H xs vs → xs[i]? = some x → ∃ v, vs[i]? = some v ∧ SRep K m H x v
  | [], _, _, _, _, e => by simp at e
  | x :: xs, vs, i, y, r, e => by
    simp only [SReps] at r
    obtain ⟨v, t, rfl, z, r⟩ := r
    cases i with
    | zero => simp at e; subst e; exact ⟨v, rfl, z⟩
    | succ i =>
      obtain ⟨u, h1, h2⟩ := SReps.get (i := i) r (by simpa using e)
      exact ⟨u, by simpa using h1, h2⟩
theorem SReps.set : ∀ {xs : List D} {vs : List V} {i : Nat} {x : D} {v : V}, SReps K m H xs vs → SRep K m H x v → SReps K m H (xs.set i x) (vs.set i v)
  | [], vs, i, x, v, r, q => by simp only [SReps] at r; rw [r]; simp only [List.set_nil, SReps]
  | y :: xs, vs, i, x, v, r, q => by
    simp only [SReps] at r
    obtain ⟨u, t, rfl, z, r⟩ := r
    cases i with
    | zero =>
      show SReps K m H (x :: xs) (v :: t)
      simp only [SReps]
      exact ⟨v, t, rfl, q, r⟩
    | succ i =>
      show SReps K m H (y :: xs.set i x) (u :: t.set i v)
      simp only [SReps]
      exact ⟨u, _, rfl, z, SReps.set r q⟩
theorem SReps.take : ∀ {xs : List D} {vs : List V} (n : Nat), SReps K m H xs vs → SReps K m H (xs.take n) (vs.take n)
  | xs, vs, 0, r => by simp only [List.take_zero, SReps]
  | [], vs, n + 1, r => by simp only [SReps] at r; rw [r]; simp only [List.take_nil, SReps]
  | x :: xs, vs, n + 1, r => by
    simp only [SReps] at r
    obtain ⟨u, t, rfl, z, r⟩ := r
    show SReps K m H (x :: xs.take n) (u :: t.take n)
    simp only [SReps]
    exact ⟨u, _, rfl, z, SReps.take n r⟩
theorem SReps.drop : ∀ {xs : List D} {vs : List V} (n : Nat), SReps K m H xs vs → SReps K m H (xs.drop n) (vs.drop n)
  | xs, vs, 0, r => r
  | [], vs, n + 1, r => by simp only [SReps] at r; rw [r]; simp only [List.drop_nil, SReps]
  | x :: xs, vs, n + 1, r => by
    simp only [SReps] at r
    obtain ⟨u, t, rfl, z, r⟩ := r
    exact SReps.drop n r
theorem SReps.dropLast : ∀ {xs : List D} {vs : List V}, SReps K m H xs vs → SReps K m H xs.dropLast vs.dropLast := fun {xs vs} r => by
  rw [List.dropLast_eq_take, List.dropLast_eq_take, ← r.length]
  exact r.take _
theorem SReps.erase : ∀ {xs : List D} {vs : List V} (i : Nat), SReps K m H xs vs → SReps K m H (xs.eraseIdx i) (vs.eraseIdx i)
  | [], vs, i, r => by simp only [SReps] at r; rw [r]; simp only [List.eraseIdx_nil, SReps]
  | x :: xs, vs, i, r => by
    simp only [SReps] at r
    obtain ⟨u, t, rfl, z, r⟩ := r
    cases i with
    | zero => exact r
    | succ i =>
      show SReps K m H (x :: xs.eraseIdx i) (u :: t.eraseIdx i)
      simp only [SReps]
      exact ⟨u, _, rfl, z, SReps.erase i r⟩
theorem SReps.one {x : D} {vs : List V} (r : SReps K m H [x] vs) : ∃ v, vs = [v] ∧ SRep K m H x v := by
  simp only [SReps] at r
  obtain ⟨v, t, rfl, z, rfl⟩ := r
  exact ⟨v, rfl, z⟩
theorem SReps.two {x y : D} {vs : List V} (r : SReps K m H [x, y] vs) : ∃ v u, vs = [v, u] ∧ SRep K m H x v ∧ SRep K m H y u := by
  simp only [SReps] at r
  obtain ⟨v, t, rfl, z, u, t2, rfl, z2, rfl⟩ := r
  exact ⟨v, u, rfl, z, z2⟩
theorem SReps.nil_iff {xs : List D} {vs : List V} (r : SReps K m H xs vs) : xs = [] ↔ vs = [] := by
  have e := r.length
  constructor
  · rintro rfl; exact List.length_eq_zero_iff.mp e.symm
  · rintro rfl; exact List.length_eq_zero_iff.mp e
/-! ### new objects, written objects -/
theorem Grow.new {p : Addr} {o : HO} (hp : H p = none) : Grow K m H m (upd H p o) := by
  refine ⟨fun _ _ e => e, fun a xs q => ?_, fun a xs q => ?_⟩
  · rcases q with ⟨o, q, n⟩ | q
    · exact .inl ⟨o, by rw [upd_ne (ne_of_none q hp)]; exact q, n⟩
    · exact .inr q
  · rcases q with ⟨o, q⟩ | q
    · exact .inl ⟨o, by rw [upd_ne (ne_of_none q hp)]; exact q⟩
    · exact .inr q
theorem Nx.new (S : Sim K w m H h) {p : Addr} {o : HO} (hp : H p = none) : Nx K w m H m h (upd H p o) := by
  refine ⟨⟨[], by simp, by simp⟩, ⟨S.len, S.nd, fun n ob a e1 e2 => ?_⟩, fun a u _ q => by rw [upd_ne (ne_of_none q hp)]; exact q⟩
  have q := S.ob n ob a e1 e2
  have G : Grow K m H m (upd H p o) := Grow.new hp
  cases ob with
  | lst xs =>
    obtain ⟨vs, q1, q2⟩ := q
    exact ⟨vs, by rw [upd_ne (ne_of_none q1 hp)]; exact q1, SReps.grow G xs vs q2⟩
  | dic ks vs => exact DicR.grow G (fun u z => by rw [upd_ne (ne_of_none z hp)]; exact z) q
theorem Sim.out (S : Sim K w m H h) {p : Addr} (hp : H p = none) : p ∉ m := fun z => by
  obtain ⟨o, q⟩ := S.some z
  rw [hp] at q; cases q
/-- a new list -/
theorem rep_tl (S : Sim K w m H h) {p : Addr} {xs : List D} {vs : List V} (hp : H p = none) (r : SReps K m H xs vs) : RepB K w H m (upd H p (.lst vs)) (.tl xs) (.ref p) :=
  ⟨⟨p, vs, rfl, S.out hp, upd_same, SReps.grow (Grow.new hp) xs vs r⟩, fun a e => by cases e; exact hp⟩
/-- the object of a new tuple -/
def tupO (its : List Value) : Obj := { cls := .type "tuple", data := .seq its.toArray }
/-- a new tuple -/
theorem rep_tupN {p : Addr} {xs : List D} {vs : List V} (its : List Value) (hp : H p = none) (r : SReps K m H xs vs) : RepB K w Hb m (upd H p (.frz (tupO its) (.tup vs))) (.tup xs) (.ref p) :=
  mk_tup (.inl ⟨tupO its, upd_same, rfl⟩) (SReps.grow (Grow.new hp) xs vs r)
/-- a new tuple is laid -/
theorem lay_tup {X : Cx} {pins : List (Addr × Obj)} {σ : St} {s : Shared} {vs : List V} {its : List Value} {t' : Nat} (I : Inv X pins σ H s) (r : Vals vs its) (hz : vs.length ≤ sizeLine) :
    Inv X pins σ (upd H s.heap.objs.size (.frz (tupO its) (.tup vs))) { s with heap := s.heap.push { cls := .type "tuple", data := .seq its.toArray }, toks := t' } := by
  refine I.laid (fun b o e => Heap.get?_push_of_some _ e) (Nat.le_refl _) ⟨Heap.get?_push_size _ rfl, hz, its, r, ?_⟩
  exact ⟨_, Heap.get?_push_size _ rfl, rfl, _, rfl⟩
theorem Grow.write (S : Sim K w m H h) {a : Addr} {o : HO} (ha : a ∈ m) : Grow K m H m (upd H a o) := by
  refine ⟨fun _ _ e => e, fun b xs q => ?_, fun b xs q => ?_⟩
  · rcases q with ⟨o, q, n⟩ | q
    · exact .inl ⟨o, by rw [upd_ne (fun e => S.notFrz q (by rw [e]; exact ha))]; exact q, n⟩
    · exact .inr q
  · rcases q with ⟨o, q⟩ | q
    · exact .inl ⟨o, by rw [upd_ne (fun e => S.notFrz q (by rw [e]; exact ha))]; exact q⟩
    · exact .inr q
/-- a tracked object is written -/
theorem Nx.write (S : Sim K w m H h) {n : Nat} {a : Addr} {o : HO} {ob : Ob} (ha : m[n]? = some a) (new : ObR K w m (upd H a o) a ob) : Nx K w m H m (h.set n ob) (upd H a o) := by
  have hm : a ∈ m := List.mem_of_getElem? ha
  have G : Grow K m H m (upd H a o) := Grow.write S hm
  have hn : n < h.length := by rw [← S.len]; exact (List.getElem?_eq_some_iff.mp ha).1
  refine ⟨⟨[], by simp, by simp⟩, ⟨by rw [List.length_set]; exact S.len, S.nd, fun j u b e1 e2 => ?_⟩, fun b u hb q => by rw [upd_ne (fun e => hb (by rw [e]; exact hm))]; exact q⟩
  by_cases hj : n = j
  · subst hj
    rw [List.getElem?_set_self hn] at e1
    cases e1
    rw [ha] at e2
    cases e2
    exact new
  · rw [List.getElem?_set_ne hj] at e1
    have hb : b ≠ a := fun e => hj (by
      subst e
      obtain ⟨l1, g1⟩ := List.getElem?_eq_some_iff.mp ha
      obtain ⟨l2, g2⟩ := List.getElem?_eq_some_iff.mp e2
      exact (List.getElem_inj S.nd).mp (g1.trans g2.symm))
    have q := S.ob j u b e1 e2
    cases u with
    | lst xs =>
      obtain ⟨vs, q1, q2⟩ := q
      exact ⟨vs, by rw [upd_ne hb]; exact q1, SReps.grow G xs vs q2⟩
    | dic ks vs => exact DicR.grow G (fun u z => by rw [upd_ne hb]; exact z) q
theorem Nx.writeL (S : Sim K w m H h) {n : Nat} {a : Addr} {xs : List D} {vs : List V} (ha : m[n]? = some a) (r : SReps K m H xs vs) : Nx K w m H m (h.set n (.lst xs)) (upd H a (.lst vs)) :=
  Nx.write S ha ⟨vs, upd_same, SReps.grow (Grow.write S (List.mem_of_getElem? ha)) xs vs r⟩
/-! ### what is read -/
theorem seqOf_ok (S : Sim K w m H h) {d : D} {v : V} {xs : List D} (e : seqOf h d = some xs) (r : Rep K w m H d v) : ∃ a vs, v = .ref a ∧ (SqL K H a vs ∨ SqT K H a vs) ∧ SReps K m H xs vs := by
  cases d with
  | tup ys =>
    cases e
    obtain ⟨a, vs, e1, q, z⟩ := rep_tup r
    exact ⟨a, vs, e1, .inr q, z⟩
  | lck ys =>
    cases e
    obtain ⟨a, vs, e1, q, z⟩ := rep_lck r
    exact ⟨a, vs, e1, .inl q.seq, z⟩
  | tl ys =>
    cases e
    obtain ⟨a, vs, e1, _, q, z⟩ := r
    exact ⟨a, vs, e1, .inl (.inl (.inl q)), z⟩
  | ref n =>
    obtain ⟨a, q, e1⟩ := rep_ref r
    simp only [seqOf] at e
    cases hn : h[n]? with
    | none => rw [hn] at e; cases e
    | some o =>
      rw [hn] at e
      cases o with
      | lst ys =>
        cases e
        obtain ⟨vs, q1, q2⟩ := S.ob n _ a hn q
        exact ⟨a, vs, e1, .inl (.inl (.inl q1)), q2⟩
      | dic _ _ => cases e
  | _ => cases e
theorem lstOf_ok (S : Sim K w m H h) {d : D} {v : V} {xs : List D} (e : lstOf h d = some xs) (r : Rep K w m H d v) : ∃ a vs, v = .ref a ∧ SqL K H a vs ∧ SReps K m H xs vs := by
  cases d with
  | lck ys =>
    cases e
    obtain ⟨a, vs, e1, q, z⟩ := rep_lck r
    exact ⟨a, vs, e1, q.seq, z⟩
  | tl ys =>
    cases e
    obtain ⟨a, vs, e1, _, q, z⟩ := r
    exact ⟨a, vs, e1, .inl (.inl q), z⟩
  | ref n =>
    obtain ⟨a, q, e1⟩ := rep_ref r
    simp only [lstOf] at e
    cases hn : h[n]? with
    | none => rw [hn] at e; cases e
    | some o =>
      rw [hn] at e
      cases o with
      | lst ys =>
        cases e
        obtain ⟨vs, q1, q2⟩ := S.ob n _ a hn q
        exact ⟨a, vs, e1, .inl (.inl q1), q2⟩
      | dic _ _ => cases e
  | _ => cases e
theorem ownOf_ok (S : Sim K w m H h) {d : D} {v : V} {xs : List D} (e : ownOf h d = some xs) (r : Rep K w m H d v) : ∃ a vs, v = .ref a ∧ H a = some (.lst vs) ∧ SReps K m H xs vs := by
  cases d with
  | tl ys =>
    cases e
    obtain ⟨a, vs, e1, _, q, z⟩ := r
    exact ⟨a, vs, e1, q, z⟩
  | ref n =>
    obtain ⟨a, q, e1⟩ := rep_ref r
    simp only [ownOf] at e
    cases hn : h[n]? with
    | none => rw [hn] at e; cases e
    | some o =>
      rw [hn] at e
      cases o with
      | lst ys =>
        cases e
        obtain ⟨vs, q1, q2⟩ := S.ob n _ a hn q
        exact ⟨a, vs, e1, q1, q2⟩
      | dic _ _ => cases e
  | _ => cases e
end

/-! ### operations of two values -/
section
variable {X : Cx} {K : PySem.W.Frag} {w : World} {xr : XR} {W : WX}
/-- the reading of an operation -/
def r2 (K : PySem.W.Frag) (w : World) (xr : XR) (W : WX) (f : Hd → D → D → R D) : R2 := fun x y H Q => ∃ (σ : St) (m : List Addr) (h : Hd) (a b : D), Sim K w m H h ∧ Rep K w m H a x ∧ Rep K w m H b y ∧ Post K w xr (RepB K w) W m H σ (f h a b) Q
theorem bin_add : OpR X (binaryOp .Add) (r2 X.K X.w xr W fun h => binO h .add) := by
  intro pins s σ H x y v u Q I rx ry ⟨σ0, m, h, a, b, S, ra, rb, p⟩
  have lists : ∀ (as bs : List D), ownOf h a = some as → ownOf h b = some bs → Post X.K X.w xr (RepB X.K X.w) W m H σ0 (if as.length + bs.length ≤ lim then R.ok (.tl (as ++ bs)) h else .no) Q → wpAny (model X.prog X.w) X.A (binaryOp .Add v u) (EP X pins σ Q) X.xe s := by
    intro as bs e1 e2 p
    obtain ⟨l, xs, rfl, q1, z1⟩ := ownOf_ok S e1 ra
    obtain ⟨l2, ys, rfl, q2, z2⟩ := ownOf_ok S e2 rb
    split at p
    · rename_i hl
      refine op_cat pins s σ H _ _ v u Q I rx ry ⟨l, l2, xs, ys, rfl, rfl, q1, q2, by rw [← z1.length, ← z2.length, ← lim_eq]; exact hl, fun np hp => ?_⟩
      exact p _ _ m (Nx.new S hp) (rep_tl S hp (z1.append z2))
    · exact p.elim
  cases a with
  | int i =>
    cases b with
    | int j =>
      have ex := rep_int ra
      have ey := rep_int rb
      exact op_add pins s σ H x y v u Q I rx ry ⟨i, j, ex, ey, Post.ok S mk_int p⟩
    | _ => exact p.elim
  | str i =>
    cases b with
    | str j =>
      obtain ⟨ex, oa⟩ := rep_str ra
      obtain ⟨ey, ob⟩ := rep_str rb
      simp only [binO] at p
      split at p
      · rename_i hl
        refine op_add_str pins s σ H x y v u Q I rx ry ⟨_, _, ex, ey, ?_, ?_⟩
        · show i.toArray.size + j.toArray.size ≤ sizeLine
          rw [← lim_eq]; simpa using hl
        · have e : ((⟨i.toArray⟩ : Str) ++ ⟨j.toArray⟩) = ⟨(i ++ j).toArray⟩ := by
            show Str.append _ _ = _
            unfold Str.append
            simp
          rw [e]
          exact Post.ok S (mk_str (okS_append oa ob)) p
      · exact p.elim
    | _ => exact p.elim
  | tup as =>
    cases b with
    | tup bs =>
      obtain ⟨a1, xs, rfl, q1, z1⟩ := rep_tupn ra
      obtain ⟨b1, ys, rfl, q2, z2⟩ := rep_tupn rb
      simp only [binO] at p
      split at p
      · rename_i hl
        cases rx
        cases ry
        obtain ⟨its, r1, p1, _⟩ := I.tuple q1.sq
        obtain ⟨its2, r2, p2, _⟩ := I.tuple q2.sq
        by_cases hx : xs = []
        · subst hx
          cases r1
          have e1 := z1.nil_iff.mpr rfl
          subst e1
          exact cat_tup0 p1 p2 ⟨.ref b1, H, I, rfl, Post.ok S (mk_tup q2 z2) p⟩
        · refine HT.cat_tup p1 p2 (fun z => hx (r1.nil_iff.mp z)) (fun z => ?_) (fun z => ?_) (by rw [← r1.length, ← r2.length, ← z1.length, ← z2.length, ← lim_eq]; exact hl)
          · have e2 := z2.nil_iff.mpr (r2.nil_iff.mp z)
            subst e2
            rw [List.append_nil] at p
            exact ⟨.ref a1, H, I, rfl, Post.ok S (mk_tup q1 z1) p⟩
          · have hn : H s.heap.objs.size = none := I.hok.fresh (Nat.le_refl _)
            exact ⟨.ref s.heap.objs.size, _, lay_tup (t' := s.toks) I (r1.append r2) (by rw [List.length_append, ← z1.length, ← z2.length, ← lim_eq]; exact hl), rfl, p _ _ m (Nx.new S hn) (rep_tupN (its ++ its2) hn (z1.append z2))⟩
      · exact p.elim
    | _ => exact p.elim
  | tl as =>
    simp only [binO] at p
    cases e2 : ownOf h b with
    | none => rw [e2] at p; exact p.elim
    | some bs =>
      rw [e2] at p
      exact lists as bs rfl e2 p
  | ref n =>
    simp only [binO] at p
    cases e1 : ownOf h (.ref n) with
    | none => rw [e1] at p; exact p.elim
    | some as =>
      rw [e1] at p
      cases e2 : ownOf h b with
      | none => rw [e2] at p; exact p.elim
      | some bs =>
        rw [e2] at p
        exact lists as bs e1 e2 p
  | _ => exact p.elim
theorem bin_sub : OpR X (binaryOp .Sub) (r2 X.K X.w xr W fun h => binO h .sub) := by
  intro pins s σ H x y v u Q I rx ry ⟨σ0, m, h, a, b, S, ra, rb, p⟩
  cases a with
  | int i =>
    cases b with
    | int j => exact op_sub pins s σ H x y v u Q I rx ry ⟨i, j, rep_int ra, rep_int rb, Post.ok S mk_int p⟩
    | _ => exact p.elim
  | _ => exact p.elim
theorem small64_ok {i : Int} (h : small64 i = true) : -(2 ^ 64) < i ∧ i < 2 ^ 64 := by
  unfold small64 pow2 at h
  simp only [Bool.and_eq_true, decide_eq_true_eq] at h
  omega
theorem bin_mul : OpR X (binaryOp .Mult) (r2 X.K X.w xr W fun h => binO h .mul) := by
  intro pins s σ H x y v u Q I rx ry ⟨σ0, m, h, a, b, S, ra, rb, p⟩
  cases a with
  | int i =>
    cases b with
    | int j =>
      simp only [binO] at p
      split at p
      · rename_i hl
        refine op_mul pins s σ H x y v u Q I rx ry ⟨i, j, rep_int ra, rep_int rb, ?_, Post.ok S mk_int p⟩
        rcases (Bool.or_eq_true_iff.mp hl) with z | z
        · exact .inl (small64_ok z)
        · exact .inr (small64_ok z)
      · exact p.elim
    | _ => exact p.elim
  | _ => exact p.elim
theorem bin_fdv : OpR X (binaryOp .FloorDiv) (r2 X.K X.w xr W fun h => binO h .fdv) := by
  intro pins s σ H x y v u Q I rx ry ⟨σ0, m, h, a, b, S, ra, rb, p⟩
  cases a with
  | int i =>
    cases b with
    | int j =>
      simp only [binO] at p
      split at p
      · rename_i hl
        exact op_fdivN pins s σ H x y v u Q I rx ry ⟨i, j, rep_int ra, rep_int rb, hl, Post.ok S mk_int p⟩
      · exact p.elim
    | _ => exact p.elim
  | _ => exact p.elim
theorem bin_mod : OpR X (binaryOp .Mod) (r2 X.K X.w xr W fun h => binO h .mod) := by
  intro pins s σ H x y v u Q I rx ry ⟨σ0, m, h, a, b, S, ra, rb, p⟩
  cases a with
  | int i =>
    cases b with
    | int j =>
      simp only [binO] at p
      split at p
      · rename_i hl
        exact op_modN pins s σ H x y v u Q I rx ry ⟨i, j, rep_int ra, rep_int rb, hl, Post.ok S mk_int p⟩
      · exact p.elim
    | _ => exact p.elim
  | _ => exact p.elim
theorem bin_pow : OpR X (binaryOp .Pow) (r2 X.K X.w xr W fun h => binO h .pow) := by
  intro pins s σ H x y v u Q I rx ry ⟨σ0, m, h, a, b, S, ra, rb, p⟩
  cases a with
  | int i =>
    cases b with
    | int j =>
      simp only [binO] at p
      split at p
      · rename_i hl
        exact op_pow pins s σ H x y v u Q I rx ry ⟨i, j, rep_int ra, rep_int rb, ⟨hl.1, hl.2.1, by have := hl.2.2; unfold pow2 at this; omega⟩, Post.ok S mk_int p⟩
      · exact p.elim
    | _ => exact p.elim
  | _ => exact p.elim
end
end Mp
end
section
set_option Elab.async false
set_option linter.all false
set_option maxRecDepth 100000
set_option maxHeartbeats 4000000
set_option autoImplicit false
/-! MpOps2: comparisons, membership. -/
namespace Mp
open PySem PySem.Spec PyProof.Rows L2

/-! ### data as the library tells it -/
mutual
def toPy : D → PyData
  | .bl b => .bool b
  | .int i => .int i
  | .str s => .str ⟨s.toArray⟩
  | .tup xs => .tuple (toPys xs)
  | .tl xs => .list (toPys xs)
  | _ => .none
def toPys : List D → List PyData
  | [] => []
  | x :: xs => toPy x :: toPys xs
end
mutual
/-- nones, bools, intsL, texts, tuples and lists, to a depth -/
def flatD : Nat → D → Bool
  | _, .non => true
  | _, .bl _ => true
  | _, .int _ => true
  | _, .str s => okS s
  | n + 1, .tup xs => flatDs n xs
  | n + 1, .tl xs => flatDs n xs
  | _, _ => false
def flatDs : Nat → List D → Bool
  | _, [] => true
  | n, x :: xs => flatD n x && flatDs n xs
end
theorem lnat_iff : ∀ (a b : List Nat), lnat a b = decide (a = b)
  | [], [] => rfl
  | [], b :: bs => rfl
  | a :: as, [] => rfl
  | a :: as, b :: bs => by
    show (Nat.beq a b && lnat as bs) = _
    rw [lnat_iff as bs]
    cases h : Nat.beq a b with
    | true =>
      have e := Nat.eq_of_beq_eq_true h
      subst e
      simp
    | false =>
      have e := Nat.ne_of_beq_eq_false h
      simp [e]
theorem str_inj {a b : List Nat} : ((⟨a.toArray⟩ : Str) = ⟨b.toArray⟩) ↔ a = b := by
  constructor
  · intro h
    injection h with h
    simpa using congrArg Array.toList h
  · rintro rfl; rfl
theorem str_beq {a b : List Nat} : ((⟨a.toArray⟩ : Str) == ⟨b.toArray⟩) = lnat a b := by
  rw [lnat_iff]
  by_cases e : a = b
  · subst e; simp
  · rw [decide_eq_false e]
    exact beq_eq_false_iff_ne.mpr fun z => e (str_inj.mp z)
theorem int_beq (a b : Int) : (a == b) = decide (a = b) := by
  by_cases e : a = b
  · rw [decide_eq_true e, beq_iff_eq.mpr e]
  · rw [decide_eq_false e, beq_eq_false_iff_ne.mpr e]
mutual
theorem eqv_py : ∀ (n : Nat) (a b : D), flatD n a = true → flatD n b = true → PyData.eqv (toPy a) (toPy b) = D.eqv a b
  | n, .non, b, _, hb => by cases b <;> first | rfl | (cases n <;> simp [flatD] at hb) | simp [toPy, D.eqv, PyData.eqv]
  | n, .bl x, b, _, hb => by
    cases b with
    | bl y => simp [toPy, D.eqv, PyData.eqv]
    | int j =>
      simp only [toPy, D.eqv, PyData.eqv]
      exact int_beq (b2i x) j
    | _ => first | (cases n <;> simp [flatD] at hb; done) | simp [toPy, D.eqv, PyData.eqv]
  | n, .int i, b, _, hb => by
    cases b with
    | bl y =>
      simp only [toPy, D.eqv, PyData.eqv]
      exact int_beq i (b2i y)
    | int j =>
      simp only [toPy, D.eqv, PyData.eqv]
      exact int_beq i j
    | _ => first | (cases n <;> simp [flatD] at hb; done) | simp [toPy, D.eqv, PyData.eqv]
  | n, .str s, b, _, hb => by
    cases b with
    | str t =>
      simp only [toPy, D.eqv, PyData.eqv]
      exact str_beq
    | _ => first | (cases n <;> simp [flatD] at hb; done) | simp [toPy, D.eqv, PyData.eqv]
  | 0, .tup xs, b, ha, _ => by simp [flatD] at ha
  | 0, .tl xs, b, ha, _ => by simp [flatD] at ha
  | n + 1, .tup xs, b, ha, hb => by
    cases b with
    | tup ys =>
      simp only [toPy, D.eqv, PyData.eqv]
      exact eqvs_py n xs ys (by simpa only [flatD] using ha) (by simpa only [flatD] using hb)
    | _ => first | (simp [flatD] at hb; done) | simp [toPy, D.eqv, PyData.eqv]
  | n + 1, .tl xs, b, ha, hb => by
    cases b with
    | tl ys =>
      simp only [toPy, D.eqv, PyData.eqv]
      exact eqvs_py n xs ys (by simpa only [flatD] using ha) (by simpa only [flatD] using hb)
    | _ => first | (simp [flatD] at hb; done) | simp [toPy, D.eqv, PyData.eqv]
  | n, .lck _, b, ha, _ => by cases n <;> simp [flatD] at ha
  | n, .ref _, b, ha, _ => by cases n <;> simp [flatD] at ha
  | n, .td _ _, b, ha, _ => by cases n <;> simp [flatD] at ha
  | n, .exn _ _, b, ha, _ => by cases n <;> simp [flatD] at ha
theorem eqvs_py : ∀ (n : Nat) (as bs : List D), flatDs n as = true → flatDs n bs = true → PyData.eqvAll (toPys as) (toPys bs) = D.eqvs as bs
  | _, [], [], _, _ => by simp [toPys, D.eqvs, PyData.eqvAll]
  | _, [], _ :: _, _, _ => by simp [toPys, D.eqvs, PyData.eqvAll]
  | _, _ :: _, [], _, _ => by simp [toPys, D.eqvs, PyData.eqvAll]
  | n, a :: as, b :: bs, ha, hb => by
    simp only [flatDs, Bool.and_eq_true] at ha hb
    simp only [toPys, D.eqvs, PyData.eqvAll]
    rw [eqv_py n a b ha.1 hb.1, eqvs_py n as bs ha.2 hb.2]
end
theorem okS_str {s : List Nat} (h : okS s = true) : PyData.strOk (⟨s.toArray⟩ : Str) = true := by
  unfold PyData.strOk okS at *
  rw [Array.all_eq_true]
  intro i hi
  simp only [List.size_toArray] at hi
  have q := List.all_eq_true.mp h _ (List.getElem_mem hi)
  simp only [List.getElem_toArray, decide_eq_true_eq]
  exact Nat.lt_of_lt_of_le (Nat.blt_eq.mp q) (by decide)
mutual
theorem lay_py : ∀ (n : Nat) (a : D), flatD n a = true → PyData.canLay0 (toPy a) = true ∧ PyData.depth (toPy a) ≤ n
  | n, .non, _ => by simp [toPy, PyData.canLay0, PyData.depth]
  | n, .bl x, _ => by simp [toPy, PyData.canLay0, PyData.depth]
  | n, .int i, _ => by simp [toPy, PyData.canLay0, PyData.depth]
  | n, .str s, h => by
    have h : okS s = true := by cases n <;> simpa only [flatD] using h
    simp only [toPy, PyData.canLay0, PyData.depth]
    exact ⟨okS_str h, Nat.zero_le _⟩
  | 0, .tup xs, h => by simp [flatD] at h
  | 0, .tl xs, h => by simp [flatD] at h
  | n + 1, .tup xs, h => by
    have q := lays_py n xs (by simpa only [flatD] using h)
    simp only [toPy, PyData.canLay0, PyData.depth]
    exact ⟨q.1, Nat.succ_le_succ q.2⟩
  | n + 1, .tl xs, h => by
    have q := lays_py n xs (by simpa only [flatD] using h)
    simp only [toPy, PyData.canLay0, PyData.depth]
    exact ⟨q.1, Nat.succ_le_succ q.2⟩
  | n, .lck _, h => by cases n <;> simp [flatD] at h
  | n, .ref _, h => by cases n <;> simp [flatD] at h
  | n, .td _ _, h => by cases n <;> simp [flatD] at h
  | n, .exn _ _, h => by cases n <;> simp [flatD] at h
theorem lays_py : ∀ (n : Nat) (as : List D), flatDs n as = true → PyData.canLayAll0 (toPys as) = true ∧ PyData.depthAll (toPys as) ≤ n
  | n, [], _ => by simp [toPys, PyData.canLayAll0, PyData.depthAll]
  | n, a :: as, h => by
    simp only [flatDs, Bool.and_eq_true] at h
    have q1 := lay_py n a h.1
    have q2 := lays_py n as h.2
    simp only [toPys, PyData.canLayAll0, PyData.depthAll, Bool.and_eq_true]
    exact ⟨⟨q1.1, q2.1⟩, Nat.max_le.mpr ⟨q1.2, q2.2⟩⟩
end
theorem shaped_py {n : Nat} {a : D} (h : flatD n a = true) (hn : n ≤ 64) : SeqAt.shaped (toPy a) = true := by
  have q := lay_py n a h
  unfold SeqAt.shaped
  rw [q.1, decide_eq_true (Nat.le_trans q.2 hn)]
  rfl
/-! ### lists read out -/
section
variable {K : PySem.W.Frag} {w : World} {m : List Addr} {H : Hp} {h : Hd}
theorem mapO_cons {α β : Type} {f : α → Option β} {x : α} {xs : List α} {r : List β} (e : mapO f (x :: xs) = some r) : ∃ y ys, f x = some y ∧ mapO f xs = some ys ∧ r = y :: ys := by
  simp only [mapO] at e
  cases h1 : f x with
  | none => rw [h1] at e; cases e
  | some y =>
    rw [h1] at e
    cases h2 : mapO f xs with
    | none => rw [h2] at e; cases e
    | some ys =>
      rw [h2] at e
      cases e
      exact ⟨y, ys, rfl, rfl, rfl⟩
theorem mapO_ok {n : Nat} {f : D → Option D} (ih : ∀ d d' v, f d = some d' → SRep K m H d v → flatD n d' = true ∧ Dp K H v (toPy d')) : ∀ (xs ys : List D) (vs : List V), mapO f xs = some ys → SReps K m H xs vs → flatDs n ys = true ∧ DpAll K H vs (toPys ys)
  | [], ys, vs, e, r => by
    cases e
    simp only [SReps] at r
    subst r
    exact ⟨rfl, .nil⟩
  | x :: xs, ys, vs, e, r => by
    obtain ⟨y, zs, e1, e2, rfl⟩ := mapO_cons e
    simp only [SReps] at r
    obtain ⟨v, t, rfl, r1, r2⟩ := r
    have q1 := ih x y v e1 r1
    have q2 := mapO_ok ih xs zs t e2 r2
    refine ⟨?_, ?_⟩
    · simp only [flatDs, Bool.and_eq_true]
      exact ⟨q1.1, q2.1⟩
    · simp only [toPys]
      exact .cons q1.2 q2.2
theorem res_s (S : Sim K w m H h) : ∀ (n : Nat) (d d' : D) (v : V), D.res h n d = some d' → SRep K m H d v → flatD n d' = true ∧ Dp K H v (toPy d')
  | n, .non, d', v, e, r => by
    have e : some D.non = some d' := by cases n <;> exact e
    cases e
    simp only [SRep] at r
    subst r
    exact ⟨by cases n <;> rfl, .non⟩
  | n, .bl b, d', v, e, r => by
    have e : some (D.bl b) = some d' := by cases n <;> exact e
    cases e
    simp only [SRep] at r
    subst r
    exact ⟨by cases n <;> rfl, .bl b⟩
  | n, .int b, d', v, e, r => by
    have e : some (D.int b) = some d' := by cases n <;> exact e
    cases e
    simp only [SRep] at r
    subst r
    exact ⟨by cases n <;> rfl, .int b⟩
  | n, .str b, d', v, e, r => by
    have e : some (D.str b) = some d' := by cases n <;> exact e
    cases e
    simp only [SRep] at r
    obtain ⟨rfl, ok⟩ := r
    refine ⟨?_, .str _⟩
    cases n <;> simpa only [flatD] using ok
  | 0, .tup _, _, _, e, _ => by cases e
  | 0, .lck _, _, _, e, _ => by cases e
  | 0, .ref _, _, _, e, _ => by cases e
  | _, .tl _, _, _, _, r => by simp only [SRep] at r
  | _, .td _ _, _, _, _, r => by simp only [SRep] at r
  | _, .exn _ _, _, _, _, r => by simp only [SRep] at r
  | n + 1, .tup xs, d', v, e, r => by
    simp only [D.res] at e
    cases e1 : mapO (D.res h n) xs with
    | none => rw [e1] at e; cases e
    | some ys =>
      rw [e1] at e
      cases e
      simp only [SRep] at r
      obtain ⟨a, vs, rfl, q, z⟩ := r
      have t := mapO_ok (res_s S n) xs ys vs e1 z
      simp only [flatD, toPy]
      exact ⟨t.1, .tup q.sq t.2⟩
  | n + 1, .lck xs, d', v, e, r => by
    simp only [D.res] at e
    cases e1 : mapO (D.res h n) xs with
    | none => rw [e1] at e; cases e
    | some ys =>
      rw [e1] at e
      cases e
      simp only [SRep] at r
      obtain ⟨a, vs, rfl, q, z⟩ := r
      have t := mapO_ok (res_s S n) xs ys vs e1 z
      simp only [flatD, toPy]
      exact ⟨t.1, .lst q.seq t.2⟩
  | n + 1, .ref k, d', v, e, r => by
    simp only [D.res] at e
    cases hk : h[k]? with
    | none => rw [hk] at e; cases e
    | some o =>
      rw [hk] at e
      cases o with
      | dic _ _ => cases e
      | lst xs =>
        simp only at e
        cases e1 : mapO (D.res h n) xs with
        | none => rw [e1] at e; cases e
        | some ys =>
          rw [e1] at e
          cases e
          simp only [SRep] at r
          obtain ⟨a, q, rfl⟩ := r
          obtain ⟨vs, q1, q2⟩ := S.ob k _ a hk q
          have t := mapO_ok (res_s S n) xs ys vs e1 q2
          simp only [flatD, toPy]
          exact ⟨t.1, .lst (.inl (.inl q1)) t.2⟩
theorem res_ok (S : Sim K w m H h) (n : Nat) (d d' : D) (v : V) (e : D.res h n d = some d') (r : Rep K w m H d v) : flatD n d' = true ∧ Dp K H v (toPy d') := by
  cases d with
  | tl xs =>
    cases n with
    | zero => cases e
    | succ n =>
      simp only [D.res] at e
      cases e1 : mapO (D.res h n) xs with
      | none => rw [e1] at e; cases e
      | some ys =>
        rw [e1] at e
        cases e
        obtain ⟨a, vs, rfl, _, q, z⟩ := r
        have t := mapO_ok (res_s S n) xs ys vs e1 z
        simp only [flatD, toPy]
        exact ⟨t.1, .lst (.inl (.inl q)) t.2⟩
  | td ks vs => cases n <;> cases e
  | _ => exact res_s S n _ d' v e r
end
/-! ### ==, != -/
section
variable {X : Cx} {xr : XR} {W : WX}
theorem eqH_ok {h : Hd} {m : List Addr} {H : Hp} {x y : D} {v u : V} {b : Bool} (S : Sim X.K X.w m H h) (e : eqH h x y = some b) (r1 : Rep X.K X.w m H x v) (r2 : Rep X.K X.w m H y u) :
    ∃ d e, Dp X.K H v d ∧ Dp X.K H u e ∧ SeqAt.shaped d = true ∧ SeqAt.shaped e = true ∧ PyData.eqv d e = b := by
  unfold eqH at e
  cases e1 : D.res h 20 x with
  | none => rw [e1] at e; cases e
  | some a =>
    cases e2 : D.res h 20 y with
    | none => rw [e1, e2] at e; cases e
    | some c =>
      rw [e1, e2] at e
      cases e
      have q1 := res_ok S 20 x a v e1 r1
      have q2 := res_ok S 20 y c u e2 r2
      exact ⟨_, _, q1.2, q2.2, shaped_py q1.1 (by decide), shaped_py q2.1 (by decide), eqv_py 20 a c q1.1 q2.1⟩
/-- a comparison's reading -/
def rc (K : PySem.W.Frag) (w : World) (f : Hd → D → D → Option Bool) : R2 := fun x y H Q => ∃ (m : List Addr) (h : Hd) (a b : D) (k : Bool), Sim K w m H h ∧ Rep K w m H a x ∧ Rep K w m H b y ∧ f h a b = some k ∧ Q (.bl k) H
theorem cmp_eq (hu : X.A.units + 64 < cLine) : OpR X (compareOp .Eq) (rc X.K X.w fun h => cmpO h .eq) := by
  intro pins s σ H x y v u Q I rx ry ⟨m, h, a, b, k, S, ra, rb, e, q⟩
  obtain ⟨d, e, h1, h2, h3, h4, h5⟩ := eqH_ok (X := X) S e ra rb
  exact op_eqD hu pins s σ H x y v u Q I rx ry ⟨d, e, h1, h2, h3, h4, by rw [h5]; exact q⟩
theorem cmp_ne (hu : X.A.units + 64 < cLine) : OpR X (compareOp .NotEq) (rc X.K X.w fun h => cmpO h .ne) := by
  intro pins s σ H x y v u Q I rx ry ⟨m, h, a, b, k, S, ra, rb, e, q⟩
  simp only [cmpO] at e
  cases e1 : eqH h a b with
  | none => rw [e1] at e; cases e
  | some c =>
    rw [e1] at e
    cases e
    obtain ⟨d, e, h1, h2, h3, h4, h5⟩ := eqH_ok (X := X) S e1 ra rb
    exact op_neD hu pins s σ H x y v u Q I rx ry ⟨d, e, h1, h2, h3, h4, by rw [h5]; exact q⟩
end
end Mp
end
section
set_option Elab.async false
set_option linter.all false
set_option maxRecDepth 100000
set_option maxHeartbeats 4000000
set_option autoImplicit false
/-! MpOps3: order, identity, membership in lists, tuples, texts. -/
namespace Mp
open PySem PySem.Spec PyProof.Rows L2

theorem ltNat_iff : ∀ (a b : List Nat), ltNat a b = decide (a < b)
  | [], [] => by simp [ltNat]
  | [], b :: bs => by simp [ltNat]
  | a :: as, [] => by simp [ltNat]
  | a :: as, b :: bs => by
    show (if Nat.beq a b = true then ltNat as bs else Nat.blt a b) = _
    cases h : Nat.beq a b with
    | true =>
      have e := Nat.eq_of_beq_eq_true h
      subst e
      rw [if_pos rfl, ltNat_iff as bs]
      simp [List.cons_lt_cons_iff]
    | false =>
      have e := Nat.ne_of_beq_eq_false h
      rw [if_neg Bool.false_ne_true]
      have q : Nat.blt a b = decide (a < b) := by
        cases hb : Nat.blt a b with
        | true => rw [decide_eq_true (Nat.blt_eq.mp hb)]
        | false => rw [decide_eq_false (fun z => by rw [Nat.blt_eq.mpr z] at hb; cases hb)]
      rw [q]
      simp [List.cons_lt_cons_iff, e]
mutual
theorem alike_py : ∀ (a b : D), D.alike a b = true → PySem.W.alike (toPy a) (toPy b) = true ∧ PySem.W.dataLt (toPy a) (toPy b) = D.ltb a b
  | .non, b, h => by
    cases b with
    | non =>
      refine ⟨rfl, ?_⟩
      show PySem.W.dataLt .none .none = false
      unfold PySem.W.dataLt
      simp only [PySem.W.keyToks]
      rfl
    | _ => exact absurd h (by simp [D.alike])
  | .bl x, b, h => by
    cases b with
    | bl y => exact ⟨rfl, PySem.W.dataLt_bool x y⟩
    | _ => exact absurd h (by simp [D.alike])
  | .int i, b, h => by
    cases b with
    | int j => exact ⟨rfl, PySem.W.dataLt_int i j⟩
    | _ => exact absurd h (by simp [D.alike])
  | .str s, b, h => by
    cases b with
    | str t =>
      refine ⟨rfl, ?_⟩
      show PySem.W.dataLt (.str ⟨s.toArray⟩) (.str ⟨t.toArray⟩) = ltNat s t
      rw [PySem.W.dataLt_str, ltNat_iff]
    | _ => exact absurd h (by simp [D.alike])
  | .tup xs, b, h => by
    cases b with
    | tup ys =>
      have q := alikes_py xs ys (by simpa only [D.alike] using h)
      refine ⟨?_, ?_⟩
      · simp only [toPy, PySem.W.alike]
        exact q.1
      · simp only [toPy, D.ltb]
        rw [PySem.W.dataLt_tuple]
        exact q.2
    | _ => exact absurd h (by simp [D.alike])
  | .lck _, b, h => absurd h (by cases b <;> simp [D.alike])
  | .tl _, b, h => absurd h (by cases b <;> simp [D.alike])
  | .ref _, b, h => absurd h (by cases b <;> simp [D.alike])
  | .td _ _, b, h => absurd h (by cases b <;> simp [D.alike])
  | .exn _ _, b, h => absurd h (by cases b <;> simp [D.alike])
theorem alikes_py : ∀ (as bs : List D), D.alikes as bs = true → PySem.W.alikeAll (toPys as) (toPys bs) = true ∧ PyProof.Rows.lexLt PyProof.Rows.itemOrd (PySem.W.keyToksAll (toPys as)) (PySem.W.keyToksAll (toPys bs)) = D.ltbs as bs
  | [], [], _ => by
    refine ⟨rfl, ?_⟩
    simp only [toPys, PySem.W.keyToksAll, D.ltbs]
    rfl
  | [], b :: bs, _ => by
    refine ⟨rfl, ?_⟩
    simp only [toPys, PySem.W.keyToksAll, D.ltbs]
    rfl
  | a :: as, [], _ => by
    refine ⟨rfl, ?_⟩
    simp only [toPys, PySem.W.keyToksAll, D.ltbs]
    rfl
  | a :: as, b :: bs, h => by
    simp only [D.alikes, Bool.and_eq_true] at h
    have q1 := alike_py a b h.1
    have q2 := alikes_py as bs h.2
    refine ⟨?_, ?_⟩
    · simp only [toPys, PySem.W.alikeAll, Bool.and_eq_true]
      exact ⟨q1.1, q2.1⟩
    · simp only [toPys, D.ltbs]
      have ee := alike_eqv a b h.1
      cases e : D.eqv a b with
      | true =>
        rw [if_pos rfl, ← q2.2]
        exact PySem.W.dataLt_all_yes q1.1 (by rw [ee, e])
      | false =>
        rw [if_neg Bool.false_ne_true, ← q1.2]
        exact PySem.W.dataLt_all_no q1.1 (by rw [ee, e])
theorem alike_eqv : ∀ (a b : D), D.alike a b = true → PyData.eqv (toPy a) (toPy b) = D.eqv a b
  | .non, b, h => by cases b <;> first | rfl | exact absurd h (by simp [D.alike])
  | .bl x, b, h => by cases b <;> first | (simp [toPy, D.eqv, PyData.eqv]; done) | exact absurd h (by simp [D.alike])
  | .int i, b, h => by
    cases b with
    | int j =>
      simp only [toPy, D.eqv, PyData.eqv]
      exact int_beq i j
    | _ => exact absurd h (by simp [D.alike])
  | .str s, b, h => by
    cases b with
    | str t =>
      simp only [toPy, D.eqv, PyData.eqv]
      exact str_beq
    | _ => exact absurd h (by simp [D.alike])
  | .tup xs, b, h => by
    cases b with
    | tup ys =>
      simp only [toPy, D.eqv, PyData.eqv]
      exact alikes_eqv xs ys (by simpa only [D.alike] using h)
    | _ => exact absurd h (by simp [D.alike])
  | .lck _, b, h => absurd h (by cases b <;> simp [D.alike])
  | .tl _, b, h => absurd h (by cases b <;> simp [D.alike])
  | .ref _, b, h => absurd h (by cases b <;> simp [D.alike])
  | .td _ _, b, h => absurd h (by cases b <;> simp [D.alike])
  | .exn _ _, b, h => absurd h (by cases b <;> simp [D.alike])
theorem alikes_eqv : ∀ (as bs : List D), D.alikes as bs = true → PyData.eqvAll (toPys as) (toPys bs) = D.eqvs as bs
  | [], [], _ => by simp [toPys, D.eqvs, PyData.eqvAll]
  | [], _ :: _, _ => by simp [toPys, D.eqvs, PyData.eqvAll]
  | _ :: _, [], _ => by simp [toPys, D.eqvs, PyData.eqvAll]
  | a :: as, b :: bs, h => by
    simp only [D.alikes, Bool.and_eq_true] at h
    simp only [toPys, D.eqvs, PyData.eqvAll]
    rw [alike_eqv a b h.1, alikes_eqv as bs h.2]
end
section
variable {K : PySem.W.Frag} {w : World} {m : List Addr} {H : Hp} {h : Hd}
mutual
theorem tree_dp : ∀ (n : Nat) (d : D) (v : V), D.tree n d = true → SRep K m H d v → Dp K H v (toPy d) ∧ PyData.depth (toPy d) ≤ n
  | n, .non, v, _, r => by
    simp only [SRep] at r
    subst r
    exact ⟨.non, by simp [toPy, PyData.depth]⟩
  | n, .bl b, v, _, r => by
    simp only [SRep] at r
    subst r
    exact ⟨.bl b, by simp [toPy, PyData.depth]⟩
  | n, .int i, v, _, r => by
    simp only [SRep] at r
    subst r
    exact ⟨.int i, by simp [toPy, PyData.depth]⟩
  | n, .str s, v, _, r => by
    simp only [SRep] at r
    obtain ⟨rfl, _⟩ := r
    exact ⟨.str _, by simp [toPy, PyData.depth]⟩
  | 0, .tup xs, v, t, r => by simp [D.tree] at t
  | n + 1, .tup xs, v, t, r => by
    simp only [SRep] at r
    obtain ⟨a, vs, rfl, q, z⟩ := r
    have u := trees_dp n xs vs (by simpa only [D.tree] using t) z
    simp only [toPy, PyData.depth]
    exact ⟨.tup q.sq u.1, Nat.succ_le_succ u.2⟩
  | n, .lck _, _, t, _ => by cases n <;> simp [D.tree] at t
  | n, .tl _, _, t, _ => by cases n <;> simp [D.tree] at t
  | n, .ref _, _, t, _ => by cases n <;> simp [D.tree] at t
  | n, .td _ _, _, t, _ => by cases n <;> simp [D.tree] at t
  | n, .exn _ _, _, t, _ => by cases n <;> simp [D.tree] at t
theorem trees_dp : ∀ (n : Nat) (ds : List D) (vs : List V), D.trees n ds = true → SReps K m H ds vs → DpAll K H vs (toPys ds) ∧ PyData.depthAll (toPys ds) ≤ n
  | n, [], vs, _, r => by
    simp only [SReps] at r
    subst r
    exact ⟨.nil, by simp [toPys, PyData.depthAll]⟩
  | n, d :: ds, vs, t, r => by
    simp only [D.trees, Bool.and_eq_true] at t
    simp only [SReps] at r
    obtain ⟨v, u, rfl, r1, r2⟩ := r
    have q1 := tree_dp n d v t.1 r1
    have q2 := trees_dp n ds u t.2 r2
    simp only [toPys, PyData.depthAll]
    exact ⟨.cons q1.1 q2.1, Nat.max_le.mpr ⟨q1.2, q2.2⟩⟩
end
theorem tree_rep {n : Nat} {d : D} {v : V} (t : D.tree n d = true) (r : Rep K w m H d v) : Dp K H v (toPy d) ∧ PyData.depth (toPy d) ≤ n := by
  cases d with
  | tl xs => cases n <;> simp [D.tree] at t
  | td ks vs => cases n <;> simp [D.tree] at t
  | _ => exact tree_dp (m := m) n _ v t r
end
section
variable {X : Cx}
theorem cmp_lt (hu : X.A.units + 64 < cLine) : OpR X (compareOp .Lt) (rc X.K X.w fun h => cmpO h .lt) := by
  intro pins s σ H x y v u Q I rx ry ⟨m, h, a, b, k, S, ra, rb, e, q⟩
  simp only [cmpO, D.lt] at e
  have go : a ≠ .non → (D.tree 20 a && D.tree 20 b && D.alike a b) = true → D.ltb a b = k → wpAny (model X.prog X.w) X.A (compareOp .Lt v u) (EP X pins σ Q) X.xe s := by
    intro hn hc hk
    simp only [Bool.and_eq_true] at hc
    obtain ⟨⟨ta, tb⟩, al⟩ := hc
    have qa := tree_rep ta ra
    have qb := tree_rep tb rb
    obtain ⟨as, r1⟩ := Dp.reads I _ x v qa.1 rx
    obtain ⟨bs, r2⟩ := Dp.reads I _ y u qb.1 ry
    have al2 := alike_py a b al
    have hn2 : toPy a ≠ .none := by
      cases a <;> first | exact absurd rfl hn | (simp [toPy]; done) | (simp [D.alike] at al)
    have q2 : Q (.bl (PySem.W.dataLt (toPy a) (toPy b))) H := by rw [al2.2, hk]; exact q
    exact PySem.W.rcLt_alike _ _ X.A s v u as bs r1 r2 al2.1 hn2 (by have := qa.2; have h3 : min (toPy a).depth (toPy b).depth ≤ (toPy a).depth := Nat.min_le_left _ _; omega) X.prog X.w X.xe _ ⟨.bl _, H, I, rfl, q2⟩
  cases a with
  | non => cases e
  | _ =>
    simp only at e
    split at e
    · rename_i hc
      injection e with e
      exact go (by simp) hc e
    · cases e
theorem cmp_gt : OpR X (compareOp .Gt) (rc X.K X.w fun h => cmpO h .gt) := by
  intro pins s σ H x y v u Q I rx ry ⟨m, h, a, b, k, S, ra, rb, e, q⟩
  cases a with
  | int i =>
    cases b with
    | int j =>
      cases e
      exact op_gt pins s σ H x y v u Q I rx ry ⟨i, j, rep_int ra, rep_int rb, q⟩
    | _ => cases e
  | _ => cases e
theorem cmp_le : OpR X (compareOp .LtE) (rc X.K X.w fun h => cmpO h .le) := by
  intro pins s σ H x y v u Q I rx ry ⟨m, h, a, b, k, S, ra, rb, e, q⟩
  cases a with
  | int i =>
    cases b with
    | int j =>
      cases e
      exact op_le pins s σ H x y v u Q I rx ry ⟨i, j, rep_int ra, rep_int rb, q⟩
    | _ => cases e
  | _ => cases e
theorem cmp_ge : OpR X (compareOp .GtE) (rc X.K X.w fun h => cmpO h .ge) := by
  intro pins s σ H x y v u Q I rx ry ⟨m, h, a, b, k, S, ra, rb, e, q⟩
  cases a with
  | int i =>
    cases b with
    | int j =>
      cases e
      exact op_ge pins s σ H x y v u Q I rx ry ⟨i, j, rep_int ra, rep_int rb, q⟩
    | _ => cases e
  | _ => cases e
theorem rep_ne_non {K : PySem.W.Frag} {w : World} {m : List Addr} {H : Hp} {d : D} {v : V} (r : Rep K w m H d v) (hn : d ≠ .non) : v ≠ .non := by
  rintro rfl
  cases d with
  | non => exact hn rfl
  | bl b => cases rep_bl r
  | int i => cases rep_int r
  | str s => cases (rep_str r).1
  | tup xs => obtain ⟨a, vs, e, _⟩ := rep_tup r; cases e
  | lck xs => obtain ⟨a, vs, e, _⟩ := rep_lck r; cases e
  | ref n => obtain ⟨a, _, e⟩ := rep_ref r; cases e
  | tl xs => obtain ⟨a, vs, e, _⟩ := r; cases e
  | td ks vs => obtain ⟨a, e, _⟩ := r; cases e
  | exn c fs =>
    have r : SRep K m H (.exn c fs) .non := r
    simp only [SRep] at r
theorem isO_cases {a b : D} {k : Bool} (e : isO a b = some k) : (∃ x y, a = .bl x ∧ b = .bl y ∧ k = decide (x = y)) ∨ (b = .non ∧ a = .non ∧ k = true) ∨ (b = .non ∧ a ≠ .non ∧ k = false) := by
  cases b with
  | non =>
    cases a <;> (simp only [isO] at e; first | (cases e; exact .inr (.inl ⟨rfl, rfl, rfl⟩)) | (cases e; exact .inr (.inr ⟨rfl, by simp, rfl⟩)) | cases e)
  | bl y =>
    cases a with
    | bl x =>
      simp only [isO] at e
      cases e
      exact .inl ⟨x, y, rfl, rfl, by cases x <;> cases y <;> rfl⟩
    | _ => cases e
  | _ => cases a <;> cases e
theorem cmp_is : OpR X (compareOp .Is) (rc X.K X.w fun h => cmpO h .is) := by
  intro pins s σ H x y v u Q I rx ry ⟨m, h, a, b, k, S, ra, rb, e, q⟩
  simp only [cmpO] at e
  rcases isO_cases e with ⟨c, d, rfl, rfl, rfl⟩ | ⟨rfl, rfl, rfl⟩ | ⟨rfl, hn, rfl⟩
  · exact op_isBl pins s σ H x y v u Q I rx ry ⟨c, d, rep_bl ra, rep_bl rb, q⟩
  · refine op_isN pins s σ H x y v u Q I rx ry ⟨rep_non rb, ?_⟩
    rw [decide_eq_true (rep_non ra)]
    exact q
  · refine op_isN pins s σ H x y v u Q I rx ry ⟨rep_non rb, ?_⟩
    rw [decide_eq_false (rep_ne_non ra hn)]
    exact q
theorem cmp_isn : OpR X (compareOp .IsNot) (rc X.K X.w fun h => cmpO h .isn) := by
  intro pins s σ H x y v u Q I rx ry ⟨m, h, a, b, k, S, ra, rb, e, q⟩
  simp only [cmpO] at e
  cases e1 : isO a b with
  | none => rw [e1] at e; cases e
  | some k1 =>
    rw [e1] at e
    cases e
    rcases isO_cases e1 with ⟨c, d, rfl, rfl, rfl⟩ | ⟨rfl, rfl, rfl⟩ | ⟨rfl, hn, rfl⟩
    · exact op_notBl pins s σ H x y v u Q I rx ry ⟨c, d, rep_bl ra, rep_bl rb, q⟩
    · refine op_notN pins s σ H x y v u Q I rx ry ⟨rep_non rb, ?_⟩
      rw [decide_eq_true (rep_non ra)]
      exact q
    · refine op_notN pins s σ H x y v u Q I rx ry ⟨rep_non rb, ?_⟩
      rw [decide_eq_false (rep_ne_non ra hn)]
      exact q
end
end Mp
end
section
set_option Elab.async false
set_option linter.all false
set_option maxRecDepth 100000
set_option maxHeartbeats 4000000
set_option autoImplicit false
/-! MpOps4: membership in texts, lists, tuples; places, slices; truth; kinds. -/
namespace Mp
open PySem PySem.Spec PyProof.Rows L2

theorem any_py {n : Nat} {a : D} (ha : flatD n a = true) : ∀ (bs : List D), flatDs n bs = true → ((toPys bs).any fun z => PyData.eqv z (toPy a)) = bs.any fun b => D.eqv b a
  | [], _ => rfl
  | b :: bs, h => by
    simp only [flatDs, Bool.and_eq_true] at h
    simp only [toPys, List.any_cons]
    rw [eqv_py n b a h.1 ha, any_py ha bs h.2]
section
variable {X : Cx}
theorem in_seq_ok (hu : X.A.units + 65 < cLine) {m : List Addr} {h : Hd} {a b : D} {k : Bool} {pins : List (Addr × Obj)} {s : Shared} {σ : St} {H : Hp} {x y : V} {v u : Value} {Q : VK} (I : Inv X pins σ H s) (rx : RelV x v) (ry : RelV y u)
    (S : Sim X.K X.w m H h) (ra : Rep X.K X.w m H a x) (rb : Rep X.K X.w m H b y) (e : inS h a b = some k) :
    (Q (.bl k) H → wpAny (model X.prog X.w) X.A (compareOp .In v u) (EP X pins σ Q) X.xe s) ∧ (Q (.bl (!k)) H → wpAny (model X.prog X.w) X.A (compareOp .NotIn v u) (EP X pins σ Q) X.xe s) := by
  unfold inS at e
  cases e1 : seqOf h b with
  | none => simp [e1] at e
  | some ys =>
    cases e2 : D.res h 20 a with
    | none => simp [e1, e2] at e
    | some a' =>
      cases e3 : mapO (D.res h 20) ys with
      | none => simp [e1, e2, e3] at e
      | some bs =>
        simp only [e1, e2, e3, Option.some.injEq] at e
        obtain ⟨p, vs, rfl, q, z⟩ := seqOf_ok S e1 rb
        have qa := res_ok S 20 a a' x e2 ra
        have qb := mapO_ok (res_s S 20) ys bs vs e3 z
        obtain ⟨as, r1⟩ := Dp.reads I _ x v qa.2 rx
        have lay := lays_py 20 bs qb.1
        have sh := shaped_py qa.1 (by decide)
        have hr : X.A.units + 1 + min (PyData.depthAll (toPys bs)) (toPy a').depth < cLine := room_in_shaped sh hu
        have hany := any_py qa.1 bs qb.1
        rcases q with q | q
        · obtain ⟨bs', r2⟩ := Dp.reads I (.list (toPys bs)) (.ref p) u (.lst q qb.2) ry
          refine ⟨fun hq => ?_, fun hq => ?_⟩
          · exact SeqAt.in_list_reads r2 r1 lay.1 (SeqAt.canLay_of_shaped sh) hr ⟨.bl _, H, I, rfl, by rw [hany, e]; exact hq⟩
          · exact SeqAt.notIn_list_reads r2 r1 lay.1 (SeqAt.canLay_of_shaped sh) hr ⟨.bl _, H, I, rfl, by rw [hany, e]; exact hq⟩
        · obtain ⟨bs', r2⟩ := Dp.reads I (.tuple (toPys bs)) (.ref p) u (.tup q qb.2) ry
          refine ⟨fun hq => ?_, fun hq => ?_⟩
          · exact SeqAt.in_tuple_reads r2 r1 lay.1 (SeqAt.canLay_of_shaped sh) hr ⟨.bl _, H, I, rfl, by rw [hany, e]; exact hq⟩
          · exact SeqAt.notIn_tuple_reads r2 r1 lay.1 (SeqAt.canLay_of_shaped sh) hr ⟨.bl _, H, I, rfl, by rw [hany, e]; exact hq⟩
theorem any_beq (c : Nat) : ∀ t : List Nat, (t.any fun b => Nat.beq b c) = decide (c ∈ t)
  | [] => by simp
  | b :: t => by
    rw [List.any_cons, any_beq c t]
    cases h : Nat.beq b c with
    | true =>
      have e := Nat.eq_of_beq_eq_true h
      subst e
      simp
    | false =>
      have e := Nat.ne_of_beq_eq_false h
      have e2 : ¬ c = b := fun z => e z.symm
      simp [e2]
theorem in_str_ok {c : Nat} {t : List Nat} {pins : List (Addr × Obj)} {s : Shared} {σ : St} {H : Hp} {x y : V} {v u : Value} {Q : VK} (I : Inv X pins σ H s) (rx : RelV x v) (ry : RelV y u) (ex : x = .str ⟨[c].toArray⟩) (ey : y = .str ⟨t.toArray⟩) :
    (Q (.bl (t.any fun b => Nat.beq b c)) H → wpAny (model X.prog X.w) X.A (compareOp .In v u) (EP X pins σ Q) X.xe s) ∧ (Q (.bl (!(t.any fun b => Nat.beq b c))) H → wpAny (model X.prog X.w) X.A (compareOp .NotIn v u) (EP X pins σ Q) X.xe s) := by
  rw [any_beq]
  refine ⟨fun hq => op_in_sign pins s σ H x y v u Q I rx ry ⟨c, ⟨t.toArray⟩, ex, ey, ?_⟩, fun hq => op_notIn_sign pins s σ H x y v u Q I rx ry ⟨c, ⟨t.toArray⟩, ex, ey, ?_⟩⟩
  · simpa using hq
  · simpa using hq
/-! ### places -/
theorem ixN_same (n : Nat) (i : Int) : Mp.ixN n i = L2.ixN n i := rfl
theorem atI_same {α : Type} (xs : List α) (i : Int) : Mp.atI xs i = L2.atI xs i := by
  unfold Mp.atI L2.atI
  rw [ixN_same]
  cases L2.ixN xs.length i <;> rfl
theorem SReps.atI {K : PySem.W.Frag} {w : World} {m : List Addr} {H : Hp} {xs : List D} {vs : List V} {i : Int} {x : D} (r : SReps K m H xs vs) (e : Mp.atI xs i = some x) : ∃ v, L2.atI vs i = some v ∧ SRep K m H x v := by
  rw [atI_same] at e
  unfold L2.atI at e ⊢
  rw [← r.length]
  cases h : L2.ixN xs.length i with
  | none => rw [h] at e; cases e
  | some j =>
    rw [h] at e
    exact r.get e
theorem rep_of {K : PySem.W.Frag} {w : World} {m : List Addr} {H : Hp} {d : D} {v : V} (r : SRep K m H d v) : Rep K w m H d v := by
  cases d with
  | tl xs => simp only [SRep] at r
  | td ks vs => simp only [SRep] at r
  | _ => exact r
theorem repB_of {K : PySem.W.Frag} {w : World} {m : List Addr} {Hb H : Hp} {d : D} {v : V} (r : SRep K m H d v) : RepB K w Hb m H d v := by
  refine ⟨rep_of r, ?_⟩
  cases d with
  | tl xs => simp only [SRep] at r
  | td ks vs => simp only [SRep] at r
  | _ => exact True.intro
theorem okS_at {s : List Nat} {j : Nat} {c : Nat} (h : okS s = true) (e : s[j]? = some c) : okS [c] = true := by
  unfold okS at *
  have q := List.all_eq_true.mp h c (List.mem_of_getElem? e)
  rw [List.all_cons, q]
  rfl
theorem ixS_ok {m : List Addr} {h : Hd} {a b : D} {d : D} {H : Hp} {x y : V} (S : Sim X.K X.w m H h) (ra : Rep X.K X.w m H a x) (rb : Rep X.K X.w m H b y) (e : ixS h a b = some d) : ∃ z, SRep X.K m H d z ∧ ∀ Q : VK, Q z H → rIx X.K x y H Q := by
  have seq : ∀ xs, seqOf h a = some xs → atD xs b = some d → ∃ z, SRep X.K m H d z ∧ ∀ Q : VK, Q z H → rIx X.K x y H Q := by
    intro xs e1 e2
    cases b with
    | int k =>
      obtain ⟨p, vs, rfl, q, z⟩ := seqOf_ok S e1 ra
      obtain ⟨z1, h1, h2⟩ := SReps.atI (w := X.w) z e2
      have ey := rep_int rb
      refine ⟨z1, h2, fun Q hq => ?_⟩
      rcases q with q | q
      · exact .inl ⟨p, vs, k, z1, rfl, ey, q, h1, hq⟩
      · exact .inr (.inl ⟨p, vs, k, z1, rfl, ey, q, h1, hq⟩)
    | _ => cases e2
  cases a with
  | str t =>
    simp only [ixS] at e
    cases b with
    | int k =>
      simp only [atS] at e
      split at e
      · rename_i hl
        cases e1 : Mp.atI t k with
        | none => simp [e1] at e
        | some c =>
          rw [e1] at e
          cases e
          obtain ⟨ex, ok⟩ := rep_str ra
          have hk : okS [c] = true := by
            rw [atI_same] at e1
            unfold L2.atI at e1
            cases hj : L2.ixN t.length k with
            | none => rw [hj] at e1; cases e1
            | some j =>
              rw [hj] at e1
              exact okS_at ok e1
          refine ⟨.str ⟨#[c]⟩, (mk_str (K := X.K) (w := X.w) (m := m) (H := H) (Hb := H) hk).1, fun Q hq => .inr (.inr ⟨⟨t.toArray⟩, k, c, ex, rep_int rb, ?_, ?_, hq⟩)⟩
          · show t.toArray.size ≤ sizeLine
            rw [← lim_eq]
            simpa using hl
          · show L2.atI t.toArray.toList k = some c
            rw [← atI_same]
            simpa using e1
      · cases e
    | _ => cases e
  | tup xs => exact seq xs rfl e
  | lck xs => exact seq xs rfl e
  | tl xs => exact seq xs rfl e
  | ref n =>
    simp only [ixS] at e
    cases e1 : seqOf h (.ref n) with
    | none => rw [e1] at e; cases e
    | some xs =>
      rw [e1] at e
      exact seq xs e1 e
  | _ => cases e
/-! ### slices -/
theorem clip_same (n d : Nat) (o : Option Int) (hd : d ≤ n) : Mp.clip n d o = HT.sIx n d o := by
  cases o with
  | none => rfl
  | some i =>
    have e := HT.clip_eq i n d
    show (if i < 0 then (i + (n : Int)).toNat else min i.toNat n) = HT.sIx n d (some i)
    by_cases hi : i < 0
    · rw [if_pos hi] at e ⊢
      omega
    · rw [if_neg hi] at e ⊢
      omega
theorem cut_same (xs : List V) (lo hi : Option Int) : Mp.cut xs lo hi = cutV xs lo hi := by
  unfold Mp.cut cutV
  rw [clip_same _ _ lo (Nat.zero_le _), clip_same _ _ hi (Nat.le_refl _)]
theorem SReps.cut {K : PySem.W.Frag} {m : List Addr} {H : Hp} {xs : List D} {vs : List V} (r : SReps K m H xs vs) (lo hi : Option Int) : SReps K m H (Mp.cut xs lo hi) (cutV vs lo hi) := by
  rw [← cut_same]
  unfold Mp.cut
  rw [← r.length]
  exact (r.drop _).take _
end
end Mp
end
section
set_option Elab.async false
set_option linter.all false
set_option maxRecDepth 100000
set_option maxHeartbeats 4000000
set_option autoImplicit false
/-! MpDict: dicts: a key's hash, its place; what is asked and stored. -/
namespace Mp
open PySem PySem.Spec PyProof.Rows L2

/-! ### keys -/
mutual
theorem eqv_nk : ∀ (n : Nat) (a b : D), D.key n a = true → D.key n b = true → D.eqv a b = decide (nk a = nk b)
  | n, .int i, b, _, hb => by
    cases b with
    | int j => simp [D.eqv, nk]
    | str t => simp [D.eqv, nk]
    | tup ys => simp [D.eqv, nk]
    | _ => cases n <;> simp [D.key] at hb
  | n, .str s, b, _, hb => by
    cases b with
    | int j => simp [D.eqv, nk]
    | str t =>
      simp only [D.eqv, nk, NestedKey.text.injEq]
      rw [lnat_iff]
      by_cases e : s = t
      · subst e; simp
      · rw [decide_eq_false e, decide_eq_false fun z => e (str_inj.mp z)]
    | tup ys => simp [D.eqv, nk]
    | _ => cases n <;> simp [D.key] at hb
  | 0, .tup xs, b, ha, _ => by simp [D.key] at ha
  | n + 1, .tup xs, b, ha, hb => by
    cases b with
    | int j => simp [D.eqv, nk]
    | str t => simp [D.eqv, nk]
    | tup ys =>
      simp only [D.eqv, nk, NestedKey.tup.injEq]
      exact eqvs_nk n xs ys (by simpa only [D.key] using ha) (by simpa only [D.key] using hb)
    | _ => simp [D.key] at hb
  | n, .non, b, ha, _ => by cases n <;> simp [D.key] at ha
  | n, .bl _, b, ha, _ => by cases n <;> simp [D.key] at ha
  | n, .lck _, b, ha, _ => by cases n <;> simp [D.key] at ha
  | n, .ref _, b, ha, _ => by cases n <;> simp [D.key] at ha
  | n, .tl _, b, ha, _ => by cases n <;> simp [D.key] at ha
  | n, .td _ _, b, ha, _ => by cases n <;> simp [D.key] at ha
  | n, .exn _ _, b, ha, _ => by cases n <;> simp [D.key] at ha
theorem eqvs_nk : ∀ (n : Nat) (as bs : List D), D.keys n as = true → D.keys n bs = true → D.eqvs as bs = decide (nks as = nks bs)
  | _, [], [], _, _ => by simp [D.eqvs, nks]
  | _, [], _ :: _, _, _ => by simp [D.eqvs, nks]
  | _, _ :: _, [], _, _ => by simp [D.eqvs, nks]
  | n, a :: as, b :: bs, ha, hb => by
    simp only [D.keys, Bool.and_eq_true] at ha hb
    simp only [D.eqvs, nks, List.cons.injEq]
    rw [eqv_nk n a b ha.1 hb.1, eqvs_nk n as bs ha.2 hb.2]
    by_cases e1 : nk a = nk b <;> by_cases e2 : nks as = nks bs <;> simp [e1, e2]
end
mutual
theorem key_depth : ∀ (n : Nat) (d : D), D.key n d = true → NestedKey.depth (nk d) ≤ n
  | n, .int _, _ => by simp [nk, NestedKey.depth]
  | n, .str _, _ => by simp [nk, NestedKey.depth]
  | 0, .tup _, h => by simp [D.key] at h
  | n + 1, .tup xs, h => by
    simp only [nk, NestedKey.depth]
    exact Nat.succ_le_succ (keys_depth n xs (by simpa only [D.key] using h))
  | n, .non, h => by cases n <;> simp [D.key] at h
  | n, .bl _, h => by cases n <;> simp [D.key] at h
  | n, .lck _, h => by cases n <;> simp [D.key] at h
  | n, .ref _, h => by cases n <;> simp [D.key] at h
  | n, .tl _, h => by cases n <;> simp [D.key] at h
  | n, .td _ _, h => by cases n <;> simp [D.key] at h
  | n, .exn _ _, h => by cases n <;> simp [D.key] at h
theorem keys_depth : ∀ (n : Nat) (ds : List D), D.keys n ds = true → NestedKey.depthAll (nks ds) ≤ n
  | n, [], _ => by simp [nks, NestedKey.depthAll]
  | n, d :: ds, h => by
    simp only [D.keys, Bool.and_eq_true] at h
    simp only [nks, NestedKey.depthAll]
    exact Nat.max_le.mpr ⟨key_depth n d h.1, keys_depth n ds h.2⟩
end
section
variable {X : Cx} {pins : List (Addr × Obj)} {σ : St} {H : Hp} {s : Shared} {m : List Addr}
mutual
theorem nested_of (I : Inv X pins σ H s) : ∀ (n : Nat) (d : D) (v : V) (u : Value), D.key n d = true → SRep X.K m H d v → RelV v u → NestedIs s.heap (nk d) u
  | n, .int i, v, u, _, r, q => by
    simp only [SRep] at r
    subst r
    obtain ⟨t, rfl⟩ := q
    exact .int i t
  | n, .str x, v, u, _, r, q => by
    simp only [SRep] at r
    obtain ⟨rfl, _⟩ := r
    obtain ⟨t, rfl⟩ := q
    exact .text _ t
  | 0, .tup _, _, _, h, _, _ => by simp [D.key] at h
  | n + 1, .tup xs, v, u, h, r, q => by
    simp only [SRep] at r
    obtain ⟨a, vs, rfl, sq, z⟩ := r
    cases q
    obtain ⟨its, rv, ⟨o, ho, hc, c, hd⟩, _⟩ := I.tuple sq.sq
    simp only [nk]
    exact .tup ho hc hd (by simpa using nesteds_of I n xs vs its (by simpa only [D.key] using h) z rv)
  | n, .non, _, _, h, _, _ => by cases n <;> simp [D.key] at h
  | n, .bl _, _, _, h, _, _ => by cases n <;> simp [D.key] at h
  | n, .lck _, _, _, h, _, _ => by cases n <;> simp [D.key] at h
  | n, .ref _, _, _, h, _, _ => by cases n <;> simp [D.key] at h
  | n, .tl _, _, _, h, _, _ => by cases n <;> simp [D.key] at h
  | n, .td _ _, _, _, h, _, _ => by cases n <;> simp [D.key] at h
  | n, .exn _ _, _, _, h, _, _ => by cases n <;> simp [D.key] at h
theorem nesteds_of (I : Inv X pins σ H s) : ∀ (n : Nat) (ds : List D) (vs : List V) (us : List Value), D.keys n ds = true → SReps X.K m H ds vs → Vals vs us → NestedAll s.heap (nks ds) us
  | n, [], vs, us, _, r, q => by
    simp only [SReps] at r
    subst r
    cases q
    exact .nil
  | n, d :: ds, vs, us, h, r, q => by
    simp only [D.keys, Bool.and_eq_true] at h
    simp only [SReps] at r
    obtain ⟨v, t, rfl, r1, r2⟩ := r
    cases q with
    | cons q1 q2 =>
      simp only [nks]
      exact .cons (nested_of I n d v _ h.1 r1 q1) (nesteds_of I n ds t _ h.2 r2 q2)
end
/-- a key that is no tuple -/
def leafK : D → L2.Key
  | .int i => .inl i
  | .str s => .inr ⟨s.toArray⟩
  | _ => .inl 0
/-- at h the value u is the key d -/
structure KV (h : Heap) (d : D) (u : Value) : Prop where
  key : D.key 8 d = true
  nest : NestedIs h (nk d) u
  leaf : D.isTup d = false → keyIs (leafK d) u = true
  ref : D.isTup d = true → ∃ a, u = .ref a
theorem kv_of (I : Inv X pins σ H s) {d : D} {v : V} {u : Value} (h : D.key 8 d = true) (r : SRep X.K m H d v) (q : RelV v u) : KV s.heap d u := by
  refine ⟨h, nested_of I 8 d v u h r q, fun e => ?_, fun e => ?_⟩
  · cases d with
    | int i =>
      simp only [SRep] at r
      subst r
      obtain ⟨t, rfl⟩ := q
      exact keyIs_int i t
    | str x =>
      simp only [SRep] at r
      obtain ⟨rfl, _⟩ := r
      obtain ⟨t, rfl⟩ := q
      exact keyIs_str _ t
    | tup xs => cases e
    | _ => simp [D.key] at h
  · cases d with
    | tup xs =>
      simp only [SRep] at r
      obtain ⟨a, vs, rfl, _, _⟩ := r
      cases q
      exact ⟨a, rfl⟩
    | _ => cases e
end
theorem leaf_hash (w : World) {d : D} (h : D.key 8 d = true) (e : D.isTup d = false) : keyH w (leafK d) = (nk d).hash w := by
  cases d with
  | int i => rfl
  | str x => rfl
  | tup xs => cases e
  | _ => simp [D.key] at h
theorem leaf_inj {a b : D} (ha : D.key 8 a = true) (hb : D.key 8 b = true) (ea : D.isTup a = false) (eb : D.isTup b = false) : leafK a = leafK b ↔ nk a = nk b := by
  cases a with
  | int i =>
    cases b with
    | int j => simp [leafK, nk]
    | str t => simp [leafK, nk]
    | tup ys => cases eb
    | _ => simp [D.key] at hb
  | str x =>
    cases b with
    | int j => simp [leafK, nk]
    | str t => simp [leafK, nk]
    | tup ys => cases eb
    | _ => simp [D.key] at hb
  | tup xs => cases ea
  | _ => simp [D.key] at ha

/-! ### entries of a heap -/
/-- the entries' keys are the keys ks -/
def Ents (w : World) (h : Heap) : List D → List DictEntry → Prop := Paired fun k e => KV h k e.key ∧ e.hash = (nk k).hash w
structure DH (w : World) (h : Heap) (d : Addr) (ks : List D) (es : List DictEntry) : Prop where
  raw : ∃ o ep, h.get? d = some o ∧ o.ExactDict ∧ o.data = .dict es.toArray ep
  ent : Ents w h ks es
  ok : KeysOk ks
/-- its place among the keys -/
def kix (k : D) : List D → Option Nat
  | [] => none
  | a :: as => if decide (nk a = nk k) then some 0 else (kix k as).map (· + 1)
theorem Paired.get {α β : Type} {F : α → β → Prop} : ∀ {xs : List α} {ys : List β} {i : Nat} {x : α}, Paired F xs ys → xs[i]? = some x → ∃ y, ys[i]? = some y ∧ F x y
  | _, _, _, _, .nil, e => by simp at e
  | _, _, 0, _, .cons r _, e => by simp at e; subst e; exact ⟨_, rfl, r⟩
  | _, _, i + 1, x, .cons _ t, e => by
    obtain ⟨u, h1, h2⟩ := Paired.get (i := i) (x := x) t (by simpa using e)
    exact ⟨u, by simpa using h1, h2⟩
theorem Paired.get' {α β : Type} {F : α → β → Prop} : ∀ {xs : List α} {ys : List β} {i : Nat} {y : β}, Paired F xs ys → ys[i]? = some y → ∃ x, xs[i]? = some x ∧ F x y
  | _, _, _, _, .nil, e => by simp at e
  | _, _, 0, _, .cons r _, e => by simp at e; subst e; exact ⟨_, rfl, r⟩
  | _, _, i + 1, x, .cons _ t, e => by
    obtain ⟨u, h1, h2⟩ := Paired.get' (i := i) (y := x) t (by simpa using e)
    exact ⟨u, by simpa using h1, h2⟩
/-- a list told by what stands at each place of another -/
theorem kix_none {k : D} : ∀ {ks : List D}, kix k ks = none ↔ ∀ a ∈ ks, nk a ≠ nk k
  | [] => by simp [kix]
  | a :: as => by
    simp only [kix]
    by_cases e : nk a = nk k
    · simp [e]
    · simp [e, kix_none (k := k) (ks := as)]
theorem kix_some {k : D} : ∀ {ks : List D} {i : Nat}, kix k ks = some i → (∃ a, ks[i]? = some a ∧ nk a = nk k) ∧ ∀ j a, j < i → ks[j]? = some a → nk a ≠ nk k
  | [], _, h => by simp [kix] at h
  | a :: as, i, h => by
    simp only [kix] at h
    by_cases e : nk a = nk k
    · simp only [e, decide_true, if_true, Option.some.injEq] at h
      subst h
      exact ⟨⟨a, rfl, e⟩, fun j b hj => absurd hj (Nat.not_lt_zero _)⟩
    · simp only [e, decide_false, Bool.false_eq_true, if_false] at h
      cases h1 : kix k as with
      | none => rw [h1] at h; cases h
      | some j =>
        rw [h1] at h
        cases h
        obtain ⟨⟨b, b1, b2⟩, q⟩ := kix_some h1
        refine ⟨⟨b, by simpa using b1, b2⟩, fun l c hl hc => ?_⟩
        cases l with
        | zero => simp at hc; subst hc; exact e
        | succ l =>
          have hl : l + 1 < j + 1 := hl
          exact q l c (by omega) (by simpa using hc)
section
variable {P : Program} {w : World} {A : Around} {E : Value → Shared → Prop} {s : Shared} {d : Addr} {ks : List D} {es : List DictEntry} {k : D} {u : Value}
theorem hash_ok {Q : Int → Shared → Prop} (hk : KV s.heap k u) (hu : A.units + 8 < cLine) (q : ∀ t, Q ((nk k).hash w) { s with toks := t }) : wpAny (model P w) A (pyHash u) Q E s :=
  pyHash_key _ _ _ _ _ hk.nest (by have := key_depth 8 k hk.key; omega) (q _)
theorem findIdx_ok (P : Program) (hk : D.key 8 k = true) (ht : D.isTup k = false) : ∀ {ks : List D} {es : List DictEntry}, Ents w s.heap ks es → (∀ a ∈ ks, D.isTup a = false) → (es.findIdx? fun e => keyIs (leafK k) e.key) = kix k ks
  | _, _, .nil, _ => rfl
  | a :: as, e :: er, .cons r t, hs => by
    have q : keyIs (leafK k) e.key = decide (nk a = nk k) := by
      have h1 := KeyKind.is_eq_decide (knd := mixKind P w) (k := leafK a) (v := e.key) (r.1.leaf (hs a List.mem_cons_self)) (leafK k)
      have h2 : keyIs (leafK k) e.key = decide (leafK k = leafK a) := h1
      rw [h2]
      have h3 := leaf_inj hk r.1.key ht (hs a List.mem_cons_self)
      by_cases z : nk a = nk k
      · rw [decide_eq_true z, decide_eq_true (h3.mpr z.symm)]
      · rw [decide_eq_false z, decide_eq_false fun y => z (h3.mp y).symm]
    rw [List.findIdx?_cons, q, findIdx_ok P hk ht t fun b hb => hs b (List.mem_cons_of_mem _ hb)]
    rfl
theorem tup_list (P : Program) : ∀ {ks : List D} {es : List DictEntry}, Ents w s.heap ks es → (∀ a ∈ ks, D.isTup a = true) →
    ∃ xs : List (NestedKey × Addr × Value), es = xs.map (entryOfKey (nestedKind P w)) ∧ (∀ x ∈ xs, (nestedKind P w).is s.heap x.1 x.2.1) ∧ xs.map (·.1) = ks.map nk
  | _, _, .nil, _ => ⟨[], rfl, fun _ h => absurd h (by simp), rfl⟩
  | a :: as, ⟨hh, kk, vv⟩ :: er, .cons r t, hs => by
    obtain ⟨xs, e1, e2, e3⟩ := tup_list P t fun b hb => hs b (List.mem_cons_of_mem _ hb)
    obtain ⟨p, hp⟩ := r.1.ref (hs a List.mem_cons_self)
    have hp : kk = .ref p := hp
    have hq : hh = (nk a).hash w := r.2
    have hn : NestedIs s.heap (nk a) kk := r.1.nest
    refine ⟨(nk a, p, vv) :: xs, ?_, fun x hx => ?_, ?_⟩
    · rw [List.map_cons, ← e1, hp, hq]
      rfl
    · rcases List.mem_cons.mp hx with rfl | hx
      · exact ⟨by rw [← hp]; exact hn, key_depth 8 a r.1.key⟩
      · exact e2 x hx
    · rw [List.map_cons, List.map_cons, e3]
theorem find_ok {Q : Option Nat → Shared → Prop} (D' : DH w s.heap d ks es) (hk : KV s.heap k u) (hs : ∀ a ∈ ks, D.isTup a = D.isTup k) (hu : A.units + 8 < cLine) (q : Q (kix k ks) s) : wpAny (model P w) A (dictFind d u ((nk k).hash w)) Q E s := by
  obtain ⟨o, ep, ho, hx, hd⟩ := D'.raw
  cases ht : D.isTup k with
  | false =>
    have hs' : ∀ a ∈ ks, D.isTup a = false := fun a ha => (hs a ha).trans ht
    rw [← leaf_hash w hk.key ht]
    refine wpAny_dictFind_of (knd := mixKind P w) (k := leafK k) (hk.leaf ht) ho hd (fun e he => ?_) ?_
    · obtain ⟨i, hi⟩ := List.mem_iff_getElem?.mp (show e ∈ es by simpa using he)
      obtain ⟨a, h1, h2⟩ := Paired.get' D'.ent hi
      have ha := List.mem_of_getElem? h1
      exact ⟨leafK a, h2.1.leaf (hs' a ha), h2.2.trans (leaf_hash w h2.1.key (hs' a ha)).symm⟩
    · show Q (es.toArray.findIdx? fun e => keyIs (leafK k) e.key) s
      rw [List.findIdx?_toArray, findIdx_ok P hk.key ht D'.ent hs']
      exact q
  | true =>
    have hs' : ∀ a ∈ ks, D.isTup a = true := fun a ha => (hs a ha).trans ht
    obtain ⟨p, rfl⟩ := hk.ref ht
    obtain ⟨xs, e1, e2, e3⟩ := tup_list P D'.ent hs'
    have hn : (xs.map (·.1)).Nodup := by rw [e3]; exact D'.ok.2.2
    have at' : ∀ j : Nat, (xs[j]?).map (fun x => x.1) = (ks[j]?).map nk := fun j => by
      rw [← List.getElem?_map, ← List.getElem?_map, e3]
    refine wpAny_dictFind_heap (knd := nestedKind P w) (k := nk k) hu ⟨hk.nest, key_depth 8 k hk.key⟩ ho hd (by rw [← e1]) e2 hn (fun hno => ?_) fun j pr hj => ?_
    · have z : kix k ks = none := by
        rw [kix_none]
        intro a ha ea
        obtain ⟨j, hj⟩ := List.mem_iff_getElem?.mp ha
        have t := at' j
        rw [hj] at t
        cases hx' : xs[j]? with
        | none => rw [hx'] at t; cases t
        | some x =>
          rw [hx'] at t
          have t' : x.1 = nk a := Option.some.inj t
          exact hno j x.2 (by rw [hx']; rw [← ea, ← t'])
      rw [z] at q
      exact q
    · have z : kix k ks = some j := by
        have t := at' j
        rw [hj] at t
        cases hkj : ks[j]? with
        | none => rw [hkj] at t; cases t
        | some a =>
          rw [hkj] at t
          have t' : nk k = nk a := Option.some.inj t
          cases hq : kix k ks with
          | none => exact absurd t'.symm (kix_none.mp hq a (List.mem_of_getElem? hkj))
          | some i =>
            obtain ⟨⟨b, b1, b2⟩, _⟩ := kix_some hq
            have hnd := D'.ok.2.2
            have h1 : (ks.map nk)[i]? = some (nk k) := by rw [List.getElem?_map, b1]; exact congrArg some b2
            have h2 : (ks.map nk)[j]? = some (nk k) := by rw [List.getElem?_map, hkj]; exact congrArg some t'.symm
            obtain ⟨l1, g1⟩ := List.getElem?_eq_some_iff.mp h1
            obtain ⟨l2, g2⟩ := List.getElem?_eq_some_iff.mp h2
            exact congrArg some ((List.getElem_inj hnd).mp (g1.trans g2.symm))
      rw [z] at q
      exact q
end
end Mp
end
section
set_option Elab.async false
set_option linter.all false
set_option maxRecDepth 100000
set_option maxHeartbeats 4000000
set_option autoImplicit false
/-! MpDict2: dicts of the model, by the places of keys: get, in, [], set, setdefault. -/
namespace Mp
open PySem PySem.Spec PyProof.Rows L2

/-- the entries behind a store -/
def entPut (o : Option Nat) (e : DictEntry) (es : List DictEntry) : List DictEntry := match o with
  | none => es ++ [e]
  | some i => es.modify i fun x => { x with val := e.val }
def entGet (o : Option Nat) (es : List DictEntry) : Option Value := match o with
  | none => none
  | some i => (es[i]?).map (·.val)
section
variable {P : Program} {w : World} {A : Around} {E : Value → Shared → Prop} {s : Shared} {d : Addr} {ks : List D} {es : List DictEntry} {k : D} {u : Value}
theorem DH.toks (D' : DH w s.heap d ks es) (t : Nat) : DH w ({ s with toks := t } : Shared).heap d ks es := D'
theorem DH.typeIs (D' : DH w s.heap d ks es) : s.TypeIs (.ref d) "dict" := let ⟨o, _, ho, hx, _⟩ := D'.raw; ⟨o, ho, hx.1⟩
theorem get_raw {Q : Option Value → Shared → Prop} (D' : DH w s.heap d ks es) (hk : KV s.heap k u) (hs : ∀ a ∈ ks, D.isTup a = D.isTup k) (hu : A.units + 8 < cLine) (q : ∀ t, Q (entGet (kix k ks) es) { s with toks := t }) :
    wpAny (model P w) A (dictGet d u) Q E s := by
  obtain ⟨o, ep, ho, hx, hd⟩ := D'.raw
  unfold dictGet
  try with_reducible refine wpAny_holding ?_
  refine wpAny_bind (hash_ok hk hu fun t => wpAny_bind (find_ok (s := { s with toks := t }) (D'.toks t) hk hs hu ?_))
  have q := q t
  cases hi : kix k ks with
  | none =>
    rw [hi] at q
    exact wpAny_pure q
  | some i =>
    rw [hi] at q
    refine wpAny_bind (wpAny_dictEntries (s := { s with toks := t }) ho hd ?_)
    have e : (es.toArray[i]?).map (·.val) = entGet (some i) es := by simp [entGet]
    rw [e]
    exact wpAny_pure q
theorem in_raw {Q : Value → Shared → Prop} (D' : DH w s.heap d ks es) (hk : KV s.heap k u) (hs : ∀ a ∈ ks, D.isTup a = D.isTup k) (hu : A.units + 10 < cLine) (hsys : (d == sysModules) = false) (q : ∀ t, Q (.bool (entGet (kix k ks) es).isSome) { s with toks := t }) :
    wpAny (model P w) A (compareOp .In u (.ref d)) Q E s := by
  show wpAny _ _ (do return .bool (← contains (.ref d) u)) Q E s
  refine wpAny_bind ?_
  unfold contains
  try with_reducible refine wpAny_holding ?_
  refine wpAny_bind (wpAny_specialOf D'.typeIs slot_dict_contains.lookup ?_)
  show wpAny _ _ (if (some (Value.builtin "dict.__contains__") == some Value.none) = true then _ else _) _ E s
  rw [if_neg (by rw [beq_builtin_none]; exact Bool.false_ne_true)]
  refine wpAny_bind (wpAny_callSpecialUnlessNone?_slot (name := Str.ofString "__contains__") D'.typeIs slot_dict_contains
    (wpAny_call_entry slot_dict_contains D'.typeIs entry_dict_contains ?_ (args_dict_contains _ _)))
  show wpAny _ _ (dictGet d u >>= _) _ _ s
  refine wpAny_bind (get_raw D' hk hs (by show A.units + 1 + 8 < cLine; omega) fun t => ?_)
  have q := q t
  cases hf : entGet (kix k ks) es with
  | some p =>
    rw [hf] at q
    show wpAny _ _ (ret (.bool true)) _ _ _
    exact wpAny_pure ⟨_, rfl, wpAny_truthy_bool (wpAny_pure q)⟩
  | none =>
    rw [hf] at q
    show wpAny _ _ (Builtin.Dict.pendingKey? d u >>= _) _ _ _
    exact wpAny_bind (wpAny_pendingKey_other hsys (wpAny_pure ⟨_, rfl, wpAny_truthy_bool (wpAny_pure q)⟩))
theorem notIn_raw {Q : Value → Shared → Prop} (D' : DH w s.heap d ks es) (hk : KV s.heap k u) (hs : ∀ a ∈ ks, D.isTup a = D.isTup k) (hu : A.units + 10 < cLine) (hsys : (d == sysModules) = false) (q : ∀ t, Q (.bool (!(entGet (kix k ks) es).isSome)) { s with toks := t }) :
    wpAny (model P w) A (compareOp .NotIn u (.ref d)) Q E s := by
  show wpAny _ _ (do return .bool (!(← contains (.ref d) u))) Q E s
  refine wpAny_bind ?_
  unfold contains
  try with_reducible refine wpAny_holding ?_
  refine wpAny_bind (wpAny_specialOf D'.typeIs slot_dict_contains.lookup ?_)
  show wpAny _ _ (if (some (Value.builtin "dict.__contains__") == some Value.none) = true then _ else _) _ E s
  rw [if_neg (by rw [beq_builtin_none]; exact Bool.false_ne_true)]
  refine wpAny_bind (wpAny_callSpecialUnlessNone?_slot (name := Str.ofString "__contains__") D'.typeIs slot_dict_contains
    (wpAny_call_entry slot_dict_contains D'.typeIs entry_dict_contains ?_ (args_dict_contains _ _)))
  show wpAny _ _ (dictGet d u >>= _) _ _ s
  refine wpAny_bind (get_raw D' hk hs (by show A.units + 1 + 8 < cLine; omega) fun t => ?_)
  have q := q t
  cases hf : entGet (kix k ks) es with
  | some p =>
    rw [hf] at q
    show wpAny _ _ (ret (.bool true)) _ _ _
    exact wpAny_pure ⟨_, rfl, wpAny_truthy_bool (wpAny_pure q)⟩
  | none =>
    rw [hf] at q
    show wpAny _ _ (Builtin.Dict.pendingKey? d u >>= _) _ _ _
    exact wpAny_bind (wpAny_pendingKey_other hsys (wpAny_pure ⟨_, rfl, wpAny_truthy_bool (wpAny_pure q)⟩))
theorem getItem_raw {Q : Value → Shared → Prop} {v : Value} (D' : DH w s.heap d ks es) (hk : KV s.heap k u) (hs : ∀ a ∈ ks, D.isTup a = D.isTup k) (hu : A.units + 10 < cLine) (hv : entGet (kix k ks) es = some v) (q : ∀ t, Q v { s with toks := t }) :
    wpAny (model P w) A (getItem (.ref d) u) Q E s := by
  unfold getItem
  try with_reducible refine wpAny_holding ?_
  refine wpAny_bind (wpAny_sequenceKey D'.typeIs (by decide) ?_)
  refine wpAny_bind (wpAny_callSpecial?_slot (name := Str.ofString "__getitem__") D'.typeIs slot_dict_getitem
    (wpAny_call_entry slot_dict_getitem D'.typeIs entry_dict_getitem ?_ (args_dict_getitem _ _)))
  show wpAny _ _ (dictGet d u >>= _) _ _ s
  refine wpAny_bind (get_raw D' hk hs (by show A.units + 1 + 8 < cLine; omega) fun t => ?_)
  rw [hv]
  exact wpAny_pure ⟨v, rfl, wpAny_pure (q t)⟩
theorem get1_raw {Q : Value → Shared → Prop} (D' : DH w s.heap d ks es) (hk : KV s.heap k u) (hs : ∀ a ∈ ks, D.isTup a = D.isTup k) (hu : A.units + 10 < cLine) (hsys : (d == sysModules) = false) (q : ∀ t, Q ((entGet (kix k ks) es).getD .none) { s with toks := t }) :
    wpAny (model P w) A (call (.builtin "dict.get") [.ref d, u]) Q E s := by
  refine call_meetsIn F.slot_dict_get D'.typeIs F.entry_dict_get (F.args_dict_get_2 _ _) (S := fun A' R s' => A'.units + 9 < cLine ∧ s'.heap = s.heap ∧ ∀ t, R (.ok (.ret ((entGet (kix k ks) es).getD .none))) { s' with toks := t }) (.of_wp fun A' R s' ⟨hu', hh, h⟩ => ?_) ⟨by omega, rfl, fun t => q t⟩
  show wpAny _ _ (dictGet d u >>= _) _ _ s'
  refine wpAny_bind (get_raw (s := s') (by rw [hh]; exact D') (by rw [hh]; exact hk) hs (by show A'.units + 1 + 8 < cLine; omega) fun t => ?_)
  have h := h t
  cases hf : entGet (kix k ks) es with
  | some v =>
    rw [hf] at h
    exact wpAny_pure ⟨v, rfl, h⟩
  | none =>
    rw [hf] at h
    show wpAny _ _ (Builtin.Dict.missed d u >>= _) _ _ _
    exact wpAny_bind (wpAny_missed_other hsys (wpAny_pure ⟨.none, rfl, h⟩))
theorem get2_raw {Q : Value → Shared → Prop} {x : Value} (D' : DH w s.heap d ks es) (hk : KV s.heap k u) (hs : ∀ a ∈ ks, D.isTup a = D.isTup k) (hu : A.units + 10 < cLine) (hsys : (d == sysModules) = false) (q : ∀ t, Q ((entGet (kix k ks) es).getD x) { s with toks := t }) :
    wpAny (model P w) A (call (.builtin "dict.get") [.ref d, u, x]) Q E s := by
  refine call_meetsIn F.slot_dict_get D'.typeIs F.entry_dict_get (F.args_dict_get_3 _ _ _) (S := fun A' R s' => A'.units + 9 < cLine ∧ s'.heap = s.heap ∧ ∀ t, R (.ok (.ret ((entGet (kix k ks) es).getD x))) { s' with toks := t }) (.of_wp fun A' R s' ⟨hu', hh, h⟩ => ?_) ⟨by omega, rfl, fun t => q t⟩
  show wpAny _ _ (dictGet d u >>= _) _ _ s'
  refine wpAny_bind (get_raw (s := s') (by rw [hh]; exact D') (by rw [hh]; exact hk) hs (by show A'.units + 1 + 8 < cLine; omega) fun t => ?_)
  have h := h t
  cases hf : entGet (kix k ks) es with
  | some v =>
    rw [hf] at h
    exact wpAny_pure ⟨v, rfl, h⟩
  | none =>
    rw [hf] at h
    show wpAny _ _ (Builtin.Dict.missed d u >>= _) _ _ _
    exact wpAny_bind (wpAny_missed_other hsys (wpAny_pure ⟨x, rfl, h⟩))
/-! ### what a store leaves -/
/-- at d stand these entries -/
def RawAt (h : Heap) (d : Addr) (es : List DictEntry) : Prop := ∃ o ep, h.get? d = some o ∧ o.ExactDict ∧ o.data = .dict es.toArray ep
theorem modify_arr (es : List DictEntry) (i : Nat) (f : DictEntry → DictEntry) : es.toArray.modify i f = (es.modify i f).toArray := by
  simp
theorem set_raw {Q : Unit → Shared → Prop} {v : Value} (D' : DH w s.heap d ks es) (hk : KV s.heap k u) (hs : ∀ a ∈ ks, D.isTup a = D.isTup k) (hu : A.units + 8 < cLine) (hz : es.length ≤ sizeLine)
    (q : ∀ h' t, RawAt h' d (entPut (kix k ks) ⟨(nk k).hash w, u, v⟩ es) → Heap.SameBut d s.heap h' → Q () { s with heap := h', toks := t }) :
    wpAny (model P w) A (dictSet d u v) Q E s := by
  obtain ⟨o, ep, ho, hx, hd⟩ := D'.raw
  unfold dictSet
  try with_reducible refine wpAny_holding ?_
  refine wpAny_bind (hash_ok hk hu fun t => ?_)
  unfold dictSetHashed
  try with_reducible refine wpAny_holding ?_
  refine wpAny_bind (find_ok (s := { s with toks := t }) (D'.toks t) hk hs hu ?_)
  cases hi : kix k ks with
  | none =>
    refine wpAny_bind (wpAny_rule (wpAny_updateDictKeys (hz := by simpa using hz) (s := { s with toks := t }) ho hd (q _ t ⟨_, ep + 1, Heap.get?_update_self _ ho (Obj.isFreed_of_dict (Obj.data_mapDictKeys hd _)),
      hx.mapDictKeys _, ?_⟩ (Heap.SameBut.update ..))))
    rw [Obj.data_mapDictKeys hd, hi]
    simp [entPut]
  | some i =>
    refine wpAny_bind (wpAny_rule (wpAny_bind (wpAny_updateDict (s := { s with toks := t }) ho hd (wpAny_point (q _ t ⟨_, ep, Heap.get?_update_self _ ho (Obj.isFreed_of_dict (Obj.data_mapDict hd _)),
      hx.mapDict _, ?_⟩ (Heap.SameBut.update ..))))))
    rw [Obj.data_mapDict hd, hi, modify_arr]
    rfl
theorem setItem_raw {Q : Unit → Shared → Prop} {v : Value} (D' : DH w s.heap d ks es) (hk : KV s.heap k u) (hs : ∀ a ∈ ks, D.isTup a = D.isTup k) (hu : A.units + 10 < cLine) (hz : es.length ≤ sizeLine)
    (q : ∀ h' t, RawAt h' d (entPut (kix k ks) ⟨(nk k).hash w, u, v⟩ es) → Heap.SameBut d s.heap h' → Q () { s with heap := h', toks := t }) :
    wpAny (model P w) A (setItem (.ref d) u v) Q E s := by
  unfold setItem
  try with_reducible refine wpAny_holding ?_
  refine wpAny_bind (wpAny_sequenceKey D'.typeIs (by decide) ?_)
  refine wpAny_bind (wpAny_callSpecial?_slot (name := Str.ofString "__setitem__") D'.typeIs slot_dict_setitem
    (wpAny_call_entry slot_dict_setitem D'.typeIs entry_dict_setitem ?_ (args_dict_setitem _ _ _)))
  show wpAny _ _ (Builtin.Dict.notOrdered "__setitem__" ⟨[.ref d, u, v], []⟩ >>= _) _ _ s
  refine wpAny_bind (wpAny_notOrdered_dict D'.typeIs ?_)
  show wpAny _ _ (dictSet d u v >>= _) _ _ s
  exact wpAny_bind (set_raw D' hk hs (by show A.units + 1 + 8 < cLine; omega) hz fun h' t r sb => wpAny_pure ⟨.none, rfl, wpAny_pure (q h' t r sb)⟩)
theorem setDefault_raw {Q : Value → Shared → Prop} {x : Value} (D' : DH w s.heap d ks es) (hk : KV s.heap k u) (hs : ∀ a ∈ ks, D.isTup a = D.isTup k) (hu : A.units + 8 < cLine) (hz : es.length ≤ sizeLine)
    (q1 : ∀ v t, entGet (kix k ks) es = some v → Q v { s with toks := t })
    (q2 : entGet (kix k ks) es = none → ∀ h' t, RawAt h' d (es ++ [⟨(nk k).hash w, u, x⟩]) → Heap.SameBut d s.heap h' → Q x { s with heap := h', toks := t }) :
    wpAny (model P w) A (dictSetDefault d u x) Q E s := by
  obtain ⟨o, ep, ho, hx, hd⟩ := D'.raw
  unfold dictSetDefault
  try with_reducible refine wpAny_holding ?_
  refine wpAny_bind (hash_ok hk hu fun t => ?_)
  refine wpAny_bind (find_ok (s := { s with toks := t }) (D'.toks t) hk hs hu ?_)
  cases hi : kix k ks with
  | none =>
    refine wpAny_bind (wpAny_rule (wpAny_bind (wpAny_updateDictKeys (hz := by simpa using hz) (s := { s with toks := t }) ho hd (wpAny_pure (q2 (by rw [hi]; rfl) _ t ⟨_, ep + 1, Heap.get?_update_self _ ho (Obj.isFreed_of_dict (Obj.data_mapDictKeys hd _)),
      hx.mapDictKeys _, ?_⟩ (Heap.SameBut.update ..))))))
    rw [Obj.data_mapDictKeys hd]
    simp
  | some i =>
    obtain ⟨⟨a, a1, _⟩, _⟩ := kix_some hi
    obtain ⟨e, e1, _⟩ := Paired.get D'.ent a1
    refine wpAny_bind (wpAny_dictEntries (s := { s with toks := t }) ho hd ?_)
    have e2 : es.toArray[i]? = some e := by simpa using e1
    rw [e2]
    exact wpAny_bind (wpAny_rule (wpAny_pure (q1 e.val t (by rw [hi]; show (es[i]?).map (·.val) = _; rw [e1]; rfl))))
theorem setdefault_raw {Q : Value → Shared → Prop} {x : Value} (D' : DH w s.heap d ks es) (hk : KV s.heap k u) (hs : ∀ a ∈ ks, D.isTup a = D.isTup k) (hu : A.units + 10 < cLine) (hz : es.length ≤ sizeLine) (hsys : (d == sysModules) = false)
    (q1 : ∀ v t, entGet (kix k ks) es = some v → Q v { s with toks := t })
    (q2 : entGet (kix k ks) es = none → ∀ h' t, RawAt h' d (es ++ [⟨(nk k).hash w, u, x⟩]) → Heap.SameBut d s.heap h' → Q x { s with heap := h', toks := t }) :
    wpAny (model P w) A (call (.builtin "dict.setdefault") [.ref d, u, x]) Q E s := by
  refine call_meetsIn F.slot_dict_setdefault D'.typeIs F.entry_dict_setdefault (F.args_dict_setdefault_3 _ _ _)
    (S := fun A' R s' => A'.units + 9 < cLine ∧ s' = s ∧ (∀ v t, entGet (kix k ks) es = some v → R (.ok (.ret v)) { s' with toks := t }) ∧
      (entGet (kix k ks) es = none → ∀ h' t, RawAt h' d (es ++ [⟨(nk k).hash w, u, x⟩]) → Heap.SameBut d s'.heap h' → R (.ok (.ret x)) { s' with heap := h', toks := t }))
    (.of_wp fun A' R s' ⟨hu', hh, h1, h2⟩ => ?_) ⟨by omega, rfl, fun v t e => q1 v t e, fun e h' t r sb => q2 e h' t r sb⟩
  subst hh
  unfold Builtin.«dict.setdefault»
  refine wpAny_bind ?_
  unfold Builtin.Dict.keyAndDefault
  refine wpAny_bind (wpAny_notOrdered_dict D'.typeIs ?_)
  show wpAny _ _ (pure (d, u, some x)) _ _ s'
  refine wpAny_pure ?_
  show wpAny _ _ (if (d == sysModules) = true then _ else (dictSetDefault d u x >>= _)) _ _ s'
  rw [if_neg (by rw [hsys]; exact Bool.false_ne_true)]
  exact wpAny_bind (setDefault_raw D' hk hs (by show A'.units + 1 + 8 < cLine; omega) hz (fun v t e => wpAny_pure ⟨v, rfl, h1 v t e⟩) fun e h' t r sb => wpAny_pure ⟨x, rfl, h2 e h' t r sb⟩)
end
end Mp
end
section
set_option Elab.async false
set_option linter.all false
set_option maxRecDepth 100000
set_option maxHeartbeats 4000000
set_option autoImplicit false
/-! MpDict3: dicts of the small Python over those of the model. -/
namespace Mp
open PySem PySem.Spec PyProof.Rows L2

/-! ### keys and values side by side -/
theorem kget_kix {k : D} (hk : D.key 8 k = true) : ∀ {ks vs : List D}, (∀ a ∈ ks, D.key 8 a = true) → ks.length = vs.length → kget k ks vs = (kix k ks).bind fun i => vs[i]?
  | [], [], _, _ => rfl
  | [], _ :: _, _, h => by simp at h
  | _ :: _, [], _, h => by simp at h
  | a :: as, v :: vs, h1, h2 => by
    simp only [kget, kix]
    rw [eqv_nk 8 a k (h1 a List.mem_cons_self) hk]
    by_cases e : nk a = nk k
    · simp [e]
    · simp only [e, decide_false, Bool.false_eq_true, if_false]
      rw [kget_kix hk (fun b hb => h1 b (List.mem_cons_of_mem _ hb)) (by simpa using h2)]
      cases kix k as <;> simp
theorem khas_kix {k : D} (hk : D.key 8 k = true) : ∀ {ks : List D}, (∀ a ∈ ks, D.key 8 a = true) → khas k ks = (kix k ks).isSome
  | [], _ => rfl
  | a :: as, h1 => by
    simp only [khas, kix]
    rw [eqv_nk 8 a k (h1 a List.mem_cons_self) hk, khas_kix hk fun b hb => h1 b (List.mem_cons_of_mem _ hb)]
    by_cases e : nk a = nk k
    · simp [e]
    · simp [e]
theorem kput_keys {k v : D} (hk : D.key 8 k = true) : ∀ {ks vs : List D}, (∀ a ∈ ks, D.key 8 a = true) → ks.length = vs.length → (kput k v ks vs).1 = (match kix k ks with | none => ks ++ [k] | some _ => ks)
  | [], [], _, _ => rfl
  | [], _ :: _, _, h => by simp at h
  | _ :: _, [], _, h => by simp at h
  | a :: as, u :: us, h1, h2 => by
    simp only [kput, kix]
    rw [eqv_nk 8 a k (h1 a List.mem_cons_self) hk]
    by_cases e : nk a = nk k
    · simp [e]
    · simp only [e, decide_false, Bool.false_eq_true, if_false]
      rw [kput_keys hk (fun b hb => h1 b (List.mem_cons_of_mem _ hb)) (by simpa using h2)]
      cases kix k as <;> simp
theorem keyOk_ok {ks : List D} {k : D} (h : keyOk ks k = true) (K' : KeysOk ks) : D.key 8 k = true ∧ ∀ a ∈ ks, D.isTup a = D.isTup k := by
  unfold keyOk at h
  rw [Bool.and_eq_true] at h
  refine ⟨h.1, fun a ha => ?_⟩
  cases ks with
  | nil => simp at ha
  | cons b bs =>
    have h2 : (D.isTup b == D.isTup k) = true := h.2
    rw [K'.2.1 a ha b List.mem_cons_self]
    exact eq_of_beq h2
theorem keysOk_put {ks : List D} {k : D} (K' : KeysOk ks) (hk : D.key 8 k = true) (hs : ∀ a ∈ ks, D.isTup a = D.isTup k) (hn : kix k ks = none) : KeysOk (ks ++ [k]) := by
  refine ⟨fun a ha => ?_, fun a ha b hb => ?_, ?_⟩
  · rcases List.mem_append.mp ha with z | z
    · exact K'.1 a z
    · simp only [List.mem_singleton] at z
      subst z
      exact hk
  · have one : ∀ c ∈ ks ++ [k], D.isTup c = D.isTup k := fun c hc => by
      rcases List.mem_append.mp hc with z | z
      · exact hs c z
      · simp only [List.mem_singleton] at z
        subst z
        rfl
    rw [one a ha, one b hb]
  · rw [List.map_append, List.nodup_append]
    refine ⟨K'.2.2, by simp, fun x hx y hy => ?_⟩
    simp only [List.map_cons, List.map_nil, List.mem_singleton] at hy
    subst hy
    obtain ⟨a, ha, rfl⟩ := List.mem_map.mp hx
    exact kix_none.mp hn a ha
section
variable {K : PySem.W.Frag} {w : World} {m : List Addr} {H : Hp}
theorem EntR.length : ∀ {ks vs : List D} {es : List DictEntry}, EntR K w m H ks vs es → ks.length = vs.length ∧ ks.length = es.length
  | [], vs, es, r => by
    simp only [EntR] at r
    rw [r.1, r.2]
    exact ⟨rfl, rfl⟩
  | k :: ks, vs, es, r => by
    simp only [EntR] at r
    obtain ⟨v, vr, e, er, rfl, rfl, _, _, _, z⟩ := r
    have q := EntR.length z
    exact ⟨by rw [List.length_cons, List.length_cons, q.1], by rw [List.length_cons, List.length_cons, q.2]⟩
theorem EntR.at : ∀ {ks vs : List D} {es : List DictEntry} {i : Nat} {v : D}, EntR K w m H ks vs es → vs[i]? = some v → ∃ e, es[i]? = some e ∧ ∃ y, RelV y e.val ∧ SRep K m H v y
  | [], vs, es, i, v, r, h => by
    simp only [EntR] at r
    rw [r.1] at h
    simp at h
  | k :: ks, vs, es, i, v, r, h => by
    simp only [EntR] at r
    obtain ⟨u, vr, e, er, rfl, rfl, _, q, _, z⟩ := r
    cases i with
    | zero =>
      simp at h
      subst h
      exact ⟨e, rfl, q⟩
    | succ i =>
      obtain ⟨e', h1, h2⟩ := EntR.at (i := i) z (by simpa using h)
      exact ⟨e', by simpa using h1, h2⟩
theorem EntR.key_at : ∀ {ks vs : List D} {es : List DictEntry} {i : Nat} {k : D}, EntR K w m H ks vs es → ks[i]? = some k → ∃ e, es[i]? = some e ∧ ∃ y, RelV y e.key ∧ SRep K m H k y
  | [], vs, es, i, k, r, h => by simp at h
  | k :: ks, vs, es, i, k', r, h => by
    simp only [EntR] at r
    obtain ⟨u, vr, e, er, rfl, rfl, q, _, _, z⟩ := r
    cases i with
    | zero =>
      simp at h
      subst h
      exact ⟨e, rfl, q⟩
    | succ i =>
      obtain ⟨e', h1, h2⟩ := EntR.key_at (i := i) z (by simpa using h)
      exact ⟨e', by simpa using h1, h2⟩
/-- what stands at a key -/
theorem EntR.got {k : D} (hk : D.key 8 k = true) {ks vs : List D} {es : List DictEntry} (hks : ∀ a ∈ ks, D.key 8 a = true) (r : EntR K w m H ks vs es) :
    (∀ v, kget k ks vs = some v → ∃ u y, entGet (kix k ks) es = some u ∧ RelV y u ∧ SRep K m H v y) ∧ (kget k ks vs = none → entGet (kix k ks) es = none) ∧ (entGet (kix k ks) es).isSome = khas k ks := by
  have l := EntR.length r
  rw [kget_kix hk hks l.1, khas_kix hk hks]
  cases hi : kix k ks with
  | none => exact ⟨fun v h => by simp at h, fun _ => rfl, rfl⟩
  | some i =>
    obtain ⟨⟨a, a1, _⟩, _⟩ := kix_some hi
    have hlt : i < ks.length := (List.getElem?_eq_some_iff.mp a1).1
    refine ⟨fun v h => ?_, fun h => ?_, ?_⟩
    · have h : vs[i]? = some v := h
      obtain ⟨e, e1, y, y1, y2⟩ := EntR.at r h
      exact ⟨e.val, y, by show (es[i]?).map (·.val) = _; rw [e1]; rfl, y1, y2⟩
    · have h : vs[i]? = none := h
      rw [List.getElem?_eq_none_iff] at h
      omega
    · show ((es[i]?).map (·.val)).isSome = true
      rw [List.getElem?_eq_getElem (by omega)]
      rfl
theorem EntR.put {k v : D} {kx vx : V} {ku vu : Value} (hk : D.key 8 k = true) (rk : RelV kx ku) (sk : SRep K m H k kx) (rv : RelV vx vu) (sv : SRep K m H v vx) :
    ∀ {ks vs : List D} {es : List DictEntry}, (∀ a ∈ ks, D.key 8 a = true) → EntR K w m H ks vs es → EntR K w m H (kput k v ks vs).1 (kput k v ks vs).2 (entPut (kix k ks) ⟨(nk k).hash w, ku, vu⟩ es)
  | [], vs, es, _, r => by
    simp only [EntR] at r
    obtain ⟨rfl, rfl⟩ := r
    simp only [kput, kix, entPut, List.nil_append, EntR]
    exact ⟨v, [], _, [], rfl, rfl, ⟨kx, rk, sk⟩, ⟨vx, rv, sv⟩, rfl, rfl, rfl⟩
  | a :: as, vs, es, h1, r => by
    simp only [EntR] at r
    obtain ⟨u, ur, e, er, rfl, rfl, q1, q2, q3, z⟩ := r
    simp only [kput, kix]
    rw [eqv_nk 8 a k (h1 a List.mem_cons_self) hk]
    by_cases ee : nk a = nk k
    · simp only [ee, decide_true, if_true, entPut, List.modify_zero_cons, EntR]
      exact ⟨v, ur, _, er, rfl, rfl, q1, ⟨vx, rv, sv⟩, by rw [← ee]; exact q3, z⟩
    · simp only [ee, decide_false, Bool.false_eq_true, if_false]
      have ih := EntR.put hk rk sk rv sv (fun b hb => h1 b (List.mem_cons_of_mem _ hb)) z
      cases hi : kix k as with
      | none =>
        rw [hi] at ih
        simp only [Option.map_none, entPut, List.cons_append, EntR] at ih ⊢
        exact ⟨u, _, e, _, rfl, rfl, q1, q2, q3, ih⟩
      | some i =>
        rw [hi] at ih
        simp only [Option.map_some, entPut, List.modify_succ_cons, EntR] at ih ⊢
        exact ⟨u, _, e, _, rfl, rfl, q1, q2, q3, ih⟩
theorem kput_len {k v : D} : ∀ (ks vs : List D), (kput k v ks vs).1.length ≤ ks.length + 1
  | [], vs => by cases vs <;> simp [kput]
  | _ :: _, [] => by simp [kput]
  | a :: as, u :: us => by
    simp only [kput]
    split
    · simp
    · have := kput_len (k := k) (v := v) as us
      simp only [List.length_cons]
      omega
theorem keysOk_kput {k v : D} {ks vs : List D} (K' : KeysOk ks) (hl : ks.length = vs.length) (hk : D.key 8 k = true) (hs : ∀ a ∈ ks, D.isTup a = D.isTup k) : KeysOk (kput k v ks vs).1 := by
  rw [kput_keys hk K'.1 hl]
  cases hi : kix k ks with
  | none => exact keysOk_put K' hk hs hi
  | some i => exact K'
end
/-! ### over a state -/
section
variable {X : Cx} {pins : List (Addr × Obj)} {σ : St} {H : Hp} {s : Shared} {m : List Addr} {h : Hd} {d : Addr} {ks vs : List D}
theorem DicR.dh (I : Inv X pins σ H s) {es : List DictEntry} (e : H d = some (.ext (DRaw d es))) (K' : KeysOk ks) (r : EntR X.K X.w m H ks vs es) : DH X.w s.heap d ks es := by
  have q : ObjOk X.prog X.w H s.heap d (.ext (DRaw d es)) := I.hok d _ e
  refine ⟨q.1, ?_, K'⟩
  have go : ∀ (ks vs : List D) (es : List DictEntry), (∀ a ∈ ks, D.key 8 a = true) → EntR X.K X.w m H ks vs es → Ents X.w s.heap ks es := by
    intro ks
    induction ks with
    | nil =>
      intro vs es _ r
      simp only [EntR] at r
      rw [r.2]
      exact .nil
    | cons k ks ih =>
      intro vs es hk r
      simp only [EntR] at r
      obtain ⟨v, vr, e, er, rfl, rfl, ⟨x, x1, x2⟩, _, hh, z⟩ := r
      exact .cons ⟨kv_of I (hk k List.mem_cons_self) x2 x1, hh⟩ (ih vr er (fun a ha => hk a (List.mem_cons_of_mem _ ha)) z)
  exact go ks vs es K'.1 r
/-- a dict's new entries -/
theorem DicR.wrote {es es' : List DictEntry} {h' : Heap} {t' : Nat} (I : Inv X pins σ H s) (e : H d = some (.ext (DRaw d es))) (r : RawAt h' d es') (sb : Heap.SameBut d s.heap h') :
    Inv X pins σ (upd H d (.ext (DRaw d es'))) { s with heap := h', toks := t' } := by
  refine I.write (x := d) (e := d) (by rw [e]; exact True.intro) (.inl rfl) (fun b q hb z => (sb.2 b hb).trans z) ?_ ?_
  · obtain ⟨o, _, ho, _⟩ := r
    exact ⟨o, ho⟩
  · refine ⟨r, ?_, fun h1 h2 q k => ?_⟩
    · obtain ⟨o, _, ho, _⟩ := r
      exact ⟨o, ho⟩
    · obtain ⟨o, ep, ho, hx⟩ := q
      exact ⟨o, ep, k o ho, hx⟩
/-- a new empty dict -/
theorem new_dict {t' : Nat} (I : Inv X pins σ H s) : Inv X pins σ (upd H s.heap.objs.size (.ext (DRaw s.heap.objs.size []))) { s with heap := s.heap.push { cls := .type "dict", data := .dict #[] }, toks := t' } := by
  have r : RawAt (s.heap.push { cls := .type "dict", data := .dict #[] }) s.heap.objs.size [] := ⟨_, 0, Heap.get?_push_size _ rfl, ⟨rfl, rfl, rfl⟩, rfl⟩
  refine I.laid (fun b o e => Heap.get?_push_of_some _ e) (Nat.le_refl _) ⟨r, ?_, fun h1 h2 q k => ?_⟩
  · obtain ⟨o, _, ho, _⟩ := r
    exact ⟨o, ho⟩
  · obtain ⟨o, ep, ho, hx⟩ := q
    exact ⟨o, ep, k o ho, hx⟩
theorem new_sys (I : Inv X pins σ H s) : (s.heap.objs.size == sysModules) = false := beq_eq_false_iff_ne.mpr (Nat.ne_of_gt I.big)
theorem dicOf_ok {K : PySem.W.Frag} {w : World} (S : Sim K w m H h) {x : D} {v : V} (e : dicOf h x = some (ks, vs)) (r : Rep K w m H x v) : ∃ a, v = .ref a ∧ DicR K w m H a ks vs := by
  cases x with
  | td as bs =>
    cases e
    obtain ⟨a, e1, _, q⟩ := r
    exact ⟨a, e1, q⟩
  | ref n =>
    obtain ⟨a, q, e1⟩ := rep_ref r
    simp only [dicOf] at e
    cases hn : h[n]? with
    | none => rw [hn] at e; cases e
    | some o =>
      rw [hn] at e
      cases o with
      | lst ys => cases e
      | dic as bs =>
        cases e
        exact ⟨a, e1, S.ob n _ a hn q⟩
  | _ => cases e
theorem key_solid {d : D} {v : V} {K : PySem.W.Frag} {w : World} (hk : D.key 8 d = true) (r : Rep K w m H d v) : SRep K m H d v := by
  cases d with
  | tl xs => simp [D.key] at hk
  | td ks vs => simp [D.key] at hk
  | _ => exact r
end
/-! ### operations -/
section
variable {X : Cx}
/-- x in d -/
theorem in_dic_ok (hu : X.A.units + 65 < cLine) {m : List Addr} {h : Hd} {a b : D} {ks vs : List D} {pins : List (Addr × Obj)} {s : Shared} {σ : St} {H : Hp} {x y : V} {v u : Value} {Q : VK} (I : Inv X pins σ H s) (rx : RelV x v) (ry : RelV y u)
    (S : Sim X.K X.w m H h) (ra : Rep X.K X.w m H a x) (rb : Rep X.K X.w m H b y) (e : dicOf h b = some (ks, vs)) (ok : keyOk ks a = true) :
    (Q (.bl (khas a ks)) H → wpAny (model X.prog X.w) X.A (compareOp .In v u) (EP X pins σ Q) X.xe s) ∧ (Q (.bl (!khas a ks)) H → wpAny (model X.prog X.w) X.A (compareOp .NotIn v u) (EP X pins σ Q) X.xe s) := by
  obtain ⟨d, rfl, es, e1, sys, _, K', r⟩ := dicOf_ok S e rb
  cases ry
  have D' := DicR.dh I e1 K' r
  obtain ⟨hk, hs⟩ := keyOk_ok ok K'
  have kv := kv_of I hk (key_solid hk ra) rx
  have g := EntR.got hk K'.1 r
  refine ⟨fun q => in_raw D' kv hs (by omega) sys fun t => ⟨.bl _, H, I.tok t, rfl, ?_⟩, fun q => notIn_raw D' kv hs (by omega) sys fun t => ⟨.bl _, H, I.tok t, rfl, ?_⟩⟩
  · rw [g.2.2]; exact q
  · rw [g.2.2]; exact q
/-- d[x] -/
theorem ix_dic_ok (hu : X.A.units + 65 < cLine) {m : List Addr} {h : Hd} {a b c : D} {ks vs : List D} {pins : List (Addr × Obj)} {s : Shared} {σ : St} {H : Hp} {x y : V} {v u : Value} {Q : VK} (I : Inv X pins σ H s) (rx : RelV x v) (ry : RelV y u)
    (S : Sim X.K X.w m H h) (ra : Rep X.K X.w m H a x) (rb : Rep X.K X.w m H b y) (e : dicOf h a = some (ks, vs)) (ok : keyOk ks b = true) (hg : kget b ks vs = some c) (q : ∀ z, SRep X.K m H c z → Q z H) :
    wpAny (model X.prog X.w) X.A (getItem v u) (EP X pins σ Q) X.xe s := by
  obtain ⟨d, rfl, es, e1, sys, _, K', r⟩ := dicOf_ok S e ra
  cases rx
  have D' := DicR.dh I e1 K' r
  obtain ⟨hk, hs⟩ := keyOk_ok ok K'
  have kv := kv_of I hk (key_solid hk rb) ry
  obtain ⟨u', z, g1, g2, g3⟩ := (EntR.got hk K'.1 r).1 c hg
  exact getItem_raw D' kv hs (by omega) g1 fun t => ⟨z, H, I.tok t, g2, q z g3⟩
end
end Mp
end
section
set_option Elab.async false
set_option linter.all false
set_option maxRecDepth 100000
set_option maxHeartbeats 4000000
set_option autoImplicit false
/-! MpOps5: membership, subscripts, slices, truth, isinstance as whole operations. -/
namespace Mp
open PySem PySem.Spec PyProof.Rows L2
section
variable {X : Cx} {xr : XR} {W : WX}
theorem dic_no_str {h : Hd} {d : D} {p : List D × List D} (e : dicOf h d = some p) : ∀ s, d ≠ .str s := fun s z => by subst z; cases e
/-- in, not in -/
theorem in_ok (hu : X.A.units + 65 < cLine) {m : List Addr} {h : Hd} {a b : D} {k : Bool} {pins : List (Addr × Obj)} {s : Shared} {σ : St} {H : Hp} {x y : V} {v u : Value} {Q : VK} (I : Inv X pins σ H s) (rx : RelV x v) (ry : RelV y u)
    (S : Sim X.K X.w m H h) (ra : Rep X.K X.w m H a x) (rb : Rep X.K X.w m H b y) (e : inO h a b = some k) :
    (Q (.bl k) H → wpAny (model X.prog X.w) X.A (compareOp .In v u) (EP X pins σ Q) X.xe s) ∧ (Q (.bl (!k)) H → wpAny (model X.prog X.w) X.A (compareOp .NotIn v u) (EP X pins σ Q) X.xe s) := by
  unfold inO at e
  cases e1 : dicOf h b with
  | some p =>
    obtain ⟨ks, vs⟩ := p
    rw [e1] at e
    simp only at e
    split at e
    · rename_i ok
      cases e
      exact in_dic_ok hu I rx ry S ra rb e1 ok
    · cases e
  | none =>
    rw [e1] at e
    simp only at e
    cases b with
    | str t =>
      simp only at e
      unfold inT at e
      split at e
      · rename_i c
        cases e
        exact in_str_ok I rx ry (rep_str ra).1 (rep_str rb).1
      · cases e
    | _ => exact in_seq_ok hu I rx ry S ra rb e
theorem cmp_in (hu : X.A.units + 65 < cLine) : OpR X (compareOp .In) (rc X.K X.w fun h => cmpO h .inn) := by
  intro pins s σ H x y v u Q I rx ry ⟨m, h, a, b, k, S, ra, rb, e, q⟩
  exact (in_ok hu I rx ry S ra rb e).1 q
theorem cmp_nin (hu : X.A.units + 65 < cLine) : OpR X (compareOp .NotIn) (rc X.K X.w fun h => cmpO h .nin) := by
  intro pins s σ H x y v u Q I rx ry ⟨m, h, a, b, k, S, ra, rb, e, q⟩
  simp only [cmpO] at e
  cases e1 : inO h a b with
  | none => rw [e1] at e; cases e
  | some c =>
    rw [e1] at e
    cases e
    exact (in_ok hu I rx ry S ra rb e1).2 q
/-- a subscript's reading -/
def rv2 (K : PySem.W.Frag) (w : World) (f : Hd → D → D → Option D) : R2 := fun x y H Q => ∃ (m : List Addr) (h : Hd) (a b d : D), Sim K w m H h ∧ Rep K w m H a x ∧ Rep K w m H b y ∧ f h a b = some d ∧ ∀ z, SRep K m H d z → Q z H
theorem ix_ok (hu : X.A.units + 65 < cLine) : IxR X (rv2 X.K X.w ixO) := by
  intro value slice pins s σ H x y v u Q I rx ry ⟨m, h, a, b, d, S, ra, rb, e, q⟩ hs
  unfold ixO at e
  cases e1 : dicOf h a with
  | some p =>
    obtain ⟨ks, vs⟩ := p
    rw [e1] at e
    simp only at e
    split at e
    · rename_i ok
      obtain ⟨p, ex, es, e2, sys, _, K', r⟩ := dicOf_ok S e1 ra
      have tv : s.TypeIs v "dict" := by
        subst ex
        cases rx
        exact (DicR.dh I e2 K' r).typeIs
      exact tail_any tv PySem.F.slot_dict_getitem.lookup (ix_dic_ok hu I rx ry S ra rb e1 ok e q) hs
    · cases e
  | none =>
    rw [e1] at e
    obtain ⟨z, rz, hq⟩ := ixS_ok S ra rb e
    exact ix_seq value slice pins s σ H x y v u Q I rx ry (hq Q (q z rz)) hs
/-- a slice's reading -/
def rsl (K : PySem.W.Frag) (w : World) (xr : XR) (W : WX) : V → Option Int → Option Int → Hp → VK → Prop := fun x lo hi H Q => ∃ (σ : St) (m : List Addr) (h : Hd) (a : D), Sim K w m H h ∧ Rep K w m H a x ∧ Post K w xr (RepB K w) W m H σ (R.get (slcO h a lo hi) h) Q
end
end Mp
end
section
set_option Elab.async false
set_option linter.all false
set_option maxRecDepth 100000
set_option maxHeartbeats 4000000
set_option autoImplicit false
/-! MpOps6: slices, truth, len, isinstance. -/
namespace Mp
open PySem PySem.Spec PyProof.Rows L2
section
variable {X : Cx} {xr : XR} {W : WX}
theorem okS_mem {s : List Nat} : okS s = true ↔ ∀ c ∈ s, c < 1114112 := by
  unfold okS
  rw [List.all_eq_true]
  constructor
  · intro h c hc
    exact Nat.blt_eq.mp (h c hc)
  · intro h c hc
    exact Nat.blt_eq.mpr (h c hc)
theorem okS_cut {s : List Nat} (h : okS s = true) (lo hi : Option Int) : okS (cut s lo hi) = true := by
  rw [okS_mem] at *
  intro c hc
  exact h c (List.mem_of_mem_drop (List.mem_of_mem_take hc))
theorem cut_str (t : List Nat) (lo hi : Option Int) : cutS ⟨t.toArray⟩ lo hi = ⟨(cut t lo hi).toArray⟩ := by
  unfold cutS cut
  rw [clip_same _ _ lo (Nat.zero_le _), clip_same _ _ hi (Nat.le_refl _)]
  rfl
theorem cut_whole (xs : List V) (lo hi : Option Int) (h : HT.sIx xs.length 0 lo = 0 ∧ HT.sIx xs.length xs.length hi = xs.length) : cutV xs lo hi = xs := by
  unfold cutV
  rw [h.1, h.2]
  simp
theorem sl_ok : SlR X (rsl X.K X.w xr W) := by
  intro pins s σ H x v vl vu lo hi sl Q I rx hs pl pu ⟨σ0, m, h, a, S, ra, p⟩
  have lists : ∀ xs, lstOf h a = some xs → Post X.K X.w xr (RepB X.K X.w) W m H σ0 (.ok (.tl (cut xs lo hi)) h) Q → ∃ T id, typeLookup (.type T) "__getitem__" = pure (some (.builtin id)) ∧ s.TypeIs v T ∧ wpAny (model X.prog X.w) X.A (getItem v (.ref sl)) (EP X pins σ Q) X.xe s := by
    intro xs e p
    obtain ⟨b, vs, ex, q, z⟩ := lstOf_ok S e ra
    exact sl_list pins s σ H x v vl vu lo hi sl Q I rx hs pl pu ⟨b, vs, ex, q, fun np hp => p _ _ m (Nx.new S hp) (rep_tl S hp (z.cut lo hi))⟩
  cases a with
  | str t =>
    simp only [slcO] at p
    split at p
    · rename_i hl
      obtain ⟨ex, ok⟩ := rep_str ra
      refine sl_str pins s σ H x v vl vu lo hi sl Q I rx hs pl pu ⟨_, ex, ?_, ?_⟩
      · show t.toArray.size ≤ sizeLine
        rw [← lim_eq]
        simpa using hl
      · rw [cut_str]
        exact Post.ok S (mk_str (okS_cut ok lo hi)) p
    · exact p.elim
  | tup xs =>
    simp only [slcO] at p
    obtain ⟨b, vs, ex, q, z⟩ := rep_tupn ra
    subst ex
    cases rx
    obtain ⟨its, r, ht, hz⟩ := I.tuple q.sq
    have hlen : its.toArray.size = vs.length := by rw [List.size_toArray]; exact r.length.symm
    refine ⟨"tuple", _, PyProof.Rows.slot_tuple_getitem.lookup, ht.typeIs, ?_⟩
    by_cases hw : HT.sIx vs.length 0 lo = 0 ∧ HT.sIx vs.length vs.length hi = vs.length
    · refine getItem_tuple_whole ht hs pl pu (by rw [hlen]; exact hw) ⟨.ref b, H, I, rfl, ?_⟩
      refine Post.ok S (mk_tup q ?_) p
      have c := z.cut lo hi
      rw [cut_whole vs lo hi hw] at c
      exact c
    · refine HT.getItem_tuple_cut ht hs pl pu (by rw [hlen]; exact hw) ?_ (by rw [hlen]; exact hz)
      rw [hlen]
      have hn : H s.heap.objs.size = none := I.hok.fresh (Nat.le_refl _)
      exact ⟨.ref s.heap.objs.size, _, lay_tup (t' := s.toks) I ((r.drop (HT.sIx vs.length 0 lo)).take (HT.sIx vs.length vs.length hi - HT.sIx vs.length 0 lo)) (Nat.le_trans (cutV_length vs lo hi) hz), rfl, p _ _ m (Nx.new S hn) (rep_tupN _ hn (z.cut lo hi))⟩
  | lck xs => exact lists xs rfl p
  | tl xs => exact lists xs rfl p
  | ref n =>
    simp only [slcO] at p
    cases e : lstOf h (.ref n) with
    | none => rw [e] at p; exact p.elim
    | some xs =>
      rw [e] at p
      exact lists xs e p
  | _ => exact p.elim
/-! ### dicts: len, truth -/
theorem len_body_raw {d : Addr} {es : Array DictEntry} {ep : Nat} {s : Shared} {A : Around} {E : Value → Shared → Prop} {prog : Program} {w : World} {Q : Value → Shared → Prop} (hd : (d == sysModules) = false) (hm : s.heap.DictRaw d es ep) (ht : s.TypeIs (.ref d) "dict") (hfit : (es.size : Int) < 2 ^ 63)
    (h : Q (.int es.size (s.toks + 1)) { s with toks := s.toks + 1 + 1 }) : wpAny (model prog w) A (Builtin.«len» ⟨[.ref d], []⟩) (fun fin s' => ∃ r, fin = .done (.ret r) ∧ Q r s') E s := by
  unfold Builtin.«len»
  refine wpAny_bind (m := oneArg "len" _) (wpAny_pure ?_)
  refine wpAny_bind (m := callSpecial? (.ref d) (Str.ofString "__len__")) (wpAny_callSpecial?_slot (name := Str.ofString "__len__") ht F.slot_dict_len
    (call_len_raw hd hm ?_))
  show wpAny _ _ _ _ _ { s with toks := s.toks + 1 }
  refine wpAny_bind (wpAny_holding (wpAny_pure ?_))
  refine wpAny_bind (wpAny_letGo ?_)
  show wpAny _ _ (if ((es.size : Nat) : Int) < 0 then _ else _) _ _ _
  rw [if_neg (by omega)]
  show wpAny _ _ (if ((es.size : Nat) : Int) ≥ 2 ^ 63 then _ else _) _ _ _
  rw [if_neg (by omega)]
  exact wpAny_bind (wpAny_mkInt (wpAny_pure ⟨_, rfl, h⟩))
theorem call_len_dic {d : Addr} {es : Array DictEntry} {ep : Nat} {s : Shared} {A : Around} {E : Value → Shared → Prop} {prog : Program} {w : World} {Q : Value → Shared → Prop} (hd : (d == sysModules) = false) (hm : s.heap.DictRaw d es ep) (ht : s.TypeIs (.ref d) "dict") (hfit : (es.size : Int) < 2 ^ 63)
    (h : Q (.int es.size (s.toks + 1)) { s with toks := s.toks + 1 + 1 }) : wpAny (model prog w) A (call (.builtin "len") [.ref d]) Q E s :=
  Calls.call_function_entry kind_len plain_len entry_len (args_len1 _) (len_body_raw hd hm ht hfit h)
theorem truthy_dic {d : Addr} {es : Array DictEntry} {ep : Nat} {s : Shared} {A : Around} {E : Value → Shared → Prop} {prog : Program} {w : World} {Q : Bool → Shared → Prop} (hd : (d == sysModules) = false) (hm : s.heap.DictRaw d es ep) (ht : s.TypeIs (.ref d) "dict") (hfit : (es.size : Int) < 2 ^ 63)
    (h : Q (!es.toList.isEmpty) { s with toks := s.toks + 1 + 1 }) : wpAny (model prog w) A (truthy (.ref d)) Q E s := by
  have hne : ((es.size : Int) != 0) = !es.toList.isEmpty := by
    obtain ⟨l⟩ := es
    cases l <;> simp <;> omega
  have key : wpAny (model prog w) A (runValue (.builtin "len" ⟨[.ref d], []⟩)) (fun r s' => r = .int es.size (s.toks + 1) ∧ Q (!es.toList.isEmpty) s') E s := by
    refine wpAny_runValue (codeAny_builtin entry_len ?_)
    rw [Around.under_plainId plain_len _]
    exact wpAny_mono (len_body_raw (Q := fun r s' => r = .int es.size (s.toks + 1) ∧ Q (!es.toList.isEmpty) s') hd hm ht hfit ⟨rfl, h⟩)
      (fun fin s' h' => by obtain ⟨r, rfl, hq⟩ := h'; exact hq) fun _ _ e => e
  unfold truthy
  refine wpAny_bind (wpAny_callSpecial?_none (name := Str.ofString "__bool__") ht noBool_dict ?_)
  refine wpAny_bind (wpAny_specialOf (name := Str.ofString "__len__") ht F.slot_dict_len.lookup ?_)
  exact wpAny_bind (wpAny_mono key (fun r s' h' => by obtain ⟨rfl, hq⟩ := h'; exact wpAny_pure (hne ▸ hq)) fun _ _ e => e)
end
end Mp
end
section
set_option Elab.async false
set_option linter.all false
set_option maxRecDepth 100000
set_option maxHeartbeats 4000000
set_option autoImplicit false
/-! MpOps7: truth, isinstance, built-ins of one thing. -/
namespace Mp
open PySem PySem.Spec PyProof.Rows L2
section
variable {X : Cx} {xr : XR} {W : WX}
theorem SReps.isEmpty {K : PySem.W.Frag} {m : List Addr} {H : Hp} {xs : List D} {vs : List V} (r : SReps K m H xs vs) : xs.isEmpty = vs.isEmpty := by
  have e := r.length
  cases xs <;> cases vs <;> simp_all
theorem DicR.raw {pins : List (Addr × Obj)} {σ : St} {H : Hp} {s : Shared} {m : List Addr} {a : Addr} {ks vs : List D} (I : Inv X pins σ H s) (r : DicR X.K X.w m H a ks vs) :
    ∃ (es : List DictEntry) (ep : Nat), s.heap.DictRaw a es.toArray ep ∧ s.TypeIs (.ref a) "dict" ∧ (a == sysModules) = false ∧ es.length = ks.length ∧ ks.length ≤ lim := by
  obtain ⟨es, e, sys, hl, K', r⟩ := r
  have D' := DicR.dh I e K' r
  obtain ⟨o, ep, h1, h2, h3⟩ := D'.raw
  exact ⟨es, ep, ⟨o, h1, h2, h3⟩, D'.typeIs, sys, (EntR.length r).2.symm, hl⟩
/-- a thing's truth -/
def rt (K : PySem.W.Frag) (w : World) : V → Hp → (Bool → Hp → Prop) → Prop := fun x H Q => ∃ (m : List Addr) (h : Hd) (a : D) (k : Bool), Sim K w m H h ∧ Rep K w m H a x ∧ truth h a = some k ∧ Q k H
theorem tru_all : TruR X (rt X.K X.w) := by
  intro pins s σ H x v Q I rx ⟨m, h, a, k, S, ra, e, q⟩
  have hz : lim = 16777216 := rfl
  have lists : ∀ (p : Addr) (ys : List V), x = .ref p → (SqL X.K H p ys ∨ SqT X.K H p ys) → k = !ys.isEmpty → wpAny (model X.prog X.w) X.A (truthy v) (TP X pins σ Q) X.xe s := by
    intro p ys ex h1 h2
    subst ex
    refine tru_ok pins s σ H _ v Q I rx ⟨k, ?_, q⟩
    rcases h1 with h1 | h1
    · exact .inl ⟨ys, h1, h2⟩
    · exact .inr (.inl ⟨ys, h1, h2⟩)
  have dics : ∀ (p : Addr) (ks vs : List D), x = .ref p → DicR X.K X.w m H p ks vs → k = !ks.isEmpty → wpAny (model X.prog X.w) X.A (truthy v) (TP X pins σ Q) X.xe s := by
    intro p ks vs ex r ek
    subst ex
    cases rx
    obtain ⟨es, ep, h1, h2, h3, h4, h5⟩ := DicR.raw I r
    refine truthy_dic h3 h1 h2 (by rw [List.size_toArray]; omega) ⟨H, I.tok _, ?_⟩
    have e2 : es.isEmpty = ks.isEmpty := by cases es <;> cases ks <;> simp_all
    show Q (!es.isEmpty) H
    rw [e2, ← ek]
    exact q
  cases a with
  | non =>
    have ex := rep_non ra
    subst ex
    cases e
    exact tru_ok pins s σ H _ v Q I rx ⟨_, rfl, q⟩
  | bl b =>
    have ex := rep_bl ra
    subst ex
    cases e
    exact tru_ok pins s σ H _ v Q I rx ⟨_, rfl, q⟩
  | int i =>
    have ex := rep_int ra
    subst ex
    refine tru_ok pins s σ H _ v Q I rx ⟨k, ?_, q⟩
    cases e
    show decide (i ≠ 0) = (i != 0)
    by_cases hi : i = 0 <;> simp [hi]
  | str t =>
    obtain ⟨ex, _⟩ := rep_str ra
    subst ex
    simp only [truth] at e
    split at e
    · rename_i hl
      cases e
      refine tru_ok pins s σ H _ v Q I rx ⟨_, ⟨?_, ?_⟩, q⟩
      · show t.toArray.size ≤ sizeLine
        rw [← lim_eq]; simpa using hl
      · show (!t.isEmpty) = ((t.toArray.size : Int) != 0)
        cases t <;> simp <;> omega
    · cases e
  | tup xs =>
    obtain ⟨p, vs, ex, q1, z⟩ := rep_tup ra
    cases e
    exact lists p vs ex (.inr q1) (by rw [z.isEmpty])
  | lck xs =>
    obtain ⟨p, vs, ex, q1, z⟩ := rep_lck ra
    cases e
    exact lists p vs ex (.inl q1.seq) (by rw [z.isEmpty])
  | tl xs =>
    obtain ⟨p, vs, ex, _, q1, z⟩ := ra
    cases e
    exact lists p vs ex (.inl (.inl (.inl q1))) (by rw [z.isEmpty])
  | td ks vs =>
    obtain ⟨p, ex, _, r⟩ := ra
    cases e
    exact dics p ks vs ex r rfl
  | ref n =>
    obtain ⟨p, hp, ex⟩ := rep_ref ra
    simp only [truth] at e
    cases hn : h[n]? with
    | none => rw [hn] at e; cases e
    | some o =>
      have ob := S.ob n o p hn hp
      rw [hn] at e
      cases o with
      | lst xs =>
        cases e
        obtain ⟨vs, q1, z⟩ := ob
        exact lists p vs ex (.inl (.inl (.inl q1))) (by rw [z.isEmpty])
      | dic ks vs =>
        cases e
        exact dics p ks vs ex ob rfl
  | exn _ _ => cases e
/-! ### isinstance -/
def tyN : Ty → String
  | .str => "str" | .int => "int" | .bool => "bool" | .tuple => "tuple" | .list => "list" | .dict => "dict"
theorem isi_ok {m : List Addr} {h : Hd} {a : D} {t : Ty} {k : Bool} {pins : List (Addr × Obj)} {s : Shared} {σ : St} {H : Hp} {x : V} {v : Value} {Q : VK} (I : Inv X pins σ H s) (rx : RelV x v)
    (S : Sim X.K X.w m H h) (ra : Rep X.K X.w m H a x) (e : isTy h a t = some k) (q : Q (.bl k) H) : wpAny (model X.prog X.w) X.A (call (.builtin "isinstance") [v, .type (tyN t)]) (EP X pins σ Q) X.xe s := by
  have fin : ∀ (n : String), TyX X.K H x (.type n) → kitB n (tyN t) = some k → wpAny (model X.prog X.w) X.A (call (.builtin "isinstance") [v, .type (tyN t)]) (EP X pins σ Q) X.xe s := by
    intro n ty e
    exact call_isi pins s σ H [x, .ty (tyN t)] _ Q I (.cons rx (.cons rfl .nil)) ⟨x, .ty (tyN t), .type n, .type (tyN t), k, rfl, .ty _, ty, kit_ty e, q⟩
  have lists : ∀ (p : Addr) (ys : List V), x = .ref p → SqL X.K H p ys → k = (t == .list) → wpAny (model X.prog X.w) X.A (call (.builtin "isinstance") [v, .type (tyN t)]) (EP X pins σ Q) X.xe s := by
    intro p ys ex h1 h2
    subst ex
    have ek : kitB "list" (tyN t) = some k := by subst h2; cases t <;> decide +kernel
    rcases h1 with (h1 | ⟨o, h1⟩) | ⟨o, its, n, h1, h3, _⟩
    · exact fin "list" (.base (.lst h1)) ek
    · exact fin "list" (.base (.frz h1)) ek
    · exact fin "list" (.kList h1 h3) ek
  have dics : ∀ (p : Addr) (ks vs : List D), x = .ref p → DicR X.K X.w m H p ks vs → k = (t == .dict) → wpAny (model X.prog X.w) X.A (call (.builtin "isinstance") [v, .type (tyN t)]) (EP X pins σ Q) X.xe s := by
    intro p ks vs ex r ek
    subst ex
    cases rx
    obtain ⟨es, ep, ⟨o, h1, h2, h3⟩, _⟩ := DicR.raw I r
    have ek : kitB "dict" (tyN t) = some k := by subst ek; cases t <;> decide +kernel
    exact PySem.W.kia_one PySem.W.kitx_dict I.kIn ⟨o, h1, h2.1⟩ (kit_ty ek) (fun z => nomatch z) fun tk => ⟨.bl k, H, I.tok tk, rfl, q⟩
  cases a with
  | non =>
    have ex := rep_non ra
    subst ex
    cases e
    exact fin "NoneType" (.base .non) (by cases t <;> decide +kernel)
  | bl b =>
    have ex := rep_bl ra
    subst ex
    cases e
    exact fin "bool" (.base (.bl _)) (by cases t <;> decide +kernel)
  | int i =>
    have ex := rep_int ra
    subst ex
    cases e
    exact fin "int" (.base (.int _)) (by cases t <;> decide +kernel)
  | str z =>
    obtain ⟨ex, _⟩ := rep_str ra
    subst ex
    cases e
    exact fin "str" (.base (.str _)) (by cases t <;> decide +kernel)
  | tup xs =>
    obtain ⟨p, vs, ex, q1, z⟩ := rep_tup ra
    subst ex
    cases e
    have ek : kitB "tuple" (tyN t) = some (t == .tuple) := by cases t <;> decide +kernel
    rcases q1 with (h1 | ⟨o, h1⟩) | ⟨o, its, n, h1, h3, _⟩
    · exact fin "tuple" (.base (.tup h1)) ek
    · exact fin "tuple" (.fTuple h1) ek
    · exact fin "tuple" (.kTuple h1 h3) ek
  | lck xs =>
    obtain ⟨p, vs, ex, q1, z⟩ := rep_lck ra
    cases e
    exact lists p vs ex q1.seq rfl
  | tl xs =>
    obtain ⟨p, vs, ex, _, q1, z⟩ := ra
    cases e
    exact lists p vs ex (.inl (.inl q1)) rfl
  | td ks vs =>
    obtain ⟨p, ex, _, r⟩ := ra
    cases e
    exact dics p ks vs ex r rfl
  | ref n =>
    obtain ⟨p, hp, ex⟩ := rep_ref ra
    simp only [isTy] at e
    cases hn : h[n]? with
    | none => rw [hn] at e; cases e
    | some o =>
      have ob := S.ob n o p hn hp
      rw [hn] at e
      cases o with
      | lst xs =>
        cases e
        obtain ⟨vs, q1, z⟩ := ob
        exact lists p vs ex (.inl (.inl q1)) rfl
      | dic ks vs =>
        cases e
        exact dics p ks vs ex ob rfl
  | exn _ _ => cases e
end
end Mp
end
section
set_option Elab.async false
set_option linter.all false
set_option maxRecDepth 100000
set_option maxHeartbeats 4000000
set_option autoImplicit false
/-! MpOps8: built-ins of one thing. -/
namespace Mp
open PySem PySem.Spec PyProof.Rows L2
/-! ### dict(pairs) -/
theorem kputs_step : ∀ (ks vs as bs : List D) (out : List D × List D), kputs ks vs as bs = some out → ks.length = vs.length ∧ ∀ i, i ≤ ks.length → ∃ mid, kputs (ks.take i) (vs.take i) as bs = some mid ∧ ∀ k v, ks[i]? = some k → vs[i]? = some v → keyOk mid.1 k = true ∧ kputs (ks.take (i + 1)) (vs.take (i + 1)) as bs = some (kput k v mid.1 mid.2)
  | [], [], as, bs, out, e => by
    refine ⟨rfl, fun i hi => ⟨(as, bs), by simp [kputs], fun k v h => by simp at h⟩⟩
  | [], _ :: _, as, bs, out, e => by simp [kputs] at e
  | _ :: _, [], as, bs, out, e => by simp [kputs] at e
  | k :: ks, v :: vs, as, bs, out, e => by
    simp only [kputs] at e
    split at e
    · rename_i ok
      obtain ⟨h1, h2⟩ := kputs_step ks vs _ _ out e
      refine ⟨by simp [h1], fun i hi => ?_⟩
      cases i with
      | zero =>
        refine ⟨(as, bs), by simp [kputs], fun k' v' h3 h4 => ?_⟩
        simp only [List.getElem?_cons_zero, Option.some.injEq] at h3 h4
        subst h3 h4
        exact ⟨ok, by simp [kputs, ok]⟩
      | succ i =>
        obtain ⟨mid, m1, m2⟩ := h2 i (by simpa using hi)
        refine ⟨mid, by simp only [List.take_succ_cons, kputs, ok, if_true]; exact m1, fun k' v' h3 h4 => ?_⟩
        simp only [List.getElem?_cons_succ] at h3 h4
        obtain ⟨q1, q2⟩ := m2 k' v' h3 h4
        exact ⟨q1, by simp only [List.take_succ_cons, kputs, ok, if_true]; exact q2⟩
    · cases e
section
variable {X : Cx} {xr : XR} {W : WX} {pins : List (Addr × Obj)} {σ : St} {H : Hp} {s : Shared} {m : List Addr} {h : Hd}
theorem ents_of (I : Inv X pins σ H s) : ∀ (ks vs : List D) (es : List DictEntry), (∀ a ∈ ks, D.key 8 a = true) → EntR X.K X.w m H ks vs es → Ents X.w s.heap ks es
  | [], vs, es, _, r => by
    simp only [EntR] at r
    rw [r.2]
    exact .nil
  | k :: ks, vs, es, hk, r => by
    simp only [EntR] at r
    obtain ⟨v, vr, e, er, rfl, rfl, ⟨x, x1, x2⟩, _, hh, z⟩ := r
    exact .cons ⟨kv_of I (hk k List.mem_cons_self) x2 x1, hh⟩ (ents_of I ks vr er (fun a ha => hk a (List.mem_cons_of_mem _ ha)) z)
/-- the pairs of a list or tuple -/
theorem pairs_ok (I : Inv X pins σ H s) : ∀ (xs ks vs : List D) (us : List V) (its : List Value), pairs xs = some (ks, vs) → SReps X.K m H xs us → Vals us its →
    ∃ (ts : List Addr) (ps : List (Value × Value)), its = ts.map Value.ref ∧ ts.length = ps.length ∧ ks.length = ps.length ∧ vs.length = ps.length ∧
      (∀ (j : Nat) (p : Value × Value) (t : Addr), ps[j]? = some p → ts[j]? = some t → PairAt s.heap t p.1 p.2) ∧
      (∀ (j : Nat) (p : Value × Value), ps[j]? = some p → ∃ k v x y, ks[j]? = some k ∧ vs[j]? = some v ∧ RelV x p.1 ∧ SRep X.K m H k x ∧ RelV y p.2 ∧ SRep X.K m H v y)
  | [], ks, vs, us, its, e, r, q => by
    cases e
    simp only [SReps] at r
    subst r
    cases q
    exact ⟨[], [], rfl, rfl, rfl, rfl, fun j p t h => by simp at h, fun j p h => by simp at h⟩
  | x :: xs, ks, vs, us, its, e, r, q => by
    simp only [SReps] at r
    obtain ⟨v, ur, rfl, r1, r2⟩ := r
    cases q with
    | @cons _ u _ ir q1 q2 =>
    cases x with
    | tup ys =>
      match ys, e with
      | [k, w], e =>
        simp only [pairs] at e
        cases e1 : pairs xs with
        | none => rw [e1] at e; cases e
        | some p =>
          obtain ⟨ks', vs'⟩ := p
          rw [e1] at e
          cases e
          obtain ⟨ts, ps, h1, h2, h3, h4, h5, h6⟩ := pairs_ok I xs ks' vs' ur ir e1 r2 q2
          simp only [SRep] at r1
          obtain ⟨a, ws, rfl, n1, n2⟩ := r1
          obtain ⟨x1, x2, rfl, n3, n4⟩ := n2.two
          cases q1
          obtain ⟨its2, t1, t2, t3⟩ := I.tuple n1.sq
          obtain ⟨y1, y2, rfl, t4, t5⟩ := vals2 t1
          obtain ⟨o, o1, o2, n, o3⟩ := t2
          refine ⟨a :: ts, (y1, y2) :: ps, by rw [h1]; rfl, by simp [h2], by simp [h3], by simp [h4], fun j p t g1 g2 => ?_, fun j p g1 => ?_⟩
          · cases j with
            | zero =>
              simp only [List.getElem?_cons_zero, Option.some.injEq] at g1 g2
              subst g1 g2
              exact .inl ⟨o, o1, o2, n, o3⟩
            | succ j => exact h5 j p t (by simpa using g1) (by simpa using g2)
          · cases j with
            | zero =>
              simp only [List.getElem?_cons_zero, Option.some.injEq] at g1
              subst g1
              exact ⟨k, w, x1, x2, rfl, rfl, t4, n3, t5, n4⟩
            | succ j =>
              obtain ⟨k', v', x', y', g⟩ := h6 j p (by simpa using g1)
              exact ⟨k', v', x', y', by simpa using g⟩
    | _ => cases e
/-- what is laid while pairs are stored -/
def TabD (X : Cx) (m : List Addr) (H : Hp) (h0 : Heap) (d : Addr) (ks vs : List D) (i : Nat) (h : Heap) : Prop :=
  (∀ b o, h0.get? b = some o → h.get? b = some o) ∧ ∃ as bs es, kputs (ks.take i) (vs.take i) [] [] = some (as, bs) ∧ RawAt h d es ∧ KeysOk as ∧ as.length ≤ i ∧ EntR X.K X.w m H as bs es
theorem dict_pairs (hh : X.A.handled = none) (hu : X.A.units + 12 < cLine) (I : Inv X pins σ H s) {T : String} {a : Addr} {fp : List Addr} {n : Nat} {Rel : Nat → Value → Value → Prop} {OK : Heap → Prop} {ks vs as bs : List D} {Q : VK}
    (S : Sim X.K X.w m H h) (P : PairArg X.prog X.w T a fp [] n Rel OK) (ok : OK s.heap) (hn : ks.length = n) (hz : n ≤ sizeLine) (e : kputs ks vs [] [] = some (as, bs))
    (hr : ∀ i k v, Rel i k v → ∃ k' v' x y, ks[i]? = some k' ∧ vs[i]? = some v' ∧ RelV x k ∧ SRep X.K m H k' x ∧ RelV y v ∧ SRep X.K m H v' y)
    (q : ∀ p es, H p = none → DicR X.K X.w m (upd H p (.ext (DRaw p es))) p as bs → Q (.ref p) (upd H p (.ext (DRaw p es)))) :
    wpAny (model X.prog X.w) X.A (call (.type "dict") [.ref a]) (EP X pins σ Q) X.xe s := by
  obtain ⟨hl, hst⟩ := kputs_step ks vs [] [] _ e
  refine call_dict_arg P ok fun s₁ hs₁ hdf ok₁ => ?_
  subst hs₁
  have hnone : H s.heap.objs.size = none := I.hok.fresh (Nat.le_refl _)
  refine updateFrom_arg (A := X.A.in1) (Tab := TabD X m H s.heap s.heap.objs.size ks vs) P .none hh ok₁ hdf ?_ ?_ ?_ ?_ ?_
  · exact ⟨fun b o e => Heap.get?_push_of_some _ e, [], [], [], rfl, ⟨_, 0, Heap.get?_push_size _ rfl, ⟨rfl, rfl, rfl⟩, rfl⟩, ⟨by simp, by simp, by simp⟩, Nat.le_refl _, rfl, rfl⟩
  · intro i h' ⟨_, _, _, _, _, ⟨o, ep, ho, _⟩, _⟩
    exact Heap.lt_size ho
  · intro i h1 h2 wr' hd hw ⟨k1, as', bs', es, e1, ⟨o, ep, ho, hx⟩, K', hl', r⟩ hk
    refine ⟨fun b o q => hk b o (fun hm => ?_) (k1 b o q), as', bs', es, e1, ⟨o, ep, hk _ _ hd ho, hx⟩, K', hl', r⟩
    rcases hw b hm with z | z
    · cases z
    · have z : (s.heap.push { cls := .type "dict", data := .dict #[] }).get? b = none := z
      rw [Heap.get?_push_of_some _ q] at z
      cases z
  · intro i k v s' Q' E' hi hrel ⟨k1, as', bs', es, e1, raw, K', hl', r⟩ _ hQ
    obtain ⟨k', v', x, y, g1, g2, g3, g4, g5, g6⟩ := hr i k v hrel
    obtain ⟨mid, m1, m2⟩ := hst i (by omega)
    rw [e1] at m1
    cases m1
    obtain ⟨n1, n2⟩ := m2 k' v' g1 g2
    obtain ⟨hk, hs⟩ := keyOk_ok n1 K'
    have I' : Inv X pins σ H { s with heap := s'.heap, toks := s.toks } := I.kept k1
    have D' : DH X.w s'.heap s.heap.objs.size as' es := ⟨raw, ents_of I' as' bs' es K'.1 r, K'⟩
    have kv : KV s'.heap k' k := kv_of I' hk g4 g3
    have le := (EntR.length r)
    refine set_raw (A := X.A.in1.in1) (s := s') D' kv hs (by show X.A.units + 1 + 1 + 8 < cLine; omega) (by have := le.2; omega) fun h' t raw' sb => ?_
    refine hQ h' t ⟨fun b o q => ?_, _, _, _, n2, raw', keysOk_kput K' le.1 hk hs, ?_, EntR.put hk g3 g4 g5 g6 K'.1 r⟩ sb
    · refine (sb.2 b (fun z => ?_)).trans (k1 b o q)
      subst z
      exact absurd (Heap.lt_size q) (Nat.lt_irrefl _)
    · have := kput_len (k := k') (v := v') as' bs'
      simp only
      omega
  · intro h' tk ⟨k1, as', bs', es, e1, ⟨o, ep, ho, hx⟩, K', hl', r⟩ _
    rw [List.take_of_length_le (by omega), List.take_of_length_le (by omega), e] at e1
    cases e1
    refine ⟨rfl, .ref s.heap.objs.size, upd H s.heap.objs.size (.ext (DRaw s.heap.objs.size es)), ?_, rfl, q _ es hnone ?_⟩
    · refine I.laid k1 (Nat.le_refl _) ⟨⟨o, ep, ho, hx⟩, ⟨o, ho⟩, fun h1 h2 q k => ?_⟩
      obtain ⟨o, ep, ho, hx⟩ := q
      exact ⟨o, ep, k o ho, hx⟩
    · exact ⟨es, upd_same, new_sys I, Nat.le_trans hl' (by rw [lim_eq]; exact hz), K', EntR.grow (Grow.new hnone) _ _ _ r⟩
end
end Mp
end
section
set_option Elab.async false
set_option linter.all false
set_option maxRecDepth 100000
set_option maxHeartbeats 4000000
set_option autoImplicit false
/-! MpOps9: calls of built-ins by a value. -/
namespace Mp
open PySem PySem.Spec PyProof.Rows L2
section
variable {X : Cx} {xr : XR} {W : WX}
def r1 (K : PySem.W.Frag) (w : World) (xr : XR) (W : WX) (f : Hd → D → R D) : List V → Hp → VK → Prop := fun xs H Q => ∃ (x : V) (σ : St) (m : List Addr) (h : Hd) (a : D), xs = [x] ∧ Sim K w m H h ∧ Rep K w m H a x ∧ Post K w xr (RepB K w) W m H σ (f h a) Q
/-- the built-in as a value -/
def biV : Bi → Value
  | .len => .builtin "len" | .all => .builtin "all" | .any => .builtin "any" | .list => .type "list" | .tuple => .type "tuple" | .dict => .type "dict"
  | .sorted => .builtin "sorted" | .sum => .builtin "sum" | .int => .type "int" | .abs => .builtin "abs" | .str => .type "str"
theorem bools_ok {K : PySem.W.Frag} {m : List Addr} {H : Hp} : ∀ (xs : List D) (bs : List Bool) (vs : List V), bools xs = some bs → SReps K m H xs vs → vs = bs.map V.bl
  | [], bs, vs, e, r => by
    cases e
    simp only [SReps] at r
    exact r
  | x :: xs, bs, vs, e, r => by
    cases x with
    | bl b =>
      simp only [bools] at e
      cases e1 : bools xs with
      | none => rw [e1] at e; cases e
      | some cs =>
        rw [e1] at e
        cases e
        simp only [SReps] at r
        obtain ⟨v, t, rfl, q, z⟩ := r
        simp only [SRep] at q
        subst q
        rw [bools_ok xs cs t e1 z]
        rfl
    | _ => cases e
theorem ints_ok {K : PySem.W.Frag} {m : List Addr} {H : Hp} : ∀ (xs : List D) (bs : List Int) (vs : List V), «intsL» xs = some bs → SReps K m H xs vs → vs = bs.map V.int
  | [], bs, vs, e, r => by
    cases e
    simp only [SReps] at r
    exact r
  | x :: xs, bs, vs, e, r => by
    cases x with
    | int b =>
      simp only [«intsL»] at e
      cases e1 : «intsL» xs with
      | none => rw [e1] at e; cases e
      | some cs =>
        rw [e1] at e
        cases e
        simp only [SReps] at r
        obtain ⟨v, t, rfl, q, z⟩ := r
        simp only [SRep] at q
        subst q
        rw [ints_ok xs cs t e1 z]
        rfl
    | _ => cases e
theorem seq_cases {h : Hd} {d : D} {xs : List D} (e : seqOf h d = some xs) : d = .tup xs ∨ lstOf h d = some xs := by
  cases d with
  | tup ys => cases e; exact .inl rfl
  | _ => exact .inr e
theorem call_len_mp : CallR X (.builtin "len") (r1 X.K X.w xr W fun h => bifO h .len) := by
  intro pins s σ H xs us Q I r ⟨x, σ0, m, h, a, ex, S, ra, p⟩
  subst ex
  have seq : ∀ ys, seqOf h a = some ys → Post X.K X.w xr (RepB X.K X.w) W m H σ0 (.ok (.int ys.length) h) Q → wpAny (model X.prog X.w) X.A (call (.builtin "len") us) (EP X pins σ Q) X.xe s := by
    intro ys e p
    obtain ⟨b, vs, ex, q, z⟩ := seqOf_ok S e ra
    subst ex
    exact call_len_seq pins s σ H _ us Q I r ⟨b, vs, rfl, q, Post.ok S (by rw [z.length]; exact mk_int) p⟩
  have rest : Post X.K X.w xr (RepB X.K X.w) W m H σ0 (match seqOf h a with
    | some xs => R.ok (.int xs.length) h
    | none => match dicOf h a with
      | some (ks, _) => .ok (.int ks.length) h
      | none => .no) Q → wpAny (model X.prog X.w) X.A (call (.builtin "len") us) (EP X pins σ Q) X.xe s := by
    intro p
    cases e : seqOf h a with
    | some ys => rw [e] at p; exact seq ys e p
    | none =>
      rw [e] at p
      simp only at p
      cases e2 : dicOf h a with
      | none => rw [e2] at p; exact p.elim
      | some kv =>
        obtain ⟨ks, vs⟩ := kv
        rw [e2] at p
        obtain ⟨b, ex, d⟩ := dicOf_ok S e2 ra
        subst ex
        obtain ⟨u, eu, ru⟩ := vals1 r
        subst eu
        cases ru
        obtain ⟨es, ep, h1, h2, h3, h4, h5⟩ := DicR.raw I d
        have hz : lim = 16777216 := rfl
        refine call_len_dic h3 h1 h2 (by rw [List.size_toArray]; omega) ⟨.int ks.length, H, I.tok _, ⟨s.toks + 1, by rw [List.size_toArray, h4]⟩, Post.ok S mk_int p⟩
  cases a with
  | str t =>
    simp only [bifO] at p
    split at p
    · rename_i hl
      obtain ⟨ex, _⟩ := rep_str ra
      refine call_len_str pins s σ H _ us Q I r ⟨⟨t.toArray⟩, by rw [ex], ?_, ?_⟩
      · show t.toArray.size ≤ sizeLine
        rw [← lim_eq]; simpa using hl
      · have e : ((⟨t.toArray⟩ : Str).length : Int) = (t.length : Int) := by simp [Str.length]
        rw [e]
        exact Post.ok S mk_int p
    · exact p.elim
  | _ => exact rest p
theorem call_all_mp (hc : X.calm = true) : CallR X (.builtin "all") (r1 X.K X.w xr W fun h => bifO h .all) := by
  intro pins s σ H xs us Q I r ⟨x, σ0, m, h, a, ex, S, ra, p⟩
  subst ex
  simp only [bifO] at p
  cases e : lstOf h a with
  | none => rw [e] at p; exact p.elim
  | some ys =>
    rw [e] at p
    simp only at p
    cases e2 : bools ys with
    | none => rw [e2] at p; exact p.elim
    | some bs =>
      rw [e2] at p
      obtain ⟨b, vs, ex, q, z⟩ := lstOf_ok S e ra
      rw [bools_ok ys bs vs e2 z] at q
      exact cr_all hc pins s σ H _ us Q I r ⟨b, bs, by rw [ex], q, Post.ok S mk_bl p⟩
theorem call_any_mp (hc : X.calm = true) : CallR X (.builtin "any") (r1 X.K X.w xr W fun h => bifO h .any) := by
  intro pins s σ H xs us Q I r ⟨x, σ0, m, h, a, ex, S, ra, p⟩
  subst ex
  simp only [bifO] at p
  cases e : lstOf h a with
  | none => rw [e] at p; exact p.elim
  | some ys =>
    rw [e] at p
    simp only at p
    cases e2 : bools ys with
    | none => rw [e2] at p; exact p.elim
    | some bs =>
      rw [e2] at p
      obtain ⟨b, vs, ex, q, z⟩ := lstOf_ok S e ra
      rw [bools_ok ys bs vs e2 z] at q
      exact cr_any hc pins s σ H _ us Q I r ⟨b, bs, by rw [ex], q, Post.ok S mk_bl p⟩
theorem call_sum_mp (hc : X.calm = true) : CallR X (.builtin "sum") (r1 X.K X.w xr W fun h => bifO h .sum) := by
  intro pins s σ H xs us Q I r ⟨x, σ0, m, h, a, ex, S, ra, p⟩
  subst ex
  simp only [bifO] at p
  cases e : lstOf h a with
  | none => rw [e] at p; exact p.elim
  | some ys =>
    rw [e] at p
    simp only at p
    cases e2 : «intsL» ys with
    | none => rw [e2] at p; exact p.elim
    | some bs =>
      rw [e2] at p
      obtain ⟨b, vs, ex, q, z⟩ := lstOf_ok S e ra
      rw [ints_ok ys bs vs e2 z] at q
      exact cr_sum hc pins s σ H _ us Q I r ⟨b, bs, by rw [ex], q, Post.ok S mk_int p⟩
theorem call_tuple_mp : CallR X (.type "tuple") (r1 X.K X.w xr W fun h => bifO h .tuple) := by
  intro pins s σ H xs us Q I r ⟨x, σ0, m, h, a, ex, S, ra, p⟩
  subst ex
  simp only [bifO] at p
  cases e : seqOf h a with
  | none => rw [e] at p; exact p.elim
  | some ys =>
    rw [e] at p
    simp only at p
    obtain ⟨u, eu, ru⟩ := vals1 r
    subst eu
    obtain ⟨b, vs, ex, q, z⟩ := seqOf_ok S e ra
    subst ex
    cases ru
    have newt : ∀ vs, SqL X.K H b vs → SReps X.K m H ys vs → wpAny (model X.prog X.w) X.A (call (.type "tuple") [.ref b]) (EP X pins σ Q) X.xe s := by
      intro vs hq z
      obtain ⟨its, r', pl, hz⟩ := I.list hq
      have hlen := r'.length
      refine PySem.call_tuple_list pl.isList (fun h' kp => ?_) (by simp only [List.size_toArray] <;> omega)
      have I1 : Inv X pins σ H { s with heap := h' } := I.kept (t' := s.toks) kp
      have hn : H h'.objs.size = none := I1.hok.fresh (Nat.le_refl _)
      exact ⟨.ref h'.objs.size, _, lay_tup (t' := s.toks) I1 r' hz, rfl, p _ _ m (Nx.new S hn) (rep_tupN its hn z)⟩
    rcases seq_cases e with e3 | e3
    · subst e3
      obtain ⟨b2, vs2, e2, q2, z2⟩ := rep_tupn ra
      cases e2
      obtain ⟨its, r', pl, hz⟩ := I.tuple q2.sq
      exact call_tuple_same pl ⟨.ref b, H, I, rfl, Post.ok S (mk_tup q2 z2) p⟩
    · obtain ⟨b2, vs2, e2, q2, z2⟩ := lstOf_ok S e3 ra
      cases e2
      exact newt vs2 q2 z2
end
end Mp
end
section
set_option Elab.async false
set_option linter.all false
set_option maxRecDepth 100000
set_option maxHeartbeats 4000000
set_option autoImplicit false
/-! MpOps10: list(x), dict(x), int, abs, str. -/
namespace Mp
open PySem PySem.Spec PyProof.Rows L2
theorem kdl_raw {prog : Program} {w : World} {d : Addr} {es : Array DictEntry} {ep : Nat} (lo : (d == sysModules) = false) : PySem.W.KdlSrc prog w "dict" d d es.size (fun i v => ∃ hi : i < es.size, v = es[i].key) (fun h => h.DictRaw d es ep) where
  type := fun _ hm => hm.typeIs
  there := fun _ hm => let ⟨_, ho, _⟩ := hm; ⟨Heap.lt_size ho, Heap.lt_size ho⟩
  keep := fun _ _ hm hk => hm.at fun o e => hk d (.inl rfl) o e
  notList := by decide
  notTuple := by decide
  hint := fun _ _ _ _ hm hq => PySem.W.kdl_hint_dict hm.typeIs hq
  iter := fun _ _ hh hm => ⟨_, _, (fun _ _ hq => wpAny_pyIter_dict_raw lo hm hq), Walks.rawKeys hh _ d (let ⟨_, ho, _⟩ := hm; Nat.ne_of_lt (Heap.lt_size ho)) es ep, ⟨⟨_, Heap.get?_push_size _ rfl, rfl, rfl⟩, hm.at fun o e => Heap.get?_push_of_some _ e⟩⟩
section
variable {X : Cx} {xr : XR} {W : WX}
/-- the keys of the entries, as values -/
theorem EntR.keys {K : PySem.W.Frag} {w : World} {m : List Addr} {H : Hp} : ∀ {ks vs : List D} {es : List DictEntry}, EntR K w m H ks vs es → ∃ us, SReps K m H ks us ∧ Vals us (es.map (·.key))
  | [], vs, es, r => by
    simp only [EntR] at r
    obtain ⟨_, rfl⟩ := r
    exact ⟨[], by simp only [SReps], .nil⟩
  | k :: ks, vs, es, r => by
    simp only [EntR] at r
    obtain ⟨v, vr, e, er, rfl, rfl, ⟨x, x1, x2⟩, _, _, z⟩ := r
    obtain ⟨us, u1, u2⟩ := EntR.keys z
    refine ⟨x :: us, ?_, .cons x1 u2⟩
    simp only [SReps]
    exact ⟨x, us, rfl, x2, u1⟩
theorem call_list_mp (hc : X.calm = true) : CallR X (.type "list") (r1 X.K X.w xr W fun h => bifO h .list) := by
  intro pins s σ H xs us Q I r ⟨x, σ0, m, h, a, ex, S, ra, p⟩
  subst ex
  simp only [bifO] at p
  cases e : seqOf h a with
  | some ys =>
    rw [e] at p
    obtain ⟨b, vs, ex, q, z⟩ := seqOf_ok S e ra
    exact call_list_of pins s σ H _ us Q I r ⟨b, vs, by rw [ex], q, fun l hl => p _ _ m (Nx.new S hl) (rep_tl S hl z)⟩
  | none =>
    rw [e] at p
    simp only at p
    cases e2 : dicOf h a with
    | none => rw [e2] at p; exact p.elim
    | some kv =>
      obtain ⟨ks, vs⟩ := kv
      rw [e2] at p
      obtain ⟨b, ex, d⟩ := dicOf_ok S e2 ra
      subst ex
      obtain ⟨u, eu, ru⟩ := vals1 r
      subst eu
      cases ru
      obtain ⟨es, e3, sys, hl, K', re⟩ := d
      have D' := DicR.dh I e3 K' re
      obtain ⟨o, ep, o1, o2, o3⟩ := D'.raw
      obtain ⟨us, u1, u2⟩ := EntR.keys re
      have hlen := (EntR.length re).2
      have hz : es.length ≤ sizeLine := by rw [← lim_eq]; omega
      refine PySem.W.kdl_call (kdl_raw (es := es.toArray) (ep := ep) sys) (I.ok.hd hc) ⟨o, o1, o2, o3⟩ (by rw [List.size_toArray]; exact hz) fun h' tk acc c' hk hD hacc => ?_
      have ea : acc.toList = es.map (·.key) := by
        refine List.ext_getElem? fun j => ?_
        by_cases hj : j < es.length
        · have h1 : j < acc.size := by rw [hacc.1, List.size_toArray]; exact hj
          have h2 := hacc.2 j acc[j] (by simp [h1])
          obtain ⟨hi, h2⟩ := h2
          rw [Array.getElem?_toList, Array.getElem?_eq_getElem h1, h2, List.getElem?_map, List.getElem?_eq_getElem hj]
          simp
        · rw [List.getElem?_eq_none (by rw [Array.length_toList, hacc.1, List.size_toArray]; omega), List.getElem?_eq_none (by rw [List.length_map]; omega)]
      have hn : H s.heap.objs.size = none := I.hok.fresh (Nat.le_refl _)
      refine ⟨.ref s.heap.objs.size, upd H s.heap.objs.size (.lst us), I.laid (t' := tk) hk (Nat.le_refl _) ?_, rfl, p _ _ m (Nx.new S hn) (rep_tl S hn u1)⟩
      exact ⟨by rw [← u1.length, hlen]; exact hz, acc.toList, c', by rw [ea]; exact u2, by rw [Array.toArray_toList]; exact hD⟩
theorem SqN.plain {pins : List (Addr × Obj)} {s : Shared} {σ : St} {H : Hp} {b : Addr} {vs : List V} (I : Inv X pins σ H s) (q : SqN X.K H b vs) : ∃ its : List Value, Vals vs its ∧ PlainSeq "tuple" s.heap b its.toArray ∧ vs.length ≤ sizeLine := by
  rcases q with ⟨o, q1, q2⟩ | ⟨o, its', n, q1, q2, q3, q4, q5, q6⟩
  · have q3 : s.heap.get? b = some o ∧ ObjOk X.prog X.w H s.heap b (.tup vs) := I.hok b _ q1
    obtain ⟨g1, g2, its2, g3, o2, g4, g5, n, g6⟩ := q3
    rw [g1] at g4
    cases g4
    exact ⟨its2, g3, ⟨o, n, g1, g5, q2, g6⟩, g2⟩
  · refine ⟨its'.toList, q6, ⟨o, n, I.kIn _ _ q1, q2, q3, by simpa using q4⟩, ?_⟩
    rw [q6.length, Array.length_toList]
    exact q5
theorem call_dict_mp (hc : X.calm = true) (hu : X.A.units + 12 < cLine) : CallR X (.type "dict") (r1 X.K X.w xr W fun h => bifO h .dict) := by
  intro pins s σ H xs us Q I r ⟨x, σ0, m, h, a, ex, S, ra, p⟩
  subst ex
  simp only [bifO] at p
  cases e : seqOf h a with
  | none => rw [e] at p; exact p.elim
  | some ys =>
    rw [e] at p
    simp only at p
    cases e2 : pairs ys with
    | none => rw [e2] at p; exact p.elim
    | some kv =>
      obtain ⟨ks, vs⟩ := kv
      rw [e2] at p
      simp only at p
      cases e3 : kputs ks vs [] [] with
      | none => rw [e3] at p; exact p.elim
      | some ab =>
        obtain ⟨as, bs⟩ := ab
        rw [e3] at p
        obtain ⟨u, eu, ru⟩ := vals1 r
        subst eu
        have fin : ∀ (p0 : Addr) es, H p0 = none → DicR X.K X.w m (upd H p0 (.ext (DRaw p0 es))) p0 as bs → Q (.ref p0) (upd H p0 (.ext (DRaw p0 es))) := by
          intro p0 es hn d
          exact p _ _ m (Nx.new S hn) ⟨⟨p0, rfl, S.out hn, d⟩, fun a e => by cases e; exact hn⟩
        have go : ∀ (T : String) (b : Addr) (vs0 : List V) (its : List Value), T = "list" ∨ T = "tuple" → SReps X.K m H ys vs0 → Vals vs0 its → vs0.length ≤ sizeLine → PlainSeq T s.heap b its.toArray → wpAny (model X.prog X.w) X.A (call (.type "dict") [.ref b]) (EP X pins σ Q) X.xe s := by
          intro T b vs0 its hT z rv hz pl
          obtain ⟨ts, ps, h1, h2, h3, h4, h5, h6⟩ := pairs_ok I ys ks vs vs0 its e2 z rv
          have items : PairItems s.heap its.toArray (fun j => ts.getD j 0) ps := by
            refine ⟨by rw [h1]; simp [h2], fun j k v hj => ?_⟩
            have hlt : j < ps.length := (List.getElem?_eq_some_iff.mp hj).1
            have hlt2 : j < ts.length := by omega
            have et : ts[j]? = some ts[j] := List.getElem?_eq_getElem hlt2
            have ed : ts.getD j 0 = ts[j] := by rw [List.getD_eq_getElem?_getD, et]; rfl
            refine ⟨?_, ?_⟩
            · show its.toArray[j]? = some (.ref (ts.getD j 0))
              rw [h1, ed]; simp [hlt2]
            · show PairAt s.heap (ts.getD j 0) k v
              rw [ed]; exact h5 j (k, v) _ hj et
          have hn : ps.length ≤ sizeLine := by
            have q1 := rv.length
            have q2 : its.length = ts.length := by rw [h1]; simp
            omega
          rcases hT with rfl | rfl
          · exact dict_pairs (I.ok.hd hc) hu I S (PairArg.list b its.toArray _ ps) ⟨pl, items⟩ h3 hn e3 (fun i k v hi => h6 i (k, v) hi) fin
          · exact dict_pairs (I.ok.hd hc) hu I S (PairArg.tuple b its.toArray _ ps) ⟨pl, items⟩ h3 hn e3 (fun i k v hi => h6 i (k, v) hi) fin
        rcases seq_cases e with e4 | e4
        · subst e4
          obtain ⟨b, vs0, ex, q, z⟩ := rep_tupn ra
          subst ex
          cases ru
          obtain ⟨its, rv, pl, hz⟩ := SqN.plain I q
          exact go "tuple" b vs0 its (.inr rfl) z rv hz pl
        · obtain ⟨b, vs0, ex, q, z⟩ := lstOf_ok S e4 ra
          subst ex
          cases ru
          obtain ⟨its, rv, ⟨o, n, g1, g2, g3, g4⟩, hz⟩ := I.list q
          exact go "list" b vs0 its (.inl rfl) z rv hz ⟨o, n, g1, g2, g3, g4⟩
theorem call_int_mp : CallR X (.type "int") (r1 X.K X.w xr W fun h => bifO h .int) := by
  intro pins s σ H xs us Q I r ⟨x, σ0, m, h, a, ex, S, ra, p⟩
  subst ex
  cases a with
  | int i => exact call_int1 pins s σ H _ us Q I r (.inl ⟨i, by rw [rep_int ra], Post.ok S mk_int p⟩)
  | bl b => exact call_int1 pins s σ H _ us Q I r (.inr ⟨b, by rw [rep_bl ra], Post.ok S (by cases b <;> exact mk_int) p⟩)
  | _ => exact p.elim
theorem call_abs_mp : CallR X (.builtin "abs") (r1 X.K X.w xr W fun h => bifO h .abs) := by
  intro pins s σ H xs us Q I r ⟨x, σ0, m, h, a, ex, S, ra, p⟩
  subst ex
  cases a with
  | int i => exact call_abs pins s σ H _ us Q I r ⟨i, by rw [rep_int ra], Post.ok S mk_int p⟩
  | _ => exact p.elim
theorem okS_digs (n : Nat) : okS (digs n) = true := by
  rw [okS_mem]
  intro c hc
  unfold digs at hc
  obtain ⟨ch, h1, h2⟩ := List.mem_map.mp hc
  subst h2
  have := ch.valid
  rcases this with h | h
  · exact Nat.lt_of_lt_of_le h (by decide)
  · exact h.2
end
end Mp
end
section
set_option Elab.async false
set_option linter.all false
set_option maxRecDepth 100000
set_option maxHeartbeats 4000000
set_option autoImplicit false
/-! MpOps11: str(x), all built-ins in one; methods of lists. -/
namespace Mp
open PySem PySem.Spec PyProof.Rows L2
theorem str_eq (i : Int) : Str.ofString (toString i) = ⟨(strI i).toArray⟩ := by
  have e : toString i = String.ofList (match i with | .ofNat n => Nat.toDigits 10 n | .negSucc n => '-' :: Nat.toDigits 10 (n + 1)) := by
    cases i with
    | ofNat n => rfl
    | negSucc n =>
      show "-" ++ String.ofList (Nat.toDigits 10 (n + 1)) = _
      rw [show "-" = String.ofList ['-'] from rfl, ← String.ofList_append]
      rfl
  rw [e, PySem.W.Fast.ofString_ofList]
  cases i <;> rfl
theorem okS_strI (i : Int) : okS (strI i) = true := by
  cases i with
  | ofNat n => exact okS_digs n
  | negSucc n =>
    have h := okS_digs (n + 1)
    rw [okS_mem] at *
    intro c hc
    rcases List.mem_cons.mp hc with rfl | hc
    · decide
    · exact h c hc
section
variable {X : Cx} {xr : XR} {W : WX}
theorem call_str_mp : CallR X (.type "str") (r1 X.K X.w xr W fun h => bifO h .str) := by
  intro pins s σ H xs us Q I r ⟨x, σ0, m, h, a, ex, S, ra, p⟩
  subst ex
  cases a with
  | int i =>
    simp only [bifO] at p
    split at p
    · rename_i hi
      refine call_str_int pins s σ H _ us Q I r ⟨i, by rw [rep_int ra], ?_, ?_⟩
      · by_cases h0 : i.natAbs = 0
        · rw [h0]; decide
        · exact Nat.lt_trans ((Nat.log2_lt h0).mpr (Nat.lt_trans hi (show 10000000000 < 2 ^ 34 by decide))) (by decide)
      · rw [str_eq]
        exact Post.ok S (mk_str (okS_strI i)) p
    · exact p.elim
  | _ => exact p.elim
/-- the built-ins that are served, but sorted -/
def biOk (b : Bi) : Bool := decide (b ≠ .sorted)
theorem call_bif (hc : X.calm = true) (hu : X.A.units + 65 < cLine) {b : Bi} (hb : biOk b = true) : CallR X (biV b) (r1 X.K X.w xr W fun h => bifO h b) := by
  cases b with
  | len => exact call_len_mp
  | all => exact call_all_mp hc
  | any => exact call_any_mp hc
  | list => exact call_list_mp hc
  | tuple => exact call_tuple_mp
  | dict => exact call_dict_mp hc (by omega)
  | sum => exact call_sum_mp hc
  | int => exact call_int_mp
  | abs => exact call_abs_mp
  | str => exact call_str_mp
  | sorted => cases hb
end
end Mp
end
section
set_option Elab.async false
set_option linter.all false
set_option maxRecDepth 100000
set_option maxHeartbeats 4000000
set_option autoImplicit false
/-! MpRule: the readings of expressions, each construct's rule. -/
namespace Mp
open PySem PySem.Spec PyProof.Rows L2
/-! ### a thing is given a name -/
section
variable {K : PySem.W.Frag} {w : World} {m m1 : List Addr} {H H1 : Hp} {h h1 : Hd}
theorem Nx.add (N : Nx K w m H m1 h1 H1) {p : Addr} {ob : Ob} (hp : H p = none) (hm : p ∉ m1) (q : ObR K w m1 H1 p ob) : Nx K w m H (m1 ++ [p]) (h1 ++ [ob]) H1 ∧ Grow K m1 H1 (m1 ++ [p]) H1 := by
  obtain ⟨ms, e, f⟩ := N.pre
  have G : Grow K m1 H1 (m1 ++ [p]) H1 := ⟨fun n a q => by rw [List.getElem?_append_left (List.getElem?_eq_some_iff.mp q).1]; exact q, fun _ _ q => q, fun _ _ q => q⟩
  have grow : ∀ a o, ObR K w m1 H1 a o → ObR K w (m1 ++ [p]) H1 a o := fun a o q => by
    cases o with
    | lst xs =>
      obtain ⟨vs, q1, q2⟩ := q
      exact ⟨vs, q1, SReps.grow G xs vs q2⟩
    | dic ks vs => exact DicR.grow G (fun _ z => z) q
  refine ⟨⟨⟨ms ++ [p], by rw [e, List.append_assoc], fun a ha => ?_⟩, ⟨by rw [List.length_append, List.length_append, N.sim.len]; rfl, ?_, fun n o a e1 e2 => ?_⟩, N.ext⟩, G⟩
  · rcases List.mem_append.mp ha with z | z
    · exact f a z
    · rw [List.mem_singleton] at z
      rw [z]; exact hp
  · refine List.nodup_append.mpr ⟨N.sim.nd, by simp, fun a ha b hb e => ?_⟩
    rw [List.mem_singleton] at hb
    subst hb e
    exact hm ha
  · by_cases hn : n < h1.length
    · rw [List.getElem?_append_left hn] at e1
      rw [List.getElem?_append_left (by rw [N.sim.len]; exact hn)] at e2
      exact grow a o (N.sim.ob n o a e1 e2)
    · rw [List.getElem?_append_right (by omega)] at e1
      rw [List.getElem?_append_right (by rw [N.sim.len]; omega), N.sim.len] at e2
      cases hk : n - h1.length with
      | zero =>
        rw [hk] at e1 e2
        simp only [List.getElem?_cons_zero, Option.some.injEq] at e1 e2
        subst e1 e2
        exact grow p ob q
      | succ k => rw [hk] at e1; simp at e1
theorem reg_ok (N : Nx K w m H m1 h1 H1) {d : D} {v : V} (r : RepB K w H m1 H1 d v) : ∃ m2, Nx K w m H m2 (reg h1 d).2 H1 ∧ SRep K m2 H1 (reg h1 d).1 v ∧ Grow K m1 H1 m2 H1 := by
  have same : Grow K m1 H1 m1 H1 := ⟨fun _ _ q => q, fun _ _ q => q, fun _ _ q => q⟩
  cases d with
  | tl xs =>
    obtain ⟨⟨a, vs, rfl, hm, q, z⟩, n⟩ := r
    obtain ⟨N2, G⟩ := N.add (n a rfl) hm (show ObR K w m1 H1 a (.lst xs) from ⟨vs, q, z⟩)
    refine ⟨m1 ++ [a], N2, ?_, G⟩
    simp only [reg, SRep]
    exact ⟨a, by rw [List.getElem?_append_right (by rw [N.sim.len]; exact Nat.le_refl _), N.sim.len]; simp, rfl⟩
  | td ks vs =>
    obtain ⟨⟨a, rfl, hm, q⟩, n⟩ := r
    obtain ⟨N2, G⟩ := N.add (n a rfl) hm (show ObR K w m1 H1 a (.dic ks vs) from q)
    refine ⟨m1 ++ [a], N2, ?_, G⟩
    simp only [reg, SRep]
    exact ⟨a, by rw [List.getElem?_append_right (by rw [N.sim.len]; exact Nat.le_refl _), N.sim.len]; simp, rfl⟩
  | _ => exact ⟨m1, N, r.1, same⟩
end
/-! ### readings -/
def relB : Rel Bool Bool := fun _ _ _ a b => a = b
def relA (K : PySem.W.Frag) : Rel (List D) (List V) := fun _ m H a b => SReps K m H a b
theorem relB.down : DownR relB := fun _ _ _ _ _ _ _ q => q
theorem relA.down {K : PySem.W.Frag} : DownR (relA K) := fun _ _ _ _ _ _ _ q => q
section
variable (F : Nat → List D → Hd → R D) (X : Cx) (xr : XR) (W : WX)
def tE (E : E) : TE := tG X.K X.w xr (RepB X.K X.w) W (ev F E)
def tT (E : E) : TT := tG X.K X.w xr relB W (evT F E)
def tA (E : E) : TA := tG X.K X.w xr (relA X.K) W (evs F E)
end
section
variable {F : Nat → List D → Hd → R D} {X : Cx} {xr : XR} {W : WX} {a b c : Expr} {A B C : E} {pos : Pos}
/-- two in a row -/
theorem two {f : D → D → Hd → R D} {r : R2} (hf : ∀ (σ : St) (m : List Addr) (h : Hd) (H : Hp) (x y : V) (d e : D) (Q : VK), Sim X.K X.w m H h → Rep X.K X.w m H d x → Rep X.K X.w m H e y → Post X.K X.w xr (RepB X.K X.w) W m H σ (f d e h) Q → r x y H Q) (σ : St) (H : Hp) (Q : VK)
    (q : tG X.K X.w xr (RepB X.K X.w) W (fun env h => (ev F A env h).bind fun x h1 => (ev F B env h1).bind fun y h2 => f x y h2) σ H Q) : tOp r (tE F X xr W A) (tE F X xr W B) σ H Q := by
  obtain ⟨m, env, h, eR, S, p⟩ := q
  refine ⟨m, env, h, eR, S, (Post.bind p).imp fun x H1 ⟨a', m1, h1, N1, r1, p1⟩ => ?_⟩
  refine ⟨m1, env, h1, eR.grow (N1.grow S), N1.sim, (Post.bind (Post.step RepB.down N1 p1)).imp fun y H2 ⟨b', m2, h2, N2, r2, p2⟩ => ?_⟩
  exact hf σ m2 h2 H2 x y a' b' Q N2.sim (r1.1.grow N1.sim N2) r2.1 (Post.step RepB.down N2 p2)
theorem one {f : D → Hd → R D} {r : V → Hp → VK → Prop} (hf : ∀ (σ : St) (m : List Addr) (h : Hd) (H : Hp) (x : V) (d : D) (Q : VK), Sim X.K X.w m H h → Rep X.K X.w m H d x → Post X.K X.w xr (RepB X.K X.w) W m H σ (f d h) Q → r x H Q) (σ : St) (H : Hp) (Q : VK)
    (q : tG X.K X.w xr (RepB X.K X.w) W (fun env h => (ev F A env h).bind fun x h1 => f x h1) σ H Q) : tUn r (tE F X xr W A) σ H Q := by
  obtain ⟨m, env, h, eR, S, p⟩ := q
  refine ⟨m, env, h, eR, S, (Post.bind p).imp fun x H1 ⟨a', m1, h1, N1, r1, p1⟩ => ?_⟩
  exact hf σ m1 h1 H1 x a' Q N1.sim r1.1 (Post.step RepB.down N1 p1)
theorem re_var {i : Nat} {x : Str} (hN : X.N[i]? = some x) (hv : Vis X.env.scope x) (hd : (x == ("__debug__" : Str)) = false) (hcd : (x == ("__classdict__" : Str)) = false) : PE X (.Name x pos) (tE F X xr W (.var i)) :=
  PE.mono (pe_var hN hv hd hcd) fun σ H Q ⟨m, env, h, eR, S, p⟩ => by
    simp only [ev] at p
    cases e : env[i]? with
    | none => rw [e] at p; exact p.elim
    | some o =>
      cases o with
      | none => rw [e] at p; exact p.elim
      | some d =>
        rw [e] at p
        obtain ⟨v, h1, h2⟩ := eR.2 i d e
        exact ⟨v, h1, Post.ok S (repB_of h2) p⟩
theorem re_non {j} : PE X (.Constant .none j pos) (tE F X xr W .non) := PE.mono pe_non fun σ H Q ⟨m, env, h, eR, S, p⟩ => Post.ok S mk_non p
theorem re_bl {b j} : PE X (.Constant (.bool b) j pos) (tE F X xr W (.bl b)) := PE.mono pe_bl fun σ H Q ⟨m, env, h, eR, S, p⟩ => Post.ok S mk_bl p
theorem re_int {i j} : PE X (.Constant (.int i) j pos) (tE F X xr W (.int i)) := PE.mono pe_int fun σ H Q ⟨m, env, h, eR, S, p⟩ => Post.ok S mk_int p
theorem re_str {s : List Nat} {j} (hs : okS s = true) : PE X (.Constant (.str ⟨s.toArray⟩) j pos) (tE F X xr W (.str s)) := PE.mono pe_str fun σ H Q ⟨m, env, h, eR, S, p⟩ => Post.ok S (mk_str hs) p
theorem re_gstr {x : Str} {s : List Nat} {t : Tok} (hg : Gl X x) (hm : X.mg x = some (.str ⟨s.toArray⟩ t)) (hs : okS s = true) (hd : (x == ("__debug__" : Str)) = false) : PE X (.Name x pos) (tE F X xr W (.str s)) :=
  PE.mono (pe_glob (v := .str ⟨s.toArray⟩) hg hm ⟨t, rfl⟩ hd) fun σ H Q ⟨m, env, h, eR, S, p⟩ => Post.ok S (mk_str hs) p
theorem re_gint {x : Str} {i : Int} {t : Tok} (hg : Gl X x) (hm : X.mg x = some (.int i t)) (hd : (x == ("__debug__" : Str)) = false) : PE X (.Name x pos) (tE F X xr W (.int i)) :=
  PE.mono (pe_glob (v := .int i) hg hm ⟨t, rfl⟩ hd) fun σ H Q ⟨m, env, h, eR, S, p⟩ => Post.ok S mk_int p
def opO : Op → Operator
  | .add => .Add | .sub => .Sub | .mul => .Mult | .fdv => .FloorDiv | .mod => .Mod | .pow => .Pow
theorem bin_ok (o : Op) : OpR X (binaryOp (opO o)) (r2 X.K X.w xr W fun h => binO h o) := by
  cases o with
  | add => exact bin_add
  | sub => exact bin_sub
  | mul => exact bin_mul
  | fdv => exact bin_fdv
  | mod => exact bin_mod
  | pow => exact bin_pow
theorem re_bin {o : Op} (ha : PE X a (tE F X xr W A)) (hb : PE X b (tE F X xr W B)) : PE X (.BinOp a (opO o) b pos) (tE F X xr W (.bin o A B)) :=
  PE.mono (pe_op (bin_ok o) ha hb) (two fun σ m h H x y d e Q S rx ry p => ⟨σ, m, h, d, e, S, rx, ry, p⟩)
def cmO : Cm → CmpOp
  | .eq => .Eq | .ne => .NotEq | .lt => .Lt | .le => .LtE | .gt => .Gt | .ge => .GtE | .is => .Is | .isn => .IsNot | .inn => .In | .nin => .NotIn
theorem cmp_ok (hu : X.A.units + 65 < cLine) (o : Cm) : OpR X (compareOp (cmO o)) (rc X.K X.w fun h => cmpO h o) := by
  cases o with
  | eq => exact cmp_eq (by omega)
  | ne => exact cmp_ne (by omega)
  | lt => exact cmp_lt (by omega)
  | le => exact cmp_le
  | gt => exact cmp_gt
  | ge => exact cmp_ge
  | is => exact cmp_is
  | isn => exact cmp_isn
  | inn => exact cmp_in hu
  | nin => exact cmp_nin hu
theorem two_cmp {o : Cm} (σ : St) (H : Hp) (Q : VK) (q : tE F X xr W (.cmp o A B) σ H Q) : tOp (rc X.K X.w fun h => cmpO h o) (tE F X xr W A) (tE F X xr W B) σ H Q := by
  refine two (f := fun x y h2 => match cmpO h2 o x y with
    | some b => .ok (.bl b) h2
    | none => .no) (fun σ m h H x y d e Q S rx ry p => ?_) σ H Q q
  cases e1 : cmpO h o d e with
  | none => simp only [e1] at p; exact p.elim
  | some k =>
    simp only [e1] at p
    exact ⟨m, h, d, e, k, S, rx, ry, e1, Post.ok S mk_bl p⟩
theorem re_cmp {o : Cm} (hu : X.A.units + 65 < cLine) (ha : PE X a (tE F X xr W A)) (hb : PE X b (tE F X xr W B)) (hm : behindInMarks (cmO o) b = false) : PE X (.Compare a [cmO o] [b] pos) (tE F X xr W (.cmp o A B)) :=
  PE.mono (pe_cmpR (cmp_ok hu o) ha hb hm) two_cmp
theorem re_ix (hu : X.A.units + 65 < cLine) (ha : PE X a (tE F X xr W A)) (hb : PE X b (tE F X xr W B)) (hs : PlainIx b) : PE X (.Subscript a b pos) (tE F X xr W (.ix A B)) := by
  refine PE.mono (pe_ix (ix_ok hu) ha hb hs) (two (f := fun x y h2 => R.get (ixO h2 x y) h2) fun σ m h H x y d e Q S rx ry p => ?_)
  cases e1 : ixO h d e with
  | none => simp only [e1, R.get] at p; exact p.elim
  | some z =>
    simp only [e1, R.get] at p
    exact ⟨m, h, d, e, z, S, rx, ry, e1, fun u hu => Post.ok S (repB_of hu) p⟩
/-! ### lists of expressions -/
theorem ra_nil : PA X [] (tA F X xr W .nil) := ⟨fun pos pins s σ H Q I ⟨m, env, h, eR, S, p⟩ => pa_nil.run pos pins s σ H Q I (Post.ok (rel := relA X.K) S (show SReps X.K m H [] [] by simp only [SReps]) p)⟩
theorem ra_cons {es : List Expr} {Es : E} (ha : PE X a (tE F X xr W A)) (hr : PA X es (tA F X xr W Es)) (hs : starEach (a :: es) X.env = (false, eval a X.env) :: starEach es X.env) : PA X (a :: es) (tA F X xr W (.cons A Es)) := by
  refine PA.mono (pa_cons ha hr hs) fun σ H Q ⟨m, env, h, eR, S, p⟩ => ?_
  simp only [evs] at p
  refine ⟨m, env, h, eR, S, (Post.bind p).imp fun x H1 ⟨d, m1, h1, N1, r1, p1⟩ => ?_⟩
  obtain ⟨m2, N2, s2, G2⟩ := reg_ok N1 r1
  refine ⟨m2, env, (reg h1 d).2, eR.grow (N2.grow S), N2.sim, (Post.bind (Post.step relA.down N2 p1)).imp fun xs H3 ⟨ds, m3, h3, N3, r3, p3⟩ => ?_⟩
  refine Post.ok (rel := relA X.K) N3.sim ?_ (Post.step relA.down N3 p3)
  show SReps X.K m3 H3 ((reg h1 d).1 :: ds) (x :: xs)
  simp only [SReps]
  exact ⟨x, xs, rfl, SRep.grow (N3.grow N2.sim) _ _ s2, r3⟩
theorem ra_star {es : List Expr} {Es : E} {p : Pos} (ha : PE X a (tE F X xr W A)) (hr : PA X es (tA F X xr W Es)) : PA X (.Starred a p :: es) (tA F X xr W (.star A Es)) := by
  refine PA.mono (StX.pa_star ha hr) fun σ H Q ⟨m, env, h, eR, S, p⟩ => ?_
  simp only [evs] at p
  refine ⟨m, env, h, eR, S, (Post.bind p).imp fun x H1 ⟨d, m1, h1, N1, r1, p1⟩ => ?_⟩
  cases e : seqOf h1 d with
  | none => simp only [e] at p1; exact p1.elim
  | some ys =>
    simp only [e] at p1
    obtain ⟨p, vs, ex, q, z⟩ := seqOf_ok N1.sim e r1.1
    refine ⟨p, vs, ex, q.symm, m1, env, h1, eR.grow (N1.grow S), N1.sim, (Post.bind (Post.step relA.down N1 p1)).imp fun xs H3 ⟨ds, m3, h3, N3, r3, p3⟩ => ?_⟩
    refine Post.ok (rel := relA X.K) N3.sim ?_ (Post.step relA.down N3 p3)
    exact SReps.append (SReps.grow (N3.grow N1.sim) _ _ z) r3
theorem re_tup {es : List Expr} {Es : E} {k : Nat} (h : PA X es (tA F X xr W Es)) : PE X (.Tuple es k pos) (tE F X xr W (.tup Es)) := by
  refine ⟨fun pins s σ H Q I ⟨m, env, h0, eR, S, p⟩ => ?_⟩
  simp only [ev] at p
  refine wpAny_Tuple_spliced (thn (h.run pos pins s σ H _ I ⟨m, env, h0, eR, S, Post.bind p⟩) fun us s1 ⟨xs, H1, I1, r, ds, m1, h1, N1, r1, p1⟩ => ?_)
  split at p1
  · rename_i hl
    have hz : xs.length ≤ sizeLine := by rw [← SReps.length r1, ← lim_eq]; exact hl
    have hn : H1 s1.heap.objs.size = none := I1.hok.fresh (Nat.le_refl _)
    exact ⟨by rw [← r.length]; exact hz, .ref s1.heap.objs.size, _, lay_tup (t' := s1.toks) I1 r hz, rfl, (Post.step RepB.down N1 p1) _ _ m1 (Nx.new N1.sim hn) (rep_tupN us hn r1)⟩
  · exact p1.elim
theorem re_lst {es : List Expr} {Es : E} (h : PA X es (tA F X xr W Es)) : PE X (.List es pos) (tE F X xr W (.lst Es)) := by
  refine PE.mono (pe_lst h) fun σ H Q ⟨m, env, h0, eR, S, p⟩ => ?_
  simp only [ev] at p
  refine ⟨m, env, h0, eR, S, (Post.bind p).imp fun xs H1 ⟨ds, m1, h1, N1, r1, p1⟩ => ?_⟩
  split at p1
  · rename_i hl
    exact ⟨by rw [← SReps.length r1, ← lim_eq]; exact hl, fun q hq => (Post.step RepB.down N1 p1) _ _ m1 (Nx.new N1.sim hq) (rep_tl N1.sim hq r1)⟩
  · exact p1.elim
end
end Mp
end
section
set_option Elab.async false
set_option linter.all false
set_option maxRecDepth 100000
set_option maxHeartbeats 4000000
set_option autoImplicit false
/-! MpRule2: tests; not, and, or, if; chains; slices. -/
namespace Mp
open PySem PySem.Spec PyProof.Rows L2
section
variable {F : Nat → List D → Hd → R D} {X : Cx} {xr : XR} {W : WX} {a b c : Expr} {A B C : E} {pos : Pos}
/-- a test whose value's truth is asked -/
theorem rt_plain (ha : PE X a (tE F X xr W A)) (he : ∀ whole, isTrue a X.env whole = (do let v ← whole; standAt a.pos; holding [v] (truthy v))) : PT X a (tT F X xr W A) := by
  refine ⟨fun pins s σ H Q I ⟨m, env, h, eR, S, p⟩ => ?_⟩
  refine isTrue_plain (thn (ha.run pins s σ H _ I ⟨m, env, h, eR, S, Post.bind p⟩) fun v s1 ⟨x, H1, I1, r1, d, m1, h1, N1, q1, p1⟩ => ?_) (he _)
  cases e : truth h1 d with
  | none => rw [e] at p1; exact p1.elim
  | some k =>
    rw [e] at p1
    exact tru_all pins s1 σ H1 x v Q I1 r1 ⟨m1, h1, d, k, N1.sim, q1.1, e, Post.ok (rel := relB) N1.sim rfl (Post.step relB.down N1 p1)⟩
/-- a test out of a bool -/
theorem rt_bool (hp : ∀ env h, ∀ d h', ev F A env h = .ok d h' → ∃ k, d = .bl k) {t : TE} (ht : PT X a (tTest t)) (im : ∀ σ H Q, tE F X xr W A σ H Q → t σ H Q) : PT X a (tT F X xr W A) := by
  refine PT.mono ht fun σ H Q ⟨m, env, h, eR, S, p⟩ => ?_
  refine im σ H _ ⟨m, env, h, eR, S, ?_⟩
  unfold evT tst at p
  cases e : ev F A env h with
  | ok d h' =>
    obtain ⟨k, rfl⟩ := hp env h d h' e
    rw [e] at p
    intro b H' m' N r
    exact ⟨k, rep_bl r.1, p k H' m' N rfl⟩
  | ex c fs h' => rw [e] at p; exact p
  | no => rw [e] at p; exact p
theorem bind_ok {α β : Type} {r : R α} {f : α → Hd → R β} {d : β} {h' : Hd} (e : r.bind f = .ok d h') : ∃ a h1, r = .ok a h1 ∧ f a h1 = .ok d h' := by
  cases r with
  | ok a h1 => exact ⟨a, h1, rfl, e⟩
  | ex c fs h => cases e
  | no => cases e
theorem rt_cmp {o : Cm} (hu : X.A.units + 65 < cLine) (ha : PE X a (tE F X xr W A)) (hb : PE X b (tE F X xr W B)) (hm : behindInMarks (cmO o) b = false) : PT X (.Compare a [cmO o] [b] pos) (tT F X xr W (.cmp o A B)) := by
  refine rt_bool (fun env h d h' e => ?_) (pt_cmpR (cmp_ok hu o) ha hb hm) two_cmp
  simp only [ev] at e
  obtain ⟨x, h1, _, e⟩ := bind_ok e
  obtain ⟨y, h2, _, e⟩ := bind_ok e
  cases e1 : cmpO h2 o x y with
  | none => rw [e1] at e; cases e
  | some k =>
    rw [e1] at e
    cases e
    exact ⟨k, rfl⟩
/-- not -/
theorem re_not (ha : PE X a (tE F X xr W A)) : PE X (.UnaryOp .Not a pos) (tE F X xr W (.not A)) := by
  refine ⟨fun pins s σ H Q I ⟨m, env, h, eR, S, p⟩ => ?_⟩
  simp only [ev] at p
  refine UnaryOp_ (thn (ha.run pins s σ H _ I ⟨m, env, h, eR, S, Post.bind p⟩) fun v s1 ⟨x, H1, I1, r1, d, m1, h1, N1, q1, p1⟩ => ?_)
  cases e : truth h1 d with
  | none => rw [e] at p1; exact p1.elim
  | some k =>
    rw [e] at p1
    exact not_of (thn (tru_all pins s1 σ H1 x v (fun c H2 => Q (.bl (!c)) H2) I1 r1 ⟨m1, h1, d, k, N1.sim, q1.1, e, Post.ok N1.sim mk_bl (Post.step RepB.down N1 p1)⟩) fun c s2 ⟨H2, I2, q2⟩ => ⟨.bl (!c), H2, I2, rfl, q2⟩)
theorem rt_not (ha : PT X a (tT F X xr W A)) : PT X (.UnaryOp .Not a pos) (tT F X xr W (.not A)) := by
  refine PT.mono (pt_not ha) fun σ H Q ⟨m, env, h, eR, S, p⟩ => ⟨m, env, h, eR, S, ?_⟩
  simp only [evT, tst, ev] at p ⊢
  cases e : ev F A env h with
  | ok d h' =>
    rw [e] at p
    cases e1 : truth h' d with
    | none => simp only [R.bind, e1] at p; exact p.elim
    | some k =>
      simp only [R.bind, e1] at p ⊢
      have p2 : Post X.K X.w xr relB W m H σ (R.ok (!k) h') Q := p
      intro b H' m' N r
      cases r
      exact p2 (!k) H' m' N rfl
  | ex c fs h' => rw [e] at p; exact p
  | no => rw [e] at p; exact p
/-- and, or -/
theorem re_and {rest : List Expr} (ha : PE X a (tE F X xr W A)) (hb : PE X (.BoolOp .And (b :: rest) pos) (tE F X xr W B)) : PE X (.BoolOp .And (a :: b :: rest) pos) (tE F X xr W (.and A B)) := by
  refine ⟨fun pins s σ H Q I ⟨m, env, h, eR, S, p⟩ => ?_⟩
  simp only [ev] at p
  refine BoolOp_and (thn (ha.run pins s σ H _ I ⟨m, env, h, eR, S, Post.bind p⟩) fun v s1 ⟨x, H1, I1, r1, d, m1, h1, N1, q1, p1⟩ => ?_)
  cases e : truth h1 d with
  | none => rw [e] at p1; exact p1.elim
  | some k =>
    rw [e] at p1
    refine thn (tru_all pins s1 σ H1 x v (fun c H2 => c = k ∧ H2 = H1) I1 r1 ⟨m1, h1, d, k, N1.sim, q1.1, e, rfl, rfl⟩) fun c s2 ⟨H2, I2, e1, e2⟩ => ?_
    subst e1 e2
    cases c with
    | true => exact hb.run pins s2 σ H2 Q I2 ⟨m1, env, h1, eR.grow (N1.grow S), N1.sim, Post.step RepB.down N1 p1⟩
    | false => exact ⟨x, H2, I2, r1, p1 x H2 m1 N1 q1⟩
theorem re_or {rest : List Expr} (ha : PE X a (tE F X xr W A)) (hb : PE X (.BoolOp .Or (b :: rest) pos) (tE F X xr W B)) : PE X (.BoolOp .Or (a :: b :: rest) pos) (tE F X xr W (.or A B)) := by
  refine ⟨fun pins s σ H Q I ⟨m, env, h, eR, S, p⟩ => ?_⟩
  simp only [ev] at p
  refine BoolOp_or (thn (ha.run pins s σ H _ I ⟨m, env, h, eR, S, Post.bind p⟩) fun v s1 ⟨x, H1, I1, r1, d, m1, h1, N1, q1, p1⟩ => ?_)
  cases e : truth h1 d with
  | none => rw [e] at p1; exact p1.elim
  | some k =>
    rw [e] at p1
    refine thn (tru_all pins s1 σ H1 x v (fun c H2 => c = k ∧ H2 = H1) I1 r1 ⟨m1, h1, d, k, N1.sim, q1.1, e, rfl, rfl⟩) fun c s2 ⟨H2, I2, e1, e2⟩ => ?_
    subst e1 e2
    cases c with
    | false => exact hb.run pins s2 σ H2 Q I2 ⟨m1, env, h1, eR.grow (N1.grow S), N1.sim, Post.step RepB.down N1 p1⟩
    | true => exact ⟨x, H2, I2, r1, p1 x H2 m1 N1 q1⟩
/-- a test that holds whatever its whole is -/
theorem rw_one_and (ha : PT X a (tT F X xr W A)) : PW X (.BoolOp .And [a] pos) (tT F X xr W A) := pw_and1 ha
theorem PW.mono {e : Expr} {t t' : TT} (p : PW X e t) (f : ∀ σ H Q, t' σ H Q → t σ H Q) : PW X e t' := ⟨fun wh pins s σ H Q I q => p.run wh pins s σ H Q I (f σ H Q q)⟩
theorem two_and (σ : St) (H : Hp) (Q : Bool → Hp → Prop) (q : tT F X xr W (.and A B) σ H Q) : tAnd (tT F X xr W A) (tT F X xr W B) σ H Q := by
  obtain ⟨m, env, h, eR, S, p⟩ := q
  refine ⟨m, env, h, eR, S, ?_⟩
  simp only [evT, tst, ev] at p ⊢
  cases e : ev F A env h with
  | ok d h' =>
    rw [e] at p
    cases e1 : truth h' d with
    | none => simp only [R.bind, e1] at p; exact p.elim
    | some k =>
      simp only [R.bind, e1, R.get] at p ⊢
      intro b H' m' N r
      cases r
      cases k with
      | true => exact ⟨m', env, h', eR.grow (N.grow S), N.sim, Post.step relB.down N p⟩
      | false =>
        simp only [e1] at p
        exact p false H' m' N rfl
  | ex c fs h' => rw [e] at p; exact p
  | no => rw [e] at p; exact p
theorem two_or (σ : St) (H : Hp) (Q : Bool → Hp → Prop) (q : tT F X xr W (.or A B) σ H Q) : tOr (tT F X xr W A) (tT F X xr W B) σ H Q := by
  obtain ⟨m, env, h, eR, S, p⟩ := q
  refine ⟨m, env, h, eR, S, ?_⟩
  simp only [evT, tst, ev] at p ⊢
  cases e : ev F A env h with
  | ok d h' =>
    rw [e] at p
    cases e1 : truth h' d with
    | none => simp only [R.bind, e1] at p; exact p.elim
    | some k =>
      simp only [R.bind, e1, R.get] at p ⊢
      intro b H' m' N r
      cases r
      cases k with
      | false => exact ⟨m', env, h', eR.grow (N.grow S), N.sim, Post.step relB.down N p⟩
      | true =>
        simp only [e1] at p
        exact p true H' m' N rfl
  | ex c fs h' => rw [e] at p; exact p
  | no => rw [e] at p; exact p
theorem rw_and {rest : List Expr} (ha : PT X a (tT F X xr W A)) (hb : PW X (.BoolOp .And (b :: rest) pos) (tT F X xr W B)) : PW X (.BoolOp .And (a :: b :: rest) pos) (tT F X xr W (.and A B)) := PW.mono (pw_and ha hb) two_and
theorem rw_or {rest : List Expr} (ha : PT X a (tT F X xr W A)) (hb : PW X (.BoolOp .Or (b :: rest) pos) (tT F X xr W B)) : PW X (.BoolOp .Or (a :: b :: rest) pos) (tT F X xr W (.or A B)) := PW.mono (pw_or ha hb) two_or
/-- a if c else b -/
theorem re_ite (hc : PT X c (tT F X xr W C)) (ha : PE X a (tE F X xr W A)) (hb : PE X b (tE F X xr W B)) : PE X (.IfExp c a b pos) (tE F X xr W (.ite C A B)) := by
  refine PE.mono (pe_ifExp hc ha hb) fun σ H Q ⟨m, env, h, eR, S, p⟩ => ?_
  simp only [ev] at p
  refine ⟨m, env, h, eR, S, (Post.bind (rel := relB) p).imp fun k H1 ⟨k', m1, h1, N1, r1, p1⟩ => ?_⟩
  cases r1
  cases k with
  | true => exact ⟨m1, env, h1, eR.grow (N1.grow S), N1.sim, Post.step RepB.down N1 p1⟩
  | false => exact ⟨m1, env, h1, eR.grow (N1.grow S), N1.sim, Post.step RepB.down N1 p1⟩
/-- -a -/
theorem re_neg (ha : PE X a (tE F X xr W A)) : PE X (.UnaryOp .USub a pos) (tE F X xr W (.neg A)) := by
  refine PE.mono (pe_un L2.un_neg ha) (one (f := fun x h1 => match x with
    | .int i => .ok (.int (-i)) h1
    | _ => .no) fun σ m h H x d Q S rx p => ?_)
  cases d with
  | int i => exact ⟨i, rep_int rx, Post.ok S mk_int p⟩
  | _ => exact p.elim
/-- a op b op c -/
theorem two_chn {o p : Cm} (σ : St) (H : Hp) (Q : VK) (q : tE F X xr W (.chn o p A B C) σ H Q) : tChain (rc X.K X.w fun h => cmpO h o) (rc X.K X.w fun h => cmpO h p) (tE F X xr W A) (tE F X xr W B) (tE F X xr W C) σ H Q := by
  obtain ⟨m, env, h, eR, S, pp⟩ := q
  simp only [ev] at pp
  refine ⟨m, env, h, eR, S, (Post.bind pp).imp fun x H1 ⟨a', m1, h1, N1, r1, p1⟩ => ?_⟩
  refine ⟨m1, env, h1, eR.grow (N1.grow S), N1.sim, (Post.bind (Post.step RepB.down N1 p1)).imp fun y H2 ⟨b', m2, h2, N2, r2, p2⟩ => ?_⟩
  have p3 := Post.step RepB.down N2 p2
  cases e1 : cmpO h2 o a' b' with
  | none => simp only [e1] at p3; exact p3.elim
  | some k =>
    simp only [e1] at p3
    refine ⟨m2, h2, a', b', k, N2.sim, r1.1.grow N1.sim N2, r2.1, e1, k, rfl, ?_⟩
    have eR2 := (eR.grow (N1.grow S)).grow (N2.grow N1.sim)
    cases k with
    | true =>
      simp only [if_true]
      refine ⟨m2, env, h2, eR2, N2.sim, (Post.bind p3).imp fun z H3 ⟨c', m3, h3, N3, r3, p4⟩ => ?_⟩
      have p5 := Post.step RepB.down N3 p4
      cases e2 : cmpO h3 p b' c' with
      | none => simp only [e2] at p5; exact p5.elim
      | some j =>
        simp only [e2] at p5
        exact ⟨m3, h3, b', c', j, N3.sim, r2.1.grow N2.sim N3, r3.1, e2, Post.ok N3.sim mk_bl p5⟩
    | false =>
      simp only [Bool.false_eq_true, if_false]
      exact Post.ok N2.sim mk_bl p3
theorem re_chn {o p : Cm} (hu : X.A.units + 65 < cLine) (ha : PE X a (tE F X xr W A)) (hb : PE X b (tE F X xr W B)) (hc : PE X c (tE F X xr W C)) (hm : lastMarks [cmO o, cmO p] [b, c] = false) : PE X (.Compare a [cmO o, cmO p] [b, c] pos) (tE F X xr W (.chn o p A B C)) :=
  PE.mono (pe_chain (cmp_ok hu o) (cmp_ok hu p) ha hb hc hm) two_chn
theorem rt_chn {o p : Cm} (hu : X.A.units + 65 < cLine) (ha : PE X a (tE F X xr W A)) (hb : PE X b (tE F X xr W B)) (hc : PE X c (tE F X xr W C)) (hm : lastMarks [cmO o, cmO p] [b, c] = false) : PT X (.Compare a [cmO o, cmO p] [b, c] pos) (tT F X xr W (.chn o p A B C)) := by
  refine rt_bool (fun env h d h' e => ?_) (pt_chain (cmp_ok hu o) (cmp_ok hu p) ha hb hc hm) two_chn
  simp only [ev] at e
  obtain ⟨x, h1, _, e⟩ := bind_ok e
  obtain ⟨y, h2, _, e⟩ := bind_ok e
  cases e1 : cmpO h2 o x y with
  | none => rw [e1] at e; cases e
  | some k =>
    rw [e1] at e
    cases k with
    | false => cases e; exact ⟨false, rfl⟩
    | true =>
      simp only at e
      obtain ⟨z, h3, _, e⟩ := bind_ok e
      cases e2 : cmpO h3 p y z with
      | none => rw [e2] at e; cases e
      | some j => rw [e2] at e; cases e; exact ⟨j, rfl⟩
end
end Mp
end
section
set_option Elab.async false
set_option linter.all false
set_option maxRecDepth 100000
set_option maxHeartbeats 4000000
set_option autoImplicit false
/-! MpRule3: slices; calls of defs, of built-ins; isinstance; methods of lists. -/
namespace Mp
open PySem PySem.Spec PyProof.Rows L2
section
variable {F : Nat → List D → Hd → R D} {X : Cx} {xr : XR} {W : WX} {a b c : Expr} {A B C : E} {pos : Pos}
theorem int?_ok {d : D} {i : Int} (e : int? d = some i) : d = .int i := by
  cases d <;> first | (cases e; rfl) | cases e
theorem re_slN {p2 : Pos} (ha : PE X a (tE F X xr W A)) : PE X (.Subscript a (.Slice none none none p2) pos) (tE F X xr W (.slN A)) := by
  refine PE.mono (pe_slice (sl_ok (xr := xr) (W := W)) ha po_none po_none) fun σ H Q ⟨m, env, h, eR, S, p⟩ => ?_
  simp only [ev] at p
  refine ⟨m, env, h, eR, S, (Post.bind p).imp fun x H1 ⟨a', m1, h1, N1, r1, p1⟩ => ?_⟩
  exact ⟨σ, m1, h1, a', N1.sim, r1.1, Post.step RepB.down N1 p1⟩
theorem re_slL {p2 : Pos} (ha : PE X a (tE F X xr W A)) (hb : PE X b (tE F X xr W B)) : PE X (.Subscript a (.Slice (some b) none none p2) pos) (tE F X xr W (.slL A B)) := by
  refine PE.mono (pe_slice (sl_ok (xr := xr) (W := W)) ha (po_some hb) po_none) fun σ H Q ⟨m, env, h, eR, S, p⟩ => ?_
  simp only [ev] at p
  refine ⟨m, env, h, eR, S, (Post.bind p).imp fun x H1 ⟨a', m1, h1, N1, r1, p1⟩ => ?_⟩
  refine ⟨m1, env, h1, eR.grow (N1.grow S), N1.sim, (Post.bind (Post.step RepB.down N1 p1)).imp fun y H2 ⟨b', m2, h2, N2, r2, p2⟩ => ?_⟩
  cases e : int? b' with
  | none => simp only [e] at p2; exact p2.elim
  | some i =>
    simp only [e] at p2
    have eb := int?_ok e
    subst eb
    exact ⟨i, rep_int r2.1, σ, m2, h2, a', N2.sim, r1.1.grow N1.sim N2, Post.step RepB.down N2 p2⟩
theorem re_slH {p2 : Pos} (ha : PE X a (tE F X xr W A)) (hb : PE X b (tE F X xr W B)) : PE X (.Subscript a (.Slice none (some b) none p2) pos) (tE F X xr W (.slH A B)) := by
  refine PE.mono (pe_slice (sl_ok (xr := xr) (W := W)) ha po_none (po_some hb)) fun σ H Q ⟨m, env, h, eR, S, p⟩ => ?_
  simp only [ev] at p
  refine ⟨m, env, h, eR, S, (Post.bind p).imp fun x H1 ⟨a', m1, h1, N1, r1, p1⟩ => ?_⟩
  refine ⟨m1, env, h1, eR.grow (N1.grow S), N1.sim, (Post.bind (Post.step RepB.down N1 p1)).imp fun y H2 ⟨b', m2, h2, N2, r2, p2⟩ => ?_⟩
  cases e : int? b' with
  | none => simp only [e] at p2; exact p2.elim
  | some i =>
    simp only [e] at p2
    have eb := int?_ok e
    subst eb
    exact ⟨i, rep_int r2.1, σ, m2, h2, a', N2.sim, r1.1.grow N1.sim N2, Post.step RepB.down N2 p2⟩
theorem re_slB {p2 : Pos} (ha : PE X a (tE F X xr W A)) (hb : PE X b (tE F X xr W B)) (hc : PE X c (tE F X xr W C)) : PE X (.Subscript a (.Slice (some b) (some c) none p2) pos) (tE F X xr W (.slB A B C)) := by
  refine PE.mono (pe_slice (sl_ok (xr := xr) (W := W)) ha (po_some hb) (po_some hc)) fun σ H Q ⟨m, env, h, eR, S, p⟩ => ?_
  simp only [ev] at p
  refine ⟨m, env, h, eR, S, (Post.bind p).imp fun x H1 ⟨a', m1, h1, N1, r1, p1⟩ => ?_⟩
  refine ⟨m1, env, h1, eR.grow (N1.grow S), N1.sim, (Post.bind (Post.step RepB.down N1 p1)).imp fun y H2 ⟨b', m2, h2, N2, r2, p2⟩ => ?_⟩
  cases e : int? b' with
  | none => simp only [e] at p2; exact p2.elim
  | some i =>
    simp only [e] at p2
    have eb := int?_ok e
    subst eb
    refine ⟨i, rep_int r2.1, m2, env, h2, (eR.grow (N1.grow S)).grow (N2.grow N1.sim), N2.sim, (Post.bind (Post.step RepB.down N2 p2)).imp fun z H3 ⟨c', m3, h3, N3, r3, p3⟩ => ?_⟩
    cases e2 : int? c' with
    | none => simp only [e2] at p3; exact p3.elim
    | some j =>
      simp only [e2] at p3
      have ec := int?_ok e2
      subst ec
      exact ⟨j, rep_int r3.1, σ, m3, h3, a', N3.sim, (r1.1.grow N1.sim N2).grow N2.sim N3, Post.step RepB.down N3 p3⟩
/-! ### calls -/
/-- the i-th def, called by the name x -/
def FnAt (F : Nat → List D → Hd → R D) (X : Cx) (xr : XR) (i : Nat) (x : Str) : Prop := ∃ (k : Nat) (f : Addr) (fd : FuncData) (ps : List Str) (sp : Sp), FnOk X.prog X.w X.K X.mg X.base (L2N.CX X.prog X.w) k f fd ps sp ∧ Room k X.A ∧ X.mg x = some (.ref f) ∧ PySem.W.keepIn X.K (.ref f) = true ∧ Binds X.K fd ps [] ∧
  ∀ (m : List Addr) (h : Hd) (H : Hp) (ds : List D) (vs : List V) (Q : VK) (E : XK), Sim X.K X.w m H h → SReps X.K m H ds vs → Post X.K X.w xr (RepB X.K X.w) (fun c d _ H => E c d H) m H [] (F i ds h) Q → sp vs H Q E
theorem re_cal {es : List Expr} {Es : E} {i : Nat} {x : Str} {p : Pos} (tk : L2N.Takes X W) (f : FnAt F X xr i x) (hg : Gl X x) (hdb : (x == ("__debug__" : Str)) = false) (hr : PA X (a :: es) (tA F X xr W Es)) (he : starEach (a :: es) X.env = (false, eval a X.env) :: starEach es X.env)
    (hpl : (backTo pos (starEach es X.env)).any (·.1) = false) : PE X (.Call (.Name x p) (a :: es) [] pos) (tE F X xr W (.cal i Es)) := by
  obtain ⟨k, fa, fd, ps, sp, f1, f2, f3, f4, f5, f6⟩ := f
  refine PE.mono (pe_callS f1 f2 hg f3 f4 f5 (L2N.passAt tk) hr hdb he hpl) fun σ H Q ⟨m, env, h, eR, S, p⟩ => ?_
  simp only [ev] at p
  refine ⟨m, env, h, eR, S, (Post.bind p).imp fun vs H1 ⟨ds, m1, h1, N1, r1, p1⟩ => ?_⟩
  exact f6 m1 h1 H1 ds vs Q (WE W σ) N1.sim r1 (Post.step RepB.down N1 p1)
theorem re_cal0 {i : Nat} {x : Str} {p : Pos} (tk : L2N.Takes X W) (f : FnAt F X xr i x) (hg : Gl X x) (hdb : (x == ("__debug__" : Str)) = false) : PE X (.Call (.Name x p) [] [] pos) (tE F X xr W (.cal i .nil)) := by
  obtain ⟨k, fa, fd, ps, sp, f1, f2, f3, f4, f5, f6⟩ := f
  refine ⟨fun pins s σ H Q I ⟨m, env, h, eR, S, p⟩ => ?_⟩
  refine wpAny_Call_Name_kw (ld_glob I hg f3 ?_ hdb)
  exact PySem.W.callWith_K0 I.kIn f4 (run_fnS (us := []) f1 f2 f5 (L2N.passAt tk σ) I .nil (f6 m h H [] [] Q (WE W σ) S (by simp only [SReps]) p))
end
end Mp
end
section
set_option Elab.async false
set_option linter.all false
set_option maxRecDepth 100000
set_option maxHeartbeats 4000000
set_option autoImplicit false
/-! MpRule4: calls of built-ins; isinstance; methods of lists. -/
namespace Mp
open PySem PySem.Spec PyProof.Rows L2
/-- the built-in's name -/
def biN : Bi → Str
  | .len => "len" | .all => "all" | .any => "any" | .list => "list" | .tuple => "tuple" | .dict => "dict"
  | .sorted => "sorted" | .sum => "sum" | .int => "int" | .abs => "abs" | .str => "str"
theorem boot_bi (b : Bi) : bootBuiltins (biN b) = some (biV b) ∧ biN b ≠ "__name__" ∧ (biN b == ("__debug__" : Str)) = false := by
  cases b <;> decide +kernel
theorem boot_ty (t : Ty) : bootBuiltins (Str.ofString (tyN t)) = some (.type (tyN t)) ∧ Str.ofString (tyN t) ≠ "__name__" ∧ (Str.ofString (tyN t) == ("__debug__" : Str)) = false := by
  cases t <;> decide +kernel
theorem boot_isi : bootBuiltins ("isinstance" : Str) = some (.builtin "isinstance") := by decide +kernel
section
variable {F : Nat → List D → Hd → R D} {X : Cx} {xr : XR} {W : WX} {a b c : Expr} {A B C : E} {pos : Pos}
theorem re_bif {bi : Bi} {p : Pos} (hc : X.calm = true) (hu : X.A.units + 65 < cLine) (ok : biOk bi = true) (hg : Gl X (biN bi)) (hm : X.mg (biN bi) = none) (ha : PE X a (tE F X xr W A))
    (he : starEach [a] X.env = (false, eval a X.env) :: starEach [] X.env) : PE X (.Call (.Name (biN bi) p) [a] [] pos) (tE F X xr W (.bif bi A)) := by
  obtain ⟨h1, h2, h3⟩ := boot_bi bi
  have cr := call_bif (xr := xr) (W := W) hc hu ok
  have im : ∀ σ H Q, tE F X xr W (.bif bi A) σ H Q → tCB (r1 X.K X.w xr W fun h => bifO h bi) (tCons (tE F X xr W A) tNil) σ H Q := by
    intro σ H Q ⟨m, env, h, eR, S, p⟩
    simp only [ev] at p
    refine ⟨m, env, h, eR, S, (Post.bind p).imp fun x H1 ⟨a', m1, h1, N1, r1, p1⟩ => ?_⟩
    exact ⟨x, σ, m1, h1, a', rfl, N1.sim, r1.1, Post.step RepB.down N1 p1⟩
  have hb : (∃ id, biV bi = .builtin id) ∨ ∃ T, biV bi = .type T := by cases bi <;> first | exact .inl ⟨_, rfl⟩ | exact .inr ⟨_, rfl⟩
  rcases hb with ⟨id, e⟩ | ⟨T, e⟩
  · rw [e] at cr h1
    exact PE.mono (pe_callB cr hg hm h1 (pa_cons ha pa_nil he) h2 h3 he (by rfl)) im
  · rw [e] at cr h1
    exact PE.mono (pe_callTy cr hg hm h1 (pa_cons ha pa_nil he) h2 h3 he (by rfl)) im
def rIs (K : PySem.W.Frag) (w : World) (t : Ty) : List V → Hp → VK → Prop := fun xs H Q => ∃ (x : V) (m : List Addr) (h : Hd) (a : D) (k : Bool), xs = [x, .ty (tyN t)] ∧ Sim K w m H h ∧ Rep K w m H a x ∧ isTy h a t = some k ∧ Q (.bl k) H
theorem call_is {t : Ty} : CallR X (.builtin "isinstance") (rIs X.K X.w t) := by
  intro pins s σ H xs us Q I r ⟨x, m, h, a, k, ex, S, ra, e, q⟩
  subst ex
  obtain ⟨u1, u2, rfl, r1, r2⟩ := vals2 r
  cases (show u2 = Value.type (tyN t) from r2)
  exact isi_ok I r1 S ra e q
theorem re_isi {t : Ty} {p p2 : Pos} (hg : Gl X "isinstance") (hm : X.mg "isinstance" = none) (hg2 : Gl X (Str.ofString (tyN t))) (hm2 : X.mg (Str.ofString (tyN t)) = none) (ha : PE X a (tE F X xr W A))
    (he : starEach [a, .Name (Str.ofString (tyN t)) p2] X.env = (false, eval a X.env) :: starEach [.Name (Str.ofString (tyN t)) p2] X.env) : PE X (.Call (.Name "isinstance" p) [a, .Name (Str.ofString (tyN t)) p2] [] pos) (tE F X xr W (.isi A t)) := by
  obtain ⟨h1, h2, h3⟩ := boot_ty t
  refine PE.mono (pe_callB (call_is (t := t)) hg hm boot_isi (pa_cons ha (pa_cons (pe_bltn (v := .ty (tyN t)) hg2 hm2 h1 rfl h2 h3) pa_nil (by rfl)) he) (by decide +kernel) (by decide +kernel) he (by rfl)) fun σ H Q ⟨m, env, h, eR, S, p⟩ => ?_
  simp only [ev] at p
  refine ⟨m, env, h, eR, S, (Post.bind p).imp fun x H1 ⟨a', m1, h1, N1, r1, p1⟩ => ?_⟩
  cases e : isTy h1 a' t with
  | none => simp only [e] at p1; exact p1.elim
  | some k =>
    simp only [e] at p1
    exact ⟨x, m1, h1, a', k, rfl, N1.sim, r1.1, e, Post.ok N1.sim mk_bl (Post.step RepB.down N1 p1)⟩
/-! ### methods of lists -/
/-- a method's reading, by data -/
def rM (K : PySem.W.Frag) (w : World) (xr : XR) (W : WX) (me : Me) : V → List V → Hp → VK → Prop := fun x xs H Q => ∃ (σ : St) (m : List Addr) (h : Hd) (a : D) (ds : List D), Sim K w m H h ∧ Rep K w m H a x ∧ SReps K m H ds xs ∧ Post K w xr (RepB K w) W m H σ (metO h me a ds) Q
theorem lst_at {K : PySem.W.Frag} {w : World} {m : List Addr} {H : Hp} {h : Hd} {n : Nat} {x : V} {xs : List D} (S : Sim K w m H h) (r : Rep K w m H (.ref n) x) (e : h[n]? = some (.lst xs)) : ∃ a vs, x = .ref a ∧ m[n]? = some a ∧ H a = some (.lst vs) ∧ SReps K m H xs vs := by
  obtain ⟨a, q, ex⟩ := rep_ref r
  obtain ⟨vs, q1, q2⟩ := S.ob n _ a e q
  exact ⟨a, vs, ex, q, q1, q2⟩
theorem m_append : MtM X "list.append" (rM X.K X.w xr W .append) := by
  intro pins s σ H x xs v us Q I rx rv ⟨σ0, m, h, a, ds, S, ra, rs, p⟩
  match a, ds, p with
  | .ref n, [d], p =>
    simp only [metO] at p
    cases e : h[n]? with
    | none => simp only [e] at p; exact p.elim
    | some o =>
      cases o with
      | dic _ _ => simp only [e] at p; exact p.elim
      | lst ys =>
        simp only [e] at p
        split at p
        · rename_i hl
          obtain ⟨l, vs, ex, hm, hH, z⟩ := lst_at S ra e
          obtain ⟨y, exs, ry⟩ := rs.one
          refine mt_append pins s σ H x xs v us Q I rx rv ⟨l, vs, y, ex, exs, hH, by rw [← z.length, ← lim_eq]; exact hl, ?_⟩
          refine p .non _ m (Nx.writeL S hm (z.append ?_)) mk_non
          simp only [SReps]
          exact ⟨y, [], rfl, ry, rfl⟩
        · exact p.elim
theorem m_extend : MtM X "list.extend" (rM X.K X.w xr W .extend) := by
  intro pins s σ H x xs v us Q I rx rv ⟨σ0, m, h, a, ds, S, ra, rs, p⟩
  match a, ds, p with
  | .ref n, [d], p =>
    simp only [metO] at p
    cases e : h[n]? with
    | none => simp only [e] at p; exact p.elim
    | some o =>
      cases o with
      | dic _ _ => simp only [e] at p; exact p.elim
      | lst ys =>
        simp only [e] at p
        cases e2 : ownOf h d with
        | none => simp only [e2] at p; exact p.elim
        | some zs =>
          simp only [e2] at p
          split at p
          · rename_i hl
            obtain ⟨l, vs, ex, hm, hH, z⟩ := lst_at S ra e
            obtain ⟨y, exs, ry⟩ := rs.one
            obtain ⟨b, ws, ey, hB, z2⟩ := ownOf_ok S e2 (rep_of ry)
            refine mt_extend pins s σ H x xs v us Q I rx rv ⟨l, b, vs, ws, ex, by rw [exs, ey], hH, hB, by rw [← z.length, ← z2.length, ← lim_eq]; exact hl, ?_⟩
            exact p .non _ m (Nx.writeL S hm (z.append z2)) mk_non
          · exact p.elim
theorem m_pop : MtM X "list.pop" (rM X.K X.w xr W .pop) := by
  intro pins s σ H x xs v us Q I rx rv ⟨σ0, m, h, a, ds, S, ra, rs, p⟩
  match a, ds, p with
  | .ref n, [], p =>
    simp only [metO] at p
    cases e : h[n]? with
    | none => simp only [e] at p; exact p.elim
    | some o =>
      cases o with
      | dic _ _ => simp only [e] at p; exact p.elim
      | lst ys =>
        simp only [e] at p
        cases e2 : ys[ys.length - 1]? with
        | none => simp only [e2] at p; exact p.elim
        | some d =>
          simp only [e2] at p
          obtain ⟨l, vs, ex, hm, hH, z⟩ := lst_at S ra e
          simp only [SReps] at rs
          obtain ⟨y, g1, g2⟩ := SReps.get z e2
          rw [z.length] at g1
          refine mt_pop pins s σ H x xs v us Q I rx rv ⟨l, vs, y, ex, rs, hH, g1, ?_⟩
          exact p y _ m (Nx.writeL S hm z.dropLast) (repB_of (SRep.grow (Grow.write S (List.mem_of_getElem? hm)) _ _ g2))
theorem m_popAt : MtM X "list.pop" (rM X.K X.w xr W .popAt) := by
  intro pins s σ H x xs v us Q I rx rv ⟨σ0, m, h, a, ds, S, ra, rs, p⟩
  match a, ds, p with
  | .ref n, [.int i], p =>
    simp only [metO] at p
    cases e : h[n]? with
    | none => simp only [e] at p; exact p.elim
    | some o =>
      cases o with
      | dic _ _ => simp only [e] at p; exact p.elim
      | lst ys =>
        simp only [e] at p
        cases e1 : ixN ys.length i with
        | none => simp only [e1] at p; exact p.elim
        | some k =>
          simp only [e1] at p
          cases e2 : ys[k]? with
          | none => simp only [e2] at p; exact p.elim
          | some d =>
            simp only [e2] at p
            obtain ⟨l, vs, ex, hm, hH, z⟩ := lst_at S ra e
            obtain ⟨y, exs, ry⟩ := rs.one
            have ei := rep_int (rep_of (w := X.w) ry)
            subst ei
            obtain ⟨y2, g1, g2⟩ := SReps.get z e2
            rw [ixN_same, z.length] at e1
            obtain ⟨j1, j2, j3, j4⟩ := ixN_seq e1
            obtain ⟨zl, its, n', r', hl, _⟩ := I.lstM hH
            have hn := line63
            refine mt_popAt pins s σ H x xs v us Q I rx rv ⟨l, vs, i, k, y2, ex, exs, hH, by omega, by omega, j1, g1, ?_⟩
            exact p y2 _ m (Nx.writeL S hm (z.erase k)) (repB_of (SRep.grow (Grow.write S (List.mem_of_getElem? hm)) _ _ g2))
end
end Mp
end
section
set_option Elab.async false
set_option linter.all false
set_option maxRecDepth 100000
set_option maxHeartbeats 4000000
set_option autoImplicit false
/-! MpRule5: methods called. -/
namespace Mp
open PySem PySem.Spec PyProof.Rows L2
section
variable {F : Nat → List D → Hd → R D} {X : Cx} {xr : XR} {W : WX} {a b c : Expr} {A B C : E} {pos : Pos}
theorem metP_lst {h : Hd} {me : Me} {n : Nat} (hme : me = .append ∨ me = .extend ∨ me = .pop ∨ me = .popAt) (e : metP h me (.ref n) = true) : ∃ xs, h[n]? = some (.lst xs) := by
  rcases hme with rfl | rfl | rfl | rfl <;>
    (simp only [metP] at e
     split at e
     · exact ⟨_, by assumption⟩
     · cases e)
theorem metP_ref {h : Hd} {me : Me} {x : D} (hme : me = .append ∨ me = .extend ∨ me = .pop ∨ me = .popAt) (e : metP h me x = true) : ∃ n, x = .ref n := by
  rcases hme with rfl | rfl | rfl | rfl <;> (cases x <;> first | exact ⟨_, rfl⟩ | cases e)
/-- o.m(e) of a list -/
theorem re_met1 {me : Me} {name : Str} {id : String} {x : Str} {p apos : Pos} (hme : me = .append ∨ me = .extend ∨ me = .pop ∨ me = .popAt) (slot : Slot "list" name id) (hty : typeOf (.builtin id) = pure (.type "method_descriptor")) (hm : MtM X id (rM X.K X.w xr W me))
    (ho : PE X (.Name x p) (tE F X xr W A)) (hb : PE X b (tE F X xr W B)) (hs : starEach [b] X.env = (false, eval b X.env) :: starEach [] X.env) (hl : (apos.endLine == pos.line) = true) :
    PE X (.Call (.Attribute (.Name x p) name apos) [b] [] pos) (tE F X xr W (.met me A (.cons B .nil))) := by
  refine PE.mono (pe_bm PySem.F.plainAttrs_list slot hty hm ho (ra_cons hb ra_nil hs) (by rfl) (by rw [hs]; rfl) hl hs (by rfl)) fun σ H Q ⟨m, env, h, eR, S, p⟩ => ?_
  simp only [ev] at p
  refine ⟨m, env, h, eR, S, (Post.bind p).imp fun x H1 ⟨a', m1, h1, N1, r1, p1⟩ => ?_⟩
  cases ep : metP h1 me a' with
  | false => rw [ep] at p1; simp only [Bool.false_eq_true, if_false] at p1; exact p1.elim
  | true =>
    rw [ep] at p1
    simp only [if_true] at p1
    obtain ⟨n, rfl⟩ := metP_ref hme ep
    obtain ⟨xs, e⟩ := metP_lst hme ep
    obtain ⟨l, vs, ex, _, hH, _⟩ := lst_at N1.sim r1.1 e
    refine ⟨by rw [ex]; exact .inl ⟨rfl, vs, .inl (.inl hH)⟩, m1, env, h1, eR.grow (N1.grow S), N1.sim, (Post.bind (Post.step RepB.down N1 p1)).imp fun us H2 ⟨ds, m2, h2, N2, r2, p2⟩ => ?_⟩
    exact ⟨σ, m2, h2, .ref n, ds, N2.sim, r1.1.grow N1.sim N2, r2, Post.step RepB.down N2 p2⟩
/-- o.m() of a list -/
theorem re_met0 {me : Me} {name : Str} {id : String} {x : Str} {p apos : Pos} (hme : me = .append ∨ me = .extend ∨ me = .pop ∨ me = .popAt) (slot : Slot "list" name id) (hty : typeOf (.builtin id) = pure (.type "method_descriptor")) (hm : MtM X id (rM X.K X.w xr W me))
    (ho : PE X (.Name x p) (tE F X xr W A)) (hl : (apos.endLine == pos.line) = true) :
    PE X (.Call (.Attribute (.Name x p) name apos) [] [] pos) (tE F X xr W (.met me A .nil)) := by
  refine PE.mono (pe_bm0 PySem.F.plainAttrs_list slot hty hm ho (by rfl) hl) fun σ H Q ⟨m, env, h, eR, S, p⟩ => ?_
  simp only [ev] at p
  refine ⟨m, env, h, eR, S, (Post.bind p).imp fun x H1 ⟨a', m1, h1, N1, r1, p1⟩ => ?_⟩
  cases ep : metP h1 me a' with
  | false => rw [ep] at p1; simp only [Bool.false_eq_true, if_false] at p1; exact p1.elim
  | true =>
    rw [ep] at p1
    simp only [if_true, evs, R.bind] at p1
    obtain ⟨n, rfl⟩ := metP_ref hme ep
    obtain ⟨xs, e⟩ := metP_lst hme ep
    obtain ⟨l, vs, ex, _, hH, _⟩ := lst_at N1.sim r1.1 e
    exact ⟨by rw [ex]; exact .inl ⟨rfl, vs, .inl (.inl hH)⟩, σ, m1, h1, .ref n, [], N1.sim, r1.1, by simp only [SReps], Post.step RepB.down N1 p1⟩
theorem re_append {x : Str} {p apos : Pos} (ho : PE X (.Name x p) (tE F X xr W A)) (hb : PE X b (tE F X xr W B)) (hs : starEach [b] X.env = (false, eval b X.env) :: starEach [] X.env) (hl : (apos.endLine == pos.line) = true) :
    PE X (.Call (.Attribute (.Name x p) "append" apos) [b] [] pos) (tE F X xr W (.met .append A (.cons B .nil))) := re_met1 (.inl rfl) PySem.F.slot_list_append PySem.F.type_list_append m_append ho hb hs hl
theorem re_extend {x : Str} {p apos : Pos} (ho : PE X (.Name x p) (tE F X xr W A)) (hb : PE X b (tE F X xr W B)) (hs : starEach [b] X.env = (false, eval b X.env) :: starEach [] X.env) (hl : (apos.endLine == pos.line) = true) :
    PE X (.Call (.Attribute (.Name x p) "extend" apos) [b] [] pos) (tE F X xr W (.met .extend A (.cons B .nil))) := re_met1 (.inr (.inl rfl)) PySem.F.slot_list_extend PySem.F.type_list_extend m_extend ho hb hs hl
theorem re_popAt {x : Str} {p apos : Pos} (ho : PE X (.Name x p) (tE F X xr W A)) (hb : PE X b (tE F X xr W B)) (hs : starEach [b] X.env = (false, eval b X.env) :: starEach [] X.env) (hl : (apos.endLine == pos.line) = true) :
    PE X (.Call (.Attribute (.Name x p) "pop" apos) [b] [] pos) (tE F X xr W (.met .popAt A (.cons B .nil))) := re_met1 (.inr (.inr (.inr rfl))) PySem.F.slot_list_pop PySem.F.type_list_pop m_popAt ho hb hs hl
theorem re_pop {x : Str} {p apos : Pos} (ho : PE X (.Name x p) (tE F X xr W A)) (hl : (apos.endLine == pos.line) = true) :
    PE X (.Call (.Attribute (.Name x p) "pop" apos) [] [] pos) (tE F X xr W (.met .pop A .nil)) := re_met0 (.inr (.inr (.inl rfl))) PySem.F.slot_list_pop PySem.F.type_list_pop m_pop ho hl
end
end Mp
end
section
set_option Elab.async false
set_option linter.all false
set_option maxRecDepth 100000
set_option maxHeartbeats 4000000
set_option autoImplicit false
/-! MpWalk: what is walked; targets. -/
namespace Mp
open PySem PySem.Spec PyProof.Rows L2
theorem lnat_eq : ∀ (a b : List Nat), lnat a b = true → a = b
  | [], [], _ => rfl
  | [], _ :: _, h => by cases h
  | _ :: _, [], h => by cases h
  | a :: as, b :: bs, h => by
    simp only [lnat, Bool.and_eq_true] at h
    rw [Nat.eq_of_beq_eq_true h.1, lnat_eq as bs h.2]
mutual
theorem same_eq : ∀ (a b : D), D.same a b = true → a = b
  | .non, b, h => by cases b <;> first | rfl | cases h
  | .bl x, b, h => by
    cases b <;> first | cases h | skip
    simp only [D.same, beq_iff_eq] at h
    rw [h]
  | .int x, b, h => by
    cases b <;> first | cases h | skip
    simp only [D.same, decide_eq_true_eq] at h
    rw [h]
  | .str x, b, h => by
    cases b <;> first | cases h | skip
    simp only [D.same] at h
    rw [lnat_eq _ _ h]
  | .tup x, b, h => by
    cases b <;> first | cases h | skip
    simp only [D.same] at h
    rw [sames_eq _ _ h]
  | .lck x, b, h => by
    cases b <;> first | cases h | skip
    simp only [D.same] at h
    rw [sames_eq _ _ h]
  | .ref x, b, h => by
    cases b <;> first | cases h | skip
    simp only [D.same] at h
    rw [Nat.eq_of_beq_eq_true h]
  | .tl x, b, h => by
    cases b <;> first | cases h | skip
    simp only [D.same] at h
    rw [sames_eq _ _ h]
  | .td x y, b, h => by
    cases b <;> first | cases h | skip
    simp only [D.same, Bool.and_eq_true] at h
    rw [sames_eq _ _ h.1, sames_eq _ _ h.2]
  | .exn c x, b, h => by
    cases b <;> first | cases h | skip
    simp only [D.same, Bool.and_eq_true] at h
    rw [Nat.eq_of_beq_eq_true h.1, sames_eq _ _ h.2]
theorem sames_eq : ∀ (a b : List D), D.sames a b = true → a = b
  | [], [], _ => rfl
  | [], _ :: _, h => by simp [D.sames] at h
  | _ :: _, [], h => by simp [D.sames] at h
  | a :: as, b :: bs, h => by
    simp only [D.sames, Bool.and_eq_true] at h
    rw [same_eq a b h.1, sames_eq as bs h.2]
end
theorem gOk_at {h : Hd} {n : Nat} {xs : List D} {gs : Gs} (e : gOk h ((n, xs) :: gs) = true) : h[n]? = some (.lst xs) ∧ gOk h gs = true := by
  simp only [gOk, Bool.and_eq_true] at e
  obtain ⟨e1, e2⟩ := e
  refine ⟨?_, e2⟩
  split at e1
  · rename_i ys hh
    rw [hh, sames_eq _ _ e1]
  · cases e1
theorem gOk_append {h : Hd} : ∀ {a b : Gs}, gOk h (a ++ b) = true → gOk h a = true ∧ gOk h b = true
  | [], b, e => ⟨rfl, e⟩
  | x :: a, b, e => by
    obtain ⟨n, xs⟩ := x
    simp only [List.cons_append, gOk, Bool.and_eq_true] at e ⊢
    obtain ⟨h1, h2⟩ := gOk_append (a := a) (b := b) e.2
    exact ⟨⟨e.1, h1⟩, h2⟩
section
variable {K : PySem.W.Frag} {w : World} {m m1 : List Addr} {H H1 : Hp} {h h1 : Hd}
/-- a tuple that need not be known to have no dict, or a thing -/
def TRep (K : PySem.W.Frag) (m : List Addr) (H : Hp) : D → V → Prop
  | .tup xs, v => ∃ a vs, v = .ref a ∧ SqT K H a vs ∧ SReps K m H xs vs
  | d, v => SRep K m H d v
theorem TRep.of {d : D} {v : V} (r : SRep K m H d v) : TRep K m H d v := by
  cases d with
  | tup xs =>
    simp only [SRep] at r
    obtain ⟨a, vs, e, q, z⟩ := r
    exact ⟨a, vs, e, q.sq, z⟩
  | _ => exact r
/-- the iterator gives ds, one behind another, while gs stands -/
def Wk (K : PySem.W.Frag) (w : World) (J : It) (m : List Addr) (H : Hp) (ds : List D) (gs : Gs) : Prop := ∀ (m' : List Addr) (h' : Hd) (H' : Hp), Nx K w m H m' h' H' → gOk h' gs = true →
  (∀ i d, ds[i]? = some d → J.go i H' ∧ ∀ x H2, J.yld i H' x H2 → Nx K w m' H' m' h' H2 ∧ SRep K m' H2 d x) ∧ J.stop ds.length H'
/-- .. in pairs that are unpacked -/
def WkT (K : PySem.W.Frag) (w : World) (J : It) (m : List Addr) (H : Hp) (ds : List D) (gs : Gs) : Prop := ∀ (m' : List Addr) (h' : Hd) (H' : Hp), Nx K w m H m' h' H' → gOk h' gs = true →
  (∀ i d, ds[i]? = some d → J.go i H' ∧ ∀ x H2, J.yld i H' x H2 → Nx K w m' H' m' h' H2 ∧ TRep K m' H2 d x) ∧ J.stop ds.length H'
theorem Wk.t {J : It} {ds : List D} {gs : Gs} (k : Wk K w J m H ds gs) : WkT K w J m H ds gs := fun m' h' H' N g => by
  obtain ⟨k1, k2⟩ := k m' h' H' N g
  refine ⟨fun i d e => ?_, k2⟩
  obtain ⟨q1, q2⟩ := k1 i d e
  refine ⟨q1, fun x H2 y => ?_⟩
  obtain ⟨q3, q4⟩ := q2 x H2 y
  exact ⟨q3, TRep.of q4⟩
def relI (K : PySem.W.Frag) (w : World) : Rel (List D × Gs) It := fun _ m H p J => Wk K w J m H p.1 p.2
def relIT (K : PySem.W.Frag) (w : World) : Rel (List D × Gs) It := fun _ m H p J => WkT K w J m H p.1 p.2
theorem relI.down : DownR (relI K w) := fun _ _ _ _ _ _ _ q => q
theorem relIT.down : DownR (relIT K w) := fun _ _ _ _ _ _ _ q => q
/-- a list or a tuple, held -/
theorem seq_held (S : Sim K w m H h) {d : D} {v : V} {xs : List D} (e : seqOf h d = some xs) (r : Rep K w m H d v) {m' : List Addr} {h' : Hd} {H' : Hp} (N : Nx K w m H m' h' H') (g : gOk h' (gOf d xs) = true) :
    seqOf h' d = some xs ∧ Rep K w m' H' d v := by
  refine ⟨?_, r.grow S N⟩
  cases d with
  | ref n =>
    obtain ⟨e2, _⟩ := gOk_at (gs := []) g
    simp only [seqOf, e2]
  | _ => exact e
theorem wk_seq (S : Sim K w m H h) {d : D} {xs : List D} {a : Addr} (e : seqOf h d = some xs) (r : Rep K w m H d (.ref a)) :
    ((∃ vs, SqL K H a vs) → lstOf h d = some xs → Wk K w (Itl K a) m H xs (gOf d xs)) ∧ (d = .tup xs → Wk K w (Itt K a) m H xs (gOf d xs)) := by
  refine ⟨fun ⟨vs0, q0⟩ el m' h' H' N g => ?_, fun ed m' h' H' N g => ?_⟩
  · obtain ⟨e', r'⟩ := seq_held S e r N g
    have el' : lstOf h' d = some xs := by
      rcases seq_cases e' with z | z
      · subst z; cases el
      · exact z
    obtain ⟨b, vs, ex, q, z⟩ := lstOf_ok N.sim el' r'
    cases ex
    refine ⟨fun i d e => ?_, ⟨vs, q, by rw [z.length]; exact Nat.le_refl _⟩⟩
    obtain ⟨v, g1, g2⟩ := SReps.get z e
    refine ⟨⟨vs, v, q, g1⟩, fun x H2 ⟨eH, y⟩ => ?_⟩
    subst eH
    have y1 := y vs q
    rw [g1] at y1
    cases y1
    exact ⟨Nx.refl N.sim, g2⟩
  · subst ed
    obtain ⟨e', r'⟩ := seq_held S e r N g
    obtain ⟨b, vs, ex, q, z⟩ := rep_tup r'
    cases ex
    refine ⟨fun i d e => ?_, ⟨vs, q, by rw [z.length]; exact Nat.le_refl _⟩⟩
    obtain ⟨v, g1, g2⟩ := SReps.get z e
    refine ⟨⟨vs, v, q, g1⟩, fun x H2 ⟨eH, y⟩ => ?_⟩
    subst eH
    have y1 := y vs q
    rw [g1] at y1
    cases y1
    exact ⟨Nx.refl N.sim, g2⟩
end
end Mp
end
section
set_option Elab.async false
set_option linter.all false
set_option maxRecDepth 100000
set_option maxHeartbeats 4000000
set_option autoImplicit false
/-! MpWalk2: the rules of what is walked. -/
namespace Mp
open PySem PySem.Spec PyProof.Rows L2
theorem strs_get : ∀ (s : List Nat) (i : Nat), («strsL» s)[i]? = (s[i]?).map fun c => D.str [c]
  | [], i => by simp [«strsL»]
  | c :: s, 0 => by simp [«strsL»]
  | c :: s, i + 1 => by
    simp only [«strsL», List.getElem?_cons_succ]
    exact strs_get s i
theorem strs_len : ∀ s : List Nat, («strsL» s).length = s.length
  | [] => rfl
  | c :: s => by simp [«strsL», strs_len s]
theorem rngD_get : ∀ (n : Nat) (lo : Int) (i : Nat), (rngD lo n)[i]? = if i < n then some (.int (lo + i)) else none
  | 0, lo, i => by simp [rngD]
  | n + 1, lo, 0 => by simp [rngD]
  | n + 1, lo, i + 1 => by
    simp only [rngD, List.getElem?_cons_succ]
    rw [rngD_get n (lo + 1) i]
    by_cases h : i < n
    · rw [if_pos h, if_pos (by omega)]
      have e : lo + 1 + (i : Int) = lo + ((i + 1 : Nat) : Int) := by omega
      rw [e]
    · rw [if_neg h, if_neg (by omega)]
theorem rngD_len : ∀ (n : Nat) (lo : Int), (rngD lo n).length = n
  | 0, _ => rfl
  | n + 1, lo => by simp [rngD, rngD_len n]
theorem zipD_get : ∀ (xs ys : List D) (i : Nat) (d : D), (zipD xs ys)[i]? = some d → ∃ x y, xs[i]? = some x ∧ ys[i]? = some y ∧ d = .tup [x, y]
  | [], ys, i, d, h => by cases ys <;> simp [zipD] at h
  | _ :: _, [], i, d, h => by simp [zipD] at h
  | x :: xs, y :: ys, 0, d, h => by
    simp only [zipD, List.getElem?_cons_zero, Option.some.injEq] at h
    exact ⟨x, y, rfl, rfl, h.symm⟩
  | x :: xs, y :: ys, i + 1, d, h => by
    simp only [zipD, List.getElem?_cons_succ] at h
    obtain ⟨a, b, h1, h2, h3⟩ := zipD_get xs ys i d h
    exact ⟨a, b, by simpa using h1, by simpa using h2, h3⟩
theorem zipD_len : ∀ (xs ys : List D), (zipD xs ys).length = min xs.length ys.length
  | [], ys => by cases ys <;> simp [zipD]
  | _ :: _, [] => by simp [zipD]
  | x :: xs, y :: ys => by
    simp only [zipD, List.length_cons, zipD_len xs ys]
    omega
section
variable {F : Nat → List D → Hd → R D} {X : Cx} {xr : XR} {W : WX} {a b c : Expr} {A B C : E} {pos : Pos} {tg : Expr}
def tI (F : Nat → List D → Hd → R D) (X : Cx) (xr : XR) (W : WX) (it : I) : TI := tG X.K X.w xr (relI X.K X.w) W (evI F it)
def tIT (F : Nat → List D → Hd → R D) (X : Cx) (xr : XR) (W : WX) (it : I) : TI := tG X.K X.w xr (relIT X.K X.w) W (evI F it)
theorem tIT_tI {it : I} (σ : St) (H : Hp) (Rr : It → Hp → Prop) (q : tIT F X xr W it σ H Rr) : tI F X xr W it σ H Rr := by
  obtain ⟨m, env, h, eR, S, p⟩ := q
  refine ⟨m, env, h, eR, S, ?_⟩
  cases e : evI F it env h with
  | ok q h' =>
    rw [e] at p
    exact fun J H' m' N r => p J H' m' N (Wk.t r)
  | ex c fs h' => rw [e] at p; exact p
  | no => rw [e] at p; exact p
theorem wk_str {K : PySem.W.Frag} {w : World} {m : List Addr} {H : Hp} {s : List Nat} (hs : okS s = true) : Wk K w (Its ⟨s.toArray⟩) m H («strsL» s) [] := by
  intro m' h' H' N g
  refine ⟨fun i d e => ?_, by rw [strs_len]; simp [Its]⟩
  rw [strs_get] at e
  obtain ⟨c, e1, e2⟩ := Option.map_eq_some_iff.mp e
  have hi : i < s.length := (List.getElem?_eq_some_iff.mp e1).1
  refine ⟨by simpa [Its] using hi, fun x H2 ⟨eH, c', y1, y2⟩ => ?_⟩
  subst eH
  have y3 : s[i]? = some c' := by simpa using y1
  rw [e1] at y3
  cases y3
  subst e2 y2
  refine ⟨Nx.refl N.sim, ?_⟩
  simp only [SRep]
  refine ⟨trivial, ?_⟩
  rw [okS_mem] at *
  intro z hz
  simp only [List.mem_singleton] at hz
  subst hz
  exact hs _ (List.mem_of_getElem? e1)
theorem ri_e (ha : PE X a (tE F X xr W A)) : PI X tg a (tI F X xr W (.e A)) := by
  refine PI.mono (PI.or (pi_list ha) (PI.or (pi_tup ha) (pi_str ha))) fun σ H Rr ⟨m, env, h, eR, S, p⟩ => ?_
  simp only [evI] at p
  cases e : ev F A env h with
  | no => rw [e] at p; exact p.elim
  | ex c fs h' => exact .inl ⟨m, env, h, eR, S, by rw [e] at p ⊢; exact p⟩
  | ok d h' =>
    rw [e] at p
    simp only [R.bind] at p
    have seq : ∀ xs, seqOf h' d = some xs → itOf h' d = some (xs, gOf d xs) → iList X.K (tE F X xr W A) σ H Rr ∨ iTup X.K (tE F X xr W A) σ H Rr ∨ iStr (tE F X xr W A) σ H Rr := by
      intro xs e1 e2
      rw [e2] at p
      simp only [R.get] at p
      rcases seq_cases e1 with z | z
      · refine .inr (.inl ⟨m, env, h, eR, S, ?_⟩)
        rw [e]
        intro x H1 m1 N r
        subst z
        obtain ⟨b, vs, ex, q, z⟩ := rep_tup r.1
        subst ex
        exact ⟨b, rfl, ⟨vs, q⟩, p _ H1 m1 N ((wk_seq N.sim e1 r.1).2 rfl)⟩
      · refine .inl ⟨m, env, h, eR, S, ?_⟩
        rw [e]
        intro x H1 m1 N r
        obtain ⟨b, vs, ex, q, z2⟩ := lstOf_ok N.sim z r.1
        subst ex
        exact ⟨b, rfl, ⟨vs, q⟩, p _ H1 m1 N ((wk_seq N.sim e1 r.1).1 ⟨vs, q⟩ z)⟩
    have other : (∀ s, d ≠ .str s) → iList X.K (tE F X xr W A) σ H Rr ∨ iTup X.K (tE F X xr W A) σ H Rr ∨ iStr (tE F X xr W A) σ H Rr := by
      intro hd
      cases e1 : seqOf h' d with
      | none =>
        have e2 : itOf h' d = none := by
          cases d <;> first | (exact absurd rfl (hd _)) | (simp only [itOf, e1])
        rw [e2] at p
        exact p.elim
      | some xs =>
        have e2 : itOf h' d = some (xs, gOf d xs) := by
          cases d <;> first | (exact absurd rfl (hd _)) | (simp only [itOf, e1])
        exact seq xs e1 e2
    cases d with
    | str s =>
      refine .inr (.inr ⟨m, env, h, eR, S, ?_⟩)
      rw [e]
      intro x H1 m1 N r
      obtain ⟨ex, ok⟩ := rep_str r.1
      exact ⟨_, ex, p _ H1 m1 N (wk_str ok)⟩
    | _ => exact other (fun s z => by cases z)
theorem wk_rng {K : PySem.W.Frag} {w : World} {m : List Addr} {H : Hp} {lo : Int} {n : Nat} : Wk K w (Itr lo n) m H (rngD lo n) [] := by
  intro m' h' H' N g
  refine ⟨fun i d e => ?_, by rw [rngD_len]; exact Nat.le_refl _⟩
  rw [rngD_get] at e
  split at e
  · rename_i hi
    cases e
    refine ⟨hi, fun x H2 ⟨eH, y⟩ => ?_⟩
    subst eH y
    exact ⟨Nx.refl N.sim, by simp only [SRep]⟩
  · cases e
theorem rngO_ok {lo hi : Int} {xs : List D} (e : rngO lo hi = some xs) : (-(2 ^ 62) ≤ lo ∧ lo < 2 ^ 62 ∧ -(2 ^ 62) ≤ hi ∧ hi < 2 ^ 62) ∧ xs = rngD lo (hi - lo).toNat := by
  unfold rngO at e
  split at e
  · rename_i c
    cases e
    obtain ⟨c1, c2, c3, c4, c5⟩ := c
    exact ⟨⟨by omega, by omega, by omega, by omega⟩, rfl⟩
  · cases e
theorem evs1 {es : Env} {h h' : Hd} {ds : List D} (e : evs F (.cons A .nil) es h = .ok ds h') : ∃ d, ds = [d] := by
  simp only [evs] at e
  obtain ⟨d, h1, _, e⟩ := bind_ok e
  simp only [R.bind] at e
  cases e
  exact ⟨_, rfl⟩
theorem evs2 {es : Env} {h h' : Hd} {ds : List D} (e : evs F (.cons A (.cons B .nil)) es h = .ok ds h') : ∃ d d2, ds = [d, d2] := by
  simp only [evs] at e
  obtain ⟨d, h1, _, e⟩ := bind_ok e
  obtain ⟨ds2, h2, e2, e⟩ := bind_ok e
  obtain ⟨d2, h3, _, e2⟩ := bind_ok e2
  simp only [R.bind] at e2
  cases e2
  cases e
  exact ⟨_, _, rfl⟩
theorem ri_rng1 {p : Pos} (hg : Gl X "range") (hm : X.mg "range" = none) (ha : PA X [a] (tA F X xr W (.cons A .nil))) (hs : starEach [a] X.env = [(false, eval a X.env)]) : PI X tg (.Call (.Name "range" p) [a] [] pos) (tI F X xr W (.rng (.cons A .nil))) := by
  refine PI.mono (pi_range1 hg hm ha hs) fun σ H Rr ⟨m, env, h, eR, S, p⟩ => ?_
  simp only [evI] at p
  refine ⟨m, env, h, eR, S, ?_⟩
  cases e : evs F (.cons A .nil) env h with
  | no => rw [e] at p; exact p.elim
  | ex c fs h' => rw [e] at p; exact p
  | ok ds h' =>
    rw [e] at p
    obtain ⟨d, ed⟩ := evs1 e
    subst ed
    simp only [R.bind] at p
    cases d with
    | int n =>
      simp only at p
      cases e2 : rngO 0 n with
      | none => simp only [e2] at p; exact p.elim
      | some xs =>
        simp only [e2] at p
        intro vs H1 m1 N1 r1
        obtain ⟨v, ev', rv⟩ := SReps.one r1
        have e3 := rep_int (rep_of (w := X.w) rv)
        subst e3
        obtain ⟨⟨_, _, b3, b4⟩, ex⟩ := rngO_ok e2
        refine ⟨n, ev', b3, b4, p _ H1 m1 N1 ?_⟩
        show Wk X.K X.w (Itr 0 n.toNat) m1 H1 xs []
        rw [ex, Int.sub_zero]
        exact wk_rng
    | _ => exact p.elim
theorem ri_rng2 {p : Pos} (hg : Gl X "range") (hm : X.mg "range" = none) (ha : PA X [a, b] (tA F X xr W (.cons A (.cons B .nil)))) (hs : starEach [a, b] X.env = [(false, eval a X.env), (false, eval b X.env)]) (hs2 : starEach [b] X.env = [(false, eval b X.env)]) :
    PI X tg (.Call (.Name "range" p) [a, b] [] pos) (tI F X xr W (.rng (.cons A (.cons B .nil)))) := by
  refine PI.mono (pi_range2 hg hm ha hs hs2) fun σ H Rr ⟨m, env, h, eR, S, p⟩ => ?_
  simp only [evI] at p
  refine ⟨m, env, h, eR, S, ?_⟩
  cases e : evs F (.cons A (.cons B .nil)) env h with
  | no => rw [e] at p; exact p.elim
  | ex c fs h' => rw [e] at p; exact p
  | ok ds h' =>
    rw [e] at p
    obtain ⟨d, d2, ed⟩ := evs2 e
    subst ed
    simp only [R.bind] at p
    cases d with
    | int k =>
      cases d2 with
      | int n =>
        simp only at p
        cases e2 : rngO k n with
        | none => simp only [e2] at p; exact p.elim
        | some xs =>
          simp only [e2] at p
          intro vs H1 m1 N1 r1
          obtain ⟨v, u, ev', rv, ru⟩ := SReps.two r1
          have e3 := rep_int (rep_of (w := X.w) rv)
          have e4 := rep_int (rep_of (w := X.w) ru)
          subst e3 e4
          obtain ⟨bb, ex⟩ := rngO_ok e2
          refine ⟨k, n, ev', bb, p _ H1 m1 N1 ?_⟩
          show Wk X.K X.w (Itr k (n - k).toNat) m1 H1 xs []
          rw [ex]
          exact wk_rng
      | _ => exact p.elim
    | _ => exact p.elim
/-! ### zip -/
theorem wk_zip {K : PySem.W.Frag} {w : World} {m : List Addr} {H : Hp} {h : Hd} (S : Sim K w m H h) {d e : D} {xs ys : List D} {a b : Addr} (e1 : lstOf h d = some xs) (e2 : lstOf h e = some ys) (r1 : SRep K m H d (.ref a)) (r2 : SRep K m H e (.ref b)) :
    WkT K w (Itz K a b) m H (zipD xs ys) (gOf d xs ++ gOf e ys) := by
  intro m' h' H' N g
  obtain ⟨g1, g2⟩ := gOk_append g
  have sq : ∀ {d : D} {xs : List D}, lstOf h d = some xs → seqOf h d = some xs := fun {d xs} e => by cases d <;> first | exact e | cases e
  obtain ⟨f1, f2⟩ := seq_held S (sq e1) (rep_of r1) N g1
  obtain ⟨f3, f4⟩ := seq_held S (sq e2) (rep_of r2) N g2
  have l1 : lstOf h' d = some xs := by
    rcases seq_cases f1 with z | z
    · subst z; cases e1
    · exact z
  have l2 : lstOf h' e = some ys := by
    rcases seq_cases f3 with z | z
    · subst z; cases e2
    · exact z
  obtain ⟨_, vs, ex, q1, z1⟩ := lstOf_ok N.sim l1 f2
  cases ex
  obtain ⟨_, us, ex, q2, z2⟩ := lstOf_ok N.sim l2 f4
  cases ex
  refine ⟨fun i p hp => ?_, ⟨vs, us, q1, q2, ?_⟩⟩
  · obtain ⟨x, y, h1, h2, rfl⟩ := zipD_get xs ys i p hp
    obtain ⟨v, g1, g2⟩ := SReps.get z1 h1
    obtain ⟨u, g3, g4⟩ := SReps.get z2 h2
    refine ⟨⟨vs, us, v, u, q1, q2, g1, g3⟩, fun t H2 ⟨T, v', u', et, hT, eH, y1, y2⟩ => ?_⟩
    have y1 := y1 vs q1
    have y2 := y2 us q2
    rw [g1] at y1
    rw [g3] at y2
    cases y1
    cases y2
    subst et eH
    have G : Grow K m' H' m' (upd H' T (.tup [v, u])) := Grow.new hT
    refine ⟨Nx.new N.sim hT, T, [v, u], rfl, .inl (.inl upd_same), ?_⟩
    simp only [SReps]
    exact ⟨v, [u], rfl, SRep.grow G _ _ g2, u, [], rfl, SRep.grow G _ _ g4, rfl⟩
  · rw [zipD_len, z1.length, z2.length]
    by_cases hh : vs.length ≤ us.length
    · exact .inl (by omega)
    · exact .inr (by omega)
theorem wk_zipT {K : PySem.W.Frag} {w : World} {m : List Addr} {H : Hp} {h : Hd} (S : Sim K w m H h) {xs ys : List D} {a b : Addr} (r1 : SRep K m H (.tup xs) (.ref a)) (r2 : SRep K m H (.tup ys) (.ref b)) :
    WkT K w (RZ.ItzT K a b) m H (zipD xs ys) [] := by
  intro m' h' H' N g
  obtain ⟨_, vs, ex, q1, z1⟩ := rep_tup ((rep_of (w := w) r1).grow S N)
  cases ex
  obtain ⟨_, us, ex, q2, z2⟩ := rep_tup ((rep_of (w := w) r2).grow S N)
  cases ex
  refine ⟨fun i p hp => ?_, ⟨vs, us, q1, q2, ?_⟩⟩
  · obtain ⟨x, y, h1, h2, rfl⟩ := zipD_get xs ys i p hp
    obtain ⟨v, g1, g2⟩ := SReps.get z1 h1
    obtain ⟨u, g3, g4⟩ := SReps.get z2 h2
    refine ⟨⟨vs, us, v, u, q1, q2, g1, g3⟩, fun t H2 ⟨T, v', u', et, hT, eH, y1, y2⟩ => ?_⟩
    have y1 := y1 vs q1
    have y2 := y2 us q2
    rw [g1] at y1
    rw [g3] at y2
    cases y1
    cases y2
    subst et eH
    have G : Grow K m' H' m' (upd H' T (.tup [v, u])) := Grow.new hT
    refine ⟨Nx.new N.sim hT, T, [v, u], rfl, .inl (.inl upd_same), ?_⟩
    simp only [SReps]
    exact ⟨v, [u], rfl, SRep.grow G _ _ g2, u, [], rfl, SRep.grow G _ _ g4, rfl⟩
  · rw [zipD_len, z1.length, z2.length]
    by_cases hh : vs.length ≤ us.length
    · exact .inl (by omega)
    · exact .inr (by omega)
theorem ri_zip {p tpos : Pos} {elts : List Expr} {kk : Nat} (hg : Gl X "zip") (hm : X.mg "zip" = none) (ha : PA X [a, b] (tA F X xr W (.cons A (.cons B .nil))))
    (hs : starEach [a, b] X.env = (false, eval a X.env) :: starEach [b] X.env) (hpl : (backTo pos (starEach [b] X.env)).any (·.1) = false) : PI X (.Tuple elts kk tpos) (.Call (.Name "zip" p) [a, b] [] pos) (tIT F X xr W (.zip (.cons A (.cons B .nil)))) := by
  refine PI.mono (RZ.pi_zipA hg hm ha hs hpl) fun σ H Rr ⟨m, env, h, eR, S, p⟩ => ?_
  simp only [evI] at p
  refine ⟨m, env, h, eR, S, ?_⟩
  cases e : evs F (.cons A (.cons B .nil)) env h with
  | no => rw [e] at p; exact p.elim
  | ex c fs h' => rw [e] at p; exact p
  | ok ds h' =>
    rw [e] at p
    obtain ⟨d, d2, ed⟩ := evs2 e
    subst ed
    simp only [R.bind] at p
    have lists : Post X.K X.w xr (relIT X.K X.w) W m H σ (match lstOf h' d, lstOf h' d2 with
      | some xs, some ys => R.ok (zipD xs ys, gOf d xs ++ gOf d2 ys) h'
      | _, _ => .no) Rr → Post X.K X.w xr (relA X.K) W m H σ (R.ok [d, d2] h') fun vs H1 => ∃ a b xs ys, vs = [.ref a, .ref b] ∧ ((SqL X.K H1 a xs ∧ SqL X.K H1 b ys ∧ Rr (Itz X.K a b) H1) ∨ (SqT X.K H1 a xs ∧ SqT X.K H1 b ys ∧ Rr (RZ.ItzT X.K a b) H1)) := by
      intro p
      cases e1 : lstOf h' d with
      | none => simp only [e1] at p; exact p.elim
      | some xs =>
        cases e2 : lstOf h' d2 with
        | none => simp only [e1, e2] at p; exact p.elim
        | some ys =>
          simp only [e1, e2] at p
          intro vs H1 m1 N1 r1
          obtain ⟨v, u, ev', rv, ru⟩ := SReps.two r1
          obtain ⟨a1, vs1, ex, q1, _⟩ := lstOf_ok N1.sim e1 (rep_of rv)
          subst ex
          obtain ⟨b1, us1, ex, q2, _⟩ := lstOf_ok N1.sim e2 (rep_of ru)
          subst ex
          exact ⟨a1, b1, vs1, us1, ev', .inl ⟨q1, q2, p _ H1 m1 N1 (wk_zip N1.sim e1 e2 rv ru)⟩⟩
    cases d with
    | tup xs =>
      cases d2 with
      | tup ys =>
        simp only at p
        intro vs H1 m1 N1 r1
        obtain ⟨v, u, ev', rv, ru⟩ := SReps.two r1
        obtain ⟨a1, vs1, ex, q1, _⟩ := rep_tup (w := X.w) (rep_of rv)
        subst ex
        obtain ⟨b1, us1, ex, q2, _⟩ := rep_tup (w := X.w) (rep_of ru)
        subst ex
        exact ⟨a1, b1, vs1, us1, ev', .inr ⟨q1, q2, p _ H1 m1 N1 (wk_zipT N1.sim rv ru)⟩⟩
      | _ => exact lists p
    | _ => exact lists p
end
end Mp
end
section
set_option Elab.async false
set_option linter.all false
set_option maxRecDepth 100000
set_option maxHeartbeats 4000000
set_option autoImplicit false
/-! MpComp: targets; list comprehensions. -/
namespace Mp
open PySem PySem.Spec PyProof.Rows L2
/-! ### targets -/
def tlen : Tg → Nat
  | .cons _ r => tlen r + 1
  | _ => 0
mutual
def gT (K : PySem.W.Frag) : Tg → TG
  | .nm i => gName i
  | .tp ts => gTup K (tlen ts) (gTs K ts)
  | _ => fun _ _ _ _ => False
def gTs (K : PySem.W.Frag) : Tg → TGs
  | .nil => gNil
  | .cons t r => gCons (gT K t) (gTs K r)
  | _ => fun _ _ _ _ => False
end
/-- the slots that a target sets -/
def tSl : Tg → List Nat
  | .nm i => [i]
  | .tp ts => tSl ts
  | .nil => []
  | .cons t r => tSl t ++ tSl r
theorem wipe_set {i : Nat} {x : Option V} : ∀ {σ : St} {vs : List Nat}, i ∈ vs → L2.wipe (σ.set i x) vs = L2.wipe σ vs
  | σ, [], h => by cases h
  | σ, v :: vs, h => by
    show (L2.wipe (σ.set i x) vs).set v none = (L2.wipe σ vs).set v none
    by_cases hm : i ∈ vs
    · rw [wipe_set hm]
    · have e : i = v := by
        rcases List.mem_cons.mp h with e | e
        · exact e
        · exact absurd e hm
      subst e
      have out : ∀ (vs : List Nat), i ∉ vs → L2.wipe (σ.set i x) vs = (L2.wipe σ vs).set i x := by
        intro vs
        induction vs with
        | nil => intro _; rfl
        | cons u us ih =>
          intro hn
          simp only [List.mem_cons, not_or] at hn
          show (L2.wipe (σ.set i x) us).set u none = ((L2.wipe σ us).set u none).set i x
          rw [ih hn.2, List.set_comm _ _ hn.1]
      rw [out vs hm, List.set_set]
section
variable {K : PySem.W.Frag} {m : List Addr} {H : Hp}
theorem tlen_ok : ∀ (ts : Tg) (xs : List D) (env env1 : Env), asgTs ts xs env = some env1 → tlen ts = xs.length
  | .nil, [], env, env1, e => rfl
  | .nil, _ :: _, env, env1, e => by simp [asgTs] at e
  | .cons t r, [], env, env1, e => by simp [asgTs] at e
  | .cons t r, x :: xs, env, env1, e => by
    simp only [asgTs] at e
    cases e1 : asgT t x env with
    | none => rw [e1] at e; cases e
    | some env2 =>
      rw [e1] at e
      simp only [tlen, List.length_cons]
      rw [tlen_ok r xs env2 env1 e]
  | .nm _, xs, env, env1, e => by cases xs <;> simp [asgTs] at e
  | .tp _, xs, env, env1, e => by cases xs <;> simp [asgTs] at e
mutual
theorem asg_ok : ∀ (t : Tg) (d : D) (env env1 : Env) (σ : St) (v : V) (Q : St → Hp → Prop), asgT t d env = some env1 → EnvR K m H env σ → SRep K m H d v →
    (∀ σ1, EnvR K m H env1 σ1 → (∀ vs, (∀ i ∈ tSl t, i ∈ vs) → L2.wipe σ1 vs = L2.wipe σ vs) → Q σ1 H) → gT K t v σ H Q
  | .nm i, d, env, env1, σ, v, Q, e, eR, r, q => by
    simp only [asgT] at e
    cases e
    show Q (σ.set i (some v)) H
    exact q _ (eR.set r) fun vs hv => wipe_set (hv i (by simp [tSl]))
  | .tp ts, d, env, env1, σ, v, Q, e, eR, r, q => by
    cases d with
    | tup xs =>
      simp only [asgT] at e
      simp only [SRep] at r
      obtain ⟨a, vs, ev, sq, z⟩ := r
      exact ⟨a, vs, ev, sq.sq, by rw [← z.length]; exact (tlen_ok ts xs env env1 e).symm, asgs_ok ts xs env env1 σ vs Q e eR z q⟩
    | _ => simp [asgT] at e
  | .nil, d, env, env1, σ, v, Q, e, eR, r, q => by cases d <;> simp [asgT] at e
  | .cons _ _, d, env, env1, σ, v, Q, e, eR, r, q => by cases d <;> simp [asgT] at e
theorem asgs_ok : ∀ (ts : Tg) (xs : List D) (env env1 : Env) (σ : St) (vs : List V) (Q : St → Hp → Prop), asgTs ts xs env = some env1 → EnvR K m H env σ → SReps K m H xs vs →
    (∀ σ1, EnvR K m H env1 σ1 → (∀ us, (∀ i ∈ tSl ts, i ∈ us) → L2.wipe σ1 us = L2.wipe σ us) → Q σ1 H) → gTs K ts vs σ H Q
  | .nil, [], env, env1, σ, vs, Q, e, eR, r, q => by
    simp only [asgTs] at e
    cases e
    simp only [SReps] at r
    exact ⟨r, q σ eR fun _ _ => rfl⟩
  | .nil, _ :: _, env, env1, σ, vs, Q, e, eR, r, q => by simp [asgTs] at e
  | .cons t rr, [], env, env1, σ, vs, Q, e, eR, r, q => by simp [asgTs] at e
  | .cons t rr, x :: xs, env, env1, σ, vs, Q, e, eR, r, q => by
    simp only [asgTs] at e
    cases e1 : asgT t x env with
    | none => rw [e1] at e; cases e
    | some env2 =>
      rw [e1] at e
      simp only [SReps] at r
      obtain ⟨v, ur, rfl, r1, r2⟩ := r
      refine ⟨v, ur, rfl, asg_ok t x env env2 σ v _ e1 eR r1 fun σ1 eR1 w1 => ?_⟩
      refine asgs_ok rr xs env2 env1 σ1 ur Q e eR1 r2 fun σ2 eR2 w2 => q σ2 eR2 fun us hu => ?_
      rw [w2 us fun i hi => hu i (by simp only [tSl, List.mem_append]; exact .inr hi), w1 us fun i hi => hu i (by simp only [tSl, List.mem_append]; exact .inl hi)]
  | .nm _, xs, env, env1, σ, vs, Q, e, eR, r, q => by cases xs <;> simp [asgTs] at e
  | .tp _, xs, env, env1, σ, vs, Q, e, eR, r, q => by cases xs <;> simp [asgTs] at e
end
/-- pairs that are unpacked -/
def isTp : Tg → Bool
  | .tp _ => true
  | _ => false
theorem asg_okT (t : Tg) (d : D) (env env1 : Env) (σ : St) (v : V) (Q : St → Hp → Prop) (ht : isTp t = true) (e : asgT t d env = some env1) (eR : EnvR K m H env σ) (r : TRep K m H d v)
    (q : ∀ σ1, EnvR K m H env1 σ1 → (∀ vs, (∀ i ∈ tSl t, i ∈ vs) → L2.wipe σ1 vs = L2.wipe σ vs) → Q σ1 H) : gT K t v σ H Q := by
  cases t with
  | tp ts =>
    cases d with
    | tup xs =>
      simp only [asgT] at e
      obtain ⟨a, vs, ev, sq, z⟩ := r
      exact ⟨a, vs, ev, sq, by rw [← z.length]; exact (tlen_ok ts xs env env1 e).symm, asgs_ok ts xs env env1 σ vs Q e eR z q⟩
    | _ => simp [asgT] at e
  | _ => cases ht
end
/-! ### states with an object of the side -/
section
variable {K : PySem.W.Frag} {w : World} {m m1 m' : List Addr} {H H1 H' : Hp} {h h1 h' : Hd} {D0 : Addr}
theorem Nx.out (N : Nx K w m H m' h' H') {o : HO} (hm : D0 ∉ m) (e : H D0 = some o) : D0 ∉ m' ∧ H' D0 = some o := by
  obtain ⟨ms, e1, f⟩ := N.pre
  refine ⟨fun z => ?_, N.ext D0 o hm e⟩
  rw [e1] at z
  rcases List.mem_append.mp z with z | z
  · exact hm z
  · rw [f D0 z] at e; cases e
theorem side_grow {l l' : List V} (e : H' D0 = some (.lst l)) : Grow K m' H' m' (upd H' D0 (.lst l')) := by
  have ne : ∀ (a : Addr) (o : Obj) (u : HO), H' a = some (.frz o u) → a ≠ D0 := fun a o u q z => by rw [z, e] at q; cases q
  refine ⟨fun _ _ q => q, fun a xs q => ?_, fun a xs q => ?_⟩
  · rcases q with ⟨o, q, n⟩ | q
    · exact .inl ⟨o, by rw [upd_ne (ne _ _ _ q)]; exact q, n⟩
    · exact .inr q
  · rcases q with ⟨o, q⟩ | q
    · exact .inl ⟨o, by rw [upd_ne (ne _ _ _ q)]; exact q⟩
    · exact .inr q
theorem Nx.side {l l' : List V} (N : Nx K w m H m' h' H') (hn : H D0 = none) (hm : D0 ∉ m') (e : H' D0 = some (.lst l)) : Nx K w m H m' h' (upd H' D0 (.lst l')) := by
  have G := side_grow (K := K) (m' := m') (l' := l') e
  refine ⟨N.pre, ⟨N.sim.len, N.sim.nd, fun n ob a e1 e2 => ?_⟩, fun a u ha q => ?_⟩
  · have q := N.sim.ob n ob a e1 e2
    have na : a ≠ D0 := fun z => hm (by rw [← z]; exact List.mem_of_getElem? e2)
    cases ob with
    | lst xs =>
      obtain ⟨vs, q1, q2⟩ := q
      exact ⟨vs, by rw [upd_ne na]; exact q1, SReps.grow G xs vs q2⟩
    | dic ks vs => exact DicR.grow G (fun u z => by rw [upd_ne na]; exact z) q
  · have na : a ≠ D0 := fun z => by rw [z, hn] at q; cases q
    rw [upd_ne na]
    exact N.ext a u ha q
end
/-! ### the loop of a list comprehension -/
section
variable {α β γ δ : Type} {K : PySem.W.Frag} {w : World} {xr : XR} {rel : Rel α β} {rel2 : Rel γ δ} {W W' : WX} {m mm : List Addr} {H HH : Hp} {σ σ' : St}
theorem Post.bindN2 {ε : Type} {r : R α} {f : α → Hd → R ε} {g : ε → Hd → R γ} {Q : δ → Hp → Prop} (p : Post K w xr rel2 W m H σ ((r.bindN f).bind g) Q) :
    Post K w xr rel W' mm HH σ' r fun b H1 => ∃ a m1 h1, Nx K w mm HH m1 h1 H1 ∧ rel HH m1 H1 a b ∧ Post K w xr rel2 W m H σ ((f a h1).bind g) Q := by
  cases r with
  | ok a h' => exact fun b H' m' n q => ⟨a, m', h', n, q, p⟩
  | ex c fs h' => exact p.elim
  | no => exact p
end
section
variable {F : Nat → List D → Hd → R D} {X : Cx} {xr : XR} {W : WX} {A B C : E} {it : I} {t : Tg}
/-- nothing may be raised -/
def W0 : WX := fun _ _ _ _ => False
theorem lc_read (own : List Nat) (hsl : ∀ i ∈ tSl t, i ∈ own) (pair : Bool) (hp : pair = true → isTp t = true) (σ : St) (H : Hp) (Q : VK) (q : tE F X xr W (.lc own t it C A) σ H Q) :
    tLc (tG X.K X.w xr (if pair then relIT X.K X.w else relI X.K X.w) W (evI F it)) (gT X.K t) (tT F X xr W0 C) (tE F X xr W0 A) own σ H Q := by
  obtain ⟨m, env, h, eR, S, p⟩ := q
  simp only [ev] at p
  refine ⟨m, env, h, eR, S, (Post.bind p).imp fun J H1 ⟨⟨ds, gs⟩, m1, h1, N1, r1, p1⟩ => ?_⟩
  have wk : WkT X.K X.w J m1 H1 ds gs := by
    cases pair with
    | true => exact r1
    | false => exact Wk.t r1
  intro D0 hD
  have hD0 : H D0 = none := N1.gone D0 hD
  refine ⟨fun i meas HH => meas = ds.length - i ∧ i ≤ ds.length ∧ ∃ (mm : List Addr) (hh : Hd) (acc : List D) (accV : List V), Nx X.K X.w m1 H1 mm hh HH ∧ D0 ∉ mm ∧ HH D0 = some (.lst accV) ∧ SReps X.K mm HH acc accV ∧
    Post X.K X.w xr (RepB X.K X.w) W m H σ ((lcL t (fun env h => tst (ev F C env h)) (ev F A) (Mp.wipe env own) gs (ds.drop i) hh acc).bind fun ds h2 => .ok (.tl ds) h2) Q, ⟨ds.length, by simp, Nat.zero_le _, m1, h1, [], [], Nx.new N1.sim hD, N1.sim.out hD, upd_same, by simp only [SReps], by simpa using p1⟩, ?_⟩
  rintro i meas HH ⟨rfl, hi, mm, hh, acc, accV, NN, hm, hH, sa, pp⟩
  by_cases hlt : i < ds.length
  · -- a turn
    have ed : ds.drop i = ds[i] :: ds.drop (i + 1) := List.drop_eq_getElem_cons hlt
    rw [ed] at pp
    simp only [lcL] at pp
    cases eg : gOk hh gs with
    | false => simp only [eg, Bool.false_and, Bool.false_eq_true, if_false, R.bind] at pp; exact pp.elim
    | true =>
      cases el : decide (acc.length < lim) with
      | false => simp only [eg, el, Bool.and_false, Bool.false_eq_true, if_false, R.bind] at pp; exact pp.elim
      | true =>
        simp only [eg, el, Bool.and_self, if_true] at pp
        obtain ⟨w1, w2⟩ := wk mm hh HH NN eg
        obtain ⟨g1, g2⟩ := w1 i ds[i] (List.getElem?_eq_getElem hlt)
        refine .inr ⟨g1, fun H5 => ∃ (m5 : List Addr) (h5 : Hd) (acc5 : List D) (accV5 : List V), Nx X.K X.w m1 H1 m5 h5 H5 ∧ D0 ∉ m5 ∧ H5 D0 = some (.lst accV5) ∧ SReps X.K m5 H5 acc5 accV5 ∧
          Post X.K X.w xr (RepB X.K X.w) W m H σ ((lcL t (fun env h => tst (ev F C env h)) (ev F A) (Mp.wipe env own) gs (ds.drop (i + 1)) h5 acc5).bind fun ds h2 => .ok (.tl ds) h2) Q, fun H5 ⟨m5, h5, acc5, accV5, z⟩ => ⟨ds.length - (i + 1), by omega, rfl, hlt, m5, h5, acc5, accV5, z⟩, fun x H2 y => ?_⟩
        obtain ⟨N2, s2⟩ := g2 x H2 y
        obtain ⟨hm2, hH2⟩ := N2.out hm hH
        have NN2 := NN.trans N2
        have sa2 : SReps X.K mm H2 acc accV := SReps.grow (N2.grow NN.sim) _ _ sa
        cases ea : asgT t ds[i] (Mp.wipe env own) with
        | none => simp only [ea, R.bind] at pp; exact pp.elim
        | some env1 =>
          simp only [ea] at pp
          have eR2 : EnvR X.K mm H2 (Mp.wipe env own) (L2.wipe σ own) := ((eR.grow (N1.grow S)).grow (NN2.grow N1.sim)).wiped own
          have fin : ∀ σ1, EnvR X.K mm H2 env1 σ1 → (∀ vs, (∀ i ∈ tSl t, i ∈ vs) → L2.wipe σ1 vs = L2.wipe (L2.wipe σ own) vs) → L2.wipe σ1 own = L2.wipe σ own ∧ tT F X xr W0 C σ1 H2 fun b H3 => if b = true then tE F X xr W0 A σ1 H3 fun y H4 => ∃ acc, H4 D0 = some (.lst acc) ∧ acc.length < sizeLine ∧ ∃ (m5 : List Addr) (h5 : Hd) (acc5 : List D) (accV5 : List V), Nx X.K X.w m1 H1 m5 h5 (upd H4 D0 (.lst (acc ++ [y]))) ∧ D0 ∉ m5 ∧ (upd H4 D0 (.lst (acc ++ [y]))) D0 = some (.lst accV5) ∧ SReps X.K m5 (upd H4 D0 (.lst (acc ++ [y]))) acc5 accV5 ∧
                Post X.K X.w xr (RepB X.K X.w) W m H σ ((lcL t (fun env h => tst (ev F C env h)) (ev F A) (Mp.wipe env own) gs (ds.drop (i + 1)) h5 acc5).bind fun ds h2 => .ok (.tl ds) h2) Q
              else ∃ (m5 : List Addr) (h5 : Hd) (acc5 : List D) (accV5 : List V), Nx X.K X.w m1 H1 m5 h5 H3 ∧ D0 ∉ m5 ∧ H3 D0 = some (.lst accV5) ∧ SReps X.K m5 H3 acc5 accV5 ∧
                Post X.K X.w xr (RepB X.K X.w) W m H σ ((lcL t (fun env h => tst (ev F C env h)) (ev F A) (Mp.wipe env own) gs (ds.drop (i + 1)) h5 acc5).bind fun ds h2 => .ok (.tl ds) h2) Q := by
            intro σ1 eR1 ew
            refine ⟨?_, mm, env1, hh, eR1, NN2.sim, (Post.bindN2 (rel := relB) pp).imp fun b H3 ⟨b', m3, h3, N3, rb, p3⟩ => ?_⟩
            · rw [ew own hsl]
              have idem : ∀ (vs : List Nat), (∀ i ∈ vs, i ∈ own) → L2.wipe (L2.wipe σ own) vs = L2.wipe σ own := by
                intro vs
                induction vs with
                | nil => intro _; rfl
                | cons v vs ih =>
                  intro hv
                  show (L2.wipe (L2.wipe σ own) vs).set v none = L2.wipe σ own
                  rw [ih fun i hi => hv i (List.mem_cons_of_mem _ hi)]
                  have hv1 := hv v List.mem_cons_self
                  have hnone : ∀ (us : List Nat), v ∈ us → (L2.wipe σ us).set v none = L2.wipe σ us := by
                    intro us
                    induction us with
                    | nil => intro z; cases z
                    | cons u us ih2 =>
                      intro z
                      show ((L2.wipe σ us).set u none).set v none = (L2.wipe σ us).set u none
                      by_cases e : v = u
                      · subst e
                        rw [List.set_set]
                      · rcases List.mem_cons.mp z with z | z
                        · exact absurd z e
                        · rw [List.set_comm _ _ (Ne.symm e), ih2 z]
                  exact hnone own hv1
              exact idem own fun _ z => z
            · cases rb
              obtain ⟨hm3, hH3⟩ := N3.out hm2 hH2
              have NN3 := NN2.trans N3
              have sa3 : SReps X.K m3 H3 acc accV := SReps.grow (N3.grow NN2.sim) _ _ sa2
              cases b with
              | false =>
                simp only [Bool.false_eq_true, if_false] at p3 ⊢
                exact ⟨m3, h3, acc, accV, NN3, hm3, hH3, sa3, p3⟩
              | true =>
                simp only [if_true] at p3 ⊢
                refine ⟨m3, env1, h3, eR1.grow (N3.grow NN2.sim), NN3.sim, (Post.bindN2 (rel := RepB X.K X.w) p3).imp fun y H4 ⟨d4, m4, h4, N4, r4, p4⟩ => ?_⟩
                obtain ⟨m5, N5, s5, G5⟩ := reg_ok N4 r4
                obtain ⟨hm5, hH5⟩ := N5.out hm3 hH3
                have NN5 := NN3.trans N5
                have G6 := side_grow (K := X.K) (m' := m5) (l' := accV ++ [y]) hH5
                refine ⟨accV, hH5, ?_, m5, (reg h4 d4).2, acc ++ [(reg h4 d4).1], accV ++ [y], Nx.side NN5 hD hm5 hH5, hm5, upd_same, SReps.append (SReps.grow G6 _ _ (SReps.grow (N5.grow NN3.sim) _ _ sa3)) ?_, p4⟩
                · rw [← sa.length, ← lim_eq]
                  exact of_decide_eq_true el
                · simp only [SReps]
                  exact ⟨y, [], rfl, SRep.grow G6 _ _ s5, rfl⟩
          cases pair with
          | true => exact asg_okT t ds[i] _ env1 _ x _ (hp rfl) ea eR2 s2 fun σ1 a1 a2 => fin σ1 a1 a2
          | false =>
            have wk' : Wk X.K X.w J m1 H1 ds gs := r1
            obtain ⟨w3, _⟩ := wk' mm hh HH NN eg
            obtain ⟨_, g3⟩ := w3 i ds[i] (List.getElem?_eq_getElem hlt)
            exact asg_ok t ds[i] _ env1 _ x _ ea eR2 (g3 x H2 y).2 fun σ1 a1 a2 => fin σ1 a1 a2
  · -- the end
    have ei : i = ds.length := by omega
    subst ei
    rw [List.drop_length] at pp
    simp only [lcL] at pp
    cases eg : gOk hh gs with
    | false => simp only [eg, Bool.false_eq_true, if_false, R.bind] at pp; exact pp.elim
    | true =>
      simp only [eg, if_true, R.bind] at pp
      obtain ⟨_, w2⟩ := wk mm hh HH NN eg
      exact .inl ⟨w2, pp (.ref D0) HH mm (N1.trans NN) ⟨⟨D0, accV, rfl, hm, hH, sa⟩, fun a e => by cases e; exact hD0⟩⟩
end
end Mp
end
section
set_option Elab.async false
set_option linter.all false
set_option maxRecDepth 100000
set_option maxHeartbeats 4000000
set_option autoImplicit false
/-! MpDc: dict comprehensions, keys texts or numbers. -/
namespace Mp
open PySem PySem.Spec PyProof.Rows L2
section
variable {K : PySem.W.Frag} {w : World} {m m1 m' : List Addr} {H H1 H' : Hp} {h h1 h' : Hd} {D0 : Addr}
/-- keys and values as the hand layer has them -/
def DK (K : PySem.W.Frag) (m : List Addr) (H : Hp) : List D → List D → List (Key × V) → Prop
  | [], vs, kvs => vs = [] ∧ kvs = []
  | k :: ks, vs, kvs => ∃ v vr y r, vs = v :: vr ∧ kvs = (leafK k, y) :: r ∧ D.key 8 k = true ∧ D.isTup k = false ∧ SRep K m H k (kV (leafK k)) ∧ SRep K m H v y ∧ DK K m H ks vr r
theorem DK.grow (G : Grow K m H m' H') : ∀ {ks vs : List D} {kvs : List (Key × V)}, DK K m H ks vs kvs → DK K m' H' ks vs kvs
  | [], vs, kvs, r => r
  | k :: ks, vs, kvs, r => by
    obtain ⟨v, vr, y, t, e1, e2, q1, q2, q3, q4, q5⟩ := r
    exact ⟨v, vr, y, t, e1, e2, q1, q2, SRep.grow G _ _ q3, SRep.grow G _ _ q4, DK.grow G q5⟩
theorem DK.len : ∀ {ks vs : List D} {kvs : List (Key × V)}, DK K m H ks vs kvs → ks.length = vs.length ∧ ks.length = kvs.length
  | [], vs, kvs, r => by
    obtain ⟨e1, e2⟩ := r
    subst e1 e2
    exact ⟨rfl, rfl⟩
  | k :: ks, vs, kvs, r => by
    obtain ⟨v, vr, y, t, e1, e2, _, _, _, _, q5⟩ := r
    subst e1 e2
    obtain ⟨l1, l2⟩ := DK.len q5
    exact ⟨by simp [l1], by simp [l2]⟩
theorem DK.any {k : D} (hk : D.key 8 k = true) (ht : D.isTup k = false) : ∀ {ks vs : List D} {kvs : List (Key × V)}, DK K m H ks vs kvs → (kvs.any fun kv => decide (kv.1 = leafK k)) = ks.any fun a => decide (nk a = nk k)
  | [], vs, kvs, r => by
    obtain ⟨_, e2⟩ := r
    subst e2
    rfl
  | a :: ks, vs, kvs, r => by
    obtain ⟨v, vr, y, t, e1, e2, q1, q2, q3, q4, q5⟩ := r
    subst e2
    rw [List.any_cons, List.any_cons, DK.any hk ht q5]
    have e : (leafK a = leafK k) ↔ (nk a = nk k) := leaf_inj q1 hk q2 ht
    simp only [e]
theorem DK.put {k v : D} {y : V} (hk : D.key 8 k = true) (ht : D.isTup k = false) (sk : SRep K m H k (kV (leafK k))) (sv : SRep K m H v y) :
    ∀ {ks vs : List D} {kvs : List (Key × V)}, (ks.map nk).Nodup → DK K m H ks vs kvs → DK K m H (kput k v ks vs).1 (kput k v ks vs).2 (putK kvs (leafK k) y)
  | [], vs, kvs, _, r => by
    obtain ⟨e1, e2⟩ := r
    subst e1 e2
    exact ⟨v, [], y, [], rfl, rfl, hk, ht, sk, sv, rfl, rfl⟩
  | a :: ks, vs, kvs, nd, r => by
    obtain ⟨u, vr, z, t, e1, e2, q1, q2, q3, q4, q5⟩ := r
    subst e1 e2
    simp only [List.map_cons, List.nodup_cons] at nd
    have e : (leafK a = leafK k) ↔ (nk a = nk k) := leaf_inj q1 hk q2 ht
    simp only [kput]
    rw [eqv_nk 8 a k q1 hk]
    unfold putK
    rw [DK.any hk ht (show DK K m H (a :: ks) (u :: vr) ((leafK a, z) :: t) from ⟨u, vr, z, t, rfl, rfl, q1, q2, q3, q4, q5⟩), List.any_cons]
    by_cases ee : nk a = nk k
    · have hno : ∀ kv ∈ t, kv.1 ≠ leafK k := by
        have h1 : (t.any fun kv => decide (kv.1 = leafK k)) = false := by
          rw [DK.any hk ht q5]
          rw [List.any_eq_false]
          intro b hb
          simp only [decide_eq_true_eq]
          intro z
          exact nd.1 (List.mem_map.mpr ⟨b, hb, by rw [z, ee]⟩)
        rw [List.any_eq_false] at h1
        intro kv hkv z
        exact h1 kv hkv (by simp [z])
      simp only [ee, decide_true, Bool.true_or, if_true, List.map_cons, e.mpr ee]
      have em : (t.map fun kv => if kv.1 = leafK k then (kv.1, y) else kv) = t := by
        rw [List.map_congr_left (g := id) fun kv hkv => by rw [if_neg (hno kv hkv)]; rfl]
        exact List.map_id _
      rw [em]
      exact ⟨v, vr, y, t, rfl, by rw [e.mpr ee], q1, q2, q3, sv, q5⟩
    · have ih := DK.put hk ht sk sv nd.2 q5
      unfold putK at ih
      rw [DK.any hk ht q5] at ih
      simp only [ee, decide_false, Bool.false_or, Bool.false_eq_true, if_false]
      have ne : ¬ leafK a = leafK k := fun z => ee (e.mp z)
      cases hany : (ks.any fun a => decide (nk a = nk k)) with
      | true =>
        rw [hany] at ih
        simp only [if_true, List.map_cons, ne, if_false] at ih ⊢
        exact ⟨u, _, z, _, rfl, rfl, q1, q2, q3, q4, ih⟩
      | false =>
        rw [hany] at ih
        simp only [Bool.false_eq_true, if_false, List.cons_append] at ih ⊢
        exact ⟨u, _, z, _, rfl, rfl, q1, q2, q3, q4, ih⟩
theorem Grow.side {o o' : HO} (e : H' D0 = some o) (hf : ∀ ob u, o ≠ .frz ob u) : Grow K m' H' m' (upd H' D0 o') := by
  have ne : ∀ (a : Addr) (ob : Obj) (u : HO), H' a = some (.frz ob u) → a ≠ D0 := fun a ob u q z => by
    rw [z, e] at q
    exact hf ob u (Option.some.inj q)
  refine ⟨fun _ _ q => q, fun a xs q => ?_, fun a xs q => ?_⟩
  · rcases q with ⟨ob, q, n⟩ | q
    · exact .inl ⟨ob, by rw [upd_ne (ne _ _ _ q)]; exact q, n⟩
    · exact .inr q
  · rcases q with ⟨ob, q⟩ | q
    · exact .inl ⟨ob, by rw [upd_ne (ne _ _ _ q)]; exact q⟩
    · exact .inr q
theorem Nx.sideO {o o' : HO} (N : Nx K w m H m' h' H') (hn : H D0 = none) (hm : D0 ∉ m') (e : H' D0 = some o) (hf : ∀ ob u, o ≠ .frz ob u) : Nx K w m H m' h' (upd H' D0 o') := by
  have G := Grow.side (K := K) (m' := m') (o' := o') e hf
  refine ⟨N.pre, ⟨N.sim.len, N.sim.nd, fun n ob a e1 e2 => ?_⟩, fun a u ha q => ?_⟩
  · have q := N.sim.ob n ob a e1 e2
    have na : a ≠ D0 := fun z => hm (by rw [← z]; exact List.mem_of_getElem? e2)
    cases ob with
    | lst xs =>
      obtain ⟨vs, q1, q2⟩ := q
      exact ⟨vs, by rw [upd_ne na]; exact q1, SReps.grow G xs vs q2⟩
    | dic ks vs => exact DicR.grow G (fun u z => by rw [upd_ne na]; exact z) q
  · have na : a ≠ D0 := fun z => by rw [z, hn] at q; cases q
    rw [upd_ne na]
    exact N.ext a u ha q
end
/-- the dict is told by its own entries -/
theorem DK.raw {X : Cx} {pins : List (Addr × Obj)} {σ : St} {H : Hp} {s : Shared} {m : List Addr} {D0 : Addr} {ks vs : List D} {kvs : List (Key × V)} (I : Inv X pins σ H s) (e : H D0 = some (.dK kvs)) (r : DK X.K m H ks vs kvs) (K' : KeysOk ks) :
    ∃ es, Inv X pins σ (upd H D0 (.ext (DRaw D0 es))) s ∧ (D0 == sysModules) = false ∧ ks.length ≤ lim ∧ EntR X.K X.w m H ks vs es := by
  obtain ⟨z, sys, us, rel, o, es, ep, ho, hx, hd, hks, hp, _⟩ := dk_of I.hok e
  obtain ⟨esl⟩ := es
  have hp : Pairs (mixKind X.prog X.w) esl us := hp
  have hks : ∀ q ∈ esl, ∃ k, keyIs k q.key = true ∧ q.hash = keyH X.w k := fun q hq => hks q (by simpa using hq)
  refine ⟨esl, ?_, sys, by rw [(DK.len r).2, lim_eq]; exact z, ?_⟩
  · have raw : RawAt s.heap D0 esl := ⟨o, ep, ho, hx, hd⟩
    have J := I.write (x := D0) (e := D0) (o := .ext (DRaw D0 esl)) (h' := s.heap) (t' := s.toks) (by rw [e]; exact True.intro) (.inl rfl) (fun b u _ q => q) ⟨o, ho⟩ ⟨raw, ⟨o, ho⟩, fun h1 h2 q k => by
      obtain ⟨o', ep', ho', hx'⟩ := q
      exact ⟨o', ep', k o' ho', hx'⟩⟩
    exact J
  · have go : ∀ (ks vs : List D) (kvs : List (Key × V)) (us : List (Key × Value)) (esl : List DictEntry), DK X.K m H ks vs kvs → L2.KV kvs us → Pairs (mixKind X.prog X.w) esl us → (∀ q ∈ esl, ∃ k, keyIs k q.key = true ∧ q.hash = keyH X.w k) → EntR X.K X.w m H ks vs esl := by
      intro ks
      induction ks with
      | nil =>
        intro vs kvs us esl r rel hp _
        obtain ⟨e1, e2⟩ := r
        subst e1 e2
        cases rel
        cases hp
        simp only [EntR]
        exact ⟨trivial, trivial⟩
      | cons k ks ih =>
        intro vs kvs us esl r rel hp hks
        obtain ⟨v, vr, y, t, e1, e2, q1, q2, q3, q4, q5⟩ := r
        subst e1 e2
        cases rel with
        | @cons _ u _ ur ru rr =>
        cases hp with
        | @cons en _ es' _ p1 p2 p3 =>
        obtain ⟨u1, u2⟩ := ru
        simp only [EntR]
        have hkey : keyIs (leafK k) en.key = true := by
          have p1 : keyIs u.1 en.key = true := p1
          rw [← u1] at p1
          exact p1
        refine ⟨v, vr, en, es', rfl, rfl, ⟨kV (leafK k), ?_, q3⟩, ⟨y, ?_, q4⟩, ?_, ih vr t ur es' q5 rr p3 fun q hq => hks q (List.mem_cons_of_mem _ hq)⟩
        · rcases keyIs_shape hkey with ⟨i, tt, h1, h2⟩ | ⟨x, tt, h1, h2⟩
          · rw [h1, h2]; exact ⟨tt, rfl⟩
          · rw [h1, h2]; exact ⟨tt, rfl⟩
        · rw [p2]; exact u2
        · obtain ⟨k', g1, g2⟩ := hks en List.mem_cons_self
          have ek : k' = leafK k := (mixKind X.prog X.w).inj en.key k' (leafK k) g1 hkey
          rw [g2, ek]
          exact leaf_hash X.w q1 q2
    exact go ks vs kvs us esl r rel hp hks
section
variable {F : Nat → List D → Hd → R D} {X : Cx} {xr : XR} {W : WX} {A B C : E} {it : I} {t : Tg}
theorem wipe_own (σ : St) (own : List Nat) : L2.wipe (L2.wipe σ own) own = L2.wipe σ own := by
  have idem : ∀ (vs : List Nat), (∀ i ∈ vs, i ∈ own) → L2.wipe (L2.wipe σ own) vs = L2.wipe σ own := by
    intro vs
    induction vs with
    | nil => intro _; rfl
    | cons v vs ih =>
      intro hv
      show (L2.wipe (L2.wipe σ own) vs).set v none = L2.wipe σ own
      rw [ih fun i hi => hv i (List.mem_cons_of_mem _ hi)]
      have hv1 := hv v List.mem_cons_self
      have hnone : ∀ (us : List Nat), v ∈ us → (L2.wipe σ us).set v none = L2.wipe σ us := by
        intro us
        induction us with
        | nil => intro z; cases z
        | cons u us ih2 =>
          intro z
          show ((L2.wipe σ us).set u none).set v none = (L2.wipe σ us).set u none
          by_cases e : v = u
          · subst e
            rw [List.set_set]
          · rcases List.mem_cons.mp z with z | z
            · exact absurd z e
            · rw [List.set_comm _ _ (Ne.symm e), ih2 z]
      exact hnone own hv1
  exact idem own fun _ z => z
/-- what a dict comprehension leaves -/
def DcQ (X : Cx) (xr : XR) (W : WX) (m : List Addr) (H : Hp) (σ : St) (Q : VK) : VK := fun x HH => ∃ (D0 : Addr) (kvs : List (Key × V)) (ks vs : List D) (mm : List Addr) (hh : Hd), x = .ref D0 ∧ HH D0 = some (.dK kvs) ∧ DK X.K mm HH ks vs kvs ∧ KeysOk ks ∧ Nx X.K X.w m H mm hh HH ∧ D0 ∉ mm ∧ H D0 = none ∧
  Post X.K X.w xr (RepB X.K X.w) W m H σ (.ok (.td ks vs) hh) Q
theorem dc_read (own : List Nat) (hsl : ∀ i ∈ tSl t, i ∈ own) (pair : Bool) (hp : pair = true → isTp t = true) (σ : St) (H : Hp) (Q : VK) (q : tE F X xr W (.dc own t it C A B) σ H Q) :
    ∃ m, tDc (tG X.K X.w xr (if pair then relIT X.K X.w else relI X.K X.w) W (evI F it)) (gT X.K t) (tT F X xr W0 C) (tE F X xr W0 A) (tE F X xr W0 B) own σ H (DcQ X xr W m H σ Q) := by
  obtain ⟨m, env, h, eR, S, p⟩ := q
  simp only [ev] at p
  refine ⟨m, m, env, h, eR, S, (Post.bind p).imp fun J H1 ⟨⟨ds, gs⟩, m1, h1, N1, r1, p1⟩ => ?_⟩
  have wk : WkT X.K X.w J m1 H1 ds gs := by
    cases pair with
    | true => exact r1
    | false => exact Wk.t r1
  intro D0 hD
  have hD0 : H D0 = none := N1.gone D0 hD
  have nf : ∀ kvs, ∀ ob u, (HO.dK kvs) ≠ .frz ob u := fun kvs ob u z => by cases z
  refine ⟨fun i meas HH => meas = ds.length - i ∧ i ≤ ds.length ∧ ∃ (mm : List Addr) (hh : Hd) (ks vs : List D) (kvs : List (Key × V)), Nx X.K X.w m1 H1 mm hh HH ∧ D0 ∉ mm ∧ HH D0 = some (.dK kvs) ∧ DK X.K mm HH ks vs kvs ∧ KeysOk ks ∧
    Post X.K X.w xr (RepB X.K X.w) W m H σ ((dcL t (fun env h => tst (ev F C env h)) (ev F A) (ev F B) (Mp.wipe env own) gs (ds.drop i) hh ks vs).bind fun q h2 => .ok (.td q.1 q.2) h2) Q, ⟨ds.length, by simp, Nat.zero_le _, m1, h1, [], [], [], Nx.new N1.sim hD, N1.sim.out hD, upd_same, ⟨rfl, rfl⟩, ⟨by simp, by simp, by simp⟩, by simpa using p1⟩, ?_⟩
  rintro i meas HH ⟨rfl, hi, mm, hh, ks, vs, kvs, NN, hm, hH, sa, K', pp⟩
  by_cases hlt : i < ds.length
  · have ed : ds.drop i = ds[i] :: ds.drop (i + 1) := List.drop_eq_getElem_cons hlt
    rw [ed] at pp
    simp only [dcL] at pp
    cases eg : gOk hh gs with
    | false => simp only [eg, Bool.false_and, Bool.false_eq_true, if_false, R.bind] at pp; exact pp.elim
    | true =>
      cases el : decide (ks.length < lim) with
      | false => simp only [eg, el, Bool.and_false, Bool.false_eq_true, if_false, R.bind] at pp; exact pp.elim
      | true =>
        simp only [eg, el, Bool.and_self, if_true] at pp
        obtain ⟨w1, w2⟩ := wk mm hh HH NN eg
        obtain ⟨g1, g2⟩ := w1 i ds[i] (List.getElem?_eq_getElem hlt)
        refine .inr ⟨g1, fun H5 => ∃ (m5 : List Addr) (h5 : Hd) (ks5 vs5 : List D) (kvs5 : List (Key × V)), Nx X.K X.w m1 H1 m5 h5 H5 ∧ D0 ∉ m5 ∧ H5 D0 = some (.dK kvs5) ∧ DK X.K m5 H5 ks5 vs5 kvs5 ∧ KeysOk ks5 ∧
          Post X.K X.w xr (RepB X.K X.w) W m H σ ((dcL t (fun env h => tst (ev F C env h)) (ev F A) (ev F B) (Mp.wipe env own) gs (ds.drop (i + 1)) h5 ks5 vs5).bind fun q h2 => .ok (.td q.1 q.2) h2) Q, fun H5 ⟨m5, h5, ks5, vs5, kvs5, z⟩ => ⟨ds.length - (i + 1), by omega, rfl, hlt, m5, h5, ks5, vs5, kvs5, z⟩, fun x H2 y => ?_⟩
        obtain ⟨N2, s2⟩ := g2 x H2 y
        obtain ⟨hm2, hH2⟩ := N2.out hm hH
        have NN2 := NN.trans N2
        have sa2 : DK X.K mm H2 ks vs kvs := DK.grow (N2.grow NN.sim) sa
        cases ea : asgT t ds[i] (Mp.wipe env own) with
        | none => simp only [ea, R.bind] at pp; exact pp.elim
        | some env1 =>
          simp only [ea] at pp
          have eR2 : EnvR X.K mm H2 (Mp.wipe env own) (L2.wipe σ own) := ((eR.grow (N1.grow S)).grow (NN2.grow N1.sim)).wiped own
          have fin : ∀ σ1, EnvR X.K mm H2 env1 σ1 → (∀ vs, (∀ i ∈ tSl t, i ∈ vs) → L2.wipe σ1 vs = L2.wipe (L2.wipe σ own) vs) → L2.wipe σ1 own = L2.wipe σ own ∧ tT F X xr W0 C σ1 H2 fun b H3 => if b = true then tE F X xr W0 A σ1 H3 fun y H4 => tE F X xr W0 B σ1 H4 fun z H5 => ∃ kvs k, y = kV k ∧ H5 D0 = some (.dK kvs) ∧ kvs.length < sizeLine ∧ ∃ (m5 : List Addr) (h5 : Hd) (ks5 vs5 : List D) (kvs5 : List (Key × V)), Nx X.K X.w m1 H1 m5 h5 (upd H5 D0 (.dK (putK kvs k z))) ∧ D0 ∉ m5 ∧ (upd H5 D0 (.dK (putK kvs k z))) D0 = some (.dK kvs5) ∧ DK X.K m5 (upd H5 D0 (.dK (putK kvs k z))) ks5 vs5 kvs5 ∧ KeysOk ks5 ∧
                Post X.K X.w xr (RepB X.K X.w) W m H σ ((dcL t (fun env h => tst (ev F C env h)) (ev F A) (ev F B) (Mp.wipe env own) gs (ds.drop (i + 1)) h5 ks5 vs5).bind fun q h2 => .ok (.td q.1 q.2) h2) Q
              else ∃ (m5 : List Addr) (h5 : Hd) (ks5 vs5 : List D) (kvs5 : List (Key × V)), Nx X.K X.w m1 H1 m5 h5 H3 ∧ D0 ∉ m5 ∧ H3 D0 = some (.dK kvs5) ∧ DK X.K m5 H3 ks5 vs5 kvs5 ∧ KeysOk ks5 ∧
                Post X.K X.w xr (RepB X.K X.w) W m H σ ((dcL t (fun env h => tst (ev F C env h)) (ev F A) (ev F B) (Mp.wipe env own) gs (ds.drop (i + 1)) h5 ks5 vs5).bind fun q h2 => .ok (.td q.1 q.2) h2) Q := by
            intro σ1 eR1 ew
            refine ⟨by rw [ew own hsl]; exact wipe_own σ own, mm, env1, hh, eR1, NN2.sim, (Post.bindN2 (rel := relB) pp).imp fun b H3 ⟨b', m3, h3, N3, rb, p3⟩ => ?_⟩
            cases rb
            obtain ⟨hm3, hH3⟩ := N3.out hm2 hH2
            have NN3 := NN2.trans N3
            have sa3 : DK X.K m3 H3 ks vs kvs := DK.grow (N3.grow NN2.sim) sa2
            cases b with
            | false =>
              simp only [Bool.false_eq_true, if_false] at p3 ⊢
              exact ⟨m3, h3, ks, vs, kvs, NN3, hm3, hH3, sa3, K', p3⟩
            | true =>
              simp only [if_true] at p3 ⊢
              refine ⟨m3, env1, h3, eR1.grow (N3.grow NN2.sim), NN3.sim, (Post.bindN2 (rel := RepB X.K X.w) p3).imp fun y H4 ⟨d4, m4, h4, N4, r4, p4⟩ => ?_⟩
              obtain ⟨hm4, hH4⟩ := N4.out hm3 hH3
              have NN4 := NN3.trans N4
              refine ⟨m4, env1, h4, (eR1.grow (N3.grow NN2.sim)).grow (N4.grow NN3.sim), NN4.sim, (Post.bindN2 (rel := RepB X.K X.w) p4).imp fun z H5 ⟨d5, m5', h5', N5', r5, p5⟩ => ?_⟩
              cases eok : keyOk ks d4 && !d4.isTup with
              | false => simp only [eok, Bool.false_eq_true, if_false, R.bind] at p5; exact p5.elim
              | true =>
                simp only [eok, if_true] at p5
                simp only [Bool.and_eq_true, Bool.not_eq_true'] at eok
                obtain ⟨ok, it⟩ := eok
                obtain ⟨hk, hs⟩ := keyOk_ok ok K'
                obtain ⟨m5, N5, s5, G5⟩ := reg_ok N5' r5
                obtain ⟨hm5, hH5⟩ := N5.out hm4 hH4
                have NN5 := NN4.trans N5
                have G6 : Grow X.K m5 H5 m5 (upd H5 D0 (.dK (putK kvs (leafK d4) z))) := Grow.side (K := X.K) (m' := m5) hH5 (nf _)
                have sa5 : DK X.K m5 H5 ks vs kvs := DK.grow (N5.grow NN4.sim) (DK.grow (N4.grow NN3.sim) sa3)
                have sk : SRep X.K m5 H5 d4 y := SRep.grow (N5.grow NN4.sim) _ _ (key_solid hk r4.1)
                have ey : y = kV (leafK d4) := by
                  cases d4 with
                  | int i => simp only [SRep] at sk; rw [sk]; rfl
                  | str s => simp only [SRep] at sk; rw [sk.1]; rfl
                  | tup _ => cases it
                  | _ => simp [D.key] at hk
                rw [ey] at sk
                have len := (DK.len sa)
                refine ⟨kvs, leafK d4, ey, hH5, ?_, m5, (reg h5' d5).2, (kput d4 (reg h5' d5).1 ks vs).1, (kput d4 (reg h5' d5).1 ks vs).2, putK kvs (leafK d4) z, Nx.sideO NN5 hD hm5 hH5 (nf _), hm5, upd_same, DK.grow G6 (DK.put hk it sk s5 K'.2.2 sa5), keysOk_kput K' len.1 hk hs, p5⟩
                rw [← len.2, ← lim_eq]
                exact of_decide_eq_true el
          cases pair with
          | true => exact asg_okT t ds[i] _ env1 _ x _ (hp rfl) ea eR2 s2 fun σ1 a1 a2 => fin σ1 a1 a2
          | false =>
            have wk' : Wk X.K X.w J m1 H1 ds gs := r1
            obtain ⟨w3, _⟩ := wk' mm hh HH NN eg
            obtain ⟨_, g3⟩ := w3 i ds[i] (List.getElem?_eq_getElem hlt)
            exact asg_ok t ds[i] _ env1 _ x _ ea eR2 (g3 x H2 y).2 fun σ1 a1 a2 => fin σ1 a1 a2
  · have ei : i = ds.length := by omega
    subst ei
    rw [List.drop_length] at pp
    simp only [dcL] at pp
    cases eg : gOk hh gs with
    | false => simp only [eg, Bool.false_eq_true, if_false, R.bind] at pp; exact pp.elim
    | true =>
      simp only [eg, if_true, R.bind] at pp
      obtain ⟨_, w2⟩ := wk mm hh HH NN eg
      exact .inl ⟨w2, D0, kvs, ks, vs, mm, hh, rfl, hH, sa, K', N1.trans NN, hm, hD0, pp⟩
theorem re_dc {kx vx tg iter : Expr} {ifs : List Expr} {scope : Scope} {own : List (Str × Nat)} {pos : Pos} (hc : X.calm = true) (hN : X.N.Nodup) (hsl : ∀ i ∈ tSl t, i ∈ own.map (·.2)) (pair : Bool) (hp : pair = true → isTp t = true)
    (hi : PI X tg iter (tG X.K X.w xr (if pair then relIT X.K X.w else relI X.K X.w) W (evI F it))) (ok : BlkOk X.N X.env.scope scope own)
    (hg : ∀ (s : Shared) (H : Hp) (C : Addr) (cl : List (Str × Addr)) (fp : List Addr), PG (X.blk s H scope (compEnvC scope cl C X.env) fp) tg (gT X.K t)) (ht : ∀ (s : Shared) (H : Hp) (C' : Addr) (cl : List (Str × Addr)) (fp : List Addr), PTs (X.blk s H scope (compEnvC scope cl C' X.env) fp) ifs (tT F X xr W0 C))
    (hk : ∀ (s : Shared) (H : Hp) (C : Addr) (cl : List (Str × Addr)) (fp : List Addr), PE (X.blk s H scope (compEnvC scope cl C X.env) fp) kx (tE F X xr W0 A))
    (he : ∀ (s : Shared) (H : Hp) (C : Addr) (cl : List (Str × Addr)) (fp : List Addr), PE (X.blk s H scope (compEnvC scope cl C X.env) fp) vx (tE F X xr W0 B)) (hs : ∀ x, foldedSetIterable iter X.env x = pure x) :
    PE X (.DictComp kx vx [⟨tg, iter, ifs, 0⟩] scope pos) (tE F X xr W (.dc (own.map (·.2)) t it C A B)) := by
  refine ⟨fun pins s σ H Q I q => ?_⟩
  obtain ⟨m, q⟩ := dc_read (own.map (·.2)) hsl pair hp σ H Q q
  refine thn ((pe_dc hc hN hi ok hg ht hk he hs).run pins s σ H _ I q) fun u s1 ⟨x, H1, I1, rx, D0, kvs, ks, vs, mm, hh, ex, hD, dk, K', N, hm, hn, p⟩ => ?_
  obtain ⟨es, J, sys, hl, er⟩ := DK.raw I1 hD dk K'
  have nf : ∀ ob u, (HO.dK kvs) ≠ .frz ob u := fun ob u z => by cases z
  refine ⟨x, _, J, rx, ?_⟩
  subst ex
  have G := Grow.side (K := X.K) (m' := mm) (o' := .ext (DRaw D0 es)) hD nf
  exact p _ _ mm (Nx.sideO N hn hm hD nf) ⟨⟨D0, rfl, hm, es, upd_same, sys, hl, K', EntR.grow G _ _ _ er⟩, fun a e => by cases e; exact hn⟩
end
end Mp
end
section
set_option Elab.async false
set_option linter.all false
set_option maxRecDepth 100000
set_option maxHeartbeats 4000000
set_option autoImplicit false
/-! MpStm: statements. -/
namespace Mp
open PySem PySem.Spec PyProof.Rows L2
section
variable (K : PySem.W.Frag) (w : World) (xr : XR)
/-- the end that a flow asks for -/
def EndOf (D' : Ends) (Hb : Hp) (m : List Addr) (f : Fl) (σ : St) (H : Hp) : Prop := match f with
  | .nx => D'.nx σ H
  | .bk => D'.bk σ H
  | .ct => D'.ct σ H
  | .rt d => ∀ v, RepB K w Hb m H d v → D'.rt v H
def PostS (W : WX) (m : List Addr) (H : Hp) (σ : St) (r : R (Fl × Mp.Env)) (D' : Ends) : Prop := match r with
  | .ok p h' => ∀ σ' H' m', σ'.length = σ.length → Nx K w m H m' h' H' → EnvR K m' H' p.2 σ' → EndOf K w D' H m' p.1 σ' H'
  | .ex c fs h' => ∀ cls od σ' H' m', σ'.length = σ.length → Nx K w m H m' h' H' → xr m' H' c fs cls od → W cls od σ' H'
  | .no => False
end
section
variable {K : PySem.W.Frag} {w : World} {xr : XR} {α β : Type} {rel : Rel α β} {W : WX} {m m1 : List Addr} {H H1 : Hp} {h h1 : Hd} {σ σ1 : St}
theorem EndOf.down {D' : Ends} {Hb Hb' : Hp} {f : Fl} (e : ∀ p, Hb' p = none → Hb p = none) (q : EndOf K w D' Hb m f σ H) : EndOf K w D' Hb' m f σ H := by
  cases f with
  | rt d => exact fun v r => q v (RepB.down _ _ _ _ _ _ e r)
  | _ => exact q
theorem PostS.step {r : R (Fl × Mp.Env)} {D' : Ends} (hl : σ1.length = σ.length) (N : Nx K w m H m1 h1 H1) (p : PostS K w xr W m H σ r D') : PostS K w xr W m1 H1 σ1 r D' := by
  cases r with
  | ok q h' => exact fun σ' H' m' l n eR => EndOf.down N.gone (p σ' H' m' (l.trans hl) (N.trans n) eR)
  | ex c fs h' => exact fun cls od σ' H' m' l n q => p cls od σ' H' m' (l.trans hl) (N.trans n) q
  | no => exact p
/-- an expression ahead -/
theorem PostS.bind {r : R α} {f : α → Hd → R (Fl × Mp.Env)} {D' : Ends} (p : PostS K w xr W m H σ (r.bind f) D') :
    Post K w xr rel W m H σ r fun b H1 => ∃ a m1 h1, Nx K w m H m1 h1 H1 ∧ rel H m1 H1 a b ∧ PostS K w xr W m H σ (f a h1) D' := by
  cases r with
  | ok a h' => exact fun b H' m' n q => ⟨a, m', h', n, q, p⟩
  | ex c fs h' => exact fun cls od H' m' n q => p cls od σ H' m' rfl n q
  | no => exact p
theorem PostS.next {D' : Ends} {env : Mp.Env} (l : σ1.length = σ.length) (N : Nx K w m H m1 h1 H1) (eR : EnvR K m1 H1 env σ1) (p : PostS K w xr W m H σ (.ok (.nx, env) h1) D') : D'.nx σ1 H1 := p σ1 H1 m1 l N eR
end
section
variable {F : Nat → List D → Hd → R D} {tw : Nat} {X : Cx} {xr : XR} {W : WX} {e c : Expr} {A B C : E} {s1 s2 : S} {pos : Pos}
def tS (F : Nat → List D → Hd → R D) (tw : Nat) (X : Cx) (xr : XR) (W : WX) (s : S) : TS := fun D' σ H => ∃ m env h, EnvR X.K m H env σ ∧ Sim X.K X.w m H h ∧ PostS X.K X.w xr W m H σ (ex F tw s env h) D'
theorem rs_nil : PSs X [] (tS F tw X xr W .nil) := ⟨fun pins s σ H D' I ⟨m, env, h, eR, S, p⟩ => pss_nil.run pins s σ H D' I (PostS.next rfl (Nx.refl S) eR p)⟩
theorem PS.mono' {st : Stmt} {t t' : TS} (p : PS X st t) (f : ∀ D' σ H, t' D' σ H → t D' σ H) : PS X st t' := ⟨fun pins s σ H D' I q => p.run pins s σ H D' I (f D' σ H q)⟩
theorem PSs.mono' {st : List Stmt} {t t' : TS} (p : PSs X st t) (f : ∀ D' σ H, t' D' σ H → t D' σ H) : PSs X st t' := ⟨fun pins s σ H D' I q => p.run pins s σ H D' I (f D' σ H q)⟩
theorem rs_cons {st : Stmt} {rest : List Stmt} (ha : PS X st (tS F tw X xr W s1)) (hr : PSs X rest (tS F tw X xr W s2)) : PSs X (st :: rest) (tS F tw X xr W (.seq s1 s2)) := by
  refine PSs.mono' (pss_cons ha hr) fun D' σ H ⟨m, env, h, eR, S, p⟩ => ⟨m, env, h, eR, S, ?_⟩
  simp only [ex] at p
  cases e : ex F tw s1 env h with
  | no => rw [e] at p; exact p.elim
  | ex c fs h' => rw [e] at p; exact p
  | ok q h' =>
    rw [e] at p
    obtain ⟨f, env'⟩ := q
    simp only [R.bind] at p
    intro σ' H' m' l N eR'
    cases f with
    | nx => exact ⟨m', env', h', eR', N.sim, PostS.step l N p⟩
    | bk => exact p σ' H' m' l N eR'
    | ct => exact p σ' H' m' l N eR'
    | rt d => exact p σ' H' m' l N eR'
/-- an expression whose value is dropped -/
theorem rs_ex (he : PE X e (tE F X xr W A)) (hs : swapsWith e none pos.line X.env = pure false) : PS X (.Expr e pos) (tS F tw X xr W (.ex A)) := by
  refine PS.mono' (ps_expr he hs) fun D' σ H ⟨m, env, h, eR, S, p⟩ => ?_
  simp only [ex] at p
  exact ⟨m, env, h, eR, S, (PostS.bind (rel := RepB X.K X.w) p).imp fun x H1 ⟨d, m1, h1, N1, r1, p1⟩ => PostS.next rfl N1 (eR.grow (N1.grow S)) p1⟩
theorem rs_doc {x j} {pos' : Pos} {s : List Nat} (hx : x = (⟨s.toArray⟩ : Str)) : PS X (.Expr (.Constant (.str x) j pos) pos') (tS F tw X xr W .pass) :=
  PS.mono' ps_doc fun D' σ H ⟨m, env, h, eR, S, p⟩ => PostS.next rfl (Nx.refl S) eR p
theorem rs_ret (he : PE X e (tE F X xr W A)) : PS X (.Return (some e) pos) (tS F tw X xr W (.ret A)) := by
  refine PS.mono' (ps_ret he) fun D' σ H ⟨m, env, h, eR, S, p⟩ => ?_
  simp only [ex] at p
  refine ⟨m, env, h, eR, S, ?_⟩
  cases e1 : ev F A env h with
  | no => rw [e1] at p; exact p.elim
  | ex c fs h' => rw [e1] at p; exact fun cls od H' m' n q => p cls od σ H' m' rfl n q
  | ok d h' =>
    rw [e1] at p
    intro v H' m' N r
    exact p σ H' m' rfl N (eR.grow (N.grow S)) v r
theorem rs_retN : PS X (.Return none pos) (tS F tw X xr W (.ret .non)) :=
  PS.mono' ps_retN fun D' σ H ⟨m, env, h, eR, S, p⟩ => p σ H m rfl (Nx.refl S) eR .non mk_non
theorem rs_brk : PS X (.Break pos) (tS F tw X xr W .brk) := PS.mono' ps_break fun D' σ H ⟨m, env, h, eR, S, p⟩ => p σ H m rfl (Nx.refl S) eR
theorem rs_cnt : PS X (.Continue pos) (tS F tw X xr W .cnt) := PS.mono' ps_continue fun D' σ H ⟨m, env, h, eR, S, p⟩ => p σ H m rfl (Nx.refl S) eR
theorem rs_pass : PS X (.Pass pos) (tS F tw X xr W .pass) := PS.mono' ps_pass fun D' σ H ⟨m, env, h, eR, S, p⟩ => PostS.next rfl (Nx.refl S) eR p
theorem rs_if {a b : List Stmt} (hc : PT X c (tT F X xr W C)) (ha : PSs X a (tS F tw X xr W s1)) (hb : PSs X b (tS F tw X xr W s2)) : PS X (.If c a b pos) (tS F tw X xr W (.iff C s1 s2)) := by
  refine PS.mono' (ps_if hc ha hb) fun D' σ H ⟨m, env, h, eR, S, p⟩ => ?_
  simp only [ex] at p
  refine ⟨m, env, h, eR, S, (PostS.bind (rel := relB) p).imp fun b H1 ⟨k, m1, h1, N1, r1, p1⟩ => ?_⟩
  cases r1
  cases b with
  | true => exact ⟨m1, env, h1, eR.grow (N1.grow S), N1.sim, PostS.step rfl N1 p1⟩
  | false => exact ⟨m1, env, h1, eR.grow (N1.grow S), N1.sim, PostS.step rfl N1 p1⟩
/-! what a target leaves of the slots -/
mutual
theorem tgt_len : ∀ {t : Tg} {d : D} {env env1 : Mp.Env}, asgT t d env = some env1 → env1.length = env.length
  | .nm i, d, env, env1, e => by simp only [asgT] at e; cases e; simp
  | .tp ts, d, env, env1, e => by
    cases d with
    | tup xs => simp only [asgT] at e; exact tgts_len e
    | _ => simp [asgT] at e
  | .nil, d, env, env1, e => by cases d <;> simp [asgT] at e
  | .cons _ _, d, env, env1, e => by cases d <;> simp [asgT] at e
theorem tgts_len : ∀ {t : Tg} {ds : List D} {env env1 : Mp.Env}, asgTs t ds env = some env1 → env1.length = env.length
  | .nil, [], env, env1, e => by simp only [asgTs] at e; cases e; rfl
  | .nil, _ :: _, env, env1, e => by simp [asgTs] at e
  | .cons t r, [], env, env1, e => by simp [asgTs] at e
  | .cons t r, x :: xs, env, env1, e => by
    simp only [asgTs] at e
    cases e1 : asgT t x env with
    | none => rw [e1] at e; cases e
    | some env2 =>
      rw [e1] at e
      exact (tgts_len e).trans (tgt_len e1)
  | .nm _, xs, env, env1, e => by cases xs <;> simp [asgTs] at e
  | .tp _, xs, env, env1, e => by cases xs <;> simp [asgTs] at e
end
/-- target = value -/
theorem rs_asg {tg : Expr} {t : Tg} (he : PE X e (tE F X xr W A)) (hg : PG X tg (gT X.K t)) (hs : swapsWithSole [tg] e pos.line X.env = pure false) (hw : swappedStores [tg] e X.env = pure none)
    (h1 : (assignEach [tg] X.env).map (·.2) = [assign tg X.env]) : PS X (.Assign [tg] e pos) (tS F tw X xr W (.asg t A)) := by
  refine PS.mono' (ps_asg he hg hs hw h1) fun D' σ H ⟨m, env, h, eR, S, p⟩ => ?_
  simp only [ex] at p
  refine ⟨m, env, h, eR, S, (PostS.bind (rel := RepB X.K X.w) p).imp fun x H1 ⟨d, m1, h1, N1, r1, p1⟩ => ?_⟩
  obtain ⟨m2, N2, s2, G2⟩ := reg_ok N1 r1
  cases ea : asgT t (reg h1 d).1 env with
  | none => simp only [ea] at p1; exact p1.elim
  | some env1 =>
    simp only [ea] at p1
    refine asg_ok t _ env env1 σ x _ ea (eR.grow (N2.grow S)) s2 fun σ1 eR1 _ => PostS.next ?_ N2 eR1 p1
    rw [← eR1.1, ← eR.1, tgt_len ea]
end
end Mp
end
section
set_option Elab.async false
set_option linter.all false
set_option maxRecDepth 100000
set_option maxHeartbeats 4000000
set_option autoImplicit false
/-! MpStm2: stores by places, counts, comprehensions, loops. -/
namespace Mp
open PySem PySem.Spec PyProof.Rows L2
section
variable {F : Nat → List D → Hd → R D} {tw : Nat} {X : Cx} {xr : XR} {W : WX} {e c o i : Expr} {A B C : E} {s1 s2 : S} {pos : Pos} {it : I} {t : Tg}
/-- an expression ahead, at a later state -/
theorem PostS.bind2 {K : PySem.W.Frag} {w : World} {α β : Type} {rel : Rel α β} {m mm : List Addr} {H HH : Hp} {hh : Hd} {σ σ' : St} {r : R α} {f : α → Hd → R (Fl × Mp.Env)} {D' : Ends} (N : Nx K w m H mm hh HH) (l : σ'.length = σ.length) (p : PostS K w xr W m H σ (r.bind f) D') :
    Post K w xr rel W mm HH σ' r fun b H1 => ∃ a m1 h1, Nx K w mm HH m1 h1 H1 ∧ rel HH m1 H1 a b ∧ PostS K w xr W m H σ (f a h1) D' := by
  cases r with
  | ok a h' => exact fun b H' m' n q => ⟨a, m', h', n, q, p⟩
  | ex c fs h' => exact fun cls od H' m' n q => p cls od σ' H' m' l (N.trans n) q
  | no => exact p
/-! ### o[i] = x -/
def rSet (K : PySem.W.Frag) (w : World) : V → V → V → Hp → (Hp → Prop) → Prop := fun q k x H Q => ∃ (m : List Addr) (h h4 : Hd) (dq dk dx : D), Sim K w m H h ∧ Rep K w m H dq q ∧ Rep K w m H dk k ∧ SRep K m H dx x ∧ setO h dq dk dx = some h4 ∧ ∀ H4, Nx K w m H m h4 H4 → Q H4
theorem set_ok (hu : X.A.units + 65 < cLine) : PSet X (rSet X.K X.w) := by
  intro pins s σ H q k x ov iv u Q I ro ri rv ⟨m, h, h4, dq, dk, dx, S, rq, rk, rx, e, hq⟩
  cases dq with
  | ref n =>
    simp only [setO] at e
    cases hn : h[n]? with
    | none => simp only [hn] at e; cases e
    | some ob =>
      cases ob with
      | lst xs =>
        simp only [hn] at e
        cases dk with
        | int j =>
          simp only at e
          cases h1 : Mp.ixN xs.length j with
          | none => simp only [h1] at e; cases e
          | some jj =>
            simp only [h1] at e
            cases e
            obtain ⟨l, vs, ex, hm, hH, z⟩ := lst_at S rq hn
            rw [ixN_same, z.length] at h1
            exact set_list pins s σ H q k x ov iv u Q I ro ri rv ⟨l, vs, j, jj, ex, rep_int rk, hH, h1, hq _ (Nx.writeL S hm (z.set rx))⟩
        | _ => cases e
      | dic ks vs =>
        simp only [hn] at e
        split at e
        · rename_i ok
          cases e
          simp only [Bool.and_eq_true, decide_eq_true_eq] at ok
          obtain ⟨ok, hl⟩ := ok
          obtain ⟨d, hm, ex⟩ := rep_ref rq
          have ob := S.ob n _ d hn hm
          obtain ⟨es, e1, sys, _, K', r⟩ := ob
          subst ex
          cases ro
          have D' := DicR.dh I e1 K' r
          obtain ⟨hk, hs⟩ := keyOk_ok ok K'
          have sk := key_solid hk rk
          have kv := kv_of I hk sk ri
          have len := EntR.length r
          refine setItem_raw D' kv hs (by omega) (by rw [← len.2, ← lim_eq]; omega) fun h' tt raw sb => ?_
          refine ⟨_, DicR.wrote I e1 raw sb, hq _ (Nx.write S hm ?_)⟩
          have G : Grow X.K m H m (upd H d (.ext (DRaw d (entPut (kix dk ks) ⟨(nk dk).hash X.w, iv, u⟩ es)))) := Grow.write S (List.mem_of_getElem? hm)
          refine ⟨_, upd_same, sys, ?_, keysOk_kput K' len.1 hk hs, EntR.put hk ri (SRep.grow G _ _ sk) rv (SRep.grow G _ _ rx) K'.1 (EntR.grow G _ _ _ r)⟩
          have := kput_len (k := dk) (v := dx) ks vs
          omega
        · cases e
  | _ => cases e
def isSl : Expr → Bool
  | .Slice _ _ _ _ => true
  | _ => false
theorem asg_sub {tpos : Pos} (h : isSl i = false) : ∀ v, assign (.Subscript o i tpos) X.env v = (do
      let ov ← holding [v] (eval o X.env)
      let iv ← holding [v, ov] (eval i X.env)
      standAt tpos
      holding [v, ov, iv] (setItem ov iv v)
      release [v, ov, iv] []) := by
  intro v
  cases i <;> first | rfl | cases h
theorem rs_sas {tpos : Pos} (hsl : isSl i = false) (hu : X.A.units + 65 < cLine) (he : PE X e (tE F X xr W A)) (ho : PE X o (tE F X xr W B)) (hi : PE X i (tE F X xr W C)) (hs : swapsWithSole [.Subscript o i tpos] e pos.line X.env = pure false) (hw : swappedStores [.Subscript o i tpos] e X.env = pure none) :
    PS X (.Assign [.Subscript o i tpos] e pos) (tS F tw X xr W (.sas B C A)) := by
  refine PS.mono' (ps_asg he (pg_sub ho hi (set_ok hu) (asg_sub hsl)) hs hw (by rfl)) fun D' σ H ⟨m, env, h, eR, S, p⟩ => ?_
  simp only [ex] at p
  refine ⟨m, env, h, eR, S, (PostS.bind (rel := RepB X.K X.w) p).imp fun x H1 ⟨d, m1, h1, N1, r1, p1⟩ => ?_⟩
  obtain ⟨m2, N2, s2, G2⟩ := reg_ok N1 r1
  have eR2 := eR.grow (N2.grow S)
  refine ⟨m2, env, (reg h1 d).2, eR2, N2.sim, (PostS.bind (rel := RepB X.K X.w) (PostS.step rfl N2 p1)).imp fun q H3 ⟨dq, m3, h3, N3, r3, p3⟩ => ?_⟩
  have eR3 := eR2.grow (N3.grow N2.sim)
  refine ⟨m3, env, h3, eR3, N3.sim, (PostS.bind (rel := RepB X.K X.w) (PostS.step rfl N3 p3)).imp fun k H4 ⟨dk, m4, h4, N4, r4, p4⟩ => ?_⟩
  have eR4 := eR3.grow (N4.grow N3.sim)
  cases e5 : setO h4 dq dk (reg h1 d).1 with
  | none => simp only [e5] at p4; exact p4.elim
  | some h5 =>
    simp only [e5] at p4
    refine ⟨m4, h4, h5, dq, dk, (reg h1 d).1, N4.sim, r3.1.grow N3.sim N4, r4.1, SRep.grow (N4.grow N3.sim) _ _ (SRep.grow (N3.grow N2.sim) _ _ s2), e5, fun H5 N5 => ?_⟩
    exact PostS.next rfl N5 (eR4.grow (N5.grow N4.sim)) (PostS.step rfl N4 p4)
/-! ### i += e -/
theorem rs_augA {x : Str} {j : Nat} {pos' : Pos} (hN : X.N.Nodup) (hi : X.N[j]? = some x) (hx : Loc X.env.scope x) (he : PE X e (tE F X xr W A)) (hf : X.fn x = true ∨ X.env.scope.names.lookup x = some .local) : PS X (.AugAssign (.Name x pos') .Add e pos) (tS F tw X xr W (.aug j .add A)) := by
  refine PS.mono' (ps_aug hN hi hx he ip_add hf) fun D' σ H ⟨m, env, h, eR, S, p⟩ => ?_
  simp only [ex] at p
  cases e1 : env[j]? with
  | none => rw [e1] at p; exact p.elim
  | some od =>
    cases od with
    | none => rw [e1] at p; exact p.elim
    | some d =>
      rw [e1] at p
      simp only at p
      obtain ⟨v, g1, g2⟩ := eR.2 j d e1
      refine ⟨v, g1, m, env, h, eR, S, (PostS.bind (rel := RepB X.K X.w) p).imp fun y H1 ⟨b, m1, h1, N1, r1, p1⟩ => ?_⟩
      cases d with
      | int a =>
        cases b with
        | int b =>
          simp only at p1
          have ev' := rep_int (rep_of (w := X.w) g2)
          refine ⟨a, b, ev', rep_int r1.1, PostS.next (by simp) N1 ?_ p1⟩
          exact (eR.grow (N1.grow S)).set (by simp only [SRep])
        | _ => exact p1.elim
      | _ => cases b <;> exact p1.elim
theorem rs_augS {x : Str} {j : Nat} {pos' : Pos} (hN : X.N.Nodup) (hi : X.N[j]? = some x) (hx : Loc X.env.scope x) (he : PE X e (tE F X xr W A)) (hf : X.fn x = true ∨ X.env.scope.names.lookup x = some .local) : PS X (.AugAssign (.Name x pos') .Sub e pos) (tS F tw X xr W (.aug j .sub A)) := by
  refine PS.mono' (ps_aug hN hi hx he ip_sub hf) fun D' σ H ⟨m, env, h, eR, S, p⟩ => ?_
  simp only [ex] at p
  cases e1 : env[j]? with
  | none => rw [e1] at p; exact p.elim
  | some od =>
    cases od with
    | none => rw [e1] at p; exact p.elim
    | some d =>
      rw [e1] at p
      simp only at p
      obtain ⟨v, g1, g2⟩ := eR.2 j d e1
      refine ⟨v, g1, m, env, h, eR, S, (PostS.bind (rel := RepB X.K X.w) p).imp fun y H1 ⟨b, m1, h1, N1, r1, p1⟩ => ?_⟩
      cases d with
      | int a =>
        cases b with
        | int b =>
          simp only at p1
          have ev' := rep_int (rep_of (w := X.w) g2)
          refine ⟨a, b, ev', rep_int r1.1, PostS.next (by simp) N1 ?_ p1⟩
          exact (eR.grow (N1.grow S)).set (by simp only [SRep])
        | _ => exact p1.elim
      | _ => cases b <;> exact p1.elim
/-! ### list comprehensions, as values and set to a name -/
section
variable {elt tg iter : Expr} {ifs : List Expr} {scope : Scope} {own : List (Str × Nat)}
theorem re_lc (hc : X.calm = true) (hN : X.N.Nodup) (hsl : ∀ i ∈ tSl t, i ∈ own.map (·.2)) (pair : Bool) (hp : pair = true → isTp t = true)
    (hi : PI X tg iter (tG X.K X.w xr (if pair then relIT X.K X.w else relI X.K X.w) W (evI F it))) (ok : BlkOk X.N X.env.scope scope own)
    (hg : ∀ (s : Shared) (H : Hp) (C : Addr) (cl : List (Str × Addr)) (fp : List Addr), PG (X.blk s H scope (compEnvC scope cl C X.env) fp) tg (gT X.K t)) (ht : ∀ (s : Shared) (H : Hp) (C' : Addr) (cl : List (Str × Addr)) (fp : List Addr), PTs (X.blk s H scope (compEnvC scope cl C' X.env) fp) ifs (tT F X xr W0 C))
    (he : ∀ (s : Shared) (H : Hp) (C : Addr) (cl : List (Str × Addr)) (fp : List Addr), PE (X.blk s H scope (compEnvC scope cl C X.env) fp) elt (tE F X xr W0 A)) (hs : ∀ x, foldedSetIterable iter X.env x = pure x) :
    PE X (.ListComp elt [⟨tg, iter, ifs, 0⟩] scope pos) (tE F X xr W (.lc (own.map (·.2)) t it C A)) :=
  PE.mono (pe_lc hc hN hi ok hg ht he hs) fun σ H Q q => lc_read (own.map (·.2)) hsl pair hp σ H Q q
theorem rs_setLc {j : Nat} {y : Str} {py : Pos} {spos : Pos} (hc : X.calm = true) (hN : X.N.Nodup) (hy : X.N[j]? = some y) (hyl : X.env.scope.names.lookup y = some .local)
    (hsw : swapsWith (.ListComp elt [⟨tg, iter, ifs, 0⟩] scope pos) (some (.Name y py)) spos.line X.env = pure true) (hsl : ∀ i ∈ tSl t, i ∈ own.map (·.2)) (pair : Bool) (hp : pair = true → isTp t = true)
    (hi : PI X tg iter (tG X.K X.w xr (if pair then relIT X.K X.w else relI X.K X.w) W (evI F it))) (ok : BlkOk X.N X.env.scope scope own)
    (hg : ∀ (s : Shared) (H : Hp) (C : Addr) (cl : List (Str × Addr)) (fp : List Addr), PG (X.blk s H scope (compEnvC scope cl C X.env) fp) tg (gT X.K t)) (ht : ∀ (s : Shared) (H : Hp) (C' : Addr) (cl : List (Str × Addr)) (fp : List Addr), PTs (X.blk s H scope (compEnvC scope cl C' X.env) fp) ifs (tT F X xr W0 C))
    (he : ∀ (s : Shared) (H : Hp) (C : Addr) (cl : List (Str × Addr)) (fp : List Addr), PE (X.blk s H scope (compEnvC scope cl C X.env) fp) elt (tE F X xr W0 A)) (hs : ∀ x, foldedSetIterable iter X.env x = pure x) :
    PS X (.Assign [.Name y py] (.ListComp elt [⟨tg, iter, ifs, 0⟩] scope pos) spos) (tS F tw X xr W (.asg (.nm j) (.lc (own.map (·.2)) t it C A))) := by
  refine PS.mono' (ps_setLc hc hN hy hyl hsw hi ok hg ht he hs) fun D' σ H ⟨m, env, h, eR, S, p⟩ => ?_
  rw [ex] at p
  refine lc_read (own.map (·.2)) hsl pair hp σ H _ ⟨m, env, h, eR, S, ?_⟩
  refine (PostS.bind (rel := RepB X.K X.w) p).imp fun x H1 ⟨d, m1, h1, N1, r1, p1⟩ => ?_
  obtain ⟨m2, N2, s2, G2⟩ := reg_ok N1 r1
  simp only [asgT] at p1
  exact PostS.next (by simp) N2 ((eR.grow (N2.grow S)).set s2) p1
end
/-! ### loops -/
theorem rs_while {body : List Stmt} (hp : PassesOwn (model X.prog X.w) X.A X.env X.xe) (hc : PT X c (tT F X xr W C)) (hb : PSs X body (tS F tw X xr W s1)) : PS X (.While c body [] pos) (tS F tw X xr W (.whl C s1)) := by
  refine PS.mono' (ps_while hp hc hb) fun D' σ H ⟨m, env, h, eR, S, p⟩ => ?_
  simp only [ex] at p
  refine ⟨fun k σ2 H2 => σ2.length = σ.length ∧ ∃ m2 env2 h2, Nx X.K X.w m H m2 h2 H2 ∧ EnvR X.K m2 H2 env2 σ2 ∧ PostS X.K X.w xr W m H σ (whL (evT F C) (ex F tw s1) k env2 h2) D', ⟨tw, rfl, m, env, h, Nx.refl S, eR, p⟩, ?_⟩
  rintro k σ2 H2 ⟨l2, m2, env2, h2, N2, eR2, p2⟩
  cases k with
  | zero => exact p2.elim
  | succ k =>
    simp only [whL] at p2
    refine ⟨m2, env2, h2, eR2, N2.sim, (PostS.bind2 (rel := relB) N2 l2 p2).imp fun b H3 ⟨b', m3, h3, N3, rb, p3⟩ => ?_⟩
    cases rb
    have eR3 := eR2.grow (N3.grow N2.sim)
    have NN := N2.trans N3
    cases b with
    | false =>
      simp only [Bool.false_eq_true, if_false] at p3 ⊢
      exact PostS.next l2 NN eR3 p3
    | true =>
      simp only [if_true] at p3 ⊢
      refine ⟨fun σ4 H4 => σ4.length = σ.length ∧ ∃ m4 env4 h4, Nx X.K X.w m H m4 h4 H4 ∧ EnvR X.K m4 H4 env4 σ4 ∧ PostS X.K X.w xr W m H σ (whL (evT F C) (ex F tw s1) k env4 h4) D', fun σ4 H4 z => ⟨k, Nat.lt_succ_self k, z⟩, m3, env2, h3, eR3, N3.sim, ?_⟩
      cases e : ex F tw s1 env2 h3 with
      | no => rw [e] at p3; exact p3.elim
      | ex c fs h' => rw [e] at p3; exact PostS.step l2 NN p3
      | ok q h' =>
        rw [e] at p3
        obtain ⟨f, env4⟩ := q
        simp only [R.bind] at p3
        intro σ4 H4 m4 l4 N4 eR4
        have l4' := l4.trans l2
        have NN4 := NN.trans N4
        cases f with
        | nx => exact ⟨l4', m4, env4, h', NN4, eR4, p3⟩
        | ct => exact ⟨l4', m4, env4, h', NN4, eR4, p3⟩
        | bk => exact PostS.next l4' NN4 eR4 p3
        | rt d => exact fun v r => p3 σ4 H4 m4 l4' NN4 eR4 v (RepB.down _ _ _ _ _ _ NN.gone r)
theorem rs_for {iter tg : Expr} {body : List Stmt} (hp : PassesOwn (model X.prog X.w) X.A X.env X.xe) (hc : X.calm = true) (pair : Bool) (hpt : pair = true → isTp t = true) (hi : PI X tg iter (tG X.K X.w xr (if pair then relIT X.K X.w else relI X.K X.w) W (evI F it))) (hg : PG X tg (gT X.K t))
    (hb : PSs X body (tS F tw X xr W s1)) (hs : ∀ x, foldedSetIterable iter X.env x = pure x) : PS X (.For tg iter body [] pos) (tS F tw X xr W (.for t it s1)) := by
  refine PS.mono' (ps_for hp hc hi hg hb hs) fun D' σ H ⟨m, env, h, eR, S, p⟩ => ?_
  simp only [ex] at p
  refine ⟨m, env, h, eR, S, (PostS.bind p).imp fun J H1 ⟨⟨ds, gs⟩, m1, h1, N1, r1, p1⟩ => ?_⟩
  have wk : WkT X.K X.w J m1 H1 ds gs := by
    cases pair with
    | true => exact r1
    | false => exact Wk.t r1
  refine ⟨fun i meas σ2 H2 => meas = ds.length - i ∧ i ≤ ds.length ∧ σ2.length = σ.length ∧ ∃ m2 env2 h2, Nx X.K X.w m1 H1 m2 h2 H2 ∧ EnvR X.K m2 H2 env2 σ2 ∧ PostS X.K X.w xr W m H σ (forL t (ex F tw s1) gs (ds.drop i) env2 h2) D', ⟨ds.length, by simp, Nat.zero_le _, rfl, m1, env, h1, Nx.refl N1.sim, eR.grow (N1.grow S), by simpa using p1⟩, ?_⟩
  rintro i meas σ2 H2 ⟨rfl, hi', l2, m2, env2, h2, N2, eR2, p2⟩
  by_cases hlt : i < ds.length
  · have ed : ds.drop i = ds[i] :: ds.drop (i + 1) := List.drop_eq_getElem_cons hlt
    rw [ed] at p2
    simp only [forL] at p2
    cases eg : gOk h2 gs with
    | false => simp only [eg, Bool.false_eq_true, if_false] at p2; exact p2.elim
    | true =>
      simp only [eg, if_true] at p2
      obtain ⟨w1, w2⟩ := wk m2 h2 H2 N2 eg
      obtain ⟨g1, g2⟩ := w1 i ds[i] (List.getElem?_eq_getElem hlt)
      refine .inr ⟨g1, fun σ4 H4 => i + 1 ≤ ds.length ∧ σ4.length = σ.length ∧ ∃ m4 env4 h4, Nx X.K X.w m1 H1 m4 h4 H4 ∧ EnvR X.K m4 H4 env4 σ4 ∧ PostS X.K X.w xr W m H σ (forL t (ex F tw s1) gs (ds.drop (i + 1)) env4 h4) D', fun σ4 H4 z => ⟨ds.length - (i + 1), by omega, rfl, z⟩, fun x H3 y => ?_⟩
      obtain ⟨N3, s3⟩ := g2 x H3 y
      have NN3 := N2.trans N3
      cases ea : asgT t ds[i] env2 with
      | none => simp only [ea] at p2; exact p2.elim
      | some env3 =>
        simp only [ea] at p2
        have eR3 := eR2.grow (N3.grow N2.sim)
        have fin : ∀ σ3, EnvR X.K m2 H3 env3 σ3 → (∀ vs, (∀ i ∈ tSl t, i ∈ vs) → L2.wipe σ3 vs = L2.wipe σ2 vs) → tS F tw X xr W s1 { D' with nx := fun σ4 H4 => i + 1 ≤ ds.length ∧ σ4.length = σ.length ∧ ∃ m4 env4 h4, Nx X.K X.w m1 H1 m4 h4 H4 ∧ EnvR X.K m4 H4 env4 σ4 ∧ PostS X.K X.w xr W m H σ (forL t (ex F tw s1) gs (ds.drop (i + 1)) env4 h4) D', ct := fun σ4 H4 => i + 1 ≤ ds.length ∧ σ4.length = σ.length ∧ ∃ m4 env4 h4, Nx X.K X.w m1 H1 m4 h4 H4 ∧ EnvR X.K m4 H4 env4 σ4 ∧ PostS X.K X.w xr W m H σ (forL t (ex F tw s1) gs (ds.drop (i + 1)) env4 h4) D', bk := D'.nx } σ3 H3 := by
          intro σ3 eR4 _
          have l3 : σ3.length = σ.length := by rw [← eR4.1, tgt_len ea, eR2.1, l2]
          refine ⟨m2, env3, h2, eR4, NN3.sim, ?_⟩
          have NB := N1.trans NN3
          cases e : ex F tw s1 env3 h2 with
          | no => rw [e] at p2; exact p2.elim
          | ex c fs h' => rw [e] at p2; exact PostS.step l3 NB p2
          | ok q h' =>
            rw [e] at p2
            obtain ⟨f, env4⟩ := q
            simp only [R.bind] at p2
            intro σ4 H4 m4 l4 N4 eR4'
            have l4' := l4.trans l3
            have NN4 := NN3.trans N4
            cases f with
            | nx => exact ⟨hlt, l4', m4, env4, h', NN4, eR4', p2⟩
            | ct => exact ⟨hlt, l4', m4, env4, h', NN4, eR4', p2⟩
            | bk => exact PostS.next l4' (N1.trans NN4) eR4' p2
            | rt d => exact fun v r => p2 σ4 H4 m4 l4' (N1.trans NN4) eR4' v (RepB.down _ _ _ _ _ _ NB.gone r)
        cases pair with
        | true => exact asg_okT t ds[i] _ env3 _ x _ (hpt rfl) ea eR3 s3 fun σ1 a1 a2 => fin σ1 a1 a2
        | false =>
          have wk' : Wk X.K X.w J m1 H1 ds gs := r1
          obtain ⟨w3, _⟩ := wk' m2 h2 H2 N2 eg
          obtain ⟨_, g3⟩ := w3 i ds[i] (List.getElem?_eq_getElem hlt)
          exact asg_ok t ds[i] _ env3 _ x _ ea eR3 (g3 x H3 y).2 fun σ1 a1 a2 => fin σ1 a1 a2
  · have ei : i = ds.length := by omega
    subst ei
    rw [List.drop_length] at p2
    simp only [forL] at p2
    cases eg : gOk h2 gs with
    | false => simp only [eg, Bool.false_eq_true, if_false] at p2; exact p2.elim
    | true =>
      simp only [eg, if_true] at p2
      obtain ⟨_, w2⟩ := wk m2 h2 H2 N2 eg
      exact .inl ⟨w2, PostS.next l2 (N1.trans N2) eR2 p2⟩
end
end Mp
end
section
set_option Elab.async false
set_option linter.all false
set_option maxRecDepth 100000
set_option maxHeartbeats 4000000
set_option autoImplicit false
/-! MpDct: dict displays of none or one. -/
namespace Mp
open PySem PySem.Spec PyProof.Rows L2
section
variable {F : Nat → List D → Hd → R D} {X : Cx} {xr : XR} {W : WX} {k v : Expr} {A B : E} {pos : Pos}
theorem re_dct0 : PE X (.Dict [] [] pos) (tE F X xr W (.dct .nil)) := by
  refine ⟨fun pins s σ H Q I ⟨m, env, h, eR, S, p⟩ => wpAny_Dict_empty ?_⟩
  have hn : H s.heap.objs.size = none := I.hok.fresh (Nat.le_refl _)
  refine ⟨.ref s.heap.objs.size, _, new_dict (t' := s.toks) I, rfl, ?_⟩
  exact p _ _ m (Nx.new S hn) ⟨⟨s.heap.objs.size, rfl, S.out hn, [], upd_same, new_sys I, Nat.zero_le _, ⟨by simp, by simp, by simp⟩, rfl, rfl⟩, fun a e => by cases e; exact hn⟩
/-- a display's end -/
def dctG (ds : List D) (h : Hd) : R D := match keyVals ds with
  | some (ks, vs) => match kputs ks vs [] [] with
    | some (as, bs) => .ok (.td as bs) h
    | none => .no
  | none => .no
def DctQ (X : Cx) (xr : XR) (W : WX) (m : List Addr) (H : Hp) (σ : St) (D0 : Addr) (Q : VK) : List (V × V) → Hp → Prop := fun ps H1 => ∃ (m1 : List Addr) (h1 : Hd) (dk dv : D) (x y : V), ps = [(x, y)] ∧ Nx X.K X.w m H m1 h1 H1 ∧ SRep X.K m1 H1 dk x ∧ SRep X.K m1 H1 dv y ∧ D0 ∉ m1 ∧ H1 D0 = some (.ext (DRaw D0 [])) ∧
  Post X.K X.w xr (RepB X.K X.w) W m H σ (dctG [dk, dv] h1) Q
theorem re_dct1 (hu : X.A.units + 65 < cLine) (hk : PE X k (tE F X xr W A)) (hv : PE X v (tE F X xr W B)) : PE X (.Dict [some k] [v] pos) (tE F X xr W (.dct (.cons A (.cons B .nil)))) := by
  refine ⟨fun pins s σ H Q I ⟨m, env, h, eR, S, p⟩ => ?_⟩
  have hn : H s.heap.objs.size = none := I.hok.fresh (Nat.le_refl _)
  have I1 := new_dict (t' := s.toks) I
  generalize hD : s.heap.objs.size = D0 at hn I1
  have N0 : Nx X.K X.w m H m h (upd H D0 (.ext (DRaw D0 []))) := Nx.new S hn
  have nf : ∀ ob u, (HO.ext (DRaw D0 [])) ≠ .frz ob u := fun ob u z => by cases z
  have p2 : Post X.K X.w xr (RepB X.K X.w) W m H σ ((ev F A env h).bind fun d h1 => (ev F B env (reg h1 d).2).bind fun e h2 => dctG [(reg h1 d).1, (reg h2 e).1] (reg h2 e).2) Q := by
    simp only [ev, evs] at p
    cases e1 : ev F A env h with
    | no => rw [e1] at p; exact p
    | ex c fs h1 => rw [e1] at p; exact p
    | ok d h1 =>
      rw [e1] at p
      simp only [R.bind] at p ⊢
      cases e2 : ev F B env (reg h1 d).2 with
      | no => rw [e2] at p; exact p
      | ex c fs h2 => rw [e2] at p; exact p
      | ok e h2 => rw [e2] at p; exact p
  have hp : (pairTrees [some k] [v] X.env pos).length = 1 := by
    rw [pairTrees_length [some k] [v] X.env pos rfl rfl]
    rfl
  rw [arm_eval_Dict, zip_pairTrees [some k] [v] X.env pos rfl rfl, dictDisplay_pairs (pairTrees [some k] [v] X.env pos) (fun z => by rw [z] at hp; cases hp) (by omega)]
  refine wpAny_bind (wpAny_standAt (wpAny_bind ?_))
  unfold subDict
  refine wpAny_bind (wpAny_alloc (wpAny_bind (wpAny_holding ?_)))
  rw [if_pos (by omega)]
  have trs : tPairs [(tE F X xr W A, tE F X xr W B)] σ (upd H D0 (.ext (DRaw D0 []))) (DctQ X xr W m H σ D0 Q) := by
    have out0 : D0 ∉ m := S.out hn
    refine ⟨m, env, h, eR.grow (N0.grow S), N0.sim, ?_⟩
    cases e1 : ev F A env h with
    | no => rw [e1] at p2; exact p2.elim
    | ex c fs h1 => rw [e1] at p2; exact Post.step RepB.down N0 p2
    | ok d h1 =>
      rw [e1] at p2
      simp only [R.bind] at p2
      intro x H1 m1 N1 r1
      obtain ⟨m2, N2, s2, G2⟩ := reg_ok N1 r1
      obtain ⟨o1, o2⟩ := N2.out out0 upd_same
      refine ⟨m2, env, (reg h1 d).2, (eR.grow (N0.grow S)).grow (N2.grow N0.sim), N2.sim, ?_⟩
      cases e2 : ev F B env (reg h1 d).2 with
      | no => rw [e2] at p2; exact p2.elim
      | ex c fs h2 => rw [e2] at p2; exact Post.step RepB.down (N0.trans N2) p2
      | ok e h2 =>
        rw [e2] at p2
        simp only [R.bind] at p2
        intro y H2 m3 N3 r3
        obtain ⟨m4, N4, s4, G4⟩ := reg_ok N3 r3
        obtain ⟨o3, o4⟩ := N4.out o1 o2
        exact ⟨m4, (reg h2 e).2, (reg h1 d).1, (reg h2 e).1, x, y, rfl, (N0.trans N2).trans N4, SRep.grow (N4.grow N2.sim) _ _ s2, s4, o3, o4, p2⟩
  subst hD
  refine wpAny_bind (thn ((pps_cons hk hv pps_nil).run pins _ σ _ _ I1 trs) fun vs s1 ⟨ps, H1, I2, rel, m1, h1, dk, dv, x, y, ep, N, sk, sv, o1, o2, p1⟩ => ?_)
  subst ep
  cases rel with
  | @cons _ q _ qs rq rr =>
  cases rr
  obtain ⟨rk, rv⟩ := rq
  obtain ⟨ku, vu⟩ := q
  unfold dctG at p1
  simp only [keyVals, kputs] at p1
  cases ok : keyOk [] dk with
  | false => simp only [ok, Bool.false_eq_true, if_false] at p1; exact p1.elim
  | true =>
    simp only [ok, if_true] at p1
    have hk8 : D.key 8 dk = true := by
      unfold keyOk at ok
      simpa using ok
    have K0 : KeysOk [] := ⟨by simp, by simp, by simp⟩
    have D' : DH X.w s1.heap s.heap.objs.size [] [] := DicR.dh (ks := []) (vs := []) (m := m1) I2 o2 K0 ⟨rfl, rfl⟩
    have kv := kv_of I2 hk8 sk rk
    refine wpAny_holding ?_
    refine wpAny_bind ?_
    rw [List.forIn_cons]
    refine wpAny_bind (wpAny_bind (set_raw D' kv (fun a ha => by cases ha) (by omega) (Nat.zero_le _) fun h' t' raw sb => wpAny_pure ?_))
    dsimp only
    rw [List.forIn_nil]
    refine wpAny_pure (wpAny_pure (wpAny_pure (wpAny_pure ?_)))
    have J := DicR.wrote (t' := t') I2 o2 raw sb
    have G := Grow.side (K := X.K) (m' := m1) (o' := .ext (DRaw s.heap.objs.size (entPut (kix dk []) ⟨(nk dk).hash X.w, ku, vu⟩ []))) o2 nf
    refine ⟨.ref s.heap.objs.size, _, J, rfl, p1 _ _ m1 (Nx.sideO N hn o1 o2 nf) ⟨⟨s.heap.objs.size, rfl, o1, _, upd_same, new_sys I, ?_, ?_, ?_⟩, fun a e => by cases e; exact hn⟩⟩
    · exact Nat.le_trans (kput_len (k := dk) (v := dv) [] []) (by decide)
    · exact keysOk_kput K0 rfl hk8 (fun a ha => by cases ha)
    · exact EntR.put hk8 rk (SRep.grow G _ _ sk) rv (SRep.grow G _ _ sv) (fun a ha => by cases ha) ⟨rfl, rfl⟩
end
end Mp
end
section
set_option Elab.async false
set_option linter.all false
set_option maxRecDepth 100000
set_option maxHeartbeats 4000000
set_option autoImplicit false
/-! MpCmp: from the program's own tree to the small one. -/
namespace Mp
open PySem PySem.Spec PyProof.Rows L2
/-- what a global name is -/
inductive Gk where
  | fn (i : Nat) | str (s : List Nat) | int (i : Int) | cls (c : Nat) | blt
abbrev GT := List (Str × Gk)
structure Cc where
  N : List Str
  sc : Scope
  bl : Option Scope
def okN (x : Str) : Bool := !(x == ("__debug__" : Str)) && !(x == ("__classdict__" : Str)) && !(x == ("__name__" : Str))
def idx (x : Str) : List Str → Option Nat
  | [] => none
  | y :: r => if y == x then some 0 else (idx x r).map (· + 1)
theorem idx_ok {x : Str} : ∀ {N : List Str} {i : Nat}, idx x N = some i → N[i]? = some x
  | [], i, h => by cases h
  | y :: r, i, h => by
    simp only [idx] at h
    split at h
    · rename_i e
      cases h
      rw [eq_of_beq e]
      rfl
    · obtain ⟨j, h1, h2⟩ := Option.map_eq_some_iff.mp h
      subst h2
      simpa using idx_ok h1
def kindB (c : Cc) (x : Str) : Option NameKind := c.sc.names.lookup x
def visB (c : Cc) (x : Str) : Bool := match kindB c x with
  | some .local => true
  | some .cell => true
  | some .free => true
  | _ => false
def cFn : Option Scope → Str → Bool
  | none, _ => true
  | some s, x => s.names.lookup x == some .cell
def locB (c : Cc) (x : Str) : Bool := match kindB c x with
  | some .local => true
  | some .cell => cFn c.bl x
  | _ => false
def gk (G : GT) (c : Cc) (x : Str) : Option Gk := match kindB c x with
  | some .globalImplicit => if okN x then G.lookup x else none
  | _ => none
def isBlt (G : GT) (c : Cc) (x : Str) : Bool := match gk G c x with
  | some .blt => true
  | _ => false
def biOf (x : Str) : Option Bi := if x == biN .len then some .len else if x == biN .all then some .all else if x == biN .any then some .any else if x == biN .list then some .list else if x == biN .tuple then some .tuple else
  if x == biN .dict then some .dict else if x == biN .sum then some .sum else if x == biN .int then some .int else if x == biN .abs then some .abs else if x == biN .str then some .str else none
theorem biOf_ok {x : Str} {b : Bi} (h : biOf x = some b) : x = biN b ∧ biOk b = true := by
  unfold biOf at h
  repeat (split at h; · rename_i e; cases h; exact ⟨eq_of_beq e, rfl⟩)
  cases h
def tyOf (x : Str) : Option Ty := if x == Str.ofString (tyN .str) then some .str else if x == Str.ofString (tyN .int) then some .int else if x == Str.ofString (tyN .bool) then some .bool else if x == Str.ofString (tyN .tuple) then some .tuple else
  if x == Str.ofString (tyN .list) then some .list else if x == Str.ofString (tyN .dict) then some .dict else none
theorem tyOf_ok {x : Str} {t : Ty} (h : tyOf x = some t) : x = Str.ofString (tyN t) := by
  unfold tyOf at h
  repeat (split at h; · rename_i e; cases h; exact eq_of_beq e)
  cases h
def opOf : Operator → Option Op
  | .Add => some .add | .Sub => some .sub | .Mult => some .mul | .FloorDiv => some .fdv | .Mod => some .mod | .Pow => some .pow
  | _ => none
theorem opOf_ok {o : Operator} {p : Op} (h : opOf o = some p) : o = opO p := by cases o <;> cases h <;> rfl
def cmOf : CmpOp → Option Cm
  | .Eq => some .eq | .NotEq => some .ne | .Lt => some .lt | .LtE => some .le | .Gt => some .gt | .GtE => some .ge | .Is => some .is | .IsNot => some .isn | .In => some .inn | .NotIn => some .nin
theorem cmOf_ok {o : CmpOp} {p : Cm} (h : cmOf o = some p) : o = cmO p := by cases o <;> cases h <;> rfl
def isStar : Expr → Bool
  | .Starred _ _ => true
  | _ => false
def isSet : Expr → Bool
  | .Set _ _ _ => true
  | _ => false
def isTupE : Expr → Bool
  | .Tuple _ _ _ => true
  | _ => false
theorem star_no {a : Expr} {es : List Expr} {env : PySem.Env} (h : isStar a = false) : starEach (a :: es) env = (false, eval a env) :: starEach es env := by
  cases a <;> first | rfl | cases h
theorem fold_no {a : Expr} {env : PySem.Env} (h : isSet a = false) : ∀ x, foldedSetIterable a env x = pure x := by
  intro x
  cases a <;> first | rfl | cases h
theorem plain_no {a : Expr} (h : isSl a = false) : PlainIx a := by
  intro o i
  cases a <;> first | rfl | cases h
theorem stars_no {pos : Pos} {env : PySem.Env} : ∀ {es : List Expr}, es.all (fun e => !isStar e) = true → (backTo pos (starEach es env)).any (·.1) = false
  | [], _ => rfl
  | e :: es, h => by
    simp only [List.all_cons, Bool.and_eq_true, Bool.not_eq_true'] at h
    rw [star_no h.1]
    have ih := stars_no (pos := pos) (env := env) h.2
    show (false || (backTo pos (starEach es env)).any (·.1)) = false
    rw [ih]
    rfl
/-- lists of expressions -/
def cL (f : Expr → Option E) : List Expr → Option E
  | [] => some .nil
  | e :: r => match cL f r with
    | some R' => match e with
      | .Starred a _ => (f a).map fun A => .star A R'
      | e => (f e).map fun A => .cons A R'
    | none => none
/-- targets -/
def cT (c : Cc) : Nat → Expr → Option Tg
  | 0, _ => none
  | n + 1, e => match e with
    | .Name x _ => if locB c x then (idx x c.N).map .nm else none
    | .Tuple es _ _ => (cTl (cT c n) es).map .tp
    | _ => none
where cTl (f : Expr → Option Tg) : List Expr → Option Tg
  | [] => some .nil
  | e :: r => if isStar e then none else match f e with
    | some t => (cTl f r).map fun r => .cons t r
    | none => none
/-- what is walked, and whether in pairs -/
def cI (G : GT) (c : Cc) (f : Expr → Option E) (tup : Bool) (e : Expr) : Option (I × Bool) := match e with
  | .Call (.Name x _) es [] _ => if x == ("range" : Str) && isBlt G c x && es.all (fun e => !isStar e) then (match es with
      | [a] => (cL f [a]).map fun A => (.rng A, false)
      | [a, b] => (cL f [a, b]).map fun A => (.rng A, false)
      | _ => none)
    else if x == ("zip" : Str) && isBlt G c x && es.all (fun e => !isStar e) && tup then (match es with
      | [a, b] => (cL f [a, b]).map fun A => (.zip A, true)
      | _ => none)
    else (f e).map fun A => (.e A, false)
  | e => (f e).map fun A => (.e A, false)
def ownOf' (c : Cc) (scope : Scope) : List (Str × Nat) := scope.names.filterMap fun y => match y.2 with
  | .local => (idx y.1 c.N).map fun i => (y.1, i)
  | .cell => (idx y.1 c.N).map fun i => (y.1, i)
  | _ => none
def blkOf (c : Cc) (scope : Scope) : Cc := ⟨c.N, relS scope c.sc, some scope⟩
def cIfs (f : Expr → Option E) : List Expr → Option E
  | [] => some (.bl true)
  | [a] => f a
  | _ => none
/-- the parts of a comprehension: own, target, walk, test -/
def cGen (G : GT) (c : Cc) (f g : Expr → Option E) (gens : List Comprehension) (scope : Scope) : Option (List (Str × Nat) × Tg × I × Bool × E) := match gens with
  | [⟨tg, iter, ifs, k⟩] => if decide (k = 0) && blkC c.N c.sc scope (ownOf' c scope) && !isSet iter && !isStar iter then (match cT (blkOf c scope) 6 tg with
      | some t => if (tSl t).all (fun i => (ownOf' c scope).any fun p => Nat.beq p.2 i) then (match cI G c f (isTupE tg) iter with
          | some (it, pair) => (match cIfs g ifs with
            | some C => some (ownOf' c scope, t, it, pair, C)
            | none => none)
          | none => none) else none
      | none => none) else none
  | _ => none
def cMe (m : Str) (n : Nat) : Option Me := if m == ("append" : Str) && Nat.beq n 1 then some .append else if m == ("extend" : Str) && Nat.beq n 1 then some .extend else if m == ("pop" : Str) && Nat.beq n 0 then some .pop else if m == ("pop" : Str) && Nat.beq n 1 then some .popAt else none
def cIsi (G : GT) (c : Cc) (f : Expr → Option E) : List Expr → Option E
  | [a, .Name y _] => if isStar a || !isBlt G c y then none else (match tyOf y, f a with
    | some t, some A => some (.isi A t)
    | _, _ => none)
  | _ => none
def cBif (f : Expr → Option E) (x : Str) : List Expr → Option E
  | [a] => if isStar a then none else (match biOf x, f a with
    | some b, some A => some (.bif b A)
    | _, _ => none)
  | _ => none
def cDct (f : Expr → Option E) (ks : List (Option Expr)) (vs : List Expr) : Option E := match ks, vs with
  | [], [] => some (.dct .nil)
  | [some k], [v] => (match f k, f v with
    | some A, some B => some (.dct (.cons A (.cons B .nil)))
    | _, _ => none)
  | _, _ => none
def cE (G : GT) : Nat → Cc → Expr → Option E
  | 0, _, _ => none
  | n + 1, c, e => match e with
    | .Constant k _ _ => (match k with
      | .none => some .non
      | .bool b => some (.bl b)
      | .int i => some (.int i)
      | .str s => if okS s.cps.toList then some (.str s.cps.toList) else none
      | _ => none)
    | .Name x _ => if okN x then (if visB c x then (idx x c.N).map .var else match gk G c x with
      | some (.str s) => some (.str s)
      | some (.int i) => some (.int i)
      | _ => none) else none
    | .Tuple es _ _ => (cL (cE G n c) es).map .tup
    | .List es _ => (cL (cE G n c) es).map .lst
    | .Dict ks vs _ => cDct (cE G n c) ks vs
    | .BinOp a o b _ => (match opOf o, cE G n c a, cE G n c b with
      | some p, some A, some B => some (.bin p A B)
      | _, _, _ => none)
    | .UnaryOp .Not a _ => (cE G n c a).map .not
    | .UnaryOp .USub a _ => (cE G n c a).map .neg
    | .Compare a [o] [b] _ => if behindInMarks o b then none else (match cmOf o, cE G n c a, cE G n c b with
      | some p, some A, some B => some (.cmp p A B)
      | _, _, _ => none)
    | .Compare a [o, o2] [b, b2] _ => if lastMarks [o, o2] [b, b2] then none else (match cmOf o, cmOf o2, cE G n c a, cE G n c b, cE G n c b2 with
      | some p, some p2, some A, some B, some B2 => some (.chn p p2 A B B2)
      | _, _, _, _, _ => none)
    | .BoolOp o es p => (match es with
      | [a] => cE G n c a
      | a :: b :: r => (match cE G n c a, cE G n c (.BoolOp o (b :: r) p) with
        | some A, some B => (match o with
          | .And => some (.and A B)
          | .Or => some (.or A B))
        | _, _ => none)
      | _ => none)
    | .IfExp t a b _ => (match cE G n c t, cE G n c a, cE G n c b with
      | some T, some A, some B => some (.ite T A B)
      | _, _, _ => none)
    | .Subscript a i _ => (match cE G n c a with
      | some A => (match i with
        | .Slice none none none _ => some (.slN A)
        | .Slice (some l) none none _ => (cE G n c l).map fun L => .slL A L
        | .Slice none (some u) none _ => (cE G n c u).map fun U => .slH A U
        | .Slice (some l) (some u) none _ => (match cE G n c l, cE G n c u with
          | some L, some U => some (.slB A L U)
          | _, _ => none)
        | i => if isSl i then none else (cE G n c i).map fun I' => .ix A I')
      | none => none)
    | .Call f es [] pos => (match f with
      | .Name x _ => (match gk G c x with
        | some (.fn k) => if es.all (fun e => !isStar e) then (cL (cE G n c) es).map fun Es => .cal k Es else none
        | some .blt => if x == ("isinstance" : Str) then cIsi G c (cE G n c) es else cBif (cE G n c) x es
        | _ => none)
      | .Attribute (.Name o p) m apos => if apos.endLine == pos.line && es.all (fun e => !isStar e) then (match cMe m es.length, cE G n c (.Name o p), cL (cE G n c) es with
          | some me, some O, some Es => some (.met me O Es)
          | _, _, _ => none) else none
      | _ => none)
    | .ListComp elt gens scope _ => (match cGen G c (cE G n c) (cE G n (blkOf c scope)) gens scope, cE G n (blkOf c scope) elt with
      | some (own, t, it, pair, C), some A => if !pair || isTp t then some (.lc (own.map (·.2)) t it C A) else none
      | _, _ => none)
    | .DictComp k v gens scope _ => (match cGen G c (cE G n c) (cE G n (blkOf c scope)) gens scope, cE G n (blkOf c scope) k, cE G n (blkOf c scope) v with
      | some (own, t, it, pair, C), some A, some B => if !pair || isTp t then some (.dc (own.map (·.2)) t it C A B) else none
      | _, _, _ => none)
    | _ => none
end Mp
end
section
set_option Elab.async false
set_option linter.all false
set_option maxRecDepth 100000
set_option maxHeartbeats 4000000
set_option autoImplicit false
/-! MpCmp2: what is compiled is sound: expressions. -/
namespace Mp
open PySem PySem.Spec PyProof.Rows L2
/-- a class of errors -/
def ClsAt (X : Cx) (xr : XR) (k : Nat) (x : Str) : Prop := ∃ (C : Addr) (bmB : List Value) (B newId initId : String), ExcBaseFacts B newId initId bmB ∧ PySem.W.excIn X.K C bmB newId = true ∧ X.mg x = some (.ref C) ∧ PySem.W.keepIn X.K (.ref C) = true ∧ Raises X (.ref C) ∧ ∀ m H fs, xr m H k fs (.ref C) none
def GOk (F : Nat → List D → Hd → R D) (X : Cx) (xr : XR) (G : GT) : Prop := ∀ x k, G.lookup x = some k → match k with
  | .fn i => FnAt F X xr i x
  | .str s => (∃ t, X.mg x = some (.str ⟨s.toArray⟩ t)) ∧ okS s = true
  | .int i => ∃ t, X.mg x = some (.int i t)
  | .cls c => ClsAt X xr c x
  | .blt => X.mg x = none
structure HX (F : Nat → List D → Hd → R D) (X : Cx) (xr : XR) (W : WX) (G : GT) (c : Cc) : Prop where
  calm : X.calm = true
  un : X.A.units + 65 < cLine
  nd : X.N.Nodup
  eN : X.N = c.N
  eS : X.env.scope = c.sc
  fn : ∀ x, cFn c.bl x = true → X.fn x = true
  tk : L2N.Takes X W
  g : GOk F X xr G
section
variable {F : Nat → List D → Hd → R D} {X : Cx} {xr : XR} {W : WX} {G : GT} {c : Cc}
theorem okN_ok {x : Str} (h : okN x = true) : (x == ("__debug__" : Str)) = false ∧ (x == ("__classdict__" : Str)) = false ∧ x ≠ "__name__" := by
  unfold okN at h
  simp only [Bool.and_eq_true, Bool.not_eq_true'] at h
  exact ⟨h.1.1, h.1.2, fun e => by rw [e] at h; have := h.2; rw [beq_self_eq_true] at this; cases this⟩
theorem HX.vis (h : HX F X xr W G c) {x : Str} (v : visB c x = true) : Vis X.env.scope x := by
  unfold visB kindB at v
  rw [← h.eS] at v
  unfold Vis
  split at v
  · exact .inl (by assumption)
  · exact .inr (.inl (by assumption))
  · exact .inr (.inr (by assumption))
  · cases v
theorem HX.loc (h : HX F X xr W G c) {x : Str} (v : locB c x = true) : L2.Loc X.env.scope x ∧ (X.fn x = true ∨ X.env.scope.names.lookup x = some .local) := by
  unfold locB kindB at v
  rw [← h.eS] at v
  unfold L2.Loc
  split at v
  · rename_i e
    exact ⟨.inl e, .inr e⟩
  · rename_i e
    exact ⟨.inr e, .inl (h.fn x v)⟩
  · cases v
theorem HX.gk (h : HX F X xr W G c) {x : Str} {k : Gk} (e : gk G c x = some k) : Gl X x ∧ G.lookup x = some k ∧ okN x = true := by
  unfold Mp.gk kindB at e
  rw [← h.eS] at e
  split at e
  · rename_i e1
    split at e
    · rename_i e2
      exact ⟨e1, e, e2⟩
    · cases e
  · cases e
theorem HX.blt (h : HX F X xr W G c) {x : Str} (e : isBlt G c x = true) : Gl X x ∧ X.mg x = none := by
  unfold isBlt at e
  split at e
  · rename_i e1
    obtain ⟨h1, h2, _⟩ := h.gk e1
    exact ⟨h1, h.g x _ h2⟩
  · cases e
/-- the context of a comprehension's block -/
theorem HX.blk (h : HX F X xr W G c) (s : Shared) (H : Hp) (scope : Scope) (C : Addr) (cl : List (Str × Addr)) (fp : List Addr) : HX F (X.blk s H scope (compEnvC scope cl C X.env) fp) xr W0 G (blkOf c scope) where
  calm := h.calm
  un := h.un
  nd := h.nd
  eN := h.eN
  eS := by show relS scope X.env.scope = relS scope c.sc; rw [h.eS]
  fn := fun x e => e
  tk := fun u s' ⟨_, _, _, _, _, _, _, _, _, _, _, _, _, _, _, _, w⟩ => w.elim
  g := h.g
/-- what an expression's compiling says -/
def CEok (F : Nat → List D → Hd → R D) (xr : XR) (G : GT) (n : Nat) : Prop := ∀ (X : Cx) (W : WX) (c : Cc) (e : Expr) (E : E), HX F X xr W G c → cE G n c e = some E →
  PE X e (tE F X xr W E) ∧ PT X e (tT F X xr W E) ∧ ∀ o es p, e = .BoolOp o es p → PW X e (tT F X xr W E)
theorem cL_ok {f : Expr → Option E} (hf : ∀ e E, f e = some E → PE X e (tE F X xr W E)) : ∀ (es : List Expr) (E : E), cL f es = some E → PA X es (tA F X xr W E)
  | [], E, h => by cases h; exact ra_nil
  | e :: r, E, h => by
    simp only [cL] at h
    cases h1 : cL f r with
    | none => rw [h1] at h; cases h
    | some R' =>
      rw [h1] at h
      have ih := cL_ok hf r R' h1
      cases he : isStar e with
      | true =>
        cases e with
        | Starred a p =>
          obtain ⟨A, h2, h3⟩ := Option.map_eq_some_iff.mp h
          subst h3
          exact ra_star (hf a A h2) ih
        | _ => cases he
      | false =>
        have h' : (f e).map (fun A => Mp.E.cons A R') = some E := by
          cases e <;> first | exact h | cases he
        obtain ⟨A, h2, h3⟩ := Option.map_eq_some_iff.mp h'
        subst h3
        exact ra_cons (hf e A h2) ih (star_no he)
/-- the compiled list of one, of two -/
theorem cL_one {f : Expr → Option E} {a : Expr} {E : E} (h : cL f [a] = some E) (hs : isStar a = false) : ∃ A, f a = some A ∧ E = .cons A .nil := by
  simp only [cL] at h
  have h' : (f a).map (fun A => Mp.E.cons A .nil) = some E := by
    cases a <;> first | exact h | cases hs
  obtain ⟨A, h2, h3⟩ := Option.map_eq_some_iff.mp h'
  exact ⟨A, h2, h3.symm⟩
theorem cL_two {f : Expr → Option E} {a b : Expr} {E : E} (h : cL f [a, b] = some E) (hs : isStar a = false) (hb : isStar b = false) : ∃ A B, f a = some A ∧ f b = some B ∧ E = .cons A (.cons B .nil) := by
  rw [cL] at h
  cases h1 : cL f [b] with
  | none => rw [h1] at h; cases h
  | some R' =>
    rw [h1] at h
    obtain ⟨B, g1, g2⟩ := cL_one h1 hb
    have h' : (f a).map (fun A => Mp.E.cons A R') = some E := by
      cases a <;> first | exact h | cases hs
    obtain ⟨A, h2, h3⟩ := Option.map_eq_some_iff.mp h'
    exact ⟨A, B, h2, g1, by rw [← h3, g2]⟩
/-! ### targets -/
theorem cT_ok (h : HX F X xr W G c) : ∀ (n : Nat) (e : Expr) (t : Tg), cT c n e = some t → PG X e (gT X.K t)
  | 0, e, t, z => by cases z
  | n + 1, e, t, z => by
    have list : ∀ (es : List Expr) (ts : Tg), cT.cTl (cT c n) es = some ts → PGs X es (gTs X.K ts) ∧ (assignEach es X.env).length = tlen ts ∧ (assignEach es X.env).findIdx? (·.1) = none := by
      intro es
      induction es with
      | nil =>
        intro ts e1
        simp only [cT.cTl] at e1
        cases e1
        exact ⟨pgs_nil, rfl, rfl⟩
      | cons a r ih =>
        intro ts e1
        simp only [cT.cTl] at e1
        cases hs : isStar a with
        | true => rw [hs] at e1; cases e1
        | false =>
          rw [hs] at e1
          simp only [Bool.false_eq_true, if_false] at e1
          cases h1 : cT c n a with
          | none => rw [h1] at e1; cases e1
          | some ta =>
            rw [h1] at e1
            obtain ⟨tr, h2, h3⟩ := Option.map_eq_some_iff.mp e1
            subst h3
            obtain ⟨i1, i2, i3⟩ := ih tr h2
            have ea : assignEach (a :: r) X.env = (false, assign a X.env) :: assignEach r X.env := by
              cases a <;> first | rfl | cases hs
            refine ⟨pgs_cons (cT_ok h n a ta h1) i1 (by rw [ea]; rfl), by rw [ea]; simp [i2, tlen], ?_⟩
            rw [ea]
            simp [List.findIdx?_cons, i3]
    simp only [cT] at z
    cases e with
    | Name x p =>
      simp only at z
      split at z
      · rename_i hl
        obtain ⟨i, h1, h2⟩ := Option.map_eq_some_iff.mp z
        subst h2
        obtain ⟨l1, l2⟩ := h.loc hl
        exact pg_name h.nd (by rw [h.eN]; exact idx_ok h1) l1 l2
      · cases z
    | Tuple es k p =>
      simp only at z
      obtain ⟨ts, h1, h2⟩ := Option.map_eq_some_iff.mp z
      subst h2
      obtain ⟨i1, i2, i3⟩ := list es ts h1
      exact pg_tup h.calm i1 i2 i3
    | _ => cases z
/-! ### walks -/
theorem cI_ok (h : HX F X xr W G c) {f : Expr → Option E} (hf : ∀ e E, f e = some E → PE X e (tE F X xr W E)) {tg e : Expr} {it : I} {pair : Bool} (z : cI G c f (isTupE tg) e = some (it, pair)) : PI X tg e (tG X.K X.w xr (if pair then relIT X.K X.w else relI X.K X.w) W (evI F it)) := by
  have plain : (f e).map (fun A => (I.e A, false)) = some (it, pair) → PI X tg e (tG X.K X.w xr (if pair then relIT X.K X.w else relI X.K X.w) W (evI F it)) := by
    intro z
    obtain ⟨A, h1, h2⟩ := Option.map_eq_some_iff.mp z
    cases h2
    exact ri_e (hf e A h1)
  unfold cI at z
  split at z
  · rename_i x p es q
    split at z
    · rename_i c1
      simp only [Bool.and_eq_true] at c1
      obtain ⟨⟨ex, hb⟩, hs⟩ := c1
      have ex' := eq_of_beq ex
      subst ex'
      obtain ⟨gl, mg⟩ := h.blt hb
      split at z
      · rename_i a
        obtain ⟨A, h1, h2⟩ := Option.map_eq_some_iff.mp z
        cases h2
        have sa : isStar a = false := by simpa using hs
        obtain ⟨A', g1, g2⟩ := cL_one h1 sa
        subst g2
        exact ri_rng1 gl mg (ra_cons (hf a A' g1) ra_nil (star_no sa)) (by rw [star_no sa]; rfl)
      · rename_i a b
        obtain ⟨A, h1, h2⟩ := Option.map_eq_some_iff.mp z
        cases h2
        simp only [List.all_cons, List.all_nil, Bool.and_true, Bool.and_eq_true, Bool.not_eq_true'] at hs
        obtain ⟨sa, sb⟩ := hs
        obtain ⟨A', B', g1, g2, g3⟩ := cL_two h1 sa sb
        subst g3
        exact ri_rng2 gl mg (ra_cons (hf a A' g1) (ra_cons (hf b B' g2) ra_nil (star_no sb)) (star_no sa)) (by rw [star_no sa, star_no sb]; rfl) (by rw [star_no sb]; rfl)
      · cases z
    · split at z
      · rename_i c1
        simp only [Bool.and_eq_true] at c1
        obtain ⟨⟨⟨ex, hb⟩, hs⟩, ht⟩ := c1
        have ex' := eq_of_beq ex
        subst ex'
        obtain ⟨gl, mg⟩ := h.blt hb
        split at z
        · rename_i a b _
          obtain ⟨A, h1, h2⟩ := Option.map_eq_some_iff.mp z
          cases h2
          have hs' := hs
          simp only [List.all_cons, List.all_nil, Bool.and_true, Bool.and_eq_true, Bool.not_eq_true'] at hs
          obtain ⟨sa, sb⟩ := hs
          obtain ⟨A', B', g1, g2, g3⟩ := cL_two h1 sa sb
          subst g3
          cases tg with
          | Tuple elts kk tpos =>
            exact ri_zip gl mg (ra_cons (hf a A' g1) (ra_cons (hf b B' g2) ra_nil (star_no sb)) (star_no sa)) (star_no sa) (stars_no (by simp [sb]))
          | _ => cases ht
        · cases z
      · exact plain z
  · exact plain z
end
end Mp
end
section
set_option Elab.async false
set_option linter.all false
set_option maxRecDepth 100000
set_option maxHeartbeats 8000000
set_option autoImplicit false
/-! MpCmp3: what is compiled is sound: comprehensions, expressions. -/
namespace Mp
open PySem PySem.Spec PyProof.Rows L2
section
variable {F : Nat → List D → Hd → R D} {X : Cx} {xr : XR} {W : WX} {G : GT} {c : Cc}
theorem PTs.mono' {ifs : List Expr} {t t' : TT} (p : PTs X ifs t) (f : ∀ σ H Q, t' σ H Q → t σ H Q) : PTs X ifs t' := ⟨fun pins s σ H Q I q => p.run pins s σ H Q I (f σ H Q q)⟩
theorem cIfs_ok {g : Expr → Option E} (hg : ∀ e E, g e = some E → PT X e (tT F X xr W E)) {ifs : List Expr} {C : E} (z : cIfs g ifs = some C) : PTs X ifs (tT F X xr W C) := by
  unfold cIfs at z
  split at z
  · cases z
    exact PTs.mono' pts_nil fun σ H Q ⟨m, env, h, eR, S, p⟩ => Post.ok (rel := relB) S rfl p
  · exact pts_one (hg _ C z)
  · cases z
/-- the parts of a comprehension -/
theorem cGen_ok (h : HX F X xr W G c) {n : Nat} (ih : CEok F xr G n) {gens : List Comprehension} {scope : Scope} {own : List (Str × Nat)} {t : Tg} {it : I} {pair : Bool} {C : E}
    (z : cGen G c (cE G n c) (cE G n (blkOf c scope)) gens scope = some (own, t, it, pair, C)) :
    ∃ tg iter ifs, gens = [⟨tg, iter, ifs, 0⟩] ∧ BlkOk X.N X.env.scope scope own ∧ (∀ i ∈ tSl t, i ∈ own.map (·.2)) ∧ PI X tg iter (tG X.K X.w xr (if pair then relIT X.K X.w else relI X.K X.w) W (evI F it)) ∧
      (∀ (s : Shared) (H : Hp) (C : Addr) (cl : List (Str × Addr)) (fp : List Addr), PG (X.blk s H scope (compEnvC scope cl C X.env) fp) tg (gT X.K t)) ∧
      (∀ (s : Shared) (H : Hp) (C' : Addr) (cl : List (Str × Addr)) (fp : List Addr), PTs (X.blk s H scope (compEnvC scope cl C' X.env) fp) ifs (tT F X xr W0 C)) ∧ (∀ x, foldedSetIterable iter X.env x = pure x) := by
  unfold cGen at z
  split at z
  · rename_i tg iter ifs k
    split at z
    · rename_i c1
      simp only [Bool.and_eq_true, decide_eq_true_eq, Bool.not_eq_true'] at c1
      obtain ⟨⟨⟨ek, hb⟩, hs⟩, hst⟩ := c1
      subst ek
      split at z
      · rename_i t' ht
        split at z
        · rename_i hsl
          split at z
          · rename_i it' pair' hi
            split at z
            · rename_i C' hc
              cases z
              refine ⟨tg, iter, ifs, rfl, ?_, ?_, cI_ok h (fun e E q => (ih X W c e E h q).1) hi, fun s H C cl fp => ?_, fun s H C'' cl fp => ?_, fold_no hs⟩
              · rw [h.eN, h.eS]
                exact blkOk_by hb
              · intro i hi'
                have q := (List.all_eq_true.mp hsl) i hi'
                obtain ⟨p, p1, p2⟩ := List.any_eq_true.mp q
                exact List.mem_map.mpr ⟨p, p1, Nat.eq_of_beq_eq_true p2⟩
              · exact cT_ok (h.blk s H scope C cl fp) 6 tg t ht
              · exact cIfs_ok (fun e E q => (ih _ W0 _ e E (h.blk s H scope C'' cl fp) q).2.1) hc
            · cases z
          · cases z
        · cases z
      · cases z
    · cases z
  · cases z
theorem cIsi_ok (h : HX F X xr W G c) {f : Expr → Option E} (ie : ∀ e E, f e = some E → PE X e (tE F X xr W E)) {es : List Expr} {E : E} {p p2 : Pos} (g1 : Gl X "isinstance") (mg : X.mg "isinstance" = none) (z : cIsi G c f es = some E) : PE X (.Call (.Name "isinstance" p2) es [] p) (tE F X xr W E) := by
  unfold cIsi at z
  split at z
  · rename_i a y p3
    split at z
    · cases z
    · rename_i hc
      simp only [Bool.or_eq_true, Bool.not_eq_true', not_or, Bool.not_eq_true, Bool.not_eq_false] at hc
      obtain ⟨sa, by'⟩ := hc
      obtain ⟨g4, g5⟩ := h.blt by'
      split at z
      · rename_i t A h1 h2
        cases z
        have ey := tyOf_ok h1
        subst ey
        exact re_isi g1 mg g4 g5 (ie a A h2) (star_no sa)
      · cases z
  · cases z
theorem cBif_ok (h : HX F X xr W G c) {f : Expr → Option E} (ie : ∀ e E, f e = some E → PE X e (tE F X xr W E)) {x : Str} {es : List Expr} {E : E} {p p2 : Pos} (g1 : Gl X x) (mg : X.mg x = none) (z : cBif f x es = some E) : PE X (.Call (.Name x p2) es [] p) (tE F X xr W E) := by
  unfold cBif at z
  split at z
  · rename_i a
    split at z
    · cases z
    · rename_i sa
      split at z
      · rename_i b A h1 h2
        cases z
        obtain ⟨eb, ok⟩ := biOf_ok h1
        subst eb
        exact re_bif h.calm h.un ok g1 mg (ie a A h2) (star_no (by simpa using sa))
      · cases z
  · cases z
theorem cDct_ok (h : HX F X xr W G c) {f : Expr → Option E} (ie : ∀ e E, f e = some E → PE X e (tE F X xr W E)) {ks : List (Option Expr)} {vs : List Expr} {E : E} {p : Pos} (z : cDct f ks vs = some E) : PE X (.Dict ks vs p) (tE F X xr W E) := by
  unfold cDct at z
  split at z
  · cases z
    exact re_dct0
  · split at z
    · rename_i A B h1 h2
      cases z
      exact re_dct1 h.un (ie _ A h1) (ie _ B h2)
    · cases z
  · cases z
theorem bind_assoc' {α β γ : Type} (r : R α) (f : α → Hd → R β) (g : β → Hd → R γ) : (r.bind f).bind g = r.bind fun a h => (f a h).bind g := by cases r <;> rfl
/-- a if c else b, as a test -/
theorem rt_ite {cc a b : Expr} {C A B : E} {p : Pos} (hc : PT X cc (tT F X xr W C)) (ha : PT X a (tT F X xr W A)) (hb : PT X b (tT F X xr W B)) : PT X (.IfExp cc a b p) (tT F X xr W (.ite C A B)) := by
  refine ⟨fun pins s σ H Q I ⟨m, env, h, eR, S, q⟩ => ?_⟩
  have q2 : Post X.K X.w xr relB W m H σ ((evT F C env h).bind fun k h1 => if k then evT F A env h1 else evT F B env h1) Q := by
    have e : evT F (.ite C A B) env h = (evT F C env h).bind fun k h1 => if k then evT F A env h1 else evT F B env h1 := by
      show ((evT F C env h).bind fun k h1 => if k then ev F A env h1 else ev F B env h1).bind _ = _
      rw [bind_assoc']
      congr 1
      funext k h1
      cases k <;> rfl
    rw [← e]
    exact q
  show wpAny _ _ (do if ← isTrue cc X.env (eval cc X.env) then isTrue a X.env (eval a X.env) else isTrue b X.env (eval b X.env)) _ _ _
  refine wpAny_bind (thn (hc.run pins s σ H _ I ⟨m, env, h, eR, S, Post.bind (rel := relB) q2⟩) fun k s1 ⟨H1, I1, k', m1, h1, N1, r1, p1⟩ => ?_)
  cases r1
  cases k with
  | true => exact ha.run pins s1 σ H1 Q I1 ⟨m1, env, h1, eR.grow (N1.grow S), N1.sim, Post.step relB.down N1 p1⟩
  | false => exact hb.run pins s1 σ H1 Q I1 ⟨m1, env, h1, eR.grow (N1.grow S), N1.sim, Post.step relB.down N1 p1⟩
theorem cE_ok : ∀ n, CEok F xr G n
  | 0 => fun X W c e E h z => by cases z
  | n + 1 => fun X W c e E h z => by
    have ih := cE_ok n
    have ie : ∀ e E, cE G n c e = some E → PE X e (tE F X xr W E) := fun e E q => (ih X W c e E h q).1
    -- an expression whose truth is its value's
    have plain : PE X e (tE F X xr W E) → (∀ whole, isTrue e X.env whole = (do let v ← whole; standAt e.pos; holding [v] (truthy v))) → (∀ o es p, e ≠ .BoolOp o es p) →
        PE X e (tE F X xr W E) ∧ PT X e (tT F X xr W E) ∧ ∀ o es p, e = .BoolOp o es p → PW X e (tT F X xr W E) := fun a b d => ⟨a, rt_plain a b, fun o es p q => absurd q (d o es p)⟩
    unfold cE at z
    cases e with
    | Constant k j p =>
      simp only at z
      refine plain ?_ (fun _ => rfl) (fun _ _ _ q => by cases q)
      cases k with
      | none => cases z; exact re_non
      | bool b => cases z; exact re_bl
      | int i => cases z; exact re_int
      | str s =>
        simp only at z
        split at z
        · rename_i ok
          cases z
          exact re_str (s := s.cps.toList) ok
        · cases z
      | _ => cases z
    | Name x p =>
      simp only at z
      refine plain ?_ (fun _ => rfl) (fun _ _ _ q => by cases q)
      split at z
      · rename_i on
        obtain ⟨o1, o2, o3⟩ := okN_ok on
        split at z
        · rename_i v
          obtain ⟨i, h1, h2⟩ := Option.map_eq_some_iff.mp z
          subst h2
          exact re_var (by rw [h.eN]; exact idx_ok h1) (h.vis v) o1 o2
        · split at z
          · rename_i s e1
            cases z
            obtain ⟨g1, g2, _⟩ := h.gk e1
            obtain ⟨⟨t, g3⟩, g4⟩ := h.g x _ g2
            exact re_gstr g1 g3 g4 o1
          · rename_i i e1
            cases z
            obtain ⟨g1, g2, _⟩ := h.gk e1
            obtain ⟨t, g3⟩ := h.g x _ g2
            exact re_gint g1 g3 o1
          · cases z
      · cases z
    | Tuple es k p =>
      simp only at z
      obtain ⟨Es, h1, h2⟩ := Option.map_eq_some_iff.mp z
      subst h2
      exact plain (re_tup (cL_ok ie es Es h1)) (fun _ => rfl) (fun _ _ _ q => by cases q)
    | List es p =>
      simp only at z
      obtain ⟨Es, h1, h2⟩ := Option.map_eq_some_iff.mp z
      subst h2
      exact plain (re_lst (cL_ok ie es Es h1)) (fun _ => rfl) (fun _ _ _ q => by cases q)
    | Dict ks vs p =>
      simp only at z
      exact plain (cDct_ok h ie z) (fun _ => rfl) (fun _ _ _ q => by cases q)
    | BinOp a o b p =>
      simp only at z
      split at z
      · rename_i p' A B h1 h2 h3
        cases z
        have eo := opOf_ok h1
        subst eo
        exact plain (re_bin (ie a A h2) (ie b B h3)) (fun _ => rfl) (fun _ _ _ q => by cases q)
      · cases z
    | UnaryOp o a p =>
      cases o with
      | Not =>
        simp only at z
        obtain ⟨A, h1, h2⟩ := Option.map_eq_some_iff.mp z
        subst h2
        obtain ⟨q1, q2, _⟩ := ih X W c a A h h1
        exact ⟨re_not q1, rt_not q2, fun o es p q => by cases q⟩
      | USub =>
        simp only at z
        obtain ⟨A, h1, h2⟩ := Option.map_eq_some_iff.mp z
        subst h2
        exact plain (re_neg (ie a A h1)) (fun _ => rfl) (fun _ _ _ q => by cases q)
      | _ => cases z
    | Compare a os bs p =>
      match os, bs, z with
      | [o], [b], z =>
        simp only at z
        split at z
        · cases z
        · rename_i hm
          split at z
          · rename_i p' A B h1 h2 h3
            cases z
            have eo := cmOf_ok h1
            subst eo
            have hm' : behindInMarks (cmO p') b = false := by simpa using hm
            exact ⟨re_cmp h.un (ie a A h2) (ie b B h3) hm', rt_cmp h.un (ie a A h2) (ie b B h3) hm', fun o es p q => by cases q⟩
          · cases z
      | [o, o2], [b, b2], z =>
        simp only at z
        split at z
        · cases z
        · rename_i hm
          split at z
          · rename_i p' p2' A B B2 h1 h2 h3 h4 h5
            cases z
            have eo := cmOf_ok h1
            have eo2 := cmOf_ok h2
            subst eo eo2
            have hm' : lastMarks [cmO p', cmO p2'] [b, b2] = false := by simpa using hm
            exact ⟨re_chn h.un (ie a A h3) (ie b B h4) (ie b2 B2 h5) hm', rt_chn h.un (ie a A h3) (ie b B h4) (ie b2 B2 h5) hm', fun o es p q => by cases q⟩
          · cases z
      | [], _, z => cases z
      | _ :: _ :: _ :: _, _, z => cases z
      | [_], [], z => cases z
      | [_], _ :: _ :: _, z => cases z
      | [_, _], [], z => cases z
      | [_, _], [_], z => cases z
      | [_, _], _ :: _ :: _ :: _, z => cases z
    | BoolOp o es p =>
      match es, z with
      | [], z => cases z
      | [a], z =>
        simp only at z
        obtain ⟨q1, q2, _⟩ := ih X W c a E h z
        have w : PW X (.BoolOp o [a] p) (tT F X xr W E) := by
          cases o with
          | And => exact pw_and1 q2
          | Or => exact pw_or1 q2
        exact ⟨pe_one q1, w.pt, fun _ _ _ _ => w⟩
      | a :: b :: r, z =>
        simp only at z
        split at z
        · rename_i A B h1 h2
          obtain ⟨q1, q2, _⟩ := ih X W c a A h h1
          obtain ⟨r1, _, r3⟩ := ih X W c _ B h h2
          have r3 := r3 o (b :: r) p rfl
          cases o with
          | And =>
            simp only at z
            cases z
            have w := rw_and q2 r3
            exact ⟨re_and q1 r1, w.pt, fun _ _ _ _ => w⟩
          | Or =>
            simp only at z
            cases z
            have w := rw_or q2 r3
            exact ⟨re_or q1 r1, w.pt, fun _ _ _ _ => w⟩
        · cases z
    | IfExp t a b p =>
      simp only at z
      split at z
      · rename_i T A B h1 h2 h3
        cases z
        obtain ⟨t1, t2, _⟩ := ih X W c t T h h1
        obtain ⟨a1, a2, _⟩ := ih X W c a A h h2
        obtain ⟨b1, b2, _⟩ := ih X W c b B h h3
        exact ⟨re_ite t2 a1 b1, rt_ite t2 a2 b2, fun o es p q => by cases q⟩
      · cases z
    | Subscript a i p =>
      simp only at z
      cases h1 : cE G n c a with
      | none => rw [h1] at z; cases z
      | some A =>
        rw [h1] at z
        simp only at z
        refine plain ?_ (fun _ => rfl) (fun _ _ _ q => by cases q)
        have pa := ie a A h1
        have other : isSl i = false → (cE G n c i).map (fun I' => Mp.E.ix A I') = some E → PE X (.Subscript a i p) (tE F X xr W E) := by
          intro hs q
          obtain ⟨I', g1, g2⟩ := Option.map_eq_some_iff.mp q
          subst g2
          exact re_ix h.un pa (ie i I' g1) (plain_no hs)
        cases i with
        | Slice lo hi st p2 =>
          match lo, hi, st, z with
          | none, none, none, z => cases z; exact re_slN pa
          | some l, none, none, z =>
            obtain ⟨L, g1, g2⟩ := Option.map_eq_some_iff.mp z
            subst g2
            exact re_slL pa (ie l L g1)
          | none, some u, none, z =>
            obtain ⟨U, g1, g2⟩ := Option.map_eq_some_iff.mp z
            subst g2
            exact re_slH pa (ie u U g1)
          | some l, some u, none, z =>
            simp only at z
            split at z
            · rename_i L U g1 g2
              cases z
              exact re_slB pa (ie l L g1) (ie u U g2)
            · cases z
          | none, none, some _, z => cases z
          | some _, none, some _, z => cases z
          | none, some _, some _, z => cases z
          | some _, some _, some _, z => cases z
        | _ => exact other rfl (by simpa [isSl] using z)
    | Call f es kw p =>
      cases kw with
      | cons _ _ => cases z
      | nil =>
        refine plain ?_ (fun _ => rfl) (fun _ _ _ q => by cases q)
        cases f with
        | Name x p2 =>
          simp only at z
          split at z
          · rename_i k e1
            split at z
            · rename_i hs
              obtain ⟨Es, h1, h2⟩ := Option.map_eq_some_iff.mp z
              subst h2
              obtain ⟨g1, g2, g3⟩ := h.gk e1
              obtain ⟨o1, _, _⟩ := okN_ok g3
              have fa : FnAt F X xr k x := h.g x _ g2
              cases es with
              | nil =>
                simp only [cL] at h1
                cases h1
                exact re_cal0 h.tk fa g1 o1
              | cons a r =>
                have hs' := hs
                simp only [List.all_cons, Bool.and_eq_true, Bool.not_eq_true'] at hs'
                exact re_cal h.tk fa g1 o1 (cL_ok ie (a :: r) Es h1) (star_no hs'.1) (stars_no hs'.2)
            · cases z
          · rename_i e1
            obtain ⟨g1, g2, g3⟩ := h.gk e1
            have mg : X.mg x = none := h.g x _ g2
            split at z
            · rename_i ex
              have ex' := eq_of_beq ex
              subst ex'
              exact cIsi_ok h ie g1 mg z
            · exact cBif_ok h ie g1 mg z
          · cases z
        | Attribute o m apos =>
          cases o with
          | Name o p2 =>
            simp only at z
            split at z
            · rename_i hc
              simp only [Bool.and_eq_true] at hc
              obtain ⟨hl, hs⟩ := hc
              split at z
              · rename_i me O Es h1 h2 h3
                cases z
                have po := ie _ O h2
                unfold cMe at h1
                split at h1
                · rename_i q
                  cases h1
                  simp only [Bool.and_eq_true] at q
                  have em := eq_of_beq q.1
                  subst em
                  match es, q.2, h3, hs with
                  | [b], _, h3, hs =>
                    have sb : isStar b = false := by simpa using hs
                    obtain ⟨B, b1, b2⟩ := cL_one h3 sb
                    subst b2
                    exact re_append po (ie b B b1) (star_no sb) hl
                · split at h1
                  · rename_i q
                    cases h1
                    simp only [Bool.and_eq_true] at q
                    have em := eq_of_beq q.1
                    subst em
                    match es, q.2, h3, hs with
                    | [b], _, h3, hs =>
                      have sb : isStar b = false := by simpa using hs
                      obtain ⟨B, b1, b2⟩ := cL_one h3 sb
                      subst b2
                      exact re_extend po (ie b B b1) (star_no sb) hl
                  · split at h1
                    · rename_i q
                      cases h1
                      simp only [Bool.and_eq_true] at q
                      have em := eq_of_beq q.1
                      subst em
                      match es, q.2, h3, hs with
                      | [], _, h3, hs =>
                        simp only [cL] at h3
                        cases h3
                        exact re_pop po hl
                    · split at h1
                      · rename_i q
                        cases h1
                        simp only [Bool.and_eq_true] at q
                        have em := eq_of_beq q.1
                        subst em
                        match es, q.2, h3, hs with
                        | [b], _, h3, hs =>
                          have sb : isStar b = false := by simpa using hs
                          obtain ⟨B, b1, b2⟩ := cL_one h3 sb
                          subst b2
                          exact re_popAt po (ie b B b1) (star_no sb) hl
                      · cases h1
              · cases z
            · cases z
          | _ => cases z
        | _ => cases z
    | ListComp elt gens scope p =>
      simp only at z
      split at z
      · rename_i own t it pair C A h1 h2
        split at z
        · rename_i hp
          cases z
          obtain ⟨tg, iter, ifs, eg, b1, b2, b3, b4, b5, b6⟩ := cGen_ok h ih h1
          subst eg
          refine plain ?_ (fun _ => rfl) (fun _ _ _ q => by cases q)
          exact re_lc h.calm h.nd b2 pair (fun q => by rw [q] at hp; simpa using hp) b3 b1 b4 b5 (fun s H C' cl fp => (ih _ W0 _ elt A (h.blk s H scope C' cl fp) h2).1) b6
        · cases z
      · cases z
    | DictComp kx vx gens scope p =>
      simp only at z
      split at z
      · rename_i own t it pair C A B h1 h2 h3
        split at z
        · rename_i hp
          cases z
          obtain ⟨tg, iter, ifs, eg, b1, b2, b3, b4, b5, b6⟩ := cGen_ok h ih h1
          subst eg
          refine plain ?_ (fun _ => rfl) (fun _ _ _ q => by cases q)
          exact re_dc h.calm h.nd b2 pair (fun q => by rw [q] at hp; simpa using hp) b3 b1 b4 b5 (fun s H C' cl fp => (ih _ W0 _ kx A (h.blk s H scope C' cl fp) h2).1) (fun s H C' cl fp => (ih _ W0 _ vx B (h.blk s H scope C' cl fp) h3).1) b6
        · cases z
      · cases z
    | _ => cases z
end
end Mp
end
section
set_option Elab.async false
set_option linter.all false
set_option maxRecDepth 100000
set_option maxHeartbeats 4000000
set_option autoImplicit false
/-! MpHot: a list comprehension over a range, within an except suite. -/
namespace Mp
open PySem PySem.Spec PyProof.Rows L2
/-- a block that keeps what is pinned -/
abbrev blkP (X : Cx) (s : Shared) (H : Hp) (scope : Scope) (cenv : PySem.Env) (fp : List Addr) (pn : List (Addr × Obj)) : Cx := Cx.tr (X.blk s H scope cenv fp) pn (fun _ _ => False)
section
variable {X : Cx} {pins : List (Addr × Obj)} {σ τ : St} {H : Hp} {s s' : Shared} {scope : Scope} {fp : List Addr} {cenv : PySem.Env}
theorem inv_blkP (I : Inv X pins σ H s) (J : Inv (X.blk s H scope cenv fp) [] τ H s') (kp : ∀ b o, s.heap.get? b = some o → s'.heap.get? b = some o) (hL : cenv.locals = s.heap.objs.size) : Inv (blkP X s H scope cenv fp (X.pn ++ pins)) [] τ H s' := by
  have pin : ∀ p ∈ [] ++ (X.pn ++ pins), s'.heap.get? p.1 = some p.2 ∧ H p.1 = none ∧ p.1 ≠ cenv.locals ∧ p.1 ∉ frs X.stack ∧ ∀ v, p.2.data ≠ .cell v := fun p hp => by
    obtain ⟨h1, h2, h3, h4, h5⟩ := I.pin p (by simpa using hp)
    refine ⟨kp _ _ h1, h2, ?_, fun z => ?_, h5⟩
    · rw [hL]
      exact Nat.ne_of_lt (Heap.lt_size h1)
    · rcases List.mem_cons.mp (I.stkSub p.1 z) with q | q
      · exact h3 q
      · exact h4 q
  have J2 : Inv (X.blk s H scope cenv fp) (X.pn ++ pins) τ H s' := ⟨J.ok, J.os, J.bare, J.base, J.loc, J.cell, J.free, J.freeC, pin, J.hok, J.len⟩
  exact J2.toTry fun _ _ => False
end
/-- a walk's step in a hot block -/
theorem hot_core {X : Cx} {pins : List (Addr × Obj)} {s : Shared} {σ : St} {H : Hp} {Q : VK} {elt tg iter : Expr} {ifs : List Expr} {scope : Scope} {own : List (Str × Nat)} {pos pos' : Pos} {wi : TI} {g : TG} {tt : TT} {te : TE} {Qf : Value → Shared → Prop}
    (hc : L2H.HotC X) (nd : X.N.Nodup) (I : Inv X pins σ H s) (walk : L2H.PIH X tg iter wi) (bo : BlkOk X.N X.env.scope scope own)
    (pg : ∀ (s : Shared) (H : Hp) (C : Addr) (cl : List (Str × Addr)) (fp : List Addr) (pn : List (Addr × Obj)), PG (blkP X s H scope (compEnvC scope cl C X.env) fp pn) tg g)
    (pt : ∀ (s : Shared) (H : Hp) (C : Addr) (cl : List (Str × Addr)) (fp : List Addr) (pn : List (Addr × Obj)), PTs (blkP X s H scope (compEnvC scope cl C X.env) fp pn) ifs tt)
    (pe : ∀ (s : Shared) (H : Hp) (C : Addr) (cl : List (Str × Addr)) (fp : List Addr) (pn : List (Addr × Obj)), PE (blkP X s H scope (compEnvC scope cl C X.env) fp pn) elt te) (hs : ∀ x, foldedSetIterable iter X.env x = pure x)
    (h : tLc wi g tt te (own.map (·.2)) σ H Q)
    (out : ∀ L C s' m H', Inv X pins σ H' s' → Q (.ref L) H' → s'.heap.Ns C m → FpOk X pins H' C → compPost (model X.prog X.w) X.A X.xe none Qf (.ref L) C (.ok .next) s') :
    wpAny (model X.prog X.w) X.A (comprehension (.ListComp elt [⟨tg, iter, ifs, 0⟩] scope pos) scope X.env pos' (newList []) false (eval iter X.env) none) Qf X.xe s := by
  have frees : ∀ y ∈ scope.names, y.2 = .free → ∃ c, X.env.cells.lookup y.1 = some c := fun y hy e => I.ok.has _ (bo.free y hy e)
  refine wpAny_comprehension_free (use := none) rfl hs (closure_ok frees) bo.kind (fun y hy e => by rw [bo.uniq y hy, e]) (thn (walk.run pins s σ H _ I h) fun xv s1 hx => thn hx fun itv s2 h2 => ?_)
  obtain ⟨it, fp, tn, J, H2, ei, I2, T, st2, f2, q⟩ := h2
  subst ei
  refine wpAny_newObj_type (newEnv_comp ?_) (Nat.zero_le _)
  generalize eL : s2.heap.objs.size = L
  have newL : H2 L = none := I2.hok.fresh (Nat.le_of_eq eL)
  obtain ⟨W, ⟨m0, w0⟩, turn⟩ := q L newL
  generalize e3 : ({ s2 with heap := s2.heap.push { cls := .type "list", data := .seq ([] : List Value).toArray } } : Shared) = s3
  have heap3 : s3.heap = s2.heap.push { cls := .type "list", data := .seq ([] : List Value).toArray } := by rw [← e3]
  have I3 : Inv X pins σ (upd H2 L (.lst [])) s3 := by
    rw [← e3]
    refine I2.laid (t' := s2.toks) (fun b o z => Heap.get?_push_of_some _ z) (Nat.le_of_eq eL) ⟨Nat.zero_le _, [], 0, .nil, ?_⟩
    rw [← eL]
    exact Heap.get?_push_size _ rfl
  have old3 : ∀ b ∈ fp, b < s2.heap.objs.size := fun b hb => let ⟨_, z, _⟩ := T.obj _ _ st2 b hb; Heap.lt_size z
  have f3 : ∀ b ∈ fp, FpOk X pins (upd H2 L (.lst [])) b ∧ b < s3.heap.objs.size := fun b hb => by
    have lt := old3 b hb
    refine ⟨⟨?_, (f2 b hb).2⟩, by rw [heap3, Heap.size_push]; exact Nat.lt_succ_of_lt lt⟩
    rw [upd_ne (by rw [← eL]; exact Nat.ne_of_lt lt)]
    exact (f2 b hb).1
  have st3 : tn 0 s3.heap := T.keep _ _ _ st2 fun b _ o z => by rw [heap3]; exact Heap.get?_push_of_some _ z
  have B0 := block_start I3 bo nd f3
  show codeAny _ _ (.compStart (.ListComp elt [⟨tg, iter, ifs, 0⟩] scope pos) 0 (.ref it) (.ref L) (compEnvC scope (cellsFrom (s3.heap.objs.size + 1) scope.names (cloFrom X.env.cells scope.names [])) s3.heap.objs.size X.env)) (compPost (model X.prog X.w) X.A X.xe none Qf (.ref L) s3.heap.objs.size) { s3 with heap := pushCells (s3.heap.push { cls := .type "dict", data := .dict #[] }) scope.names }
  generalize ecl : cellsFrom (s3.heap.objs.size + 1) scope.names (cloFrom X.env.cells scope.names []) = cl at B0 ⊢
  generalize eH : upd H2 L (.lst []) = H3 at I3 B0 w0 f3
  have pg1 := pg s3 H3 s3.heap.objs.size cl fp (X.pn ++ pins)
  have pt1 := pt s3 H3 s3.heap.objs.size cl fp (X.pn ++ pins)
  have pe1 := pe s3 H3 s3.heap.objs.size cl fp (X.pn ++ pins)
  have eloc : (compEnvC scope cl s3.heap.objs.size X.env).locals = s3.heap.objs.size := rfl
  generalize ecv : compEnvC scope cl s3.heap.objs.size X.env = cv at B0 pg1 pt1 pe1 eloc ⊢
  have kp4 : ∀ b o, s3.heap.get? b = some o → (pushCells (s3.heap.push { cls := .type "dict", data := .dict #[] }) scope.names).get? b = some o := fun b o z => pushCells_keeps _ _ _ _ (Heap.get?_push_of_some _ z)
  have B := inv_blkP I3 B0 kp4 eloc
  generalize e4 : ({ s3 with heap := pushCells (s3.heap.push { cls := .type "dict", data := .dict #[] }) scope.names } : Shared) = s4 at B ⊢
  have st4 : tn 0 s4.heap := T.keep _ _ _ st3 fun b _ o z => by rw [← e4]; exact kp4 _ _ z
  have hotB : L2H.HotC (blkP X s3 H3 scope cv fp (X.pn ++ pins)) := let ⟨p, h1, h2⟩ := hc; ⟨p, h1, List.mem_append_left _ h2⟩
  have stat : ∀ {τ : St} {G : Hp} {t : Shared}, Inv (blkP X s3 H3 scope cv fp (X.pn ++ pins)) [] τ G t → (∀ b ∈ fp, G b = none) → ∀ b ∈ fp, FpOk (blkP X s3 H3 scope cv fp (X.pn ++ pins)) [] G b := fun I' hn b hb =>
    ⟨hn b hb, (I'.ok.exf b hb).1, I'.ok.exfs b hb, .inl hb, fun x c z => (I'.ok.exf b hb).2 x c z, fun p hp => (f3 b hb).1.2.2.2.2.2 p (by rw [List.append_nil] at hp; exact hp)⟩
  have loop : codeAny (model X.prog X.w) X.A (.compLoop (.ListComp elt [⟨tg, iter, ifs, 0⟩] scope pos) 0 (.ref it) (.ref L) cv) (compPost (model X.prog X.w) X.A X.xe none Qf (.ref L) s3.heap.objs.size) s4 := by
    refine compLoop_any (fun n t => ∃ i G, Inv (blkP X s3 H3 scope cv fp (X.pn ++ pins)) [] (L2.wipe σ (own.map (·.2))) G t ∧ tn i t.heap ∧ (∀ b ∈ fp, G b = none) ∧ W i n G) ?_ m0 ⟨0, H3, B, st4, fun b hb => (f3 b hb).1.1, w0⟩
    rintro n s5 ⟨i, H5, I5, st5, n5, w5⟩
    rcases turn i n H5 w5 with ⟨stop, qq⟩ | ⟨go, Nx, hNx, step⟩
    · refine thnF (T.done (blkP X s3 H3 scope cv fp (X.pn ++ pins)) rfl rfl rfl hotB i [] s5 _ H5 (fun _ _ => False) I5 (stat I5 n5) st5 stop) fun r s6 ⟨hr, I6⟩ => ?_
      subst hr
      have back : Inv X pins σ H5 s6 := I3.call' (ch := fp) I6.os I6.base I6.hok I6.bare fun b hb => ⟨(f3 b hb).1.2.2.2.1, (f3 b hb).1.2.1, (f3 b hb).1.2.2.2.2.1, (f3 b hb).1.2.2.2.2.2⟩
      have nC : H5 s3.heap.objs.size = none := eloc ▸ I6.free
      obtain ⟨mm, ns, _⟩ := I6.loc
      exact out L s3.heap.objs.size s6 mm H5 back qq (eloc ▸ ns) (I3.fpOk (Nat.le_refl _) nC)
    · refine thnF (T.item (blkP X s3 H3 scope cv fp (X.pn ++ pins)) rfl rfl rfl hotB i [] s5 _ H5 (fun _ _ => False) I5 (stat I5 n5) st5 go) fun r s6 ⟨u, hr, h6⟩ => ?_
      subst hr
      refine thnF h6 fun _ s7 ⟨x, H7, I7, r7, y7, st7, n7⟩ => ?_
      have P7 := I7.pinned (stat I7 n7) (T.obj _ _ st7)
      refine thnF (pg1.run _ s7 _ H7 x u _ P7 r7 (step x H7 y7)) fun _ s8 ⟨σ8, H8, I8, hw8, q8⟩ => ?_
      refine thnF (pt1.run _ s8 σ8 H8 _ I8 q8) fun b s9 ⟨H9, I9, q9⟩ => ?_
      have again : ∀ {t : Shared} {G : Hp}, Inv (blkP X s3 H3 scope cv fp (X.pn ++ pins)) ([] ++ pinsAt fp s7.heap) σ8 G t → Nx G → ∃ k, k < n ∧ ∃ i G, Inv (blkP X s3 H3 scope cv fp (X.pn ++ pins)) [] (L2.wipe σ (own.map (·.2))) G t ∧ tn i t.heap ∧ (∀ b ∈ fp, G b = none) ∧ W i k G := fun {t G} I' nx => by
        obtain ⟨k, hk, wk⟩ := hNx G nx
        have held : ∀ b ∈ fp, ∀ o, s7.heap.get? b = some o → t.heap.get? b = some o ∧ G b = none := fun b hb o z =>
          let y := I'.pin (b, o) (List.mem_append_right _ (List.mem_append_right _ (mem_pinsAt hb z)))
          ⟨y.1, y.2.1⟩
        have hl : (L2.wipe σ (own.map (·.2))).length = σ8.length := by rw [← hw8, wipe_length]
        refine ⟨k, hk, i + 1, G, (I'.unpinned (pins := [])).weak hl (fun j v z => ?_), T.keep _ _ _ st7 fun b hb o z => (held b hb o z).1, fun b hb => ?_, wk⟩
        · rw [← hw8] at z
          exact (wipe_some z).1
        · obtain ⟨o, z, _⟩ := T.obj _ _ st7 b hb
          exact (held b hb o z).2
      cases b with
      | false => exact again I9 (by simpa using q9)
      | true =>
        simp only [if_true] at q9 ⊢
        refine thnF (pe1.run _ s9 σ8 H9 _ I9 q9) fun z s10 ⟨yv, H10, I10, r10, acc, hL, hz, nx⟩ => ?_
        exact app_ok (X := blkP X s3 H3 scope cv fp (X.pn ++ pins)) I10 hL hz r10 fun s11 I11 => again I11 nx
  exact codeAny_compStart_list loop (T.self X.A 0 _ _ _ st4 loop)
end Mp
end
section
set_option Elab.async false
set_option linter.all false
set_option maxRecDepth 100000
set_option maxHeartbeats 8000000
set_option autoImplicit false
/-! MpTry: an except suite that asks an error's classes. -/
namespace Mp
open PySem PySem.Spec PyProof.Rows L2
/-! ### expressions within a suite -/
structure HH (X : Cx) (c : Cc) : Prop where
  un : X.A.units + 65 < cLine
  nd : X.N.Nodup
  eN : X.N = c.N
  eS : X.env.scope = c.sc
  fn : ∀ x, cFn c.bl x = true → X.fn x = true
def cEh : Nat → Cc → Expr → Option E
  | 0, _, _ => none
  | n + 1, c, e => match e with
    | .Constant (.str s) _ _ => if okS s.cps.toList then some (.str s.cps.toList) else none
    | .Constant (.int i) _ _ => some (.int i)
    | .Name x _ => if okN x && visB c x then (idx x c.N).map .var else none
    | .List es _ => (cL (cEh n c) es).map .lst
    | .Subscript a i _ => if isSl i then none else (match cEh n c a, cEh n c i with
      | some A, some I' => some (.ix A I')
      | _, _ => none)
    | _ => none
section
variable {F : Nat → List D → Hd → R D} {tw : Nat} {X : Cx} {xr : XR} {W : WX} {G : GT} {c : Cc}
theorem HH.vis (h : HH X c) {x : Str} (v : visB c x = true) : Vis X.env.scope x := by
  unfold visB kindB at v
  rw [← h.eS] at v
  unfold Vis
  split at v
  · exact .inl (by assumption)
  · exact .inr (.inl (by assumption))
  · exact .inr (.inr (by assumption))
  · cases v
theorem HH.loc (h : HH X c) {x : Str} (v : locB c x = true) : L2.Loc X.env.scope x ∧ (X.fn x = true ∨ X.env.scope.names.lookup x = some .local) := by
  unfold locB kindB at v
  rw [← h.eS] at v
  unfold L2.Loc
  split at v
  · rename_i e
    exact ⟨.inl e, .inr e⟩
  · rename_i e
    exact ⟨.inr e, .inl (h.fn x v)⟩
  · cases v
theorem cEh_ok : ∀ (n : Nat) (c : Cc) (X : Cx) (e : Expr) (E : E), HH X c → cEh n c e = some E → PE X e (tE F X xr W E) ∧ ∀ whole, isTrue e X.env whole = (do let v ← whole; standAt e.pos; holding [v] (truthy v))
  | 0, c, X, e, E, h, z => by cases z
  | n + 1, c, X, e, E, h, z => by
    have ie : ∀ e E, cEh n c e = some E → PE X e (tE F X xr W E) := fun e E q => (cEh_ok n c X e E h q).1
    unfold cEh at z
    cases e with
    | Constant k j p =>
      refine ⟨?_, fun _ => rfl⟩
      cases k with
      | int i => cases z; exact re_int
      | str s =>
        simp only at z
        split at z
        · rename_i ok
          cases z
          exact re_str (s := s.cps.toList) ok
        · cases z
      | _ => cases z
    | Name x p =>
      refine ⟨?_, fun _ => rfl⟩
      simp only at z
      split at z
      · rename_i on
        simp only [Bool.and_eq_true] at on
        obtain ⟨o1, o2, o3⟩ := okN_ok on.1
        obtain ⟨i, h1, h2⟩ := Option.map_eq_some_iff.mp z
        subst h2
        exact re_var (by rw [h.eN]; exact idx_ok h1) (h.vis on.2) o1 o2
      · cases z
    | List es p =>
      refine ⟨?_, fun _ => rfl⟩
      simp only at z
      obtain ⟨Es, h1, h2⟩ := Option.map_eq_some_iff.mp z
      subst h2
      exact re_lst (cL_ok ie es Es h1)
    | Subscript a i p =>
      refine ⟨?_, fun _ => rfl⟩
      simp only at z
      split at z
      · cases z
      · rename_i hs
        split at z
        · rename_i A I' h1 h2
          cases z
          exact re_ix h.un (ie a A h1) (ie i I' h2) (plain_no (by simpa using hs))
        · cases z
    | _ => cases z
/-- [e for name in range(n) if ..] -/
def cLcH (c : Cc) (n : Nat) (isR : Bool) : Expr → Option E
  | .ListComp elt [⟨.Name x p, .Call (.Name r _) [.Constant (.int k) _ _] [] _, [t], as⟩] scope _ => if isR && r == ("range" : Str) && decide (as = 0) && blkC c.N c.sc scope (ownOf' c scope) && locB (blkOf c scope) x then
      (match idx x c.N, cEh n (blkOf c scope) t, cEh n (blkOf c scope) elt with
        | some i, some T, some A => if (ownOf' c scope).any (fun q => Nat.beq q.2 i) then some (.lc ((ownOf' c scope).map (·.2)) (.nm i) (.rng (.cons (.int k) .nil)) T A) else none
        | _, _, _ => none) else none
  | _ => none
theorem rng1_im {A : E} (σ : St) (H : Hp) (Rr : It → Hp → Prop) (q : tI F X xr W (.rng (.cons A .nil)) σ H Rr) : iRng1 (tA F X xr W (.cons A .nil)) σ H Rr := by
  obtain ⟨m, env, h, eR, S, p⟩ := q
  simp only [evI] at p
  refine ⟨m, env, h, eR, S, ?_⟩
  cases e : evs F (.cons A .nil) env h with
  | no => rw [e] at p; exact p.elim
  | ex c fs h' => rw [e] at p; exact p
  | ok ds h' =>
    rw [e] at p
    obtain ⟨d, ed⟩ := evs1 e
    subst ed
    simp only [R.bind] at p
    cases d with
    | int n =>
      simp only at p
      cases e2 : rngO 0 n with
      | none => simp only [e2] at p; exact p.elim
      | some xs =>
        simp only [e2] at p
        intro vs H1 m1 N1 r1
        obtain ⟨v, ev', rv⟩ := SReps.one r1
        have e3 := rep_int (rep_of (w := X.w) rv)
        subst e3
        obtain ⟨⟨_, _, b3, b4⟩, ex⟩ := rngO_ok e2
        refine ⟨n, ev', b3, b4, p _ H1 m1 N1 ?_⟩
        show Wk X.K X.w (Itr 0 n.toNat) m1 H1 xs []
        rw [ex, Int.sub_zero]
        exact wk_rng
    | _ => exact p.elim
theorem PIH.mono' {tg e : Expr} {t t' : TI} (p : L2H.PIH X tg e t) (f : ∀ σ H Q, t' σ H Q → t σ H Q) : L2H.PIH X tg e t' := ⟨fun pins s σ H Q I q => p.run pins s σ H Q I (f σ H Q q)⟩
theorem HH.blkP (h : HH X c) (s : Shared) (H : Hp) (scope : Scope) (C : Addr) (cl : List (Str × Addr)) (fp : List Addr) (pn : List (Addr × Obj)) : HH (Mp.blkP X s H scope (compEnvC scope cl C X.env) fp pn) (blkOf c scope) where
  un := h.un
  nd := h.nd
  eN := h.eN
  eS := by show relS scope X.env.scope = relS scope c.sc; rw [h.eS]
  fn := fun x e => e
theorem cLcH_ok (h : HH X c) (hot : L2H.HotC X) {n : Nat} (gr : Gl X "range") (mr : X.mg "range" = none) {e : Expr} {E : E} (z : cLcH c n true e = some E) : PE X e (tE F X xr W E) := by
  unfold cLcH at z
  split at z
  · rename_i elt x p r p2 k j p3 p4 t as scope pos
    split at z
    · rename_i c1
      simp only [Bool.and_eq_true, decide_eq_true_eq, Bool.true_and] at c1
      obtain ⟨⟨⟨er, ea⟩, hb⟩, hx⟩ := c1
      have er' := eq_of_beq er
      subst er' ea
      split at z
      · rename_i i T A h1 h2 h3
        split at z
        · rename_i ho
          cases z
          have bo : BlkOk X.N X.env.scope scope (ownOf' c scope) := by rw [h.eN, h.eS]; exact blkOk_by hb
          have hsl : ∀ q ∈ tSl (.nm i), q ∈ (ownOf' c scope).map (·.2) := fun q hq => by
            simp only [tSl, List.mem_singleton] at hq
            subst hq
            obtain ⟨y, y1, y2⟩ := List.any_eq_true.mp ho
            exact List.mem_map.mpr ⟨y, y1, Nat.eq_of_beq_eq_true y2⟩
          refine ⟨fun pins s σ H Q I q => ?_⟩
          have rd := lc_read ((ownOf' c scope).map (·.2)) hsl false (fun z => by cases z) σ H Q q
          rw [eval_ListComp]
          refine hot_core (wi := tI F X xr W (.rng (.cons (.int k) .nil))) hot h.nd I (PIH.mono' (L2H.pi_range1H gr mr (ra_cons re_int ra_nil (by rfl)) (by rfl)) fun σ H Q q => rng1_im σ H Q q) bo (fun s H C cl fp pn => ?_) (fun s H C cl fp pn => ?_) (fun s H C cl fp pn => ?_) (fun _ => rfl) rd fun L C s' m H' I' q hn f => ⟨m, hn, fun h'' sb => ?_⟩
          · obtain ⟨l1, l2⟩ := (h.blkP s H scope C cl fp pn).loc hx
            exact pg_name h.nd (by show X.N[i]? = some x; rw [h.eN]; exact idx_ok h1) l1 l2
          · obtain ⟨q1, q2⟩ := cEh_ok (F := F) (xr := xr) (W := W0) n _ _ t T (h.blkP s H scope C cl fp pn) h2
            exact pts_one (rt_plain q1 q2)
          · exact (cEh_ok (F := F) (xr := xr) (W := W0) n _ _ elt A (h.blkP s H scope C cl fp pn) h3).1
          · obtain ⟨f0, f1, f2, f3, f4, f5⟩ := f
            exact ⟨.ref L, H', I'.turned (t' := s'.toks) (fun b o hb e => (sb.2 b hb).trans e) f0 f1 f3 f4 f5, rfl, q⟩
        · cases z
      · cases z
    · cases z
  · cases z
end
end Mp
end
section
set_option Elab.async false
set_option linter.all false
set_option maxRecDepth 100000
set_option maxHeartbeats 8000000
set_option autoImplicit false
/-! MpCmpB: small looks at statements. -/
namespace Mp
open PySem PySem.Spec PyProof.Rows L2
def isComp : Expr → Bool
  | .ListComp _ _ _ _ => true
  | .SetComp _ _ _ _ => true
  | .DictComp _ _ _ _ _ => true
  | _ => false
def isName : Expr → Bool
  | .Name _ _ => true
  | _ => false
theorem sw_no {e : Expr} {t : Option Expr} {l : Nat} {env : PySem.Env} (h : isComp e = false) : swapsWith e t l env = pure false := by
  cases e <;> first | rfl | cases h
theorem sws_no {e tg : Expr} {l : Nat} {env : PySem.Env} (h : isComp e = false) : swapsWithSole [tg] e l env = pure false := sw_no h
theorem stores_no {tg e : Expr} {env : PySem.Env} (h : isTupE e = false) : swappedStores [tg] e env = pure none := by
  cases e <;> first | (cases tg <;> rfl) | cases h
theorem stores_nm {x : Str} {p : Pos} {e : Expr} {env : PySem.Env} : swappedStores [.Name x p] e env = pure none := by
  cases e <;> rfl
theorem stores_sub {o i : Expr} {p : Pos} {e : Expr} {env : PySem.Env} : swappedStores [.Subscript o i p] e env = pure none := by
  cases e <;> rfl
end Mp
end
section
set_option Elab.async false
set_option linter.all false
set_option maxRecDepth 100000
set_option maxHeartbeats 8000000
set_option autoImplicit false
/-! MpTry2: try .. except C as e. -/
namespace Mp
open PySem PySem.Spec PyProof.Rows L2
def sbAt (sb : List (List Bool)) (k j : Nat) : Option Bool := (sb[k]?).bind fun r => r[j]?
/-- the classes of errors and how they lie -/
def SubF (K : PySem.W.Frag) (mg : Str → Option Value) (xr : XR) (G : GT) (sb : List (List Bool)) : Prop := ∃ CA : Nat → Addr, (∀ k m H fs cls od, xr m H k fs cls od → cls = .ref (CA k) ∧ od = none) ∧ (∀ x k, G.lookup x = some (.cls k) → mg x = some (.ref (CA k))) ∧
  ∀ k j b, sbAt sb k j = some b → PySem.W.exmOne K (.ref (CA k)) (.ref (CA j)) = some b ∧ PySem.W.kitOne K (.ref (CA k)) (.ref (CA j)) = some b ∧ ExcC K (CA k)
def altOf : S → Nat → Option S
  | .aS s _, 0 => some s
  | .aS _ r, c + 1 => altOf r c
  | .aN r, c + 1 => altOf r c
  | _, _ => none
def noAlt : S → Nat → Bool
  | .aN _, 0 => true
  | .aS _ r, c + 1 => noAlt r c
  | .aN r, c + 1 => noAlt r c
  | _, _ => false
theorem exA_cases {F : Nat → List D → Hd → R D} {tw : Nat} : ∀ (alts : S) (c k i : Nat) (fs : List D) (env : Mp.Env) (h : Hd), (∃ s, altOf alts c = some s ∧ exA F tw alts c k i fs env h = triE i (ex F tw s env h)) ∨ (noAlt alts c = true ∧ exA F tw alts c k i fs env h = .ex k fs h) ∨ exA F tw alts c k i fs env h = .no := by
  intro alts
  induction alts with
  | aS s r _ ih =>
    intro c k i fs env h
    cases c with
    | zero => exact .inl ⟨s, rfl, by simp only [exA]⟩
    | succ c => simpa only [exA, altOf, noAlt] using ih c k i fs env h
  | aN r ih =>
    intro c k i fs env h
    cases c with
    | zero => exact .inr (.inl ⟨rfl, by simp only [exA]⟩)
    | succ c => simpa only [exA, altOf, noAlt] using ih c k i fs env h
  | _ => intro c k i fs env h; exact .inr (.inr (by cases c <;> simp only [exA]))
theorem EnvR.del {K : PySem.W.Frag} {m : List Addr} {H : Hp} {env : Mp.Env} {σ : St} (i : Nat) (e : EnvR K m H env σ) : EnvR K m H (env.set i none) (σ.set i none) := by
  refine ⟨by rw [List.length_set, List.length_set]; exact e.1, fun j d q => ?_⟩
  by_cases hij : i = j
  · subst hij
    by_cases hl : i < env.length
    · rw [List.getElem?_set_self hl] at q; cases q
    · rw [List.getElem?_eq_none (by rw [List.length_set]; omega)] at q; cases q
  · rw [List.getElem?_set_ne hij] at q
    rw [List.getElem?_set_ne hij]
    exact e.2 j d q
theorem EnvR.none {K : PySem.W.Frag} {m : List Addr} {H : Hp} {n : Nat} {σ : St} (l : n = σ.length) : EnvR K m H (List.replicate n none) σ := by
  refine ⟨by rw [List.length_replicate]; exact l, fun j d q => ?_⟩
  have z := List.mem_of_getElem? q
  rw [List.mem_replicate] at z
  cases z.2
/-! ### the suite -/
def cIs (G : GT) (c : Cc) (sb : List (List Bool)) (nm : Str) (k : Nat) : Expr → Option E
  | .Call (.Name x _) [.Name y _, .Name z _] [] _ => if x == ("isinstance" : Str) && isBlt G c x && y == nm then (match gk G c z with
    | some (.cls j) => (sbAt sb k j).map .bl
    | _ => none) else none
  | _ => none
def cSuite (G : GT) (c : Cc) (sb : List (List Bool)) (nm : Str) (i k : Nat) : List Stmt → Option S
  | [.Assign [.Name x _] (.List es _) _, .Return (some r) _] => if locB c x then (match idx x c.N, cL (cIs G c sb nm k) es, cLcH c 6 (isBlt G c "range") r with
    | some j, some Es, some R' => if isBlt G c "range" && es.all (fun e => !isStar e) then some (.seq (.asg (.nm j) (.lst Es)) (.seq (.ret R') .nil)) else none
    | _, _, _ => none) else none
  | _ => none
section
variable {F : Nat → List D → Hd → R D} {tw : Nat} {X : Cx} {xr : XR} {W : WX} {G : GT} {c : Cc} {sb : List (List Bool)}
/-- with what is known of a slot -/
def tEP (P : St → Prop) (F : Nat → List D → Hd → R D) (X : Cx) (xr : XR) (W : WX) (A : E) : TE := fun σ H Q => P σ ∧ tE F X xr W A σ H Q
def tAP (P : St → Prop) (F : Nat → List D → Hd → R D) (X : Cx) (xr : XR) (W : WX) (A : E) : TA := fun σ H Q => P σ ∧ tA F X xr W A σ H Q
theorem cLp_ok {P : St → Prop} {f : Expr → Option E} (hf : ∀ e E, f e = some E → PE X e (tEP P F X xr W E)) : ∀ (es : List Expr) (E : E), es.all (fun e => !isStar e) = true → cL f es = some E → PA X es (tAP P F X xr W E)
  | [], E, _, h => by
    cases h
    exact PA.mono ra_nil fun σ H Q q => q.2
  | e :: r, E, hs, h => by
    simp only [List.all_cons, Bool.and_eq_true, Bool.not_eq_true'] at hs
    simp only [cL] at h
    cases h1 : cL f r with
    | none => rw [h1] at h; cases h
    | some R' =>
      rw [h1] at h
      have ih := cLp_ok hf r R' hs.2 h1
      have h' : (f e).map (fun A => Mp.E.cons A R') = some E := by
        cases e <;> first | exact h | cases hs.1
      obtain ⟨A, h2, h3⟩ := Option.map_eq_some_iff.mp h'
      subst h3
      refine PA.mono (pa_cons (hf e A h2) ih (star_no hs.1)) fun σ H Q ⟨hP, m, env, h, eR, S, p⟩ => ?_
      simp only [evs] at p
      refine ⟨hP, m, env, h, eR, S, (Post.bind p).imp fun x H1 ⟨d, m1, h1, N1, r1, p1⟩ => ?_⟩
      obtain ⟨m2, N2, s2, G2⟩ := reg_ok N1 r1
      refine ⟨hP, m2, env, (reg h1 d).2, eR.grow (N2.grow S), N2.sim, (Post.bind (Post.step relA.down N2 p1)).imp fun xs H3 ⟨ds, m3, h3, N3, r3, p3⟩ => ?_⟩
      refine Post.ok (rel := relA X.K) N3.sim ?_ (Post.step relA.down N3 p3)
      show SReps X.K m3 H3 ((reg h1 d).1 :: ds) (x :: xs)
      simp only [SReps]
      exact ⟨x, xs, rfl, SRep.grow (N3.grow N2.sim) _ _ s2, r3⟩
/-- the context of the suite -/
theorem HX.suite (h : HX F X xr W G c) (a : Addr) (pn : List (Addr × Obj)) : HH (X.suite a pn) c where
  un := h.un
  nd := h.nd
  eN := h.eN
  eS := h.eS
  fn := h.fn
theorem cSuite_ok (h : HX F X xr W G c) {CA : Nat → Addr} (hcls : ∀ x k, G.lookup x = some (.cls k) → X.mg x = some (.ref (CA k))) (hsub : ∀ k j b, sbAt sb k j = some b → PySem.W.exmOne X.K (.ref (CA k)) (.ref (CA j)) = some b ∧ PySem.W.kitOne X.K (.ref (CA k)) (.ref (CA j)) = some b ∧ ExcC X.K (CA k))
    {nm : Str} {i k : Nat} (hi : X.N[i]? = some nm) (hv : Vis X.env.scope nm) (on : okN nm = true) {ss : List Stmt} {A : S} (z : cSuite G c sb nm i k ss = some A) {a : Addr} {oe : Obj} {pn : List (Addr × Obj)} (hz : L2N.Zn (.ref (CA k)) none oe) (hf : ∃ vs, oe.data = .fields vs) :
    PSs (X.suite a ((a, oe) :: pn)) ss (fun D' σ H => σ[i]? = some (some (.ref a)) ∧ tS F tw (X.suite a ((a, oe) :: pn)) xr W0 A D' σ H) := by
  have hh := h.suite a ((a, oe) :: pn)
  obtain ⟨n1, n2, n3⟩ := okN_ok on
  have hot : L2H.HotC (X.suite a ((a, oe) :: pn)) := by
    obtain ⟨vs, ev'⟩ := hf
    exact ⟨(a, oe), ⟨rfl, vs, ev', hz.2.2 vs ev'⟩, List.mem_cons_self⟩
  unfold cSuite at z
  split at z
  · rename_i x p es p2 p3 r p4
    split at z
    · rename_i lb
      split at z
      · rename_i j Es R' h1 h2 h3
        split at z
        · rename_i hc
          cases z
          simp only [Bool.and_eq_true] at hc
          obtain ⟨gr, mr⟩ := h.blt hc.1
          rw [hc.1] at h3
          have pl : PE (X.suite a ((a, oe) :: pn)) (.List es p2) (tEP (fun σ => σ[i]? = some (some (.ref a))) F (X.suite a ((a, oe) :: pn)) xr W0 (.lst Es)) := by
            refine PE.mono (pe_lst (cLp_ok (F := F) (X := X.suite a ((a, oe) :: pn)) (xr := xr) (W := W0) (P := fun σ => σ[i]? = some (some (.ref a))) (fun e E q => ?_) es Es hc.2 h2)) fun σ H Q ⟨hP, m, env, h0, eR, S, p⟩ => ?_
            · unfold cIs at q
              split at q
              · rename_i x' q1 y q2 z' q3 q4
                split at q
                · rename_i hq
                  simp only [Bool.and_eq_true] at hq
                  obtain ⟨⟨ex, hb⟩, ey⟩ := hq
                  have ex' := eq_of_beq ex
                  have ey' := eq_of_beq ey
                  subst ex' ey'
                  obtain ⟨gi, mi⟩ := h.blt hb
                  split at q
                  · rename_i jj ej
                    obtain ⟨b, b1, b2⟩ := Option.map_eq_some_iff.mp q
                    subst b2
                    obtain ⟨g1, g2, g3⟩ := h.gk ej
                    obtain ⟨o1, _, _⟩ := okN_ok g3
                    obtain ⟨s1, s2, s3⟩ := hsub k jj b b1
                    refine PE.mono (pe_callB (call_isE s3 ⟨hz.1, hz.2.1⟩ hf) gi mi boot_isi (pa_cons (pe_var hi hv n1 n2) (pa_cons (pe_glob (v := .ref (CA jj)) g1 (hcls z' jj g2) rfl o1) pa_nil (by rfl)) (by rfl)) (by decide +kernel) (by decide +kernel) (by rfl) (by rfl)) fun σ H Q ⟨hP, m, env, h0, eR, S, p⟩ => ?_
                    exact ⟨.ref a, hP, .ref (CA jj), .ref (CA jj), b, rfl, fun u ru => ru, s2, Post.ok S mk_bl p⟩
                  · cases q
                · cases q
              · cases q
            · simp only [ev] at p
              refine ⟨hP, m, env, h0, eR, S, (Post.bind p).imp fun xs H1 ⟨ds, m1, h1, N1, r1, p1⟩ => ?_⟩
              split at p1
              · rename_i hl
                exact ⟨by rw [← SReps.length r1, ← lim_eq]; exact hl, fun q hq => (Post.step RepB.down N1 p1) _ _ m1 (Nx.new N1.sim hq) (rep_tl N1.sim hq r1)⟩
              · exact p1.elim
          obtain ⟨l1, l2⟩ := hh.loc lb
          have pg : PG (X.suite a ((a, oe) :: pn)) (.Name x p) (gName j) := pg_name hh.nd (by rw [hh.eN]; exact idx_ok h1) l1 l2
          have st1 : PS (X.suite a ((a, oe) :: pn)) (.Assign [.Name x p] (.List es p2) p3) (fun D' σ H => σ[i]? = some (some (.ref a)) ∧ tS F tw (X.suite a ((a, oe) :: pn)) xr W0 (.asg (.nm j) (.lst Es)) D' σ H) := by
            refine PS.mono' (ps_asg pl pg (sws_no rfl) stores_nm (by rfl)) fun D' σ H ⟨hP, m, env, h0, eR, S, p⟩ => ?_
            rw [ex] at p
            refine ⟨hP, m, env, h0, eR, S, (PostS.bind (rel := RepB X.K X.w) p).imp fun x H1 ⟨d, m1, h1, N1, r1, p1⟩ => ?_⟩
            obtain ⟨m2, N2, s2, G2⟩ := reg_ok N1 r1
            simp only [asgT] at p1
            exact PostS.next (by simp) N2 ((eR.grow (N2.grow S)).set s2) p1
          have st2 : PSs (X.suite a ((a, oe) :: pn)) [.Return (some r) p4] (tS F tw (X.suite a ((a, oe) :: pn)) xr W0 (.seq (.ret R') .nil)) := rs_cons (rs_ret (cLcH_ok hh hot gr mr h3)) rs_nil
          refine PSs.mono' (pss_cons st1 st2) fun D' σ H ⟨hP, m, env, h0, eR, S, p⟩ => ⟨hP, m, env, h0, eR, S, ?_⟩
          rw [ex] at p
          cases e : ex F tw (.asg (.nm j) (.lst Es)) env h0 with
          | no => rw [e] at p; exact p.elim
          | ex c fs h' => rw [e] at p; exact p
          | ok q h' =>
            rw [e] at p
            obtain ⟨f, env'⟩ := q
            simp only [R.bind] at p
            intro σ' H' m' l N eR'
            cases f with
            | nx => exact ⟨m', env', h', eR', N.sim, PostS.step l N p⟩
            | bk => exact p σ' H' m' l N eR'
            | ct => exact p σ' H' m' l N eR'
            | rt d => exact p σ' H' m' l N eR'
        · cases z
      · cases z
    · cases z
  · cases z
end
end Mp
end
section
set_option Elab.async false
set_option linter.all false
set_option maxRecDepth 100000
set_option maxHeartbeats 8000000
set_option autoImplicit false
/-! MpTry3: the try statement. -/
namespace Mp
open PySem PySem.Spec PyProof.Rows L2
/-- the suites by classes: n classes from the k-th on -/
def cAlts (f : Nat → Option S) (t : Nat → Option Bool) : Nat → Nat → Option S
  | 0, _ => some .nil
  | n + 1, k => match t k, cAlts f t n (k + 1) with
    | some true, some r => (f k).map fun s => .aS s r
    | some false, some r => some (.aN r)
    | _, _ => none
theorem cAlts_ok {f : Nat → Option S} {t : Nat → Option Bool} : ∀ (n k : Nat) (A : S), cAlts f t n k = some A → ∀ (c : Nat), (∀ s, altOf A c = some s → t (k + c) = some true ∧ f (k + c) = some s) ∧ (noAlt A c = true → t (k + c) = some false)
  | 0, k, A, z, c => by cases z; exact ⟨fun s q => (by cases c <;> simp [altOf] at q), fun q => (by cases c <;> simp [noAlt] at q)⟩
  | n + 1, k, A, z, c => by
    simp only [cAlts] at z
    split at z
    · rename_i r h1 h2
      obtain ⟨s, h3, h4⟩ := Option.map_eq_some_iff.mp z
      subst h4
      cases c with
      | zero => exact ⟨fun s' q => (by simp only [altOf, Option.some.injEq] at q; subst q; exact ⟨h1, h3⟩), fun q => (by cases q)⟩
      | succ c =>
        have := cAlts_ok n (k + 1) r h2 c
        rw [show k + 1 + c = k + (c + 1) from by omega] at this
        exact ⟨fun s' q => this.1 s' q, fun q => this.2 q⟩
    · rename_i r h1 h2
      cases z
      cases c with
      | zero => exact ⟨fun s' q => (by simp [altOf] at q), fun q => h1⟩
      | succ c =>
        have := cAlts_ok n (k + 1) r h2 c
        rw [show k + 1 + c = k + (c + 1) from by omega] at this
        exact ⟨fun s' q => this.1 s' q, fun q => this.2 q⟩
    · cases z
section
variable {F : Nat → List D → Hd → R D} {tw : Nat} {X : Cx} {xr : XR} {W : WX} {G : GT} {c : Cc} {sb : List (List Bool)}
theorem rs_try (h : HX F X xr W G c) (sub : SubF X.K X.mg xr G sb) (hs : X.stack = X.env :: X.outer) (hf : X.env.frame = some X.env.locals) {x nm : Str} {i j : Nat} {np pos pos' : Pos} {body suite : List Stmt} {b₀ : Stmt} {B alts : S}
    (hi : X.N[i]? = some nm) (hv : X.env.kindOf nm = some .local) (on : okN nm = true) (hx : gk G c x = some (.cls j)) (ha : cAlts (fun k => cSuite G c sb nm i k (b₀ :: suite)) (fun k => sbAt sb k j) sb.length 0 = some alts)
    (hb : ∀ (W : WX) (pn : List (Addr × Obj)) (xe : Value → Shared → Prop), L2N.Takes (X.tr pn xe) W → PassesOwn (model X.prog X.w) X.A X.env xe → PSs (X.tr pn xe) body (tS F tw X xr W B)) :
    PS X (.Try body [.ExceptHandler (some (.Name x np)) (some nm) (b₀ :: suite) pos'] [] [] pos) (tS F tw X xr W (.tri B i alts)) := by
  obtain ⟨CA, s1, s2, s3⟩ := sub
  obtain ⟨g1, g2, g3⟩ := h.gk hx
  obtain ⟨o1, _, _⟩ := okN_ok g3
  have hn : Names X x (.ref (CA j)) := ⟨g1, o1, .inl (s2 x j g2)⟩
  have T := L2N.ps_try_as (pos := pos) (pos' := pos') (np := np) (tb := fun W => tS F tw X xr W B) (Wout := W) (ts := fun a cls d D' σ H => ∃ k s, cls = .ref (CA k) ∧ d = none ∧ altOf alts k = some s ∧ σ[i]? = some (some (.ref a)) ∧ tS F tw X xr W0 s D' σ H)
    hs hf h.nd hi hv hn h.tk hb (b₀ := b₀) (suite := suite) ?_
  · refine ⟨fun pins s σ H D' I ⟨m, env, h0, eR, S, p⟩ => T.run pins s σ H D' I ⟨m, env, h0, eR, S, ?_⟩⟩
    have hlen := I.len
    have hil : i < σ.length := by rw [hlen]; exact (List.getElem?_eq_some_iff.mp hi).1
    simp only [ex] at p
    cases e : ex F tw B env h0 with
    | no => rw [e] at p; exact p.elim
    | ok q h1 => rw [e] at p; exact p
    | ex k fs h1 =>
      rw [e] at p
      simp only at p
      intro cls od σ' H' m' l N r
      obtain ⟨e1, e2⟩ := s1 _ _ _ _ _ _ r
      subst e1 e2
      rcases exA_cases (F := F) (tw := tw) alts k k i fs (List.replicate env.length none) h1 with ⟨s', a1, a2⟩ | ⟨a1, a2⟩ | a2
      · obtain ⟨t1, t2⟩ := (cAlts_ok _ 0 alts ha k).1 s' a1
        rw [Nat.zero_add] at t1
        refine ⟨true, (s3 k j true t1).1, fun _ a na => ?_, fun z => by cases z⟩
        refine ⟨k, s', rfl, rfl, a1, by rw [List.getElem?_set_self (by rw [l]; exact hil)], m', List.replicate env.length none, h1, ?_, N.sim, ?_⟩
        · exact EnvR.none (by rw [List.length_set, l]; exact eR.1)
        · rw [a2] at p
          cases e3 : ex F tw s' (List.replicate env.length none) h1 with
          | no => rw [e3] at p; exact p.elim
          | ex k2 fs2 h2 => rw [e3] at p; exact p.elim
          | ok q h2 =>
            rw [e3] at p
            simp only [triE] at p
            intro σ2 H2 m2 l2 N2 eR2
            have z := p (σ2.set i none) H2 m2 (by rw [List.length_set, l2, List.length_set, l]) (N.trans N2) (EnvR.del i eR2)
            obtain ⟨f, env2⟩ := q
            cases f with
            | rt d => exact EndOf.down N.gone (f := .rt d) z
            | _ => exact z
      · have t1 := (cAlts_ok _ 0 alts ha k).2 a1
        rw [Nat.zero_add] at t1
        rw [a2] at p
        exact ⟨false, (s3 k j false t1).1, (fun z => by cases z), fun _ => p _ _ _ _ m' l N r⟩
      · rw [a2] at p; exact p.elim
  · intro a oe cls d pn hz hfl
    refine ⟨fun pins s σ H D' I ⟨k, s', e1, e2, a1, hσ, q⟩ => ?_⟩
    subst e1 e2
    obtain ⟨t1, t2⟩ := (cAlts_ok _ 0 alts ha k).1 s' a1
    rw [Nat.zero_add] at t2
    exact (cSuite_ok (F := F) (tw := tw) (xr := xr) h s2 s3 hi (.inl hv) on t2 hz hfl).run pins s σ H D' I ⟨hσ, q⟩
end
end Mp
end
section
set_option Elab.async false
set_option linter.all false
set_option maxRecDepth 100000
set_option maxHeartbeats 8000000
set_option autoImplicit false
/-! MpCmp4: statements compiled. -/
namespace Mp
open PySem PySem.Spec PyProof.Rows L2
/-- a comprehension set to a name that its block may keep -/
def swapB (c : Cc) (e : Expr) (x : Str) (line : Nat) : Option Bool := match e with
  | .ListComp _ _ scope pos => if kindB c x == some .local then (if line == pos.line && !(scope.names.any fun (n, k) => n == x && (k == .local || k == .cell)) then some true else none) else some false
  | _ => none
def cSs (f : Stmt → Option S) : List Stmt → Option S
  | [] => some .nil
  | s :: r => match f s, cSs f r with
    | some a, some b => some (.seq a b)
    | _, _ => none
def cAsg (G : GT) (c : Cc) (n : Nat) (tg e : Expr) : Option S := match tg with
  | .Subscript o i _ => if isSl i || isComp e then none else (match cE G n c e, cE G n c o, cE G n c i with
    | some A, some O, some I' => some (.sas O I' A)
    | _, _, _ => none)
  | .Name x p => (match cT c 6 (.Name x p), cE G n c e with
    | some t, some A => if isComp e then (match swapB c e x p.line with
        | some _ => some (.asg t A)
        | none => none) else some (.asg t A)
    | _, _ => none)
  | .Tuple es k p => if isComp e || isTupE e then none else (match cT c 6 (.Tuple es k p), cE G n c e with
    | some t, some A => some (.asg t A)
    | _, _ => none)
  | _ => none
def cRse (G : GT) (c : Cc) (o o2 : Option Expr) : Option S := match o, o2 with
  | some (.Call (.Name x _) [] [] _), none => (match gk G c x with
    | some (.cls k) => some (.rse k .nil)
    | _ => none)
  | _, _ => none
def cTry (G : GT) (sb : List (List Bool)) (c : Cc) (f : List Stmt → Option S) (body : List Stmt) : List ExceptHandler → List Stmt → List Stmt → Option S
  | [.ExceptHandler (some (.Name x _)) (some nm) (b₀ :: suite) _], [], [] => if okN nm && kindB c nm == some .local then (match idx nm c.N, gk G c x, f body with
      | some i, some (.cls j), some B => (cAlts (fun k => cSuite G c sb nm i k (b₀ :: suite)) (fun k => sbAt sb k j) sb.length 0).map (.tri B i)
      | _, _, _ => none) else none
  | _, _, _ => none
def cS (G : GT) (sb : List (List Bool)) : Nat → Cc → Stmt → Option S
  | 0, _, _ => none
  | n + 1, c, s => match s with
    | .Expr e _ => (match e with
      | .Constant (.str _) _ _ => some .pass
      | e => if isComp e then none else (cE G n c e).map .ex)
    | .Return none _ => some (.ret .non)
    | .Return (some e) _ => (cE G n c e).map .ret
    | .Assign [tg] e _ => cAsg G c n tg e
    | .AugAssign (.Name x _) o e _ => if locB c x then (match idx x c.N, cE G n c e, o with
      | some i, some A, .Add => some (.aug i .add A)
      | some i, some A, .Sub => some (.aug i .sub A)
      | _, _, _ => none) else none
    | .If t a b _ => (match cE G n c t, cSs (cS G sb n c) a, cSs (cS G sb n c) b with
      | some T, some A, some B => some (.iff T A B)
      | _, _, _ => none)
    | .While t a [] _ => (match cE G n c t, cSs (cS G sb n c) a with
      | some T, some A => some (.whl T A)
      | _, _ => none)
    | .For tg it a [] _ => if isSet it then none else (match cT c 6 tg, cI G c (cE G n c) (isTupE tg) it, cSs (cS G sb n c) a with
      | some t, some (i, pair), some A => if !pair || isTp t then some (.for t i A) else none
      | _, _, _ => none)
    | .Raise o o2 _ => cRse G c o o2
    | .Pass _ => some .pass
    | .Break _ => some .brk
    | .Continue _ => some .cnt
    | .Try body hds o1 o2 _ => cTry G sb c (cSs (cS G sb n c)) body hds o1 o2
    | _ => none
structure HS (F : Nat → List D → Hd → R D) (X : Cx) (xr : XR) (W : WX) (G : GT) (sb : List (List Bool)) (c : Cc) : Prop extends HX F X xr W G c where
  kd : X.env.scope.kind = .function
  own : PassesOwn (model X.prog X.w) X.A X.env X.xe
  hs : X.stack = X.env :: X.outer
  hf : X.env.frame = some X.env.locals
  sub : SubF X.K X.mg xr G sb
section
variable {F : Nat → List D → Hd → R D} {tw : Nat} {X : Cx} {xr : XR} {W : WX} {G : GT} {sb : List (List Bool)} {c : Cc}
/-- raise C() -/
theorem pmk0 {C : Addr} {bmB : List Value} {B newId initId : String} {x : Str} {p pos : Pos} (Fa : ExcBaseFacts B newId initId bmB) (q : PySem.W.excIn X.K C bmB newId = true) (gC : X.mg x = some (.ref C)) (kC : PySem.W.keepIn X.K (.ref C) = true) (r : Raises X (.ref C)) (hg : Gl X x)
    (hdb : (x == ("__debug__" : Str)) = false) : L2N.PMk X (.Call (.Name x p) [] [] pos) (fun _ H Q => Q (.ref C) none H) := by
  intro pins s σ H Q I h
  refine wpAny_Call_Name_kw (ld_glob I hg gC ?_ hdb)
  refine PySem.W.callWith_K0 I.kIn kC ?_
  obtain ⟨bm, N, nm, qn, bs, hdct, sn, sub, ab, col, dd, k0, k1, k2, k3, k5, mN, hC, hN, hni, T⟩ := exc_obj I.kIn q
  exact wpAny_call_exc_subT Fa T hC hN hni (fun h' e hm => L2N.mk_of I hm r h (I.hok.gone hm.new)) (Nat.zero_le _)
theorem rs_rse {x : Str} {k : Nat} {p pos pos' : Pos} (hc : X.calm = true) (tk : L2N.Takes X W) (ca : ClsAt X xr k x) (hg : Gl X x) (hdb : (x == ("__debug__" : Str)) = false) : PS X (.Raise (some (.Call (.Name x p) [] [] pos)) none pos') (tS F tw X xr W (.rse k .nil)) := by
  obtain ⟨C, bmB, B, newId, initId, Fa, q, gC, kC, r, hx⟩ := ca
  refine PS.mono' (L2N.ps_raise hc tk (pmk0 Fa q gC kC r hg hdb)) fun D' σ H ⟨m, env, h, eR, S, p⟩ => ?_
  exact p (.ref C) none σ H m rfl (Nx.refl S) (hx m H [])
theorem cSs_ok {f : Stmt → Option S} (hf : ∀ s A, f s = some A → PS X s (tS F tw X xr W A)) : ∀ (l : List Stmt) (A : S), cSs f l = some A → PSs X l (tS F tw X xr W A)
  | [], A, z => by cases z; exact rs_nil
  | s :: r, A, z => by
    simp only [cSs] at z
    split at z
    · rename_i a b h1 h2
      cases z
      exact rs_cons (hf s a h1) (cSs_ok hf r b h2)
    · cases z
theorem sw_cell {elt : Expr} {gs : List Comprehension} {scope : Scope} {pos py : Pos} {x : Str} {l : Nat} {env : PySem.Env} (hk : env.scope.kind = .function) (h : (env.kindOf x == some .local) = false) : swapsWith (.ListComp elt gs scope pos) (some (.Name x py)) l env = pure false := by
  unfold swapsWith
  have hb : env.blockKind = .function := by unfold Env.blockKind; rw [hk]; rfl
  simp only [hb, h]
  rfl
theorem cAsg_ok (h : HS F X xr W G sb c) {n : Nat} {tg e : Expr} {pos : Pos} {A : S} (z : cAsg G c n tg e = some A) : PS X (.Assign [tg] e pos) (tS F tw X xr W A) := by
  have ie : ∀ e E, cE G n c e = some E → PE X e (tE F X xr W E) := fun e E q => (cE_ok n X W c e E h.toHX q).1
  unfold cAsg at z
  split at z
  · rename_i o i p
    split at z
    · cases z
    · rename_i hc
      simp only [Bool.or_eq_true, not_or, Bool.not_eq_true] at hc
      split at z
      · rename_i A' O I' h1 h2 h3
        cases z
        exact rs_sas hc.1 h.un (ie e A' h1) (ie o O h2) (ie i I' h3) (sws_no hc.2) stores_sub
      · cases z
  · rename_i x p
    split at z
    · rename_i t A' h1 h2
      split at z
      · rename_i hc
        split at z
        · rename_i b hb
          cases z
          have hl := h1
          simp only [cT] at hl
          split at hl
          · rename_i lb
            obtain ⟨i, i1, i2⟩ := Option.map_eq_some_iff.mp hl
            subst i2
            obtain ⟨l1, l2⟩ := h.toHX.loc lb
            have hi : X.N[i]? = some x := by rw [h.eN]; exact idx_ok i1
            cases e with
            | ListComp elt gens scope lp =>
              simp only [swapB] at hb
              split at hb
              · rename_i hk
                split at hb
                · rename_i hcc
                  cases hb
                  simp only [Bool.and_eq_true, Bool.not_eq_true'] at hcc
                  have hloc : X.env.scope.names.lookup x = some .local := by rw [h.eS]; exact eq_of_beq hk
                  have sw := sw_true (elt := elt) (gs := gens) (l := pos.line) h.kd hloc hcc.1 hcc.2
                  cases n with
                  | zero => cases h2
                  | succ n =>
                    have h2' := h2
                    unfold cE at h2'
                    simp only at h2'
                    split at h2'
                    · rename_i own t it pair C A0 g1 g2
                      split at h2'
                      · rename_i hp
                        cases h2'
                        obtain ⟨tg, iter, ifs, eg, b1, b2, b3, b4, b5, b6⟩ := cGen_ok h.toHX (cE_ok n) g1
                        subst eg
                        exact rs_setLc h.calm h.nd hi hloc sw b2 pair (fun q => by rw [q] at hp; simpa using hp) b3 b1 b4 b5 (fun s H C' cl fp => (cE_ok n _ W0 _ elt A0 (h.toHX.blk s H scope C' cl fp) g2).1) b6
                      · cases h2'
                    · cases h2'
                · cases hb
              · rename_i hk
                cases hb
                have hk' : (X.env.kindOf x == some .local) = false := by
                  have : X.env.kindOf x = kindB c x := by show X.env.scope.names.lookup x = c.sc.names.lookup x; rw [h.eS]
                  rw [this]
                  simpa using hk
                exact rs_asg (ie _ A' h2) (cT_ok h.toHX 6 _ _ h1) (sw_cell (l := pos.line) h.kd hk') stores_nm (by rfl)
            | _ => simp [swapB] at hb
          · cases hl
        · cases z
      · rename_i hc
        cases z
        exact rs_asg (ie e A' h2) (cT_ok h.toHX 6 _ t h1) (sws_no (by simpa using hc)) stores_nm (by rfl)
    · cases z
  · rename_i es k p
    split at z
    · cases z
    · rename_i hc
      simp only [Bool.or_eq_true, not_or, Bool.not_eq_true] at hc
      split at z
      · rename_i t A' h1 h2
        cases z
        exact rs_asg (ie e A' h2) (cT_ok h.toHX 6 _ t h1) (sws_no hc.1) (stores_no hc.2) (by rfl)
      · cases z
  · cases z
theorem cRse_ok (h : HS F X xr W G sb c) {o o2 : Option Expr} {pos : Pos} {A : S} (z : cRse G c o o2 = some A) : PS X (.Raise o o2 pos) (tS F tw X xr W A) := by
  unfold cRse at z
  split at z
  · split at z
    · rename_i k e1
      cases z
      obtain ⟨g1, g2, g3⟩ := h.toHX.gk e1
      obtain ⟨o1, _, _⟩ := okN_ok g3
      exact rs_rse h.calm h.tk (h.g _ _ g2) g1 o1
    · cases z
  · cases z
theorem cS_ok : ∀ (n : Nat) (X : Cx) (W : WX) (s : Stmt) (A : S), HS F X xr W G sb c → cS G sb n c s = some A → PS X s (tS F tw X xr W A)
  | 0, X, W, s, A, h, z => by cases z
  | n + 1, X, W, s, A, h, z => by
    have ie : ∀ e E, cE G n c e = some E → PE X e (tE F X xr W E) := fun e E q => (cE_ok n X W c e E h.toHX q).1
    have it : ∀ e E, cE G n c e = some E → PT X e (tT F X xr W E) := fun e E q => (cE_ok n X W c e E h.toHX q).2.1
    have is : ∀ l A, cSs (cS G sb n c) l = some A → PSs X l (tS F tw X xr W A) := cSs_ok fun s A q => cS_ok n X W s A h q
    unfold cS at z
    cases s with
    | Expr e p =>
      simp only at z
      have other : isComp e = false → (cE G n c e).map S.ex = some A → PS X (.Expr e p) (tS F tw X xr W A) := by
        intro hc q
        obtain ⟨A', h1, h2⟩ := Option.map_eq_some_iff.mp q
        subst h2
        exact rs_ex (ie e A' h1) (sw_no hc)
      split at z
      · cases z
        exact rs_doc (s := _) rfl
      · split at z
        · cases z
        · rename_i hc
          exact other (by simpa using hc) z
    | Return o p =>
      cases o with
      | none => cases z; exact rs_retN
      | some e =>
        obtain ⟨A', h1, h2⟩ := Option.map_eq_some_iff.mp z
        subst h2
        exact rs_ret (ie e A' h1)
    | Assign ts e p =>
      match ts, z with
      | [tg], z => exact cAsg_ok h z
      | [], z => cases z
      | _ :: _ :: _, z => cases z
    | AugAssign tg o e p =>
      cases tg with
      | Name x p2 =>
        simp only at z
        split at z
        · rename_i lb
          obtain ⟨l1, l2⟩ := h.toHX.loc lb
          split at z
          · rename_i i A' h1 h2
            cases z
            exact rs_augA h.nd (by rw [h.eN]; exact idx_ok h1) l1 (ie e A' h2) l2
          · rename_i i A' h1 h2
            cases z
            exact rs_augS h.nd (by rw [h.eN]; exact idx_ok h1) l1 (ie e A' h2) l2
          · cases z
        · cases z
      | _ => cases z
    | If t a b p =>
      simp only at z
      split at z
      · rename_i T A' B h1 h2 h3
        cases z
        exact rs_if (it t T h1) (is a A' h2) (is b B h3)
      · cases z
    | While t a o p =>
      cases o with
      | nil =>
        simp only at z
        split at z
        · rename_i T A' h1 h2
          cases z
          exact rs_while h.own (it t T h1) (is a A' h2)
        · cases z
      | cons _ _ => cases z
    | For tg i a o p =>
      cases o with
      | nil =>
        simp only at z
        split at z
        · cases z
        · rename_i hs
          split at z
          · rename_i t i' pair A' h1 h2 h3
            split at z
            · rename_i hp
              cases z
              exact rs_for h.own h.calm pair (fun q => by rw [q] at hp; simpa using hp) (cI_ok h.toHX ie h2) (cT_ok h.toHX 6 tg t h1) (is a A' h3) (fold_no (by simpa using hs))
            · cases z
          · cases z
      | cons _ _ => cases z
    | Raise o o2 p => exact cRse_ok h z
    | Try body hds o1 o2 p =>
      simp only [cTry] at z
      split at z
      · rename_i hds0 q1 q2 x np nm b₀ suite pos'
        split at z
        · rename_i hc
          simp only [Bool.and_eq_true] at hc
          have hk : X.env.kindOf nm = some .local := by
            have : X.env.kindOf nm = kindB c nm := by show X.env.scope.names.lookup nm = c.sc.names.lookup nm; rw [h.eS]
            rw [this]
            exact eq_of_beq hc.2
          split at z
          · rename_i i j B h1 h2 h3
            obtain ⟨alts, h4, h5⟩ := Option.map_eq_some_iff.mp z
            subst h5
            refine rs_try h.toHX h.sub h.hs h.hf (by rw [h.eN]; exact idx_ok h1) hk hc.1 h2 h4 fun W' pn xe tk ow => ?_
            refine cSs_ok (X := X.tr pn xe) (fun s A q => cS_ok n (X.tr pn xe) W' s A ?_ q) body B h3
            exact { calm := h.calm, un := h.un, nd := h.nd, eN := h.eN, eS := h.eS, fn := h.fn, tk := tk, g := h.g, kd := h.kd, own := ow, hs := h.hs, hf := h.hf, sub := h.sub }
          · cases z
        · cases z
      · cases z
    | Pass p => cases z; exact rs_pass
    | Break p => cases z; exact rs_brk
    | Continue p => cases z; exact rs_cnt
    | _ => cases z
end
end Mp
end
section
set_option Elab.async false
set_option linter.all false
set_option maxRecDepth 100000
set_option maxHeartbeats 8000000
set_option autoImplicit false
/-! MpFn: calls: what a call leaves is dropped; every def at every level. -/
namespace Mp
open PySem PySem.Spec PyProof.Rows L2
section
variable {K : PySem.W.Frag} {w : World} {m m' ms : List Addr} {H H' : Hp} {h h' : Hd}
mutual
/-- what holds no refs does not lean on the map -/
theorem pure_rep : ∀ (d : D) (v : V), D.pure d = true → SRep K m' H d v → SRep K m H d v
  | .non, v, p, r => by simpa only [SRep] using r
  | .bl _, v, p, r => by simpa only [SRep] using r
  | .int _, v, p, r => by simpa only [SRep] using r
  | .str _, v, p, r => by simpa only [SRep] using r
  | .tup xs, v, p, r => by
    simp only [SRep] at r ⊢
    obtain ⟨a, vs, e, q, z⟩ := r
    exact ⟨a, vs, e, q, pure_reps xs vs (by simpa only [D.pure] using p) z⟩
  | .lck xs, v, p, r => by
    simp only [SRep] at r ⊢
    obtain ⟨a, vs, e, q, z⟩ := r
    exact ⟨a, vs, e, q, pure_reps xs vs (by simpa only [D.pure] using p) z⟩
  | .ref n, v, p, r => by simp [D.pure] at p
  | .tl _, _, p, r => by simp only [SRep] at r
  | .td _ _, _, p, r => by simp only [SRep] at r
  | .exn _ _, _, p, r => by simp only [SRep] at r
theorem pure_reps : ∀ (ds : List D) (vs : List V), D.pures ds = true → SReps K m' H ds vs → SReps K m H ds vs
  | [], vs, p, r => by simpa only [SReps] using r
  | d :: ds, vs, p, r => by
    simp only [D.pures, Bool.and_eq_true] at p
    simp only [SReps] at r ⊢
    obtain ⟨v, t, e, q, z⟩ := r
    exact ⟨v, t, e, pure_rep d v p.1 q, pure_reps ds t p.2 z⟩
end
mutual
/-- what was there ahead -/
theorem old_rep : ∀ (d : D) (v v0 : V), SRep K m H d v0 → SRep K (m ++ ms) H' d v → SRep K m H' d v
  | .non, v, v0, r0, r => by simpa only [SRep] using r
  | .bl _, v, v0, r0, r => by simpa only [SRep] using r
  | .int _, v, v0, r0, r => by simpa only [SRep] using r
  | .str _, v, v0, r0, r => by simpa only [SRep] using r
  | .tup xs, v, v0, r0, r => by
    simp only [SRep] at r r0 ⊢
    obtain ⟨a, vs, e, q, z⟩ := r
    obtain ⟨a0, vs0, e0, q0, z0⟩ := r0
    exact ⟨a, vs, e, q, old_reps xs vs vs0 z0 z⟩
  | .lck xs, v, v0, r0, r => by
    simp only [SRep] at r r0 ⊢
    obtain ⟨a, vs, e, q, z⟩ := r
    obtain ⟨a0, vs0, e0, q0, z0⟩ := r0
    exact ⟨a, vs, e, q, old_reps xs vs vs0 z0 z⟩
  | .ref n, v, v0, r0, r => by
    simp only [SRep] at r r0 ⊢
    obtain ⟨a, e, q⟩ := r
    obtain ⟨a0, e0, q0⟩ := r0
    refine ⟨a, ?_, q⟩
    rw [List.getElem?_append_left (List.getElem?_eq_some_iff.mp e0).1] at e
    exact e
  | .tl _, _, _, _, r => by simp only [SRep] at r
  | .td _ _, _, _, _, r => by simp only [SRep] at r
  | .exn _ _, _, _, _, r => by simp only [SRep] at r
theorem old_reps : ∀ (ds : List D) (vs vs0 : List V), SReps K m H ds vs0 → SReps K (m ++ ms) H' ds vs → SReps K m H' ds vs
  | [], vs, vs0, r0, r => by simpa only [SReps] using r
  | d :: ds, vs, vs0, r0, r => by
    simp only [SReps] at r r0 ⊢
    obtain ⟨v, t, e, q, z⟩ := r
    obtain ⟨v0, t0, e0, q0, z0⟩ := r0
    exact ⟨v, t, e, old_rep d v v0 q0 q, old_reps ds t t0 z0 z⟩
end
theorem pure_ent : ∀ (ks vs : List D) (es : List DictEntry), D.pures ks = true → D.pures vs = true → EntR K w m' H ks vs es → EntR K w m H ks vs es
  | [], vs, es, _, _, r => by simpa only [EntR] using r
  | k :: ks, vs, es, p1, p2, r => by
    simp only [EntR] at r ⊢
    obtain ⟨v, vr, e, er, e1, e2, ⟨x, x1, x2⟩, ⟨y, y1, y2⟩, hh, z⟩ := r
    subst e1
    simp only [D.pures, Bool.and_eq_true] at p1 p2
    exact ⟨v, vr, e, er, rfl, e2, ⟨x, x1, pure_rep k x p1.1 x2⟩, ⟨y, y1, pure_rep v y p2.1 y2⟩, hh, pure_ent ks vr er p1.2 p2.2 z⟩
theorem old_ent : ∀ (ks vs : List D) (es es0 : List DictEntry), EntR K w m H ks vs es0 → EntR K w (m ++ ms) H' ks vs es → EntR K w m H' ks vs es
  | [], vs, es, es0, _, r => by simpa only [EntR] using r
  | k :: ks, vs, es, es0, r0, r => by
    simp only [EntR] at r r0 ⊢
    obtain ⟨v, vr, e, er, e1, e2, ⟨x, x1, x2⟩, ⟨y, y1, y2⟩, hh, z⟩ := r
    obtain ⟨v0, vr0, e0, er0, e10, e20, ⟨x0, x10, x20⟩, ⟨y0, y10, y20⟩, _, z0⟩ := r0
    rw [e1] at e10
    cases e10
    exact ⟨v, vr, e, er, e1, e2, ⟨x, x1, old_rep k x x0 x20 x2⟩, ⟨y, y1, old_rep v y y0 y20 y2⟩, hh, old_ent ks vr er er0 z0 z⟩
theorem okT_at : ∀ {h h' : Hd}, okT h h' = true → h.length ≤ h'.length ∧ ∀ (n : Nat) (o u : Ob), h[n]? = some o → h'[n]? = some u → u.pure = true ∨ Ob.same o u = true
  | [], h', _ => ⟨Nat.zero_le _, fun n o u e => by simp at e⟩
  | o :: r, [], e => by cases e
  | o :: r, u :: s, e => by
    simp only [okT, Bool.and_eq_true, Bool.or_eq_true] at e
    obtain ⟨l, q⟩ := okT_at e.2
    refine ⟨by simpa using l, fun n a b h1 h2 => ?_⟩
    cases n with
    | zero =>
      simp only [List.getElem?_cons_zero, Option.some.injEq] at h1 h2
      subst h1 h2
      exact e.1
    | succ n => exact q n a b (by simpa using h1) (by simpa using h2)
theorem ob_same {a b : Ob} (h : Ob.same a b = true) : a = b := by
  cases a with
  | lst xs =>
    cases b with
    | lst ys => rw [sames_eq xs ys h]
    | dic _ _ => cases h
  | dic ks vs =>
    cases b with
    | lst _ => cases h
    | dic ks' vs' =>
      simp only [Ob.same, Bool.and_eq_true] at h
      rw [sames_eq _ _ h.1, sames_eq _ _ h.2]
/-- the heap that a call found, and no more -/
theorem Nx.drop (S : Sim K w m H h) (N : Nx K w m H m' h' H') (ok : okT h h' = true) : Nx K w m H m (h'.take h.length) H' := by
  obtain ⟨ms, e, f⟩ := N.pre
  obtain ⟨hl, q⟩ := okT_at ok
  refine ⟨⟨[], by simp, by simp⟩, ⟨by rw [List.length_take, S.len]; omega, S.nd, fun n u a e1 e2 => ?_⟩, N.ext⟩
  have hn : n < h.length := by rw [← S.len]; exact (List.getElem?_eq_some_iff.mp e2).1
  rw [List.getElem?_take_of_lt hn] at e1
  have e2' : m'[n]? = some a := by rw [e, List.getElem?_append_left (by rw [S.len]; exact hn)]; exact e2
  have ob := N.sim.ob n u a e1 e2'
  have o0 : h[n]? = some h[n] := List.getElem?_eq_getElem hn
  rcases q n h[n] u o0 e1 with p | p
  · cases u with
    | lst xs =>
      obtain ⟨vs, q1, q2⟩ := ob
      exact ⟨vs, q1, pure_reps xs vs p q2⟩
    | dic ks vs =>
      obtain ⟨es, q1, q2, q3, q4, q5⟩ := ob
      simp only [Ob.pure, Bool.and_eq_true] at p
      exact ⟨es, q1, q2, q3, q4, pure_ent ks vs es p.1 p.2 q5⟩
  · have p := ob_same p
    have ob0 := S.ob n h[n] a o0 e2
    rw [p] at ob0
    rw [e] at ob
    cases u with
    | lst xs =>
      obtain ⟨vs, q1, q2⟩ := ob
      obtain ⟨vs0, _, q20⟩ := ob0
      exact ⟨vs, q1, old_reps xs vs vs0 q20 q2⟩
    | dic ks vs =>
      obtain ⟨es, q1, q2, q3, q4, q5⟩ := ob
      obtain ⟨es0, _, _, _, _, q50⟩ := ob0
      exact ⟨es, q1, q2, q3, q4, old_ent ks vs es es0 q50 q5⟩
theorem fin_ok {xr : XR} {W : WX} {σ : St} {d : D} {v : V} {Q : VK} (S : Sim K w m H h) (N : Nx K w m H m' h' H') (p : Post K w xr (RepB K w) W m H σ (fin h d h') Q) (r : RepB K w H m' H' d v) : Q v H' := by
  have all : Post K w xr (RepB K w) W m H σ (.ok d h') Q → Q v H' := fun p => p v H' m' N r
  unfold fin at p
  split at p
  · exact all p
  · split at p
    · rename_i ok
      have N2 := Nx.drop S N ok
      have solid : (∀ n, d ≠ .ref n) → Post K w xr (RepB K w) W m H σ (if d.pure = true then .ok d (h'.take h.length) else .ok d h') Q → Q v H' := by
        intro hd p
        split at p
        · rename_i hp
          refine p v H' m N2 ⟨?_, r.2⟩
          have r1 := r.1
          cases d with
          | tl xs =>
            obtain ⟨a, vs, e, hm, q, z⟩ := r1
            obtain ⟨ms, em, _⟩ := N.pre
            exact ⟨a, vs, e, fun z => hm (by rw [em]; exact List.mem_append_left _ z), q, pure_reps xs vs (by simpa only [D.pure] using hp) z⟩
          | td ks vs =>
            obtain ⟨a, e, hm, es, q1, q2, q3, q4, q5⟩ := r1
            obtain ⟨ms, em, _⟩ := N.pre
            simp only [D.pure, Bool.and_eq_true] at hp
            exact ⟨a, e, fun z => hm (by rw [em]; exact List.mem_append_left _ z), es, q1, q2, q3, q4, pure_ent ks vs es hp.1 hp.2 q5⟩
          | _ => exact pure_rep (m' := m') _ v hp r1
        · exact all p
      cases d with
      | ref k =>
        simp only at p
        obtain ⟨a, ha, ev'⟩ := rep_ref r.1
        obtain ⟨ms, em, fm⟩ := N.pre
        split at p
        · rename_i hk
          have hk := Nat.blt_eq.mp hk
          refine p v H' m N2 ⟨?_, True.intro⟩
          show SRep K m H' (.ref k) v
          simp only [SRep]
          refine ⟨a, ?_, ev'⟩
          rw [em, List.getElem?_append_left (by rw [S.len]; exact hk)] at ha
          exact ha
        · rename_i hk
          have hk : h.length ≤ k := by
            have z : ¬ k < h.length := fun z => hk (Nat.blt_eq.mpr z)
            omega
          have hms : a ∈ ms := by
            rw [em, List.getElem?_append_right (by rw [S.len]; exact hk)] at ha
            exact List.mem_of_getElem? ha
          have hn : H a = none := fm a hms
          have hm : a ∉ m := fun z => by
            have nd := N.sim.nd
            rw [em] at nd
            exact (List.nodup_append.mp nd).2.2 a z a hms rfl
          cases hh : h'[k]? with
          | none => simp only [hh] at p; exact all p
          | some o =>
            have ob := N.sim.ob k o a hh ha
            cases o with
            | lst xs =>
              simp only [hh] at p
              split at p
              · rename_i hp
                obtain ⟨vs, q1, q2⟩ := ob
                exact p v H' m N2 ⟨⟨a, vs, ev', hm, q1, pure_reps xs vs hp q2⟩, fun b e => by rw [ev'] at e; cases e; exact hn⟩
              · exact all p
            | dic ks vs =>
              simp only [hh] at p
              split at p
              · rename_i hp
                simp only [Bool.and_eq_true] at hp
                obtain ⟨es, q1, q2, q3, q4, q5⟩ := ob
                exact p v H' m N2 ⟨⟨a, ev', hm, es, q1, q2, q3, q4, pure_ent ks vs es hp.1 hp.2 q5⟩, fun b e => by rw [ev'] at e; cases e; exact hn⟩
              · exact all p
      | _ => exact solid (fun n z => by cases z) p
    · exact all p
end
/-! ### defs -/
theorem reps_fun {K : PySem.W.Frag} {m : List Addr} {H : Hp} : ∀ {ds : List D} {vs : List V}, SReps K m H ds vs → ∀ (i : Nat) (d : D), (ds.map some)[i]? = some (some d) → ∃ v, vs[i]? = some v ∧ SRep K m H d v := by
  intro ds vs r i d e
  rw [List.getElem?_map] at e
  obtain ⟨d', h1, h2⟩ := Option.map_eq_some_iff.mp e
  cases h2
  exact SReps.get r h1
theorem start_ok {K : PySem.W.Frag} {m : List Addr} {H : Hp} {N : List Str} {ds : List D} {vs : List V} (r : SReps K m H ds vs) (hl : ds.length ≤ N.length) : EnvR K m H (Mp.start N.length ds) (L2.start N vs) := by
  have l := r.length
  refine ⟨?_, fun i d e => ?_⟩
  · unfold Mp.start L2.start
    simp only [List.length_append, List.length_map, List.length_replicate]
    omega
  · unfold Mp.start at e
    unfold L2.start
    by_cases hi : i < ds.length
    · rw [List.getElem?_append_left (by simpa using hi)] at e
      obtain ⟨v, h1, h2⟩ := reps_fun r i d e
      refine ⟨v, ?_, h2⟩
      rw [List.getElem?_append_left (by rw [List.length_map, ← l]; exact hi), List.getElem?_map, h1]
      rfl
    · rw [List.getElem?_append_right (by simpa using hi)] at e
      have z := List.mem_of_getElem? e
      rw [List.mem_replicate] at z
      cases z.2
/-- what a call on an empty heap leaves -/
theorem Nx.void {K : PySem.W.Frag} {w : World} {m m' : List Addr} {H H' : Hp} {h h' : Hd} (S : Sim K w m H h) (N : Nx K w [] H m' h' H') : Nx K w m H m h H' := by
  have e : ∀ a o, H a = some o → H' a = some o := fun a o q => N.ext a o (by simp) q
  have G : Grow K m H m H' := ⟨fun _ _ q => q, fun a xs q => by
    rcases q with ⟨o, q, n⟩ | q
    · exact .inl ⟨o, e a _ q, n⟩
    · exact .inr q, fun a xs q => by
    rcases q with ⟨o, q⟩ | q
    · exact .inl ⟨o, e a _ q⟩
    · exact .inr q⟩
  refine ⟨⟨[], by simp, by simp⟩, ⟨S.len, S.nd, fun n o a e1 e2 => ?_⟩, fun a o _ q => e a o q⟩
  have z := S.ob n o a e1 e2
  cases o with
  | lst xs =>
    obtain ⟨vs, z1, z2⟩ := z
    exact ⟨vs, e a _ z1, SReps.grow G xs vs z2⟩
  | dic ks vs => exact DicR.grow G (fun o q => e a o q) z
theorem RepB.void {K : PySem.W.Frag} {w : World} {m m' : List Addr} {H H' : Hp} {h : Hd} {d : D} {v : V} (S : Sim K w m H h) (hp : d.pure = true) (r : RepB K w H m' H' d v) : RepB K w H m H' d v := by
  refine ⟨?_, r.2⟩
  have r1 := r.1
  have r2 := r.2
  have out : ∀ a, H a = none → a ∉ m := fun a q z => by
    obtain ⟨o, e⟩ := S.some z
    rw [q] at e; cases e
  cases d with
  | tl xs =>
    obtain ⟨a, vs, e, hm, q, z⟩ := r1
    exact ⟨a, vs, e, out a (r2 a e), q, pure_reps xs vs (by simpa only [D.pure] using hp) z⟩
  | td ks vs =>
    obtain ⟨a, e, hm, es, q1, q2, q3, q4, q5⟩ := r1
    simp only [D.pure, Bool.and_eq_true] at hp
    exact ⟨a, e, out a (r2 a e), es, q1, q2, q3, q4, pure_ent ks vs es hp.1 hp.2 q5⟩
  | _ => exact pure_rep (m' := m') _ v hp r1
theorem Sim.nil {K : PySem.W.Frag} {w : World} {H : Hp} : Sim K w [] H [] := ⟨rfl, List.nodup_nil, fun n o a e => by simp at e⟩
/-- the reading of the i-th def at a level -/
def spOf (K : PySem.W.Frag) (w : World) (xr : XR) (P : List Fn) (tw k i : Nat) : Sp := fun vs H Q E => ∃ (m : List Addr) (h : Hd) (ds : List D), Sim K w m H h ∧ SReps K m H ds vs ∧ Post K w xr (RepB K w) (fun c d _ H => E c d H) m H [] (callF P tw k i ds h) Q
/-- the i-th def of the program, by the name x: its function object, its parameters -/
def DefAt (K : PySem.W.Frag) (mg : Str → Option Value) (G : GT) (sb : List (List Bool)) (P : List Fn) (i : Nat) (x : Str) (f : Addr) (fd : FuncData) (ps : List Str) : Prop := ∃ (nm qual : Str) (params : Arguments) (body : List Stmt) (scope : Scope) (N : List Str) (fn : Fn) (n : Nat), P[i]? = some fn ∧ FunD K nm qual params body scope [] [] f fd ∧ FnScope N ps scope ∧ mg x = some (.ref f) ∧
  (∀ us : List Value, us.length = ps.length → bindArgs fd ⟨us, []⟩ = pure (ps.zip us)) ∧ fn.ps = ps.length ∧ fn.ns = N.length ∧ cSs (cS G sb n ⟨N, scope, none⟩) body = some fn.body
def DefOk (K : PySem.W.Frag) (mg : Str → Option Value) (G : GT) (sb : List (List Bool)) (P : List Fn) (i : Nat) (x : Str) : Prop := ∃ f fd ps, DefAt K mg G sb P i x f fd ps
def ClsK (K : PySem.W.Frag) (mg : Str → Option Value) (xr : XR) (k : Nat) (x : Str) : Prop := ∃ (C : Addr) (bmB : List Value) (B newId initId : String), ExcBaseFacts B newId initId bmB ∧ PySem.W.excIn K C bmB newId = true ∧ mg x = some (.ref C) ∧ PySem.W.keepIn K (.ref C) = true ∧ PySem.W.subIn K (.ref C) (.type "BaseException") = some true ∧ PySem.W.typeIn K (.ref C) = some (.type "type") ∧ ∀ m H fs, xr m H k fs (.ref C) none
def GlbOk (K : PySem.W.Frag) (mg : Str → Option Value) (xr : XR) (P : List Fn) (G : GT) (sb : List (List Bool)) : Prop := ∀ x k, G.lookup x = some k → match k with
  | .fn i => DefOk K mg G sb P i x
  | .str s => (∃ t, mg x = some (.str ⟨s.toArray⟩ t)) ∧ okS s = true
  | .int i => ∃ t, mg x = some (.int i t)
  | .cls c => ClsK K mg xr c x
  | .blt => mg x = none
theorem all_at {Pg : Program} {w : World} {K : PySem.W.Frag} {mg : Str → Option Value} {base : Heap} {xr : XR} {P : List Fn} {G : GT} {sb : List (List Bool)} {tw : Nat} (g : GlbOk K mg xr P G sb) (sub : SubF K mg xr G sb) (xi : ∀ m m' H c fs cls od, D.pures fs = true → xr m' H c fs cls od → xr m H c fs cls od) : ∀ (k : Nat) (x : Str) (i : Nat) (f : Addr) (fd : FuncData) (ps : List Str), DefAt K mg G sb P i x f fd ps → FnOk Pg w K mg base (L2N.CX Pg w) k f fd ps (spOf K w xr P tw k i)
  | 0, x, i, f, fd, ps, e => by
    exact ⟨fun vs H Q E ⟨m, h, ds, S, r, p⟩ => p.elim, fun A outer s H args us vs Q E hr he hb hv ⟨m, h, ds, S, r, p⟩ => p.elim⟩
  | k + 1, x, i, f, fd, ps, e => by
    obtain ⟨nm, qual, params, body, scope, N, fn, n, h1, h2, h3, h4, h5, h6, h7, h8⟩ := e
    refine FunD.ok h2 h3 (fun vs H Q E ⟨m, h, ds, S, r, p⟩ => ?_) (fun cdv A outer s H vs Q E hr ⟨m, h, ds, S, r, p⟩ => ?_)
    · simp only [callF, h1] at p
      split at p
      · rename_i hl
        rw [← r.length, hl, h6]
      · exact p.elim
    · simp only [callF, h1] at p
      split at p
      · rename_i hl
        have hsub : ps.length ≤ N.length := by
          have := congrArg List.length h3.pre
          rw [List.length_take] at this
          omega
        have back : ∀ (m : List Addr) (h : Hd), Sim K w m H h → SReps K m H ds vs → Post K w xr (RepB K w) (fun c d _ H => E c d H) m H [] (runB (callF P tw k) tw fn ds h) Q →
            tS (callF P tw k) tw (cxOf (L2N.CX Pg w) Pg w K mg base N qual scope f cdv A outer s H E) xr (fun c d _ H => E c d H) fn.body { nx := fun _ H' => Q .non H', rt := Q } (L2.start N vs) H := by
          intro m h S r p
          refine ⟨m, Mp.start fn.ns ds, h, ?_, S, ?_⟩
          · rw [h7]
            exact start_ok r (by rw [hl, h6]; exact hsub)
          · unfold runB at p
            cases ex' : ex (callF P tw k) tw fn.body (Mp.start fn.ns ds) h with
            | no => rw [ex'] at p; exact p.elim
            | ex c fs h' => rw [ex'] at p; exact fun cls od σ' H' m' _ N q => p cls od H' m' N q
            | ok q h' =>
              rw [ex'] at p
              obtain ⟨fl, env'⟩ := q
              simp only [R.bind] at p
              intro σ' H' m' _ N' eR'
              cases fl with
              | nx => exact fin_ok S N' p mk_non
              | bk => exact p.elim
              | ct => exact p.elim
              | rt d => exact fun v rv => fin_ok S N' p rv
        refine ⟨tS (callF P tw k) tw (cxOf (L2N.CX Pg w) Pg w K mg base N qual scope f cdv A outer s H E) xr (fun c d _ H => E c d H) fn.body, cSs_ok (fun st A' q => cS_ok (c := ⟨N, scope, none⟩) n _ _ st A' ?_ q) body fn.body h8, ?_⟩
        · refine { calm := rfl, un := ?_, nd := h3.nd, eN := rfl, eS := rfl, fn := fun _ _ => rfl, tk := L2N.takes_of rfl rfl rfl rfl, g := ?_, kd := h3.kind, own := passes_of rfl, hs := rfl, hf := rfl, sub := sub }
          · have := hr.un
            show (A.deeper (envOfC qual scope s.heap.objs.size f cdv)).units + 65 < cLine
            omega
          · intro y ky ey
            have gy := g y ky ey
            cases ky with
            | fn j =>
              obtain ⟨fj, fdj, psj, dj⟩ := gy
              have F1 := all_at (Pg := Pg) (w := w) (base := base) (tw := tw) g sub xi k y j fj fdj psj dj
              obtain ⟨_, _, _, _, _, _, _, _, _, j2, _, j4, j5, _⟩ := dj
              exact ⟨k, fj, fdj, psj, _, F1, hr, j4, j2.kp, Binds.all j5, fun m h H ds vs Q E S r p => ⟨m, h, ds, S, r, p⟩⟩
            | str s => exact gy
            | int j => exact gy
            | cls c =>
              obtain ⟨C, bmB, B, newId, initId, c1, c2, c3, c4, c5, c6, c7⟩ := gy
              exact ⟨C, bmB, B, newId, initId, c1, c2, c3, c4, raises_own c5 c6, c7⟩
            | blt => exact gy
        · split at p
          · rename_i hpu
            have r0 : SReps K [] H ds vs := pure_reps ds vs hpu r
            split at p
            · rename_i d e0
              split at p
              · rename_i hd
                refine back [] [] Sim.nil r0 ?_
                rw [e0]
                exact fun v H' m' N' rv => p v H' m (Nx.void S N') (RepB.void S hd rv)
              · exact back m h S r p
            · rename_i c fs h0 e0
              split at p
              · rename_i hd
                refine back [] [] Sim.nil r0 ?_
                rw [e0]
                exact fun cls od H' m' N' q => p cls od H' m (Nx.void S N') (xi _ _ _ _ _ _ _ hd q)
              · exact back m h S r p
            · exact back m h S r p
          · exact back m h S r p
      · exact p.elim
end Mp
end
section
set_option Elab.async false
set_option linter.all false
set_option maxRecDepth 100000
set_option maxHeartbeats 4000000
set_option autoImplicit false
/-! MpHead: a small program's facts, out of what the head tells. -/
namespace Mp
open PySem PySem.Spec PyProof.Rows L2
/-- the end, where what may be let out hangs on the world -/
theorem walk_w {l : PySem.W.OpenLaw} {n k : Nat} {q : Program} {loose : List Str}
    {XP : (Str → Option Value) → Heap → Prop} {YP : World → Heap → Prop} {d : DefRec} {CW : World → CXT} {x : Str}
    (few : l.most = some n) (low : n ≤ sizeLine) (noDf : d.params.defaults = []) (room : Room k callerA)
    (F : ∀ (w : World) (mg : Str → Option Value) (f : Addr) (h : Heap), YP w h → h.Ns mainGlobals mg → mg d.name = some (.ref f) → ∃ (K : PySem.W.Frag) (fd : FuncData) (sp : Sp), K.In h ∧ (∀ s u, BindsTo s fd ⟨[u], []⟩ [(x, u)]) ∧
        (∀ (H : Hp) (a : Addr) (ns : List Int), Only H → SqL K H a (ns.map V.int) → ns.length ≤ n → sp [.ref a] H (fun v _ => v = .bl true) (fun _ _ _ => False)) ∧
        ∀ base : Heap, K.In base → base.Ns mainGlobals mg → FnOk l.prog w K mg base (CW w) k f fd [x] sp)
    (calm : ∀ w H s e s', CW w [] H s (fun _ _ _ => False) e s' → False) : PySem.W.WalkO q loose XP YP l.row.toRowW d [] (fun f vs => PySem.call f vs) := by
  apply Att.attach_call few noDf
  intro w _ s₁ mg mb f o pm cd doc a vs ns G Y _ _ _ hmg at_ are len gs
  have ⟨K, fd, sp, kin, hb, hs, hf⟩ := F w mg f _ Y G.T.g hmg
  refine law_call (x := x) (sp := sp) kin G.T.g G.T.b G.T.builtins G.T.nolimit gs at_ are (Nat.le_trans len low) room hf hb ?_ ?_
  · exact fun H oH sq => hs H a ns oH sq len
  · exact fun H e s' z => calm w H s₁ e s' z
/-- a def: its name, its statement, its names, its parameters -/
structure Df where
  x : Str
  st : Stmt
  N : List Str
  ps : List Str
def Df.d (d : Df) : He.DefD := ⟨(d.x, none), d.x, d.x, defArgs d.st, defBody d.st, defScope d.st, [], []⟩
structure DfOk (G : GT) (sb : List (List Bool)) (d : Df) (fn : Fn) : Prop where
  sc : FnScope d.N d.ps (defScope d.st)
  bd : ∀ (kV doc pm : Value) (an : Option Addr) (cdv ct : Value) (us : List Value), us.length = d.ps.length → bindArgs (PySem.W.fnOf d.x d.x (defArgs d.st) (defBody d.st) (defScope d.st) .none kV doc pm an cdv ct) ⟨us, []⟩ = pure (d.ps.zip us)
  np : fn.ps = d.ps.length
  nn : fn.ns = d.N.length
  cb : cSs (cS G sb 40 ⟨d.N, defScope d.st, none⟩) (defBody d.st) = some fn.body
def AllDf (G : GT) (sb : List (List Bool)) : List Df → List Fn → Prop
  | [], [] => True
  | d :: ds, f :: fs => DfOk G sb d f ∧ AllDf G sb ds fs
  | _, _ => False
theorem AllDf.at {G : GT} {sb : List (List Bool)} : ∀ {ds : List Df} {fs : List Fn}, AllDf G sb ds fs → ∀ {i : Nat} {d : Df}, ds[i]? = some d → ∃ f, fs[i]? = some f ∧ DfOk G sb d f
  | [], _, _, i, d, e => by simp at e
  | _ :: _, [], h, i, d, e => h.elim
  | d0 :: ds, f0 :: fs, h, i, d, e => by
    cases i with
    | zero => simp only [List.getElem?_cons_zero, Option.some.injEq] at e; subst e; exact ⟨f0, by simp, h.1⟩
    | succ i => simp only [List.getElem?_cons_succ] at e ⊢; exact h.2.at e
/-- what is asked of the head -/
def faK (x : Str) : Gk → List He.Fa
  | .fn _ => [.glo x]
  | .str s => [.str x ⟨s.toArray⟩]
  | .int i => [.int x i]
  | .cls _ => [.glo x, .exc x]
  | .blt => [.free x]
def faOf (G : GT) : List He.Fa := G.flatMap fun q => faK q.1 q.2
/-- the table's entries are of this program -/
def okG (dfs : List Df) (cn : List Str) (G : GT) : Bool := G.all fun q => match q.2 with
  | .fn i => (match dfs[i]? with
    | some d => d.x == q.1
    | none => false)
  | .str s => okS s
  | .cls c => cn[c]? == some q.1
  | _ => true
def CAd (K : PySem.W.Frag) (cn : List Str) (k : Nat) : Addr := He.ga K (cn.getD k "")
def excB (K : PySem.W.Frag) (D : Addr) : Bool := He.eqO (PySem.W.findIn K (.ref D) "__getattribute__") (some (some (.builtin "BaseException.__getattribute__"))) && (He.eqO (PySem.W.findIn K (.ref D) "__getattr__") (some none) && (decide (PySem.W.subIn K (.ref D) (.type "BaseException") = some true) && (PySem.W.hasDictIn K D &&
  (He.eqO (PySem.W.findIn K (.ref D) "__class__") (some (some (.builtin "object.__class__"))) && (He.eqO (PySem.W.specialIn K (.builtin "object.__class__") "__get__") (some (some (.builtin "getset_descriptor.__get__"))) && (decide (PySem.W.takesIn K (.builtin "object.__class__") = some true) && decide (PySem.W.mroIn K D (.type "object") = some true)))))))
theorem excB_ok {K : PySem.W.Frag} {D : Addr} (h : excB K D = true) : ExcC K D := by
  unfold excB at h
  simp only [Bool.and_eq_true, decide_eq_true_eq] at h
  obtain ⟨h1, h2, h3, h4, h5, h6, h7, h8⟩ := h
  exact ⟨He.eqO_ok h1, He.eqO_ok h2, h3, h4, He.eqO_ok h5, He.eqO_ok h6, h7, h8⟩
def subB (cn : List Str) (sb : List (List Bool)) (K : PySem.W.Frag) : Bool := (List.range sb.length).all fun k => (List.range (sb.getD k []).length).all fun j => match sbAt sb k j with
  | some b => decide (PySem.W.exmOne K (.ref (CAd K cn k)) (.ref (CAd K cn j)) = some b) && (decide (PySem.W.kitOne K (.ref (CAd K cn k)) (.ref (CAd K cn j)) = some b) && excB K (CAd K cn k))
  | none => true
theorem subB_ok {cn : List Str} {sb : List (List Bool)} {K : PySem.W.Frag} (h : subB cn sb K = true) {k j : Nat} {b : Bool} (e : sbAt sb k j = some b) :
    PySem.W.exmOne K (.ref (CAd K cn k)) (.ref (CAd K cn j)) = some b ∧ PySem.W.kitOne K (.ref (CAd K cn k)) (.ref (CAd K cn j)) = some b ∧ ExcC K (CAd K cn k) := by
  have e' := e
  unfold sbAt at e'
  obtain ⟨r, r1, r2⟩ := Option.bind_eq_some_iff.mp e'
  obtain ⟨hk, r1'⟩ := List.getElem?_eq_some_iff.mp r1
  obtain ⟨hj, _⟩ := List.getElem?_eq_some_iff.mp r2
  unfold subB at h
  have h1 := List.all_eq_true.mp h k (List.mem_range.mpr hk)
  have h2 := List.all_eq_true.mp h1 j (List.mem_range.mpr (by rw [List.getD_eq_getElem?_getD, r1]; exact hj))
  rw [e] at h2
  simp only [Bool.and_eq_true, decide_eq_true_eq] at h2
  exact ⟨h2.1, h2.2.1, excB_ok h2.2.2⟩
/-- errors as the program makes them -/
def xrOf (K : PySem.W.Frag) (cn : List Str) : XR := fun _ _ k _ cls od => cls = .ref (CAd K cn k) ∧ od = none
theorem look_in {G : GT} {x : Str} {k : Gk} : ∀ {G : GT}, G.lookup x = some k → (x, k) ∈ G
  | [], e => by cases e
  | (y, q) :: r, e => by
    rw [List.lookup_cons] at e
    cases z : x == y with
    | true => rw [z] at e; simp only [Option.some.injEq] at e; subst e; rw [eq_of_beq z]; exact List.mem_cons_self
    | false => rw [z] at e; exact List.mem_cons_of_mem _ (look_in (G := r) e)
theorem bd_of {K : PySem.W.Frag} {x qual : Str} {params : Arguments} {body : List Stmt} {scope : Scope} {f : Addr} {fd : FuncData} {ps : List Str} (F : FunD K x qual params body scope [] [] f fd)
    (h : ∀ (kV doc pm : Value) (an : Option Addr) (cdv ct : Value) (us : List Value), us.length = ps.length → bindArgs (PySem.W.fnOf x qual params body scope .none kV doc pm an cdv ct) ⟨us, []⟩ = pure (ps.zip us)) (us : List Value) (hl : us.length = ps.length) : bindArgs fd ⟨us, []⟩ = pure (ps.zip us) := by
  obtain ⟨_, _, _, kV, doc, pm, an, cdv, ct, _, e, _, _, hD, _⟩ := F.ex
  subst e
  rcases hD with ⟨_, e⟩ | ⟨e, _⟩
  · subst e
    exact h kV doc pm an cdv ct us hl
  · exact (e rfl).elim
section
variable {K : PySem.W.Frag} {h : Heap} {mg : Str → Option Value} {w : World} {G : GT} {sb : List (List Bool)} {dfs : List Df} {P : List Fn} {cn : List Str} {fd : List He.DefD}
/-- a def by its place -/
theorem def_at (X : K.In h) (N : h.Ns mainGlobals mg) (c : He.SaysX (faOf G) (dfs.map Df.d) [] [] (subB cn sb) w h K) (ad : AllDf G sb dfs P) {i : Nat} {d : Df} (hd : dfs[i]? = some d) (hg : (d.x, Gk.fn i) ∈ G) : ∃ fd, FunD K d.x d.x (defArgs d.st) (defBody d.st) (defScope d.st) [] [] (He.ga K d.x) fd ∧ DefAt K mg G sb P i d.x (He.ga K d.x) fd d.ps := by
  obtain ⟨fn, p1, p2⟩ := ad.at hd
  obtain ⟨fd, F⟩ := He.SaysD.defs c.t.d (d := d.d) (List.mem_map.mpr ⟨d, List.mem_of_getElem? hd, rfl⟩)
  have f1 : (He.Fa.glo d.x).ok K = true := He.SaysD.facts c.t.d (List.mem_flatMap.mpr ⟨(d.x, .fn i), hg, by simp [faK]⟩)
  exact ⟨fd, F, d.x, d.x, defArgs d.st, defBody d.st, defScope d.st, d.N, fn, 40, p1, F, p2.sc, He.glo_ok X N f1, bd_of F p2.bd, p2.np, p2.nn, p2.cb⟩
theorem glb_of (X : K.In h) (N : h.Ns mainGlobals mg) (c : He.SaysX (faOf G) (dfs.map Df.d) [] [] (subB cn sb) w h K) (og : okG dfs cn G = true) (ad : AllDf G sb dfs P) : GlbOk K mg (xrOf K cn) P G sb ∧ SubF K mg (xrOf K cn) G sb := by
  have fc : ∀ {x : Str} {k : Gk} {f : He.Fa}, G.lookup x = some k → f ∈ faK x k → f.ok K = true := fun {x k f} e m =>
    He.SaysD.facts c.t.d (List.mem_flatMap.mpr ⟨(x, k), look_in (G := G) e, m⟩)
  have gc : ∀ {x k}, G.lookup x = some (.cls k) → cn[k]? = some x := fun {x k} e => by
    have z := List.all_eq_true.mp og _ (look_in (G := G) e)
    exact eq_of_beq z
  have ca : ∀ {x k}, cn[k]? = some x → CAd K cn k = He.ga K x := fun {x k} e => by unfold CAd; rw [List.getD_eq_getElem?_getD, e]; rfl
  refine ⟨fun x k e => ?_, CAd K cn, fun k m H fs cls od q => q, fun x k e => ?_, fun k j b e => subB_ok c.more e⟩
  · cases k with
    | fn i =>
      have z := List.all_eq_true.mp og _ (look_in (G := G) e)
      simp only at z
      split at z
      · rename_i d hd
        have ex := eq_of_beq z
        subst ex
        obtain ⟨fn, p1, p2⟩ := ad.at hd
        obtain ⟨fd, F⟩ := He.SaysD.defs c.t.d (d := d.d) (List.mem_map.mpr ⟨d, List.mem_of_getElem? hd, rfl⟩)
        exact ⟨He.ga K d.x, fd, d.ps, d.x, d.x, defArgs d.st, defBody d.st, defScope d.st, d.N, fn, 40, p1, F, p2.sc, He.glo_ok X N (fc e (by simp [faK])), bd_of F p2.bd, p2.np, p2.nn, p2.cb⟩
      · cases z
    | str s =>
      have z := List.all_eq_true.mp og _ (look_in (G := G) e)
      exact ⟨He.str_ok X N (fc e (by simp [faK])), z⟩
    | int i => exact He.int_ok X N (fc e (by simp [faK]))
    | cls k =>
      have e1 := gc e
      have f1 := He.glo_ok X N (fc e (f := .glo x) (by simp [faK]))
      obtain ⟨h1, h2, h3, h4⟩ := He.exc_ok (fc e (f := .exc x) (by simp [faK]))
      exact ⟨He.ga K x, _, _, _, _, PySem.F.excBase_ValueError, h1, f1, h2, h3, h4, fun m H fs => ⟨by rw [ca e1], rfl⟩⟩
    | blt => exact He.free_ok X N (fc e (by simp [faK]))
  · rw [He.glo_ok X N (fc e (f := .glo x) (by simp [faK])), ca (gc e)]
end
end Mp
end
section
set_option Elab.async false
set_option linter.all false
set_option maxRecDepth 100000
set_option maxHeartbeats 4000000
set_option autoImplicit false
/-! MpPl: plain lemmas of the small Python: calls, loops. -/
namespace Mp
/-! ### calls -/
theorem fin_same {h0 h : Hd} {d : D} (e : h.length = h0.length) : fin h0 d h = .ok d h := by
  unfold fin
  rw [e, Nat.ble_self_eq_true]
  rfl
theorem okT_refl : ∀ {h h' s : Hd}, h'.length = h.length → (∀ (n : Nat) (o u : Ob), h[n]? = some o → h'[n]? = some u → u.pure = true ∨ Ob.same o u = true) → okT h (h' ++ s) = true
  | [], h', s, _, _ => rfl
  | o :: r, [], s, e, _ => by simp at e
  | o :: r, u :: t, s, e, q => by
    simp only [List.cons_append, okT, Bool.and_eq_true, Bool.or_eq_true]
    exact ⟨q 0 o u rfl rfl, okT_refl (by simpa using e) fun n o u a b => q (n + 1) o u a b⟩
mutual
theorem same_refl : ∀ d : D, D.same d d = true
  | .non => rfl
  | .bl b => by simp [D.same]
  | .int i => by simp [D.same]
  | .str s => by simp only [D.same]; exact lnat_refl s
  | .tup xs => by simp only [D.same]; exact sames_refl xs
  | .lck xs => by simp only [D.same]; exact sames_refl xs
  | .ref n => by simp [D.same]
  | .tl xs => by simp only [D.same]; exact sames_refl xs
  | .td ks vs => by simp only [D.same, Bool.and_eq_true]; exact ⟨sames_refl ks, sames_refl vs⟩
  | .exn c fs => by simp only [D.same, Bool.and_eq_true]; exact ⟨by simp, sames_refl fs⟩
theorem sames_refl : ∀ ds : List D, D.sames ds ds = true
  | [] => rfl
  | d :: ds => by simp only [D.sames, Bool.and_eq_true]; exact ⟨same_refl d, sames_refl ds⟩
theorem lnat_refl : ∀ s : List Nat, lnat s s = true
  | [] => rfl
  | c :: s => by simp only [lnat, Bool.and_eq_true]; exact ⟨by simp, lnat_refl s⟩
end
theorem obsame_refl (o : Ob) : Ob.same o o = true := by
  cases o with
  | lst xs => exact sames_refl xs
  | dic ks vs => simp only [Ob.same, Bool.and_eq_true]; exact ⟨sames_refl ks, sames_refl vs⟩
/-- what was made in a call is dropped -/
theorem fin_drop {h0 h' s : Hd} {d : D} (l : h'.length = h0.length) (hs : s ≠ []) (q : ∀ (n : Nat) (o u : Ob), h0[n]? = some o → h'[n]? = some u → u.pure = true ∨ Ob.same o u = true) (hd : d.pure = true) : fin h0 d (h' ++ s) = .ok d h' := by
  unfold fin
  have e : Nat.ble (h' ++ s).length h0.length = false := by
    cases z : Nat.ble (h' ++ s).length h0.length with
    | false => rfl
    | true =>
      have := Nat.le_of_ble_eq_true z
      rw [List.length_append, l] at this
      have : s.length = 0 := by omega
      exact (hs (List.length_eq_zero_iff.mp this)).elim
  rw [e, okT_refl l q]
  have t : (h' ++ s).take h0.length = h' := by rw [← l]; simp
  cases d with
  | ref n => cases hd
  | _ => simp only [hd, if_true, t]; rfl
/-- a call that is handed refs -/
theorem callF_im {P : List Fn} {w k f : Nat} {ds : List D} {h : Hd} {fn : Fn} (e : P[f]? = some fn) (l : ds.length = fn.ps) (i : D.pures ds = false) : callF P w (k + 1) f ds h = runB (callF P w k) w fn ds h := by
  simp only [callF, e, l, i]
  simp
/-- a call that is handed none -/
theorem callF_pu {P : List Fn} {w k f : Nat} {ds : List D} {h : Hd} {fn : Fn} {d : D} (e : P[f]? = some fn) (l : ds.length = fn.ps) (i : D.pures ds = true) (r : runB (callF P w k) w fn ds [] = .ok d []) (hd : d.pure = true) : callF P w (k + 1) f ds h = .ok d h := by
  simp only [callF, e, l, i, r, hd]
  simp
/-- the heap does not matter -/
theorem callF_at {P : List Fn} {w k f : Nat} {ds : List D} {d : D} (i : D.pures ds = true) (hd : d.pure = true) (r : callF P w k f ds [] = .ok d []) (h : Hd) : callF P w k f ds h = .ok d h := by
  cases k with
  | zero => cases r
  | succ k =>
    simp only [callF] at r ⊢
    cases e : P[f]? with
    | none => rw [e] at r; cases r
    | some fn =>
      rw [e] at r
      simp only at r ⊢
      by_cases l : ds.length = fn.ps
      · rw [if_pos l] at r ⊢
        rw [if_pos i] at r ⊢
        cases z : runB (callF P w k) w fn ds [] with
        | no => rw [z] at r; cases r
        | ex c fs h1 =>
          rw [z] at r
          simp only at r
          split at r <;> cases r
        | ok d1 h1 =>
          rw [z] at r
          cases h1 with
          | nil =>
            simp only at r ⊢
            split at r
            · cases r; rename_i q; rw [if_pos q]
            · cases r; rename_i q; exact (q hd).elim
          | cons a b => simp at r
      · rw [if_neg l] at r; cases r
theorem callF_ex {P : List Fn} {w k f : Nat} {ds : List D} {c : Nat} {fs : List D} (i : D.pures ds = true) (hd : D.pures fs = true) (r : callF P w k f ds [] = .ex c fs []) (h : Hd) : callF P w k f ds h = .ex c fs h := by
  cases k with
  | zero => cases r
  | succ k =>
    simp only [callF] at r ⊢
    cases e : P[f]? with
    | none => rw [e] at r; cases r
    | some fn =>
      rw [e] at r
      simp only at r ⊢
      by_cases l : ds.length = fn.ps
      · rw [if_pos l] at r ⊢
        rw [if_pos i] at r ⊢
        cases z : runB (callF P w k) w fn ds [] with
        | no => rw [z] at r; cases r
        | ok d1 h1 =>
          rw [z] at r
          cases h1 with
          | nil =>
            simp only at r
            split at r <;> cases r
          | cons a b => simp at r
        | ex c1 fs1 h1 =>
          rw [z] at r
          simp only at r ⊢
          split at r
          · cases r; rename_i q; rw [if_pos q]
          · cases r; rename_i q; exact (q hd).elim
      · rw [if_neg l] at r; cases r
/-! ### loops -/
theorem forL_inv {t : Tg} {body : Env → Hd → R (Fl × Env)} {gs : Gs} (J : List D → Env → Hd → Prop)
    (step : ∀ x xs env h, J (x :: xs) env h → gOk h gs = true ∧ ∃ env1, asgT t x env = some env1 ∧ ∃ f env2 h2, body env1 h = .ok (f, env2) h2 ∧ (f = .nx ∨ f = .ct) ∧ J xs env2 h2) (done : ∀ env h, J [] env h → gOk h gs = true) :
    ∀ (xs : List D) (env : Env) (h : Hd), J xs env h → ∃ env' h', forL t body gs xs env h = .ok (.nx, env') h' ∧ J [] env' h'
  | [], env, h, j => ⟨env, h, by simp only [forL, done env h j, if_true], j⟩
  | x :: xs, env, h, j => by
    obtain ⟨g, env1, e1, f, env2, h2, e2, e3, j2⟩ := step x xs env h j
    obtain ⟨env', h', e4, j4⟩ := forL_inv J step done xs env2 h2 j2
    refine ⟨env', h', ?_, j4⟩
    simp only [forL, g, if_true, e1, e2, R.bind]
    rcases e3 with e3 | e3 <;> (subst e3; exact e4)
theorem lcL_inv {t : Tg} {c : Env → Hd → R Bool} {e : Env → Hd → R D} {env : Env} {gs : Gs} (J : List D → List D → Hd → Prop)
    (step : ∀ x xs acc h, J (x :: xs) acc h → gOk h gs = true ∧ acc.length < lim ∧ ∃ env1, asgT t x env = some env1 ∧ ((∃ h1, c env1 h = .ok false h1 ∧ J xs acc h1) ∨ ∃ h1 d h2, c env1 h = .ok true h1 ∧ e env1 h1 = .ok d h2 ∧ J xs (acc ++ [(reg h2 d).1]) (reg h2 d).2))
    (done : ∀ acc h, J [] acc h → gOk h gs = true) : ∀ (xs : List D) (h : Hd) (acc : List D), J xs acc h → ∃ ys h', lcL t c e env gs xs h acc = .ok ys h' ∧ J [] ys h'
  | [], h, acc, j => ⟨acc, h, by simp only [lcL, done acc h j, if_true], j⟩
  | x :: xs, h, acc, j => by
    obtain ⟨g, l, env1, e1, z⟩ := step x xs acc h j
    rcases z with ⟨h1, e2, j2⟩ | ⟨h1, d, h2, e2, e3, j2⟩
    · obtain ⟨ys, h', e4, j4⟩ := lcL_inv J step done xs h1 acc j2
      refine ⟨ys, h', ?_, j4⟩
      simp only [lcL, g, l, e1, e2, R.bindN, decide_true, Bool.and_self, if_true]
      exact e4
    · obtain ⟨ys, h', e4, j4⟩ := lcL_inv J step done xs _ _ j2
      refine ⟨ys, h', ?_, j4⟩
      simp only [lcL, g, l, e1, e2, e3, R.bindN, decide_true, Bool.and_self, if_true]
      exact e4
/-- a comprehension that keeps the heap: each item is kept (f) or left out -/
theorem lcL_map {t : Tg} {c : Env → Hd → R Bool} {e : Env → Hd → R D} {env : Env} {gs : Gs} {h : Hd} (p : D → Bool) (f : D → D) (g : gOk h gs = true)
    (xs : List D) (step : ∀ x ∈ xs, ∃ env1, asgT t x env = some env1 ∧ c env1 h = .ok (p x) h ∧ (p x = true → e env1 h = .ok (f x) h ∧ reg h (f x) = (f x, h))) (acc : List D) (l : acc.length + xs.length ≤ lim) :
    lcL t c e env gs xs h acc = .ok (acc ++ (xs.filter p).map f) h := by
  induction xs generalizing acc with
  | nil => simp only [lcL, g, if_true, List.filter_nil, List.map_nil, List.append_nil]
  | cons x xs ih =>
    obtain ⟨env1, e1, e2, e3⟩ := step x List.mem_cons_self
    have l' : acc.length < lim := by simp only [List.length_cons] at l; omega
    simp only [lcL, g, l', e1, e2, R.bindN, decide_true, Bool.and_self, if_true]
    cases q : p x with
    | false =>
      simp only [List.filter_cons, q]
      exact ih (fun y hy => step y (List.mem_cons_of_mem _ hy)) acc (by simp only [List.length_cons] at l; omega)
    | true =>
      obtain ⟨e4, e5⟩ := e3 q
      simp only [e4, e5, List.filter_cons, q, if_true, List.map_cons]
      rw [ih (fun y hy => step y (List.mem_cons_of_mem _ hy)) (acc ++ [f x]) (by simp only [List.length_cons, List.length_append, List.length_nil] at l ⊢; omega)]
      simp
theorem whL_inv {c : Env → Hd → R Bool} {body : Env → Hd → R (Fl × Env)} (J : Nat → Env → Hd → Prop) (Q : Env → Hd → Prop)
    (step : ∀ n env h, J n env h → (∃ h1, c env h = .ok false h1 ∧ Q env h1) ∨ ∃ m h1 f env2 h2, n = m + 1 ∧ c env h = .ok true h1 ∧ body env h1 = .ok (f, env2) h2 ∧ (f = .nx ∨ f = .ct) ∧ J m env2 h2) :
    ∀ (w n : Nat) (env : Env) (h : Hd), J n env h → n < w → ∃ env' h', whL c body w env h = .ok (.nx, env') h' ∧ Q env' h'
  | 0, n, env, h, j, l => absurd l (Nat.not_lt_zero n)
  | w + 1, n, env, h, j, l => by
    rcases step n env h j with ⟨h1, e1, q⟩ | ⟨m, h1, f, env2, h2, e0, e1, e2, e3, j2⟩
    · exact ⟨env, h1, by simp only [whL, e1, R.bind, Bool.false_eq_true, if_false], q⟩
    · obtain ⟨env', h', e4, q⟩ := whL_inv J Q step w m env2 h2 j2 (by omega)
      refine ⟨env', h', ?_, q⟩
      simp only [whL, e1, R.bind, if_true, e2]
      rcases e3 with e3 | e3 <;> (subst e3; exact e4)
end Mp
end
section
set_option Elab.async false
set_option linter.all false
set_option maxRecDepth 100000
set_option maxHeartbeats 4000000
set_option autoImplicit false
/-! MpEv: the small Python's steps as rewritings. -/
namespace Mp
section
variable {α β : Type} {h : Hd} {n : Nat} {xs ys : List D} {k i j : Int} {b c : Bool} {d x y : D} {s t : List Nat}
@[simp] theorem z_bind_ok {a : α} {f : α → Hd → R β} : R.bind (.ok a h) f = f a h := rfl
@[simp] theorem z_bind_ex {c : Nat} {fs : List D} {f : α → Hd → R β} : R.bind (.ex c fs h) f = .ex c fs h := rfl
@[simp] theorem z_bind_no {f : α → Hd → R β} : R.bind .no f = .no := rfl
@[simp] theorem z_bindN_ok {a : α} {f : α → Hd → R β} : R.bindN (.ok a h) f = f a h := rfl
@[simp] theorem z_get_some {a : α} : R.get (some a) h = .ok a h := rfl
@[simp] theorem z_reg_non : reg h .non = (.non, h) := rfl
@[simp] theorem z_reg_bl : reg h (.bl b) = (.bl b, h) := rfl
@[simp] theorem z_reg_int : reg h (.int i) = (.int i, h) := rfl
@[simp] theorem z_reg_str : reg h (.str s) = (.str s, h) := rfl
@[simp] theorem z_reg_tup : reg h (.tup xs) = (.tup xs, h) := rfl
@[simp] theorem z_reg_ref : reg h (.ref n) = (.ref n, h) := rfl
@[simp] theorem z_reg_lck : reg h (.lck xs) = (.lck xs, h) := rfl
@[simp] theorem z_reg_tl : reg h (.tl xs) = (.ref h.length, h ++ [.lst xs]) := rfl
@[simp] theorem z_reg_td : reg h (.td xs ys) = (.ref h.length, h ++ [.dic xs ys]) := rfl
@[simp] theorem z_truth_non : truth h .non = some false := rfl
@[simp] theorem z_truth_bl : truth h (.bl b) = some b := rfl
@[simp] theorem z_truth_int : truth h (.int i) = some (decide (i ≠ 0)) := rfl
@[simp] theorem z_truth_tup : truth h (.tup xs) = some (!xs.isEmpty) := rfl
@[simp] theorem z_truth_tl : truth h (.tl xs) = some (!xs.isEmpty) := rfl
@[simp] theorem z_truth_lck : truth h (.lck xs) = some (!xs.isEmpty) := rfl
theorem z_truth_ref (e : h[n]? = some (.lst xs)) : truth h (.ref n) = some (!xs.isEmpty) := by simp only [truth, e]
@[simp] theorem z_bif_int : bifO h .int (.int i) = .ok (.int i) h := rfl
@[simp] theorem z_bif_intb : bifO h .int (.bl b) = .ok (.int (b2i b)) h := rfl
@[simp] theorem z_bif_abs : bifO h .abs (.int i) = .ok (.int (if i < 0 then -i else i)) h := rfl
@[simp] theorem z_bif_lent : bifO h .len (.tup xs) = .ok (.int xs.length) h := rfl
@[simp] theorem z_bif_lenl : bifO h .len (.tl xs) = .ok (.int xs.length) h := rfl
@[simp] theorem z_bif_lenk : bifO h .len (.lck xs) = .ok (.int xs.length) h := rfl
theorem z_bif_lenr (e : h[n]? = some (.lst xs)) : bifO h .len (.ref n) = .ok (.int xs.length) h := by simp only [bifO, seqOf, e]
theorem z_bif_lend (e : h[n]? = some (.dic xs ys)) : bifO h .len (.ref n) = .ok (.int xs.length) h := by simp only [bifO, seqOf, dicOf, e]
@[simp] theorem z_bif_list : bifO h .list (.tup xs) = .ok (.tl xs) h := rfl
theorem z_bif_listr (e : h[n]? = some (.lst xs)) : bifO h .list (.ref n) = .ok (.tl xs) h := by simp only [bifO, seqOf, e]
@[simp] theorem z_bif_tup : bifO h .tuple (.tl xs) = .ok (.tup xs) h := rfl
theorem z_bif_tupr (e : h[n]? = some (.lst xs)) : bifO h .tuple (.ref n) = .ok (.tup xs) h := by simp only [bifO, seqOf, e]
@[simp] theorem z_bin_add : binO h .add (.int i) (.int j) = .ok (.int (i + j)) h := rfl
@[simp] theorem z_bin_sub : binO h .sub (.int i) (.int j) = .ok (.int (i - j)) h := rfl
theorem z_bin_mul (e : (small64 i || small64 j) = true) : binO h .mul (.int i) (.int j) = .ok (.int (i * j)) h := by simp only [binO, e, if_true]
theorem z_bin_mod (e : j ≠ 0) : binO h .mod (.int i) (.int j) = .ok (.int (i.fmod j)) h := by simp only [binO]; rw [if_pos e]
theorem z_bin_fdv (e : j ≠ 0 ∧ j.natAbs < 1073741824) : binO h .fdv (.int i) (.int j) = .ok (.int (i.fdiv j)) h := by simp only [binO]; rw [if_pos e]
theorem z_bin_pow (e : 0 ≤ j ∧ j ≤ 1000000 ∧ i.natAbs < pow2) : binO h .pow (.int i) (.int j) = .ok (.int (i ^ j.toNat)) h := by simp only [binO]; rw [if_pos e]
theorem z_bin_addt (e : xs.length + ys.length ≤ lim) : binO h .add (.tup xs) (.tup ys) = .ok (.tup (xs ++ ys)) h := by simp only [binO]; rw [if_pos e]
theorem z_bin_adds (e : s.length + t.length ≤ lim) : binO h .add (.str s) (.str t) = .ok (.str (s ++ t)) h := by simp only [binO]; rw [if_pos e]
@[simp] theorem z_cmp_lt : cmpO h .lt (.int i) (.int j) = some (decide (i < j)) := rfl
@[simp] theorem z_cmp_gt : cmpO h .gt (.int i) (.int j) = some (decide (j < i)) := rfl
@[simp] theorem z_cmp_le : cmpO h .le (.int i) (.int j) = some (decide (i ≤ j)) := rfl
@[simp] theorem z_cmp_ge : cmpO h .ge (.int i) (.int j) = some (decide (j ≤ i)) := rfl
@[simp] theorem z_cmp_eq : cmpO h .eq x y = eqH h x y := rfl
@[simp] theorem z_cmp_ne : cmpO h .ne x y = (eqH h x y).map fun b => !b := rfl
@[simp] theorem z_cmp_is : cmpO h .is x y = isO x y := rfl
@[simp] theorem z_cmp_isn : cmpO h .isn x y = (isO x y).map fun b => !b := rfl
@[simp] theorem z_cmp_inn : cmpO h .inn x y = inO h x y := rfl
@[simp] theorem z_cmp_nin : cmpO h .nin x y = (inO h x y).map fun b => !b := rfl
@[simp] theorem z_eq_int : eqH h (.int i) (.int j) = some (decide (i = j)) := rfl
@[simp] theorem z_eq_str : eqH h (.str s) (.str t) = some (lnat s t) := rfl
@[simp] theorem z_is_bl : isO (.bl b) (.bl c) = some (b == c) := rfl
@[simp] theorem z_ix_tup : ixO h (.tup xs) (.int k) = atI xs k := rfl
@[simp] theorem z_ix_tl : ixO h (.tl xs) (.int k) = atI xs k := rfl
@[simp] theorem z_ix_lck : ixO h (.lck xs) (.int k) = atI xs k := rfl
theorem z_ix_ref (e : h[n]? = some (.lst xs)) : ixO h (.ref n) (.int k) = atI xs k := by simp only [ixO, dicOf, e, ixS, seqOf, atD]
theorem z_at_nat {α : Type} {xs : List α} {m : Nat} {a : α} (e : xs[m]? = some a) : atI xs (m : Int) = some a := by
  have l := (List.getElem?_eq_some_iff.mp e).1
  have l' : (m : Int) < xs.length := by omega
  unfold atI ixN
  simp only [Int.natCast_nonneg, if_true, l', Int.toNat_natCast, e]
theorem z_ix_nat {m l : Nat} (e : m < l) : ixN l (m : Int) = some m := by
  have l' : (m : Int) < l := by omega
  unfold ixN
  simp only [Int.natCast_nonneg, if_true, l', Int.toNat_natCast]
theorem z_ix_in {l : Nat} (h0 : 0 ≤ k) (h1 : k < l) : ixN l k = some k.toNat := by
  unfold ixN
  simp only [h0, if_true, h1]
theorem z_at_in {α : Type} {xs : List α} (h0 : 0 ≤ k) (h1 : k < xs.length) : ∃ a, atI xs k = some a ∧ a ∈ xs := by
  have l : k.toNat < xs.length := by omega
  exact ⟨xs[k.toNat], by unfold atI; rw [z_ix_in h0 h1]; exact List.getElem?_eq_getElem l, List.getElem_mem l⟩
theorem z_metP_app (e : h[n]? = some (.lst xs)) : metP h .append (.ref n) = true := by simp only [metP, e]
theorem z_metP_ext (e : h[n]? = some (.lst xs)) : metP h .extend (.ref n) = true := by simp only [metP, e]
theorem z_metP_pop (e : h[n]? = some (.lst xs)) : metP h .pop (.ref n) = true := by simp only [metP, e]
theorem z_met_app (e : h[n]? = some (.lst xs)) (l : xs.length < lim) : metO h .append (.ref n) [x] = .ok .non (h.set n (.lst (xs ++ [x]))) := by simp only [metO, e]; rw [if_pos l]
theorem z_met_ext (e : h[n]? = some (.lst xs)) (e2 : ownOf h x = some ys) (l : xs.length + ys.length ≤ lim) : metO h .extend (.ref n) [x] = .ok .non (h.set n (.lst (xs ++ ys))) := by simp only [metO, e, e2]; rw [if_pos l]
theorem z_met_pop (e : h[n]? = some (.lst (xs ++ [x]))) : metO h .pop (.ref n) [] = .ok x (h.set n (.lst xs)) := by
  simp only [metO, e, List.length_append, List.length_cons, List.length_nil, Nat.zero_add, Nat.add_sub_cancel]
  simp
theorem z_set_lst {l : Nat} (e : h[n]? = some (.lst xs)) (e2 : ixN xs.length k = some l) : setO h (.ref n) (.int k) x = some (h.set n (.lst (xs.set l x))) := by simp only [setO, e, e2]
theorem z_set_dic (e : h[n]? = some (.dic xs ys)) (e2 : keyOk xs d = true) (l : xs.length < lim) : setO h (.ref n) d x = some (h.set n (.dic (kput d x xs ys).1 (kput d x xs ys).2)) := by
  simp only [setO, e, e2, l, decide_true, Bool.and_self, if_true]
end
theorem z_lim : (0 ≤ lim) = True := eq_true (by decide)
theorem z_lim0 : (0 + 1 ≤ lim) = True := eq_true (by decide)
theorem z_lim1 : (0 + 1 + 1 ≤ lim) = True := eq_true (by decide)
theorem z_lim2 : (0 + 1 + 1 + 1 ≤ lim) = True := eq_true (by decide)
theorem z_lim3 : (0 + 1 + 1 + 1 + 1 ≤ lim) = True := eq_true (by decide)
theorem z_lim4 : (0 + 1 + 1 + 1 + 1 + 1 ≤ lim) = True := eq_true (by decide)
theorem z_lim5 : (0 + 1 + 1 + 1 + 1 + 1 + 1 ≤ lim) = True := eq_true (by decide)
theorem z_isi_tup {h : Hd} {xs : List D} : isTy h (.tup xs) .tuple = some true := rfl
theorem z_isi_str {h : Hd} {s : List Nat} : isTy h (.str s) .str = some true := rfl
theorem z_isi_tl {h : Hd} {xs : List D} : isTy h (.tl xs) .tuple = some false := rfl
/-! ### statements, one by one -/
section
variable {F : Nat → List D → Hd → R D} {w : Nat} {a r b' : S} {e c : E} {t : Tg} {env env1 : Env} {h h1 h2 h3 h4 : Hd} {q : R (Fl × Env)} {d x o k : D} {b : Bool}
theorem z_seq (e1 : ex F w a env h = .ok (.nx, env1) h1) (e2 : ex F w r env1 h1 = q) : ex F w (.seq a r) env h = q := by simp only [ex, e1, z_bind_ok, e2]
theorem z_asg (e1 : ev F e env h = .ok d h1) (e2 : asgT t (reg h1 d).1 env = some env1) : ex F w (.asg t e) env h = .ok (.nx, env1) (reg h1 d).2 := by simp only [ex, e1, z_bind_ok, e2]
theorem z_exs (e1 : ev F e env h = .ok d h1) : ex F w (.ex e) env h = .ok (.nx, env) h1 := by simp only [ex, e1, z_bind_ok]
theorem z_iff (e1 : evT F c env h = .ok b h1) (e2 : (if b = true then ex F w a env h1 else ex F w b' env h1) = q) : ex F w (.iff c a b') env h = q := by simp only [ex, e1, z_bind_ok, e2]
theorem z_ift (e1 : evT F c env h = .ok true h1) (e2 : ex F w a env h1 = q) : ex F w (.iff c a b') env h = q := by simp only [ex, e1, z_bind_ok, e2, if_true]
theorem z_iff0 (e1 : evT F c env h = .ok false h1) (e2 : ex F w b' env h1 = q) : ex F w (.iff c a b') env h = q := by simp only [ex, e1, z_bind_ok, e2, if_false, Bool.false_eq_true]
theorem z_nil : ex F w .nil env h = .ok (.nx, env) h := by simp only [ex]
theorem z_seqr {fl : Fl} (hf : fl ≠ .nx) (e1 : ex F w a env h = .ok (fl, env1) h1) : ex F w (.seq a r) env h = .ok (fl, env1) h1 := by
  simp only [ex, e1, z_bind_ok]

theorem z_ret (e1 : ev F e env h = .ok d h1) : ex F w (.ret e) env h = .ok (.rt d, env) h1 := by simp only [ex, e1, z_bind_ok]
theorem z_sas {oe ie : E} (e1 : ev F e env h = .ok x h1) (e2 : ev F oe env (reg h1 x).2 = .ok o h2) (e3 : ev F ie env h2 = .ok k h3) (e4 : setO h3 o k (reg h1 x).1 = some h4) : ex F w (.sas oe ie e) env h = .ok (.nx, env) h4 := by simp only [ex, e1, z_bind_ok, e2, e3, e4]
theorem z_for {it : I} {xs : List D} {gs : Gs} (e1 : evI F it env h = .ok (xs, gs) h1) (e2 : forL t (ex F w b') gs xs env h1 = q) : ex F w (.for t it b') env h = q := by simp only [ex, e1, z_bind_ok, e2]
theorem z_whl (e1 : whL (evT F c) (ex F w b') w env h = q) : ex F w (.whl c b') env h = q := by simp only [ex, e1]
theorem z_lc {own : List Nat} {it : I} {xs ys : List D} {gs : Gs} (e1 : evI F it env h = .ok (xs, gs) h1) (e2 : lcL t (fun env h => tst (ev F c env h)) (ev F e) (wipe env own) gs xs h1 [] = .ok ys h2) : ev F (.lc own t it c e) env h = .ok (.tl ys) h2 := by simp only [ev, e1, z_bind_ok, e2]
theorem z_run {fn : Fn} {ds : List D} (e1 : ex F w fn.body (start fn.ns ds) h = .ok (.rt d, env1) h1) : runB F w fn ds h = fin h d h1 := by simp only [runB, e1, z_bind_ok]
theorem z_run0 {fn : Fn} {ds : List D} (e1 : ex F w fn.body (start fn.ns ds) h = .ok (.nx, env1) h1) : runB F w fn ds h = fin h .non h1 := by simp only [runB, e1, z_bind_ok]
theorem fin_tl {n : Nat} {xs : List D} (e1 : h[n]? = some (.lst xs)) (e2 : D.pures xs = true) : fin [] (.ref n) h = .ok (.tl xs) [] := by
  cases h with
  | nil => simp at e1
  | cons o r =>
    unfold fin
    have a : Nat.ble (o :: r).length 0 = false := rfl
    have b : Nat.blt n 0 = false := by cases n <;> rfl
    simp only [List.length_nil, a, b, okT, e1, e2, if_true, List.take_zero, Bool.false_eq_true, if_false]
theorem pures_ints : ∀ ns : List Int, D.pures (ns.map D.int) = true
  | [] => rfl
  | n :: ns => by simp only [List.map_cons, D.pures, D.pure, pures_ints ns, Bool.and_self]
end
end Mp
end
section
set_option Elab.async false
set_option linter.all false
set_option maxRecDepth 100000
set_option maxHeartbeats 4000000
set_option autoImplicit false
/-! MpEv2: expressions, one by one. -/
namespace Mp
section
variable {F : Nat → List D → Hd → R D} {a e es c x : E} {env : Env} {h h1 h2 h3 : Hd} {d d1 d2 : D} {ds : List D} {b : Bool} {q : R D}
theorem z_var {i : Nat} (e1 : env[i]? = some (some d)) : ev F (.var i) env h = .ok d h := by simp only [ev, e1]
theorem z_cons (e1 : ev F e env h = .ok d h1) (e2 : evs F es env (reg h1 d).2 = .ok ds h2) : evs F (.cons e es) env h = .ok ((reg h1 d).1 :: ds) h2 := by simp only [evs, e1, e2, z_bind_ok]
theorem z_enil : evs F .nil env h = .ok [] h := by simp only [evs]
theorem z_star {xs : List D} (e1 : ev F e env h = .ok d h1) (e2 : seqOf h1 d = some xs) (e3 : evs F es env h1 = .ok ds h2) : evs F (.star e es) env h = .ok (xs ++ ds) h2 := by simp only [evs, e1, e2, e3, z_bind_ok]
theorem z_tupE (e1 : evs F es env h = .ok ds h1) (l : ds.length ≤ lim) : ev F (.tup es) env h = .ok (.tup ds) h1 := by simp only [ev, e1, z_bind_ok]; rw [if_pos l]
theorem z_lstE (e1 : evs F es env h = .ok ds h1) (l : ds.length ≤ lim) : ev F (.lst es) env h = .ok (.tl ds) h1 := by simp only [ev, e1, z_bind_ok]; rw [if_pos l]
theorem z_bifE {o : Bi} (e1 : ev F a env h = .ok d h1) (e2 : bifO h1 o d = q) : ev F (.bif o a) env h = q := by simp only [ev, e1, z_bind_ok, e2]
theorem z_calE {f : Nat} (e1 : evs F es env h = .ok ds h1) (e2 : F f ds h1 = q) : ev F (.cal f es) env h = q := by simp only [ev, e1, z_bind_ok, e2]
theorem z_notE (e1 : ev F a env h = .ok d h1) (e2 : truth h1 d = some b) : ev F (.not a) env h = .ok (.bl !b) h1 := by simp only [ev, e1, z_bind_ok, e2]
theorem z_cmpE {o : Cm} (e1 : ev F a env h = .ok d h1) (e2 : ev F e env h1 = .ok d1 h2) (e3 : cmpO h2 o d d1 = some b) : ev F (.cmp o a e) env h = .ok (.bl b) h2 := by simp only [ev, e1, z_bind_ok, e2, e3]
theorem z_binE {o : Op} (e1 : ev F a env h = .ok d h1) (e2 : ev F e env h1 = .ok d1 h2) (e3 : binO h2 o d d1 = q) : ev F (.bin o a e) env h = q := by simp only [ev, e1, z_bind_ok, e2, e3]
theorem z_ixE (e1 : ev F a env h = .ok d h1) (e2 : ev F e env h1 = .ok d1 h2) (e3 : ixO h2 d d1 = some d2) : ev F (.ix a e) env h = .ok d2 h2 := by simp only [ev, e1, z_bind_ok, e2, e3, z_get_some]
theorem z_isiE {t : Ty} (e1 : ev F a env h = .ok d h1) (e2 : isTy h1 d t = some b) : ev F (.isi a t) env h = .ok (.bl b) h1 := by simp only [ev, e1, z_bind_ok, e2]
theorem z_and1 (e1 : ev F a env h = .ok d h1) (e2 : truth h1 d = some true) (e3 : ev F e env h1 = q) : ev F (.and a e) env h = q := by simp only [ev, e1, z_bind_ok, e2, e3]
theorem z_and0 (e1 : ev F a env h = .ok d h1) (e2 : truth h1 d = some false) : ev F (.and a e) env h = .ok d h1 := by simp only [ev, e1, z_bind_ok, e2]
theorem z_or0 (e1 : ev F a env h = .ok d h1) (e2 : truth h1 d = some false) (e3 : ev F e env h1 = q) : ev F (.or a e) env h = q := by simp only [ev, e1, z_bind_ok, e2, e3]
theorem z_or1 (e1 : ev F a env h = .ok d h1) (e2 : truth h1 d = some true) : ev F (.or a e) env h = .ok d h1 := by simp only [ev, e1, z_bind_ok, e2]
theorem z_evT (e1 : ev F a env h = .ok d h1) (e2 : truth h1 d = some b) : evT F a env h = .ok b h1 := by simp only [evT, tst, e1, z_bind_ok, e2, z_get_some]
theorem z_tst {r : R D} (e1 : r = .ok d h1) (e2 : truth h1 d = some b) : tst r = .ok b h1 := by simp only [tst, e1, z_bind_ok, e2, z_get_some]
theorem z_itE {xs : List D} {gs : Gs} (e1 : ev F a env h = .ok d h1) (e2 : itOf h1 d = some (xs, gs)) : evI F (.e a) env h = .ok (xs, gs) h1 := by simp only [evI, e1, z_bind_ok, e2, z_get_some]
end
end Mp
end
section
set_option Elab.async false
set_option linter.all false
set_option maxRecDepth 100000
set_option maxHeartbeats 0
set_option autoImplicit false
/-! the small program of law_k00_schemas_judged (printed by gen.py) -/
namespace K00
open PySem PySem.Spec PyProof.Rows L2 Mp
def top (i : Nat) : Stmt := PySem.Challenge.pw_chasehouse_k00_schemas_judged.main.body.getD i (.Pass ⟨0, 0, 0, 0⟩)
def N_is_worth : List Str := ["thing", "sign"]
def b_is_worth : S := (.seq (.ret (.and (.isi (.var 0) .str) (.and (.chn .le .le (.int 1) (.bif .len (.var 0)) (.int 8)) (.bif .all (.lc [1] (.nm 1) (.e (.var 0)) (.bl true) (.cmp .inn (.var 1) (.str [97, 98, 99, 100, 101, 102, 103, 104, 105, 106, 107, 108, 109, 110, 111, 112, 113, 114, 115, 116, 117, 118, 119, 120, 121, 122, 48, 49, 50, 51, 52, 53, 54, 55, 56, 57]))))))) .nil)
def N_is_name : List Str := ["thing"]
def b_is_name : S := (.seq (.ret (.and (.cal 0 (.cons (.var 0) .nil)) (.cmp .inn (.ix (.var 0) (.int 0)) (.str [97, 98, 99, 100, 101, 102, 103, 104, 105, 106, 107, 108, 109, 110, 111, 112, 113, 114, 115, 116, 117, 118, 119, 120, 121, 122])))) .nil)
def N_is_rising : List Str := ["things", "at"]
def b_is_rising : S := (.seq (.ret (.bif .all (.lc [1] (.nm 1) (.rng (.cons (.int 1) (.cons (.bif .len (.var 0)) .nil))) (.bl true) (.cmp .lt (.ix (.var 0) (.bin .sub (.var 1) (.int 1))) (.ix (.var 0) (.var 1)))))) .nil)
def N_are_unlike : List Str := ["things", "thing"]
def b_are_unlike : S := (.seq (.ret (.cmp .eq (.bif .len (.dc [1] (.nm 1) (.e (.var 0)) (.bl true) (.var 1) (.bl true))) (.bif .len (.var 0)))) .nil)
def N_is_word : List Str := ["thing", "words"]
def b_is_word : S := (.seq (.ret (.and (.isi (.var 0) .str) (.cmp .inn (.var 0) (.var 1)))) .nil)
def N_is_tuple_of : List Str := ["thing", "size"]
def b_is_tuple_of : S := (.seq (.ret (.and (.isi (.var 0) .tuple) (.cmp .eq (.bif .len (.var 0)) (.var 1)))) .nil)
def N_is_names : List Str := ["thing", "least", "most", "one"]
def b_is_names : S := (.seq (.iff (.or (.not (.isi (.var 0) .tuple)) (.not (.chn .le .le (.var 1) (.bif .len (.var 0)) (.var 2)))) (.seq (.ret (.bl false)) .nil) .nil) (.seq (.ret (.and (.bif .all (.lc [3] (.nm 3) (.e (.var 0)) (.bl true) (.cal 1 (.cons (.var 3) .nil)))) (.cal 3 (.cons (.var 0) .nil)))) .nil))
def N_are_tables : List Str := ["thing", "table", "name", "unused"]
def b_are_tables : S := (.seq (.iff (.or (.not (.isi (.var 0) .tuple)) (.not (.chn .le .le (.int 1) (.bif .len (.var 0)) (.int 8)))) (.seq (.ret (.bl false)) .nil) .nil) (.seq (.for (.nm 1) (.e (.var 0)) (.seq (.iff (.or (.not (.cal 5 (.cons (.var 1) (.cons (.int 2) .nil)))) (.or (.not (.cal 1 (.cons (.ix (.var 1) (.int 0)) .nil))) (.not (.cal 6 (.cons (.ix (.var 1) (.int 1)) (.cons (.int 1) (.cons (.int 6) .nil))))))) (.seq (.ret (.bl false)) .nil) .nil) .nil)) (.seq (.ret (.cal 2 (.cons (.lc [2, 3] (.tp (.cons (.nm 2) (.cons (.nm 3) .nil))) (.e (.var 0)) (.bl true) (.var 2)) .nil))) .nil)))
def N_are_columns_of : List Str := ["columns", "thing", "least", "column"]
def b_are_columns_of : S := (.seq (.iff (.not (.cal 6 (.cons (.var 1) (.cons (.var 2) (.cons (.int 6) .nil))))) (.seq (.ret (.bl false)) .nil) .nil) (.seq (.ret (.bif .all (.lc [3] (.nm 3) (.e (.var 1)) (.bl true) (.cmp .inn (.var 3) (.var 0))))) .nil))
def N_is_rule_of : List Str := ["tables", "thing", "lots", "columns"]
def b_is_rule_of : S := (.seq (.iff (.or (.not (.isi (.var 1) .tuple)) (.or (.not (.chn .le .le (.int 4) (.bif .len (.var 1)) (.int 5))) (.not (.isi (.ix (.var 1) (.int 0)) .str)))) (.seq (.ret (.bl false)) .nil) .nil) (.seq (.asg (.nm 2) (.bif .dict (.var 0))) (.seq (.iff (.not (.cal 4 (.cons (.ix (.var 1) (.int 1)) (.cons (.bif .list (.var 2)) .nil)))) (.seq (.ret (.bl false)) .nil) .nil) (.seq (.asg (.nm 3) (.ix (.var 2) (.ix (.var 1) (.int 1)))) (.seq (.iff (.cmp .eq (.ix (.var 1) (.int 0)) (.str [116, 101, 108, 108, 115])) (.seq (.ret (.and (.cmp .eq (.bif .len (.var 1)) (.int 4)) (.and (.cal 8 (.cons (.var 3) (.cons (.ix (.var 1) (.int 2)) (.cons (.int 0) .nil)))) (.cal 4 (.cons (.ix (.var 1) (.int 3)) (.cons (.var 3) .nil)))))) .nil) .nil) (.seq (.iff (.cmp .eq (.ix (.var 1) (.int 0)) (.str [111, 110, 108, 121])) (.seq (.ret (.and (.cmp .eq (.bif .len (.var 1)) (.int 4)) (.and (.cal 4 (.cons (.ix (.var 1) (.int 2)) (.cons (.var 3) .nil))) (.cal 10 (.cons (.ix (.var 1) (.int 3)) .nil))))) .nil) .nil) (.seq (.iff (.or (.cmp .ne (.ix (.var 1) (.int 0)) (.str [108, 101, 97, 100, 115])) (.or (.cmp .ne (.bif .len (.var 1)) (.int 5)) (.or (.not (.cal 4 (.cons (.ix (.var 1) (.int 3)) (.cons (.bif .list (.var 2)) .nil)))) (.cmp .eq (.ix (.var 1) (.int 3)) (.ix (.var 1) (.int 1)))))) (.seq (.ret (.bl false)) .nil) .nil) (.seq (.iff (.or (.not (.cal 8 (.cons (.var 3) (.cons (.ix (.var 1) (.int 2)) (.cons (.int 1) .nil))))) (.not (.cal 8 (.cons (.ix (.var 2) (.ix (.var 1) (.int 3))) (.cons (.ix (.var 1) (.int 4)) (.cons (.int 1) .nil)))))) (.seq (.ret (.bl false)) .nil) .nil) (.seq (.ret (.cmp .eq (.bif .len (.ix (.var 1) (.int 2))) (.bif .len (.ix (.var 1) (.int 4))))) .nil)))))))))
def N_is_worths : List Str := ["thing", "one"]
def b_is_worths : S := (.seq (.iff (.or (.not (.isi (.var 0) .tuple)) (.not (.chn .le .le (.int 1) (.bif .len (.var 0)) (.int 6)))) (.seq (.ret (.bl false)) .nil) .nil) (.seq (.ret (.and (.bif .all (.lc [1] (.nm 1) (.e (.var 0)) (.bl true) (.cal 0 (.cons (.var 1) .nil)))) (.cal 2 (.cons (.var 0) .nil)))) .nil))
def N_ways_of : List Str := ["tables", "rule", "lots", "out", "begin", "end", "others", "column"]
def b_ways_of : S := (.seq (.asg (.nm 2) (.bif .dict (.var 0))) (.seq (.asg (.nm 3) (.lst .nil)) (.seq (.for (.tp (.cons (.nm 4) (.cons (.nm 5) .nil))) (.zip (.cons (.ix (.var 1) (.int 2)) (.cons (.ix (.var 1) (.int 4)) .nil))) (.seq (.ex (.met .append (.var 3) (.cons (.tup (.cons (.tup (.cons (.ix (.var 1) (.int 1)) (.cons (.var 4) .nil))) (.cons (.tup (.cons (.ix (.var 1) (.int 3)) (.cons (.var 5) .nil))) (.cons (.bl false) .nil)))) .nil))) (.seq (.asg (.nm 6) (.lc [7] (.nm 7) (.e (.ix (.var 2) (.ix (.var 1) (.int 3)))) (.cmp .nin (.var 7) (.ix (.var 1) (.int 4))) (.var 7))) (.seq (.ex (.met .extend (.var 3) (.cons (.lc [7] (.nm 7) (.e (.var 6)) (.bl true) (.tup (.cons (.tup (.cons (.ix (.var 1) (.int 1)) (.cons (.var 4) .nil))) (.cons (.tup (.cons (.ix (.var 1) (.int 3)) (.cons (.var 7) .nil))) (.cons (.bl true) .nil))))) .nil))) .nil)))) (.seq (.ret (.var 3)) .nil))))
def N_reach_of : List Str := ["ways", "begin", "out", "todo", "here", "first", "second", "unused"]
def b_reach_of : S := (.seq (.asg (.nm 2) (.dct (.cons (.var 1) (.cons (.bl true) .nil)))) (.seq (.asg (.nm 3) (.lst (.cons (.var 1) .nil))) (.seq (.whl (.var 3) (.seq (.asg (.nm 4) (.met .pop (.var 3) .nil)) (.seq (.for (.tp (.cons (.nm 5) (.cons (.nm 6) (.cons (.nm 7) .nil)))) (.e (.var 0)) (.seq (.iff (.and (.cmp .eq (.var 5) (.var 4)) (.cmp .nin (.var 6) (.var 2))) (.seq (.sas (.var 2) (.var 6) (.bl true)) (.seq (.ex (.met .append (.var 3) (.cons (.var 6) .nil))) .nil)) .nil) .nil)) .nil))) (.seq (.ret (.var 2)) .nil))))
def N_has_no_ring : List Str := ["tables", "rules", "ways", "rule", "first", "second", "is_new"]
def b_has_no_ring : S := (.seq (.asg (.nm 2) (.lst .nil)) (.seq (.for (.nm 3) (.e (.var 1)) (.seq (.iff (.cmp .eq (.ix (.var 3) (.int 0)) (.str [108, 101, 97, 100, 115])) (.seq (.ex (.met .extend (.var 2) (.cons (.cal 11 (.cons (.var 0) (.cons (.var 3) .nil))) .nil))) .nil) .nil) .nil)) (.seq (.ret (.not (.bif .any (.lc [4, 5, 6] (.tp (.cons (.nm 4) (.cons (.nm 5) (.cons (.nm 6) .nil)))) (.e (.var 2)) (.bl true) (.and (.var 6) (.cmp .inn (.var 4) (.cal 12 (.cons (.var 2) (.cons (.var 5) .nil))))))))) .nil)))
def N_is_schema : List Str := ["thing", "rule"]
def b_is_schema : S := (.seq (.iff (.or (.not (.cal 5 (.cons (.var 0) (.cons (.int 2) .nil)))) (.or (.not (.cal 7 (.cons (.ix (.var 0) (.int 0)) .nil))) (.not (.isi (.ix (.var 0) (.int 1)) .tuple)))) (.seq (.ret (.bl false)) .nil) .nil) (.seq (.iff (.or (.cmp .gt (.bif .len (.ix (.var 0) (.int 1))) (.int 30)) (.not (.bif .all (.lc [1] (.nm 1) (.e (.ix (.var 0) (.int 1))) (.bl true) (.cal 9 (.cons (.ix (.var 0) (.int 0)) (.cons (.var 1) .nil))))))) (.seq (.ret (.bl false)) .nil) .nil) (.seq (.ret (.cal 13 (.cons (.ix (.var 0) (.int 0)) (.cons (.ix (.var 0) (.int 1)) .nil)))) .nil)))
def N_ask_schema : List Str := ["schema"]
def b_ask_schema : S := (.seq (.iff (.not (.cal 14 (.cons (.var 0) .nil))) (.seq (.rse 2 .nil) .nil) .nil) .nil)
def N_is_rule : List Str := ["schema", "thing"]
def b_is_rule : S := (.seq (.ex (.cal 15 (.cons (.var 0) .nil))) (.seq (.ret (.and (.cal 9 (.cons (.ix (.var 0) (.int 0)) (.cons (.var 1) .nil))) (.cal 13 (.cons (.ix (.var 0) (.int 0)) (.cons (.tup (.star (.ix (.var 0) (.int 1)) (.cons (.var 1) .nil))) .nil))))) .nil))
def N_columns_of : List Str := ["schema", "table", "name", "unused"]
def b_columns_of : S := (.seq (.ex (.cal 15 (.cons (.var 0) .nil))) (.seq (.iff (.not (.cal 4 (.cons (.var 1) (.cons (.lc [2, 3] (.tp (.cons (.nm 2) (.cons (.nm 3) .nil))) (.e (.ix (.var 0) (.int 0))) (.bl true) (.var 2)) .nil)))) (.seq (.rse 3 .nil) .nil) .nil) (.seq (.ret (.ix (.bif .dict (.ix (.var 0) (.int 0))) (.var 1))) .nil)))
def N_with_rules : List Str := ["schema", "rules", "rule", "out"]
def b_with_rules : S := (.seq (.ex (.cal 15 (.cons (.var 0) .nil))) (.seq (.iff (.or (.not (.isi (.var 1) .tuple)) (.not (.bif .all (.lc [2] (.nm 2) (.e (.var 1)) (.bl true) (.cal 9 (.cons (.ix (.var 0) (.int 0)) (.cons (.var 2) .nil))))))) (.seq (.rse 1 .nil) .nil) .nil) (.seq (.asg (.nm 3) (.tup (.cons (.ix (.var 0) (.int 0)) (.cons (.tup (.star (.ix (.var 0) (.int 1)) (.star (.var 1) .nil))) .nil)))) (.seq (.iff (.not (.cal 14 (.cons (.var 3) .nil))) (.seq (.rse 1 .nil) .nil) .nil) (.seq (.ret (.var 3)) .nil)))))
def N__law_draws : List Str := ["script", "many", "cells", "cell", "left", "draws", "k", "at", "shaken"]
def b__law_draws : S := (.seq (.asg (.nm 2) (.lc [3] (.nm 3) (.e (.slH (.var 0) (.int 63))) (.bl true) (.bif .abs (.bif .int (.var 3))))) (.seq (.iff (.not (.var 2)) (.seq (.asg (.nm 2) (.lst (.cons (.int 0) .nil))) .nil) .nil) (.seq (.asg (.nm 4) (.bif .list (.var 2))) (.seq (.asg (.nm 5) (.lst .nil)) (.seq (.for (.nm 6) (.rng (.cons (.var 1) .nil)) (.seq (.asg (.nm 7) (.bin .mod (.bif .int (.var 6)) (.bif .len (.var 2)))) (.seq (.iff (.and (.cmp .ge (.ix (.var 2) (.var 7)) (.bin .pow (.int 10) (.int 18))) (.cmp .gt (.ix (.var 4) (.var 7)) (.int 0))) (.seq (.ex (.met .append (.var 5) (.cons (.bin .mod (.bif .int (.ix (.var 4) (.var 7))) (.int 1000)) .nil))) (.seq (.sas (.var 4) (.var 7) (.bin .fdv (.ix (.var 4) (.var 7)) (.int 1000))) .nil)) (.seq (.asg (.nm 8) (.bin .mod (.bif .int (.bin .add (.bin .mul (.bin .add (.ix (.var 2) (.var 7)) (.int 7)) (.int 48271)) (.bin .mul (.bin .add (.var 6) (.int 1)) (.int 69621)))) (.int 2147483647))) (.seq (.asg (.nm 8) (.bin .mod (.bif .int (.bin .add (.bin .add (.bin .mul (.var 8) (.int 16807)) (.bin .mul (.bin .mul (.var 6) (.var 6)) (.int 40692))) (.int 12345))) (.int 2147483399))) (.seq (.ex (.met .append (.var 5) (.cons (.bin .fdv (.var 8) (.int 64)) .nil))) .nil)))) .nil))) (.seq (.ret (.var 5)) .nil))))))
def N__law_next : List Str := ["draws", "many"]
def b__law_next : S := (.seq (.iff (.not (.var 0)) (.seq (.ret (.int 0)) .nil) .nil) (.seq (.ret (.bin .mod (.bif .int (.met .popAt (.var 0) (.cons (.int 0) .nil))) (.var 1))) .nil))
def N__law_tables : List Str := ["draws", "names", "lots", "tables", "k"]
def b__law_tables : S := (.seq (.asg (.nm 1) (.lst (.cons (.str [112]) (.cons (.str [113]) (.cons (.str [115, 50]) .nil))))) (.seq (.asg (.nm 2) (.lst (.cons (.tup (.cons (.str [97]) .nil)) (.cons (.tup (.cons (.str [97]) (.cons (.str [98]) .nil))) (.cons (.tup (.cons (.str [97]) (.cons (.str [98]) (.cons (.str [99]) .nil)))) (.cons (.tup (.cons (.str [107]) (.cons (.str [98]) .nil))) .nil)))))) (.seq (.asg (.nm 3) (.lst .nil)) (.seq (.for (.nm 4) (.rng (.cons (.bin .add (.bin .add (.int 1) (.bif .int (.cmp .gt (.cal 20 (.cons (.var 0) (.cons (.int 9) .nil))) (.int 0)))) (.bif .int (.cmp .eq (.cal 20 (.cons (.var 0) (.cons (.int 3) .nil))) (.int 0)))) .nil)) (.seq (.ex (.met .append (.var 3) (.cons (.tup (.cons (.ix (.var 1) (.var 4)) (.cons (.ix (.var 2) (.cal 20 (.cons (.var 0) (.cons (.int 4) .nil)))) .nil))) .nil))) .nil)) (.seq (.ret (.bif .tuple (.var 3))) .nil)))))
def N__law_some_of : List Str := ["draws", "columns", "few", "told", "column"]
def b__law_some_of : S := (.seq (.asg (.nm 3) (.lc [4] (.nm 4) (.e (.var 1)) (.cmp .eq (.cal 20 (.cons (.var 0) (.cons (.int 2) .nil))) (.int 1)) (.var 4))) (.seq (.iff (.cmp .lt (.bif .len (.var 3)) (.var 2)) (.seq (.asg (.nm 3) (.lst (.cons (.ix (.var 1) (.cal 20 (.cons (.var 0) (.cons (.bif .len (.var 1)) .nil)))) .nil))) .nil) .nil) (.seq (.ret (.bif .tuple (.var 3))) .nil)))
def N__law_rule : List Str := ["draws", "tables", "at", "one", "choice", "other", "begins", "shift", "around", "column"]
def b__law_rule : S := (.seq (.asg (.nm 2) (.cal 20 (.cons (.var 0) (.cons (.bif .len (.var 1)) .nil)))) (.seq (.asg (.nm 3) (.ix (.var 1) (.var 2))) (.seq (.asg (.nm 4) (.cal 20 (.cons (.var 0) (.cons (.int 5) .nil)))) (.seq (.iff (.and (.cmp .lt (.var 4) (.int 2)) (.cmp .lt (.bin .add (.var 2) (.int 1)) (.bif .len (.var 1)))) (.seq (.asg (.nm 5) (.ix (.var 1) (.bin .add (.bin .add (.var 2) (.int 1)) (.cal 20 (.cons (.var 0) (.cons (.bin .sub (.bin .sub (.bif .len (.var 1)) (.var 2)) (.int 1)) .nil)))))) (.seq (.asg (.nm 6) (.slH (.cal 22 (.cons (.var 0) (.cons (.ix (.var 3) (.int 1)) (.cons (.int 1) .nil)))) (.bif .len (.ix (.var 5) (.int 1))))) (.seq (.asg (.nm 7) (.cal 20 (.cons (.var 0) (.cons (.bif .len (.ix (.var 5) (.int 1))) .nil)))) (.seq (.asg (.nm 8) (.bin .add (.slL (.ix (.var 5) (.int 1)) (.var 7)) (.slH (.ix (.var 5) (.int 1)) (.var 7)))) (.seq (.ret (.tup (.cons (.str [108, 101, 97, 100, 115]) (.cons (.ix (.var 3) (.int 0)) (.cons (.var 6) (.cons (.ix (.var 5) (.int 0)) (.cons (.slH (.var 8) (.bif .len (.var 6))) .nil))))))) .nil))))) .nil) (.seq (.asg (.nm 9) (.ix (.ix (.var 3) (.int 1)) (.cal 20 (.cons (.var 0) (.cons (.bif .len (.ix (.var 3) (.int 1))) .nil))))) (.seq (.iff (.cmp .eq (.var 4) (.int 2)) (.seq (.ret (.tup (.cons (.str [111, 110, 108, 121]) (.cons (.ix (.var 3) (.int 0)) (.cons (.var 9) (.cons (.ix (.lst (.cons (.tup (.cons (.str [48]) .nil)) (.cons (.tup (.cons (.str [48]) (.cons (.str [49]) .nil))) (.cons (.tup (.cons (.str [49]) (.cons (.str [120]) .nil))) .nil)))) (.cal 20 (.cons (.var 0) (.cons (.int 3) .nil)))) .nil)))))) .nil) .nil) (.seq (.ret (.tup (.cons (.str [116, 101, 108, 108, 115]) (.cons (.ix (.var 3) (.int 0)) (.cons (.cal 22 (.cons (.var 0) (.cons (.ix (.var 3) (.int 1)) (.cons (.int 0) .nil)))) (.cons (.var 9) .nil)))))) .nil)))))))
def N__law_schema : List Str := ["draws", "most", "tables", "k"]
def b__law_schema : S := (.seq (.asg (.nm 2) (.cal 21 (.cons (.var 0) .nil))) (.seq (.ret (.tup (.cons (.var 2) (.cons (.bif .tuple (.lc [3] (.nm 3) (.rng (.cons (.cal 20 (.cons (.var 0) (.cons (.bin .add (.var 1) (.int 1)) .nil))) .nil)) (.bl true) (.cal 23 (.cons (.var 0) (.cons (.var 2) .nil))))) .nil)))) .nil))
def N__law_columns : List Str := ["schema", "table", "pair"]
def b__law_columns : S := (.seq (.for (.nm 2) (.e (.ix (.var 0) (.int 0))) (.seq (.iff (.cmp .eq (.ix (.var 2) (.int 0)) (.var 1)) (.seq (.ret (.ix (.var 2) (.int 1))) .nil) .nil) .nil)) (.seq (.ret (.tup .nil)) .nil))
def N__law_great : List Str := ["tables", "k", "rules"]
def b__law_great : S := (.seq (.asg (.nm 0) (.bif .tuple (.lc [1] (.nm 1) (.rng (.cons (.int 8) .nil)) (.bl true) (.tup (.cons (.bin .add (.bin .add (.str [116]) (.bif .str (.var 1))) (.str [97, 98, 99, 100, 101, 102])) (.cons (.tup (.cons (.str [97]) (.cons (.str [98]) (.cons (.str [99]) (.cons (.str [100]) (.cons (.str [101]) (.cons (.str [97, 98, 99, 100, 101, 102, 103, 104]) .nil))))))) .nil)))))) (.seq (.asg (.nm 2) (.lc [1] (.nm 1) (.rng (.cons (.int 28) .nil)) (.bl true) (.tup (.cons (.str [116, 101, 108, 108, 115]) (.cons (.str [116, 48, 97, 98, 99, 100, 101, 102]) (.cons (.tup (.cons (.str [97]) (.cons (.str [98]) (.cons (.str [99]) (.cons (.str [100]) (.cons (.str [101]) .nil)))))) (.cons (.str [97, 98, 99, 100, 101, 102, 103, 104]) .nil))))))) (.seq (.ex (.met .append (.var 2) (.cons (.tup (.cons (.str [111, 110, 108, 121]) (.cons (.str [116, 55, 97, 98, 99, 100, 101, 102]) (.cons (.str [97]) (.cons (.tup (.cons (.str [48]) (.cons (.str [49]) (.cons (.str [50]) (.cons (.str [51]) (.cons (.str [52]) (.cons (.str [97, 98, 99, 100, 101, 102, 103, 104]) .nil))))))) .nil))))) .nil))) (.seq (.ex (.met .append (.var 2) (.cons (.tup (.cons (.str [108, 101, 97, 100, 115]) (.cons (.str [116, 49, 97, 98, 99, 100, 101, 102]) (.cons (.tup (.cons (.str [97]) (.cons (.str [98]) (.cons (.str [99]) (.cons (.str [100]) (.cons (.str [101]) (.cons (.str [97, 98, 99, 100, 101, 102, 103, 104]) .nil))))))) (.cons (.str [116, 50, 97, 98, 99, 100, 101, 102]) (.cons (.tup (.cons (.str [97, 98, 99, 100, 101, 102, 103, 104]) (.cons (.str [101]) (.cons (.str [100]) (.cons (.str [99]) (.cons (.str [98]) (.cons (.str [97]) .nil))))))) .nil)))))) .nil))) (.seq (.ret (.tup (.cons (.var 0) (.cons (.bif .tuple (.var 2)) .nil)))) .nil)))))
def N__law_wrong_tables : List Str := ["told", "k"]
def b__law_wrong_tables : S := (.seq (.asg (.nm 0) (.lst (.cons .non (.cons (.tup .nil) (.cons (.str [116]) (.cons (.lst (.cons (.tup (.cons (.str [116]) (.cons (.tup (.cons (.str [97]) .nil)) .nil))) .nil)) (.cons (.tup (.cons (.tup (.cons (.str [116]) (.cons (.tup (.cons (.str [97]) .nil)) .nil))) (.cons (.tup (.cons (.str [116]) (.cons (.tup (.cons (.str [97]) .nil)) .nil))) .nil))) (.cons (.tup (.cons (.tup (.cons (.str [117]) (.cons (.tup (.cons (.str [97]) .nil)) .nil))) (.cons (.tup (.cons (.str [116]) (.cons (.tup (.cons (.str [97]) .nil)) .nil))) .nil))) (.cons (.tup (.cons (.tup (.cons (.str [116]) (.cons (.tup .nil) .nil))) .nil)) .nil))))))))) (.seq (.asg (.nm 0) (.bin .add (.var 0) (.lst (.cons (.tup (.cons (.tup (.cons (.str [116]) (.cons (.lst (.cons (.str [97]) .nil)) .nil))) .nil)) (.cons (.tup (.cons (.tup (.cons (.str [116]) (.cons (.tup (.cons (.str [97]) (.cons (.str [97]) .nil))) .nil))) .nil)) (.cons (.tup (.cons (.tup (.cons (.str [49, 116]) (.cons (.tup (.cons (.str [97]) .nil)) .nil))) .nil)) (.cons (.tup (.cons (.tup (.cons (.str [116]) (.cons (.tup (.cons (.str [49, 97]) .nil)) .nil))) .nil)) (.cons (.tup (.cons (.tup (.cons (.str [116]) (.cons (.tup (.cons (.str []) .nil)) .nil))) .nil)) (.cons (.tup (.cons (.tup (.cons (.str []) (.cons (.tup (.cons (.str [97]) .nil)) .nil))) .nil)) .nil))))))))) (.seq (.asg (.nm 0) (.bin .add (.var 0) (.lst (.cons (.tup (.cons (.tup (.cons (.str [116]) (.cons (.tup (.cons (.str [97]) .nil)) (.cons (.int 0) .nil)))) .nil)) (.cons (.tup (.cons (.lst (.cons (.str [116]) (.cons (.tup (.cons (.str [97]) .nil)) .nil))) .nil)) (.cons (.tup (.cons (.tup (.cons (.str [116]) .nil)) .nil)) (.cons (.tup (.cons (.tup (.cons (.int 0) (.cons (.tup (.cons (.str [97]) .nil)) .nil))) .nil)) (.cons (.tup (.cons (.tup (.cons (.str [116]) (.cons (.tup (.cons (.int 0) .nil)) .nil))) .nil)) (.cons (.tup (.cons (.tup (.cons (.str [84]) (.cons (.tup (.cons (.str [97]) .nil)) .nil))) .nil)) (.cons (.tup (.cons (.tup (.cons (.str [116]) (.cons (.str [97]) .nil))) .nil)) .nil)))))))))) (.seq (.asg (.nm 0) (.bin .add (.var 0) (.lst (.cons (.tup (.cons (.tup (.cons (.str [97, 98, 99, 100, 101, 102, 103, 104, 105]) (.cons (.tup (.cons (.str [97]) .nil)) .nil))) .nil)) (.cons (.tup (.cons (.tup (.cons (.str [116]) (.cons (.tup (.cons (.str [97, 98, 99, 100, 101, 102, 103, 104, 105]) .nil)) .nil))) .nil)) (.cons (.tup (.cons (.tup (.cons (.str [116]) (.cons (.tup (.cons (.str [97]) (.cons (.str [98]) (.cons (.str [99]) (.cons (.str [100]) (.cons (.str [101]) (.cons (.str [102]) (.cons (.str [103]) .nil)))))))) .nil))) .nil)) (.cons (.tup (.cons .non .nil)) (.cons (.tup (.cons (.str [116]) .nil)) .nil)))))))) (.seq (.ex (.met .append (.var 0) (.cons (.bif .tuple (.lc [1] (.nm 1) (.rng (.cons (.int 9) .nil)) (.bl true) (.tup (.cons (.bin .add (.str [116]) (.bif .str (.var 1))) (.cons (.tup (.cons (.str [97]) .nil)) .nil))))) .nil))) (.seq (.ret (.var 0)) .nil))))))
def N__law_wrong_rules : List Str := ["tables", "t", "c", "told", "s", "d"]
def b__law_wrong_rules : S := (.seq (.asg (.nm 1) (.ix (.ix (.var 0) (.int 0)) (.int 0))) (.seq (.asg (.nm 2) (.ix (.ix (.ix (.var 0) (.int 0)) (.int 1)) (.int 0))) (.seq (.asg (.nm 3) (.lst (.cons .non (.cons (.tup .nil) (.cons (.str [116, 101, 108, 108, 115]) (.cons (.tup (.cons (.str [116, 101, 108, 108, 115]) .nil)) (.cons (.tup (.cons (.str [116, 101, 108, 108, 115]) (.cons (.var 1) (.cons (.tup (.cons (.var 2) .nil)) .nil)))) (.cons (.tup (.cons (.str [116, 101, 108, 108, 115]) (.cons (.var 1) (.cons (.var 2) (.cons (.var 2) .nil))))) (.cons (.tup (.cons (.str [116, 101, 108, 108, 115]) (.cons (.var 1) (.cons (.lst (.cons (.var 2) .nil)) (.cons (.var 2) .nil))))) (.cons (.tup (.cons (.str [116, 101, 108, 108, 115]) (.cons (.str [122, 122]) (.cons (.tup .nil) (.cons (.var 2) .nil))))) .nil)))))))))) (.seq (.asg (.nm 3) (.bin .add (.var 3) (.lst (.cons (.tup (.cons (.str [116, 101, 108, 108, 115]) (.cons (.var 1) (.cons (.tup (.cons (.var 2) (.cons (.var 2) .nil))) (.cons (.var 2) .nil))))) (.cons (.tup (.cons (.str [116, 101, 108, 108, 115]) (.cons (.var 1) (.cons (.tup (.cons (.str [122, 122]) .nil)) (.cons (.var 2) .nil))))) (.cons (.tup (.cons (.str [116, 101, 108, 108, 115]) (.cons (.var 1) (.cons (.tup .nil) (.cons (.str [122, 122]) .nil))))) (.cons (.tup (.cons (.str [116, 101, 108, 108, 115]) (.cons (.var 1) (.cons (.tup .nil) (.cons .non .nil))))) (.cons (.tup (.cons (.str [84, 101, 108, 108, 115]) (.cons (.var 1) (.cons (.tup .nil) (.cons (.var 2) .nil))))) .nil)))))))) (.seq (.asg (.nm 3) (.bin .add (.var 3) (.lst (.cons (.tup (.cons (.str [116, 101, 108, 108, 115]) (.cons (.var 1) (.cons (.tup .nil) (.cons (.var 2) (.cons (.int 0) .nil)))))) (.cons (.lst (.cons (.str [116, 101, 108, 108, 115]) (.cons (.var 1) (.cons (.tup .nil) (.cons (.var 2) .nil))))) (.cons (.tup (.cons (.str [116, 101, 108, 108, 115]) (.cons .non (.cons (.tup .nil) (.cons (.var 2) .nil))))) (.cons (.tup (.cons (.str [111, 110, 108, 121]) (.cons (.var 1) (.cons (.var 2) .nil)))) (.cons (.tup (.cons (.str [111, 110, 108, 121]) (.cons (.var 1) (.cons (.var 2) (.cons (.tup .nil) .nil))))) (.cons (.tup (.cons (.str [111, 110, 108, 121]) (.cons (.var 1) (.cons (.var 2) (.cons (.str [48]) .nil))))) .nil))))))))) (.seq (.asg (.nm 3) (.bin .add (.var 3) (.lst (.cons (.tup (.cons (.str [111, 110, 108, 121]) (.cons (.var 1) (.cons (.var 2) (.cons (.lst (.cons (.str [48]) .nil)) .nil))))) (.cons (.tup (.cons (.str [111, 110, 108, 121]) (.cons (.var 1) (.cons (.var 2) (.cons (.tup (.cons (.str [49]) (.cons (.str [48]) .nil))) .nil))))) (.cons (.tup (.cons (.str [111, 110, 108, 121]) (.cons (.var 1) (.cons (.var 2) (.cons (.tup (.cons (.str [48]) (.cons (.str [48]) .nil))) .nil))))) (.cons (.tup (.cons (.str [111, 110, 108, 121]) (.cons (.var 1) (.cons (.var 2) (.cons (.tup (.cons (.str [88]) .nil)) .nil))))) (.cons (.tup (.cons (.str [111, 110, 108, 121]) (.cons (.var 1) (.cons (.str [122, 122]) (.cons (.tup (.cons (.str [48]) .nil)) .nil))))) .nil)))))))) (.seq (.asg (.nm 3) (.bin .add (.var 3) (.lst (.cons (.tup (.cons (.str [111, 110, 108, 121]) (.cons (.var 1) (.cons (.var 2) (.cons (.tup (.cons (.str [48]) (.cons (.str [49]) (.cons (.str [50]) (.cons (.str [51]) (.cons (.str [52]) (.cons (.str [53]) (.cons (.str [54]) .nil)))))))) .nil))))) (.cons (.tup (.cons (.str [111, 110, 108, 121]) (.cons (.var 1) (.cons (.tup (.cons (.var 2) .nil)) (.cons (.tup (.cons (.str [48]) .nil)) .nil))))) (.cons (.tup (.cons (.str [108, 101, 97, 100, 115]) (.cons (.var 1) (.cons (.tup (.cons (.var 2) .nil)) (.cons (.var 1) (.cons (.tup (.cons (.var 2) .nil)) .nil)))))) (.cons (.tup (.cons (.str [108, 101, 97, 100, 115]) (.cons (.var 1) (.cons (.tup (.cons (.var 2) .nil)) .nil)))) .nil))))))) (.seq (.iff (.cmp .gt (.bif .len (.var 0)) (.int 1)) (.seq (.asg (.nm 4) (.ix (.ix (.var 0) (.int 1)) (.int 0))) (.seq (.asg (.nm 5) (.ix (.ix (.ix (.var 0) (.int 1)) (.int 1)) (.int 0))) (.seq (.asg (.nm 3) (.bin .add (.var 3) (.lst (.cons (.tup (.cons (.str [108, 101, 97, 100, 115]) (.cons (.var 1) (.cons (.tup .nil) (.cons (.var 4) (.cons (.tup .nil) .nil)))))) (.cons (.tup (.cons (.str [108, 101, 97, 100, 115]) (.cons (.var 1) (.cons (.tup (.cons (.var 2) .nil)) (.cons (.var 4) (.cons (.tup .nil) .nil)))))) (.cons (.tup (.cons (.str [108, 101, 97, 100, 115]) (.cons (.var 1) (.cons (.tup .nil) (.cons (.var 4) (.cons (.tup (.cons (.var 5) .nil)) .nil)))))) (.cons (.tup (.cons (.str [108, 101, 97, 100, 115]) (.cons (.var 1) (.cons (.tup (.cons (.var 2) .nil)) (.cons (.var 4) (.cons (.tup (.cons (.var 5) (.cons (.var 5) .nil))) .nil)))))) .nil))))))) (.seq (.asg (.nm 3) (.bin .add (.var 3) (.lst (.cons (.tup (.cons (.str [108, 101, 97, 100, 115]) (.cons (.var 1) (.cons (.tup (.cons (.var 2) (.cons (.var 2) .nil))) (.cons (.var 4) (.cons (.tup (.cons (.var 5) (.cons (.var 5) .nil))) .nil)))))) (.cons (.tup (.cons (.str [108, 101, 97, 100, 115]) (.cons (.var 1) (.cons (.var 2) (.cons (.var 4) (.cons (.var 5) .nil)))))) (.cons (.tup (.cons (.str [108, 101, 97, 100, 115]) (.cons (.var 1) (.cons (.tup (.cons (.str [122, 122]) .nil)) (.cons (.var 4) (.cons (.tup (.cons (.var 5) .nil)) .nil)))))) (.cons (.tup (.cons (.str [108, 101, 97, 100, 115]) (.cons (.var 1) (.cons (.tup (.cons (.var 2) .nil)) (.cons (.var 4) (.cons (.tup (.cons (.str [122, 122]) .nil)) .nil)))))) .nil))))))) (.seq (.asg (.nm 3) (.bin .add (.var 3) (.lst (.cons (.tup (.cons (.str [108, 101, 97, 100, 115]) (.cons (.var 1) (.cons (.tup (.cons (.var 2) .nil)) (.cons (.str [122, 122]) (.cons (.tup (.cons (.var 5) .nil)) .nil)))))) (.cons (.tup (.cons (.str [108, 101, 97, 100, 115]) (.cons (.var 1) (.cons (.lst (.cons (.var 2) .nil)) (.cons (.var 4) (.cons (.tup (.cons (.var 5) .nil)) .nil)))))) (.cons (.tup (.cons (.str [108, 101, 97, 100, 115]) (.cons (.var 1) (.cons (.tup (.cons (.var 2) .nil)) (.cons (.var 4) (.cons (.tup (.cons (.var 5) .nil)) (.cons (.int 0) .nil))))))) (.cons (.tup (.cons (.str [108, 101, 97, 100, 115]) (.cons (.var 1) (.cons (.tup (.cons (.var 2) .nil)) (.cons (.var 4) .nil))))) .nil))))))) .nil))))) .nil) (.seq (.ret (.var 3)) .nil)))))))))
def N__law_kind : List Str := ["word", "one", "other", "e", "kinds", "k"]
def b__law_kind : S := (.seq (.tri (.seq (.iff (.cmp .eq (.var 0) (.str [114, 117, 108, 101])) (.seq (.ex (.cal 16 (.cons (.var 1) (.cons (.var 2) .nil)))) .nil) (.seq (.iff (.cmp .eq (.var 0) (.str [99, 111, 108, 117, 109, 110, 115])) (.seq (.ex (.cal 17 (.cons (.var 1) (.cons (.var 2) .nil)))) .nil) (.seq (.ex (.cal 18 (.cons (.var 1) (.cons (.var 2) .nil)))) .nil)) .nil)) .nil) 3 (.aS (.seq (.asg (.nm 4) (.lst (.cons (.bl false) (.cons (.bl false) (.cons (.bl false) .nil))))) (.seq (.ret (.lc [5] (.nm 5) (.rng (.cons (.int 3) .nil)) (.ix (.var 4) (.var 5)) (.ix (.lst (.cons (.str [115, 99, 104, 101, 109, 97]) (.cons (.str [114, 117, 108, 101]) (.cons (.str [116, 97, 98, 108, 101]) .nil)))) (.var 5)))) .nil)) (.aS (.seq (.asg (.nm 4) (.lst (.cons (.bl false) (.cons (.bl true) (.cons (.bl false) .nil))))) (.seq (.ret (.lc [5] (.nm 5) (.rng (.cons (.int 3) .nil)) (.ix (.var 4) (.var 5)) (.ix (.lst (.cons (.str [115, 99, 104, 101, 109, 97]) (.cons (.str [114, 117, 108, 101]) (.cons (.str [116, 97, 98, 108, 101]) .nil)))) (.var 5)))) .nil)) (.aS (.seq (.asg (.nm 4) (.lst (.cons (.bl true) (.cons (.bl false) (.cons (.bl false) .nil))))) (.seq (.ret (.lc [5] (.nm 5) (.rng (.cons (.int 3) .nil)) (.ix (.var 4) (.var 5)) (.ix (.lst (.cons (.str [115, 99, 104, 101, 109, 97]) (.cons (.str [114, 117, 108, 101]) (.cons (.str [116, 97, 98, 108, 101]) .nil)))) (.var 5)))) .nil)) (.aS (.seq (.asg (.nm 4) (.lst (.cons (.bl false) (.cons (.bl false) (.cons (.bl true) .nil))))) (.seq (.ret (.lc [5] (.nm 5) (.rng (.cons (.int 3) .nil)) (.ix (.var 4) (.var 5)) (.ix (.lst (.cons (.str [115, 99, 104, 101, 109, 97]) (.cons (.str [114, 117, 108, 101]) (.cons (.str [116, 97, 98, 108, 101]) .nil)))) (.var 5)))) .nil)) .nil))))) (.seq (.ret (.lst .nil)) .nil))
def N_law : List Str := ["script", "draws", "schema", "great", "right", "rule", "pair", "wrong"]
def b_law : S := (.seq (.asg (.nm 1) (.cal 19 (.cons (.var 0) (.cons (.int 120) .nil)))) (.seq (.asg (.nm 2) (.cal 24 (.cons (.var 1) (.cons (.int 4) .nil)))) (.seq (.asg (.nm 3) (.cal 26 .nil)) (.seq (.for (.nm 4) (.e (.lst (.cons (.var 2) (.cons (.var 3) (.cons (.tup (.cons (.ix (.var 2) (.int 0)) (.cons (.tup .nil) .nil))) .nil))))) (.seq (.iff (.or (.cmp .isn (.cal 14 (.cons (.var 4) .nil)) (.bl true)) (.cmp .ne (.cal 18 (.cons (.var 4) (.cons (.tup .nil) .nil))) (.var 4))) (.seq (.ret (.bl false)) .nil) .nil) (.seq (.for (.nm 5) (.e (.ix (.var 4) (.int 1))) (.seq (.iff (.cmp .isn (.cal 16 (.cons (.tup (.cons (.ix (.var 4) (.int 0)) (.cons (.tup .nil) .nil))) (.cons (.var 5) .nil))) (.bl true)) (.seq (.ret (.bl false)) .nil) .nil) .nil)) (.seq (.for (.nm 6) (.e (.ix (.var 4) (.int 0))) (.seq (.iff (.cmp .ne (.cal 17 (.cons (.var 4) (.cons (.ix (.var 6) (.int 0)) .nil))) (.ix (.var 6) (.int 1))) (.seq (.ret (.bl false)) .nil) .nil) .nil)) .nil)))) (.seq (.iff (.or (.cmp .ne (.cal 18 (.cons (.tup (.cons (.ix (.var 2) (.int 0)) (.cons (.tup .nil) .nil))) (.cons (.ix (.var 2) (.int 1)) .nil))) (.var 2)) (.cmp .ne (.cal 29 (.cons (.str [119, 105, 116, 104]) (.cons (.var 3) (.cons (.slH (.ix (.var 3) (.int 1)) (.int 1)) .nil)))) (.lst (.cons (.str [114, 117, 108, 101]) .nil)))) (.seq (.ret (.bl false)) .nil) .nil) (.seq (.for (.nm 7) (.e (.cal 27 .nil)) (.seq (.iff (.or (.cmp .isn (.cal 14 (.cons (.tup (.cons (.var 7) (.cons (.tup .nil) .nil))) .nil)) (.bl false)) (.cmp .ne (.cal 29 (.cons (.str [114, 117, 108, 101]) (.cons (.tup (.cons (.var 7) (.cons (.tup .nil) .nil))) (.cons .non .nil)))) (.lst (.cons (.str [115, 99, 104, 101, 109, 97]) .nil)))) (.seq (.ret (.bl false)) .nil) .nil) .nil)) (.seq (.for (.nm 7) (.e (.cal 28 (.cons (.ix (.var 2) (.int 0)) .nil))) (.seq (.iff (.or (.cmp .isn (.cal 16 (.cons (.tup (.cons (.ix (.var 2) (.int 0)) (.cons (.tup .nil) .nil))) (.cons (.var 7) .nil))) (.bl false)) (.cmp .isn (.cal 14 (.cons (.tup (.cons (.ix (.var 2) (.int 0)) (.cons (.bin .add (.ix (.var 2) (.int 1)) (.tup (.cons (.var 7) .nil))) .nil))) .nil)) (.bl false))) (.seq (.ret (.bl false)) .nil) .nil) (.seq (.iff (.cmp .ne (.cal 29 (.cons (.str [119, 105, 116, 104]) (.cons (.var 2) (.cons (.tup (.cons (.var 7) .nil)) .nil)))) (.lst (.cons (.str [114, 117, 108, 101]) .nil))) (.seq (.ret (.bl false)) .nil) .nil) .nil))) (.seq (.for (.nm 7) (.e (.lst (.cons .non (.cons (.tup .nil) (.cons (.tup (.cons (.ix (.var 2) (.int 0)) .nil)) (.cons (.tup (.cons (.ix (.var 2) (.int 0)) (.cons (.bif .list (.ix (.var 2) (.int 1))) .nil))) (.cons (.lst (.cons (.ix (.var 2) (.int 0)) (.cons (.tup .nil) .nil))) (.cons (.tup (.cons (.ix (.var 2) (.int 0)) (.cons (.tup .nil) (.cons (.tup .nil) .nil)))) (.cons (.tup (.cons (.ix (.var 2) (.int 0)) (.cons .non .nil))) (.cons (.int 5) (.cons (.str [115]) .nil))))))))))) (.seq (.iff (.or (.cmp .isn (.cal 14 (.cons (.var 7) .nil)) (.bl false)) (.cmp .ne (.cal 29 (.cons (.str [99, 111, 108, 117, 109, 110, 115]) (.cons (.var 7) (.cons .non .nil)))) (.lst (.cons (.str [115, 99, 104, 101, 109, 97]) .nil)))) (.seq (.ret (.bl false)) .nil) .nil) .nil)) (.seq (.iff (.or (.cmp .isn (.cal 14 (.cons (.tup (.cons (.ix (.var 3) (.int 0)) (.cons (.bin .add (.ix (.var 3) (.int 1)) (.slH (.ix (.var 3) (.int 1)) (.int 1))) .nil))) .nil)) (.bl false)) (.cmp .ne (.cal 29 (.cons (.str [119, 105, 116, 104]) (.cons .non (.cons .non .nil)))) (.lst (.cons (.str [115, 99, 104, 101, 109, 97]) .nil)))) (.seq (.ret (.bl false)) .nil) .nil) (.seq (.for (.nm 7) (.e (.lst (.cons (.str [122, 122]) (.cons .non (.cons (.int 0) (.cons (.tup .nil) (.cons (.ix (.ix (.var 2) (.int 0)) (.int 0)) .nil))))))) (.seq (.iff (.cmp .ne (.cal 29 (.cons (.str [99, 111, 108, 117, 109, 110, 115]) (.cons (.var 2) (.cons (.var 7) .nil)))) (.lst (.cons (.str [116, 97, 98, 108, 101]) .nil))) (.seq (.ret (.bl false)) .nil) .nil) .nil)) (.seq (.ret (.and (.cmp .eq (.cal 29 (.cons (.str [119, 105, 116, 104]) (.cons (.var 2) (.cons .non .nil)))) (.lst (.cons (.str [114, 117, 108, 101]) .nil))) (.cmp .eq (.cal 29 (.cons (.str [119, 105, 116, 104]) (.cons (.var 2) (.cons (.lst (.cons (.tup (.cons (.str [111, 110, 108, 121]) (.cons (.str [112]) (.cons (.str [97]) (.cons (.tup (.cons (.str [48]) .nil)) .nil))))) .nil)) .nil)))) (.lst (.cons (.str [114, 117, 108, 101]) .nil))))) .nil)))))))))))
def P : List Fn := [⟨1, 2, b_is_worth⟩,
  ⟨1, 1, b_is_name⟩,
  ⟨1, 2, b_is_rising⟩,
  ⟨1, 2, b_are_unlike⟩,
  ⟨2, 2, b_is_word⟩,
  ⟨2, 2, b_is_tuple_of⟩,
  ⟨3, 4, b_is_names⟩,
  ⟨1, 4, b_are_tables⟩,
  ⟨3, 4, b_are_columns_of⟩,
  ⟨2, 4, b_is_rule_of⟩,
  ⟨1, 2, b_is_worths⟩,
  ⟨2, 8, b_ways_of⟩,
  ⟨2, 8, b_reach_of⟩,
  ⟨2, 7, b_has_no_ring⟩,
  ⟨1, 2, b_is_schema⟩,
  ⟨1, 1, b_ask_schema⟩,
  ⟨2, 2, b_is_rule⟩,
  ⟨2, 4, b_columns_of⟩,
  ⟨2, 4, b_with_rules⟩,
  ⟨2, 9, b__law_draws⟩,
  ⟨2, 2, b__law_next⟩,
  ⟨1, 5, b__law_tables⟩,
  ⟨3, 5, b__law_some_of⟩,
  ⟨2, 10, b__law_rule⟩,
  ⟨2, 4, b__law_schema⟩,
  ⟨2, 3, b__law_columns⟩,
  ⟨0, 3, b__law_great⟩,
  ⟨0, 2, b__law_wrong_tables⟩,
  ⟨1, 6, b__law_wrong_rules⟩,
  ⟨3, 6, b__law_kind⟩,
  ⟨1, 8, b_law⟩]
abbrev i_is_worth : Nat := 0
theorem p_is_worth : P[i_is_worth]? = some ⟨1, 2, b_is_worth⟩ := rfl
abbrev i_is_name : Nat := 1
theorem p_is_name : P[i_is_name]? = some ⟨1, 1, b_is_name⟩ := rfl
abbrev i_is_rising : Nat := 2
theorem p_is_rising : P[i_is_rising]? = some ⟨1, 2, b_is_rising⟩ := rfl
abbrev i_are_unlike : Nat := 3
theorem p_are_unlike : P[i_are_unlike]? = some ⟨1, 2, b_are_unlike⟩ := rfl
abbrev i_is_word : Nat := 4
theorem p_is_word : P[i_is_word]? = some ⟨2, 2, b_is_word⟩ := rfl
abbrev i_is_tuple_of : Nat := 5
theorem p_is_tuple_of : P[i_is_tuple_of]? = some ⟨2, 2, b_is_tuple_of⟩ := rfl
abbrev i_is_names : Nat := 6
theorem p_is_names : P[i_is_names]? = some ⟨3, 4, b_is_names⟩ := rfl
abbrev i_are_tables : Nat := 7
theorem p_are_tables : P[i_are_tables]? = some ⟨1, 4, b_are_tables⟩ := rfl
abbrev i_are_columns_of : Nat := 8
theorem p_are_columns_of : P[i_are_columns_of]? = some ⟨3, 4, b_are_columns_of⟩ := rfl
abbrev i_is_rule_of : Nat := 9
theorem p_is_rule_of : P[i_is_rule_of]? = some ⟨2, 4, b_is_rule_of⟩ := rfl
abbrev i_is_worths : Nat := 10
theorem p_is_worths : P[i_is_worths]? = some ⟨1, 2, b_is_worths⟩ := rfl
abbrev i_ways_of : Nat := 11
theorem p_ways_of : P[i_ways_of]? = some ⟨2, 8, b_ways_of⟩ := rfl
abbrev i_reach_of : Nat := 12
theorem p_reach_of : P[i_reach_of]? = some ⟨2, 8, b_reach_of⟩ := rfl
abbrev i_has_no_ring : Nat := 13
theorem p_has_no_ring : P[i_has_no_ring]? = some ⟨2, 7, b_has_no_ring⟩ := rfl
abbrev i_is_schema : Nat := 14
theorem p_is_schema : P[i_is_schema]? = some ⟨1, 2, b_is_schema⟩ := rfl
abbrev i_ask_schema : Nat := 15
theorem p_ask_schema : P[i_ask_schema]? = some ⟨1, 1, b_ask_schema⟩ := rfl
abbrev i_is_rule : Nat := 16
theorem p_is_rule : P[i_is_rule]? = some ⟨2, 2, b_is_rule⟩ := rfl
abbrev i_columns_of : Nat := 17
theorem p_columns_of : P[i_columns_of]? = some ⟨2, 4, b_columns_of⟩ := rfl
abbrev i_with_rules : Nat := 18
theorem p_with_rules : P[i_with_rules]? = some ⟨2, 4, b_with_rules⟩ := rfl
abbrev i__law_draws : Nat := 19
theorem p__law_draws : P[i__law_draws]? = some ⟨2, 9, b__law_draws⟩ := rfl
abbrev i__law_next : Nat := 20
theorem p__law_next : P[i__law_next]? = some ⟨2, 2, b__law_next⟩ := rfl
abbrev i__law_tables : Nat := 21
theorem p__law_tables : P[i__law_tables]? = some ⟨1, 5, b__law_tables⟩ := rfl
abbrev i__law_some_of : Nat := 22
theorem p__law_some_of : P[i__law_some_of]? = some ⟨3, 5, b__law_some_of⟩ := rfl
abbrev i__law_rule : Nat := 23
theorem p__law_rule : P[i__law_rule]? = some ⟨2, 10, b__law_rule⟩ := rfl
abbrev i__law_schema : Nat := 24
theorem p__law_schema : P[i__law_schema]? = some ⟨2, 4, b__law_schema⟩ := rfl
abbrev i__law_columns : Nat := 25
theorem p__law_columns : P[i__law_columns]? = some ⟨2, 3, b__law_columns⟩ := rfl
abbrev i__law_great : Nat := 26
theorem p__law_great : P[i__law_great]? = some ⟨0, 3, b__law_great⟩ := rfl
abbrev i__law_wrong_tables : Nat := 27
theorem p__law_wrong_tables : P[i__law_wrong_tables]? = some ⟨0, 2, b__law_wrong_tables⟩ := rfl
abbrev i__law_wrong_rules : Nat := 28
theorem p__law_wrong_rules : P[i__law_wrong_rules]? = some ⟨1, 6, b__law_wrong_rules⟩ := rfl
abbrev i__law_kind : Nat := 29
theorem p__law_kind : P[i__law_kind]? = some ⟨3, 6, b__law_kind⟩ := rfl
abbrev i_law : Nat := 30
theorem p_law : P[i_law]? = some ⟨1, 8, b_law⟩ := rfl
def G0 : GT := [("is_worth", .fn 0),
  ("is_name", .fn 1),
  ("is_rising", .fn 2),
  ("are_unlike", .fn 3),
  ("is_word", .fn 4),
  ("is_tuple_of", .fn 5),
  ("is_names", .fn 6),
  ("are_tables", .fn 7),
  ("are_columns_of", .fn 8),
  ("is_rule_of", .fn 9),
  ("is_worths", .fn 10),
  ("ways_of", .fn 11),
  ("reach_of", .fn 12),
  ("has_no_ring", .fn 13),
  ("is_schema", .fn 14),
  ("ask_schema", .fn 15),
  ("is_rule", .fn 16),
  ("columns_of", .fn 17),
  ("with_rules", .fn 18),
  ("_law_draws", .fn 19),
  ("_law_next", .fn 20),
  ("_law_tables", .fn 21),
  ("_law_some_of", .fn 22),
  ("_law_rule", .fn 23),
  ("_law_schema", .fn 24),
  ("_law_columns", .fn 25),
  ("_law_great", .fn 26),
  ("_law_wrong_tables", .fn 27),
  ("_law_wrong_rules", .fn 28),
  ("_law_kind", .fn 29)]
def G1 : GT := [("law", .fn 30),
  ("SMALL", .str [97, 98, 99, 100, 101, 102, 103, 104, 105, 106, 107, 108, 109, 110, 111, 112, 113, 114, 115, 116, 117, 118, 119, 120, 121, 122, 48, 49, 50, 51, 52, 53, 54, 55, 56, 57]),
  ("LETTERS", .str [97, 98, 99, 100, 101, 102, 103, 104, 105, 106, 107, 108, 109, 110, 111, 112, 113, 114, 115, 116, 117, 118, 119, 120, 121, 122]),
  ("MOST_TABLES", .int 8),
  ("MOST_COLUMNS", .int 6),
  ("MOST_RULES", .int 30),
  ("MOST_WORTHS", .int 6),
  ("HouseError", .cls 0),
  ("NoRule", .cls 1),
  ("NoSchema", .cls 2),
  ("NoTable", .cls 3),
  ("abs", .blt),
  ("all", .blt),
  ("any", .blt),
  ("dict", .blt),
  ("int", .blt),
  ("isinstance", .blt),
  ("len", .blt),
  ("list", .blt),
  ("range", .blt),
  ("str", .blt),
  ("tuple", .blt),
  ("zip", .blt)]
def G : GT := G0 ++ G1
def sb : List (List Bool) := [[true, false, false, false], [true, true, false, false], [true, false, true, false], [true, false, false, true]]
theorem c_is_worth : cSs (cS G sb 40 ⟨N_is_worth, defScope (top 8), none⟩) (defBody (top 8)) = some b_is_worth := by kernel_rfl
theorem c_is_name : cSs (cS G sb 40 ⟨N_is_name, defScope (top 9), none⟩) (defBody (top 9)) = some b_is_name := by kernel_rfl
theorem c_is_rising : cSs (cS G sb 40 ⟨N_is_rising, defScope (top 10), none⟩) (defBody (top 10)) = some b_is_rising := by kernel_rfl
theorem c_are_unlike : cSs (cS G sb 40 ⟨N_are_unlike, defScope (top 11), none⟩) (defBody (top 11)) = some b_are_unlike := by kernel_rfl
theorem c_is_word : cSs (cS G sb 40 ⟨N_is_word, defScope (top 12), none⟩) (defBody (top 12)) = some b_is_word := by kernel_rfl
theorem c_is_tuple_of : cSs (cS G sb 40 ⟨N_is_tuple_of, defScope (top 13), none⟩) (defBody (top 13)) = some b_is_tuple_of := by kernel_rfl
theorem c_is_names : cSs (cS G sb 40 ⟨N_is_names, defScope (top 14), none⟩) (defBody (top 14)) = some b_is_names := by kernel_rfl
theorem c_are_tables : cSs (cS G sb 40 ⟨N_are_tables, defScope (top 20), none⟩) (defBody (top 20)) = some b_are_tables := by kernel_rfl
theorem c_are_columns_of : cSs (cS G sb 40 ⟨N_are_columns_of, defScope (top 21), none⟩) (defBody (top 21)) = some b_are_columns_of := by kernel_rfl
theorem c_is_rule_of : cSs (cS G sb 40 ⟨N_is_rule_of, defScope (top 22), none⟩) (defBody (top 22)) = some b_is_rule_of := by kernel_rfl
theorem c_is_worths : cSs (cS G sb 40 ⟨N_is_worths, defScope (top 23), none⟩) (defBody (top 23)) = some b_is_worths := by kernel_rfl
theorem c_ways_of : cSs (cS G sb 40 ⟨N_ways_of, defScope (top 24), none⟩) (defBody (top 24)) = some b_ways_of := by kernel_rfl
theorem c_reach_of : cSs (cS G sb 40 ⟨N_reach_of, defScope (top 25), none⟩) (defBody (top 25)) = some b_reach_of := by kernel_rfl
theorem c_has_no_ring : cSs (cS G sb 40 ⟨N_has_no_ring, defScope (top 26), none⟩) (defBody (top 26)) = some b_has_no_ring := by kernel_rfl
theorem c_is_schema : cSs (cS G sb 40 ⟨N_is_schema, defScope (top 27), none⟩) (defBody (top 27)) = some b_is_schema := by kernel_rfl
theorem c_ask_schema : cSs (cS G sb 40 ⟨N_ask_schema, defScope (top 28), none⟩) (defBody (top 28)) = some b_ask_schema := by kernel_rfl
theorem c_is_rule : cSs (cS G sb 40 ⟨N_is_rule, defScope (top 29), none⟩) (defBody (top 29)) = some b_is_rule := by kernel_rfl
theorem c_columns_of : cSs (cS G sb 40 ⟨N_columns_of, defScope (top 30), none⟩) (defBody (top 30)) = some b_columns_of := by kernel_rfl
theorem c_with_rules : cSs (cS G sb 40 ⟨N_with_rules, defScope (top 31), none⟩) (defBody (top 31)) = some b_with_rules := by kernel_rfl
theorem c__law_draws : cSs (cS G sb 40 ⟨N__law_draws, defScope (top 33), none⟩) (defBody (top 33)) = some b__law_draws := by kernel_rfl
theorem c__law_next : cSs (cS G sb 40 ⟨N__law_next, defScope (top 34), none⟩) (defBody (top 34)) = some b__law_next := by kernel_rfl
theorem c__law_tables : cSs (cS G sb 40 ⟨N__law_tables, defScope (top 35), none⟩) (defBody (top 35)) = some b__law_tables := by kernel_rfl
theorem c__law_some_of : cSs (cS G sb 40 ⟨N__law_some_of, defScope (top 36), none⟩) (defBody (top 36)) = some b__law_some_of := by kernel_rfl
theorem c__law_rule : cSs (cS G sb 40 ⟨N__law_rule, defScope (top 37), none⟩) (defBody (top 37)) = some b__law_rule := by kernel_rfl
theorem c__law_schema : cSs (cS G sb 40 ⟨N__law_schema, defScope (top 38), none⟩) (defBody (top 38)) = some b__law_schema := by kernel_rfl
theorem c__law_columns : cSs (cS G sb 40 ⟨N__law_columns, defScope (top 39), none⟩) (defBody (top 39)) = some b__law_columns := by kernel_rfl
theorem c__law_great : cSs (cS G sb 40 ⟨N__law_great, defScope (top 40), none⟩) (defBody (top 40)) = some b__law_great := by kernel_rfl
theorem c__law_wrong_tables : cSs (cS G sb 40 ⟨N__law_wrong_tables, defScope (top 41), none⟩) (defBody (top 41)) = some b__law_wrong_tables := by kernel_rfl
theorem c__law_wrong_rules : cSs (cS G sb 40 ⟨N__law_wrong_rules, defScope (top 42), none⟩) (defBody (top 42)) = some b__law_wrong_rules := by kernel_rfl
theorem c__law_kind : cSs (cS G sb 40 ⟨N__law_kind, defScope (top 43), none⟩) (defBody (top 43)) = some b__law_kind := by kernel_rfl
theorem c_law : cSs (cS G sb 40 ⟨N_law, defScope (top 44), none⟩) (defBody (top 44)) = some b_law := by kernel_rfl
end K00
end
section
set_option linter.all false
set_option maxRecDepth 100000
set_option maxHeartbeats 4000000
set_option autoImplicit false
namespace K00
open Mp
theorem next_ok (k : Nat) (h : Hd) (ds : List Int) (n : Int) (hn : 0 < n) (hh : h[0]? = some (.lst (ds.map D.int))) :
    ∃ v ds', 0 ≤ v ∧ v < n ∧ callF P 100 (k+1) i__law_next [.ref 0, .int n] h = .ok (.int v) (h.set 0 (.lst (List.map D.int ds'))) := by
  rw [callF_im p__law_next rfl rfl]
  unfold runB b__law_next
  cases ds with
  | nil =>
    refine ⟨0, [], by omega, hn, ?_⟩
    have e : h.set 0 (.lst (List.map D.int [])) = h := by
      cases h with
      | nil => simp at hh
      | cons a r => simp at hh; simp [hh]
    rw [e]
    simp only [ex, ev, start, truth, R.bind, hh, List.map, List.replicate, List.getElem?_cons_zero, evT, tst, R.get, List.append, List.isEmpty]
    simp [hh, fin_same]
  | cons a r =>
    refine ⟨a.fmod n, r, Int.fmod_nonneg_of_pos _ hn, Int.fmod_lt_of_pos _ hn, ?_⟩
    simp only [ex, ev, evs, start, truth, R.bind, hh, List.map, List.replicate, List.getElem?_cons_zero, evT, tst, R.get, List.append, List.isEmpty, metP, metO, bifO, binO, reg]
    simp [hh, fin_same, ixN, List.length_set, Nat.ne_of_gt, show n ≠ 0 by omega, bifO, binO, metO, metP, R.bind]
theorem cut_map {α β : Type} (f : α → β) (xs : List α) (lo hi : Option Int) : cut (xs.map f) lo hi = (cut xs lo hi).map f := by
  unfold cut
  simp [List.map_take, List.map_drop]
theorem smul (x y : Int) (hy : small64 y = true) : (small64 x || small64 y) = true := by rw [hy, Bool.or_true]
theorem set_app1 (h0 : List Ob) (a b o : Ob) : (h0 ++ [a, b]).set (h0.length + 1) o = h0 ++ [a, o] := by rw [List.set_append_right _ _ (by omega)]; simp
theorem set_app0 (h0 : List Ob) (a b o : Ob) : (h0 ++ [a, b]).set h0.length o = h0 ++ [o, b] := by rw [List.set_append_right _ _ (by omega)]; simp
def bodyD : S := match b__law_draws with
  | .seq _ (.seq _ (.seq _ (.seq _ (.seq (.for _ _ b) _)))) => b
  | _ => .nil
theorem at_int {cs : List Int} {j : Int} (h0 : 0 ≤ j) (h1 : j < cs.length) : ∃ c, atI (cs.map D.int) j = some (.int c) := by
  unfold atI ixN
  simp only [h0, if_true, List.length_map, h1]
  have : j.toNat < cs.length := by omega
  exact ⟨cs[j.toNat], by simp [List.getElem?_eq_getElem this]⟩
theorem draws_tail (F : Nat → List D → Hd → R D) (h0 : Hd) (i : Nat) (cs : List Int) (hc : cs ≠ []) (hi : h0[i]? = some (.lst (cs.map D.int))) (sc e3 : Option D) :
    ∃ env' ls ds, ls.length = cs.length ∧ forL (.nm 6) (ex F 100 bodyD) [] (rngD 0 120) [sc, some (.int 120), some (.ref i), e3, some (.ref h0.length), some (.ref (h0.length + 1)), none, none, none] (h0 ++ [.lst (cs.map D.int), .lst []]) =
      .ok (.nx, env') (h0 ++ [.lst (List.map D.int ls), .lst (List.map D.int ds)]) ∧ env'[5]? = some (some (.ref (h0.length + 1))) := by
  have hil : i < h0.length := (List.getElem?_eq_some_iff.mp hi).1
  have hst : ∃ (j : Int) (n : Nat) (a b c : Option D) (ls ds : List Int), rngD 0 120 = rngD j n ∧ (0 ≤ j ∧ j + n = 120) ∧ ds.length + n = 120 ∧ ls.length = cs.length ∧
      ([sc, some (D.int 120), some (D.ref i), e3, some (D.ref h0.length), some (D.ref (h0.length + 1)), none, none, none] : Env) = [sc, some (.int 120), some (.ref i), e3, some (.ref h0.length), some (.ref (h0.length + 1)), a, b, c] ∧ h0 ++ [Ob.lst (cs.map D.int), Ob.lst []] = h0 ++ [.lst (ls.map D.int), .lst (ds.map D.int)] := by
    refine ⟨0, 120, none, none, none, cs, [], ?_, ?_, ?_, rfl, rfl, rfl⟩
    · rfl
    · exact ⟨by omega, by omega⟩
    · rfl
  have L := forL_inv (t := .nm 6) (body := ex F 100 bodyD) (gs := []) (fun xs env h => ∃ (j : Int) (n : Nat) (a b c : Option D) (ls ds : List Int), xs = rngD j n ∧ (0 ≤ j ∧ j + n = 120) ∧ ds.length + n = 120 ∧ ls.length = cs.length ∧
      env = [sc, some (.int 120), some (.ref i), e3, some (.ref h0.length), some (.ref (h0.length + 1)), a, b, c] ∧ h = h0 ++ [.lst (ls.map D.int), .lst (ds.map D.int)]) ?_ (fun _ _ _ => rfl)
    (rngD 0 120) [sc, some (.int 120), some (.ref i), e3, some (.ref h0.length), some (.ref (h0.length + 1)), none, none, none] (h0 ++ [.lst (cs.map D.int), .lst []]) hst
  · obtain ⟨env', h', e1, j, n, a, b, c, ls, ds, e2, e3, e4, e5, e6, e7⟩ := L
    subst e6 e7
    exact ⟨_, ls, ds, e5, e1, rfl⟩
  · rintro x xs env h ⟨j, n, a0', b0', c0', ls, ds, e1, e2, e4, e5, e6, e7⟩
    refine ⟨rfl, ?_⟩
    cases n with
    | zero => cases e1
    | succ n =>
      simp only [rngD, List.cons.injEq] at e1
      obtain ⟨e1, e1'⟩ := e1
      subst e1 e1' e6 e7
      refine ⟨_, rfl, ?_⟩
      have cpos : 0 < (cs.length : Int) := by
        cases cs with
        | nil => exact (hc rfl).elim
        | cons _ _ => simp
      have a0 := Int.fmod_nonneg_of_pos j cpos
      have a1 := Int.fmod_lt_of_pos j cpos
      obtain ⟨c, hcv⟩ := at_int a0 a1
      obtain ⟨l, hlv⟩ := at_int (cs := ls) (j := j.fmod cs.length) a0 (by rw [e5]; exact a1)
      have q1 : (h0 ++ [Ob.lst (ls.map D.int), Ob.lst (ds.map D.int)])[i]? = some (.lst (cs.map D.int)) := by rw [List.getElem?_append_left hil]; exact hi
      have q2 : (h0 ++ [Ob.lst (ls.map D.int), Ob.lst (ds.map D.int)])[h0.length]? = some (.lst (ls.map D.int)) := by simp
      have q3 : (h0 ++ [Ob.lst (ls.map D.int), Ob.lst (ds.map D.int)])[h0.length + 1]? = some (.lst (ds.map D.int)) := by simp
      have ne : (cs.length : Int) ≠ 0 := by omega
      have lds : ds.length < lim := by unfold lim; omega
      have q4 : ixN ls.length (j.fmod cs.length) = some (j.fmod cs.length).toNat := z_ix_in a0 (by rw [e5]; exact a1)
      have sm5 : (small64 j || small64 j) = true := by unfold small64 pow2; simp; omega
      have w1 : ∀ a b o : Ob, (h0 ++ [a, b]).set (h0.length + 1) o = h0 ++ [a, o] := fun a b o => set_app1 h0 a b o
      have w0 : ∀ a b o : Ob, (h0 ++ [a, b]).set h0.length o = h0 ++ [o, b] := fun a b o => set_app0 h0 a b o
      have q5 : ∀ o, (h0 ++ [Ob.lst (ls.map D.int), o])[h0.length]? = some (.lst (ls.map D.int)) := fun o => by simp
      have fin1 : ∀ (v : Int) (ls' : List Int) (a b : Option D), ls'.length = ls.length → ∃ (j' : Int) (n' : Nat) (a' b' c' : Option D) (ls2 ds2 : List Int), rngD (j + 1) n = rngD j' n' ∧ (0 ≤ j' ∧ j' + n' = 120) ∧ List.length ds2 + n' = 120 ∧ List.length ls2 = cs.length ∧
          [sc, some (D.int 120), some (D.ref i), e3, some (D.ref h0.length), some (D.ref (h0.length + 1)), some (D.int j), a, b] = [sc, some (D.int 120), some (D.ref i), e3, some (D.ref h0.length), some (D.ref (h0.length + 1)), a', b', c'] ∧
          h0 ++ [Ob.lst (ls'.map D.int), Ob.lst (ds.map D.int ++ [D.int v])] = h0 ++ [Ob.lst (List.map D.int ls2), Ob.lst (List.map D.int ds2)] := fun v ls' a b el =>
        ⟨j + 1, n, _, a, b, ls', ds ++ [v], rfl, ⟨by omega, by omega⟩, by simp; omega, by omega, rfl, by simp⟩
      have key : ∃ (v : Int) (ls' : List Int) (a b : Option D), ls'.length = ls.length ∧ ex F 100 bodyD [sc, some (D.int 120), some (D.ref i), e3, some (D.ref h0.length), some (D.ref (h0.length + 1)), some (D.int j), b0', c0'] (h0 ++ [Ob.lst (ls.map D.int), Ob.lst (ds.map D.int)]) =
          .ok (.nx, [sc, some (D.int 120), some (D.ref i), e3, some (D.ref h0.length), some (D.ref (h0.length + 1)), some (D.int j), a, b]) (h0 ++ [Ob.lst (ls'.map D.int), Ob.lst (ds.map D.int ++ [D.int v])]) := by
        unfold bodyD b__law_draws
        have hat : ev F (.bin .mod (.bif .int (.var 6)) (.bif .len (.var 2))) [sc, some (D.int 120), some (D.ref i), e3, some (D.ref h0.length), some (D.ref (h0.length + 1)), some (D.int j), b0', c0'] (h0 ++ [Ob.lst (ls.map D.int), Ob.lst (ds.map D.int)]) = .ok (.int (j.fmod cs.length)) (h0 ++ [Ob.lst (ls.map D.int), Ob.lst (ds.map D.int)]) := by
          simp only [ev, List.getElem?_cons_succ, List.getElem?_cons_zero, z_bind_ok, z_bif_int, z_bif_lenr q1, List.length_map, z_bin_mod ne]
        have ht : evT F (.and (.cmp .ge (.ix (.var 2) (.var 7)) (.bin .pow (.int 10) (.int 18))) (.cmp .gt (.ix (.var 4) (.var 7)) (.int 0))) [sc, some (D.int 120), some (D.ref i), e3, some (D.ref h0.length), some (D.ref (h0.length + 1)), some (D.int j), some (.int (j.fmod cs.length)), c0'] (h0 ++ [Ob.lst (ls.map D.int), Ob.lst (ds.map D.int)]) =
            .ok (decide ((10 : Int) ^ Int.toNat 18 ≤ c) && decide (0 < l)) (h0 ++ [Ob.lst (ls.map D.int), Ob.lst (ds.map D.int)]) := by
          simp only [evT, tst, ev, List.getElem?_cons_succ, List.getElem?_cons_zero, z_bind_ok, z_ix_ref q1, z_ix_ref q2, hcv, hlv, z_get_some, z_bin_pow (i := 10) (j := 18) (by decide), z_cmp_ge, z_cmp_gt, z_truth_bl]
          cases decide ((10 : Int) ^ Int.toNat 18 ≤ c) <;> rfl
        cases g : (decide ((10 : Int) ^ Int.toNat 18 ≤ c) && decide (0 < l)) with
        | true =>
          rw [g] at ht
          refine ⟨l.fmod 1000, ls.set (j.fmod cs.length).toNat (l.fdiv 1000), some (.int (j.fmod cs.length)), c0', by simp, ?_⟩
          have em : (ls.map D.int).set (j.fmod cs.length).toNat (.int (l.fdiv 1000)) = (ls.set (j.fmod cs.length).toNat (l.fdiv 1000)).map D.int := by rw [List.map_set]
          refine z_seq (z_asg hat rfl) (z_seq (z_ift ht (z_seq (z_exs (h1 := h0 ++ [Ob.lst (ls.map D.int), Ob.lst (ds.map D.int ++ [D.int (l.fmod 1000)])]) (d := .non) ?_) (z_seq (z_sas (x := .int (l.fdiv 1000)) (h1 := h0 ++ [Ob.lst (ls.map D.int), Ob.lst (ds.map D.int ++ [D.int (l.fmod 1000)])]) (h2 := h0 ++ [Ob.lst (ls.map D.int), Ob.lst (ds.map D.int ++ [D.int (l.fmod 1000)])]) (h3 := h0 ++ [Ob.lst (ls.map D.int), Ob.lst (ds.map D.int ++ [D.int (l.fmod 1000)])]) (o := .ref h0.length) (k := .int (j.fmod cs.length)) ?_ ?_ ?_ ?_) z_nil))) z_nil)
          · simp only [ev, evs, List.set, List.getElem?_cons_succ, List.getElem?_cons_zero, z_bind_ok, z_bif_int, z_ix_ref q2, hlv, z_get_some, z_metP_app q3, if_true, z_bin_mod (j := 1000) (by decide), z_reg_int, z_met_app q3 (by simpa using lds), w1]
          · simp only [ev, List.set, List.getElem?_cons_succ, List.getElem?_cons_zero, z_bind_ok, z_reg_int, z_ix_ref (q5 _), hlv, z_get_some, z_bin_fdv (j := 1000) (by decide)]
          · simp only [ev, List.set, List.getElem?_cons_succ, List.getElem?_cons_zero, z_reg_int]
          · simp only [ev, List.set, List.getElem?_cons_succ, List.getElem?_cons_zero, z_reg_int]
          · rw [z_set_lst (q5 _) (by rw [List.length_map]; exact q4), w0, z_reg_int, em]
        | false =>
          rw [g] at ht
          refine ⟨((((((c + 7) * 48271 + (j + 1) * 69621).fmod 2147483647) * 16807 + j * j * 40692 + 12345).fmod 2147483399)).fdiv 64, ls, some (.int (j.fmod cs.length)), some (.int (((((c + 7) * 48271 + (j + 1) * 69621).fmod 2147483647) * 16807 + j * j * 40692 + 12345).fmod 2147483399)), rfl, ?_⟩
          refine z_seq (z_asg hat rfl) (z_seq (z_iff0 ht (z_seq (z_asg (d := .int (((c + 7) * 48271 + (j + 1) * 69621).fmod 2147483647)) (h1 := h0 ++ [Ob.lst (ls.map D.int), Ob.lst (ds.map D.int)]) ?_ rfl) (z_seq (z_asg (d := .int (((((c + 7) * 48271 + (j + 1) * 69621).fmod 2147483647) * 16807 + j * j * 40692 + 12345).fmod 2147483399)) (h1 := h0 ++ [Ob.lst (ls.map D.int), Ob.lst (ds.map D.int)]) ?_ rfl) (z_seq (z_exs (d := .non) ?_) z_nil)))) z_nil)
          · simp only [ev, List.set, List.getElem?_cons_succ, List.getElem?_cons_zero, z_bind_ok, z_bif_int, z_reg_int, z_ix_ref q1, hcv, z_get_some, z_bin_add, z_bin_mul (smul _ 48271 (by decide)), z_bin_mul (smul _ 69621 (by decide)), z_bin_mod (j := 2147483647) (by decide)]
          · simp only [ev, List.set, List.getElem?_cons_succ, List.getElem?_cons_zero, z_bind_ok, z_bif_int, z_reg_int, z_bin_add, z_bin_mul (smul _ 16807 (by decide)), z_bin_mul (smul _ 40692 (by decide)), z_bin_mul sm5, z_bin_mod (j := 2147483399) (by decide)]
          · simp only [ev, evs, List.set, List.getElem?_cons_succ, List.getElem?_cons_zero, z_bind_ok, z_reg_int, z_metP_app q3, if_true, z_bin_fdv (j := 64) (by decide), z_met_app q3 (by simpa using lds), w1]
      obtain ⟨v, ls', a, b, k1, k2⟩ := key
      exact ⟨_, _, _, k2, .inl rfl, fin1 v ls' a b k1⟩
end K00
end
section
set_option linter.all false
set_option maxRecDepth 100000
set_option maxHeartbeats 4000000
set_option autoImplicit false
namespace K00
open Mp
theorem draws_mid (F : Nat → List D → Hd → R D) (h0 : Hd) (i : Nat) (cs : List Int) (hc : cs ≠ []) (hi : h0[i]? = some (.lst (cs.map D.int))) (sc e3 : Option D) (hp : ∀ o ∈ h0, True) :
    ∃ env' h1 ds, ex F 100 (.seq (.asg (.nm 4) (.bif .list (.var 2))) (.seq (.asg (.nm 5) (.lst .nil)) (.seq (.for (.nm 6) (.rng (.cons (.var 1) .nil)) bodyD) (.seq (.ret (.var 5)) .nil)))) [sc, some (.int 120), some (.ref i), e3, none, none, none, none, none] h0 = .ok (.rt (.ref (h0.length + 1)), env') h1 ∧ h1[h0.length + 1]? = some (.lst (List.map D.int ds)) := by
  obtain ⟨env', ls, ds, e1, e2, e3'⟩ := draws_tail F h0 i cs hc hi sc e3
  refine ⟨env', h0 ++ [.lst (List.map D.int ls), .lst (List.map D.int ds)], ds, ?_, by simp⟩
  refine z_seq (z_asg (d := .tl (cs.map D.int)) (h1 := h0) ?_ rfl) (z_seq (z_asg (d := .tl []) (h1 := h0 ++ [.lst (cs.map D.int)]) ?_ rfl) (z_seq (env1 := env') (h1 := h0 ++ [.lst (List.map D.int ls), .lst (List.map D.int ds)]) (z_for (xs := rngD 0 120) (gs := []) (h1 := h0 ++ [.lst (cs.map D.int), .lst []]) ?_ ?_) (z_seqr (fl := .rt (.ref (h0.length + 1))) (by simp) (z_ret (d := .ref (h0.length + 1)) ?_))))
  · simp only [ev, List.getElem?_cons_succ, List.getElem?_cons_zero, z_bind_ok, z_bif_listr hi]
  · simp only [ev, evs, z_bind_ok]
    rfl
  · simp only [evI, evs, ev, List.set, List.getElem?_cons_succ, List.getElem?_cons_zero, z_bind_ok, z_reg_int, z_reg_tl]
    simp only [List.append_assoc, List.cons_append, List.nil_append]
    rfl
  · simp only [z_reg_tl, List.set, List.length_append, List.length_cons, List.length_nil]
    exact e2
  · simp only [ev, e3']
theorem draws_ok (k : Nat) (ns : List Int) : ∃ ds : List Int, callF P 100 (k + 1) i__law_draws [.lck (ns.map D.int), .int 120] [] = .ok (.tl (ds.map D.int)) [] := by
  have hp : D.pures [D.lck (ns.map D.int), D.int 120] = true := by simp only [D.pures, D.pure, pures_ints, Bool.and_self]
  suffices h : ∃ ds : List Int, runB (callF P 100 k) 100 ⟨2, 9, b__law_draws⟩ [.lck (ns.map D.int), .int 120] [] = .ok (.tl (ds.map D.int)) [] by
    obtain ⟨ds, h⟩ := h
    exact ⟨ds, callF_pu p__law_draws rfl hp h (by simp only [D.pure, pures_ints])⟩
  generalize callF P 100 k = F
  have key : ∀ cs : List Int, (cut ns none (some 63)).map (fun i => if i < 0 then -i else i) = cs → cs.length ≤ lim → ∃ env' h1 n ds, ex F 100 b__law_draws (start 9 [.lck (ns.map D.int), .int 120]) [] = .ok (.rt (.ref n), env') h1 ∧ h1[n]? = some (.lst (List.map D.int ds)) := by
    intro cs ec hcl
    have hlc : ev F (.lc [3] (.nm 3) (.e (.slH (.var 0) (.int 63))) (.bl true) (.bif .abs (.bif .int (.var 3)))) (start 9 [.lck (ns.map D.int), .int 120]) [] = .ok (.tl (cs.map D.int)) [] := by
      refine z_lc (xs := (cut ns none (some 63)).map D.int) (gs := []) (h1 := []) ?_ ?_
      · simp only [evI, ev, start, List.map, List.replicate, List.cons_append, List.getElem?_cons_zero, z_bind_ok, int?, slcO, lstOf, z_get_some, itOf, seqOf, gOf, cut_map]
      · rw [lcL_map (fun _ => true) (fun d => match d with | .int i => .int (if i < 0 then -i else i) | d => d) rfl _ ?_ [] (by simpa [← ec] using hcl)]
        · have ef : ∀ l : List D, l.filter (fun _ => true) = l := fun l => by simp
          rw [ef, ← ec, List.nil_append, List.map_map, List.map_map]
          rfl
        · intro x hx
          obtain ⟨i, _, e⟩ := List.mem_map.mp hx
          subst e
          exact ⟨_, rfl, rfl, fun _ => ⟨rfl, rfl⟩⟩
    cases cs with
    | nil =>
      obtain ⟨env', h1, ds, e1, e2⟩ := draws_mid F [.lst [], .lst [.int 0]] 1 [0] (by simp) rfl (some (.lck (ns.map D.int))) none (by simp)
      refine ⟨env', h1, _, ds, ?_, e2⟩
      exact z_seq (z_asg hlc rfl) (z_seq (z_ift (h1 := [.lst []]) rfl (z_seq (z_asg (d := .tl [.int 0]) (h1 := [.lst []]) rfl rfl) z_nil)) e1)
    | cons c r =>
      obtain ⟨env', h1, ds, e1, e2⟩ := draws_mid F [.lst ((c :: r).map D.int)] 0 (c :: r) (by simp) rfl (some (.lck (ns.map D.int))) none (by simp)
      refine ⟨env', h1, _, ds, ?_, e2⟩
      exact z_seq (z_asg hlc rfl) (z_seq (z_iff0 (h1 := [.lst ((c :: r).map D.int)]) rfl z_nil) e1)
  obtain ⟨env', h1, n, ds, e1, e2⟩ := key _ rfl (by
    rw [List.length_map]
    unfold cut lim
    have : clip ns.length ns.length (some 63) ≤ 63 := by
      show (if (63 : Int) < 0 then ((63 : Int) + ns.length).toNat else min (Int.toNat 63) ns.length) ≤ 63
      rw [if_neg (by decide)]
      exact Nat.min_le_left _ _
    simp only [List.length_take]
    omega)
  refine ⟨ds, ?_⟩
  rw [z_run e1]
  exact fin_tl e2 (pures_ints ds)
end K00
end
section
set_option linter.all false
set_option maxRecDepth 100000
set_option maxHeartbeats 4000000
set_option autoImplicit false
namespace K00
open Mp
def lotN : List (List (List Nat)) := [[[97]], [[97], [98]], [[97], [98], [99]], [[107], [98]]]
def nameN : List (List Nat) := [[112], [113], [115, 50]]
def lots : List D := [.tup [.str [97]], .tup [.str [97], .str [98]], .tup [.str [97], .str [98], .str [99]], .tup [.str [107], .str [98]]]
def names : List D := [.str [112], .str [113], .str [115, 50]]
abbrev Tb := List Nat × List (List Nat)
def tD (p : Tb) : D := .tup [.str p.1, .tup (p.2.map D.str)]
/-- the tables drawn, so many -/
def TT : Nat → List (List Tb)
  | 0 => [[]]
  | i + 1 => (TT i).flatMap fun t => lotN.map fun l => t ++ [(nameN.getD i [], l)]
theorem TT_len : ∀ (i : Nat) (t : List Tb), t ∈ TT i → t.length = i
  | 0, t, m => by simp [TT] at m; simp [m]
  | i + 1, t, m => by
    simp only [TT, List.mem_flatMap, List.mem_map] at m
    obtain ⟨t', m1, l, m2, e⟩ := m
    subst e
    simp [TT_len i t' m1]
theorem lots_mem {l : D} (m : l ∈ lots) : ∃ cs ∈ lotN, l = .tup (cs.map D.str) := by
  simp only [lots, List.mem_cons, List.not_mem_nil, or_false] at m
  rcases m with m | m | m | m
  · exact ⟨[[97]], by simp [lotN], m⟩
  · exact ⟨[[97], [98]], by simp [lotN], m⟩
  · exact ⟨[[97], [98], [99]], by simp [lotN], m⟩
  · exact ⟨[[107], [98]], by simp [lotN], m⟩
def bodyT : S := match b__law_tables with
  | .seq _ (.seq _ (.seq _ (.seq (.for _ _ b) _))) => b
  | _ => .nil
theorem names_at {i : Nat} (hi : i < 3) : atI names (i : Int) = some (.str (nameN.getD i [])) := by
  match i, hi with
  | 0, _ => rfl
  | 1, _ => rfl
  | 2, _ => rfl
theorem tab_step (k : Nat) (i : Nat) (hi : i < 3) (ds : List Int) (tbl : List Tb) (ht : tbl ∈ TT i) (e4 : Option D) :
    ∃ ds' tbl', tbl' ∈ TT (i + 1) ∧ ex (callF P 100 (k + 1)) 100 bodyT [some (.ref 0), some (.ref 1), some (.ref 2), some (.ref 3), some (.int i)] [.lst (ds.map D.int), .lst names, .lst lots, .lst (tbl.map tD)] =
      .ok (.nx, [some (.ref 0), some (.ref 1), some (.ref 2), some (.ref 3), some (.int i)]) [.lst (List.map D.int ds'), .lst names, .lst lots, .lst (List.map tD tbl')] := by
  obtain ⟨v, ds', v0, v1, hc⟩ := next_ok k [.lst (ds.map D.int), .lst names, .lst lots, .lst (tbl.map tD)] ds 4 (by decide) rfl
  obtain ⟨l, hl, hm⟩ := z_at_in (xs := lots) v0 v1
  obtain ⟨cs, hm2, e⟩ := lots_mem hm
  subst e
  have hc' : callF P 100 (k + 1) 20 [.ref 0, .int 4] [.lst (ds.map D.int), .lst names, .lst lots, .lst (tbl.map tD)] = .ok (.int v) [.lst (List.map D.int ds'), .lst names, .lst lots, .lst (tbl.map tD)] := hc
  refine ⟨ds', tbl ++ [(nameN.getD i [], cs)], ?_, ?_⟩
  · simp only [TT, List.mem_flatMap, List.mem_map]
    exact ⟨tbl, ht, cs, hm2, rfl⟩
  · have hq : (tbl.map tD).length < lim := by rw [List.length_map, TT_len i tbl ht]; unfold lim; omega
    have q3 : ([Ob.lst (List.map D.int ds), .lst names, .lst lots, .lst (tbl.map tD)] : Hd)[3]? = some (.lst (tbl.map tD)) := rfl
    have q1 : ([Ob.lst (List.map D.int ds), .lst names, .lst lots, .lst (tbl.map tD)] : Hd)[1]? = some (.lst names) := rfl
    have q2 : ([Ob.lst (List.map D.int ds'), .lst names, .lst lots, .lst (tbl.map tD)] : Hd)[2]? = some (.lst lots) := rfl
    have q3' : ([Ob.lst (List.map D.int ds'), .lst names, .lst lots, .lst (tbl.map tD)] : Hd)[3]? = some (.lst (tbl.map tD)) := rfl
    unfold bodyT b__law_tables
    refine z_seq (z_exs (d := .non) ?_) z_nil
    simp only [ev, evs, evI, evT, tst, start, int?, List.map_cons, List.map_nil, List.cons_append, List.nil_append, List.replicate, List.set, List.getElem?_cons_succ, List.getElem?_cons_zero, z_bind_ok, z_bind_ex, z_bindN_ok, z_get_some, z_reg_non, z_reg_bl, z_reg_int, z_reg_str, z_reg_tup, z_reg_ref, z_reg_lck, z_reg_tl, z_reg_td, z_truth_non, z_truth_bl, z_truth_int, z_truth_tup, z_truth_tl, z_bif_int, z_bif_intb, z_bif_lent, z_bif_lenl, z_bif_lenk, z_bif_list, z_bif_tup, z_bin_add, z_bin_sub, z_cmp_lt, z_cmp_gt, z_cmp_le, z_cmp_ge, z_cmp_eq, z_cmp_ne, z_cmp_is, z_cmp_isn, z_cmp_inn, z_cmp_nin, z_eq_int, z_eq_str, z_is_bl, z_ix_tup, z_ix_tl, if_true, if_false, Bool.false_eq_true, z_isi_tup, z_isi_str, z_isi_tl, z_lim, z_lim0, z_lim1, z_lim2, z_lim3, z_lim4, z_lim5, Option.map_some, Bool.not_true, Bool.not_false, List.length_cons, List.length_nil, decide_true, decide_false, ne_eq, not_true_eq_false, not_false_eq_true, z_metP_app q3, z_ix_ref q1, names_at hi, hc', z_ix_ref q2, hl, z_met_app q3' hq, List.map_append, tD]
theorem tab_loop (k : Nat) : ∀ (m i : Nat), i + m ≤ 3 → ∀ (ds : List Int) (tbl : List Tb) (e4 : Option D), tbl ∈ TT i →
    ∃ ds' tbl' e4', tbl' ∈ TT (i + m) ∧ forL (.nm 4) (ex (callF P 100 (k + 1)) 100 bodyT) [] (rngD i m) [some (.ref 0), some (.ref 1), some (.ref 2), some (.ref 3), e4] [.lst (ds.map D.int), .lst names, .lst lots, .lst (tbl.map tD)] =
      .ok (.nx, [some (.ref 0), some (.ref 1), some (.ref 2), some (.ref 3), e4']) [.lst (List.map D.int ds'), .lst names, .lst lots, .lst (List.map tD tbl')]
  | 0, i, _, ds, tbl, e4, ht => ⟨ds, tbl, e4, ht, rfl⟩
  | m + 1, i, hi, ds, tbl, e4, ht => by
    obtain ⟨ds1, tbl1, ht1, e1⟩ := tab_step k i (by omega) ds tbl ht e4
    obtain ⟨ds2, tbl2, e4', ht2, e2⟩ := tab_loop k m (i + 1) (by omega) ds1 tbl1 (some (.int i)) ht1
    refine ⟨ds2, tbl2, e4', by rw [show i + (m + 1) = i + 1 + m by omega]; exact ht2, ?_⟩
    simp only [rngD, forL, gOk, if_true, asgT, List.set, e1, z_bind_ok]
    exact e2
theorem TT_pures : ∀ n : Nat, n ≤ 3 → ∀ t ∈ TT n, D.pures (t.map tD) = true := by
  intro n hn t m
  have h : ([0, 1, 2, 3].all fun n => (TT n).all fun t => D.pures (t.map tD)) = true := by kernel_rfl
  exact List.all_eq_true.mp (List.all_eq_true.mp h n (by simp; omega)) t m
theorem tables_ok (k : Nat) (ds : List Int) : ∃ n ds' t, 1 ≤ n ∧ n ≤ 3 ∧ t ∈ TT n ∧ callF P 100 (k + 2) i__law_tables [.ref 0] [.lst (ds.map D.int)] = .ok (.tup (t.map tD)) [.lst (List.map D.int ds')] := by
  rw [callF_im p__law_tables rfl rfl]
  obtain ⟨v, ds1, v0, v1, c1⟩ := next_ok k [.lst (ds.map D.int), .lst names, .lst lots, .lst []] ds 9 (by decide) rfl
  have c1' : callF P 100 (k + 1) 20 [.ref 0, .int 9] [.lst (ds.map D.int), .lst names, .lst lots, .lst []] = .ok (.int v) [.lst (List.map D.int ds1), .lst names, .lst lots, .lst []] := c1
  obtain ⟨u, ds2, u0, u1, c2⟩ := next_ok k [.lst (ds1.map D.int), .lst names, .lst lots, .lst []] ds1 3 (by decide) rfl
  have c2' : callF P 100 (k + 1) 20 [.ref 0, .int 3] [.lst (ds1.map D.int), .lst names, .lst lots, .lst []] = .ok (.int u) [.lst (List.map D.int ds2), .lst names, .lst lots, .lst []] := c2
  have hb : ∃ n : Nat, 1 ≤ n ∧ n ≤ 3 ∧ (1 + b2i (decide (0 < v)) + b2i (decide (u = 0)) : Int) = n := by
    by_cases a : 0 < v <;> by_cases b : u = 0 <;> simp only [a, b, decide_true, decide_false, b2i, if_true, if_false, Bool.false_eq_true]
    · exact ⟨3, by omega, by omega, rfl⟩
    · exact ⟨2, by omega, by omega, rfl⟩
    · exact ⟨2, by omega, by omega, rfl⟩
    · exact ⟨1, by omega, by omega, rfl⟩
  obtain ⟨n, n1, n3, hn⟩ := hb
  obtain ⟨ds3, tbl, e4', ht, e1⟩ := tab_loop k n 0 (by omega) ds2 [] none (by simp [TT])
  have hr : rngO 0 (n : Int) = some (rngD 0 n) := by
    unfold rngO
    rw [if_pos]
    · simp
    · unfold lim; omega
  refine ⟨n, ds3, tbl, n1, n3, by simpa using ht, ?_⟩
  have key : ex (callF P 100 (k + 1)) 100 b__law_tables (start 5 [.ref 0]) [.lst (ds.map D.int)] = .ok (.rt (.tup (tbl.map tD)), [some (.ref 0), some (.ref 1), some (.ref 2), some (.ref 3), e4']) ([.lst (List.map D.int ds3)] ++ [.lst names, .lst lots, .lst (tbl.map tD)]) := by
    refine z_seq (z_asg (d := .tl names) (h1 := [.lst (ds.map D.int)]) rfl rfl) (z_seq (z_asg (d := .tl lots) (h1 := [.lst (ds.map D.int), .lst names]) rfl rfl) (z_seq (z_asg (d := .tl []) (h1 := [.lst (ds.map D.int), .lst names, .lst lots]) rfl rfl)
      (z_seq (h1 := [.lst (List.map D.int ds3), .lst names, .lst lots, .lst (tbl.map tD)]) (env1 := [some (.ref 0), some (.ref 1), some (.ref 2), some (.ref 3), e4']) (z_for (xs := rngD 0 n) (gs := []) (h1 := [.lst (List.map D.int ds2), .lst names, .lst lots, .lst []]) ?_ e1) (z_seqr (fl := .rt (.tup (tbl.map tD))) (by simp) (z_ret (d := .tup (tbl.map tD)) ?_)))))
    · simp only [ev, evs, evI, evT, tst, start, int?, List.map_cons, List.map_nil, List.cons_append, List.nil_append, List.replicate, List.set, List.getElem?_cons_succ, List.getElem?_cons_zero, z_bind_ok, z_bind_ex, z_bindN_ok, z_get_some, z_reg_non, z_reg_bl, z_reg_int, z_reg_str, z_reg_tup, z_reg_ref, z_reg_lck, z_reg_tl, z_reg_td, z_truth_non, z_truth_bl, z_truth_int, z_truth_tup, z_truth_tl, z_bif_int, z_bif_intb, z_bif_lent, z_bif_lenl, z_bif_lenk, z_bif_list, z_bif_tup, z_bin_add, z_bin_sub, z_cmp_lt, z_cmp_gt, z_cmp_le, z_cmp_ge, z_cmp_eq, z_cmp_ne, z_cmp_is, z_cmp_isn, z_cmp_inn, z_cmp_nin, z_eq_int, z_eq_str, z_is_bl, z_ix_tup, z_ix_tl, if_true, if_false, Bool.false_eq_true, z_isi_tup, z_isi_str, z_isi_tl, z_lim, z_lim0, z_lim1, z_lim2, z_lim3, z_lim4, z_lim5, Option.map_some, Bool.not_true, Bool.not_false, List.length_cons, List.length_nil, decide_true, decide_false, ne_eq, not_true_eq_false, not_false_eq_true, c1', c2', hn, hr]
    · simp only [ev, evs, evI, evT, tst, start, int?, List.map_cons, List.map_nil, List.cons_append, List.nil_append, List.replicate, List.set, List.getElem?_cons_succ, List.getElem?_cons_zero, z_bind_ok, z_bind_ex, z_bindN_ok, z_get_some, z_reg_non, z_reg_bl, z_reg_int, z_reg_str, z_reg_tup, z_reg_ref, z_reg_lck, z_reg_tl, z_reg_td, z_truth_non, z_truth_bl, z_truth_int, z_truth_tup, z_truth_tl, z_bif_int, z_bif_intb, z_bif_lent, z_bif_lenl, z_bif_lenk, z_bif_list, z_bif_tup, z_bin_add, z_bin_sub, z_cmp_lt, z_cmp_gt, z_cmp_le, z_cmp_ge, z_cmp_eq, z_cmp_ne, z_cmp_is, z_cmp_isn, z_cmp_inn, z_cmp_nin, z_eq_int, z_eq_str, z_is_bl, z_ix_tup, z_ix_tl, if_true, if_false, Bool.false_eq_true, z_isi_tup, z_isi_str, z_isi_tl, z_lim, z_lim0, z_lim1, z_lim2, z_lim3, z_lim4, z_lim5, Option.map_some, Bool.not_true, Bool.not_false, List.length_cons, List.length_nil, decide_true, decide_false, ne_eq, not_true_eq_false, not_false_eq_true, z_bif_tupr (h := [Ob.lst (List.map D.int ds3), .lst names, .lst lots, .lst (tbl.map tD)]) (n := 3) (xs := tbl.map tD) rfl]
  rw [z_run key]
  refine fin_drop rfl (by simp) ?_ ?_
  · intro j o u a b
    cases j with
    | zero => simp at b; subst b; left; exact pures_ints ds3
    | succ j => simp at a
  · have := TT_pures n n3 tbl (by simpa using ht)
    simpa only [D.pure] using this
end K00
end
section
set_option linter.all false
set_option maxRecDepth 100000
set_option maxHeartbeats 4000000
set_option autoImplicit false
namespace K00
open Mp
theorem pures_strs : ∀ cs : List (List Nat), D.pures (cs.map D.str) = true
  | [] => rfl
  | n :: ns => by simp only [List.map_cons, D.pures, D.pure, pures_strs ns, Bool.and_self]
theorem at_map {α β : Type} (f : α → β) {xs : List α} {v : Int} (h0 : 0 ≤ v) (h1 : v < xs.length) : ∃ p, xs[v.toNat]? = some p ∧ p ∈ xs ∧ atI (xs.map f) v = some (f p) := by
  have l : v.toNat < xs.length := by omega
  refine ⟨xs[v.toNat], List.getElem?_eq_getElem l, List.getElem_mem l, ?_⟩
  unfold atI
  rw [List.length_map, z_ix_in h0 h1]
  simp [l]
theorem z_at0 {α : Type} {a : α} {l : List α} : atI (a :: l) 0 = some a := by
  have : (0 : Int) < (l.length + 1 : Nat) := by omega
  simp only [atI, ixN, List.length_cons, this, if_true]
  rfl
theorem z_at1 {α : Type} {a b : α} {l : List α} : atI (a :: b :: l) 1 = some b := by
  have : (1 : Int) < (l.length + 1 + 1 : Nat) := by omega
  simp only [atI, ixN, List.length_cons, this, if_true]
  rfl
theorem cut_hi {α : Type} (xs : List α) {v : Int} (h : 0 ≤ v) : cut xs none (some v) = xs.take v.toNat := by
  have : ¬ v < 0 := by omega
  simp only [cut, clip, this, if_false, Nat.sub_zero, List.drop_zero]
  rw [← List.take_take, List.take_of_length_le (Nat.le_refl _)] <;> try rfl
theorem cut_lo {α : Type} (xs : List α) {v : Int} (h : 0 ≤ v) (h1 : v ≤ xs.length) : cut xs (some v) none = xs.drop v.toNat := by
  have : ¬ v < 0 := by omega
  simp only [cut, clip, this, if_false]
  rw [List.take_of_length_le]
  · congr 1; omega
  · simp only [List.length_drop]; omega
theorem some_ok (k : Nat) (ds : List Int) (cs : List (List Nat)) (few : Int) (h0 : 0 ≤ few) (h1 : few ≤ 1) (hc : cs ≠ []) (hl : cs.length ≤ 6) :
    ∃ ls ds', ls.Sublist cs ∧ few ≤ ls.length ∧ callF P 100 (k + 2) i__law_some_of [.ref 0, .tup (cs.map D.str), .int few] [.lst (ds.map D.int)] = .ok (.tup (List.map D.str ls)) [.lst (List.map D.int ds')] := by
  rw [callF_im p__law_some_of rfl rfl]
  have nx : ∀ (n : Int), 0 < n → ∀ (ds : List Int) (s : List Ob), ∃ v ds', 0 ≤ v ∧ v < n ∧ callF P 100 (k + 1) 20 [.ref 0, .int n] (.lst (ds.map D.int) :: s) = .ok (.int v) (.lst (List.map D.int ds') :: s) := fun n hn ds s => by
    obtain ⟨v, ds', a, b, c⟩ := next_ok k (.lst (ds.map D.int) :: s) ds n hn rfl
    exact ⟨v, ds', a, b, c⟩
  generalize callF P 100 (k + 1) = F at nx ⊢
  have hcp : 0 < (cs.length : Int) := by cases cs with
    | nil => exact (hc rfl).elim
    | cons _ _ => simp
  -- the comprehension
  have L := lcL_inv (t := .nm 4) (c := fun env h => tst (ev F (.cmp .eq (.cal 20 (.cons (.var 0) (.cons (.int 2) .nil))) (.int 1)) env h)) (e := ev F (.var 4)) (env := [some (.ref 0), some (.tup (cs.map D.str)), some (.int few), none, none]) (gs := [])
    (fun xs acc h => ∃ pre post ls ds', cs = pre ++ post ∧ xs = post.map D.str ∧ List.Sublist ls pre ∧ acc = ls.map D.str ∧ h = [.lst (List.map D.int ds')]) ?_ (fun _ _ _ => rfl) (cs.map D.str) [.lst (ds.map D.int)] [] ⟨[], cs, [], ds, rfl, rfl, List.Sublist.slnil, rfl, rfl⟩
  · obtain ⟨ys, h', e1, pre, post, ls, ds1, e2, e3, e4, e5, e6⟩ := L
    have : post = [] := by cases post with
      | nil => rfl
      | cons _ _ => cases e3
    subst this e5 e6
    rw [List.append_nil] at e2
    subst e2
    have hlc : ev F (.lc [4] (.nm 4) (.e (.var 1)) (.cmp .eq (.cal 20 (.cons (.var 0) (.cons (.int 2) .nil))) (.int 1)) (.var 4)) [some (.ref 0), some (.tup (cs.map D.str)), some (.int few), none, none] [.lst (ds.map D.int)] = .ok (.tl (List.map D.str ls)) [.lst (List.map D.int ds1)] := z_lc (xs := cs.map D.str) (gs := []) (h1 := [.lst (ds.map D.int)]) rfl e1
    have hlen : evT F (.cmp .lt (.bif .len (.var 3)) (.var 2)) [some (.ref 0), some (.tup (cs.map D.str)), some (.int few), some (.ref 1), none] [.lst (List.map D.int ds1), .lst (List.map D.str ls)] = .ok (decide ((ls.length : Int) < few)) [.lst (List.map D.int ds1), .lst (List.map D.str ls)] := by
      simp only [ev, evs, evI, evT, tst, start, int?, List.map_cons, List.map_nil, List.cons_append, List.nil_append, List.replicate, List.set, List.getElem?_cons_succ, List.getElem?_cons_zero, z_bind_ok, z_bind_ex, z_bindN_ok, z_get_some, z_reg_non, z_reg_bl, z_reg_int, z_reg_str, z_reg_tup, z_reg_ref, z_reg_lck, z_reg_tl, z_reg_td, z_truth_non, z_truth_bl, z_truth_int, z_truth_tup, z_truth_tl, z_bif_int, z_bif_intb, z_bif_lent, z_bif_lenl, z_bif_lenk, z_bif_list, z_bif_tup, z_bin_add, z_bin_sub, z_cmp_lt, z_cmp_gt, z_cmp_le, z_cmp_ge, z_cmp_eq, z_cmp_ne, z_cmp_is, z_cmp_isn, z_cmp_inn, z_cmp_nin, z_eq_int, z_eq_str, z_is_bl, z_ix_tup, z_ix_tl, if_true, if_false, Bool.false_eq_true, z_isi_tup, z_isi_str, z_isi_tl, z_lim, z_lim0, z_lim1, z_lim2, z_lim3, z_lim4, z_lim5, Option.map_some, Bool.not_true, Bool.not_false, List.length_cons, List.length_nil, decide_true, decide_false, ne_eq, not_true_eq_false, not_false_eq_true, z_bif_lenr (h := [Ob.lst (List.map D.int ds1), .lst (List.map D.str ls)]) (n := 1) (xs := List.map D.str ls) rfl, List.length_map]
    by_cases lf : (ls.length : Int) < few
    · obtain ⟨v, ds2, v0, v1, c2⟩ := nx cs.length hcp ds1 [.lst (List.map D.str ls)]
      obtain ⟨c, _, hm, ha⟩ := at_map D.str v0 v1
      refine ⟨[c], ds2, by simpa using hm, by simpa using h1, ?_⟩
      have key : ex F 100 b__law_some_of (start 5 [.ref 0, .tup (cs.map D.str), .int few]) [.lst (ds.map D.int)] = .ok (.rt (.tup (List.map D.str [c])), [some (.ref 0), some (.tup (cs.map D.str)), some (.int few), some (.ref 2), none]) ([.lst (List.map D.int ds2)] ++ [.lst (List.map D.str ls), .lst [.str c]]) := by
        rw [decide_eq_true lf] at hlen
        refine z_seq (z_asg hlc rfl) (z_seq (z_ift hlen (z_seq (z_asg (d := .tl [.str c]) (h1 := [.lst (List.map D.int ds2), .lst (List.map D.str ls)]) ?_ rfl) z_nil)) (z_seqr (fl := .rt (.tup [.str c])) (by simp) (z_ret (d := .tup [.str c]) ?_)))
        · simp only [ev, evs, evI, evT, tst, start, int?, List.map_cons, List.map_nil, List.cons_append, List.nil_append, List.replicate, List.set, List.getElem?_cons_succ, List.getElem?_cons_zero, z_bind_ok, z_bind_ex, z_bindN_ok, z_get_some, z_reg_non, z_reg_bl, z_reg_int, z_reg_str, z_reg_tup, z_reg_ref, z_reg_lck, z_reg_tl, z_reg_td, z_truth_non, z_truth_bl, z_truth_int, z_truth_tup, z_truth_tl, z_bif_int, z_bif_intb, z_bif_lent, z_bif_lenl, z_bif_lenk, z_bif_list, z_bif_tup, z_bin_add, z_bin_sub, z_cmp_lt, z_cmp_gt, z_cmp_le, z_cmp_ge, z_cmp_eq, z_cmp_ne, z_cmp_is, z_cmp_isn, z_cmp_inn, z_cmp_nin, z_eq_int, z_eq_str, z_is_bl, z_ix_tup, z_ix_tl, if_true, if_false, Bool.false_eq_true, z_isi_tup, z_isi_str, z_isi_tl, z_lim, z_lim0, z_lim1, z_lim2, z_lim3, z_lim4, z_lim5, Option.map_some, Bool.not_true, Bool.not_false, List.length_cons, List.length_nil, decide_true, decide_false, ne_eq, not_true_eq_false, not_false_eq_true, List.length_map, c2, ha]
        · simp only [ev, evs, evI, evT, tst, start, int?, List.map_cons, List.map_nil, List.cons_append, List.nil_append, List.replicate, List.set, List.getElem?_cons_succ, List.getElem?_cons_zero, z_bind_ok, z_bind_ex, z_bindN_ok, z_get_some, z_reg_non, z_reg_bl, z_reg_int, z_reg_str, z_reg_tup, z_reg_ref, z_reg_lck, z_reg_tl, z_reg_td, z_truth_non, z_truth_bl, z_truth_int, z_truth_tup, z_truth_tl, z_bif_int, z_bif_intb, z_bif_lent, z_bif_lenl, z_bif_lenk, z_bif_list, z_bif_tup, z_bin_add, z_bin_sub, z_cmp_lt, z_cmp_gt, z_cmp_le, z_cmp_ge, z_cmp_eq, z_cmp_ne, z_cmp_is, z_cmp_isn, z_cmp_inn, z_cmp_nin, z_eq_int, z_eq_str, z_is_bl, z_ix_tup, z_ix_tl, if_true, if_false, Bool.false_eq_true, z_isi_tup, z_isi_str, z_isi_tl, z_lim, z_lim0, z_lim1, z_lim2, z_lim3, z_lim4, z_lim5, Option.map_some, Bool.not_true, Bool.not_false, List.length_cons, List.length_nil, decide_true, decide_false, ne_eq, not_true_eq_false, not_false_eq_true, z_bif_tupr (h := [Ob.lst (List.map D.int ds2), .lst (List.map D.str ls), .lst [.str c]]) (n := 2) (xs := [.str c]) rfl]
      rw [z_run key]
      refine fin_drop rfl (by simp) ?_ rfl
      intro j o u a b
      cases j with
      | zero => simp at b; subst b; left; exact pures_ints ds2
      | succ j => simp at a
    · refine ⟨ls, ds1, e4, by omega, ?_⟩
      have key : ex F 100 b__law_some_of (start 5 [.ref 0, .tup (cs.map D.str), .int few]) [.lst (ds.map D.int)] = .ok (.rt (.tup (List.map D.str ls)), [some (.ref 0), some (.tup (cs.map D.str)), some (.int few), some (.ref 1), none]) ([.lst (List.map D.int ds1)] ++ [.lst (List.map D.str ls)]) := by
        rw [decide_eq_false lf] at hlen
        refine z_seq (z_asg hlc rfl) (z_seq (z_iff0 hlen z_nil) (z_seqr (fl := .rt (.tup (List.map D.str ls))) (by simp) (z_ret (d := .tup (List.map D.str ls)) ?_)))
        simp only [ev, evs, evI, evT, tst, start, int?, List.map_cons, List.map_nil, List.cons_append, List.nil_append, List.replicate, List.set, List.getElem?_cons_succ, List.getElem?_cons_zero, z_bind_ok, z_bind_ex, z_bindN_ok, z_get_some, z_reg_non, z_reg_bl, z_reg_int, z_reg_str, z_reg_tup, z_reg_ref, z_reg_lck, z_reg_tl, z_reg_td, z_truth_non, z_truth_bl, z_truth_int, z_truth_tup, z_truth_tl, z_bif_int, z_bif_intb, z_bif_lent, z_bif_lenl, z_bif_lenk, z_bif_list, z_bif_tup, z_bin_add, z_bin_sub, z_cmp_lt, z_cmp_gt, z_cmp_le, z_cmp_ge, z_cmp_eq, z_cmp_ne, z_cmp_is, z_cmp_isn, z_cmp_inn, z_cmp_nin, z_eq_int, z_eq_str, z_is_bl, z_ix_tup, z_ix_tl, if_true, if_false, Bool.false_eq_true, z_isi_tup, z_isi_str, z_isi_tl, z_lim, z_lim0, z_lim1, z_lim2, z_lim3, z_lim4, z_lim5, Option.map_some, Bool.not_true, Bool.not_false, List.length_cons, List.length_nil, decide_true, decide_false, ne_eq, not_true_eq_false, not_false_eq_true, z_bif_tupr (h := [Ob.lst (List.map D.int ds1), .lst (List.map D.str ls)]) (n := 1) (xs := List.map D.str ls) rfl]
      rw [z_run key]
      refine fin_drop rfl (by simp) ?_ (by simp only [D.pure, pures_strs])
      intro j o u a b
      cases j with
      | zero => simp at b; subst b; left; exact pures_ints ds1
      | succ j => simp at a
  · rintro x xs acc h ⟨pre, post, ls, ds1, e2, e3, e4, e5, e6⟩
    cases post with
    | nil => cases e3
    | cons p post =>
      simp only [List.map_cons, List.cons.injEq] at e3
      obtain ⟨e3, e3'⟩ := e3
      subst e3 e3' e5 e6
      have l1 := e4.length_le
      have l2 : pre.length ≤ 6 := by rw [e2] at hl; simp at hl; omega
      obtain ⟨v, ds2, v0, v1, c2⟩ := nx 2 (by decide) ds1 []
      refine ⟨rfl, by rw [List.length_map]; unfold lim; omega, _, rfl, ?_⟩
      have ht : tst (ev F (.cmp .eq (.cal 20 (.cons (.var 0) (.cons (.int 2) .nil))) (.int 1)) [some (.ref 0), some (.tup (cs.map D.str)), some (.int few), none, some (.str p)] [.lst (List.map D.int ds1)]) = .ok (decide (v = 1)) [.lst (List.map D.int ds2)] := by
        simp only [ev, evs, evI, evT, tst, start, int?, List.map_cons, List.map_nil, List.cons_append, List.nil_append, List.replicate, List.set, List.getElem?_cons_succ, List.getElem?_cons_zero, z_bind_ok, z_bind_ex, z_bindN_ok, z_get_some, z_reg_non, z_reg_bl, z_reg_int, z_reg_str, z_reg_tup, z_reg_ref, z_reg_lck, z_reg_tl, z_reg_td, z_truth_non, z_truth_bl, z_truth_int, z_truth_tup, z_truth_tl, z_bif_int, z_bif_intb, z_bif_lent, z_bif_lenl, z_bif_lenk, z_bif_list, z_bif_tup, z_bin_add, z_bin_sub, z_cmp_lt, z_cmp_gt, z_cmp_le, z_cmp_ge, z_cmp_eq, z_cmp_ne, z_cmp_is, z_cmp_isn, z_cmp_inn, z_cmp_nin, z_eq_int, z_eq_str, z_is_bl, z_ix_tup, z_ix_tl, if_true, if_false, Bool.false_eq_true, z_isi_tup, z_isi_str, z_isi_tl, z_lim, z_lim0, z_lim1, z_lim2, z_lim3, z_lim4, z_lim5, Option.map_some, Bool.not_true, Bool.not_false, List.length_cons, List.length_nil, decide_true, decide_false, ne_eq, not_true_eq_false, not_false_eq_true, c2]
      by_cases hv : v = 1
      · right
        rw [decide_eq_true hv] at ht
        exact ⟨_, .str p, [.lst (List.map D.int ds2)], ht, rfl, pre ++ [p], post, ls ++ [p], ds2, by simp [e2], rfl, e4.append (List.Sublist.refl _), by simp, rfl⟩
      · left
        rw [decide_eq_false hv] at ht
        exact ⟨_, ht, pre ++ [p], post, ls, ds2, by simp [e2], rfl, by simpa using e4.trans (List.sublist_append_left pre [p]), rfl, rfl⟩
end K00
end
section
set_option linter.all false
set_option maxRecDepth 100000
set_option maxHeartbeats 4000000
set_option autoImplicit false
namespace K00
open Mp
inductive Rl where
  | tells (n : List Nat) (b : List (List Nat)) (c : List Nat)
  | only (n c : List Nat) (w : List (List Nat))
  | leads (n : List Nat) (b : List (List Nat)) (m : List Nat) (e : List (List Nat))
def sTells : List Nat := [116, 101, 108, 108, 115]
def sOnly : List Nat := [111, 110, 108, 121]
def sLeads : List Nat := [108, 101, 97, 100, 115]
def rD : Rl → D
  | .tells n b c => .tup [.str sTells, .str n, .tup (b.map D.str), .str c]
  | .only n c w => .tup [.str sOnly, .str n, .str c, .tup (w.map D.str)]
  | .leads n b m e => .tup [.str sLeads, .str n, .tup (b.map D.str), .str m, .tup (e.map D.str)]
def subs {α : Type} : List α → List (List α)
  | [] => [[]]
  | x :: xs => subs xs ++ (subs xs).map (x :: ·)
theorem subs_mem {α : Type} {l xs : List α} (h : List.Sublist l xs) : l ∈ subs xs := by
  induction h with
  | slnil => simp [subs]
  | cons a h ih => simp only [subs, List.mem_append]; exact .inl ih
  | cons_cons a h ih => simp only [subs, List.mem_append, List.mem_map]; exact .inr ⟨_, ih, rfl⟩
def worthN : List (List (List Nat)) := [[[48]], [[48], [49]], [[49], [120]]]
def onlyR (t : List Tb) : List Rl := t.flatMap fun p => p.2.flatMap fun c => worthN.map fun w => .only p.1 c w
def tellsR (t : List Tb) : List Rl := t.flatMap fun p => (subs p.2).flatMap fun b => p.2.map fun c => .tells p.1 b c
def leads1 (p q : Tb) : List Rl := ((subs p.2).filter fun b => !b.isEmpty).flatMap fun b => (List.range q.2.length).map fun s =>
  .leads p.1 (b.take q.2.length) q.1 ((q.2.drop s ++ q.2.take s).take (b.take q.2.length).length)
def leadsR : List Tb → List Rl
  | [] => []
  | p :: r => (r.flatMap fun q => leads1 p q) ++ leadsR r
def rules (t : List Tb) : List Rl := leadsR t ++ (onlyR t ++ tellsR t)
theorem leadsR_mem : ∀ (t : List Tb) (a b : Nat) (p q : Tb) (r : Rl), t[a]? = some p → t[b]? = some q → a < b → r ∈ leads1 p q → r ∈ leadsR t
  | [], a, b, p, q, r, h1, _, _, _ => by simp at h1
  | x :: t, 0, b + 1, p, q, r, h1, h2, _, m => by
    simp only [List.getElem?_cons_zero, Option.some.injEq] at h1
    subst h1
    simp only [List.getElem?_cons_succ] at h2
    simp only [leadsR, List.mem_append, List.mem_flatMap]
    exact .inl ⟨q, List.mem_of_getElem? h2, m⟩
  | x :: t, a + 1, b + 1, p, q, r, h1, h2, l, m => by
    simp only [List.getElem?_cons_succ] at h1 h2
    simp only [leadsR, List.mem_append]
    exact .inr (leadsR_mem t a b p q r h1 h2 (by omega) m)
theorem TT_cols : ∀ n : Nat, n ≤ 3 → ∀ t ∈ TT n, ∀ p ∈ t, p.2 ≠ [] ∧ p.2.length ≤ 3 := by
  intro n hn t m p mp
  have h : ([0, 1, 2, 3].all fun n => (TT n).all fun t => t.all fun p => !p.2.isEmpty && Nat.ble p.2.length 3) = true := by kernel_rfl
  have := List.all_eq_true.mp (List.all_eq_true.mp (List.all_eq_true.mp h n (by simp; omega)) t m) p mp
  simp only [Bool.and_eq_true, Bool.not_eq_true', List.isEmpty_eq_false_iff] at this
  exact ⟨this.1, Nat.le_of_ble_eq_true this.2⟩
theorem rule_ok (k n : Nat) (n1 : 1 ≤ n) (n3 : n ≤ 3) (t : List Tb) (ht : t ∈ TT n) (ds : List Int) :
    ∃ r ds', r ∈ rules t ∧ callF P 100 (k + 3) i__law_rule [.ref 0, .tup (t.map tD)] [.lst (ds.map D.int)] = .ok (rD r) [.lst (List.map D.int ds')] := by
  rw [callF_im p__law_rule rfl rfl]
  have nx : ∀ (n : Int), 0 < n → ∀ (ds : List Int), ∃ v ds', 0 ≤ v ∧ v < n ∧ callF P 100 (k + 2) 20 [.ref 0, .int n] [.lst (ds.map D.int)] = .ok (.int v) [.lst (List.map D.int ds')] := fun n hn ds => by
    obtain ⟨v, ds', a, b, c⟩ := next_ok (k + 1) [.lst (ds.map D.int)] ds n hn rfl
    exact ⟨v, ds', a, b, c⟩
  have sm : ∀ (ds : List Int) (cs : List (List Nat)) (few : Int), 0 ≤ few → few ≤ 1 → cs ≠ [] → cs.length ≤ 6 → ∃ ls ds', ls.Sublist cs ∧ few ≤ ls.length ∧ callF P 100 (k + 2) 22 [.ref 0, .tup (cs.map D.str), .int few] [.lst (ds.map D.int)] = .ok (.tup (List.map D.str ls)) [.lst (List.map D.int ds')] := some_ok k
  generalize callF P 100 (k + 2) = F at nx sm ⊢
  have hlen := TT_len n t ht
  have hcols := TT_cols n n3 t ht
  obtain ⟨v, ds1, v0, v1, c1⟩ := nx t.length (by omega) ds
  obtain ⟨⟨a, cs⟩, hp, hm, hat⟩ := at_map tD v0 v1
  obtain ⟨cn, cl⟩ := hcols _ hm
  simp only at cn cl
  obtain ⟨c, ds2, w0, w1, c2⟩ := nx 5 (by decide) ds1
  suffices key : ∃ r ds' env', r ∈ rules t ∧ ex F 100 b__law_rule (start 10 [.ref 0, .tup (t.map tD)]) [.lst (ds.map D.int)] = .ok (.rt (rD r), env') [.lst (List.map D.int ds')] by
    obtain ⟨r, ds', env', h1, h2⟩ := key
    exact ⟨r, ds', h1, by rw [z_run h2]; exact fin_same rfl⟩
  have s1 : ev F (.cal 20 (.cons (.var 0) (.cons (.bif .len (.var 1)) .nil))) (start 10 [.ref 0, .tup (t.map tD)]) [.lst (ds.map D.int)] = .ok (.int v) [.lst (List.map D.int ds1)] := by
    simp only [ev, evs, evI, evT, tst, start, int?, List.map_cons, List.map_nil, List.cons_append, List.nil_append, List.replicate, List.set, List.getElem?_cons_succ, List.getElem?_cons_zero, z_bind_ok, z_bind_ex, z_bindN_ok, z_get_some, z_reg_non, z_reg_bl, z_reg_int, z_reg_str, z_reg_tup, z_reg_ref, z_reg_lck, z_reg_tl, z_reg_td, z_truth_non, z_truth_bl, z_truth_int, z_truth_tup, z_truth_tl, z_bif_int, z_bif_intb, z_bif_lent, z_bif_lenl, z_bif_lenk, z_bif_list, z_bif_tup, z_bin_add, z_bin_sub, z_cmp_lt, z_cmp_gt, z_cmp_le, z_cmp_ge, z_cmp_eq, z_cmp_ne, z_cmp_is, z_cmp_isn, z_cmp_inn, z_cmp_nin, z_eq_int, z_eq_str, z_is_bl, z_ix_tup, z_ix_tl, if_true, if_false, Bool.false_eq_true, z_isi_tup, z_isi_str, z_isi_tl, z_lim, z_lim0, z_lim1, z_lim2, z_lim3, z_lim4, z_lim5, Option.map_some, Bool.not_true, Bool.not_false, List.length_cons, List.length_nil, decide_true, decide_false, ne_eq, not_true_eq_false, not_false_eq_true, List.length_map, c1]
  have s2 : ev F (.ix (.var 1) (.var 2)) [some (.ref 0), some (.tup (t.map tD)), some (.int v), none, none, none, none, none, none, none] [.lst (List.map D.int ds1)] = .ok (tD (a, cs)) [.lst (List.map D.int ds1)] := by
    simp only [ev, evs, evI, evT, tst, start, int?, List.map_cons, List.map_nil, List.cons_append, List.nil_append, List.replicate, List.set, List.getElem?_cons_succ, List.getElem?_cons_zero, z_bind_ok, z_bind_ex, z_bindN_ok, z_get_some, z_reg_non, z_reg_bl, z_reg_int, z_reg_str, z_reg_tup, z_reg_ref, z_reg_lck, z_reg_tl, z_reg_td, z_truth_non, z_truth_bl, z_truth_int, z_truth_tup, z_truth_tl, z_bif_int, z_bif_intb, z_bif_lent, z_bif_lenl, z_bif_lenk, z_bif_list, z_bif_tup, z_bin_add, z_bin_sub, z_cmp_lt, z_cmp_gt, z_cmp_le, z_cmp_ge, z_cmp_eq, z_cmp_ne, z_cmp_is, z_cmp_isn, z_cmp_inn, z_cmp_nin, z_eq_int, z_eq_str, z_is_bl, z_ix_tup, z_ix_tl, if_true, if_false, Bool.false_eq_true, z_isi_tup, z_isi_str, z_isi_tl, z_lim, z_lim0, z_lim1, z_lim2, z_lim3, z_lim4, z_lim5, Option.map_some, Bool.not_true, Bool.not_false, List.length_cons, List.length_nil, decide_true, decide_false, ne_eq, not_true_eq_false, not_false_eq_true, hat]
  have s3 : ev F (.cal 20 (.cons (.var 0) (.cons (.int 5) .nil))) [some (.ref 0), some (.tup (t.map tD)), some (.int v), some (tD (a, cs)), none, none, none, none, none, none] [.lst (List.map D.int ds1)] = .ok (.int c) [.lst (List.map D.int ds2)] := by
    simp only [ev, evs, evI, evT, tst, start, int?, List.map_cons, List.map_nil, List.cons_append, List.nil_append, List.replicate, List.set, List.getElem?_cons_succ, List.getElem?_cons_zero, z_bind_ok, z_bind_ex, z_bindN_ok, z_get_some, z_reg_non, z_reg_bl, z_reg_int, z_reg_str, z_reg_tup, z_reg_ref, z_reg_lck, z_reg_tl, z_reg_td, z_truth_non, z_truth_bl, z_truth_int, z_truth_tup, z_truth_tl, z_bif_int, z_bif_intb, z_bif_lent, z_bif_lenl, z_bif_lenk, z_bif_list, z_bif_tup, z_bin_add, z_bin_sub, z_cmp_lt, z_cmp_gt, z_cmp_le, z_cmp_ge, z_cmp_eq, z_cmp_ne, z_cmp_is, z_cmp_isn, z_cmp_inn, z_cmp_nin, z_eq_int, z_eq_str, z_is_bl, z_ix_tup, z_ix_tl, if_true, if_false, Bool.false_eq_true, z_isi_tup, z_isi_str, z_isi_tl, z_lim, z_lim0, z_lim1, z_lim2, z_lim3, z_lim4, z_lim5, Option.map_some, Bool.not_true, Bool.not_false, List.length_cons, List.length_nil, decide_true, decide_false, ne_eq, not_true_eq_false, not_false_eq_true, c2]
  have s4 : evT F (.and (.cmp .lt (.var 4) (.int 2)) (.cmp .lt (.bin .add (.var 2) (.int 1)) (.bif .len (.var 1)))) [some (.ref 0), some (.tup (t.map tD)), some (.int v), some (tD (a, cs)), some (.int c), none, none, none, none, none] [.lst (List.map D.int ds2)] = .ok (decide (c < 2) && decide (v + 1 < t.length)) [.lst (List.map D.int ds2)] := by
    simp only [ev, evs, evI, evT, tst, start, int?, List.map_cons, List.map_nil, List.cons_append, List.nil_append, List.replicate, List.set, List.getElem?_cons_succ, List.getElem?_cons_zero, z_bind_ok, z_bind_ex, z_bindN_ok, z_get_some, z_reg_non, z_reg_bl, z_reg_int, z_reg_str, z_reg_tup, z_reg_ref, z_reg_lck, z_reg_tl, z_reg_td, z_truth_non, z_truth_bl, z_truth_int, z_truth_tup, z_truth_tl, z_bif_int, z_bif_intb, z_bif_lent, z_bif_lenl, z_bif_lenk, z_bif_list, z_bif_tup, z_bin_add, z_bin_sub, z_cmp_lt, z_cmp_gt, z_cmp_le, z_cmp_ge, z_cmp_eq, z_cmp_ne, z_cmp_is, z_cmp_isn, z_cmp_inn, z_cmp_nin, z_eq_int, z_eq_str, z_is_bl, z_ix_tup, z_ix_tl, if_true, if_false, Bool.false_eq_true, z_isi_tup, z_isi_str, z_isi_tl, z_lim, z_lim0, z_lim1, z_lim2, z_lim3, z_lim4, z_lim5, Option.map_some, Bool.not_true, Bool.not_false, List.length_cons, List.length_nil, decide_true, decide_false, ne_eq, not_true_eq_false, not_false_eq_true, List.length_map]
    cases decide (c < 2) <;> rfl
  by_cases g : c < 2 ∧ v + 1 < t.length
  · have s4' := s4
    rw [decide_eq_true g.1, decide_eq_true g.2] at s4'
    obtain ⟨u, ds3, u0, u1, c3⟩ := nx (t.length - v - 1) (by omega) ds2
    obtain ⟨⟨b, es⟩, hq, hm2, hat2⟩ := at_map tD (xs := t) (v := v + 1 + u) (by omega) (by omega)
    obtain ⟨en, el⟩ := hcols _ hm2
    simp only at en el
    obtain ⟨ls, ds4, hls, hl1, c4⟩ := sm ds3 cs 1 (by decide) (by decide) cn (by omega)
    have ep : 0 < (es.length : Int) := by cases es with
      | nil => exact (en rfl).elim
      | cons _ _ => simp
    obtain ⟨s, ds5, sh0, sh1, c5⟩ := nx es.length ep ds4
    have q2 : cut (es.map D.str) (some s) none = (es.drop s.toNat).map D.str := by rw [cut_map, cut_lo _ sh0 (by omega)]
    have q3 : cut (es.map D.str) none (some s) = (es.take s.toNat).map D.str := by rw [cut_map, cut_hi _ sh0]
    have q1 : cut (ls.map D.str) none (some (es.length : Int)) = (ls.take es.length).map D.str := by rw [cut_map, cut_hi _ (by omega)]; rfl
    have q4 : cut ((es.drop s.toNat).map D.str ++ (es.take s.toNat).map D.str) none (some ((ls.take es.length).length : Int)) = ((es.drop s.toNat ++ es.take s.toNat).take (ls.take es.length).length).map D.str := by
      rw [← List.map_append, cut_map, cut_hi _ (by omega)]; rfl
    refine ⟨.leads a (ls.take es.length) b ((es.drop s.toNat ++ es.take s.toNat).take (ls.take es.length).length), ds5, [some (.ref 0), some (.tup (t.map tD)), some (.int v), some (tD (a, cs)), some (.int c), some (tD (b, es)), some (.tup ((ls.take es.length).map D.str)), some (.int s), some (.tup ((es.drop s.toNat).map D.str ++ (es.take s.toNat).map D.str)), none], ?_, ?_⟩
    · simp only [rules, List.mem_append]
      left
      refine leadsR_mem t _ _ _ _ _ hp hq (by omega) ?_
      simp only [leads1, List.mem_flatMap, List.mem_filter, List.mem_map, List.mem_range]
      refine ⟨ls, ⟨subs_mem hls, ?_⟩, s.toNat, by omega, rfl⟩
      cases ls with
      | nil => simp at hl1
      | cons _ _ => rfl
    · refine z_seq (z_asg s1 rfl) (z_seq (z_asg s2 rfl) (z_seq (z_asg s3 rfl) (z_seqr (fl := .rt (rD (.leads a (ls.take es.length) b ((es.drop s.toNat ++ es.take s.toNat).take (ls.take es.length).length)))) (by simp) (z_ift s4' (z_seq (z_asg (d := tD (b, es)) (h1 := [.lst (List.map D.int ds3)]) ?_ rfl) (z_seq (z_asg (d := .tup ((ls.take es.length).map D.str)) (h1 := [.lst (List.map D.int ds4)]) ?_ rfl) (z_seq (z_asg (d := .int s) (h1 := [.lst (List.map D.int ds5)]) ?_ rfl)
        (z_seq (z_asg (d := .tup ((es.drop s.toNat).map D.str ++ (es.take s.toNat).map D.str)) (h1 := [.lst (List.map D.int ds5)]) ?_ rfl) (z_seqr (by simp) (z_ret ?_)))))))))) 
      · simp only [ev, evs, evI, evT, tst, start, int?, List.map_cons, List.map_nil, List.cons_append, List.nil_append, List.replicate, List.set, List.getElem?_cons_succ, List.getElem?_cons_zero, z_bind_ok, z_bind_ex, z_bindN_ok, z_get_some, z_reg_non, z_reg_bl, z_reg_int, z_reg_str, z_reg_tup, z_reg_ref, z_reg_lck, z_reg_tl, z_reg_td, z_truth_non, z_truth_bl, z_truth_int, z_truth_tup, z_truth_tl, z_bif_int, z_bif_intb, z_bif_lent, z_bif_lenl, z_bif_lenk, z_bif_list, z_bif_tup, z_bin_add, z_bin_sub, z_cmp_lt, z_cmp_gt, z_cmp_le, z_cmp_ge, z_cmp_eq, z_cmp_ne, z_cmp_is, z_cmp_isn, z_cmp_inn, z_cmp_nin, z_eq_int, z_eq_str, z_is_bl, z_ix_tup, z_ix_tl, if_true, if_false, Bool.false_eq_true, z_isi_tup, z_isi_str, z_isi_tl, z_lim, z_lim0, z_lim1, z_lim2, z_lim3, z_lim4, z_lim5, Option.map_some, Bool.not_true, Bool.not_false, List.length_cons, List.length_nil, decide_true, decide_false, ne_eq, not_true_eq_false, not_false_eq_true, List.length_map, c3, hat2]
      · simp only [ev, evs, evI, evT, tst, start, int?, List.map_cons, List.map_nil, List.cons_append, List.nil_append, List.replicate, List.set, List.getElem?_cons_succ, List.getElem?_cons_zero, z_bind_ok, z_bind_ex, z_bindN_ok, z_get_some, z_reg_non, z_reg_bl, z_reg_int, z_reg_str, z_reg_tup, z_reg_ref, z_reg_lck, z_reg_tl, z_reg_td, z_truth_non, z_truth_bl, z_truth_int, z_truth_tup, z_truth_tl, z_bif_int, z_bif_intb, z_bif_lent, z_bif_lenl, z_bif_lenk, z_bif_list, z_bif_tup, z_bin_add, z_bin_sub, z_cmp_lt, z_cmp_gt, z_cmp_le, z_cmp_ge, z_cmp_eq, z_cmp_ne, z_cmp_is, z_cmp_isn, z_cmp_inn, z_cmp_nin, z_eq_int, z_eq_str, z_is_bl, z_ix_tup, z_ix_tl, if_true, if_false, Bool.false_eq_true, z_isi_tup, z_isi_str, z_isi_tl, z_lim, z_lim0, z_lim1, z_lim2, z_lim3, z_lim4, z_lim5, Option.map_some, Bool.not_true, Bool.not_false, List.length_cons, List.length_nil, decide_true, decide_false, ne_eq, not_true_eq_false, not_false_eq_true, tD, z_at1, c4, List.length_map, slcO, q1]
      · simp only [ev, evs, evI, evT, tst, start, int?, List.map_cons, List.map_nil, List.cons_append, List.nil_append, List.replicate, List.set, List.getElem?_cons_succ, List.getElem?_cons_zero, z_bind_ok, z_bind_ex, z_bindN_ok, z_get_some, z_reg_non, z_reg_bl, z_reg_int, z_reg_str, z_reg_tup, z_reg_ref, z_reg_lck, z_reg_tl, z_reg_td, z_truth_non, z_truth_bl, z_truth_int, z_truth_tup, z_truth_tl, z_bif_int, z_bif_intb, z_bif_lent, z_bif_lenl, z_bif_lenk, z_bif_list, z_bif_tup, z_bin_add, z_bin_sub, z_cmp_lt, z_cmp_gt, z_cmp_le, z_cmp_ge, z_cmp_eq, z_cmp_ne, z_cmp_is, z_cmp_isn, z_cmp_inn, z_cmp_nin, z_eq_int, z_eq_str, z_is_bl, z_ix_tup, z_ix_tl, if_true, if_false, Bool.false_eq_true, z_isi_tup, z_isi_str, z_isi_tl, z_lim, z_lim0, z_lim1, z_lim2, z_lim3, z_lim4, z_lim5, Option.map_some, Bool.not_true, Bool.not_false, List.length_cons, List.length_nil, decide_true, decide_false, ne_eq, not_true_eq_false, not_false_eq_true, tD, z_at1, c5, List.length_map]
      · simp only [ev, evs, evI, evT, tst, start, int?, List.map_cons, List.map_nil, List.cons_append, List.nil_append, List.replicate, List.set, List.getElem?_cons_succ, List.getElem?_cons_zero, z_bind_ok, z_bind_ex, z_bindN_ok, z_get_some, z_reg_non, z_reg_bl, z_reg_int, z_reg_str, z_reg_tup, z_reg_ref, z_reg_lck, z_reg_tl, z_reg_td, z_truth_non, z_truth_bl, z_truth_int, z_truth_tup, z_truth_tl, z_bif_int, z_bif_intb, z_bif_lent, z_bif_lenl, z_bif_lenk, z_bif_list, z_bif_tup, z_bin_add, z_bin_sub, z_cmp_lt, z_cmp_gt, z_cmp_le, z_cmp_ge, z_cmp_eq, z_cmp_ne, z_cmp_is, z_cmp_isn, z_cmp_inn, z_cmp_nin, z_eq_int, z_eq_str, z_is_bl, z_ix_tup, z_ix_tl, if_true, if_false, Bool.false_eq_true, z_isi_tup, z_isi_str, z_isi_tl, z_lim, z_lim0, z_lim1, z_lim2, z_lim3, z_lim4, z_lim5, Option.map_some, Bool.not_true, Bool.not_false, List.length_cons, List.length_nil, decide_true, decide_false, ne_eq, not_true_eq_false, not_false_eq_true, tD, z_at1, slcO, q2, q3]
        rw [z_bin_addt (by simp only [List.length_map, List.length_drop, List.length_take]; unfold lim; omega)]
      · simp only [ev, evs, evI, evT, tst, start, int?, List.map_cons, List.map_nil, List.cons_append, List.nil_append, List.replicate, List.set, List.getElem?_cons_succ, List.getElem?_cons_zero, z_bind_ok, z_bind_ex, z_bindN_ok, z_get_some, z_reg_non, z_reg_bl, z_reg_int, z_reg_str, z_reg_tup, z_reg_ref, z_reg_lck, z_reg_tl, z_reg_td, z_truth_non, z_truth_bl, z_truth_int, z_truth_tup, z_truth_tl, z_bif_int, z_bif_intb, z_bif_lent, z_bif_lenl, z_bif_lenk, z_bif_list, z_bif_tup, z_bin_add, z_bin_sub, z_cmp_lt, z_cmp_gt, z_cmp_le, z_cmp_ge, z_cmp_eq, z_cmp_ne, z_cmp_is, z_cmp_isn, z_cmp_inn, z_cmp_nin, z_eq_int, z_eq_str, z_is_bl, z_ix_tup, z_ix_tl, if_true, if_false, Bool.false_eq_true, z_isi_tup, z_isi_str, z_isi_tl, z_lim, z_lim0, z_lim1, z_lim2, z_lim3, z_lim4, z_lim5, Option.map_some, Bool.not_true, Bool.not_false, List.length_cons, List.length_nil, decide_true, decide_false, ne_eq, not_true_eq_false, not_false_eq_true, tD, z_at0, z_at1, List.length_map, slcO, q4]
        rfl
  · have s4' := s4
    have : (decide (c < 2) && decide (v + 1 < t.length)) = false := by
      cases x : decide (c < 2) && decide (v + 1 < t.length) with
      | false => rfl
      | true => simp at x; exact (g x).elim
    rw [this] at s4'
    have ep : 0 < (cs.length : Int) := by cases cs with
      | nil => exact (cn rfl).elim
      | cons _ _ => simp
    obtain ⟨s, ds5, sh0, sh1, c5⟩ := nx cs.length ep ds2
    obtain ⟨col, hcol, hcm, hcat⟩ := at_map D.str sh0 sh1
    have s5 : ev F (.ix (.ix (.var 3) (.int 1)) (.cal 20 (.cons (.var 0) (.cons (.bif .len (.ix (.var 3) (.int 1))) .nil)))) [some (.ref 0), some (.tup (t.map tD)), some (.int v), some (tD (a, cs)), some (.int c), none, none, none, none, none] [.lst (List.map D.int ds2)] = .ok (.str col) [.lst (List.map D.int ds5)] := by
      simp only [ev, evs, evI, evT, tst, start, int?, List.map_cons, List.map_nil, List.cons_append, List.nil_append, List.replicate, List.set, List.getElem?_cons_succ, List.getElem?_cons_zero, z_bind_ok, z_bind_ex, z_bindN_ok, z_get_some, z_reg_non, z_reg_bl, z_reg_int, z_reg_str, z_reg_tup, z_reg_ref, z_reg_lck, z_reg_tl, z_reg_td, z_truth_non, z_truth_bl, z_truth_int, z_truth_tup, z_truth_tl, z_bif_int, z_bif_intb, z_bif_lent, z_bif_lenl, z_bif_lenk, z_bif_list, z_bif_tup, z_bin_add, z_bin_sub, z_cmp_lt, z_cmp_gt, z_cmp_le, z_cmp_ge, z_cmp_eq, z_cmp_ne, z_cmp_is, z_cmp_isn, z_cmp_inn, z_cmp_nin, z_eq_int, z_eq_str, z_is_bl, z_ix_tup, z_ix_tl, if_true, if_false, Bool.false_eq_true, z_isi_tup, z_isi_str, z_isi_tl, z_lim, z_lim0, z_lim1, z_lim2, z_lim3, z_lim4, z_lim5, Option.map_some, Bool.not_true, Bool.not_false, List.length_cons, List.length_nil, decide_true, decide_false, ne_eq, not_true_eq_false, not_false_eq_true, tD, z_at1, List.length_map, c5, hcat]
    have s6 : evT F (.cmp .eq (.var 4) (.int 2)) [some (.ref 0), some (.tup (t.map tD)), some (.int v), some (tD (a, cs)), some (.int c), none, none, none, none, some (.str col)] [.lst (List.map D.int ds5)] = .ok (decide (c = 2)) [.lst (List.map D.int ds5)] := by
      simp only [ev, evs, evI, evT, tst, start, int?, List.map_cons, List.map_nil, List.cons_append, List.nil_append, List.replicate, List.set, List.getElem?_cons_succ, List.getElem?_cons_zero, z_bind_ok, z_bind_ex, z_bindN_ok, z_get_some, z_reg_non, z_reg_bl, z_reg_int, z_reg_str, z_reg_tup, z_reg_ref, z_reg_lck, z_reg_tl, z_reg_td, z_truth_non, z_truth_bl, z_truth_int, z_truth_tup, z_truth_tl, z_bif_int, z_bif_intb, z_bif_lent, z_bif_lenl, z_bif_lenk, z_bif_list, z_bif_tup, z_bin_add, z_bin_sub, z_cmp_lt, z_cmp_gt, z_cmp_le, z_cmp_ge, z_cmp_eq, z_cmp_ne, z_cmp_is, z_cmp_isn, z_cmp_inn, z_cmp_nin, z_eq_int, z_eq_str, z_is_bl, z_ix_tup, z_ix_tl, if_true, if_false, Bool.false_eq_true, z_isi_tup, z_isi_str, z_isi_tl, z_lim, z_lim0, z_lim1, z_lim2, z_lim3, z_lim4, z_lim5, Option.map_some, Bool.not_true, Bool.not_false, List.length_cons, List.length_nil, decide_true, decide_false, ne_eq, not_true_eq_false, not_false_eq_true]
    by_cases g2 : c = 2
    · rw [decide_eq_true g2] at s6
      obtain ⟨w, ds6, x0, x1, c6⟩ := nx 3 (by decide) ds5
      obtain ⟨ws, hw, hwm, hwat⟩ := at_map (fun w => D.tup (w.map D.str)) (xs := worthN) x0 x1
      have hwat' : atI [D.tup [.str [48]], .tup [.str [48], .str [49]], .tup [.str [49], .str [120]]] w = some (.tup (ws.map D.str)) := hwat
      refine ⟨.only a col ws, ds6, [some (.ref 0), some (.tup (t.map tD)), some (.int v), some (tD (a, cs)), some (.int c), none, none, none, none, some (.str col)], ?_, ?_⟩
      · simp only [rules, onlyR, List.mem_append, List.mem_flatMap, List.mem_map]
        exact .inr (.inl ⟨_, hm, _, hcm, _, hwm, rfl⟩)
      · refine z_seq (z_asg s1 rfl) (z_seq (z_asg s2 rfl) (z_seq (z_asg s3 rfl) (z_seq (z_iff0 s4' z_nil) (z_seq (z_asg s5 rfl) (z_seqr (fl := .rt (rD (.only a col ws))) (by simp) (z_ift s6 (z_seqr (by simp) (z_ret ?_))))))))
        simp only [ev, evs, evI, evT, tst, start, int?, List.map_cons, List.map_nil, List.cons_append, List.nil_append, List.replicate, List.set, List.getElem?_cons_succ, List.getElem?_cons_zero, z_bind_ok, z_bind_ex, z_bindN_ok, z_get_some, z_reg_non, z_reg_bl, z_reg_int, z_reg_str, z_reg_tup, z_reg_ref, z_reg_lck, z_reg_tl, z_reg_td, z_truth_non, z_truth_bl, z_truth_int, z_truth_tup, z_truth_tl, z_bif_int, z_bif_intb, z_bif_lent, z_bif_lenl, z_bif_lenk, z_bif_list, z_bif_tup, z_bin_add, z_bin_sub, z_cmp_lt, z_cmp_gt, z_cmp_le, z_cmp_ge, z_cmp_eq, z_cmp_ne, z_cmp_is, z_cmp_isn, z_cmp_inn, z_cmp_nin, z_eq_int, z_eq_str, z_is_bl, z_ix_tup, z_ix_tl, if_true, if_false, Bool.false_eq_true, z_isi_tup, z_isi_str, z_isi_tl, z_lim, z_lim0, z_lim1, z_lim2, z_lim3, z_lim4, z_lim5, Option.map_some, Bool.not_true, Bool.not_false, List.length_cons, List.length_nil, decide_true, decide_false, ne_eq, not_true_eq_false, not_false_eq_true, tD, z_at0, c6, hwat']
        rfl
    · rw [decide_eq_false g2] at s6
      obtain ⟨ls, ds6, hls, hl1, c6⟩ := sm ds5 cs 0 (by decide) (by decide) cn (by omega)
      refine ⟨.tells a ls col, ds6, [some (.ref 0), some (.tup (t.map tD)), some (.int v), some (tD (a, cs)), some (.int c), none, none, none, none, some (.str col)], ?_, ?_⟩
      · simp only [rules, tellsR, List.mem_append, List.mem_flatMap, List.mem_map]
        exact .inr (.inr ⟨_, hm, _, subs_mem hls, _, hcm, rfl⟩)
      · refine z_seq (z_asg s1 rfl) (z_seq (z_asg s2 rfl) (z_seq (z_asg s3 rfl) (z_seq (z_iff0 s4' z_nil) (z_seq (z_asg s5 rfl) (z_seq (z_iff0 s6 z_nil) (z_seqr (fl := .rt (rD (.tells a ls col))) (by simp) (z_ret ?_)))))))
        simp only [ev, evs, evI, evT, tst, start, int?, List.map_cons, List.map_nil, List.cons_append, List.nil_append, List.replicate, List.set, List.getElem?_cons_succ, List.getElem?_cons_zero, z_bind_ok, z_bind_ex, z_bindN_ok, z_get_some, z_reg_non, z_reg_bl, z_reg_int, z_reg_str, z_reg_tup, z_reg_ref, z_reg_lck, z_reg_tl, z_reg_td, z_truth_non, z_truth_bl, z_truth_int, z_truth_tup, z_truth_tl, z_bif_int, z_bif_intb, z_bif_lent, z_bif_lenl, z_bif_lenk, z_bif_list, z_bif_tup, z_bin_add, z_bin_sub, z_cmp_lt, z_cmp_gt, z_cmp_le, z_cmp_ge, z_cmp_eq, z_cmp_ne, z_cmp_is, z_cmp_isn, z_cmp_inn, z_cmp_nin, z_eq_int, z_eq_str, z_is_bl, z_ix_tup, z_ix_tl, if_true, if_false, Bool.false_eq_true, z_isi_tup, z_isi_str, z_isi_tl, z_lim, z_lim0, z_lim1, z_lim2, z_lim3, z_lim4, z_lim5, Option.map_some, Bool.not_true, Bool.not_false, List.length_cons, List.length_nil, decide_true, decide_false, ne_eq, not_true_eq_false, not_false_eq_true, tD, z_at0, z_at1, c6]
        rfl
def schD (t : List Tb) (rs : List Rl) : D := .tup [.tup (t.map tD), .tup (rs.map rD)]
theorem schema_ok (k : Nat) (ds : List Int) : ∃ n t rs ds', 1 ≤ n ∧ n ≤ 3 ∧ t ∈ TT n ∧ (∀ r ∈ rs, r ∈ rules t) ∧ rs.length ≤ 4 ∧
    callF P 100 (k + 4) i__law_schema [.ref 0, .int 4] [.lst (ds.map D.int)] = .ok (schD t rs) [.lst (List.map D.int ds')] := by
  rw [callF_im p__law_schema rfl rfl]
  obtain ⟨n, ds1, t, n1, n3, ht, c1⟩ := tables_ok (k + 1) ds
  have c1' : callF P 100 (k + 3) 21 [.ref 0] [.lst (ds.map D.int)] = .ok (.tup (t.map tD)) [.lst (List.map D.int ds1)] := c1
  obtain ⟨v, ds2, v0, v1, c2⟩ := next_ok (k + 2) [.lst (ds1.map D.int)] ds1 5 (by decide) rfl
  have c2' : callF P 100 (k + 3) 20 [.ref 0, .int (4 + 1)] [.lst (ds1.map D.int)] = .ok (.int v) [.lst (List.map D.int ds2)] := c2
  have ru : ∀ ds : List Int, ∃ r ds', r ∈ rules t ∧ callF P 100 (k + 3) 23 [.ref 0, .tup (t.map tD)] [.lst (ds.map D.int)] = .ok (rD r) [.lst (List.map D.int ds')] := rule_ok k n n1 n3 t ht
  generalize callF P 100 (k + 3) = F at c1' c2' ru ⊢
  have hr : rngO 0 v = some (rngD 0 v.toNat) := by
    unfold rngO
    rw [if_pos]
    · simp
    · unfold lim; omega
  have L := lcL_inv (t := .nm 3) (c := fun env h => tst (ev F (.bl true) env h)) (e := ev F (.cal 23 (.cons (.var 0) (.cons (.var 2) .nil)))) (env := [some (.ref 0), some (.int 4), some (.tup (t.map tD)), none]) (gs := [])
    (fun xs acc h => ∃ (j : Int) (m : Nat) (rs : List Rl) (ds' : List Int), xs = rngD j m ∧ (∀ r ∈ rs, r ∈ rules t) ∧ rs.length + m ≤ 4 ∧ acc = rs.map rD ∧ h = [.lst (List.map D.int ds')]) ?_ (fun _ _ _ => rfl) (rngD 0 v.toNat) [.lst (List.map D.int ds2)] [] ⟨0, v.toNat, [], ds2, rfl, by simp, by simp; omega, rfl, rfl⟩
  · obtain ⟨ys, h', e1, j, m, rs, ds3, e2, e3, e4, e5, e6⟩ := L
    subst e5 e6
    refine ⟨n, t, rs, ds3, n1, n3, ht, e3, by omega, ?_⟩
    have key : ex F 100 b__law_schema (start 4 [.ref 0, .int 4]) [.lst (ds.map D.int)] = .ok (.rt (schD t rs), [some (.ref 0), some (.int 4), some (.tup (t.map tD)), none]) [.lst (List.map D.int ds3)] := by
      have hlc : ev F (.lc [3] (.nm 3) (.rng (.cons (.cal 20 (.cons (.var 0) (.cons (.bin .add (.var 1) (.int 1)) .nil))) .nil)) (.bl true) (.cal 23 (.cons (.var 0) (.cons (.var 2) .nil)))) [some (.ref 0), some (.int 4), some (.tup (t.map tD)), none] [.lst (List.map D.int ds1)] = .ok (.tl (rs.map rD)) [.lst (List.map D.int ds3)] := by
        refine z_lc (xs := rngD 0 v.toNat) (gs := []) (h1 := [.lst (List.map D.int ds2)]) ?_ e1
        simp only [ev, evs, evI, evT, tst, start, int?, List.map_cons, List.map_nil, List.cons_append, List.nil_append, List.replicate, List.set, List.getElem?_cons_succ, List.getElem?_cons_zero, z_bind_ok, z_bind_ex, z_bindN_ok, z_get_some, z_reg_non, z_reg_bl, z_reg_int, z_reg_str, z_reg_tup, z_reg_ref, z_reg_lck, z_reg_tl, z_reg_td, z_truth_non, z_truth_bl, z_truth_int, z_truth_tup, z_truth_tl, z_bif_int, z_bif_intb, z_bif_lent, z_bif_lenl, z_bif_lenk, z_bif_list, z_bif_tup, z_bin_add, z_bin_sub, z_cmp_lt, z_cmp_gt, z_cmp_le, z_cmp_ge, z_cmp_eq, z_cmp_ne, z_cmp_is, z_cmp_isn, z_cmp_inn, z_cmp_nin, z_eq_int, z_eq_str, z_is_bl, z_ix_tup, z_ix_tl, if_true, if_false, Bool.false_eq_true, z_isi_tup, z_isi_str, z_isi_tl, z_lim, z_lim0, z_lim1, z_lim2, z_lim3, z_lim4, z_lim5, Option.map_some, Bool.not_true, Bool.not_false, List.length_cons, List.length_nil, decide_true, decide_false, ne_eq, not_true_eq_false, not_false_eq_true, c2', hr]
      refine z_seq (z_asg (d := .tup (t.map tD)) (h1 := [.lst (List.map D.int ds1)]) ?_ rfl) (z_seqr (by simp) (z_ret ?_))
      · simp only [ev, evs, evI, evT, tst, start, int?, List.map_cons, List.map_nil, List.cons_append, List.nil_append, List.replicate, List.set, List.getElem?_cons_succ, List.getElem?_cons_zero, z_bind_ok, z_bind_ex, z_bindN_ok, z_get_some, z_reg_non, z_reg_bl, z_reg_int, z_reg_str, z_reg_tup, z_reg_ref, z_reg_lck, z_reg_tl, z_reg_td, z_truth_non, z_truth_bl, z_truth_int, z_truth_tup, z_truth_tl, z_bif_int, z_bif_intb, z_bif_lent, z_bif_lenl, z_bif_lenk, z_bif_list, z_bif_tup, z_bin_add, z_bin_sub, z_cmp_lt, z_cmp_gt, z_cmp_le, z_cmp_ge, z_cmp_eq, z_cmp_ne, z_cmp_is, z_cmp_isn, z_cmp_inn, z_cmp_nin, z_eq_int, z_eq_str, z_is_bl, z_ix_tup, z_ix_tl, if_true, if_false, Bool.false_eq_true, z_isi_tup, z_isi_str, z_isi_tl, z_lim, z_lim0, z_lim1, z_lim2, z_lim3, z_lim4, z_lim5, Option.map_some, Bool.not_true, Bool.not_false, List.length_cons, List.length_nil, decide_true, decide_false, ne_eq, not_true_eq_false, not_false_eq_true, c1']
      · exact z_tupE (ds := [.tup (t.map tD), .tup (rs.map rD)]) (z_cons (d := .tup (t.map tD)) (h1 := [.lst (List.map D.int ds1)]) (z_var rfl) (z_cons (d := .tup (rs.map rD)) (h1 := [.lst (List.map D.int ds3)]) (z_bifE hlc rfl) z_enil)) (Nat.le_of_ble_eq_true rfl)
    rw [z_run key]
    exact fin_same rfl
  · rintro x xs acc h ⟨j, m, rs, ds3, e2, e3, e4, e5, e6⟩
    subst e5 e6
    cases m with
    | zero => cases e2
    | succ m =>
      simp only [rngD, List.cons.injEq] at e2
      obtain ⟨e2, e2'⟩ := e2
      subst e2 e2'
      obtain ⟨r, ds4, hr, c3⟩ := ru ds3
      refine ⟨rfl, by rw [List.length_map]; unfold lim; omega, _, rfl, .inr ⟨_, rD r, [.lst (List.map D.int ds4)], rfl, ?_, j + 1, m, rs ++ [r], ds4, rfl, ?_, ?_, ?_, ?_⟩⟩
      · simp only [ev, evs, evI, evT, tst, start, int?, List.map_cons, List.map_nil, List.cons_append, List.nil_append, List.replicate, List.set, List.getElem?_cons_succ, List.getElem?_cons_zero, z_bind_ok, z_bind_ex, z_bindN_ok, z_get_some, z_reg_non, z_reg_bl, z_reg_int, z_reg_str, z_reg_tup, z_reg_ref, z_reg_lck, z_reg_tl, z_reg_td, z_truth_non, z_truth_bl, z_truth_int, z_truth_tup, z_truth_tl, z_bif_int, z_bif_intb, z_bif_lent, z_bif_lenl, z_bif_lenk, z_bif_list, z_bif_tup, z_bin_add, z_bin_sub, z_cmp_lt, z_cmp_gt, z_cmp_le, z_cmp_ge, z_cmp_eq, z_cmp_ne, z_cmp_is, z_cmp_isn, z_cmp_inn, z_cmp_nin, z_eq_int, z_eq_str, z_is_bl, z_ix_tup, z_ix_tl, if_true, if_false, Bool.false_eq_true, z_isi_tup, z_isi_str, z_isi_tl, z_lim, z_lim0, z_lim1, z_lim2, z_lim3, z_lim4, z_lim5, Option.map_some, Bool.not_true, Bool.not_false, List.length_cons, List.length_nil, decide_true, decide_false, ne_eq, not_true_eq_false, not_false_eq_true, c3]
      · intro y hy
        rcases List.mem_append.mp hy with hy | hy
        · exact e3 y hy
        · simp at hy; subst hy; exact hr
      · simp; omega
      · cases r <;> simp [rD]
      · cases r <;> rfl
end K00
end
section
set_option linter.all false
set_option maxRecDepth 100000
set_option maxHeartbeats 4000000
set_option autoImplicit false
namespace K00
open Mp
def isT : R D → Bool
  | .ok (.bl true) [] => true
  | _ => false
theorem isT_eq {r : R D} (h : isT r = true) : r = .ok (.bl true) [] := by
  cases r with
  | no => cases h
  | ex c fs h => cases h
  | ok d h1 =>
    cases d <;> try (cases h; done)
    rename_i b
    cases b <;> cases h1 <;> first | rfl | cases h
def isF : R D → Bool
  | .ok (.bl false) [] => true
  | _ => false
theorem isF_eq {r : R D} (h : isF r = true) : r = .ok (.bl false) [] := by
  cases r with
  | no => cases h
  | ex c fs h => cases h
  | ok d h1 =>
    cases d <;> try (cases h; done)
    rename_i b
    cases b <;> cases h1 <;> first | rfl | cases h
def T3 : List (List Tb) := TT 1 ++ (TT 2 ++ TT 3)
theorem T3_mem {n : Nat} (n1 : 1 ≤ n) (n3 : n ≤ 3) {t : List Tb} (h : t ∈ TT n) : t ∈ T3 := by
  simp only [T3, List.mem_append]
  match n, n1, n3 with
  | 1, _, _ => exact .inl h
  | 2, _, _ => exact .inr (.inl h)
  | 3, _, _ => exact .inr (.inr h)
/-! pure, trees -/
theorem pures_of {α : Type} (f : α → D) (hf : ∀ a, (f a).pure = true) : ∀ xs : List α, D.pures (xs.map f) = true
  | [] => rfl
  | x :: xs => by simp only [List.map_cons, D.pures, hf, pures_of f hf xs, Bool.and_self]
theorem pure_tD (p : Tb) : (tD p).pure = true := by simp only [tD, D.pure, D.pures, pures_strs, Bool.and_self]
theorem pure_rD (r : Rl) : (rD r).pure = true := by cases r <;> simp only [rD, D.pure, D.pures, pures_strs, Bool.and_self]
theorem pure_T (t : List Tb) : (D.tup (t.map tD)).pure = true := by simp only [D.pure, pures_of tD pure_tD]
theorem pure_Rs (rs : List Rl) : (D.tup (rs.map rD)).pure = true := by simp only [D.pure, pures_of rD pure_rD]
theorem pure_S (t : List Tb) (rs : List Rl) : (schD t rs).pure = true := by simp only [schD, D.pure, D.pures, pures_of rD pure_rD, pures_of tD pure_tD, Bool.and_self]
theorem trees_of {α : Type} (n : Nat) (f : α → D) (hf : ∀ a, D.tree n (f a) = true) : ∀ xs : List α, D.trees n (xs.map f) = true
  | [] => by simp only [List.map_nil, D.trees]
  | x :: xs => by simp only [List.map_cons, D.trees, hf, trees_of n f hf xs, Bool.and_self]
theorem tree_str (n : Nat) (s : List Nat) : D.tree n (.str s) = true := by simp only [D.tree]
theorem tree_strs (n : Nat) (cs : List (List Nat)) : D.tree (n + 1) (.tup (cs.map D.str)) = true := by simp only [D.tree]; exact trees_of n D.str (tree_str n) cs
theorem tree_tD (n : Nat) (p : Tb) : D.tree (n + 2) (tD p) = true := by
  have := tree_strs n p.2
  simp only [tD]
  rw [D.tree]
  simp only [D.trees, tree_str, this, Bool.and_self]
theorem tree_rD (n : Nat) (r : Rl) : D.tree (n + 2) (rD r) = true := by
  have := tree_strs n
  cases r <;> (simp only [rD]; rw [D.tree]; simp only [D.trees, tree_str, this, Bool.and_self])
theorem tree_T (n : Nat) (t : List Tb) : D.tree (n + 3) (.tup (t.map tD)) = true := by rw [D.tree]; exact trees_of (n + 2) tD (tree_tD n) t
theorem tree_Rs (n : Nat) (rs : List Rl) : D.tree (n + 3) (.tup (rs.map rD)) = true := by rw [D.tree]; exact trees_of (n + 2) rD (tree_rD n) rs
theorem tree_S (n : Nat) (t : List Tb) (rs : List Rl) : D.tree (n + 4) (schD t rs) = true := by
  simp only [schD]; rw [D.tree]; simp only [D.trees, tree_T n, tree_Rs n, Bool.and_self]
mutual
theorem res_tree (h : Hd) : ∀ (n : Nat) (d : D), D.tree n d = true → D.res h n d = some d
  | n, .non, _ => by cases n <;> rfl
  | n, .bl b, _ => by cases n <;> rfl
  | n, .int i, _ => by cases n <;> rfl
  | n, .str s, _ => by cases n <;> rfl
  | 0, .tup xs, e => by simp [D.tree] at e
  | n + 1, .tup xs, e => by
    simp only [D.tree] at e
    simp only [D.res, res_trees h n xs e, Option.map_some]
  | n, .lck xs, e => by simp [D.tree] at e
  | n, .ref k, e => by simp [D.tree] at e
  | n, .tl xs, e => by simp [D.tree] at e
  | n, .td ks vs, e => by simp [D.tree] at e
  | n, .exn c fs, e => by simp [D.tree] at e
theorem res_trees (h : Hd) : ∀ (n : Nat) (ds : List D), D.trees n ds = true → mapO (D.res h n) ds = some ds
  | n, [], _ => rfl
  | n, d :: ds, e => by
    simp only [D.trees, Bool.and_eq_true] at e
    simp only [mapO, res_tree h n d e.1, res_trees h n ds e.2]
end
mutual
theorem eqv_tree : ∀ (n : Nat) (d : D), D.tree n d = true → D.eqv d d = true
  | n, .non, _ => rfl
  | n, .bl b, _ => by simp [D.eqv]
  | n, .int i, _ => by simp [D.eqv]
  | n, .str s, _ => by simp only [D.eqv]; exact lnat_refl s
  | 0, .tup xs, e => by simp [D.tree] at e
  | n + 1, .tup xs, e => by
    simp only [D.tree] at e
    simp only [D.eqv, eqv_trees n xs e]
  | n, .lck xs, e => by simp [D.tree] at e
  | n, .ref k, e => by simp [D.tree] at e
  | n, .tl xs, e => by simp [D.tree] at e
  | n, .td ks vs, e => by simp [D.tree] at e
  | n, .exn c fs, e => by simp [D.tree] at e
theorem eqv_trees : ∀ (n : Nat) (ds : List D), D.trees n ds = true → D.eqvs ds ds = true
  | n, [], _ => rfl
  | n, d :: ds, e => by
    simp only [D.trees, Bool.and_eq_true] at e
    simp only [D.eqvs, eqv_tree n d e.1, eqv_trees n ds e.2, Bool.and_self]
end
theorem eqH_tree {h : Hd} {d : D} (e : D.tree 20 d = true) : eqH h d d = some true := by
  simp only [eqH, res_tree h 20 d e, eqv_tree 20 d e]
/-! calls where the heap stays -/
def Okh (h : Hd) (p : Prop) (h' : Hd) : Prop := h' = h ∨ (h' = [] ∧ p)
theorem callF_okh {k f : Nat} {ds : List D} {h : Hd} {p : Prop} {fn : Fn} {d : D} (e : P[f]? = some fn) (l : ds.length = fn.ps) (hp : D.pures ds = true → p) (hd : d.pure = true)
    (r : ∀ h', Okh h p h' → runB (callF P 100 k) 100 fn ds h' = .ok d h') : ∀ h', Okh h p h' → callF P 100 (k + 1) f ds h' = .ok d h' := by
  intro h' o
  by_cases i : D.pures ds = true
  · exact callF_pu e l i (r [] (.inr ⟨rfl, hp i⟩)) hd
  · rw [callF_im e l (by simpa using i)]
    exact r h' o
theorem callF_okx {k f : Nat} {ds : List D} {h : Hd} {p : Prop} {fn : Fn} {c : Nat} (e : P[f]? = some fn) (l : ds.length = fn.ps) (hp : D.pures ds = true → p)
    (r : ∀ h', Okh h p h' → runB (callF P 100 k) 100 fn ds h' = .ex c [] h') : ∀ h', Okh h p h' → callF P 100 (k + 1) f ds h' = .ex c [] h' := by
  intro h' o
  by_cases i : D.pures ds = true
  · have q := r [] (.inr ⟨rfl, hp i⟩)
    simp only [callF, e, l, i, q, D.pures]
    simp
  · rw [callF_im e l (by simpa using i)]
    exact r h' o
/-- a dict that is told drops what was made -/
theorem fin_dropd {h0 s : Hd} {n : Nat} {ks vs : List D} (e : (h0 ++ s)[n]? = some (.dic ks vs)) (hn : h0.length ≤ n) (hk : D.pures ks = true) (hv : D.pures vs = true) : fin h0 (.ref n) (h0 ++ s) = .ok (.td ks vs) h0 := by
  have hl := (List.getElem?_eq_some_iff.mp e).1
  unfold fin
  have e1 : Nat.ble (h0 ++ s).length h0.length = false := by
    cases z : Nat.ble (h0 ++ s).length h0.length with
    | false => rfl
    | true =>
      have := Nat.le_of_ble_eq_true z
      omega
  have e2 : okT h0 (h0 ++ s) = true := okT_refl rfl fun n o u a b => by rw [a] at b; cases b; exact .inr (obsame_refl o)
  have e3 : Nat.blt n h0.length = false := by
    cases z : Nat.blt n h0.length with
    | false => rfl
    | true =>
      have := Nat.le_of_ble_eq_true z
      omega
  simp only [e1, e2, e3, e, hk, hv, Bool.and_self, if_true, Bool.false_eq_true, if_false]
  simp
theorem fin_dropl {h0 s : Hd} {n : Nat} {xs : List D} (e : (h0 ++ s)[n]? = some (.lst xs)) (hn : h0.length ≤ n) (hk : D.pures xs = true) : fin h0 (.ref n) (h0 ++ s) = .ok (.tl xs) h0 := by
  have hl := (List.getElem?_eq_some_iff.mp e).1
  unfold fin
  have e1 : Nat.ble (h0 ++ s).length h0.length = false := by
    cases z : Nat.ble (h0 ++ s).length h0.length with
    | false => rfl
    | true =>
      have := Nat.le_of_ble_eq_true z
      omega
  have e2 : okT h0 (h0 ++ s) = true := okT_refl rfl fun n o u a b => by rw [a] at b; cases b; exact .inr (obsame_refl o)
  have e3 : Nat.blt n h0.length = false := by
    cases z : Nat.blt n h0.length with
    | false => rfl
    | true =>
      have := Nat.le_of_ble_eq_true z
      omega
  simp only [e1, e2, e3, e, hk, if_true, Bool.false_eq_true, if_false]
  simp
theorem fin_dropp {h0 s : Hd} {d : D} (hd : d.pure = true) : fin h0 d (h0 ++ s) = .ok d h0 := by
  cases s with
  | nil => rw [List.append_nil]; exact fin_same rfl
  | cons o s => exact fin_drop rfl (by simp) (fun n o u a b => by rw [a] at b; cases b; exact .inr (obsame_refl o)) hd
end K00
end
section
set_option linter.all false
set_option maxRecDepth 100000
set_option maxHeartbeats 4000000
set_option autoImplicit false
namespace K00
open Mp
abbrev KK := List Nat × List Nat
def kD (a : KK) : D := .tup [.str a.1, .str a.2]
abbrev Way := KK × KK × Bool
def wD (w : Way) : D := .tup [kD w.1, kD w.2.1, .bl w.2.2]
def rk (a : KK) : Nat := if a.1 = [112] then 0 else if a.1 = [113] then 1 else 2
theorem key_eqv (a b : KK) : D.eqv (kD a) (kD b) = decide (a = b) := by
  obtain ⟨a1, a2⟩ := a
  obtain ⟨b1, b2⟩ := b
  simp only [kD, D.eqv, D.eqvs, lnat_iff, Bool.and_true, Prod.mk.injEq, Bool.decide_and]
theorem key_eq (h : Hd) (a b : KK) : eqH h (kD a) (kD b) = some (decide (a = b)) := by
  rw [← key_eqv]
  have q : ∀ c : KK, D.res h 20 (kD c) = some (kD c) := fun c => rfl
  simp only [eqH, q]
theorem key_has (k : KK) : ∀ ks : List KK, khas (kD k) (ks.map kD) = decide (k ∈ ks)
  | [] => by simp [khas]
  | a :: ks => by
    simp only [List.map_cons, khas, key_eqv, key_has k ks, List.mem_cons]
    by_cases e : a = k
    · subst e; simp
    · have e' : ¬ k = a := fun z => e z.symm
      simp [e, e']
theorem key_ok (ks : List KK) (k : KK) : keyOk (ks.map kD) (kD k) = true := by
  cases ks with
  | nil => rfl
  | cons a ks => rfl
def trues (ks : List KK) : List D := ks.map fun _ => .bl true
theorem key_put (k : KK) : ∀ ks : List KK, k ∉ ks → kput (kD k) (.bl true) (ks.map kD) (trues ks) = ((ks ++ [k]).map kD, trues (ks ++ [k]))
  | [], _ => rfl
  | a :: ks, h => by
    simp only [List.mem_cons, not_or] at h
    have e : ¬ a = k := fun z => h.1 z.symm
    have := key_put k ks h.2
    simp only [trues] at this
    simp only [trues, List.map_cons, kput, key_eqv, e, decide_false, Bool.false_eq_true, if_false, List.cons_append, this]
theorem pure_kD (a : KK) : (kD a).pure = true := rfl
theorem pures_trues (ks : List KK) : D.pures (trues ks) = true := pures_of _ (fun _ => rfl) ks
theorem filt_le {α : Type} {p q : α → Bool} (hpq : ∀ a, p a = true → q a = true) : ∀ W : List α, (W.filter p).length ≤ (W.filter q).length
  | [] => Nat.le_refl _
  | a :: W => by
    have ih := filt_le hpq W
    simp only [List.filter_cons]
    cases e1 : p a with
    | true => simp only [hpq a e1, if_true, List.length_cons]; omega
    | false =>
      cases q a <;> simp only [if_true, if_false, Bool.false_eq_true, List.length_cons] <;> omega
theorem filt_lt {α : Type} {p q : α → Bool} (hpq : ∀ a, p a = true → q a = true) : ∀ (W : List α) (a : α), a ∈ W → q a = true → p a = false → (W.filter p).length < (W.filter q).length
  | [], _, m, _, _ => by simp at m
  | b :: W, a, m, h1, h2 => by
    have ih := filt_le hpq W
    simp only [List.filter_cons]
    rcases List.mem_cons.mp m with m | m
    · subst m
      simp only [h1, h2, if_true, if_false, Bool.false_eq_true, List.length_cons]; omega
    · have ih := filt_lt hpq W a m h1 h2
      cases e1 : p b with
      | true => simp only [hpq b e1, if_true, List.length_cons]; omega
      | false =>
        cases q b <;> simp only [if_true, if_false, Bool.false_eq_true, List.length_cons] <;> omega
def miss (W : List Way) (ks : List KK) : Nat := (W.filter fun w => !decide (w.2.1 ∈ ks)).length
theorem miss_put (W : List Way) (w : Way) (ks : List KK) (m : w ∈ W) (n : w.2.1 ∉ ks) : miss W (ks ++ [w.2.1]) + 1 ≤ miss W ks := by
  refine filt_lt ?_ W w m ?_ ?_
  · intro a; simp only [List.mem_append, Bool.not_eq_true', decide_eq_false_iff_not, not_or]; exact fun h => h.1
  · simp [n]
  · simp
theorem z_in_dic {h : Hd} {n : Nat} {ks vs : List D} {x : D} (e : h[n]? = some (.dic ks vs)) (e2 : keyOk ks x = true) : inO h x (.ref n) = some (khas x ks) := by
  simp only [inO, dicOf, e, e2, if_true]
def bodyR : S := match b_reach_of with
  | .seq _ (.seq _ (.seq (.whl _ b) _)) => b
  | _ => .nil
def bodyRi : S := match bodyR with
  | .seq _ (.seq (.for _ _ b) _) => b
  | _ => .nil
section
variable (F : Nat → List D → Hd → R D) (h0 : Hd) (i : Nat) (W : List Way) (hW : h0[i]? = some (.lst (W.map wD))) (b : KK)
def renv (a4 a5 a6 a7 : Option D) : Env := [some (.ref i), some (kD b), some (.ref h0.length), some (.ref (h0.length + 1)), a4, a5, a6, a7]
def rhp (ks todo : List KK) : Hd := h0 ++ [.dic (ks.map kD) (trues ks), .lst (todo.map kD)]
include hW in
theorem r_g (ks todo : List KK) : (rhp h0 ks todo)[i]? = some (.lst (W.map wD)) := by
  have hil : i < h0.length := (List.getElem?_eq_some_iff.mp hW).1
  unfold rhp
  rw [List.getElem?_append_left hil]; exact hW
theorem r_d (ks todo : List KK) : (rhp h0 ks todo)[h0.length]? = some (.dic (ks.map kD) (trues ks)) := by simp [rhp]
theorem r_t (ks todo : List KK) : (rhp h0 ks todo)[h0.length + 1]? = some (.lst (todo.map kD)) := by simp [rhp]
theorem r_sd (ks ks' todo : List KK) : (rhp h0 ks todo).set h0.length (.dic (ks'.map kD) (trues ks')) = rhp h0 ks' todo := by
  unfold rhp; rw [List.set_append_right _ _ (by omega)]; simp
theorem r_st (ks todo todo' : List KK) : (rhp h0 ks todo).set (h0.length + 1) (.lst (todo'.map kD)) = rhp h0 ks todo' := by
  unfold rhp; rw [List.set_append_right _ _ (by omega)]; simp
include hW in
theorem r_in (hl : W.length ≤ 90) (hg : ∀ w ∈ W, rk w.1 < rk w.2.1) (x : KK) (hx : rk b ≤ rk x) (n : Nat) (hn : n ≤ 1000) : ∀ (rest : List Way) (ks todo : List KK) (a5 a6 a7 : Option D), (∀ w ∈ rest, w ∈ W) → (∀ y ∈ ks, rk b ≤ rk y) → (∀ y ∈ todo, rk b ≤ rk y) → todo.length + miss W ks ≤ n → ks.length + miss W ks ≤ 1000 →
    ∃ ks' todo' a5' a6' a7', forL (.tp (.cons (.nm 5) (.cons (.nm 6) (.cons (.nm 7) .nil)))) (ex F 100 bodyRi) [(i, W.map wD)] (rest.map wD) (renv h0 i b (some (kD x)) a5 a6 a7) (rhp h0 ks todo) = .ok (.nx, renv h0 i b (some (kD x)) a5' a6' a7') (rhp h0 ks' todo') ∧
      (∀ y ∈ ks', rk b ≤ rk y) ∧ (∀ y ∈ todo', rk b ≤ rk y) ∧ todo'.length + miss W ks' ≤ n ∧ ks'.length + miss W ks' ≤ 1000
  | [], ks, todo, a5, a6, a7, _, q1, q2, q3, q4 => by
    refine ⟨ks, todo, a5, a6, a7, ?_, q1, q2, q3, q4⟩
    simp only [List.map_nil, forL, gOk, r_g h0 i W hW, sames_refl, Bool.and_self, if_true]
  | w :: rest, ks, todo, a5, a6, a7, q0, q1, q2, q3, q4 => by
    have hw := q0 w List.mem_cons_self
    have q0' : ∀ w ∈ rest, w ∈ W := fun y hy => q0 y (List.mem_cons_of_mem _ hy)
    have asg : asgT (.tp (.cons (.nm 5) (.cons (.nm 6) (.cons (.nm 7) .nil)))) (wD w) (renv h0 i b (some (kD x)) a5 a6 a7) = some (renv h0 i b (some (kD x)) (some (kD w.1)) (some (kD w.2.1)) (some (.bl w.2.2))) := rfl
    have ht : evT F (.and (.cmp .eq (.var 5) (.var 4)) (.cmp .nin (.var 6) (.var 2))) (renv h0 i b (some (kD x)) (some (kD w.1)) (some (kD w.2.1)) (some (.bl w.2.2))) (rhp h0 ks todo) = .ok (decide (w.1 = x) && !decide (w.2.1 ∈ ks)) (rhp h0 ks todo) := by
      unfold renv
      simp only [ev, evs, evI, evT, tst, start, int?, List.map_cons, List.map_nil, List.cons_append, List.nil_append, List.replicate, List.set, List.getElem?_cons_succ, List.getElem?_cons_zero, z_bind_ok, z_bind_ex, z_bindN_ok, z_get_some, z_reg_non, z_reg_bl, z_reg_int, z_reg_str, z_reg_tup, z_reg_ref, z_reg_lck, z_reg_tl, z_reg_td, z_truth_non, z_truth_bl, z_truth_int, z_truth_tup, z_truth_tl, z_bif_int, z_bif_intb, z_bif_lent, z_bif_lenl, z_bif_lenk, z_bif_list, z_bif_tup, z_bin_add, z_bin_sub, z_cmp_lt, z_cmp_gt, z_cmp_le, z_cmp_ge, z_cmp_eq, z_cmp_ne, z_cmp_is, z_cmp_isn, z_cmp_inn, z_cmp_nin, z_eq_int, z_eq_str, z_is_bl, z_ix_tup, z_ix_tl, if_true, if_false, Bool.false_eq_true, z_isi_tup, z_isi_str, z_isi_tl, z_lim, z_lim0, z_lim1, z_lim2, z_lim3, z_lim4, z_lim5, Option.map_some, Bool.not_true, Bool.not_false, List.length_cons, List.length_nil, decide_true, decide_false, ne_eq, not_true_eq_false, not_false_eq_true, key_eq, z_in_dic (r_d h0 ks todo) (key_ok ks w.2.1), key_has]
      cases decide (w.1 = x) <;> rfl
    by_cases g : w.1 = x ∧ w.2.1 ∉ ks
    · have g1 : (decide (w.1 = x) && !decide (w.2.1 ∈ ks)) = true := by simp [g.1, g.2]
      rw [g1] at ht
      have m1 := miss_put W w ks hw g.2
      have kl : (ks.map kD).length < lim := by rw [List.length_map]; unfold lim; omega
      have tl : (todo.map kD).length < lim := by rw [List.length_map]; unfold lim; omega
      have key : ex F 100 bodyRi (renv h0 i b (some (kD x)) (some (kD w.1)) (some (kD w.2.1)) (some (.bl w.2.2))) (rhp h0 ks todo) = .ok (.nx, renv h0 i b (some (kD x)) (some (kD w.1)) (some (kD w.2.1)) (some (.bl w.2.2))) (rhp h0 (ks ++ [w.2.1]) (todo ++ [w.2.1])) := by
        refine z_seq (z_ift ht (z_seq (z_sas (x := .bl true) (o := .ref h0.length) (k := kD w.2.1) (h1 := rhp h0 ks todo) (h2 := rhp h0 ks todo) (h3 := rhp h0 ks todo) (h4 := rhp h0 (ks ++ [w.2.1]) todo) rfl rfl rfl ?_) (z_seq (z_exs (d := .non) ?_) z_nil))) z_nil
        · rw [z_set_dic (r_d h0 ks todo) (key_ok ks w.2.1) kl]
          simp only [z_reg_bl, key_put w.2.1 ks g.2, r_sd]
        · unfold renv
          simp only [ev, evs, evI, evT, tst, start, int?, List.map_cons, List.map_nil, List.cons_append, List.nil_append, List.replicate, List.set, List.getElem?_cons_succ, List.getElem?_cons_zero, z_bind_ok, z_bind_ex, z_bindN_ok, z_get_some, z_reg_non, z_reg_bl, z_reg_int, z_reg_str, z_reg_tup, z_reg_ref, z_reg_lck, z_reg_tl, z_reg_td, z_truth_non, z_truth_bl, z_truth_int, z_truth_tup, z_truth_tl, z_bif_int, z_bif_intb, z_bif_lent, z_bif_lenl, z_bif_lenk, z_bif_list, z_bif_tup, z_bin_add, z_bin_sub, z_cmp_lt, z_cmp_gt, z_cmp_le, z_cmp_ge, z_cmp_eq, z_cmp_ne, z_cmp_is, z_cmp_isn, z_cmp_inn, z_cmp_nin, z_eq_int, z_eq_str, z_is_bl, z_ix_tup, z_ix_tl, if_true, if_false, Bool.false_eq_true, z_isi_tup, z_isi_str, z_isi_tl, z_lim, z_lim0, z_lim1, z_lim2, z_lim3, z_lim4, z_lim5, Option.map_some, Bool.not_true, Bool.not_false, List.length_cons, List.length_nil, decide_true, decide_false, ne_eq, not_true_eq_false, not_false_eq_true, z_metP_app (r_t h0 (ks ++ [w.2.1]) todo), kD, z_met_app (r_t h0 (ks ++ [w.2.1]) todo) tl]
          rw [show ([D.tup [D.str w.2.1.1, D.str w.2.1.2]] : List D) = [w.2.1].map kD from rfl, ← List.map_append, r_st]
      have hb : rk b ≤ rk w.2.1 := by have := hg w hw; rw [g.1] at this; omega
      have mem : ∀ {l : List KK}, (∀ y ∈ l, rk b ≤ rk y) → ∀ y ∈ l ++ [w.2.1], rk b ≤ rk y := fun hl y hy => by
        rcases List.mem_append.mp hy with hy | hy
        · exact hl y hy
        · simp at hy; subst hy; exact hb
      obtain ⟨ks', todo', a5', a6', a7', e1, e2⟩ := r_in hl hg x hx n hn rest (ks ++ [w.2.1]) (todo ++ [w.2.1]) (some (kD w.1)) (some (kD w.2.1)) (some (.bl w.2.2)) q0' (mem q1) (mem q2) (by simp only [List.length_append, List.length_cons, List.length_nil]; omega) (by simp only [List.length_append, List.length_cons, List.length_nil]; omega)
      refine ⟨ks', todo', a5', a6', a7', ?_, e2⟩
      simp only [List.map_cons, forL, gOk, r_g h0 i W hW, sames_refl, Bool.and_self, if_true, asg, key, z_bind_ok]
      exact e1
    · have g1 : (decide (w.1 = x) && !decide (w.2.1 ∈ ks)) = false := by
        cases z : decide (w.1 = x) && !decide (w.2.1 ∈ ks) with
        | false => rfl
        | true => simp at z; exact (g z).elim
      rw [g1] at ht
      have key : ex F 100 bodyRi (renv h0 i b (some (kD x)) (some (kD w.1)) (some (kD w.2.1)) (some (.bl w.2.2))) (rhp h0 ks todo) = .ok (.nx, renv h0 i b (some (kD x)) (some (kD w.1)) (some (kD w.2.1)) (some (.bl w.2.2))) (rhp h0 ks todo) := z_seq (z_iff0 ht z_nil) z_nil
      obtain ⟨ks', todo', a5', a6', a7', e1, e2⟩ := r_in hl hg x hx n hn rest ks todo (some (kD w.1)) (some (kD w.2.1)) (some (.bl w.2.2)) q0' q1 q2 q3 q4
      refine ⟨ks', todo', a5', a6', a7', ?_, e2⟩
      simp only [List.map_cons, forL, gOk, r_g h0 i W hW, sames_refl, Bool.and_self, if_true, asg, key, z_bind_ok]
      exact e1
include hW in
theorem reach_body (hl : W.length ≤ 90) (hg : ∀ w ∈ W, rk w.1 < rk w.2.1) : ∃ (ks todo : List KK) (env' : Env), (∀ y ∈ ks, rk b ≤ rk y) ∧ ex F 100 b_reach_of (start 8 [.ref i, kD b]) h0 = .ok (.rt (.ref h0.length), env') (rhp h0 ks todo) := by
  have L := whL_inv (c := evT F (.var 3)) (body := ex F 100 bodyR) (fun n env h => ∃ (ks todo : List KK) (a4 a5 a6 a7 : Option D), env = renv h0 i b a4 a5 a6 a7 ∧ h = rhp h0 ks todo ∧ (∀ y ∈ ks, rk b ≤ rk y) ∧ (∀ y ∈ todo, rk b ≤ rk y) ∧ todo.length + miss W ks ≤ n ∧ ks.length + miss W ks ≤ 1000 ∧ n ≤ 1000)
    (fun env h => ∃ (ks todo : List KK) (a4 a5 a6 a7 : Option D), env = renv h0 i b a4 a5 a6 a7 ∧ h = rhp h0 ks todo ∧ (∀ y ∈ ks, rk b ≤ rk y)) ?_ 100 (1 + W.length) (renv h0 i b none none none none) (rhp h0 [b] [b]) ?_ (by omega)
  · obtain ⟨env', h', e1, ks, todo, a4, a5, a6, a7, e2, e3, e4⟩ := L
    subst e2 e3
    refine ⟨ks, todo, renv h0 i b a4 a5 a6 a7, e4, ?_⟩
    refine z_seq (z_asg (d := .td [kD b] [.bl true]) (h1 := h0) (env1 := [some (.ref i), some (kD b), some (.ref h0.length), none, none, none, none, none]) ?_ rfl) (z_seq (z_asg (d := .tl [kD b]) (h1 := h0 ++ [.dic [kD b] [.bl true]]) (env1 := renv h0 i b none none none none) ?_ ?_) (z_seq (env1 := renv h0 i b a4 a5 a6 a7) (h1 := rhp h0 ks todo) (z_whl ?_) (z_seqr (by simp) (z_ret ?_))))
    · have kk : ∀ d : D, d = kD b → kputs [d] [.bl true] [] [] = some ([d], [.bl true]) := fun d e => by subst e; rfl
      simp only [ev, evs, evI, evT, tst, start, int?, List.map_cons, List.map_nil, List.cons_append, List.nil_append, List.replicate, List.set, List.getElem?_cons_succ, List.getElem?_cons_zero, z_bind_ok, z_bind_ex, z_bindN_ok, z_get_some, z_reg_non, z_reg_bl, z_reg_int, z_reg_str, z_reg_tup, z_reg_ref, z_reg_lck, z_reg_tl, z_reg_td, z_truth_non, z_truth_bl, z_truth_int, z_truth_tup, z_truth_tl, z_bif_int, z_bif_intb, z_bif_lent, z_bif_lenl, z_bif_lenk, z_bif_list, z_bif_tup, z_bin_add, z_bin_sub, z_cmp_lt, z_cmp_gt, z_cmp_le, z_cmp_ge, z_cmp_eq, z_cmp_ne, z_cmp_is, z_cmp_isn, z_cmp_inn, z_cmp_nin, z_eq_int, z_eq_str, z_is_bl, z_ix_tup, z_ix_tl, if_true, if_false, Bool.false_eq_true, z_isi_tup, z_isi_str, z_isi_tl, z_lim, z_lim0, z_lim1, z_lim2, z_lim3, z_lim4, z_lim5, Option.map_some, Bool.not_true, Bool.not_false, List.length_cons, List.length_nil, decide_true, decide_false, ne_eq, not_true_eq_false, not_false_eq_true, keyVals, kD, kk _ rfl]
      rfl
    · simp only [ev, evs, evI, evT, tst, start, int?, List.map_cons, List.map_nil, List.cons_append, List.nil_append, List.replicate, List.set, List.getElem?_cons_succ, List.getElem?_cons_zero, z_bind_ok, z_bind_ex, z_bindN_ok, z_get_some, z_reg_non, z_reg_bl, z_reg_int, z_reg_str, z_reg_tup, z_reg_ref, z_reg_lck, z_reg_tl, z_reg_td, z_truth_non, z_truth_bl, z_truth_int, z_truth_tup, z_truth_tl, z_bif_int, z_bif_intb, z_bif_lent, z_bif_lenl, z_bif_lenk, z_bif_list, z_bif_tup, z_bin_add, z_bin_sub, z_cmp_lt, z_cmp_gt, z_cmp_le, z_cmp_ge, z_cmp_eq, z_cmp_ne, z_cmp_is, z_cmp_isn, z_cmp_inn, z_cmp_nin, z_eq_int, z_eq_str, z_is_bl, z_ix_tup, z_ix_tl, if_true, if_false, Bool.false_eq_true, z_isi_tup, z_isi_str, z_isi_tl, z_lim, z_lim0, z_lim1, z_lim2, z_lim3, z_lim4, z_lim5, Option.map_some, Bool.not_true, Bool.not_false, List.length_cons, List.length_nil, decide_true, decide_false, ne_eq, not_true_eq_false, not_false_eq_true, kD]
    · simp only [z_reg_tl, renv, asgT, List.length_append, List.length_cons, List.length_nil]; rfl
    · simp only [z_reg_tl, List.append_assoc, List.cons_append, List.nil_append]; exact e1
    · exact z_var rfl
  · rintro n env h ⟨ks, todo, a4, a5, a6, a7, e1, e2, e3, e4, e5, e6, e7⟩
    subst e1 e2
    rcases List.eq_nil_or_concat todo with z | ⟨ts, x, z⟩
    · subst z
      left
      refine ⟨_, ?_, ks, [], a4, a5, a6, a7, rfl, rfl, e3⟩
      exact z_evT (z_var rfl) (z_truth_ref (r_t h0 ks []))
    · rw [List.concat_eq_append] at z
      subst z
      right
      simp only [List.length_append, List.length_cons, List.length_nil] at e4 e5
      obtain ⟨m, rfl⟩ : ∃ m, n = m + 1 := ⟨n - 1, by omega⟩
      have hx : rk b ≤ rk x := e4 x (by simp)
      obtain ⟨ks', todo', a5', a6', a7', f1, f2, f3, f4, f5⟩ := r_in F h0 i W hW b hl hg x hx m (by omega) W ks ts a5 a6 a7 (fun _ h => h) e3 (fun y hy => e4 y (by simp [hy])) (by omega) e6
      refine ⟨m, rhp h0 ks (ts ++ [x]), .nx, renv h0 i b (some (kD x)) a5' a6' a7', rhp h0 ks' todo', rfl, ?_, ?_, .inl rfl, ks', todo', _, _, _, _, rfl, rfl, f2, f3, f4, f5, by omega⟩
      · refine z_evT (z_var rfl) ((z_truth_ref (r_t h0 ks (ts ++ [x]))).trans ?_)
        simp
      · refine z_seq (z_asg (d := kD x) (h1 := rhp h0 ks ts) (env1 := renv h0 i b (some (kD x)) a5 a6 a7) ?_ rfl) (z_seq (z_for (xs := W.map wD) (gs := [(i, W.map wD)]) (h1 := rhp h0 ks ts) ?_ f1) z_nil)
        · have e := r_t h0 ks (ts ++ [x])
          have mp : metO (rhp h0 ks (ts ++ [x])) .pop (.ref (h0.length + 1)) [] = .ok (kD x) ((rhp h0 ks (ts ++ [x])).set (h0.length + 1) (.lst (ts.map kD))) := z_met_pop (by rw [e, List.map_append]; rfl)
          unfold renv
          simp only [ev, evs, evI, evT, tst, start, int?, List.map_cons, List.map_nil, List.cons_append, List.nil_append, List.replicate, List.set, List.getElem?_cons_succ, List.getElem?_cons_zero, z_bind_ok, z_bind_ex, z_bindN_ok, z_get_some, z_reg_non, z_reg_bl, z_reg_int, z_reg_str, z_reg_tup, z_reg_ref, z_reg_lck, z_reg_tl, z_reg_td, z_truth_non, z_truth_bl, z_truth_int, z_truth_tup, z_truth_tl, z_bif_int, z_bif_intb, z_bif_lent, z_bif_lenl, z_bif_lenk, z_bif_list, z_bif_tup, z_bin_add, z_bin_sub, z_cmp_lt, z_cmp_gt, z_cmp_le, z_cmp_ge, z_cmp_eq, z_cmp_ne, z_cmp_is, z_cmp_isn, z_cmp_inn, z_cmp_nin, z_eq_int, z_eq_str, z_is_bl, z_ix_tup, z_ix_tl, if_true, if_false, Bool.false_eq_true, z_isi_tup, z_isi_str, z_isi_tl, z_lim, z_lim0, z_lim1, z_lim2, z_lim3, z_lim4, z_lim5, Option.map_some, Bool.not_true, Bool.not_false, List.length_cons, List.length_nil, decide_true, decide_false, ne_eq, not_true_eq_false, not_false_eq_true, z_metP_pop e, mp, r_st]
        · refine z_itE (z_var rfl) ?_
          simp only [itOf, seqOf, r_g h0 i W hW, z_reg_tup, kD, gOf]
  · refine ⟨[b], [b], none, none, none, none, rfl, rfl, by simp, by simp, ?_, ?_, ?_⟩
    · have : miss W [b] ≤ W.length := List.length_filter_le _ _
      simp only [List.length_cons, List.length_nil]; omega
    · have : miss W [b] ≤ W.length := List.length_filter_le _ _
      simp only [List.length_cons, List.length_nil]; omega
    · omega
end
theorem reach_ok (k : Nat) (h0 : Hd) (i : Nat) (W : List Way) (hW : h0[i]? = some (.lst (W.map wD))) (b : KK) (hl : W.length ≤ 90) (hg : ∀ w ∈ W, rk w.1 < rk w.2.1) :
    ∃ ks : List KK, (∀ y ∈ ks, rk b ≤ rk y) ∧ callF P 100 (k + 1) 12 [.ref i, kD b] h0 = .ok (.td (ks.map kD) (trues ks)) h0 := by
  obtain ⟨ks, todo, env', e1, e2⟩ := reach_body (callF P 100 k) h0 i W hW b hl hg
  refine ⟨ks, e1, ?_⟩
  rw [callF_im p_reach_of rfl rfl, z_run e2]
  exact fin_dropd (r_d h0 ks todo) (Nat.le_refl _) (pures_of kD pure_kD ks) (pures_trues ks)
end K00
end
section
set_option linter.all false
set_option maxRecDepth 100000
set_option maxHeartbeats 4000000
set_option autoImplicit false
namespace K00
open Mp
/-- a rule's ways, if it leads -/
def wOk (F : Nat → List D → Hd → R D) (T : D) (r : Rl) : Prop := match r with
  | .leads n b m e => ∃ ws : List Way, ws.length ≤ 12 ∧ (∀ w ∈ ws, rk w.1 < rk w.2.1) ∧ ∀ h, F 11 [T, rD (.leads n b m e)] h = .ok (.tl (ws.map wD)) h
  | _ => True
def bodyH : S := match b_has_no_ring with
  | .seq _ (.seq (.for _ _ b) _) => b
  | _ => .nil
def henv (T R : D) (a3 : Option D) : Env := [some T, some R, some (.ref 0), a3, none, none, none]
theorem has_loop (F : Nat → List D → Hd → R D) (xs : List D) (R : D) : ∀ (rs : List Rl) (W : List Way) (J : List Ob) (a3 : Option D), (∀ r ∈ rs, wOk F (.tup xs) r) → (∀ w ∈ W, rk w.1 < rk w.2.1) → W.length + 12 * rs.length ≤ 90 →
    ∃ (W' : List Way) (J' : List Ob) (a3' : Option D), (∀ w ∈ W', rk w.1 < rk w.2.1) ∧ W'.length ≤ 90 ∧ forL (.nm 3) (ex F 100 bodyH) [] (rs.map rD) (henv (.tup xs) R a3) (.lst (W.map wD) :: J) = .ok (.nx, henv (.tup xs) R a3') (.lst (W'.map wD) :: J')
  | [], W, J, a3, _, q2, q3 => ⟨W, J, a3, q2, by simp at q3; omega, rfl⟩
  | r :: rs, W, J, a3, q1, q2, q3 => by
    have q1' : ∀ r ∈ rs, wOk F (.tup xs) r := fun y hy => q1 y (List.mem_cons_of_mem _ hy)
    have hr := q1 r List.mem_cons_self
    have asg : asgT (.nm 3) (rD r) (henv (.tup xs) R a3) = some (henv (.tup xs) R (some (rD r))) := rfl
    have off : (match r with | .leads _ _ _ _ => false | _ => true) = true → evT F (.cmp .eq (.ix (.var 3) (.int 0)) (.str [108, 101, 97, 100, 115])) (henv (.tup xs) R (some (rD r))) (.lst (W.map wD) :: J) = .ok false (.lst (W.map wD) :: J) := by
      intro g
      cases r with
      | tells n b c => unfold henv; simp only [ev, evs, evI, evT, tst, start, int?, List.map_cons, List.map_nil, List.cons_append, List.nil_append, List.replicate, List.set, List.getElem?_cons_succ, List.getElem?_cons_zero, z_bind_ok, z_bind_ex, z_bindN_ok, z_get_some, z_reg_non, z_reg_bl, z_reg_int, z_reg_str, z_reg_tup, z_reg_ref, z_reg_lck, z_reg_tl, z_reg_td, z_truth_non, z_truth_bl, z_truth_int, z_truth_tup, z_truth_tl, z_bif_int, z_bif_intb, z_bif_lent, z_bif_lenl, z_bif_lenk, z_bif_list, z_bif_tup, z_bin_add, z_bin_sub, z_cmp_lt, z_cmp_gt, z_cmp_le, z_cmp_ge, z_cmp_eq, z_cmp_ne, z_cmp_is, z_cmp_isn, z_cmp_inn, z_cmp_nin, z_eq_int, z_eq_str, z_is_bl, z_ix_tup, z_ix_tl, if_true, if_false, Bool.false_eq_true, z_isi_tup, z_isi_str, z_isi_tl, z_lim, z_lim0, z_lim1, z_lim2, z_lim3, z_lim4, z_lim5, Option.map_some, Bool.not_true, Bool.not_false, List.length_cons, List.length_nil, decide_true, decide_false, ne_eq, not_true_eq_false, not_false_eq_true, rD, z_at0]; rfl
      | only n c w => unfold henv; simp only [ev, evs, evI, evT, tst, start, int?, List.map_cons, List.map_nil, List.cons_append, List.nil_append, List.replicate, List.set, List.getElem?_cons_succ, List.getElem?_cons_zero, z_bind_ok, z_bind_ex, z_bindN_ok, z_get_some, z_reg_non, z_reg_bl, z_reg_int, z_reg_str, z_reg_tup, z_reg_ref, z_reg_lck, z_reg_tl, z_reg_td, z_truth_non, z_truth_bl, z_truth_int, z_truth_tup, z_truth_tl, z_bif_int, z_bif_intb, z_bif_lent, z_bif_lenl, z_bif_lenk, z_bif_list, z_bif_tup, z_bin_add, z_bin_sub, z_cmp_lt, z_cmp_gt, z_cmp_le, z_cmp_ge, z_cmp_eq, z_cmp_ne, z_cmp_is, z_cmp_isn, z_cmp_inn, z_cmp_nin, z_eq_int, z_eq_str, z_is_bl, z_ix_tup, z_ix_tl, if_true, if_false, Bool.false_eq_true, z_isi_tup, z_isi_str, z_isi_tl, z_lim, z_lim0, z_lim1, z_lim2, z_lim3, z_lim4, z_lim5, Option.map_some, Bool.not_true, Bool.not_false, List.length_cons, List.length_nil, decide_true, decide_false, ne_eq, not_true_eq_false, not_false_eq_true, rD, z_at0]; rfl
      | leads n b m e => cases g
    have skip : ex F 100 bodyH (henv (.tup xs) R (some (rD r))) (.lst (W.map wD) :: J) = .ok (.nx, henv (.tup xs) R (some (rD r))) (.lst (W.map wD) :: J) → ∃ (W' : List Way) (J' : List Ob) (a3' : Option D), (∀ w ∈ W', rk w.1 < rk w.2.1) ∧ W'.length ≤ 90 ∧ forL (.nm 3) (ex F 100 bodyH) [] ((r :: rs).map rD) (henv (.tup xs) R a3) (.lst (W.map wD) :: J) = .ok (.nx, henv (.tup xs) R a3') (.lst (W'.map wD) :: J') := by
      intro key
      obtain ⟨W', J', a3', e1, e2, e3⟩ := has_loop F xs R rs W J (some (rD r)) q1' q2 (by simp only [List.length_cons] at q3; omega)
      refine ⟨W', J', a3', e1, e2, ?_⟩
      simp only [List.map_cons, forL, gOk, if_true, asg, key, z_bind_ok]
      exact e3
    cases r with
    | tells n b c => exact skip (z_seq (z_iff0 (off rfl) z_nil) z_nil)
    | only n c w => exact skip (z_seq (z_iff0 (off rfl) z_nil) z_nil)
    | leads n b m e =>
      obtain ⟨ws, hl, hg, hc⟩ := hr
      have on : evT F (.cmp .eq (.ix (.var 3) (.int 0)) (.str [108, 101, 97, 100, 115])) (henv (.tup xs) R (some (rD (.leads n b m e)))) (.lst (W.map wD) :: J) = .ok true (.lst (W.map wD) :: J) := by
        unfold henv; simp only [ev, evs, evI, evT, tst, start, int?, List.map_cons, List.map_nil, List.cons_append, List.nil_append, List.replicate, List.set, List.getElem?_cons_succ, List.getElem?_cons_zero, z_bind_ok, z_bind_ex, z_bindN_ok, z_get_some, z_reg_non, z_reg_bl, z_reg_int, z_reg_str, z_reg_tup, z_reg_ref, z_reg_lck, z_reg_tl, z_reg_td, z_truth_non, z_truth_bl, z_truth_int, z_truth_tup, z_truth_tl, z_bif_int, z_bif_intb, z_bif_lent, z_bif_lenl, z_bif_lenk, z_bif_list, z_bif_tup, z_bin_add, z_bin_sub, z_cmp_lt, z_cmp_gt, z_cmp_le, z_cmp_ge, z_cmp_eq, z_cmp_ne, z_cmp_is, z_cmp_isn, z_cmp_inn, z_cmp_nin, z_eq_int, z_eq_str, z_is_bl, z_ix_tup, z_ix_tl, if_true, if_false, Bool.false_eq_true, z_isi_tup, z_isi_str, z_isi_tl, z_lim, z_lim0, z_lim1, z_lim2, z_lim3, z_lim4, z_lim5, Option.map_some, Bool.not_true, Bool.not_false, List.length_cons, List.length_nil, decide_true, decide_false, ne_eq, not_true_eq_false, not_false_eq_true, rD, z_at0]; rfl
      have key : ex F 100 bodyH (henv (.tup xs) R (some (rD (.leads n b m e)))) (.lst (W.map wD) :: J) = .ok (.nx, henv (.tup xs) R (some (rD (.leads n b m e)))) (.lst ((W ++ ws).map wD) :: (J ++ [.lst (ws.map wD)])) := by
        refine z_seq (z_ift on (z_seq (z_exs (d := .non) ?_) z_nil)) z_nil
        have mp : metP (Ob.lst (W.map wD) :: J) .extend (.ref 0) = true := rfl
        have me : metO ((Ob.lst (W.map wD) :: J) ++ [Ob.lst (ws.map wD)]) .extend (.ref 0) [.ref (Ob.lst (W.map wD) :: J).length] = .ok .non (((Ob.lst (W.map wD) :: J) ++ [Ob.lst (ws.map wD)]).set 0 (Ob.lst (W.map wD ++ ws.map wD))) := by
          refine z_met_ext (xs := W.map wD) (ys := ws.map wD) rfl ?_ ?_
          · have : ((Ob.lst (W.map wD) :: J) ++ [Ob.lst (ws.map wD)])[(Ob.lst (W.map wD) :: J).length]? = some (.lst (ws.map wD)) := by simp
            simp only [ownOf, this]
          · simp only [List.length_map, List.length_cons] at q3 ⊢; unfold lim; omega
        have ca : ev F (.cal 11 (.cons (.var 0) (.cons (.var 3) .nil))) (henv (.tup xs) R (some (rD (.leads n b m e)))) (.lst (W.map wD) :: J) = .ok (.tl (ws.map wD)) (.lst (W.map wD) :: J) :=
          z_calE (ds := [.tup xs, rD (.leads n b m e)]) (h1 := .lst (W.map wD) :: J) (z_cons (d := .tup xs) (h1 := .lst (W.map wD) :: J) (z_var rfl) (z_cons (d := rD (.leads n b m e)) (h1 := .lst (W.map wD) :: J) (z_var rfl) z_enil)) (hc _)
        have ar : evs F (.cons (.cal 11 (.cons (.var 0) (.cons (.var 3) .nil))) .nil) (henv (.tup xs) R (some (rD (.leads n b m e)))) (.lst (W.map wD) :: J) = .ok [.ref (Ob.lst (W.map wD) :: J).length] ((Ob.lst (W.map wD) :: J) ++ [.lst (ws.map wD)]) := z_cons ca z_enil
        have v2 : ev F (.var 2) (henv (.tup xs) R (some (rD (.leads n b m e)))) (.lst (W.map wD) :: J) = .ok (.ref 0) (.lst (W.map wD) :: J) := z_var rfl
        rw [ev, v2, z_bind_ok, mp, if_pos rfl, ar, z_bind_ok, me, List.map_append]
        rfl
      have q2' : ∀ w ∈ W ++ ws, rk w.1 < rk w.2.1 := fun w hw => by
        rcases List.mem_append.mp hw with hw | hw
        · exact q2 w hw
        · exact hg w hw
      obtain ⟨W', J', a3', e1, e2, e3⟩ := has_loop F xs R rs (W ++ ws) (J ++ [.lst (ws.map wD)]) (some (rD (.leads n b m e))) q1' q2' (by simp only [List.length_append, List.length_cons] at q3 ⊢; omega)
      refine ⟨W', J', a3', e1, e2, ?_⟩
      simp only [List.map_cons, forL, gOk, if_true, asg, key, z_bind_ok]
      exact e3
theorem anyF : ∀ xs : List D, ∃ bs, bools (xs.map fun _ => D.bl false) = some bs ∧ bs.any id = false
  | [] => ⟨[], rfl, rfl⟩
  | x :: xs => by
    obtain ⟨bs, e1, e2⟩ := anyF xs
    exact ⟨false :: bs, by simp only [List.map_cons, bools, e1, Option.map_some], by simp [e2]⟩
theorem has_ok (k : Nat) (xs : List D) (hx : D.pures xs = true) (rs : List Rl) (hl : rs.length ≤ 7) (hw : ∀ r ∈ rs, wOk (callF P 100 (k + 1)) (.tup xs) r) (h : Hd) :
    callF P 100 (k + 2) 13 [.tup xs, .tup (rs.map rD)] h = .ok (.bl true) h := by
  obtain ⟨W, J, a3, e1, e2, e3⟩ := has_loop (callF P 100 (k + 1)) xs (.tup (rs.map rD)) rs [] [] none hw (by simp) (by simp only [List.length_nil]; omega)
  refine callF_pu p_has_no_ring rfl (by simp only [D.pures, D.pure, hx, pures_of rD pure_rD, Bool.and_self]) ?_ rfl
  have hlc : ev (callF P 100 (k + 1)) (.lc [4, 5, 6] (.tp (.cons (.nm 4) (.cons (.nm 5) (.cons (.nm 6) .nil)))) (.e (.var 2)) (.bl true) (.and (.var 6) (.cmp .inn (.var 4) (.cal 12 (.cons (.var 2) (.cons (.var 5) .nil)))))) (henv (.tup xs) (.tup (rs.map rD)) a3) (.lst (W.map wD) :: J) = .ok (.tl ((W.map wD).map fun _ => .bl false)) (.lst (W.map wD) :: J) := by
    refine z_lc (xs := W.map wD) (gs := [(0, W.map wD)]) (h1 := .lst (W.map wD) :: J) (z_itE (z_var rfl) rfl) ?_
    rw [lcL_map (fun _ => true) (fun _ => .bl false) (by simp only [gOk, List.getElem?_cons_zero, sames_refl, Bool.and_self]) _ ?_ [] (by simp only [List.length_nil, List.length_map]; unfold lim; omega)]
    · have ef : ∀ l : List D, l.filter (fun _ => true) = l := fun l => by simp
      rw [ef]; rfl
    · intro x hm
      obtain ⟨w, hw, rfl⟩ := List.mem_map.mp hm
      refine ⟨_, rfl, rfl, fun _ => ⟨?_, rfl⟩⟩
      cases hu : w.2.2 with
      | false =>
        refine z_and0 (d := .bl false) ?_ rfl
        refine z_var ?_
        rw [← hu]; rfl
      | true =>
        refine z_and1 (d := .bl true) (h1 := .lst (W.map wD) :: J) ?_ rfl ?_
        · refine z_var ?_
          rw [← hu]; rfl
        · obtain ⟨ks, f1, f2⟩ := reach_ok k (.lst (W.map wD) :: J) 0 W rfl w.2.1 e2 e1
          refine z_cmpE (d := kD w.1) (h1 := .lst (W.map wD) :: J) (d1 := .td (ks.map kD) (trues ks)) (z_var rfl) (z_calE (ds := [.ref 0, kD w.2.1]) (h1 := .lst (W.map wD) :: J) (z_cons (d := .ref 0) (h1 := .lst (W.map wD) :: J) (z_var rfl) (z_cons (d := kD w.2.1) (h1 := .lst (W.map wD) :: J) (z_var rfl) z_enil)) f2) ?_
          have nm : w.1 ∉ ks := fun hm => by
            have := f1 _ hm
            have := e1 w hw
            omega
          simp only [z_cmp_inn, inO, dicOf, key_ok, if_true, key_has, nm, decide_false]
  obtain ⟨bs, b1, b2⟩ := anyF (W.map wD)
  have key : ex (callF P 100 (k + 1)) 100 b_has_no_ring (start 7 [.tup xs, .tup (rs.map rD)]) [] = .ok (.rt (.bl true), henv (.tup xs) (.tup (rs.map rD)) a3) ([] ++ (.lst (W.map wD) :: J)) := by
    refine z_seq (z_asg (d := .tl []) (h1 := []) (env1 := henv (.tup xs) (.tup (rs.map rD)) none) rfl rfl) (z_seq (env1 := henv (.tup xs) (.tup (rs.map rD)) a3) (h1 := .lst (W.map wD) :: J) (z_for (xs := rs.map rD) (gs := []) (h1 := [.lst []]) rfl e3) (z_seqr (by simp) (z_ret ?_)))
    refine z_notE (b := false) (d := .bl false) (z_bifE hlc ?_) rfl
    simp only [bifO, lstOf, b1, b2]
    rfl
  rw [z_run key]
  exact fin_dropp rfl
end K00
end
section
set_option linter.all false
set_option maxRecDepth 100000
set_option maxHeartbeats 4000000
set_option autoImplicit false
namespace K00
open Mp
def wayOf : D → Option Way
  | .tup [.tup [.str a, .str b], .tup [.str c, .str e], .bl u] => some ((a, b), (c, e), u)
  | _ => none
theorem wayOf_eq {d : D} {w : Way} (h : wayOf d = some w) : d = wD w := by
  unfold wayOf at h
  split at h
  · cases h; rfl
  · cases h
def goodB (d : D) : Bool := match wayOf d with
  | some w => Nat.blt (rk w.1) (rk w.2.1)
  | none => false
theorem good_all : ∀ ds : List D, ds.all goodB = true → ∃ ws : List Way, ds = ws.map wD ∧ ∀ w ∈ ws, rk w.1 < rk w.2.1
  | [], _ => ⟨[], rfl, by simp⟩
  | d :: ds, h => by
    simp only [List.all_cons, Bool.and_eq_true] at h
    obtain ⟨ws, e1, e2⟩ := good_all ds h.2
    have h1 := h.1
    unfold goodB at h1
    split at h1
    · rename_i w e
      refine ⟨w :: ws, by rw [wayOf_eq e, e1]; rfl, ?_⟩
      intro y hy
      rcases List.mem_cons.mp hy with hy | hy
      · subst hy; exact Nat.le_of_ble_eq_true h1
      · exact e2 y hy
    · cases h1
def waysB : R D → Bool
  | .ok (.tl ws) [] => Nat.ble ws.length 12 && ws.all goodB
  | _ => false
theorem waysB_eq {r : R D} (h : waysB r = true) : ∃ ws : List Way, ws.length ≤ 12 ∧ (∀ w ∈ ws, rk w.1 < rk w.2.1) ∧ r = .ok (.tl (ws.map wD)) [] := by
  unfold waysB at h
  split at h
  · rename_i ds
    simp only [Bool.and_eq_true] at h
    obtain ⟨ws, e1, e2⟩ := good_all ds h.2
    exact ⟨ws, by have := Nat.le_of_ble_eq_true h.1; rw [e1] at this; simpa using this, e2, by rw [e1]⟩
  · cases h
def isL : Rl → Bool
  | .leads _ _ _ _ => true
  | _ => false
/-- what is told of a rule -/
def chkR (k : Nat) (T : D) (r : Rl) : Bool := isT (callF P 100 (k + 5) 9 [T, rD r] []) && (!isL r || waysB (callF P 100 (k + 4) 11 [T, rD r] []))
def chkT (k : Nat) (t : List Tb) : Bool := isT (callF P 100 (k + 5) 7 [.tup (t.map tD)] []) && (rules t).all (chkR k (.tup (t.map tD)))
def T3c (i : Nat) : List (List Tb) := (T3.drop (4 * i)).take 4
end K00
end
section
set_option linter.all false
set_option maxRecDepth 100000
set_option maxHeartbeats 4000000
set_option autoImplicit false
set_option Elab.async false
namespace K00
open Mp
theorem chk_0 (k : Nat) : (T3c 0).all (chkT k) = true := by kernel_rfl
theorem chk_1 (k : Nat) : (T3c 1).all (chkT k) = true := by kernel_rfl
theorem chk_2 (k : Nat) : (T3c 2).all (chkT k) = true := by kernel_rfl
theorem chk_3 (k : Nat) : (T3c 3).all (chkT k) = true := by kernel_rfl
theorem chk_4 (k : Nat) : (T3c 4).all (chkT k) = true := by kernel_rfl
theorem chk_5 (k : Nat) : (T3c 5).all (chkT k) = true := by kernel_rfl
theorem chk_6 (k : Nat) : (T3c 6).all (chkT k) = true := by kernel_rfl
theorem chk_7 (k : Nat) : (T3c 7).all (chkT k) = true := by kernel_rfl
theorem chk_8 (k : Nat) : (T3c 8).all (chkT k) = true := by kernel_rfl
theorem chk_9 (k : Nat) : (T3c 9).all (chkT k) = true := by kernel_rfl
theorem chk_10 (k : Nat) : (T3c 10).all (chkT k) = true := by kernel_rfl
theorem chk_11 (k : Nat) : (T3c 11).all (chkT k) = true := by kernel_rfl
theorem chk_12 (k : Nat) : (T3c 12).all (chkT k) = true := by kernel_rfl
theorem chk_13 (k : Nat) : (T3c 13).all (chkT k) = true := by kernel_rfl
theorem chk_14 (k : Nat) : (T3c 14).all (chkT k) = true := by kernel_rfl
theorem chk_15 (k : Nat) : (T3c 15).all (chkT k) = true := by kernel_rfl
theorem chk_16 (k : Nat) : (T3c 16).all (chkT k) = true := by kernel_rfl
theorem chk_17 (k : Nat) : (T3c 17).all (chkT k) = true := by kernel_rfl
theorem chk_18 (k : Nat) : (T3c 18).all (chkT k) = true := by kernel_rfl
theorem chk_19 (k : Nat) : (T3c 19).all (chkT k) = true := by kernel_rfl
theorem chk_20 (k : Nat) : (T3c 20).all (chkT k) = true := by kernel_rfl
theorem T3_cut : T3 = T3c 0 ++ (T3c 1 ++ (T3c 2 ++ (T3c 3 ++ (T3c 4 ++ (T3c 5 ++ (T3c 6 ++ (T3c 7 ++ (T3c 8 ++ (T3c 9 ++ (T3c 10 ++ (T3c 11 ++ (T3c 12 ++ (T3c 13 ++ (T3c 14 ++ (T3c 15 ++ (T3c 16 ++ (T3c 17 ++ (T3c 18 ++ (T3c 19 ++ (T3c 20)))))))))))))))))))) := by kernel_rfl
theorem chk_all (k : Nat) : T3.all (chkT k) = true := by
  rw [T3_cut]
  simp only [List.all_append, chk_0 k, chk_1 k, chk_2 k, chk_3 k, chk_4 k, chk_5 k, chk_6 k, chk_7 k, chk_8 k, chk_9 k, chk_10 k, chk_11 k, chk_12 k, chk_13 k, chk_14 k, chk_15 k, chk_16 k, chk_17 k, chk_18 k, chk_19 k, chk_20 k, Bool.and_self]
end K00
end
section
set_option linter.all false
set_option maxRecDepth 100000
set_option maxHeartbeats 4000000
set_option autoImplicit false
namespace K00
open Mp
theorem chk_of (k : Nat) {t : List Tb} (ht : t ∈ T3) : chkT k t = true := List.all_eq_true.mp (chk_all k) t ht
theorem pures_T (t : List Tb) : D.pures (t.map tD) = true := pures_of tD pure_tD t
theorem tab_at (k : Nat) {t : List Tb} (ht : t ∈ T3) (h : Hd) : callF P 100 (k + 5) 7 [.tup (t.map tD)] h = .ok (.bl true) h := by
  have := chk_of k ht
  simp only [chkT, Bool.and_eq_true] at this
  exact callF_at (by simp only [D.pures, pure_T, Bool.and_self]) rfl (isT_eq this.1) h
theorem rule_at (k : Nat) {t : List Tb} (ht : t ∈ T3) {r : Rl} (hr : r ∈ rules t) (h : Hd) : callF P 100 (k + 5) 9 [.tup (t.map tD), rD r] h = .ok (.bl true) h := by
  have := chk_of k ht
  simp only [chkT, Bool.and_eq_true] at this
  have := List.all_eq_true.mp this.2 r hr
  simp only [chkR, Bool.and_eq_true] at this
  exact callF_at (by simp only [D.pures, pure_T, pure_rD, Bool.and_self]) rfl (isT_eq this.1) h
theorem ways_at (k : Nat) {t : List Tb} (ht : t ∈ T3) {r : Rl} (hr : r ∈ rules t) : wOk (callF P 100 (k + 4)) (.tup (t.map tD)) r := by
  have := chk_of k ht
  simp only [chkT, Bool.and_eq_true] at this
  have := List.all_eq_true.mp this.2 r hr
  simp only [chkR, Bool.and_eq_true] at this
  have := this.2
  cases r with
  | tells n b c => trivial
  | only n c w => trivial
  | leads n b m e =>
    obtain ⟨ws, e1, e2, e3⟩ := waysB_eq (r := callF P 100 (k + 4) 11 [.tup (t.map tD), rD (.leads n b m e)] []) (by simpa [isL] using this)
    exact ⟨ws, e1, e2, fun h => callF_at (by simp only [D.pures, pure_T, pure_rD, Bool.and_self]) (by simp only [D.pure]; exact pures_of wD (fun _ => rfl) ws) e3 h⟩
theorem z_seqx {F : Nat → List D → Hd → R D} {w : Nat} {a r : S} {env : Env} {h h1 : Hd} {c : Nat} {fs : List D} (e1 : ex F w a env h = .ex c fs h1) : ex F w (.seq a r) env h = .ex c fs h1 := by simp only [ex, e1, z_bind_ex]
theorem z_rse0 {F : Nat → List D → Hd → R D} {w : Nat} {env : Env} {h : Hd} {c : Nat} : ex F w (.rse c .nil) env h = .ex c [] h := by simp only [ex, evs, z_bind_ok]
/-! all of some -/
theorem lcL_bl {t : Tg} {c : Env → Hd → R Bool} {e : Env → Hd → R D} {env : Env} {gs : Gs} {h : Hd} (g : gOk h gs = true) :
    ∀ (ps : List (D × Bool)) (step : ∀ x ∈ ps, ∃ env1, asgT t x.1 env = some env1 ∧ c env1 h = .ok true h ∧ e env1 h = .ok (.bl x.2) h) (acc : List D) (l : acc.length + ps.length ≤ lim),
    lcL t c e env gs (ps.map fun x => x.1) h acc = .ok (acc ++ ps.map fun x => .bl x.2) h
  | [], _, acc, _ => by simp only [List.map_nil, lcL, g, if_true, List.append_nil]
  | x :: ps, step, acc, l => by
    obtain ⟨env1, e1, e2, e3⟩ := step x List.mem_cons_self
    have l' : acc.length < lim := by simp only [List.length_cons] at l; omega
    simp only [List.map_cons, lcL, g, l', e1, e2, e3, z_bindN_ok, decide_true, Bool.and_self, if_true, z_reg_bl]
    rw [lcL_bl g ps (fun y hy => step y (List.mem_cons_of_mem _ hy)) (acc ++ [D.bl x.2]) (by simp only [List.length_cons, List.length_append, List.length_nil] at l ⊢; omega)]
    simp
theorem bools_bl : ∀ ps : List (D × Bool), bools (ps.map fun x => D.bl x.2) = some (ps.map fun x => x.2)
  | [] => rfl
  | x :: ps => by simp only [List.map_cons, bools, bools_bl ps, Option.map_some]
theorem all_bl {h : Hd} (ps : List (D × Bool)) : bifO h .all (.tl (ps.map fun x => D.bl x.2)) = .ok (.bl (ps.all fun x => x.2)) h := by
  simp only [bifO, lstOf, bools_bl]
  rw [List.all_map]; rfl
def rP (rs : List Rl) : List (D × Bool) := rs.map fun r => (rD r, true)
theorem rP_fst (rs : List Rl) : (rP rs).map (fun x => x.1) = rs.map rD := by simp [rP]
theorem rP_all (rs : List Rl) : (rP rs).all (fun x => x.2) = true := by simp [rP]
/-! is_tuple_of -/
theorem tupof (k : Nat) (xs : List D) (n : Int) (h : Hd) : callF P 100 (k + 1) 5 [.tup xs, .int n] h = .ok (.bl (decide ((xs.length : Int) = n))) h := by
  refine callF_okh (h := h) (p := True) p_is_tuple_of rfl (fun _ => trivial) rfl ?_ h (.inl rfl)
  intro h' _
  refine (z_run (d := .bl (decide ((xs.length : Int) = n))) (h1 := h') (env1 := [some (.tup xs), some (.int n)]) (z_seqr (by simp) (z_ret ?_))).trans (fin_same rfl)
  simp only [ev, evs, evI, evT, tst, start, int?, List.map_cons, List.map_nil, List.cons_append, List.nil_append, List.replicate, List.set, List.getElem?_cons_succ, List.getElem?_cons_zero, z_bind_ok, z_bind_ex, z_bindN_ok, z_get_some, z_reg_non, z_reg_bl, z_reg_int, z_reg_str, z_reg_tup, z_reg_ref, z_reg_lck, z_reg_tl, z_reg_td, z_truth_non, z_truth_bl, z_truth_int, z_truth_tup, z_truth_tl, z_bif_int, z_bif_intb, z_bif_lent, z_bif_lenl, z_bif_lenk, z_bif_list, z_bif_tup, z_bin_add, z_bin_sub, z_cmp_lt, z_cmp_gt, z_cmp_le, z_cmp_ge, z_cmp_eq, z_cmp_ne, z_cmp_is, z_cmp_isn, z_cmp_inn, z_cmp_nin, z_eq_int, z_eq_str, z_is_bl, z_ix_tup, z_ix_tl, if_true, if_false, Bool.false_eq_true, z_isi_tup, z_isi_str, z_isi_tl, z_lim, z_lim0, z_lim1, z_lim2, z_lim3, z_lim4, z_lim5, Option.map_some, Bool.not_true, Bool.not_false, List.length_cons, List.length_nil, decide_true, decide_false, ne_eq, not_true_eq_false, not_false_eq_true]
/-! is_schema -/
def senv (T : D) (xs : List D) : Env := [some (.tup [T, .tup xs]), none]
theorem sc_if1 (k : Nat) {t : List Tb} (ht : t ∈ T3) (xs : List D) (h : Hd) :
    evT (callF P 100 (k + 5)) (.or (.not (.cal 5 (.cons (.var 0) (.cons (.int 2) .nil)))) (.or (.not (.cal 7 (.cons (.ix (.var 0) (.int 0)) .nil))) (.not (.isi (.ix (.var 0) (.int 1)) .tuple)))) (senv (.tup (t.map tD)) xs) h = .ok false h := by
  have t1 : callF P 100 (k + 5) 5 [.tup [.tup (t.map tD), .tup xs], .int 2] h = .ok (.bl true) h := tupof (k + 4) [.tup (t.map tD), .tup xs] 2 h
  have t2 := tab_at k ht h
  unfold senv
  simp only [ev, evs, evI, evT, tst, start, int?, List.map_cons, List.map_nil, List.cons_append, List.nil_append, List.replicate, List.set, List.getElem?_cons_succ, List.getElem?_cons_zero, z_bind_ok, z_bind_ex, z_bindN_ok, z_get_some, z_reg_non, z_reg_bl, z_reg_int, z_reg_str, z_reg_tup, z_reg_ref, z_reg_lck, z_reg_tl, z_reg_td, z_truth_non, z_truth_bl, z_truth_int, z_truth_tup, z_truth_tl, z_bif_int, z_bif_intb, z_bif_lent, z_bif_lenl, z_bif_lenk, z_bif_list, z_bif_tup, z_bin_add, z_bin_sub, z_cmp_lt, z_cmp_gt, z_cmp_le, z_cmp_ge, z_cmp_eq, z_cmp_ne, z_cmp_is, z_cmp_isn, z_cmp_inn, z_cmp_nin, z_eq_int, z_eq_str, z_is_bl, z_ix_tup, z_ix_tl, if_true, if_false, Bool.false_eq_true, z_isi_tup, z_isi_str, z_isi_tl, z_lim, z_lim0, z_lim1, z_lim2, z_lim3, z_lim4, z_lim5, Option.map_some, Bool.not_true, Bool.not_false, List.length_cons, List.length_nil, decide_true, decide_false, ne_eq, not_true_eq_false, not_false_eq_true, t1, t2, z_at0, z_at1]
def allR : E := .bif .all (.lc [1] (.nm 1) (.e (.ix (.var 0) (.int 1))) (.bl true) (.cal 9 (.cons (.ix (.var 0) (.int 0)) (.cons (.var 1) .nil))))
theorem sc_all (F : Nat → List D → Hd → R D) (T : D) (hT : ∀ h, reg h T = (T, h)) (ps : List (D × Bool)) (hl : ps.length ≤ 1000) (h : Hd) (hf : ∀ x ∈ ps, reg h x.1 = (x.1, h) ∧ F 9 [T, x.1] h = .ok (.bl x.2) h) :
    ev F allR (senv T (ps.map fun x => x.1)) h = .ok (.bl (ps.all fun x => x.2)) h := by
  refine z_bifE (z_lc (xs := ps.map fun x => x.1) (gs := []) (h1 := h) (z_itE (d := .tup (ps.map fun x => x.1)) (h1 := h) ?_ rfl) (lcL_bl rfl ps ?_ [] (by simp only [List.length_nil]; unfold lim; omega))) ?_
  · unfold senv; simp only [ev, evs, evI, evT, tst, start, int?, List.map_cons, List.map_nil, List.cons_append, List.nil_append, List.replicate, List.set, List.getElem?_cons_succ, List.getElem?_cons_zero, z_bind_ok, z_bind_ex, z_bindN_ok, z_get_some, z_reg_non, z_reg_bl, z_reg_int, z_reg_str, z_reg_tup, z_reg_ref, z_reg_lck, z_reg_tl, z_reg_td, z_truth_non, z_truth_bl, z_truth_int, z_truth_tup, z_truth_tl, z_bif_int, z_bif_intb, z_bif_lent, z_bif_lenl, z_bif_lenk, z_bif_list, z_bif_tup, z_bin_add, z_bin_sub, z_cmp_lt, z_cmp_gt, z_cmp_le, z_cmp_ge, z_cmp_eq, z_cmp_ne, z_cmp_is, z_cmp_isn, z_cmp_inn, z_cmp_nin, z_eq_int, z_eq_str, z_is_bl, z_ix_tup, z_ix_tl, if_true, if_false, Bool.false_eq_true, z_isi_tup, z_isi_str, z_isi_tl, z_lim, z_lim0, z_lim1, z_lim2, z_lim3, z_lim4, z_lim5, Option.map_some, Bool.not_true, Bool.not_false, List.length_cons, List.length_nil, decide_true, decide_false, ne_eq, not_true_eq_false, not_false_eq_true, z_at1]
  · intro x hx
    obtain ⟨f1, f2⟩ := hf x hx
    refine ⟨[some (.tup [T, .tup (ps.map fun x => x.1)]), some x.1], rfl, rfl, ?_⟩
    simp only [ev, evs, evI, evT, tst, start, int?, List.map_cons, List.map_nil, List.cons_append, List.nil_append, List.replicate, List.set, List.getElem?_cons_succ, List.getElem?_cons_zero, z_bind_ok, z_bind_ex, z_bindN_ok, z_get_some, z_reg_non, z_reg_bl, z_reg_int, z_reg_str, z_reg_tup, z_reg_ref, z_reg_lck, z_reg_tl, z_reg_td, z_truth_non, z_truth_bl, z_truth_int, z_truth_tup, z_truth_tl, z_bif_int, z_bif_intb, z_bif_lent, z_bif_lenl, z_bif_lenk, z_bif_list, z_bif_tup, z_bin_add, z_bin_sub, z_cmp_lt, z_cmp_gt, z_cmp_le, z_cmp_ge, z_cmp_eq, z_cmp_ne, z_cmp_is, z_cmp_isn, z_cmp_inn, z_cmp_nin, z_eq_int, z_eq_str, z_is_bl, z_ix_tup, z_ix_tl, if_true, if_false, Bool.false_eq_true, z_isi_tup, z_isi_str, z_isi_tl, z_lim, z_lim0, z_lim1, z_lim2, z_lim3, z_lim4, z_lim5, Option.map_some, Bool.not_true, Bool.not_false, List.length_cons, List.length_nil, decide_true, decide_false, ne_eq, not_true_eq_false, not_false_eq_true, z_at0, hT, f1, f2]
  · rw [List.nil_append]; exact all_bl ps
theorem sc_if2 (F : Nat → List D → Hd → R D) (T : D) (hT : ∀ h, reg h T = (T, h)) (ps : List (D × Bool)) (hl : ps.length ≤ 30) (h : Hd) (hf : ∀ x ∈ ps, reg h x.1 = (x.1, h) ∧ F 9 [T, x.1] h = .ok (.bl x.2) h) :
    evT F (.or (.cmp .gt (.bif .len (.ix (.var 0) (.int 1))) (.int 30)) (.not allR)) (senv T (ps.map fun x => x.1)) h = .ok (!(ps.all fun x => x.2)) h := by
  have a := sc_all F T hT ps (by omega) h hf
  have c : ev F (.cmp .gt (.bif .len (.ix (.var 0) (.int 1))) (.int 30)) (senv T (ps.map fun x => x.1)) h = .ok (.bl false) h := by
    have : ¬ (30 : Int) < ps.length := by omega
    unfold senv; simp only [ev, evs, evI, evT, tst, start, int?, List.map_cons, List.map_nil, List.cons_append, List.nil_append, List.replicate, List.set, List.getElem?_cons_succ, List.getElem?_cons_zero, z_bind_ok, z_bind_ex, z_bindN_ok, z_get_some, z_reg_non, z_reg_bl, z_reg_int, z_reg_str, z_reg_tup, z_reg_ref, z_reg_lck, z_reg_tl, z_reg_td, z_truth_non, z_truth_bl, z_truth_int, z_truth_tup, z_truth_tl, z_bif_int, z_bif_intb, z_bif_lent, z_bif_lenl, z_bif_lenk, z_bif_list, z_bif_tup, z_bin_add, z_bin_sub, z_cmp_lt, z_cmp_gt, z_cmp_le, z_cmp_ge, z_cmp_eq, z_cmp_ne, z_cmp_is, z_cmp_isn, z_cmp_inn, z_cmp_nin, z_eq_int, z_eq_str, z_is_bl, z_ix_tup, z_ix_tl, if_true, if_false, Bool.false_eq_true, z_isi_tup, z_isi_str, z_isi_tl, z_lim, z_lim0, z_lim1, z_lim2, z_lim3, z_lim4, z_lim5, Option.map_some, Bool.not_true, Bool.not_false, List.length_cons, List.length_nil, decide_true, decide_false, ne_eq, not_true_eq_false, not_false_eq_true, z_at1, List.length_map, this]
  exact z_evT (z_or0 c rfl (z_notE a rfl)) rfl
theorem reg_w {h : Hd} (r : Rl) : reg h (rD r) = (rD r, h) := by cases r <;> rfl
theorem schema_true (k : Nat) {t : List Tb} (ht : t ∈ T3) (rs : List Rl) (hr : ∀ r ∈ rs, r ∈ rules t) (hl : rs.length ≤ 7) (h : Hd) : callF P 100 (k + 6) 14 [schD t rs] h = .ok (.bl true) h := by
  refine callF_pu p_is_schema rfl (by simp only [D.pures, pure_S, Bool.and_self]) ?_ rfl
  have e : rs.map rD = (rP rs).map fun x => x.1 := (rP_fst rs).symm
  have i2 := sc_if2 (callF P 100 (k + 5)) (.tup (t.map tD)) (fun _ => rfl) (rP rs) (by simp only [rP, List.length_map]; omega) [] (by
    intro x hx
    simp only [rP, List.mem_map] at hx
    obtain ⟨r, hm, rfl⟩ := hx
    exact ⟨reg_w r, rule_at k ht (hr r hm) []⟩)
  rw [rP_all, ← e] at i2
  refine (z_run (env1 := senv (.tup (t.map tD)) (rs.map rD)) (z_seq (z_iff0 (sc_if1 k ht (rs.map rD) []) z_nil) (z_seq (z_iff0 i2 z_nil) (z_seqr (fl := .rt (.bl true)) (h1 := []) (by simp) (z_ret ?_))))).trans (fin_same rfl)
  have ho := has_ok (k + 3) (t.map tD) (pures_T t) rs hl (fun r hm => ways_at k ht (hr r hm)) []
  unfold senv
  simp only [ev, evs, evI, evT, tst, start, int?, List.map_cons, List.map_nil, List.cons_append, List.nil_append, List.replicate, List.set, List.getElem?_cons_succ, List.getElem?_cons_zero, z_bind_ok, z_bind_ex, z_bindN_ok, z_get_some, z_reg_non, z_reg_bl, z_reg_int, z_reg_str, z_reg_tup, z_reg_ref, z_reg_lck, z_reg_tl, z_reg_td, z_truth_non, z_truth_bl, z_truth_int, z_truth_tup, z_truth_tl, z_bif_int, z_bif_intb, z_bif_lent, z_bif_lenl, z_bif_lenk, z_bif_list, z_bif_tup, z_bin_add, z_bin_sub, z_cmp_lt, z_cmp_gt, z_cmp_le, z_cmp_ge, z_cmp_eq, z_cmp_ne, z_cmp_is, z_cmp_isn, z_cmp_inn, z_cmp_nin, z_eq_int, z_eq_str, z_is_bl, z_ix_tup, z_ix_tl, if_true, if_false, Bool.false_eq_true, z_isi_tup, z_isi_str, z_isi_tl, z_lim, z_lim0, z_lim1, z_lim2, z_lim3, z_lim4, z_lim5, Option.map_some, Bool.not_true, Bool.not_false, List.length_cons, List.length_nil, decide_true, decide_false, ne_eq, not_true_eq_false, not_false_eq_true, z_at0, z_at1, ho]
theorem schema_bad (k : Nat) {t : List Tb} (ht : t ∈ T3) (rs : List Rl) (hr : ∀ r ∈ rs, r ∈ rules t) (hl : rs.length ≤ 7) (w : D) (h : Hd) (hw : ∀ h', Okh h (w.pure = true) h' → reg h' w = (w, h') ∧ callF P 100 (k + 5) 9 [.tup (t.map tD), w] h' = .ok (.bl false) h') :
    ∀ h', Okh h (w.pure = true) h' → callF P 100 (k + 6) 14 [.tup [.tup (t.map tD), .tup (rs.map rD ++ [w])]] h' = .ok (.bl false) h' := by
  refine callF_okh p_is_schema rfl ?_ rfl ?_
  · intro z
    simp only [D.pures, D.pure, Bool.and_true, Bool.and_eq_true] at z
    have : ∀ xs : List D, D.pures (xs ++ [w]) = true → w.pure = true := by
      intro xs
      induction xs with
      | nil => simp [D.pures]
      | cons x xs ih => simp only [List.cons_append, D.pures, Bool.and_eq_true]; exact fun h => ih h.2
    exact this _ z.2
  · intro h' o
    obtain ⟨g1, g2⟩ := hw h' o
    have e : rs.map rD ++ [w] = (rP rs ++ [(w, false)]).map fun x => x.1 := by rw [List.map_append, rP_fst]; rfl
    have i2 := sc_if2 (callF P 100 (k + 5)) (.tup (t.map tD)) (fun _ => rfl) (rP rs ++ [(w, false)]) (by simp only [rP, List.length_map, List.length_append, List.length_cons, List.length_nil]; omega) h' (by
      intro x hx
      rcases List.mem_append.mp hx with hx | hx
      · simp only [rP, List.mem_map] at hx
        obtain ⟨r, hm, rfl⟩ := hx
        exact ⟨reg_w r, rule_at k ht (hr r hm) h'⟩
      · simp only [List.mem_cons, List.not_mem_nil, or_false] at hx
        subst hx
        exact ⟨g1, g2⟩)
    have a : (!((rP rs ++ [(w, false)]).all fun x => x.2)) = true := by simp
    rw [a, ← e] at i2
    exact (z_run (env1 := senv (.tup (t.map tD)) (rs.map rD ++ [w])) (z_seq (z_iff0 (sc_if1 k ht (rs.map rD ++ [w]) h') z_nil) (z_seqr (fl := .rt (.bl false)) (h1 := h') (by simp) (z_ift i2 (z_seqr (by simp) (z_ret rfl)))))).trans (fin_same rfl)
/-! ask_schema, is_rule -/
theorem ask_true (k : Nat) {t : List Tb} (ht : t ∈ T3) (rs : List Rl) (hr : ∀ r ∈ rs, r ∈ rules t) (hl : rs.length ≤ 7) (h : Hd) : callF P 100 (k + 7) 15 [schD t rs] h = .ok .non h := by
  refine callF_pu p_ask_schema rfl (by simp only [D.pures, pure_S, Bool.and_self]) ?_ rfl
  have st := schema_true k ht rs hr hl []
  refine (z_run0 (env1 := [some (schD t rs)]) (h1 := []) (z_seq (z_iff0 ?_ z_nil) z_nil)).trans (fin_same rfl)
  have : ev (callF P 100 (k + 6)) (.cal 14 (.cons (.var 0) .nil)) [some (schD t rs)] [] = .ok (.bl true) [] := z_calE (ds := [schD t rs]) (h1 := []) (z_cons (d := schD t rs) (h1 := []) (z_var rfl) z_enil) st
  exact z_evT (z_notE this rfl) rfl
theorem is_rule_bad (k : Nat) {t : List Tb} (ht : t ∈ T3) (w : D) (h : Hd) (hw : ∀ h', Okh h (w.pure = true) h' → reg h' w = (w, h') ∧ callF P 100 (k + 7) 9 [.tup (t.map tD), w] h' = .ok (.bl false) h') :
    ∀ h', Okh h (w.pure = true) h' → callF P 100 (k + 8) 16 [schD t [], w] h' = .ok (.bl false) h' := by
  refine callF_okh p_is_rule rfl ?_ rfl ?_
  · intro z
    simp only [D.pures, Bool.and_true, Bool.and_eq_true] at z
    exact z.2
  · intro h' o
    obtain ⟨g1, g2⟩ := hw h' o
    have a := ask_true k ht [] (by simp) (by simp) h'
    refine (z_run (env1 := [some (schD t []), some w]) (h1 := h') (d := .bl false) (z_seq (z_exs (z_calE (ds := [schD t []]) (h1 := h') (z_cons (d := schD t []) (h1 := h') (z_var rfl) z_enil) a)) (z_seqr (by simp) (z_ret (z_and0 ?_ rfl))))).trans (fin_same rfl)
    simp only [ev, evs, evI, evT, tst, start, int?, List.map_cons, List.map_nil, List.cons_append, List.nil_append, List.replicate, List.set, List.getElem?_cons_succ, List.getElem?_cons_zero, z_bind_ok, z_bind_ex, z_bindN_ok, z_get_some, z_reg_non, z_reg_bl, z_reg_int, z_reg_str, z_reg_tup, z_reg_ref, z_reg_lck, z_reg_tl, z_reg_td, z_truth_non, z_truth_bl, z_truth_int, z_truth_tup, z_truth_tl, z_bif_int, z_bif_intb, z_bif_lent, z_bif_lenl, z_bif_lenk, z_bif_list, z_bif_tup, z_bin_add, z_bin_sub, z_cmp_lt, z_cmp_gt, z_cmp_le, z_cmp_ge, z_cmp_eq, z_cmp_ne, z_cmp_is, z_cmp_isn, z_cmp_inn, z_cmp_nin, z_eq_int, z_eq_str, z_is_bl, z_ix_tup, z_ix_tl, if_true, if_false, Bool.false_eq_true, z_isi_tup, z_isi_str, z_isi_tl, z_lim, z_lim0, z_lim1, z_lim2, z_lim3, z_lim4, z_lim5, Option.map_some, Bool.not_true, Bool.not_false, List.length_cons, List.length_nil, decide_true, decide_false, ne_eq, not_true_eq_false, not_false_eq_true, schD, z_at0, g1, g2]
theorem is_rule_ok (k : Nat) {t : List Tb} (ht : t ∈ T3) (r : Rl) (hr : r ∈ rules t) (h : Hd) : callF P 100 (k + 8) 16 [schD t [], rD r] h = .ok (.bl true) h := by
  refine callF_pu p_is_rule rfl (by simp only [D.pures, pure_S, pure_rD, Bool.and_self]) ?_ rfl
  have a := ask_true k ht [] (by simp) (by simp) []
  have g1 := rule_at (k + 2) ht hr []
  have ho := has_ok (k + 5) (t.map tD) (pures_T t) [r] (by simp) (fun r' hm => by simp at hm; subst hm; exact ways_at (k + 2) ht hr) []
  simp only [List.map_cons, List.map_nil] at ho
  refine (z_run (env1 := [some (schD t []), some (rD r)]) (h1 := []) (d := .bl true) (z_seq (z_exs (z_calE (ds := [schD t []]) (h1 := []) (z_cons (d := schD t []) (h1 := []) (z_var rfl) z_enil) a)) (z_seqr (by simp) (z_ret (z_and1 (d := .bl true) (h1 := []) ?_ rfl ?_))))).trans (fin_same rfl)
  · simp only [ev, evs, evI, evT, tst, start, int?, List.map_cons, List.map_nil, List.cons_append, List.nil_append, List.replicate, List.set, List.getElem?_cons_succ, List.getElem?_cons_zero, z_bind_ok, z_bind_ex, z_bindN_ok, z_get_some, z_reg_non, z_reg_bl, z_reg_int, z_reg_str, z_reg_tup, z_reg_ref, z_reg_lck, z_reg_tl, z_reg_td, z_truth_non, z_truth_bl, z_truth_int, z_truth_tup, z_truth_tl, z_bif_int, z_bif_intb, z_bif_lent, z_bif_lenl, z_bif_lenk, z_bif_list, z_bif_tup, z_bin_add, z_bin_sub, z_cmp_lt, z_cmp_gt, z_cmp_le, z_cmp_ge, z_cmp_eq, z_cmp_ne, z_cmp_is, z_cmp_isn, z_cmp_inn, z_cmp_nin, z_eq_int, z_eq_str, z_is_bl, z_ix_tup, z_ix_tl, if_true, if_false, Bool.false_eq_true, z_isi_tup, z_isi_str, z_isi_tl, z_lim, z_lim0, z_lim1, z_lim2, z_lim3, z_lim4, z_lim5, Option.map_some, Bool.not_true, Bool.not_false, List.length_cons, List.length_nil, decide_true, decide_false, ne_eq, not_true_eq_false, not_false_eq_true, schD, z_at0, reg_w, g1]
  · simp only [ev, evs, evI, evT, tst, start, int?, List.map_cons, List.map_nil, List.cons_append, List.nil_append, List.replicate, List.set, List.getElem?_cons_succ, List.getElem?_cons_zero, z_bind_ok, z_bind_ex, z_bindN_ok, z_get_some, z_reg_non, z_reg_bl, z_reg_int, z_reg_str, z_reg_tup, z_reg_ref, z_reg_lck, z_reg_tl, z_reg_td, z_truth_non, z_truth_bl, z_truth_int, z_truth_tup, z_truth_tl, z_bif_int, z_bif_intb, z_bif_lent, z_bif_lenl, z_bif_lenk, z_bif_list, z_bif_tup, z_bin_add, z_bin_sub, z_cmp_lt, z_cmp_gt, z_cmp_le, z_cmp_ge, z_cmp_eq, z_cmp_ne, z_cmp_is, z_cmp_isn, z_cmp_inn, z_cmp_nin, z_eq_int, z_eq_str, z_is_bl, z_ix_tup, z_ix_tl, if_true, if_false, Bool.false_eq_true, z_isi_tup, z_isi_str, z_isi_tl, z_lim, z_lim0, z_lim1, z_lim2, z_lim3, z_lim4, z_lim5, Option.map_some, Bool.not_true, Bool.not_false, List.length_cons, List.length_nil, decide_true, decide_false, ne_eq, not_true_eq_false, not_false_eq_true, schD, z_at0, z_at1, reg_w, seqOf, ho]
/-! with_rules -/
def wenv (S R O : D) : Env := [some S, some R, none, some O]
theorem with_ok (k : Nat) {t : List Tb} (ht : t ∈ T3) (rs r2 : List Rl) (hr : ∀ r ∈ rs ++ r2, r ∈ rules t) (hl : (rs ++ r2).length ≤ 7) (h : Hd) : callF P 100 (k + 8) 18 [schD t rs, .tup (r2.map rD)] h = .ok (schD t (rs ++ r2)) h := by
  have hr1 : ∀ r ∈ rs, r ∈ rules t := fun r hm => hr r (List.mem_append_left _ hm)
  have hr2 : ∀ r ∈ r2, r ∈ rules t := fun r hm => hr r (List.mem_append_right _ hm)
  simp only [List.length_append] at hl
  refine callF_pu p_with_rules rfl (by simp only [D.pures, pure_S, pure_Rs, Bool.and_self]) ?_ (pure_S _ _)
  have a := ask_true k ht rs hr1 (by omega) []
  have st := schema_true (k + 1) ht (rs ++ r2) hr (by simp only [List.length_append]; omega) []
  have e : r2.map rD = (rP r2).map fun x => x.1 := (rP_fst r2).symm
  have hal : ev (callF P 100 (k + 7)) (.bif .all (.lc [2] (.nm 2) (.e (.var 1)) (.bl true) (.cal 9 (.cons (.ix (.var 0) (.int 0)) (.cons (.var 2) .nil))))) [some (schD t rs), some (.tup (r2.map rD)), none, none] [] = .ok (.bl true) [] := by
    have L := lcL_bl (t := .nm 2) (c := fun env h => tst (ev (callF P 100 (k + 7)) (.bl true) env h)) (e := ev (callF P 100 (k + 7)) (.cal 9 (.cons (.ix (.var 0) (.int 0)) (.cons (.var 2) .nil)))) (env := [some (schD t rs), some (.tup (r2.map rD)), none, none]) (gs := []) (h := []) rfl (rP r2) ?_ [] (by simp only [rP, List.length_map, List.length_nil]; unfold lim; omega)
    · rw [← e, List.nil_append] at L
      refine z_bifE (z_lc (xs := r2.map rD) (gs := []) (h1 := []) (z_itE (d := .tup (r2.map rD)) (h1 := []) (z_var rfl) rfl) L) ?_
      rw [all_bl, rP_all]
    · skip
      intro x hx
      simp only [rP, List.mem_map] at hx
      obtain ⟨r, hm, rfl⟩ := hx
      refine ⟨[some (schD t rs), some (.tup (r2.map rD)), some (rD r), none], rfl, rfl, ?_⟩
      have := rule_at (k + 2) ht (hr2 r hm) []
      simp only [ev, evs, evI, evT, tst, start, int?, List.map_cons, List.map_nil, List.cons_append, List.nil_append, List.replicate, List.set, List.getElem?_cons_succ, List.getElem?_cons_zero, z_bind_ok, z_bind_ex, z_bindN_ok, z_get_some, z_reg_non, z_reg_bl, z_reg_int, z_reg_str, z_reg_tup, z_reg_ref, z_reg_lck, z_reg_tl, z_reg_td, z_truth_non, z_truth_bl, z_truth_int, z_truth_tup, z_truth_tl, z_bif_int, z_bif_intb, z_bif_lent, z_bif_lenl, z_bif_lenk, z_bif_list, z_bif_tup, z_bin_add, z_bin_sub, z_cmp_lt, z_cmp_gt, z_cmp_le, z_cmp_ge, z_cmp_eq, z_cmp_ne, z_cmp_is, z_cmp_isn, z_cmp_inn, z_cmp_nin, z_eq_int, z_eq_str, z_is_bl, z_ix_tup, z_ix_tl, if_true, if_false, Bool.false_eq_true, z_isi_tup, z_isi_str, z_isi_tl, z_lim, z_lim0, z_lim1, z_lim2, z_lim3, z_lim4, z_lim5, Option.map_some, Bool.not_true, Bool.not_false, List.length_cons, List.length_nil, decide_true, decide_false, ne_eq, not_true_eq_false, not_false_eq_true, schD, z_at0, reg_w, this]
  refine (z_run (env1 := wenv (schD t rs) (.tup (r2.map rD)) (schD t (rs ++ r2))) (h1 := []) (d := schD t (rs ++ r2)) (z_seq (z_exs (z_calE (ds := [schD t rs]) (h1 := []) (z_cons (d := schD t rs) (h1 := []) (z_var rfl) z_enil) a)) (z_seq (z_iff0 (z_evT (z_or0 (d := .bl false) (h1 := []) ?_ rfl (z_notE hal rfl)) rfl) z_nil) (z_seq (z_asg (d := schD t (rs ++ r2)) (h1 := []) (env1 := wenv (schD t rs) (.tup (r2.map rD)) (schD t (rs ++ r2))) ?_ rfl) (z_seq (z_iff0 (z_evT (z_notE (d := .bl true) (h1 := []) (z_calE (ds := [schD t (rs ++ r2)]) (h1 := []) (z_cons (d := schD t (rs ++ r2)) (h1 := []) (z_var rfl) z_enil) st) rfl) rfl) z_nil) (z_seqr (by simp) (z_ret (z_var rfl)))))))).trans (fin_same rfl)
  · simp only [ev, evs, evI, evT, tst, start, int?, List.map_cons, List.map_nil, List.cons_append, List.nil_append, List.replicate, List.set, List.getElem?_cons_succ, List.getElem?_cons_zero, z_bind_ok, z_bind_ex, z_bindN_ok, z_get_some, z_reg_non, z_reg_bl, z_reg_int, z_reg_str, z_reg_tup, z_reg_ref, z_reg_lck, z_reg_tl, z_reg_td, z_truth_non, z_truth_bl, z_truth_int, z_truth_tup, z_truth_tl, z_bif_int, z_bif_intb, z_bif_lent, z_bif_lenl, z_bif_lenk, z_bif_list, z_bif_tup, z_bin_add, z_bin_sub, z_cmp_lt, z_cmp_gt, z_cmp_le, z_cmp_ge, z_cmp_eq, z_cmp_ne, z_cmp_is, z_cmp_isn, z_cmp_inn, z_cmp_nin, z_eq_int, z_eq_str, z_is_bl, z_ix_tup, z_ix_tl, if_true, if_false, Bool.false_eq_true, z_isi_tup, z_isi_str, z_isi_tl, z_lim, z_lim0, z_lim1, z_lim2, z_lim3, z_lim4, z_lim5, Option.map_some, Bool.not_true, Bool.not_false, List.length_cons, List.length_nil, decide_true, decide_false, ne_eq, not_true_eq_false, not_false_eq_true]
  · have l2 : (rs.map rD ++ r2.map rD).length ≤ lim := by simp only [List.length_append, List.length_map]; unfold lim; omega
    have sq : ∀ xs : List D, seqOf [] (.tup xs) = some xs := fun _ => rfl
    simp only [ev, evs, evI, evT, tst, start, int?, List.map_cons, List.map_nil, List.cons_append, List.nil_append, List.replicate, List.set, List.getElem?_cons_succ, List.getElem?_cons_zero, z_bind_ok, z_bind_ex, z_bindN_ok, z_get_some, z_reg_non, z_reg_bl, z_reg_int, z_reg_str, z_reg_tup, z_reg_ref, z_reg_lck, z_reg_tl, z_reg_td, z_truth_non, z_truth_bl, z_truth_int, z_truth_tup, z_truth_tl, z_bif_int, z_bif_intb, z_bif_lent, z_bif_lenl, z_bif_lenk, z_bif_list, z_bif_tup, z_bin_add, z_bin_sub, z_cmp_lt, z_cmp_gt, z_cmp_le, z_cmp_ge, z_cmp_eq, z_cmp_ne, z_cmp_is, z_cmp_isn, z_cmp_inn, z_cmp_nin, z_eq_int, z_eq_str, z_is_bl, z_ix_tup, z_ix_tl, if_true, if_false, Bool.false_eq_true, z_isi_tup, z_isi_str, z_isi_tl, z_lim, z_lim0, z_lim1, z_lim2, z_lim3, z_lim4, z_lim5, Option.map_some, Bool.not_true, Bool.not_false, List.length_cons, List.length_nil, decide_true, decide_false, ne_eq, not_true_eq_false, not_false_eq_true, schD, z_at0, z_at1, sq, l2, List.append_nil, List.map_append]
theorem with_bad (k : Nat) {t : List Tb} (ht : t ∈ T3) (rs : List Rl) (hr : ∀ r ∈ rs, r ∈ rules t) (hl : rs.length ≤ 7) (w : D) (h : Hd) (hw : ∀ h', Okh h (w.pure = true) h' → reg h' w = (w, h') ∧ callF P 100 (k + 7) 9 [.tup (t.map tD), w] h' = .ok (.bl false) h') :
    ∀ h', Okh h (w.pure = true) h' → callF P 100 (k + 8) 18 [schD t rs, .tup [w]] h' = .ex 1 [] h' := by
  refine callF_okx p_with_rules rfl ?_ ?_
  · intro z
    simp only [D.pures, D.pure, Bool.and_true, Bool.and_eq_true] at z
    exact z.2
  · intro h' o
    obtain ⟨g1, g2⟩ := hw h' o
    have a := ask_true k ht rs hr hl h'
    have hal : ev (callF P 100 (k + 7)) (.bif .all (.lc [2] (.nm 2) (.e (.var 1)) (.bl true) (.cal 9 (.cons (.ix (.var 0) (.int 0)) (.cons (.var 2) .nil))))) [some (schD t rs), some (.tup [w]), none, none] h' = .ok (.bl false) h' := by
      refine z_bifE (z_lc (xs := [w]) (gs := []) (h1 := h') (z_itE (d := .tup [w]) (h1 := h') (z_var rfl) rfl) (lcL_bl (ps := [(w, false)]) rfl ?_ [] (Nat.le_of_ble_eq_true rfl))) (h1 := h') (all_bl [(w, false)])
      intro x hx
      simp only [List.mem_cons, List.not_mem_nil, or_false] at hx
      subst hx
      refine ⟨[some (schD t rs), some (.tup [w]), some w, none], rfl, rfl, ?_⟩
      simp only [ev, evs, evI, evT, tst, start, int?, List.map_cons, List.map_nil, List.cons_append, List.nil_append, List.replicate, List.set, List.getElem?_cons_succ, List.getElem?_cons_zero, z_bind_ok, z_bind_ex, z_bindN_ok, z_get_some, z_reg_non, z_reg_bl, z_reg_int, z_reg_str, z_reg_tup, z_reg_ref, z_reg_lck, z_reg_tl, z_reg_td, z_truth_non, z_truth_bl, z_truth_int, z_truth_tup, z_truth_tl, z_bif_int, z_bif_intb, z_bif_lent, z_bif_lenl, z_bif_lenk, z_bif_list, z_bif_tup, z_bin_add, z_bin_sub, z_cmp_lt, z_cmp_gt, z_cmp_le, z_cmp_ge, z_cmp_eq, z_cmp_ne, z_cmp_is, z_cmp_isn, z_cmp_inn, z_cmp_nin, z_eq_int, z_eq_str, z_is_bl, z_ix_tup, z_ix_tl, if_true, if_false, Bool.false_eq_true, z_isi_tup, z_isi_str, z_isi_tl, z_lim, z_lim0, z_lim1, z_lim2, z_lim3, z_lim4, z_lim5, Option.map_some, Bool.not_true, Bool.not_false, List.length_cons, List.length_nil, decide_true, decide_false, ne_eq, not_true_eq_false, not_false_eq_true, schD, z_at0, g1, g2]
    have i1 : evT (callF P 100 (k + 7)) (.or (.not (.isi (.var 1) .tuple)) (.not (.bif .all (.lc [2] (.nm 2) (.e (.var 1)) (.bl true) (.cal 9 (.cons (.ix (.var 0) (.int 0)) (.cons (.var 2) .nil))))))) [some (schD t rs), some (.tup [w]), none, none] h' = .ok true h' := z_evT (z_or0 (d := .bl false) (h1 := h') (by simp only [ev, evs, evI, evT, tst, start, int?, List.map_cons, List.map_nil, List.cons_append, List.nil_append, List.replicate, List.set, List.getElem?_cons_succ, List.getElem?_cons_zero, z_bind_ok, z_bind_ex, z_bindN_ok, z_get_some, z_reg_non, z_reg_bl, z_reg_int, z_reg_str, z_reg_tup, z_reg_ref, z_reg_lck, z_reg_tl, z_reg_td, z_truth_non, z_truth_bl, z_truth_int, z_truth_tup, z_truth_tl, z_bif_int, z_bif_intb, z_bif_lent, z_bif_lenl, z_bif_lenk, z_bif_list, z_bif_tup, z_bin_add, z_bin_sub, z_cmp_lt, z_cmp_gt, z_cmp_le, z_cmp_ge, z_cmp_eq, z_cmp_ne, z_cmp_is, z_cmp_isn, z_cmp_inn, z_cmp_nin, z_eq_int, z_eq_str, z_is_bl, z_ix_tup, z_ix_tl, if_true, if_false, Bool.false_eq_true, z_isi_tup, z_isi_str, z_isi_tl, z_lim, z_lim0, z_lim1, z_lim2, z_lim3, z_lim4, z_lim5, Option.map_some, Bool.not_true, Bool.not_false, List.length_cons, List.length_nil, decide_true, decide_false, ne_eq, not_true_eq_false, not_false_eq_true]) rfl (z_notE hal rfl)) rfl
    have st : ex (callF P 100 (k + 7)) 100 b_with_rules (start 4 [schD t rs, .tup [w]]) h' = .ex 1 [] h' := by
      exact z_seq (z_exs (z_calE (ds := [schD t rs]) (h1 := h') (z_cons (d := schD t rs) (h1 := h') (z_var rfl) z_enil) a)) (z_seqx (z_ift i1 (z_seqx z_rse0)))
    simp only [runB, st, z_bind_ex]
end K00
end
section
set_option linter.all false
set_option maxRecDepth 100000
set_option maxHeartbeats 4000000
set_option autoImplicit false
namespace K00
open Mp
/-! the wrong tables, the wrong rules: what the law makes -/
def F0 : Nat → List D → Hd → R D := fun _ _ _ => .no
def rRef : R (Fl × Env) → Nat
  | .ok (.rt (.ref m), _) _ => m
  | _ => 0
def rEnv : R (Fl × Env) → Env
  | .ok (_, e) _ => e
  | _ => []
def rHd : R (Fl × Env) → Hd
  | .ok _ h => h
  | _ => []
def lstAt (h : Hd) (n : Nat) : List D := match h[n]? with
  | some (.lst xs) => xs
  | _ => []
@[irreducible] def run0 : R (Fl × Env) := ex (fun f ds h => match f, ds with
  | _, _ => F0 f ds h) 100 b__law_wrong_tables (start 2 []) [.lst []]
def J0 : Hd := (rHd run0).tail
def W0 : List D := lstAt (rHd run0) (rRef run0)
theorem run0_ok (F : Nat → List D → Hd → R D) (X : List D) : ex F 100 b__law_wrong_tables (start 2 []) [.lst X] = .ok (.rt (.ref (rRef run0)), rEnv run0) (.lst X :: J0) := by kernel_rfl
theorem run0_at (X : List D) : (Ob.lst X :: J0)[rRef run0]? = some (.lst W0) := by kernel_rfl
theorem run0_pos : Nat.ble 1 (rRef run0) = true := by kernel_rfl
theorem run0_im : D.pures W0 = false := by kernel_rfl
@[irreducible] def run1 (t : List Tb) : R (Fl × Env) := ex F0 100 b__law_wrong_rules (start 6 [.tup (t.map tD)]) (.lst [] :: J0)
def J1 (t : List Tb) : Hd := (rHd (run1 t)).tail
def W1 (t : List Tb) : List D := lstAt (rHd (run1 t)) (rRef (run1 t))
theorem run1_all (F : Nat → List D → Hd → R D) (X : List D) : (T3.map fun t => ex F 100 b__law_wrong_rules (start 6 [.tup (t.map tD)]) (.lst X :: J0)) = T3.map fun t => .ok (.rt (.ref (rRef (run1 t))), rEnv (run1 t)) (.lst X :: J1 t) := by kernel_rfl
theorem run1_at (X : List D) : (T3.map fun t => (Ob.lst X :: J1 t)[rRef (run1 t)]?) = T3.map fun t => some (.lst (W1 t)) := by kernel_rfl
theorem run1_pos : (T3.all fun t => Nat.ble (J0.length + 1) (rRef (run1 t)) && !(D.pures (W1 t))) = true := by kernel_rfl
def obSames : Hd → Hd → Bool
  | [], [] => true
  | a :: as, b :: bs => Ob.same a b && obSames as bs
  | _, _ => false
theorem obSame_eq {a b : Ob} (h : Ob.same a b = true) : a = b := by
  cases a <;> cases b <;> simp only [Ob.same, Bool.and_eq_true] at h <;> first | (rw [sames_eq _ _ h]) | (rw [sames_eq _ _ h.1, sames_eq _ _ h.2]) | cases h
theorem obSames_eq : ∀ {a b : Hd}, obSames a b = true → a = b
  | [], [], _ => rfl
  | a :: as, b :: bs, h => by
    simp only [obSames, Bool.and_eq_true] at h
    rw [obSame_eq h.1, obSames_eq h.2]
theorem run1_pre : (T3.all fun t => obSames ((J1 t).take J0.length) J0) = true := by kernel_rfl
def isReg : D → Bool
  | .tl _ => false
  | .td _ _ => false
  | _ => true
theorem isReg_eq {d : D} (h : isReg d = true) (s : Hd) : reg s d = (d, s) := by
  cases d <;> first | rfl | cases h
/-- no rule: handed in without refs -/
def chkW (k : Nat) (T : D) (w : D) : Bool := isReg w && (!w.pure || isF (callF P 100 (k + 5) 9 [T, w] []))
/-- with refs -/
def chkI (k : Nat) (X : List D) (J : Hd) (T : D) (w : D) : Option Ob := if w.pure then some (.lst X) else match ex (callF P 100 (k + 4)) 100 b_is_rule_of (start 4 [T, w]) (.lst X :: J) with
  | .ok (.rt (.bl false), _) (o :: r) => if obSames (r.take J.length) J then some o else none
  | _ => none
end K00
end
section
set_option linter.all false
set_option maxRecDepth 100000
set_option maxHeartbeats 4000000
set_option autoImplicit false
set_option Elab.async false
namespace K00
open Mp
theorem wr_0 (k : Nat) : ((T3c 0).all fun t => (W1 t).all (chkW k (.tup (t.map tD)))) = true := by kernel_rfl
theorem wi_0 (k : Nat) (X : List D) : ((T3c 0).map fun t => (W1 t).map (chkI k X (J1 t) (.tup (t.map tD)))) = (T3c 0).map fun t => (W1 t).map fun _ => some (.lst X) := by kernel_rfl
theorem wr_1 (k : Nat) : ((T3c 1).all fun t => (W1 t).all (chkW k (.tup (t.map tD)))) = true := by kernel_rfl
theorem wi_1 (k : Nat) (X : List D) : ((T3c 1).map fun t => (W1 t).map (chkI k X (J1 t) (.tup (t.map tD)))) = (T3c 1).map fun t => (W1 t).map fun _ => some (.lst X) := by kernel_rfl
theorem wr_2 (k : Nat) : ((T3c 2).all fun t => (W1 t).all (chkW k (.tup (t.map tD)))) = true := by kernel_rfl
theorem wi_2 (k : Nat) (X : List D) : ((T3c 2).map fun t => (W1 t).map (chkI k X (J1 t) (.tup (t.map tD)))) = (T3c 2).map fun t => (W1 t).map fun _ => some (.lst X) := by kernel_rfl
theorem wr_3 (k : Nat) : ((T3c 3).all fun t => (W1 t).all (chkW k (.tup (t.map tD)))) = true := by kernel_rfl
theorem wi_3 (k : Nat) (X : List D) : ((T3c 3).map fun t => (W1 t).map (chkI k X (J1 t) (.tup (t.map tD)))) = (T3c 3).map fun t => (W1 t).map fun _ => some (.lst X) := by kernel_rfl
theorem wr_4 (k : Nat) : ((T3c 4).all fun t => (W1 t).all (chkW k (.tup (t.map tD)))) = true := by kernel_rfl
theorem wi_4 (k : Nat) (X : List D) : ((T3c 4).map fun t => (W1 t).map (chkI k X (J1 t) (.tup (t.map tD)))) = (T3c 4).map fun t => (W1 t).map fun _ => some (.lst X) := by kernel_rfl
theorem wr_5 (k : Nat) : ((T3c 5).all fun t => (W1 t).all (chkW k (.tup (t.map tD)))) = true := by kernel_rfl
theorem wi_5 (k : Nat) (X : List D) : ((T3c 5).map fun t => (W1 t).map (chkI k X (J1 t) (.tup (t.map tD)))) = (T3c 5).map fun t => (W1 t).map fun _ => some (.lst X) := by kernel_rfl
theorem wr_6 (k : Nat) : ((T3c 6).all fun t => (W1 t).all (chkW k (.tup (t.map tD)))) = true := by kernel_rfl
theorem wi_6 (k : Nat) (X : List D) : ((T3c 6).map fun t => (W1 t).map (chkI k X (J1 t) (.tup (t.map tD)))) = (T3c 6).map fun t => (W1 t).map fun _ => some (.lst X) := by kernel_rfl
theorem wr_7 (k : Nat) : ((T3c 7).all fun t => (W1 t).all (chkW k (.tup (t.map tD)))) = true := by kernel_rfl
theorem wi_7 (k : Nat) (X : List D) : ((T3c 7).map fun t => (W1 t).map (chkI k X (J1 t) (.tup (t.map tD)))) = (T3c 7).map fun t => (W1 t).map fun _ => some (.lst X) := by kernel_rfl
theorem wr_8 (k : Nat) : ((T3c 8).all fun t => (W1 t).all (chkW k (.tup (t.map tD)))) = true := by kernel_rfl
theorem wi_8 (k : Nat) (X : List D) : ((T3c 8).map fun t => (W1 t).map (chkI k X (J1 t) (.tup (t.map tD)))) = (T3c 8).map fun t => (W1 t).map fun _ => some (.lst X) := by kernel_rfl
theorem wr_9 (k : Nat) : ((T3c 9).all fun t => (W1 t).all (chkW k (.tup (t.map tD)))) = true := by kernel_rfl
theorem wi_9 (k : Nat) (X : List D) : ((T3c 9).map fun t => (W1 t).map (chkI k X (J1 t) (.tup (t.map tD)))) = (T3c 9).map fun t => (W1 t).map fun _ => some (.lst X) := by kernel_rfl
theorem wr_10 (k : Nat) : ((T3c 10).all fun t => (W1 t).all (chkW k (.tup (t.map tD)))) = true := by kernel_rfl
theorem wi_10 (k : Nat) (X : List D) : ((T3c 10).map fun t => (W1 t).map (chkI k X (J1 t) (.tup (t.map tD)))) = (T3c 10).map fun t => (W1 t).map fun _ => some (.lst X) := by kernel_rfl
theorem wr_11 (k : Nat) : ((T3c 11).all fun t => (W1 t).all (chkW k (.tup (t.map tD)))) = true := by kernel_rfl
theorem wi_11 (k : Nat) (X : List D) : ((T3c 11).map fun t => (W1 t).map (chkI k X (J1 t) (.tup (t.map tD)))) = (T3c 11).map fun t => (W1 t).map fun _ => some (.lst X) := by kernel_rfl
theorem wr_12 (k : Nat) : ((T3c 12).all fun t => (W1 t).all (chkW k (.tup (t.map tD)))) = true := by kernel_rfl
theorem wi_12 (k : Nat) (X : List D) : ((T3c 12).map fun t => (W1 t).map (chkI k X (J1 t) (.tup (t.map tD)))) = (T3c 12).map fun t => (W1 t).map fun _ => some (.lst X) := by kernel_rfl
theorem wr_13 (k : Nat) : ((T3c 13).all fun t => (W1 t).all (chkW k (.tup (t.map tD)))) = true := by kernel_rfl
theorem wi_13 (k : Nat) (X : List D) : ((T3c 13).map fun t => (W1 t).map (chkI k X (J1 t) (.tup (t.map tD)))) = (T3c 13).map fun t => (W1 t).map fun _ => some (.lst X) := by kernel_rfl
theorem wr_14 (k : Nat) : ((T3c 14).all fun t => (W1 t).all (chkW k (.tup (t.map tD)))) = true := by kernel_rfl
theorem wi_14 (k : Nat) (X : List D) : ((T3c 14).map fun t => (W1 t).map (chkI k X (J1 t) (.tup (t.map tD)))) = (T3c 14).map fun t => (W1 t).map fun _ => some (.lst X) := by kernel_rfl
theorem wr_15 (k : Nat) : ((T3c 15).all fun t => (W1 t).all (chkW k (.tup (t.map tD)))) = true := by kernel_rfl
theorem wi_15 (k : Nat) (X : List D) : ((T3c 15).map fun t => (W1 t).map (chkI k X (J1 t) (.tup (t.map tD)))) = (T3c 15).map fun t => (W1 t).map fun _ => some (.lst X) := by kernel_rfl
theorem wr_16 (k : Nat) : ((T3c 16).all fun t => (W1 t).all (chkW k (.tup (t.map tD)))) = true := by kernel_rfl
theorem wi_16 (k : Nat) (X : List D) : ((T3c 16).map fun t => (W1 t).map (chkI k X (J1 t) (.tup (t.map tD)))) = (T3c 16).map fun t => (W1 t).map fun _ => some (.lst X) := by kernel_rfl
theorem wr_17 (k : Nat) : ((T3c 17).all fun t => (W1 t).all (chkW k (.tup (t.map tD)))) = true := by kernel_rfl
theorem wi_17 (k : Nat) (X : List D) : ((T3c 17).map fun t => (W1 t).map (chkI k X (J1 t) (.tup (t.map tD)))) = (T3c 17).map fun t => (W1 t).map fun _ => some (.lst X) := by kernel_rfl
theorem wr_18 (k : Nat) : ((T3c 18).all fun t => (W1 t).all (chkW k (.tup (t.map tD)))) = true := by kernel_rfl
theorem wi_18 (k : Nat) (X : List D) : ((T3c 18).map fun t => (W1 t).map (chkI k X (J1 t) (.tup (t.map tD)))) = (T3c 18).map fun t => (W1 t).map fun _ => some (.lst X) := by kernel_rfl
theorem wr_19 (k : Nat) : ((T3c 19).all fun t => (W1 t).all (chkW k (.tup (t.map tD)))) = true := by kernel_rfl
theorem wi_19 (k : Nat) (X : List D) : ((T3c 19).map fun t => (W1 t).map (chkI k X (J1 t) (.tup (t.map tD)))) = (T3c 19).map fun t => (W1 t).map fun _ => some (.lst X) := by kernel_rfl
theorem wr_20 (k : Nat) : ((T3c 20).all fun t => (W1 t).all (chkW k (.tup (t.map tD)))) = true := by kernel_rfl
theorem wi_20 (k : Nat) (X : List D) : ((T3c 20).map fun t => (W1 t).map (chkI k X (J1 t) (.tup (t.map tD)))) = (T3c 20).map fun t => (W1 t).map fun _ => some (.lst X) := by kernel_rfl
end K00
end
section
set_option linter.all false
set_option maxRecDepth 100000
set_option maxHeartbeats 4000000
set_option autoImplicit false
namespace K00
open Mp
theorem cut_all {p : List Tb → Prop} (h0 : ∀ t ∈ T3c 0, p t) (h1 : ∀ t ∈ T3c 1, p t) (h2 : ∀ t ∈ T3c 2, p t) (h3 : ∀ t ∈ T3c 3, p t) (h4 : ∀ t ∈ T3c 4, p t) (h5 : ∀ t ∈ T3c 5, p t) (h6 : ∀ t ∈ T3c 6, p t) (h7 : ∀ t ∈ T3c 7, p t) (h8 : ∀ t ∈ T3c 8, p t) (h9 : ∀ t ∈ T3c 9, p t) (h10 : ∀ t ∈ T3c 10, p t) (h11 : ∀ t ∈ T3c 11, p t) (h12 : ∀ t ∈ T3c 12, p t) (h13 : ∀ t ∈ T3c 13, p t) (h14 : ∀ t ∈ T3c 14, p t) (h15 : ∀ t ∈ T3c 15, p t) (h16 : ∀ t ∈ T3c 16, p t) (h17 : ∀ t ∈ T3c 17, p t) (h18 : ∀ t ∈ T3c 18, p t) (h19 : ∀ t ∈ T3c 19, p t) (h20 : ∀ t ∈ T3c 20, p t) : ∀ t ∈ T3, p t := by
  rw [T3_cut]
  intro t ht
  simp only [List.mem_append] at ht
  rcases ht with h | h | h | h | h | h | h | h | h | h | h | h | h | h | h | h | h | h | h | h | h
  · exact h0 t h
  · exact h1 t h
  · exact h2 t h
  · exact h3 t h
  · exact h4 t h
  · exact h5 t h
  · exact h6 t h
  · exact h7 t h
  · exact h8 t h
  · exact h9 t h
  · exact h10 t h
  · exact h11 t h
  · exact h12 t h
  · exact h13 t h
  · exact h14 t h
  · exact h15 t h
  · exact h16 t h
  · exact h17 t h
  · exact h18 t h
  · exact h19 t h
  · exact h20 t h
theorem chkW_of (k : Nat) : ∀ t ∈ T3, (W1 t).all (chkW k (.tup (t.map tD))) = true :=
  cut_all (List.all_eq_true.mp (wr_0 k)) (List.all_eq_true.mp (wr_1 k)) (List.all_eq_true.mp (wr_2 k)) (List.all_eq_true.mp (wr_3 k)) (List.all_eq_true.mp (wr_4 k)) (List.all_eq_true.mp (wr_5 k)) (List.all_eq_true.mp (wr_6 k)) (List.all_eq_true.mp (wr_7 k)) (List.all_eq_true.mp (wr_8 k)) (List.all_eq_true.mp (wr_9 k)) (List.all_eq_true.mp (wr_10 k)) (List.all_eq_true.mp (wr_11 k)) (List.all_eq_true.mp (wr_12 k)) (List.all_eq_true.mp (wr_13 k)) (List.all_eq_true.mp (wr_14 k)) (List.all_eq_true.mp (wr_15 k)) (List.all_eq_true.mp (wr_16 k)) (List.all_eq_true.mp (wr_17 k)) (List.all_eq_true.mp (wr_18 k)) (List.all_eq_true.mp (wr_19 k)) (List.all_eq_true.mp (wr_20 k))
theorem chkI_of (k : Nat) (X : List D) : ∀ t ∈ T3, (W1 t).map (chkI k X (J1 t) (.tup (t.map tD))) = (W1 t).map fun _ => some (.lst X) :=
  cut_all (List.map_inj_left.mp (wi_0 k X)) (List.map_inj_left.mp (wi_1 k X)) (List.map_inj_left.mp (wi_2 k X)) (List.map_inj_left.mp (wi_3 k X)) (List.map_inj_left.mp (wi_4 k X)) (List.map_inj_left.mp (wi_5 k X)) (List.map_inj_left.mp (wi_6 k X)) (List.map_inj_left.mp (wi_7 k X)) (List.map_inj_left.mp (wi_8 k X)) (List.map_inj_left.mp (wi_9 k X)) (List.map_inj_left.mp (wi_10 k X)) (List.map_inj_left.mp (wi_11 k X)) (List.map_inj_left.mp (wi_12 k X)) (List.map_inj_left.mp (wi_13 k X)) (List.map_inj_left.mp (wi_14 k X)) (List.map_inj_left.mp (wi_15 k X)) (List.map_inj_left.mp (wi_16 k X)) (List.map_inj_left.mp (wi_17 k X)) (List.map_inj_left.mp (wi_18 k X)) (List.map_inj_left.mp (wi_19 k X)) (List.map_inj_left.mp (wi_20 k X))
theorem w1_bad (k : Nat) (X : List D) {t : List Tb} (ht : t ∈ T3) {w : D} (hw : w ∈ W1 t) : ∀ h', Okh (.lst X :: J1 t) (w.pure = true) h' → reg h' w = (w, h') ∧ callF P 100 (k + 5) 9 [.tup (t.map tD), w] h' = .ok (.bl false) h' := by
  intro h' o
  have c := List.all_eq_true.mp (chkW_of k t ht) w hw
  simp only [chkW, Bool.and_eq_true] at c
  refine ⟨isReg_eq c.1 h', ?_⟩
  by_cases p : w.pure = true
  · have c2 := c.2
    simp only [p, Bool.not_true, Bool.false_or] at c2
    exact callF_at (by simp only [D.pures, pure_T, p, Bool.and_self]) rfl (isF_eq c2) h'
  · rcases o with o | o
    · subst o
      have i := List.map_inj_left.mp (chkI_of k X t ht) w hw
      unfold chkI at i
      rw [if_neg p] at i
      rw [callF_im p_is_rule_of rfl (by simp only [D.pures, p]; simp)]
      split at i
      · rename_i env o r e
        split at i
        · rename_i g
          cases i
          have e2 := obSames_eq g
          have e3 : Ob.lst X :: r = (Ob.lst X :: J1 t) ++ r.drop (J1 t).length := by
            rw [List.cons_append]
            congr 1
            conv => lhs; rw [← List.take_append_drop (J1 t).length r]
            rw [e2]
          rw [e3] at e
          rw [z_run e]
          exact fin_dropp rfl
        · cases i
      · cases i
    · exact (p o.2).elim
end K00
end
section
set_option linter.all false
set_option maxRecDepth 100000
set_option maxHeartbeats 4000000
set_option autoImplicit false
namespace K00
open Mp
theorem z_tri {F : Nat → List D → Hd → R D} {w : Nat} {b alts : S} {env : Env} {h h1 : Hd} {c i : Nat} {fs : List D} {q : R (Fl × Env)} (e1 : ex F w b env h = .ex c fs h1) (e2 : exA F w alts c c i fs (List.replicate env.length none) h1 = q) : ex F w (.tri b i alts) env h = q := by simp only [ex, e1, e2]
/-! _law_kind -/
def sRule : List Nat := [114, 117, 108, 101]
def sCols : List Nat := [99, 111, 108, 117, 109, 110, 115]
def sWith : List Nat := [119, 105, 116, 104]
def sSch : List Nat := [115, 99, 104, 101, 109, 97]
def sTab : List Nat := [116, 97, 98, 108, 101]
def kNm (c : Nat) : List Nat := if c = 1 then sRule else if c = 2 then sSch else sTab
def kB (F : Nat → List D → Hd → R D) (c : Nat) : S := match b__law_kind with
  | .seq (.tri _ _ (.aS _ (.aS s1 (.aS s2 (.aS s3 _))))) _ => if c = 1 then s1 else if c = 2 then s2 else s3
  | _ => .nil
def kTry : S := match b__law_kind with
  | .seq (.tri b _ _) _ => b
  | _ => .nil
def kf : Nat → List Nat
  | 16 => sRule
  | 17 => sCols
  | _ => sWith
theorem kind_try (F : Nat → List D → Hd → R D) (f c : Nat) (hf : f = 16 ∨ f = 17 ∨ f = 18) (a b : D) (h : Hd) (ha : reg h a = (a, h)) (hb : reg h b = (b, h)) (hx : F f [a, b] h = .ex c [] h) :
    ex F 100 kTry [some (.str (kf f)), some a, some b, none, none, none] h = .ex c [] h := by
  have cc : ∀ g, F g [a, b] h = .ex c [] h → ex F 100 (.seq (.ex (.cal g (.cons (.var 1) (.cons (.var 2) .nil)))) .nil) [some (.str (kf f)), some a, some b, none, none, none] h = .ex c [] h := fun g hg => by
    refine z_seqx ?_
    simp only [ex, ev, evs, List.getElem?_cons_succ, List.getElem?_cons_zero, z_bind_ok, ha, hb, hg, z_bind_ex]
  have t1 : ∀ s b', lnat (kf f) s = b' → evT F (.cmp .eq (.var 0) (.str s)) [some (.str (kf f)), some a, some b, none, none, none] h = .ok b' h := fun s b' e => by
    simp only [ev, evs, evI, evT, tst, start, int?, List.map_cons, List.map_nil, List.cons_append, List.nil_append, List.replicate, List.set, List.getElem?_cons_succ, List.getElem?_cons_zero, z_bind_ok, z_bind_ex, z_bindN_ok, z_get_some, z_reg_non, z_reg_bl, z_reg_int, z_reg_str, z_reg_tup, z_reg_ref, z_reg_lck, z_reg_tl, z_reg_td, z_truth_non, z_truth_bl, z_truth_int, z_truth_tup, z_truth_tl, z_bif_int, z_bif_intb, z_bif_lent, z_bif_lenl, z_bif_lenk, z_bif_list, z_bif_tup, z_bin_add, z_bin_sub, z_cmp_lt, z_cmp_gt, z_cmp_le, z_cmp_ge, z_cmp_eq, z_cmp_ne, z_cmp_is, z_cmp_isn, z_cmp_inn, z_cmp_nin, z_eq_int, z_eq_str, z_is_bl, z_ix_tup, z_ix_tl, if_true, if_false, Bool.false_eq_true, z_isi_tup, z_isi_str, z_isi_tl, z_lim, z_lim0, z_lim1, z_lim2, z_lim3, z_lim4, z_lim5, Option.map_some, Bool.not_true, Bool.not_false, List.length_cons, List.length_nil, decide_true, decide_false, ne_eq, not_true_eq_false, not_false_eq_true, e]
  rcases hf with rfl | rfl | rfl
  · exact z_seqx (z_ift (t1 [114, 117, 108, 101] true rfl) (cc 16 hx))
  · exact z_seqx (z_iff0 (t1 [114, 117, 108, 101] false rfl) (z_seqx (z_ift (t1 [99, 111, 108, 117, 109, 110, 115] true rfl) (cc 17 hx))))
  · exact z_seqx (z_iff0 (t1 [114, 117, 108, 101] false rfl) (z_seqx (z_iff0 (t1 [99, 111, 108, 117, 109, 110, 115] false rfl) (cc 18 hx))))
theorem kind_suite (F : Nat → List D → Hd → R D) (c : Nat) (hc : c = 1 ∨ c = 2 ∨ c = 3) (h : Hd) : ∃ env' s, ex F 100 (kB F c) [none, none, none, none, none, none] h = .ok (.rt (.tl [.str (kNm c)]), env') (h ++ s) := by
  have hr : rngO 0 3 = some [.int 0, .int 1, .int 2] := rfl
  have gen : ∀ b0 b1 b2 : Bool, ∀ nm : List D, nm = (if b0 = true then [D.str sSch] else []) ++ ((if b1 = true then [D.str sRule] else []) ++ (if b2 = true then [D.str sTab] else [])) →
      ex F 100 (.seq (.asg (.nm 4) (.lst (.cons (.bl b0) (.cons (.bl b1) (.cons (.bl b2) .nil))))) (.seq (.ret (.lc [5] (.nm 5) (.rng (.cons (.int 3) .nil)) (.ix (.var 4) (.var 5)) (.ix (.lst (.cons (.str [115, 99, 104, 101, 109, 97]) (.cons (.str [114, 117, 108, 101]) (.cons (.str [116, 97, 98, 108, 101]) .nil)))) (.var 5)))) .nil)) [none, none, none, none, none, none] h = .ok (.rt (.tl nm), [none, none, none, none, some (.ref h.length), none]) (h ++ [.lst [.bl b0, .bl b1, .bl b2]]) := by
    intro b0 b1 b2 nm e
    have q : (h ++ [Ob.lst [.bl b0, .bl b1, .bl b2]])[h.length]? = some (.lst [.bl b0, .bl b1, .bl b2]) := by simp
    refine z_seq (z_asg (d := .tl [.bl b0, .bl b1, .bl b2]) (h1 := h) (env1 := [none, none, none, none, some (.ref h.length), none]) ?_ rfl) (z_seqr (by simp) (z_ret (z_lc (xs := [.int 0, .int 1, .int 2]) (gs := []) (h1 := h ++ [.lst [.bl b0, .bl b1, .bl b2]]) ?_ ?_)))
    · simp only [ev, evs, evI, evT, tst, start, int?, List.map_cons, List.map_nil, List.cons_append, List.nil_append, List.replicate, List.set, List.getElem?_cons_succ, List.getElem?_cons_zero, z_bind_ok, z_bind_ex, z_bindN_ok, z_get_some, z_reg_non, z_reg_bl, z_reg_int, z_reg_str, z_reg_tup, z_reg_ref, z_reg_lck, z_reg_tl, z_reg_td, z_truth_non, z_truth_bl, z_truth_int, z_truth_tup, z_truth_tl, z_bif_int, z_bif_intb, z_bif_lent, z_bif_lenl, z_bif_lenk, z_bif_list, z_bif_tup, z_bin_add, z_bin_sub, z_cmp_lt, z_cmp_gt, z_cmp_le, z_cmp_ge, z_cmp_eq, z_cmp_ne, z_cmp_is, z_cmp_isn, z_cmp_inn, z_cmp_nin, z_eq_int, z_eq_str, z_is_bl, z_ix_tup, z_ix_tl, if_true, if_false, Bool.false_eq_true, z_isi_tup, z_isi_str, z_isi_tl, z_lim, z_lim0, z_lim1, z_lim2, z_lim3, z_lim4, z_lim5, Option.map_some, Bool.not_true, Bool.not_false, List.length_cons, List.length_nil, decide_true, decide_false, ne_eq, not_true_eq_false, not_false_eq_true]
    · simp only [ev, evs, evI, evT, tst, start, int?, List.map_cons, List.map_nil, List.cons_append, List.nil_append, List.replicate, List.set, List.getElem?_cons_succ, List.getElem?_cons_zero, z_bind_ok, z_bind_ex, z_bindN_ok, z_get_some, z_reg_non, z_reg_bl, z_reg_int, z_reg_str, z_reg_tup, z_reg_ref, z_reg_lck, z_reg_tl, z_reg_td, z_truth_non, z_truth_bl, z_truth_int, z_truth_tup, z_truth_tl, z_bif_int, z_bif_intb, z_bif_lent, z_bif_lenl, z_bif_lenk, z_bif_list, z_bif_tup, z_bin_add, z_bin_sub, z_cmp_lt, z_cmp_gt, z_cmp_le, z_cmp_ge, z_cmp_eq, z_cmp_ne, z_cmp_is, z_cmp_isn, z_cmp_inn, z_cmp_nin, z_eq_int, z_eq_str, z_is_bl, z_ix_tup, z_ix_tl, if_true, if_false, Bool.false_eq_true, z_isi_tup, z_isi_str, z_isi_tl, z_lim, z_lim0, z_lim1, z_lim2, z_lim3, z_lim4, z_lim5, Option.map_some, Bool.not_true, Bool.not_false, List.length_cons, List.length_nil, decide_true, decide_false, ne_eq, not_true_eq_false, not_false_eq_true, hr]
    · subst e
      have a0 : ∀ x y z : D, atI [x, y, z] 0 = some x := fun _ _ _ => rfl
      have a1 : ∀ x y z : D, atI [x, y, z] 1 = some y := fun _ _ _ => rfl
      have a2 : ∀ x y z : D, atI [x, y, z] 2 = some z := fun _ _ _ => rfl
      cases b0 <;> cases b1 <;> cases b2 <;> simp only [ev, evs, evI, evT, tst, start, int?, List.map_cons, List.map_nil, List.cons_append, List.nil_append, List.replicate, List.set, List.getElem?_cons_succ, List.getElem?_cons_zero, z_bind_ok, z_bind_ex, z_bindN_ok, z_get_some, z_reg_non, z_reg_bl, z_reg_int, z_reg_str, z_reg_tup, z_reg_ref, z_reg_lck, z_reg_tl, z_reg_td, z_truth_non, z_truth_bl, z_truth_int, z_truth_tup, z_truth_tl, z_bif_int, z_bif_intb, z_bif_lent, z_bif_lenl, z_bif_lenk, z_bif_list, z_bif_tup, z_bin_add, z_bin_sub, z_cmp_lt, z_cmp_gt, z_cmp_le, z_cmp_ge, z_cmp_eq, z_cmp_ne, z_cmp_is, z_cmp_isn, z_cmp_inn, z_cmp_nin, z_eq_int, z_eq_str, z_is_bl, z_ix_tup, z_ix_tl, if_true, if_false, Bool.false_eq_true, z_isi_tup, z_isi_str, z_isi_tl, z_lim, z_lim0, z_lim1, z_lim2, z_lim3, z_lim4, z_lim5, Option.map_some, Bool.not_true, Bool.not_false, List.length_cons, List.length_nil, decide_true, decide_false, ne_eq, not_true_eq_false, not_false_eq_true, lcL, gOk, wipe, asgT, z_ix_ref q, a0, a1, a2, Bool.true_and, Bool.and_true, decide_eq_true_eq] <;> rfl
  rcases hc with rfl | rfl | rfl
  · exact ⟨_, _, gen false true false _ rfl⟩
  · exact ⟨_, _, gen true false false _ rfl⟩
  · exact ⟨_, _, gen false false true _ rfl⟩
theorem kind_ex (k f c : Nat) (hf : f = 16 ∨ f = 17 ∨ f = 18) (hc : c = 1 ∨ c = 2 ∨ c = 3) (a b : D) (h : Hd) (p : Prop) (hp : D.pures [a, b] = true → p)
    (hx : ∀ h', Okh h p h' → reg h' a = (a, h') ∧ reg h' b = (b, h') ∧ callF P 100 k f [a, b] h' = .ex c [] h') :
    ∀ h', Okh h p h' → callF P 100 (k + 1) 29 [.str (kf f), a, b] h' = .ok (.tl [.str (kNm c)]) h' := by
  refine callF_okh p__law_kind rfl (fun z => hp (by simpa only [D.pures, D.pure, Bool.true_and] using z)) (by rfl) ?_
  intro h' o
  obtain ⟨ha, hb, hx'⟩ := hx h' o
  have e1 := kind_try (callF P 100 k) f c hf a b h' ha hb hx'
  obtain ⟨env', s, e2⟩ := kind_suite (callF P 100 k) c hc h'
  have e3 : ex (callF P 100 k) 100 b__law_kind (start 6 [.str (kf f), a, b]) h' = .ok (.rt (.tl [.str (kNm c)]), env'.set 3 none) (h' ++ s) := by
    refine z_seqr (by simp) ?_
    have e4 : ex (callF P 100 k) 100 kTry (start 6 [.str (kf f), a, b]) h' = .ex c [] h' := e1
    refine z_tri e4 ?_
    have e5 : ∀ r : R (Fl × Env), r = .ok (.rt (.tl [.str (kNm c)]), env') (h' ++ s) → triE 3 r = .ok (.rt (.tl [.str (kNm c)]), env'.set 3 none) (h' ++ s) := fun r e => by rw [e]; rfl
    rcases hc with rfl | rfl | rfl
    · exact e5 _ e2
    · exact e5 _ e2
    · exact e5 _ e2
  rw [z_run e3]
  exact fin_dropp rfl
end K00
end
section
set_option linter.all false
set_option maxRecDepth 100000
set_option maxHeartbeats 4000000
set_option autoImplicit false
namespace K00
open Mp
/-! columns_of -/
def restC : S := match b_columns_of with
  | .seq _ r => r
  | _ => .nil
def isV (d : D) : R (Fl × Env) → Bool
  | .ok (.rt d', _) _ => D.same d' d
  | _ => false
theorem isV_eq {d : D} {r : R (Fl × Env)} (e : isV d r = true) : ∃ env' h', r = .ok (.rt d, env') h' := by
  unfold isV at e
  split at e
  · exact ⟨_, _, by rw [same_eq _ _ e]⟩
  · cases e
def isX (c : Nat) : R (Fl × Env) → Bool
  | .ex c' [] _ => Nat.beq c' c
  | _ => false
theorem isX_eq {c : Nat} {r : R (Fl × Env)} (e : isX c r = true) : ∃ h', r = .ex c [] h' := by
  unfold isX at e
  split at e
  · exact ⟨_, by rw [Nat.eq_of_beq_eq_true e]⟩
  · cases e
def badN (t : List Tb) : List D := [.str [122, 122], .non, .int 0, .tup [], match t with
  | p :: _ => tD p
  | [] => .non]
theorem badN_pure : ∀ t, ∀ w ∈ badN t, w.pure = true ∧ isReg w = true := by
  intro t w hw
  cases t with
  | nil =>
    simp only [badN, List.mem_cons, List.not_mem_nil, or_false] at hw
    rcases hw with rfl | rfl | rfl | rfl | rfl <;> exact ⟨rfl, rfl⟩
  | cons p t =>
    simp only [badN, List.mem_cons, List.not_mem_nil, or_false] at hw
    rcases hw with rfl | rfl | rfl | rfl | rfl
    · exact ⟨rfl, rfl⟩
    · exact ⟨rfl, rfl⟩
    · exact ⟨rfl, rfl⟩
    · exact ⟨rfl, rfl⟩
    · exact ⟨pure_tD p, rfl⟩
theorem col_all (k : Nat) (R : D) : (T3.all fun t => (t.all fun p => isV (.tup (p.2.map D.str)) (ex (callF P 100 (k + 7)) 100 restC (start 4 [.tup [.tup (t.map tD), R], .str p.1]) [])) && (badN t).all fun w => isX 3 (ex (callF P 100 (k + 7)) 100 restC (start 4 [.tup [.tup (t.map tD), R], w]) [])) = true := by kernel_rfl
theorem col_ok (k : Nat) {t : List Tb} (ht : t ∈ T3) (rs : List Rl) (hr : ∀ r ∈ rs, r ∈ rules t) (hl : rs.length ≤ 7) (p : Tb) (hp : p ∈ t) (h : Hd) : callF P 100 (k + 8) 17 [schD t rs, .str p.1] h = .ok (.tup (p.2.map D.str)) h := by
  have hd : (D.tup (p.2.map D.str)).pure = true := by simp only [D.pure, pures_strs]
  refine callF_pu p_columns_of rfl (by simp only [D.pures, pure_S, D.pure, Bool.and_self]) ?_ hd
  have a := ask_true k ht rs hr hl []
  have c := List.all_eq_true.mp (col_all k (.tup (rs.map rD))) t ht
  rw [Bool.and_eq_true] at c
  obtain ⟨env', h', e⟩ := isV_eq (List.all_eq_true.mp c.1 p hp)
  have e1 : ex (callF P 100 (k + 7)) 100 b_columns_of (start 4 [schD t rs, .str p.1]) [] = .ok (.rt (.tup (p.2.map D.str)), env') ([] ++ h') := z_seq (z_exs (z_calE (ds := [schD t rs]) (h1 := []) (z_cons (d := schD t rs) (h1 := []) (z_var rfl) z_enil) a)) e
  rw [z_run e1]
  exact fin_dropp hd
theorem callF_px {P : List Fn} {w k f : Nat} {ds : List D} {h h1 : Hd} {fn : Fn} {c : Nat} (e : P[f]? = some fn) (l : ds.length = fn.ps) (i : D.pures ds = true) (r : ex (callF P w k) w fn.body (start fn.ns ds) [] = .ex c [] h1) : callF P w (k + 1) f ds h = .ex c [] h := by
  simp only [callF, e, l, i, runB, r, z_bind_ex, D.pures]
  simp
theorem col_bad (k : Nat) {t : List Tb} (ht : t ∈ T3) (rs : List Rl) (hr : ∀ r ∈ rs, r ∈ rules t) (hl : rs.length ≤ 7) (w : D) (hw : w ∈ badN t) (h : Hd) : callF P 100 (k + 8) 17 [schD t rs, w] h = .ex 3 [] h := by
  have a := ask_true k ht rs hr hl []
  have c := List.all_eq_true.mp (col_all k (.tup (rs.map rD))) t ht
  rw [Bool.and_eq_true] at c
  obtain ⟨h', e⟩ := isX_eq (List.all_eq_true.mp c.2 w hw)
  refine callF_px p_columns_of rfl (by simp only [D.pures, pure_S, (badN_pure t w hw).1, Bool.and_self]) (h1 := h') ?_
  exact z_seq (z_exs (z_calE (ds := [schD t rs]) (h1 := []) (z_cons (d := schD t rs) (h1 := []) (z_var rfl) z_enil) a)) e
/-! with_rules of what is no tuple -/
theorem with_none (k : Nat) {t : List Tb} (ht : t ∈ T3) (rs : List Rl) (hr : ∀ r ∈ rs, r ∈ rules t) (hl : rs.length ≤ 7) (w : D) (h : Hd) (hw : isTy h w .tuple = some false) (hw2 : isTy [] w .tuple = some false ∨ w.pure = false) :
    ∀ h', Okh h (w.pure = true) h' → callF P 100 (k + 8) 18 [schD t rs, w] h' = .ex 1 [] h' := by
  refine callF_okx p_with_rules rfl ?_ ?_
  · intro z
    simp only [D.pures, Bool.and_true, Bool.and_eq_true] at z
    exact z.2
  · intro h' o
    have a := ask_true k ht rs hr hl h'
    have hi : isTy h' w .tuple = some false := by
      rcases o with o | o
      · rw [o]; exact hw
      · rw [o.1]
        rcases hw2 with q | q
        · exact q
        · rw [o.2] at q; cases q
    have st : ex (callF P 100 (k + 7)) 100 b_with_rules (start 4 [schD t rs, w]) h' = .ex 1 [] h' := z_seq (z_exs (z_calE (ds := [schD t rs]) (h1 := h') (z_cons (d := schD t rs) (h1 := h') (z_var rfl) z_enil) a)) (z_seqx (z_ift (z_evT (z_or1 (z_notE (z_isiE (z_var rfl) hi) rfl) rfl) rfl) (z_seqx z_rse0)))
    simp only [runB, st, z_bind_ex]
/-! what is no schema -/
theorem ask_false (k : Nat) (s : D) (h : Hd) (hs : ∀ h', Okh h (s.pure = true) h' → reg h' s = (s, h') ∧ callF P 100 (k + 6) 14 [s] h' = .ok (.bl false) h') : ∀ h', Okh h (s.pure = true) h' → callF P 100 (k + 7) 15 [s] h' = .ex 2 [] h' := by
  refine callF_okx p_ask_schema rfl (fun z => by simpa only [D.pures, Bool.and_true] using z) ?_
  intro h' o
  obtain ⟨g1, g2⟩ := hs h' o
  have c : evs (callF P 100 (k + 6)) (.cons (.var 0) .nil) [some s] h' = .ok [s] h' := by
    have := z_cons (F := callF P 100 (k + 6)) (e := .var 0) (es := .nil) (env := [some s]) (h := h') (d := s) (h1 := h') (ds := []) (h2 := h') (z_var rfl) (by rw [g1]; exact z_enil)
    rw [g1] at this; exact this
  have st : ex (callF P 100 (k + 6)) 100 b_ask_schema (start 1 [s]) h' = .ex 2 [] h' := z_seqx (z_ift (z_evT (z_notE (z_calE c g2) rfl) rfl) (z_seqx z_rse0))
  simp only [runB, st, z_bind_ex]
theorem ask_call (F : Nat → List D → Hd → R D) (s a : D) (n : Nat) (r : S) (h : Hd) (g1 : reg h s = (s, h)) (e : F 15 [s] h = .ex 2 [] h) : ex F 100 (.seq (.ex (.cal 15 (.cons (.var 0) .nil))) r) (start n [s, a]) h = .ex 2 [] h := by
  refine z_seqx ?_
  have g : (start n [s, a])[0]? = some (some s) := rfl
  simp only [ex, ev, evs, g, z_bind_ok, g1, e, z_bind_ex]
theorem three_false (k f : Nat) (hf : f = 16 ∨ f = 17 ∨ f = 18) (s a : D) (h : Hd) (hs : ∀ h', Okh h (s.pure = true) h' → reg h' s = (s, h') ∧ callF P 100 (k + 6) 14 [s] h' = .ok (.bl false) h') : ∀ h', Okh h (s.pure = true) h' → callF P 100 (k + 8) f [s, a] h' = .ex 2 [] h' := by
  have q := ask_false k s h hs
  have hp : D.pures [s, a] = true → s.pure = true := fun z => by simp only [D.pures, Bool.and_eq_true] at z; exact z.1
  have run : ∀ (fn : Fn) (r : S), fn.body = .seq (.ex (.cal 15 (.cons (.var 0) .nil))) r → ∀ h', Okh h (s.pure = true) h' → runB (callF P 100 (k + 7)) 100 fn [s, a] h' = .ex 2 [] h' := by
    intro fn r e h' o
    unfold runB
    rw [e, ask_call _ s a fn.ns r h' (hs h' o).1 (q h' o)]
    rfl
  rcases hf with rfl | rfl | rfl
  · exact callF_okx p_is_rule rfl hp (run _ _ rfl)
  · exact callF_okx p_columns_of rfl hp (run _ _ rfl)
  · exact callF_okx p_with_rules rfl hp (run _ _ rfl)
theorem kind_false (k f : Nat) (hf : f = 16 ∨ f = 17 ∨ f = 18) (s a : D) (h : Hd) (ha : isReg a = true) (hs : ∀ h', Okh h (s.pure = true) h' → reg h' s = (s, h') ∧ callF P 100 (k + 6) 14 [s] h' = .ok (.bl false) h') : ∀ h', Okh h (s.pure = true) h' → callF P 100 (k + 9) 29 [.str (kf f), s, a] h' = .ok (.tl [.str sSch]) h' := by
  have q := three_false k f hf s a h hs
  exact kind_ex (k + 8) f 2 hf (.inr (.inl rfl)) s a h (s.pure = true) (fun z => by simp only [D.pures, Bool.and_eq_true] at z; exact z.1) (fun h' o => ⟨(hs h' o).1, isReg_eq ha h', q h' o⟩)
/-! the wrong tables -/
theorem w0_all (k : Nat) : (W0.all fun w => isReg w && (!w.pure || isF (callF P 100 (k + 6) 14 [.tup [w, .tup []]] []))) = true := by kernel_rfl
theorem w0_imp (k : Nat) (X : List D) : (W0.map fun w => callF P 100 (k + 6) 14 [.tup [w, .tup []]] (.lst X :: J0)) = W0.map fun _ => .ok (.bl false) (.lst X :: J0) := by kernel_rfl
theorem w0_bad (k : Nat) (X : List D) {w : D} (hw : w ∈ W0) : ∀ h', Okh (.lst X :: J0) ((D.tup [w, .tup []]).pure = true) h' → reg h' (.tup [w, .tup []]) = (.tup [w, .tup []], h') ∧ callF P 100 (k + 6) 14 [.tup [w, .tup []]] h' = .ok (.bl false) h' := by
  intro h' o
  refine ⟨rfl, ?_⟩
  rcases o with o | o
  · subst o
    exact List.map_inj_left.mp (w0_imp k X) w hw
  · rw [o.1]
    have := List.all_eq_true.mp (w0_all k) w hw
    simp only [Bool.and_eq_true] at this
    have p : w.pure = true := by
      have := o.2
      simp only [D.pure, D.pures, Bool.and_true] at this
      exact this
    have q := this.2
    simp only [p, Bool.not_true, Bool.false_or] at q
    exact isF_eq q
/-! the third lot -/
def Z3 (n : Nat) (t : List Tb) : List D := [.non, .tup [], .tup [.tup (t.map tD)], .tup [.tup (t.map tD), .ref n], .ref (n + 1), .tup [.tup (t.map tD), .tup [], .tup []], .tup [.tup (t.map tD), .non], .int 5, .str [115]]
def H3 (X Y : List D) (t : List Tb) : Hd := (Ob.lst X :: J1 t) ++ [.lst Y, .lst [.tup (t.map tD), .tup []]]
def n3 (t : List Tb) : Nat := (J1 t).length + 1
theorem z3_all (k : Nat) : (T3.all fun t => (Z3 (n3 t) t).all fun w => isReg w && (!w.pure || isF (callF P 100 (k + 6) 14 [w] []))) = true := by kernel_rfl
theorem z3_imp (k : Nat) (X Y : List D) : (T3.map fun t => (Z3 (n3 t) t).map fun w => callF P 100 (k + 6) 14 [w] (H3 X Y t)) = T3.map fun t => (Z3 (n3 t) t).map fun w => .ok (.bl false) (H3 X Y t) := by kernel_rfl
theorem z3_bad (k : Nat) (X Y : List D) {t : List Tb} (ht : t ∈ T3) {w : D} (hw : w ∈ Z3 (n3 t) t) : ∀ h', Okh (H3 X Y t) (w.pure = true) h' → reg h' w = (w, h') ∧ callF P 100 (k + 6) 14 [w] h' = .ok (.bl false) h' := by
  intro h' o
  have := List.all_eq_true.mp (List.all_eq_true.mp (z3_all k) t ht) w hw
  simp only [Bool.and_eq_true] at this
  refine ⟨isReg_eq this.1 h', ?_⟩
  rcases o with o | o
  · subst o
    exact List.map_inj_left.mp (List.map_inj_left.mp (z3_imp k X Y) t ht) w hw
  · rw [o.1]
    have q := this.2
    simp only [o.2, Bool.not_true, Bool.false_or] at q
    exact isF_eq q
end K00
end
section
set_option linter.all false
set_option maxRecDepth 100000
set_option maxHeartbeats 4000000
set_option autoImplicit false
namespace K00
open Mp
@[irreducible] def great : D := match callF P 100 1 26 [] [] with
  | .ok d _ => d
  | _ => .non
def GT : List D := match great with
  | .tup [.tup a, _] => a
  | _ => []
def GR : List D := match great with
  | .tup [_, .tup b] => b
  | _ => []
def gD : D := .tup [.tup GT, .tup GR]
theorem gD_pure : gD.pure = true := by kernel_rfl
theorem great_ok (k : Nat) (h : Hd) : callF P 100 (k + 1) 26 [] h = .ok gD h := callF_at rfl gD_pure (by kernel_rfl) h
def bodyRt : S := match b_law with
  | .seq _ (.seq _ (.seq _ (.seq (.for _ _ b) _))) => b
  | _ => .nil
def lastOf (xs : List D) : Option D := xs.getLast?
theorem great_run (a0 a1 a2 a3 e5 e6 a7 : Option D) (X : List D) : ex (callF P 100 19) 100 bodyRt [a0, a1, a2, a3, some gD, e5, e6, a7] [.lst X] = .ok (.nx, [a0, a1, a2, a3, some gD, lastOf GR, lastOf GT, a7]) [.lst X] := by kernel_rfl
def GR1 : List D := cut GR none (some 1)
theorem great_with : callF P 100 19 29 [.str [119, 105, 116, 104], gD, .tup GR1] [] = .ok (.tl [.str [114, 117, 108, 101]]) [] := by kernel_rfl
theorem great_more : callF P 100 19 14 [.tup [.tup GT, .tup (GR ++ GR1)]] [] = .ok (.bl false) [] := by kernel_rfl
theorem great_len : Nat.ble (GR ++ GR1).length lim = true := by kernel_rfl
theorem none_with : callF P 100 19 29 [.str [119, 105, 116, 104], .non, .non] [] = .ok (.tl [.str [115, 99, 104, 101, 109, 97]]) [] := by kernel_rfl
theorem GR1_pure : D.pures [.str [119, 105, 116, 104], gD, .tup GR1] = true := by kernel_rfl
theorem GR2_pure : D.pures [.tup [.tup GT, .tup (GR ++ GR1)]] = true := by kernel_rfl
end K00
end
section
set_option linter.all false
set_option maxRecDepth 100000
set_option maxHeartbeats 4000000
set_option autoImplicit false
namespace K00
open Mp
def isImp : R D → Bool
  | .ok _ (_ :: _) => true
  | _ => false
theorem callF_pi {P : List Fn} {w k f : Nat} {ds : List D} {h : Hd} {fn : Fn} {q : R D} (e : P[f]? = some fn) (l : ds.length = fn.ps) (i : D.pures ds = true) (r0 : isImp (runB (callF P w k) w fn ds []) = true) (r : runB (callF P w k) w fn ds h = q) : callF P w (k + 1) f ds h = q := by
  simp only [callF, e, l, i]
  cases z : runB (callF P w k) w fn ds [] with
  | no => rw [z] at r0; cases r0
  | ex c fs h1 => rw [z] at r0; cases r0
  | ok d h1 =>
    cases h1 with
    | nil => rw [z] at r0; cases r0
    | cons o s => simpa using r
theorem fin_imp {h0 h : Hd} {n : Nat} {xs : List D} (e : h[n]? = some (.lst xs)) (i : D.pures xs = false) (l : h0.length ≤ n) : fin h0 (.ref n) h = .ok (.ref n) h := by
  unfold fin
  have e3 : Nat.blt n h0.length = false := by
    cases z : Nat.blt n h0.length with
    | false => rfl
    | true =>
      have := Nat.le_of_ble_eq_true z
      omega
  split
  · rfl
  · split
    · simp only [e3, e, i, Bool.false_eq_true, if_false]
    · rfl
theorem imp0 : isImp (runB (callF P 100 18) 100 ⟨0, 2, b__law_wrong_tables⟩ [] []) = true := by kernel_rfl
theorem imp1 : (T3.all fun t => isImp (runB (callF P 100 18) 100 ⟨1, 6, b__law_wrong_rules⟩ [.tup (t.map tD)] [])) = true := by kernel_rfl
theorem fin_imp1 {X xs : List D} {J : Hd} {n : Nat} (e : (Ob.lst X :: J)[n]? = some (.lst xs)) (i : D.pures xs = false) (l : 1 ≤ n) : fin [.lst X] (.ref n) (.lst X :: J) = .ok (.ref n) (.lst X :: J) := fin_imp e i l
theorem run0_le : 1 ≤ rRef run0 := Nat.le_of_ble_eq_true run0_pos
theorem wt_run (F : Nat → List D → Hd → R D) (X : List D) : runB F 100 ⟨0, 2, b__law_wrong_tables⟩ [] [.lst X] = fin [.lst X] (.ref (rRef run0)) (.lst X :: J0) := z_run (fn := ⟨0, 2, b__law_wrong_tables⟩) (run0_ok F X)
theorem wt_call (X : List D) : callF P 100 19 27 [] [.lst X] = .ok (.ref (rRef run0)) (.lst X :: J0) :=
  callF_pi p__law_wrong_tables rfl rfl imp0 ((wt_run _ X).trans (fin_imp1 (run0_at X) run0_im run0_le))
theorem fin_imp2 {h0 : Hd} {X xs : List D} {J : Hd} {n m : Nat} (e : (Ob.lst X :: J)[n]? = some (.lst xs)) (i : D.pures xs = false) (l : m + 1 ≤ n) (hm : h0.length = m) : fin (.lst X :: h0) (.ref n) (.lst X :: J) = .ok (.ref n) (.lst X :: J) := fin_imp e i (by simp only [List.length_cons, hm]; exact l)
theorem run1_len {t : List Tb} (ht : t ∈ T3) : J0.length + 1 ≤ rRef (run1 t) ∧ D.pures (W1 t) = false := by
  have c := List.all_eq_true.mp run1_pos t ht
  rw [Bool.and_eq_true, Bool.not_eq_true'] at c
  exact ⟨Nat.le_of_ble_eq_true c.1, c.2⟩
theorem wr_run (F : Nat → List D → Hd → R D) (X : List D) {t : List Tb} (ht : t ∈ T3) : runB F 100 ⟨1, 6, b__law_wrong_rules⟩ [.tup (t.map tD)] (.lst X :: J0) = fin (.lst X :: J0) (.ref (rRef (run1 t))) (.lst X :: J1 t) :=
  z_run (fn := ⟨1, 6, b__law_wrong_rules⟩) (List.map_inj_left.mp (run1_all F X) t ht)
theorem wr_at (X : List D) {t : List Tb} (ht : t ∈ T3) : (Ob.lst X :: J1 t)[rRef (run1 t)]? = some (.lst (W1 t)) := List.map_inj_left.mp (run1_at X) t ht
theorem wr_call (X : List D) {t : List Tb} (ht : t ∈ T3) : callF P 100 19 28 [.tup (t.map tD)] (.lst X :: J0) = .ok (.ref (rRef (run1 t))) (.lst X :: J1 t) :=
  callF_pi p__law_wrong_rules rfl (by simp only [D.pures, pure_T, Bool.and_self]) (List.all_eq_true.mp imp1 t ht) ((wr_run _ X ht).trans (fin_imp2 (wr_at X ht) (run1_len ht).2 (run1_len ht).1 rfl))
theorem forL_cons {t : Tg} {body : Env → Hd → R (Fl × Env)} {gs : Gs} {x : D} {xs : List D} {env env1 env2 : Env} {h h2 : Hd} {q : R (Fl × Env)} (g : gOk h gs = true) (e1 : asgT t x env = some env1) (e2 : body env1 h = .ok (.nx, env2) h2) (e3 : forL t body gs xs env2 h2 = q) : forL t body gs (x :: xs) env h = q := by
  simp only [forL, g, if_true, e1, e2, z_bind_ok]
  exact e3
theorem forL_end {t : Tg} {body : Env → Hd → R (Fl × Env)} {gs : Gs} {env : Env} {h : Hd} (g : gOk h gs = true) : forL t body gs [] env h = .ok (.nx, env) h := by
  simp only [forL, g, if_true]
/-- a loop that keeps the heap, and of the names its own alone changes -/
theorem forL_each {t : Tg} {body : Env → Hd → R (Fl × Env)} {gs : Gs} {h : Hd} (E : Option D → Env) (g : gOk h gs = true) (asg : ∀ x e, asgT t x (E e) = some (E (some x))) :
    ∀ (xs : List D) (step : ∀ x ∈ xs, body (E (some x)) h = .ok (.nx, E (some x)) h) (e : Option D), ∃ e', forL t body gs xs (E e) h = .ok (.nx, E e') h
  | [], _, e => ⟨e, forL_end g⟩
  | x :: xs, step, e => by
    obtain ⟨e', f⟩ := forL_each E g asg xs (fun y hy => step y (List.mem_cons_of_mem _ hy)) (some x)
    exact ⟨e', forL_cons g (asg x e) (step x List.mem_cons_self) f⟩
def okIf (F : Nat → List D → Hd → R D) (c : E) (env : Env) (h : Hd) : Prop := evT F c env h = .ok false h
theorem z_okIf {F : Nat → List D → Hd → R D} {c : E} {a : S} {env : Env} {h : Hd} (e : evT F c env h = .ok false h) : ex F 100 (.seq (.iff c a .nil) .nil) env h = .ok (.nx, env) h := z_seq (z_iff0 e z_nil) z_nil
theorem z_or00 {F : Nat → List D → Hd → R D} {a b : E} {env : Env} {h : Hd} (e1 : ev F a env h = .ok (.bl false) h) (e2 : ev F b env h = .ok (.bl false) h) : evT F (.or a b) env h = .ok false h := z_evT (z_or0 e1 rfl e2) rfl
/-! a right schema -/
section
variable {t : List Tb} (ht : t ∈ T3) (rs : List Rl) (hr : ∀ r ∈ rs, r ∈ rules t) (hl : rs.length ≤ 7) (a0 a1 a2 a3 a7 : Option D) (h : Hd)
include ht hr hl in
theorem right_ok (e5 e6 : Option D) : ∃ e5' e6', ex (callF P 100 19) 100 bodyRt [a0, a1, a2, a3, some (schD t rs), e5, e6, a7] h = .ok (.nx, [a0, a1, a2, a3, some (schD t rs), e5', e6', a7]) h := by
  have c14 : callF P 100 19 14 [schD t rs] h = .ok (.bl true) h := schema_true 13 ht rs hr hl h
  have c18 : callF P 100 19 18 [schD t rs, .tup []] h = .ok (schD t rs) h := by
    have := with_ok 11 ht rs [] (by simpa using hr) (by simpa using hl) h
    rw [List.append_nil] at this
    exact this
  have v4 : ∀ x y, ev (callF P 100 19) (.var 4) [a0, a1, a2, a3, some (schD t rs), x, y, a7] h = .ok (schD t rs) h := fun _ _ => z_var rfl
  have i1 : evT (callF P 100 19) (.or (.cmp .isn (.cal 14 (.cons (.var 4) .nil)) (.bl true)) (.cmp .ne (.cal 18 (.cons (.var 4) (.cons (.tup .nil) .nil))) (.var 4))) [a0, a1, a2, a3, some (schD t rs), e5, e6, a7] h = .ok false h := by
    refine z_or00 (z_cmpE (z_calE (z_cons (v4 _ _) z_enil) c14) (d1 := .bl true) (h2 := h) (by simp only [ev]) rfl) (z_cmpE (z_calE (z_cons (v4 _ _) (z_cons (d := .tup []) (h1 := h) (by simp only [ev, evs, evI, evT, tst, start, int?, List.map_cons, List.map_nil, List.cons_append, List.nil_append, List.replicate, List.set, List.getElem?_cons_succ, List.getElem?_cons_zero, z_bind_ok, z_bind_ex, z_bindN_ok, z_get_some, z_reg_non, z_reg_bl, z_reg_int, z_reg_str, z_reg_tup, z_reg_ref, z_reg_lck, z_reg_tl, z_reg_td, z_truth_non, z_truth_bl, z_truth_int, z_truth_tup, z_truth_tl, z_bif_int, z_bif_intb, z_bif_lent, z_bif_lenl, z_bif_lenk, z_bif_list, z_bif_tup, z_bin_add, z_bin_sub, z_cmp_lt, z_cmp_gt, z_cmp_le, z_cmp_ge, z_cmp_eq, z_cmp_ne, z_cmp_is, z_cmp_isn, z_cmp_inn, z_cmp_nin, z_eq_int, z_eq_str, z_is_bl, z_ix_tup, z_ix_tl, if_true, if_false, Bool.false_eq_true, z_isi_tup, z_isi_str, z_isi_tl, z_lim, z_lim0, z_lim1, z_lim2, z_lim3, z_lim4, z_lim5, Option.map_some, Bool.not_true, Bool.not_false, List.length_cons, List.length_nil, decide_true, decide_false, ne_eq, not_true_eq_false, not_false_eq_true]; rfl) z_enil)) c18) (v4 _ _) ?_)
    rw [z_cmp_ne, eqH_tree (tree_S 16 t rs)]; rfl
  obtain ⟨e5', f1⟩ := forL_each (t := .nm 5) (body := ex (callF P 100 19) 100 (.seq (.iff (.cmp .isn (.cal 16 (.cons (.tup (.cons (.ix (.var 4) (.int 0)) (.cons (.tup .nil) .nil))) (.cons (.var 5) .nil))) (.bl true)) (.seq (.ret (.bl false)) .nil) .nil) .nil)) (gs := []) (h := h)
    (fun e => [a0, a1, a2, a3, some (schD t rs), e, e6, a7]) rfl (fun x e => rfl) (rs.map rD) (fun x hx => by
      obtain ⟨r, hm, rfl⟩ := List.mem_map.mp hx
      have c : callF P 100 19 16 [schD t [], rD r] h = .ok (.bl true) h := is_rule_ok 11 ht r (hr r hm) h
      refine z_okIf (z_evT (b := false) (z_cmpE (z_calE (ds := [schD t [], rD r]) (h1 := h) ?_ c) (d1 := .bl true) (h2 := h) (by simp only [ev]) rfl) rfl)
      simp only [ev, evs, evI, evT, tst, start, int?, List.map_cons, List.map_nil, List.cons_append, List.nil_append, List.replicate, List.set, List.getElem?_cons_succ, List.getElem?_cons_zero, z_bind_ok, z_bind_ex, z_bindN_ok, z_get_some, z_reg_non, z_reg_bl, z_reg_int, z_reg_str, z_reg_tup, z_reg_ref, z_reg_lck, z_reg_tl, z_reg_td, z_truth_non, z_truth_bl, z_truth_int, z_truth_tup, z_truth_tl, z_bif_int, z_bif_intb, z_bif_lent, z_bif_lenl, z_bif_lenk, z_bif_list, z_bif_tup, z_bin_add, z_bin_sub, z_cmp_lt, z_cmp_gt, z_cmp_le, z_cmp_ge, z_cmp_eq, z_cmp_ne, z_cmp_is, z_cmp_isn, z_cmp_inn, z_cmp_nin, z_eq_int, z_eq_str, z_is_bl, z_ix_tup, z_ix_tl, if_true, if_false, Bool.false_eq_true, z_isi_tup, z_isi_str, z_isi_tl, z_lim, z_lim0, z_lim1, z_lim2, z_lim3, z_lim4, z_lim5, Option.map_some, Bool.not_true, Bool.not_false, List.length_cons, List.length_nil, decide_true, decide_false, ne_eq, not_true_eq_false, not_false_eq_true, schD, z_at0, reg_w]) e5
  obtain ⟨e6', f2⟩ := forL_each (t := .nm 6) (body := ex (callF P 100 19) 100 (.seq (.iff (.cmp .ne (.cal 17 (.cons (.var 4) (.cons (.ix (.var 6) (.int 0)) .nil))) (.ix (.var 6) (.int 1))) (.seq (.ret (.bl false)) .nil) .nil) .nil)) (gs := []) (h := h)
    (fun e => [a0, a1, a2, a3, some (schD t rs), e5', e, a7]) rfl (fun x e => rfl) (t.map tD) (fun x hx => by
      obtain ⟨p, hm, rfl⟩ := List.mem_map.mp hx
      have c : callF P 100 19 17 [schD t rs, .str p.1] h = .ok (.tup (p.2.map D.str)) h := col_ok 11 ht rs hr hl p hm h
      refine z_okIf (z_evT (b := false) (z_cmpE (z_calE (ds := [schD t rs, .str p.1]) (h1 := h) ?_ c) (d1 := .tup (p.2.map D.str)) (h2 := h) ?_ ?_) rfl)
      · simp only [ev, evs, evI, evT, tst, start, int?, List.map_cons, List.map_nil, List.cons_append, List.nil_append, List.replicate, List.set, List.getElem?_cons_succ, List.getElem?_cons_zero, z_bind_ok, z_bind_ex, z_bindN_ok, z_get_some, z_reg_non, z_reg_bl, z_reg_int, z_reg_str, z_reg_tup, z_reg_ref, z_reg_lck, z_reg_tl, z_reg_td, z_truth_non, z_truth_bl, z_truth_int, z_truth_tup, z_truth_tl, z_bif_int, z_bif_intb, z_bif_lent, z_bif_lenl, z_bif_lenk, z_bif_list, z_bif_tup, z_bin_add, z_bin_sub, z_cmp_lt, z_cmp_gt, z_cmp_le, z_cmp_ge, z_cmp_eq, z_cmp_ne, z_cmp_is, z_cmp_isn, z_cmp_inn, z_cmp_nin, z_eq_int, z_eq_str, z_is_bl, z_ix_tup, z_ix_tl, if_true, if_false, Bool.false_eq_true, z_isi_tup, z_isi_str, z_isi_tl, z_lim, z_lim0, z_lim1, z_lim2, z_lim3, z_lim4, z_lim5, Option.map_some, Bool.not_true, Bool.not_false, List.length_cons, List.length_nil, decide_true, decide_false, ne_eq, not_true_eq_false, not_false_eq_true, schD, tD, z_at0]
      · simp only [ev, evs, evI, evT, tst, start, int?, List.map_cons, List.map_nil, List.cons_append, List.nil_append, List.replicate, List.set, List.getElem?_cons_succ, List.getElem?_cons_zero, z_bind_ok, z_bind_ex, z_bindN_ok, z_get_some, z_reg_non, z_reg_bl, z_reg_int, z_reg_str, z_reg_tup, z_reg_ref, z_reg_lck, z_reg_tl, z_reg_td, z_truth_non, z_truth_bl, z_truth_int, z_truth_tup, z_truth_tl, z_bif_int, z_bif_intb, z_bif_lent, z_bif_lenl, z_bif_lenk, z_bif_list, z_bif_tup, z_bin_add, z_bin_sub, z_cmp_lt, z_cmp_gt, z_cmp_le, z_cmp_ge, z_cmp_eq, z_cmp_ne, z_cmp_is, z_cmp_isn, z_cmp_inn, z_cmp_nin, z_eq_int, z_eq_str, z_is_bl, z_ix_tup, z_ix_tl, if_true, if_false, Bool.false_eq_true, z_isi_tup, z_isi_str, z_isi_tl, z_lim, z_lim0, z_lim1, z_lim2, z_lim3, z_lim4, z_lim5, Option.map_some, Bool.not_true, Bool.not_false, List.length_cons, List.length_nil, decide_true, decide_false, ne_eq, not_true_eq_false, not_false_eq_true, tD, z_at1]
      · rw [z_cmp_ne, eqH_tree (tree_strs 19 p.2)]; rfl) e6
  refine ⟨e5', e6', z_seq (z_iff0 i1 z_nil) (z_seq (z_for (xs := rs.map rD) (gs := []) (h1 := h) (z_itE (d := .tup (rs.map rD)) (h1 := h) ?_ rfl) f1) (z_seq (z_for (xs := t.map tD) (gs := []) (h1 := h) (z_itE (d := .tup (t.map tD)) (h1 := h) ?_ rfl) f2) z_nil))⟩
  · simp only [ev, evs, evI, evT, tst, start, int?, List.map_cons, List.map_nil, List.cons_append, List.nil_append, List.replicate, List.set, List.getElem?_cons_succ, List.getElem?_cons_zero, z_bind_ok, z_bind_ex, z_bindN_ok, z_get_some, z_reg_non, z_reg_bl, z_reg_int, z_reg_str, z_reg_tup, z_reg_ref, z_reg_lck, z_reg_tl, z_reg_td, z_truth_non, z_truth_bl, z_truth_int, z_truth_tup, z_truth_tl, z_bif_int, z_bif_intb, z_bif_lent, z_bif_lenl, z_bif_lenk, z_bif_list, z_bif_tup, z_bin_add, z_bin_sub, z_cmp_lt, z_cmp_gt, z_cmp_le, z_cmp_ge, z_cmp_eq, z_cmp_ne, z_cmp_is, z_cmp_isn, z_cmp_inn, z_cmp_nin, z_eq_int, z_eq_str, z_is_bl, z_ix_tup, z_ix_tl, if_true, if_false, Bool.false_eq_true, z_isi_tup, z_isi_str, z_isi_tl, z_lim, z_lim0, z_lim1, z_lim2, z_lim3, z_lim4, z_lim5, Option.map_some, Bool.not_true, Bool.not_false, List.length_cons, List.length_nil, decide_true, decide_false, ne_eq, not_true_eq_false, not_false_eq_true, schD, z_at1]
  · simp only [ev, evs, evI, evT, tst, start, int?, List.map_cons, List.map_nil, List.cons_append, List.nil_append, List.replicate, List.set, List.getElem?_cons_succ, List.getElem?_cons_zero, z_bind_ok, z_bind_ex, z_bindN_ok, z_get_some, z_reg_non, z_reg_bl, z_reg_int, z_reg_str, z_reg_tup, z_reg_ref, z_reg_lck, z_reg_tl, z_reg_td, z_truth_non, z_truth_bl, z_truth_int, z_truth_tup, z_truth_tl, z_bif_int, z_bif_intb, z_bif_lent, z_bif_lenl, z_bif_lenk, z_bif_list, z_bif_tup, z_bin_add, z_bin_sub, z_cmp_lt, z_cmp_gt, z_cmp_le, z_cmp_ge, z_cmp_eq, z_cmp_ne, z_cmp_is, z_cmp_isn, z_cmp_inn, z_cmp_nin, z_eq_int, z_eq_str, z_is_bl, z_ix_tup, z_ix_tl, if_true, if_false, Bool.false_eq_true, z_isi_tup, z_isi_str, z_isi_tl, z_lim, z_lim0, z_lim1, z_lim2, z_lim3, z_lim4, z_lim5, Option.map_some, Bool.not_true, Bool.not_false, List.length_cons, List.length_nil, decide_true, decide_false, ne_eq, not_true_eq_false, not_false_eq_true, schD, z_at0]
end
end K00
end
section
set_option linter.all false
set_option maxRecDepth 100000
set_option maxHeartbeats 4000000
set_option autoImplicit false
namespace K00
open Mp
theorem it_ref {h : Hd} {n : Nat} {xs : List D} (e : h[n]? = some (.lst xs)) : itOf h (.ref n) = some (xs, [(n, xs)]) := by
  simp only [itOf, seqOf, e, gOf]
theorem gOk1 {h : Hd} {n : Nat} {xs : List D} (e : h[n]? = some (.lst xs)) : gOk h [(n, xs)] = true := by
  simp only [gOk, e, sames_refl, Bool.and_self]
theorem T3_ne : (T3.all fun t => !t.isEmpty) = true := by kernel_rfl
def eRule : E := .lst (.cons (.str [114, 117, 108, 101]) .nil)
def eSch : E := .lst (.cons (.str [115, 99, 104, 101, 109, 97]) .nil)
def eTab : E := .lst (.cons (.str [116, 97, 98, 108, 101]) .nil)
section
variable (sc : Option D) {t : List Tb} (ht : t ∈ T3) (rs : List Rl) (hr : ∀ r ∈ rs, r ∈ rules t) (hl : rs.length ≤ 7) (X : List D)
def LE (sc : Option D) (S : D) (e4 e5 e6 e7 : Option D) : Env := [sc, some (.ref 0), some S, some gD, e4, e5, e6, e7]
abbrev FF : Nat → List D → Hd → R D := callF P 100 19
theorem ev_lst1 (F : Nat → List D → Hd → R D) (s : List Nat) (env : Env) (h : Hd) : ev F (.lst (.cons (.str s) .nil)) env h = .ok (.tl [.str s]) h := by simp only [ev, evs, evI, evT, tst, start, int?, List.map_cons, List.map_nil, List.cons_append, List.nil_append, List.replicate, List.set, List.getElem?_cons_succ, List.getElem?_cons_zero, z_bind_ok, z_bind_ex, z_bindN_ok, z_get_some, z_reg_non, z_reg_bl, z_reg_int, z_reg_str, z_reg_tup, z_reg_ref, z_reg_lck, z_reg_tl, z_reg_td, z_truth_non, z_truth_bl, z_truth_int, z_truth_tup, z_truth_tl, z_bif_int, z_bif_intb, z_bif_lent, z_bif_lenl, z_bif_lenk, z_bif_list, z_bif_tup, z_bin_add, z_bin_sub, z_cmp_lt, z_cmp_gt, z_cmp_le, z_cmp_ge, z_cmp_eq, z_cmp_ne, z_cmp_is, z_cmp_isn, z_cmp_inn, z_cmp_nin, z_eq_int, z_eq_str, z_is_bl, z_ix_tup, z_ix_tl, if_true, if_false, Bool.false_eq_true, z_isi_tup, z_isi_str, z_isi_tl, z_lim, z_lim0, z_lim1, z_lim2, z_lim3, z_lim4, z_lim5, Option.map_some, Bool.not_true, Bool.not_false, List.length_cons, List.length_nil, decide_true, decide_false, ne_eq, not_true_eq_false, not_false_eq_true]
theorem ev_str (F : Nat → List D → Hd → R D) (s : List Nat) (env : Env) (h : Hd) : ev F (.str s) env h = .ok (.str s) h := by simp only [ev]
theorem ev_non (F : Nat → List D → Hd → R D) (env : Env) (h : Hd) : ev F .non env h = .ok .non h := by simp only [ev]
theorem ev_bl (F : Nat → List D → Hd → R D) (b : Bool) (env : Env) (h : Hd) : ev F (.bl b) env h = .ok (.bl b) h := by simp only [ev]
theorem ev_int (F : Nat → List D → Hd → R D) (i : Int) (env : Env) (h : Hd) : ev F (.int i) env h = .ok (.int i) h := by simp only [ev]
theorem ev_tn (F : Nat → List D → Hd → R D) (env : Env) (h : Hd) : ev F (.tup .nil) env h = .ok (.tup []) h := by simp only [ev, evs, evI, evT, tst, start, int?, List.map_cons, List.map_nil, List.cons_append, List.nil_append, List.replicate, List.set, List.getElem?_cons_succ, List.getElem?_cons_zero, z_bind_ok, z_bind_ex, z_bindN_ok, z_get_some, z_reg_non, z_reg_bl, z_reg_int, z_reg_str, z_reg_tup, z_reg_ref, z_reg_lck, z_reg_tl, z_reg_td, z_truth_non, z_truth_bl, z_truth_int, z_truth_tup, z_truth_tl, z_bif_int, z_bif_intb, z_bif_lent, z_bif_lenl, z_bif_lenk, z_bif_list, z_bif_tup, z_bin_add, z_bin_sub, z_cmp_lt, z_cmp_gt, z_cmp_le, z_cmp_ge, z_cmp_eq, z_cmp_ne, z_cmp_is, z_cmp_isn, z_cmp_inn, z_cmp_nin, z_eq_int, z_eq_str, z_is_bl, z_ix_tup, z_ix_tl, if_true, if_false, Bool.false_eq_true, z_isi_tup, z_isi_str, z_isi_tl, z_lim, z_lim0, z_lim1, z_lim2, z_lim3, z_lim4, z_lim5, Option.map_some, Bool.not_true, Bool.not_false, List.length_cons, List.length_nil, decide_true, decide_false, ne_eq, not_true_eq_false, not_false_eq_true]
/-- a kind that is as it is asked -/
theorem kindE {f : Nat} {es : E} {ds : List D} {env : Env} {h : Hd} {s : List Nat} (e1 : evs FF es env h = .ok ds h) (e2 : callF P 100 19 f ds h = .ok (.tl [.str s]) h) : ev FF (.cmp .ne (.cal f es) (.lst (.cons (.str s) .nil))) env h = .ok (.bl false) h := by
  refine z_cmpE (z_calE e1 e2) (ev_lst1 FF s env h) ?_
  have r : eqH h (.tl [.str s]) (.tl [.str s]) = some (lnat s s && true) := rfl
  rw [z_cmp_ne, r, lnat_refl]; rfl
theorem kindQ {f : Nat} {es : E} {ds : List D} {env : Env} {h h1 : Hd} {s : List Nat} (e1 : evs FF es env h = .ok ds h1) (e2 : callF P 100 19 f ds h1 = .ok (.tl [.str s]) h1) : ev FF (.cmp .eq (.cal f es) (.lst (.cons (.str s) .nil))) env h = .ok (.bl true) h1 := by
  refine z_cmpE (z_calE e1 e2) (ev_lst1 FF s env h1) ?_
  have r : eqH h1 (.tl [.str s]) (.tl [.str s]) = some (lnat s s && true) := rfl
  rw [z_cmp_eq, r, lnat_refl]; rfl
theorem isnE {f : Nat} {es : E} {ds : List D} {env : Env} {h : Hd} {b : Bool} (e1 : evs FF es env h = .ok ds h) (e2 : callF P 100 19 f ds h = .ok (.bl b) h) : ev FF (.cmp .isn (.cal f es) (.bl b)) env h = .ok (.bl false) h := by
  refine z_cmpE (z_calE e1 e2) (ev_bl FF b env h) ?_
  cases b <;> rfl
include ht hr hl in
theorem st4 (e5 e6 : Option D) : ∃ e4 e5' e6', forL (.nm 4) (ex FF 100 bodyRt) [] [schD t rs, gD, schD t []] (LE sc (schD t rs) none e5 e6 none) [.lst X] = .ok (.nx, LE sc (schD t rs) e4 e5' e6' none) [.lst X] := by
  obtain ⟨f5, f6, q1⟩ := right_ok ht rs hr hl sc (some (.ref 0)) (some (schD t rs)) (some gD) none [.lst X] e5 e6
  have q2 := great_run sc (some (.ref 0)) (some (schD t rs)) (some gD) f5 f6 none X
  obtain ⟨g5, g6, q3⟩ := right_ok ht [] (by simp) (by simp) sc (some (.ref 0)) (some (schD t rs)) (some gD) none [.lst X] (lastOf GR) (lastOf GT)
  exact ⟨_, _, _, forL_cons rfl rfl q1 (forL_cons rfl rfl q2 (forL_cons rfl rfl q3 (forL_end rfl)))⟩
theorem st4i (h : Hd) : evI FF (.e (.lst (.cons (.var 2) (.cons (.var 3) (.cons (.tup (.cons (.ix (.var 2) (.int 0)) (.cons (.tup .nil) .nil))) .nil))))) (LE sc (schD t rs) none none none none) h = .ok ([schD t rs, gD, schD t []], []) h := by
  refine z_itE (d := .tl [schD t rs, gD, schD t []]) (h1 := h) (z_lstE (ds := [schD t rs, gD, schD t []]) (z_cons (d := schD t rs) (h1 := h) (z_var rfl) (z_cons (d := gD) (h1 := h) (z_var rfl) (z_cons (d := schD t []) (h1 := h) ?_ z_enil))) (Nat.le_of_ble_eq_true rfl)) rfl
  unfold LE
  simp only [ev, evs, evI, evT, tst, start, int?, List.map_cons, List.map_nil, List.cons_append, List.nil_append, List.replicate, List.set, List.getElem?_cons_succ, List.getElem?_cons_zero, z_bind_ok, z_bind_ex, z_bindN_ok, z_get_some, z_reg_non, z_reg_bl, z_reg_int, z_reg_str, z_reg_tup, z_reg_ref, z_reg_lck, z_reg_tl, z_reg_td, z_truth_non, z_truth_bl, z_truth_int, z_truth_tup, z_truth_tl, z_bif_int, z_bif_intb, z_bif_lent, z_bif_lenl, z_bif_lenk, z_bif_list, z_bif_tup, z_bin_add, z_bin_sub, z_cmp_lt, z_cmp_gt, z_cmp_le, z_cmp_ge, z_cmp_eq, z_cmp_ne, z_cmp_is, z_cmp_isn, z_cmp_inn, z_cmp_nin, z_eq_int, z_eq_str, z_is_bl, z_ix_tup, z_ix_tl, if_true, if_false, Bool.false_eq_true, z_isi_tup, z_isi_str, z_isi_tl, z_lim, z_lim0, z_lim1, z_lim2, z_lim3, z_lim4, z_lim5, Option.map_some, Bool.not_true, Bool.not_false, List.length_cons, List.length_nil, decide_true, decide_false, ne_eq, not_true_eq_false, not_false_eq_true, schD, z_at0, List.map_nil]
  rfl
theorem ev_pair (e4 e5 e6 e7 : Option D) (h : Hd) : ev FF (.tup (.cons (.ix (.var 2) (.int 0)) (.cons (.tup .nil) .nil))) (LE sc (schD t rs) e4 e5 e6 e7) h = .ok (schD t []) h := by
  unfold LE
  simp only [ev, evs, evI, evT, tst, start, int?, List.map_cons, List.map_nil, List.cons_append, List.nil_append, List.replicate, List.set, List.getElem?_cons_succ, List.getElem?_cons_zero, z_bind_ok, z_bind_ex, z_bindN_ok, z_get_some, z_reg_non, z_reg_bl, z_reg_int, z_reg_str, z_reg_tup, z_reg_ref, z_reg_lck, z_reg_tl, z_reg_td, z_truth_non, z_truth_bl, z_truth_int, z_truth_tup, z_truth_tl, z_bif_int, z_bif_intb, z_bif_lent, z_bif_lenl, z_bif_lenk, z_bif_list, z_bif_tup, z_bin_add, z_bin_sub, z_cmp_lt, z_cmp_gt, z_cmp_le, z_cmp_ge, z_cmp_eq, z_cmp_ne, z_cmp_is, z_cmp_isn, z_cmp_inn, z_cmp_nin, z_eq_int, z_eq_str, z_is_bl, z_ix_tup, z_ix_tl, if_true, if_false, Bool.false_eq_true, z_isi_tup, z_isi_str, z_isi_tl, z_lim, z_lim0, z_lim1, z_lim2, z_lim3, z_lim4, z_lim5, Option.map_some, Bool.not_true, Bool.not_false, List.length_cons, List.length_nil, decide_true, decide_false, ne_eq, not_true_eq_false, not_false_eq_true, schD, z_at0, List.map_nil]
theorem ev_rs (e4 e5 e6 e7 : Option D) (h : Hd) : ev FF (.ix (.var 2) (.int 1)) (LE sc (schD t rs) e4 e5 e6 e7) h = .ok (.tup (rs.map rD)) h := by
  unfold LE
  simp only [ev, evs, evI, evT, tst, start, int?, List.map_cons, List.map_nil, List.cons_append, List.nil_append, List.replicate, List.set, List.getElem?_cons_succ, List.getElem?_cons_zero, z_bind_ok, z_bind_ex, z_bindN_ok, z_get_some, z_reg_non, z_reg_bl, z_reg_int, z_reg_str, z_reg_tup, z_reg_ref, z_reg_lck, z_reg_tl, z_reg_td, z_truth_non, z_truth_bl, z_truth_int, z_truth_tup, z_truth_tl, z_bif_int, z_bif_intb, z_bif_lent, z_bif_lenl, z_bif_lenk, z_bif_list, z_bif_tup, z_bin_add, z_bin_sub, z_cmp_lt, z_cmp_gt, z_cmp_le, z_cmp_ge, z_cmp_eq, z_cmp_ne, z_cmp_is, z_cmp_isn, z_cmp_inn, z_cmp_nin, z_eq_int, z_eq_str, z_is_bl, z_ix_tup, z_ix_tl, if_true, if_false, Bool.false_eq_true, z_isi_tup, z_isi_str, z_isi_tl, z_lim, z_lim0, z_lim1, z_lim2, z_lim3, z_lim4, z_lim5, Option.map_some, Bool.not_true, Bool.not_false, List.length_cons, List.length_nil, decide_true, decide_false, ne_eq, not_true_eq_false, not_false_eq_true, schD, z_at1]
theorem ev_T (e4 e5 e6 e7 : Option D) (h : Hd) : ev FF (.ix (.var 2) (.int 0)) (LE sc (schD t rs) e4 e5 e6 e7) h = .ok (.tup (t.map tD)) h := by
  unfold LE
  simp only [ev, evs, evI, evT, tst, start, int?, List.map_cons, List.map_nil, List.cons_append, List.nil_append, List.replicate, List.set, List.getElem?_cons_succ, List.getElem?_cons_zero, z_bind_ok, z_bind_ex, z_bindN_ok, z_get_some, z_reg_non, z_reg_bl, z_reg_int, z_reg_str, z_reg_tup, z_reg_ref, z_reg_lck, z_reg_tl, z_reg_td, z_truth_non, z_truth_bl, z_truth_int, z_truth_tup, z_truth_tl, z_bif_int, z_bif_intb, z_bif_lent, z_bif_lenl, z_bif_lenk, z_bif_list, z_bif_tup, z_bin_add, z_bin_sub, z_cmp_lt, z_cmp_gt, z_cmp_le, z_cmp_ge, z_cmp_eq, z_cmp_ne, z_cmp_is, z_cmp_isn, z_cmp_inn, z_cmp_nin, z_eq_int, z_eq_str, z_is_bl, z_ix_tup, z_ix_tl, if_true, if_false, Bool.false_eq_true, z_isi_tup, z_isi_str, z_isi_tl, z_lim, z_lim0, z_lim1, z_lim2, z_lim3, z_lim4, z_lim5, Option.map_some, Bool.not_true, Bool.not_false, List.length_cons, List.length_nil, decide_true, decide_false, ne_eq, not_true_eq_false, not_false_eq_true, schD, z_at0]
include ht hr hl in
theorem st5 (e4 e5 e6 : Option D) (h : Hd) : evT FF (.or (.cmp .ne (.cal 18 (.cons (.tup (.cons (.ix (.var 2) (.int 0)) (.cons (.tup .nil) .nil))) (.cons (.ix (.var 2) (.int 1)) .nil))) (.var 2)) (.cmp .ne (.cal 29 (.cons (.str [119, 105, 116, 104]) (.cons (.var 3) (.cons (.slH (.ix (.var 3) (.int 1)) (.int 1)) .nil)))) (.lst (.cons (.str [114, 117, 108, 101]) .nil)))) (LE sc (schD t rs) e4 e5 e6 none) h = .ok false h := by
  have c18 : callF P 100 19 18 [schD t [], .tup (rs.map rD)] h = .ok (schD t rs) h := with_ok 11 ht [] rs (by simpa using hr) (by simpa using hl) h
  have cw : callF P 100 19 29 [.str [119, 105, 116, 104], gD, .tup GR1] h = .ok (.tl [.str [114, 117, 108, 101]]) h := callF_at GR1_pure rfl great_with h
  have sl : ev FF (.slH (.ix (.var 3) (.int 1)) (.int 1)) (LE sc (schD t rs) e4 e5 e6 none) h = .ok (.tup GR1) h := by
    unfold LE
    simp only [ev, evs, evI, evT, tst, start, int?, List.map_cons, List.map_nil, List.cons_append, List.nil_append, List.replicate, List.set, List.getElem?_cons_succ, List.getElem?_cons_zero, z_bind_ok, z_bind_ex, z_bindN_ok, z_get_some, z_reg_non, z_reg_bl, z_reg_int, z_reg_str, z_reg_tup, z_reg_ref, z_reg_lck, z_reg_tl, z_reg_td, z_truth_non, z_truth_bl, z_truth_int, z_truth_tup, z_truth_tl, z_bif_int, z_bif_intb, z_bif_lent, z_bif_lenl, z_bif_lenk, z_bif_list, z_bif_tup, z_bin_add, z_bin_sub, z_cmp_lt, z_cmp_gt, z_cmp_le, z_cmp_ge, z_cmp_eq, z_cmp_ne, z_cmp_is, z_cmp_isn, z_cmp_inn, z_cmp_nin, z_eq_int, z_eq_str, z_is_bl, z_ix_tup, z_ix_tl, if_true, if_false, Bool.false_eq_true, z_isi_tup, z_isi_str, z_isi_tl, z_lim, z_lim0, z_lim1, z_lim2, z_lim3, z_lim4, z_lim5, Option.map_some, Bool.not_true, Bool.not_false, List.length_cons, List.length_nil, decide_true, decide_false, ne_eq, not_true_eq_false, not_false_eq_true, gD, z_at1, slcO, GR1]
  refine z_or00 (z_cmpE (z_calE (ds := [schD t [], .tup (rs.map rD)]) (h1 := h) (z_cons (d := schD t []) (h1 := h) (ev_pair sc rs e4 e5 e6 none h) (z_cons (d := .tup (rs.map rD)) (h1 := h) (ev_rs sc rs e4 e5 e6 none h) z_enil)) c18) (d1 := schD t rs) (h2 := h) (z_var rfl) ?_)
    (kindE (ds := [.str [119, 105, 116, 104], gD, .tup GR1]) (z_cons (d := .str [119, 105, 116, 104]) (h1 := h) (ev_str _ _ _ _) (z_cons (d := gD) (h1 := h) (z_var rfl) (z_cons (d := .tup GR1) (h1 := h) sl z_enil))) cw)
  rw [z_cmp_ne, eqH_tree (tree_S 16 t rs)]; rfl
theorem st6 (S : D) (e4 e5 e6 : Option D) : ∃ e7, ex FF 100 (.for (.nm 7) (.e (.cal 27 .nil)) (.seq (.iff (.or (.cmp .isn (.cal 14 (.cons (.tup (.cons (.var 7) (.cons (.tup .nil) .nil))) .nil)) (.bl false)) (.cmp .ne (.cal 29 (.cons (.str [114, 117, 108, 101]) (.cons (.tup (.cons (.var 7) (.cons (.tup .nil) .nil))) (.cons .non .nil)))) (.lst (.cons (.str [115, 99, 104, 101, 109, 97]) .nil)))) (.seq (.ret (.bl false)) .nil) .nil) .nil)) (LE sc S e4 e5 e6 none) [.lst X] = .ok (.nx, LE sc S e4 e5 e6 e7) (.lst X :: J0) := by
  obtain ⟨e7, q⟩ := forL_each (t := .nm 7) (body := ex FF 100 (.seq (.iff (.or (.cmp .isn (.cal 14 (.cons (.tup (.cons (.var 7) (.cons (.tup .nil) .nil))) .nil)) (.bl false)) (.cmp .ne (.cal 29 (.cons (.str [114, 117, 108, 101]) (.cons (.tup (.cons (.var 7) (.cons (.tup .nil) .nil))) (.cons .non .nil)))) (.lst (.cons (.str [115, 99, 104, 101, 109, 97]) .nil)))) (.seq (.ret (.bl false)) .nil) .nil) .nil)) (gs := [(rRef run0, W0)]) (h := .lst X :: J0)
    (LE sc S e4 e5 e6) (gOk1 (run0_at X)) (fun x e => rfl) W0 (fun w hw => by
      have wr := List.all_eq_true.mp (w0_all 0) w hw
      rw [Bool.and_eq_true] at wr
      have g := isReg_eq wr.1
      have c14 : callF P 100 19 14 [.tup [w, .tup []]] (.lst X :: J0) = .ok (.bl false) (.lst X :: J0) := (w0_bad 13 X hw _ (.inl rfl)).2
      have c29 : callF P 100 19 29 [.str [114, 117, 108, 101], .tup [w, .tup []], .non] (.lst X :: J0) = .ok (.tl [.str [115, 99, 104, 101, 109, 97]]) (.lst X :: J0) := kind_false 10 16 (.inl rfl) (.tup [w, .tup []]) .non (.lst X :: J0) rfl (w0_bad 10 X hw) _ (.inl rfl)
      have a : ∀ h, ev FF (.tup (.cons (.var 7) (.cons (.tup .nil) .nil))) (LE sc S e4 e5 e6 (some w)) h = .ok (.tup [w, .tup []]) h := fun h => by
        unfold LE
        simp only [ev, evs, evI, evT, tst, start, int?, List.map_cons, List.map_nil, List.cons_append, List.nil_append, List.replicate, List.set, List.getElem?_cons_succ, List.getElem?_cons_zero, z_bind_ok, z_bind_ex, z_bindN_ok, z_get_some, z_reg_non, z_reg_bl, z_reg_int, z_reg_str, z_reg_tup, z_reg_ref, z_reg_lck, z_reg_tl, z_reg_td, z_truth_non, z_truth_bl, z_truth_int, z_truth_tup, z_truth_tl, z_bif_int, z_bif_intb, z_bif_lent, z_bif_lenl, z_bif_lenk, z_bif_list, z_bif_tup, z_bin_add, z_bin_sub, z_cmp_lt, z_cmp_gt, z_cmp_le, z_cmp_ge, z_cmp_eq, z_cmp_ne, z_cmp_is, z_cmp_isn, z_cmp_inn, z_cmp_nin, z_eq_int, z_eq_str, z_is_bl, z_ix_tup, z_ix_tl, if_true, if_false, Bool.false_eq_true, z_isi_tup, z_isi_str, z_isi_tl, z_lim, z_lim0, z_lim1, z_lim2, z_lim3, z_lim4, z_lim5, Option.map_some, Bool.not_true, Bool.not_false, List.length_cons, List.length_nil, decide_true, decide_false, ne_eq, not_true_eq_false, not_false_eq_true, g]
      exact z_okIf (z_or00 (isnE (ds := [.tup [w, .tup []]]) (z_cons (d := .tup [w, .tup []]) (a _) z_enil) c14) (kindE (ds := [.str [114, 117, 108, 101], .tup [w, .tup []], .non]) (z_cons (d := .str [114, 117, 108, 101]) (ev_str _ _ _ _) (z_cons (d := .tup [w, .tup []]) (a _) (z_cons (d := .non) (ev_non _ _ _) z_enil))) c29))) none
  exact ⟨e7, z_for (xs := W0) (gs := [(rRef run0, W0)]) (h1 := .lst X :: J0) (z_itE (z_calE (ds := []) (h1 := [.lst X]) z_enil (wt_call X)) (it_ref (run0_at X))) q⟩
include ht hr hl in
theorem st7 (e4 e5 e6 e7 : Option D) : ∃ e7', ex FF 100 (.for (.nm 7) (.e (.cal 28 (.cons (.ix (.var 2) (.int 0)) .nil))) (.seq (.iff (.or (.cmp .isn (.cal 16 (.cons (.tup (.cons (.ix (.var 2) (.int 0)) (.cons (.tup .nil) .nil))) (.cons (.var 7) .nil))) (.bl false)) (.cmp .isn (.cal 14 (.cons (.tup (.cons (.ix (.var 2) (.int 0)) (.cons (.bin .add (.ix (.var 2) (.int 1)) (.tup (.cons (.var 7) .nil))) .nil))) .nil)) (.bl false))) (.seq (.ret (.bl false)) .nil) .nil) (.seq (.iff (.cmp .ne (.cal 29 (.cons (.str [119, 105, 116, 104]) (.cons (.var 2) (.cons (.tup (.cons (.var 7) .nil)) .nil)))) (.lst (.cons (.str [114, 117, 108, 101]) .nil))) (.seq (.ret (.bl false)) .nil) .nil) .nil))) (LE sc (schD t rs) e4 e5 e6 e7) (.lst X :: J0) = .ok (.nx, LE sc (schD t rs) e4 e5 e6 e7') (.lst X :: J1 t) := by
  obtain ⟨e7', q⟩ := forL_each (t := .nm 7) (body := ex FF 100 (.seq (.iff (.or (.cmp .isn (.cal 16 (.cons (.tup (.cons (.ix (.var 2) (.int 0)) (.cons (.tup .nil) .nil))) (.cons (.var 7) .nil))) (.bl false)) (.cmp .isn (.cal 14 (.cons (.tup (.cons (.ix (.var 2) (.int 0)) (.cons (.bin .add (.ix (.var 2) (.int 1)) (.tup (.cons (.var 7) .nil))) .nil))) .nil)) (.bl false))) (.seq (.ret (.bl false)) .nil) .nil) (.seq (.iff (.cmp .ne (.cal 29 (.cons (.str [119, 105, 116, 104]) (.cons (.var 2) (.cons (.tup (.cons (.var 7) .nil)) .nil)))) (.lst (.cons (.str [114, 117, 108, 101]) .nil))) (.seq (.ret (.bl false)) .nil) .nil) .nil))) (gs := [(rRef (run1 t), W1 t)]) (h := .lst X :: J1 t)
    (LE sc (schD t rs) e4 e5 e6) (gOk1 (wr_at X ht)) (fun x e => rfl) (W1 t) (fun w hw => by
      have g : ∀ h, reg h w = (w, h) := isReg_eq (by
        have := List.all_eq_true.mp (chkW_of 0 t ht) w hw
        rw [chkW, Bool.and_eq_true] at this
        exact this.1)
      generalize hH : (Ob.lst X :: J1 t : Hd) = H
      have wb : ∀ k, ∀ h', Okh H (w.pure = true) h' → reg h' w = (w, h') ∧ callF P 100 (k + 5) 9 [.tup (t.map tD), w] h' = .ok (.bl false) h' := fun k => by rw [← hH]; exact w1_bad k X ht hw
      have c16 : callF P 100 19 16 [schD t [], w] H = .ok (.bl false) H := is_rule_bad 11 ht w H (wb 13) H (.inl rfl)
      have c14 : callF P 100 19 14 [.tup [.tup (t.map tD), .tup (rs.map rD ++ [w])]] H = .ok (.bl false) H := schema_bad 13 ht rs hr hl w H (wb 13) H (.inl rfl)
      have c29 : callF P 100 19 29 [.str [119, 105, 116, 104], schD t rs, .tup [w]] H = .ok (.tl [.str [114, 117, 108, 101]]) H :=
        kind_ex 18 18 1 (.inr (.inr rfl)) (.inl rfl) (schD t rs) (.tup [w]) H (w.pure = true) (fun z => by simp only [D.pures, D.pure, Bool.and_true, Bool.and_eq_true] at z; exact z.2) (fun h' o => ⟨rfl, rfl, with_bad 10 ht rs hr hl w H (wb 12) h' o⟩) H (.inl rfl)
      have a1 : ev FF (.tup (.cons (.ix (.var 2) (.int 0)) (.cons (.bin .add (.ix (.var 2) (.int 1)) (.tup (.cons (.var 7) .nil))) .nil))) (LE sc (schD t rs) e4 e5 e6 (some w)) H = .ok (.tup [.tup (t.map tD), .tup (rs.map rD ++ [w])]) H := by
        have l : (rs.map rD).length + [w].length ≤ lim := by simp only [List.length_map, List.length_cons, List.length_nil]; unfold lim; omega
        refine z_tupE (ds := [.tup (t.map tD), .tup (rs.map rD ++ [w])]) (z_cons (d := .tup (t.map tD)) (h1 := H) (ev_T sc rs e4 e5 e6 (some w) H) (z_cons (d := .tup (rs.map rD ++ [w])) (h1 := H) (z_binE (d := .tup (rs.map rD)) (d1 := .tup [w]) (h1 := H) (h2 := H) (ev_rs sc rs e4 e5 e6 (some w) H) ?_ (z_bin_addt l)) z_enil)) (Nat.le_of_ble_eq_true rfl)
        unfold LE
        simp only [ev, evs, evI, evT, tst, start, int?, List.map_cons, List.map_nil, List.cons_append, List.nil_append, List.replicate, List.set, List.getElem?_cons_succ, List.getElem?_cons_zero, z_bind_ok, z_bind_ex, z_bindN_ok, z_get_some, z_reg_non, z_reg_bl, z_reg_int, z_reg_str, z_reg_tup, z_reg_ref, z_reg_lck, z_reg_tl, z_reg_td, z_truth_non, z_truth_bl, z_truth_int, z_truth_tup, z_truth_tl, z_bif_int, z_bif_intb, z_bif_lent, z_bif_lenl, z_bif_lenk, z_bif_list, z_bif_tup, z_bin_add, z_bin_sub, z_cmp_lt, z_cmp_gt, z_cmp_le, z_cmp_ge, z_cmp_eq, z_cmp_ne, z_cmp_is, z_cmp_isn, z_cmp_inn, z_cmp_nin, z_eq_int, z_eq_str, z_is_bl, z_ix_tup, z_ix_tl, if_true, if_false, Bool.false_eq_true, z_isi_tup, z_isi_str, z_isi_tl, z_lim, z_lim0, z_lim1, z_lim2, z_lim3, z_lim4, z_lim5, Option.map_some, Bool.not_true, Bool.not_false, List.length_cons, List.length_nil, decide_true, decide_false, ne_eq, not_true_eq_false, not_false_eq_true, g]
      have a2 : ev FF (.tup (.cons (.var 7) .nil)) (LE sc (schD t rs) e4 e5 e6 (some w)) H = .ok (.tup [w]) H := by
        unfold LE
        simp only [ev, evs, evI, evT, tst, start, int?, List.map_cons, List.map_nil, List.cons_append, List.nil_append, List.replicate, List.set, List.getElem?_cons_succ, List.getElem?_cons_zero, z_bind_ok, z_bind_ex, z_bindN_ok, z_get_some, z_reg_non, z_reg_bl, z_reg_int, z_reg_str, z_reg_tup, z_reg_ref, z_reg_lck, z_reg_tl, z_reg_td, z_truth_non, z_truth_bl, z_truth_int, z_truth_tup, z_truth_tl, z_bif_int, z_bif_intb, z_bif_lent, z_bif_lenl, z_bif_lenk, z_bif_list, z_bif_tup, z_bin_add, z_bin_sub, z_cmp_lt, z_cmp_gt, z_cmp_le, z_cmp_ge, z_cmp_eq, z_cmp_ne, z_cmp_is, z_cmp_isn, z_cmp_inn, z_cmp_nin, z_eq_int, z_eq_str, z_is_bl, z_ix_tup, z_ix_tl, if_true, if_false, Bool.false_eq_true, z_isi_tup, z_isi_str, z_isi_tl, z_lim, z_lim0, z_lim1, z_lim2, z_lim3, z_lim4, z_lim5, Option.map_some, Bool.not_true, Bool.not_false, List.length_cons, List.length_nil, decide_true, decide_false, ne_eq, not_true_eq_false, not_false_eq_true, g]
      have a3 : evs FF (.cons (.var 7) .nil) (LE sc (schD t rs) e4 e5 e6 (some w)) H = .ok [w] H := by
        unfold LE
        simp only [ev, evs, evI, evT, tst, start, int?, List.map_cons, List.map_nil, List.cons_append, List.nil_append, List.replicate, List.set, List.getElem?_cons_succ, List.getElem?_cons_zero, z_bind_ok, z_bind_ex, z_bindN_ok, z_get_some, z_reg_non, z_reg_bl, z_reg_int, z_reg_str, z_reg_tup, z_reg_ref, z_reg_lck, z_reg_tl, z_reg_td, z_truth_non, z_truth_bl, z_truth_int, z_truth_tup, z_truth_tl, z_bif_int, z_bif_intb, z_bif_lent, z_bif_lenl, z_bif_lenk, z_bif_list, z_bif_tup, z_bin_add, z_bin_sub, z_cmp_lt, z_cmp_gt, z_cmp_le, z_cmp_ge, z_cmp_eq, z_cmp_ne, z_cmp_is, z_cmp_isn, z_cmp_inn, z_cmp_nin, z_eq_int, z_eq_str, z_is_bl, z_ix_tup, z_ix_tl, if_true, if_false, Bool.false_eq_true, z_isi_tup, z_isi_str, z_isi_tl, z_lim, z_lim0, z_lim1, z_lim2, z_lim3, z_lim4, z_lim5, Option.map_some, Bool.not_true, Bool.not_false, List.length_cons, List.length_nil, decide_true, decide_false, ne_eq, not_true_eq_false, not_false_eq_true, g]
      refine z_seq (z_iff0 (z_or00 (isnE (ds := [schD t [], w]) (z_cons (d := schD t []) (h1 := H) (ev_pair sc rs e4 e5 e6 (some w) H) a3) c16) (isnE (ds := [.tup [.tup (t.map tD), .tup (rs.map rD ++ [w])]]) (z_cons (d := .tup [.tup (t.map tD), .tup (rs.map rD ++ [w])]) (h1 := H) a1 z_enil) c14)) z_nil) (z_okIf (z_evT (kindE (ds := [.str [119, 105, 116, 104], schD t rs, .tup [w]]) (z_cons (d := .str [119, 105, 116, 104]) (h1 := H) (ev_str _ _ _ _) (z_cons (d := schD t rs) (h1 := H) (z_var rfl) (z_cons (d := .tup [w]) (h1 := H) a2 z_enil))) c29) rfl))) e7
  exact ⟨e7', z_for (xs := W1 t) (gs := [(rRef (run1 t), W1 t)]) (h1 := .lst X :: J1 t) (z_itE (z_calE (ds := [.tup (t.map tD)]) (h1 := .lst X :: J0) (z_cons (d := .tup (t.map tD)) (h1 := .lst X :: J0) (ev_T sc rs e4 e5 e6 e7 _) z_enil) (wr_call X ht)) (it_ref (wr_at X ht))) q⟩
end
end K00
end
section
set_option Elab.async false
set_option linter.all false
set_option maxRecDepth 100000
set_option maxHeartbeats 0
set_option autoImplicit false
/-! the head of law_k00_schemas_judged (printed by gen.py) -/
namespace K00
open PySem PySem.Spec PyProof.Rows L2 Mp
def d_is_worth : Df := ⟨"is_worth", top 8, N_is_worth, ["thing"]⟩
theorem k_is_worth : DfOk G sb d_is_worth ⟨1, 2, b_is_worth⟩ := ⟨⟨rfl, rfl, rfl, by decide +kernel, rfl, by decide +kernel, by decide +kernel⟩, fun _ _ _ _ _ _ us hl => (match us, hl with | [_], _ => rfl), rfl, rfl, c_is_worth⟩
def d_is_name : Df := ⟨"is_name", top 9, N_is_name, ["thing"]⟩
theorem k_is_name : DfOk G sb d_is_name ⟨1, 1, b_is_name⟩ := ⟨⟨rfl, rfl, rfl, by decide +kernel, rfl, by decide +kernel, by decide +kernel⟩, fun _ _ _ _ _ _ us hl => (match us, hl with | [_], _ => rfl), rfl, rfl, c_is_name⟩
def d_is_rising : Df := ⟨"is_rising", top 10, N_is_rising, ["things"]⟩
theorem k_is_rising : DfOk G sb d_is_rising ⟨1, 2, b_is_rising⟩ := ⟨⟨rfl, rfl, rfl, by decide +kernel, rfl, by decide +kernel, by decide +kernel⟩, fun _ _ _ _ _ _ us hl => (match us, hl with | [_], _ => rfl), rfl, rfl, c_is_rising⟩
def d_are_unlike : Df := ⟨"are_unlike", top 11, N_are_unlike, ["things"]⟩
theorem k_are_unlike : DfOk G sb d_are_unlike ⟨1, 2, b_are_unlike⟩ := ⟨⟨rfl, rfl, rfl, by decide +kernel, rfl, by decide +kernel, by decide +kernel⟩, fun _ _ _ _ _ _ us hl => (match us, hl with | [_], _ => rfl), rfl, rfl, c_are_unlike⟩
def d_is_word : Df := ⟨"is_word", top 12, N_is_word, ["thing", "words"]⟩
theorem k_is_word : DfOk G sb d_is_word ⟨2, 2, b_is_word⟩ := ⟨⟨rfl, rfl, rfl, by decide +kernel, rfl, by decide +kernel, by decide +kernel⟩, fun _ _ _ _ _ _ us hl => (match us, hl with | [_, _], _ => rfl), rfl, rfl, c_is_word⟩
def d_is_tuple_of : Df := ⟨"is_tuple_of", top 13, N_is_tuple_of, ["thing", "size"]⟩
theorem k_is_tuple_of : DfOk G sb d_is_tuple_of ⟨2, 2, b_is_tuple_of⟩ := ⟨⟨rfl, rfl, rfl, by decide +kernel, rfl, by decide +kernel, by decide +kernel⟩, fun _ _ _ _ _ _ us hl => (match us, hl with | [_, _], _ => rfl), rfl, rfl, c_is_tuple_of⟩
def d_is_names : Df := ⟨"is_names", top 14, N_is_names, ["thing", "least", "most"]⟩
theorem k_is_names : DfOk G sb d_is_names ⟨3, 4, b_is_names⟩ := ⟨⟨rfl, rfl, rfl, by decide +kernel, rfl, by decide +kernel, by decide +kernel⟩, fun _ _ _ _ _ _ us hl => (match us, hl with | [_, _, _], _ => rfl), rfl, rfl, c_is_names⟩
def d_are_tables : Df := ⟨"are_tables", top 20, N_are_tables, ["thing"]⟩
theorem k_are_tables : DfOk G sb d_are_tables ⟨1, 4, b_are_tables⟩ := ⟨⟨rfl, rfl, rfl, by decide +kernel, rfl, by decide +kernel, by decide +kernel⟩, fun _ _ _ _ _ _ us hl => (match us, hl with | [_], _ => rfl), rfl, rfl, c_are_tables⟩
def d_are_columns_of : Df := ⟨"are_columns_of", top 21, N_are_columns_of, ["columns", "thing", "least"]⟩
theorem k_are_columns_of : DfOk G sb d_are_columns_of ⟨3, 4, b_are_columns_of⟩ := ⟨⟨rfl, rfl, rfl, by decide +kernel, rfl, by decide +kernel, by decide +kernel⟩, fun _ _ _ _ _ _ us hl => (match us, hl with | [_, _, _], _ => rfl), rfl, rfl, c_are_columns_of⟩
def d_is_rule_of : Df := ⟨"is_rule_of", top 22, N_is_rule_of, ["tables", "thing"]⟩
theorem k_is_rule_of : DfOk G sb d_is_rule_of ⟨2, 4, b_is_rule_of⟩ := ⟨⟨rfl, rfl, rfl, by decide +kernel, rfl, by decide +kernel, by decide +kernel⟩, fun _ _ _ _ _ _ us hl => (match us, hl with | [_, _], _ => rfl), rfl, rfl, c_is_rule_of⟩
def d_is_worths : Df := ⟨"is_worths", top 23, N_is_worths, ["thing"]⟩
theorem k_is_worths : DfOk G sb d_is_worths ⟨1, 2, b_is_worths⟩ := ⟨⟨rfl, rfl, rfl, by decide +kernel, rfl, by decide +kernel, by decide +kernel⟩, fun _ _ _ _ _ _ us hl => (match us, hl with | [_], _ => rfl), rfl, rfl, c_is_worths⟩
def d_ways_of : Df := ⟨"ways_of", top 24, N_ways_of, ["tables", "rule"]⟩
theorem k_ways_of : DfOk G sb d_ways_of ⟨2, 8, b_ways_of⟩ := ⟨⟨rfl, rfl, rfl, by decide +kernel, rfl, by decide +kernel, by decide +kernel⟩, fun _ _ _ _ _ _ us hl => (match us, hl with | [_, _], _ => rfl), rfl, rfl, c_ways_of⟩
def d_reach_of : Df := ⟨"reach_of", top 25, N_reach_of, ["ways", "begin"]⟩
theorem k_reach_of : DfOk G sb d_reach_of ⟨2, 8, b_reach_of⟩ := ⟨⟨rfl, rfl, rfl, by decide +kernel, rfl, by decide +kernel, by decide +kernel⟩, fun _ _ _ _ _ _ us hl => (match us, hl with | [_, _], _ => rfl), rfl, rfl, c_reach_of⟩
def d_has_no_ring : Df := ⟨"has_no_ring", top 26, N_has_no_ring, ["tables", "rules"]⟩
theorem k_has_no_ring : DfOk G sb d_has_no_ring ⟨2, 7, b_has_no_ring⟩ := ⟨⟨rfl, rfl, rfl, by decide +kernel, rfl, by decide +kernel, by decide +kernel⟩, fun _ _ _ _ _ _ us hl => (match us, hl with | [_, _], _ => rfl), rfl, rfl, c_has_no_ring⟩
def d_is_schema : Df := ⟨"is_schema", top 27, N_is_schema, ["thing"]⟩
theorem k_is_schema : DfOk G sb d_is_schema ⟨1, 2, b_is_schema⟩ := ⟨⟨rfl, rfl, rfl, by decide +kernel, rfl, by decide +kernel, by decide +kernel⟩, fun _ _ _ _ _ _ us hl => (match us, hl with | [_], _ => rfl), rfl, rfl, c_is_schema⟩
def d_ask_schema : Df := ⟨"ask_schema", top 28, N_ask_schema, ["schema"]⟩
theorem k_ask_schema : DfOk G sb d_ask_schema ⟨1, 1, b_ask_schema⟩ := ⟨⟨rfl, rfl, rfl, by decide +kernel, rfl, by decide +kernel, by decide +kernel⟩, fun _ _ _ _ _ _ us hl => (match us, hl with | [_], _ => rfl), rfl, rfl, c_ask_schema⟩
def d_is_rule : Df := ⟨"is_rule", top 29, N_is_rule, ["schema", "thing"]⟩
theorem k_is_rule : DfOk G sb d_is_rule ⟨2, 2, b_is_rule⟩ := ⟨⟨rfl, rfl, rfl, by decide +kernel, rfl, by decide +kernel, by decide +kernel⟩, fun _ _ _ _ _ _ us hl => (match us, hl with | [_, _], _ => rfl), rfl, rfl, c_is_rule⟩
def d_columns_of : Df := ⟨"columns_of", top 30, N_columns_of, ["schema", "table"]⟩
theorem k_columns_of : DfOk G sb d_columns_of ⟨2, 4, b_columns_of⟩ := ⟨⟨rfl, rfl, rfl, by decide +kernel, rfl, by decide +kernel, by decide +kernel⟩, fun _ _ _ _ _ _ us hl => (match us, hl with | [_, _], _ => rfl), rfl, rfl, c_columns_of⟩
def d_with_rules : Df := ⟨"with_rules", top 31, N_with_rules, ["schema", "rules"]⟩
theorem k_with_rules : DfOk G sb d_with_rules ⟨2, 4, b_with_rules⟩ := ⟨⟨rfl, rfl, rfl, by decide +kernel, rfl, by decide +kernel, by decide +kernel⟩, fun _ _ _ _ _ _ us hl => (match us, hl with | [_, _], _ => rfl), rfl, rfl, c_with_rules⟩
def d__law_draws : Df := ⟨"_law_draws", top 33, N__law_draws, ["script", "many"]⟩
theorem k__law_draws : DfOk G sb d__law_draws ⟨2, 9, b__law_draws⟩ := ⟨⟨rfl, rfl, rfl, by decide +kernel, rfl, by decide +kernel, by decide +kernel⟩, fun _ _ _ _ _ _ us hl => (match us, hl with | [_, _], _ => rfl), rfl, rfl, c__law_draws⟩
def d__law_next : Df := ⟨"_law_next", top 34, N__law_next, ["draws", "many"]⟩
theorem k__law_next : DfOk G sb d__law_next ⟨2, 2, b__law_next⟩ := ⟨⟨rfl, rfl, rfl, by decide +kernel, rfl, by decide +kernel, by decide +kernel⟩, fun _ _ _ _ _ _ us hl => (match us, hl with | [_, _], _ => rfl), rfl, rfl, c__law_next⟩
def d__law_tables : Df := ⟨"_law_tables", top 35, N__law_tables, ["draws"]⟩
theorem k__law_tables : DfOk G sb d__law_tables ⟨1, 5, b__law_tables⟩ := ⟨⟨rfl, rfl, rfl, by decide +kernel, rfl, by decide +kernel, by decide +kernel⟩, fun _ _ _ _ _ _ us hl => (match us, hl with | [_], _ => rfl), rfl, rfl, c__law_tables⟩
def d__law_some_of : Df := ⟨"_law_some_of", top 36, N__law_some_of, ["draws", "columns", "few"]⟩
theorem k__law_some_of : DfOk G sb d__law_some_of ⟨3, 5, b__law_some_of⟩ := ⟨⟨rfl, rfl, rfl, by decide +kernel, rfl, by decide +kernel, by decide +kernel⟩, fun _ _ _ _ _ _ us hl => (match us, hl with | [_, _, _], _ => rfl), rfl, rfl, c__law_some_of⟩
def d__law_rule : Df := ⟨"_law_rule", top 37, N__law_rule, ["draws", "tables"]⟩
theorem k__law_rule : DfOk G sb d__law_rule ⟨2, 10, b__law_rule⟩ := ⟨⟨rfl, rfl, rfl, by decide +kernel, rfl, by decide +kernel, by decide +kernel⟩, fun _ _ _ _ _ _ us hl => (match us, hl with | [_, _], _ => rfl), rfl, rfl, c__law_rule⟩
def d__law_schema : Df := ⟨"_law_schema", top 38, N__law_schema, ["draws", "most"]⟩
theorem k__law_schema : DfOk G sb d__law_schema ⟨2, 4, b__law_schema⟩ := ⟨⟨rfl, rfl, rfl, by decide +kernel, rfl, by decide +kernel, by decide +kernel⟩, fun _ _ _ _ _ _ us hl => (match us, hl with | [_, _], _ => rfl), rfl, rfl, c__law_schema⟩
def d__law_columns : Df := ⟨"_law_columns", top 39, N__law_columns, ["schema", "table"]⟩
theorem k__law_columns : DfOk G sb d__law_columns ⟨2, 3, b__law_columns⟩ := ⟨⟨rfl, rfl, rfl, by decide +kernel, rfl, by decide +kernel, by decide +kernel⟩, fun _ _ _ _ _ _ us hl => (match us, hl with | [_, _], _ => rfl), rfl, rfl, c__law_columns⟩
def d__law_great : Df := ⟨"_law_great", top 40, N__law_great, []⟩
theorem k__law_great : DfOk G sb d__law_great ⟨0, 3, b__law_great⟩ := ⟨⟨rfl, rfl, rfl, by decide +kernel, rfl, by decide +kernel, by decide +kernel⟩, fun _ _ _ _ _ _ us hl => (match us, hl with | [], _ => rfl), rfl, rfl, c__law_great⟩
def d__law_wrong_tables : Df := ⟨"_law_wrong_tables", top 41, N__law_wrong_tables, []⟩
theorem k__law_wrong_tables : DfOk G sb d__law_wrong_tables ⟨0, 2, b__law_wrong_tables⟩ := ⟨⟨rfl, rfl, rfl, by decide +kernel, rfl, by decide +kernel, by decide +kernel⟩, fun _ _ _ _ _ _ us hl => (match us, hl with | [], _ => rfl), rfl, rfl, c__law_wrong_tables⟩
def d__law_wrong_rules : Df := ⟨"_law_wrong_rules", top 42, N__law_wrong_rules, ["tables"]⟩
theorem k__law_wrong_rules : DfOk G sb d__law_wrong_rules ⟨1, 6, b__law_wrong_rules⟩ := ⟨⟨rfl, rfl, rfl, by decide +kernel, rfl, by decide +kernel, by decide +kernel⟩, fun _ _ _ _ _ _ us hl => (match us, hl with | [_], _ => rfl), rfl, rfl, c__law_wrong_rules⟩
def d__law_kind : Df := ⟨"_law_kind", top 43, N__law_kind, ["word", "one", "other"]⟩
theorem k__law_kind : DfOk G sb d__law_kind ⟨3, 6, b__law_kind⟩ := ⟨⟨rfl, rfl, rfl, by decide +kernel, rfl, by decide +kernel, by decide +kernel⟩, fun _ _ _ _ _ _ us hl => (match us, hl with | [_, _, _], _ => rfl), rfl, rfl, c__law_kind⟩
def d_law : Df := ⟨"law", top 44, N_law, ["script"]⟩
theorem k_law : DfOk G sb d_law ⟨1, 8, b_law⟩ := ⟨⟨rfl, rfl, rfl, by decide +kernel, rfl, by decide +kernel, by decide +kernel⟩, fun _ _ _ _ _ _ us hl => (match us, hl with | [_], _ => rfl), rfl, rfl, c_law⟩
def dfs : List Df := [d_is_worth, d_is_name, d_is_rising, d_are_unlike, d_is_word, d_is_tuple_of, d_is_names, d_are_tables, d_are_columns_of, d_is_rule_of, d_is_worths, d_ways_of, d_reach_of, d_has_no_ring, d_is_schema, d_ask_schema, d_is_rule, d_columns_of, d_with_rules, d__law_draws, d__law_next, d__law_tables, d__law_some_of, d__law_rule, d__law_schema, d__law_columns, d__law_great, d__law_wrong_tables, d__law_wrong_rules, d__law_kind, d_law]
def cn : List Str := ["HouseError", "NoRule", "NoSchema", "NoTable"]
theorem all_df : AllDf G sb dfs P := ⟨k_is_worth, k_is_name, k_is_rising, k_are_unlike, k_is_word, k_is_tuple_of, k_is_names, k_are_tables, k_are_columns_of, k_is_rule_of, k_is_worths, k_ways_of, k_reach_of, k_has_no_ring, k_is_schema, k_ask_schema, k_is_rule, k_columns_of, k_with_rules, k__law_draws, k__law_next, k__law_tables, k__law_some_of, k__law_rule, k__law_schema, k__law_columns, k__law_great, k__law_wrong_tables, k__law_wrong_rules, k__law_kind, k_law, trivial⟩
theorem ok_g : okG dfs cn G = true := by decide +kernel
abbrev R : PySem.W.OpenRow := PySem.W.OpenLaw.row PySem.Challenge.rw_chasehouse_k00_schemas_judged
abbrev hk : PySem.W.Hook := He.hookX 5 (faOf G) (dfs.map Df.d) [] [] (subB cn sb)
def ob (s : PySem.W.SharedT) : He.AlX := He.obsX 5 (faOf G) (dfs.map Df.d) [] [] (subB cn sb) (HandSHeadRun.getT s)
theorem ob_eq (s : PySem.W.SharedT) : ob s = hk.obs s.abs := He.obsX_eq (HandSHeadRun.getT_eq s)
def lo0 : List Str := ["__name__", "HouseError", "NoRule", "NoSchema", "NoTable", "__name__", "SMALL", "LETTERS", "is_worth", "is_name", "is_rising", "are_unlike", "is_word", "is_tuple_of", "is_names", "__name__", "MOST_TABLES", "MOST_COLUMNS", "MOST_RULES", "MOST_WORTHS", "are_tables", "are_columns_of", "is_rule_of", "is_worths", "ways_of", "reach_of", "has_no_ring", "is_schema", "ask_schema", "is_rule"]
def lo1 : List Str := ["columns_of", "with_rules", "__name__", "_law_draws", "_law_next", "_law_tables", "_law_some_of", "_law_rule", "_law_schema", "_law_columns", "_law_great", "_law_wrong_tables", "_law_wrong_rules", "_law_kind"]
def loose : List Str := lo0 ++ lo1
def lawI : Nat := 30
end K00
end
section
set_option Elab.async false
set_option linter.all false
set_option maxRecDepth 100000
set_option maxHeartbeats 0
set_option autoImplicit false
/-! the top of law_k00_schemas_judged run (printed by gen.py) -/
namespace K00
open PySem PySem.Spec PyProof.Rows L2 Mp
theorem run (w : World) : HandSHeadRun.RunEq R (PySem.W.view R.prog [44]) hk ob 3000 loose w := by
  intro os
  kernel_rfl
end K00
end
section
set_option Elab.async false
set_option linter.all false
set_option maxRecDepth 100000
set_option maxHeartbeats 0
set_option autoImplicit false
/-! the end of the law: what the small program answers is what is asked -/
namespace K00
open PySem PySem.Spec PyProof.Rows L2 Mp
theorem sreps_ints {K : PySem.W.Frag} {m : List Addr} {H : Hp} : ∀ (ns : List Int), SReps K m H (ns.map D.int) (ns.map V.int)
  | [] => by simp only [List.map_nil, SReps]
  | n :: ns => by
    simp only [List.map_cons, SReps]
    exact ⟨_, _, rfl, by simp only [SRep], sreps_ints ns⟩
/-- what the law's def is asked -/
theorem law_sp {K : PySem.W.Frag} {w : World} {tw k : Nat} {P : List Fn} {i : Nat} {xr : XR} (hp : ∀ ns : List Int, ns.length ≤ 63 → ∃ h', callF P tw k i [.lck (ns.map D.int)] [] = .ok (.bl true) h')
    (H : Hp) (a : Addr) (ns : List Int) (oH : Only H) (sq : SqL K H a (ns.map V.int)) (len : ns.length ≤ 63) : spOf K w xr P tw k i [.ref a] H (fun v _ => v = .bl true) (fun _ _ _ => False) := by
  obtain ⟨h', e⟩ := hp ns len
  refine ⟨[], [], [.lck (ns.map D.int)], ⟨rfl, List.nodup_nil, fun n o a e => by simp at e⟩, ?_, ?_⟩
  · simp only [SReps, SRep]
    refine ⟨_, _, rfl, ⟨a, ns.map V.int, rfl, ?_, sreps_ints ns⟩, rfl⟩
    rcases sq with (sq | sq) | sq
    · rcases oH a with z | ⟨o, xs, z⟩
      · rw [z] at sq; cases sq
      · rw [z] at sq; cases sq
    · exact .inl sq
    · exact .inr sq
  · rw [e]
    intro v H' m' N r
    exact rep_bl r.1
end K00
end
section
set_option Elab.async false
set_option linter.all false
set_option maxRecDepth 100000
set_option maxHeartbeats 0
set_option autoImplicit false
namespace K00
open PySem PySem.W PySem.Calls PyProof.Rows
theorem holds_of (hp : ∀ ns : List Int, ns.length ≤ 63 → ∃ h', Mp.callF P 100 20 lawI [.lck (ns.map Mp.D.int)] [] = .ok (.bl true) h') : PySem.Challenge.rw_chasehouse_k00_schemas_judged.Holds := by
  w_on; o_law
  refine HandSHeadRun.head_any (r := R) (q := view R.prog [44]) (H := hk) (ob := ob) (M := 3000) (loose := loose) (d := HandSHeadRun.topDef R.prog 44) (kwd := []) ob_eq
    (by kernel_rfl) (fun s => by kernel_rfl) run (by kernel_rfl) (by kernel_rfl) (by kernel_rfl) (by rfl) (by first | assumption | decide +kernel) (by decide +kernel) ⟨rfl, rfl, rfl, rfl, rfl, by decide +kernel⟩ ?hw ?hc
  case hw => w_witness2
  case hc =>
    refine Mp.walk_w (l := PySem.Challenge.rw_chasehouse_k00_schemas_judged) (n := 63) (k := 20) (x := "script") (CW := fun w => L2N.CX R.prog w) rfl (by decide) (by kernel_rfl) ⟨rfl, by decide, by decide⟩ ?F (fun w H s e s' z => ?z)
    case z =>
      obtain ⟨a, B, H', cls, d, _, _, _, _, _, _, _, q⟩ := z
      exact q
    case F =>
      intro w mg f h Y N hm
      obtain ⟨K, KX, c⟩ := Y
      obtain ⟨g1, g2⟩ := Mp.glb_of (P := P) KX N c ok_g all_df
      have hm' : mg ("law" : PySem.Str) = some (.ref f) := by
        have e : (HandSHeadRun.topDef R.prog 44).name = ("law" : PySem.Str) := by kernel_rfl
        rw [← e]
        exact hm
      obtain ⟨fd, F, D⟩ := Mp.def_at (P := P) (i := lawI) (d := d_law) KX N c all_df rfl (List.mem_of_getElem? (i := lawI) (by kernel_rfl))
      have b := L2.FunD.bindsA (ps := ["script"]) F fun kV doc pm an cdv ct us hl => k_law.bd kV doc pm an cdv ct us hl
      have ga := D
      obtain ⟨_, _, _, _, _, _, _, _, _, _, _, ga, _⟩ := ga
      have ga' : mg ("law" : PySem.Str) = some (.ref (He.ga K d_law.x)) := ga
      rw [hm'] at ga'
      cases ga'
      exact ⟨K, fd, Mp.spOf K w (Mp.xrOf K cn) P 100 20 lawI, KX, fun s u => b s [u] rfl, fun H a ns oH sq len => law_sp hp H a ns oH sq len, fun base hK hN => Mp.all_at (Pg := R.prog) (w := w) (base := base) (tw := 100) g1 g2 (fun _ _ _ _ _ _ _ _ q => q) 20 "law" lawI _ _ _ D⟩
end K00
end
section
set_option linter.all false
set_option maxRecDepth 100000
set_option maxHeartbeats 4000000
set_option autoImplicit false
namespace K00
open Mp
section
variable (sc : Option D) {t : List Tb} (ht : t ∈ T3) (rs : List Rl) (hr : ∀ r ∈ rs, r ∈ rules t) (hl : rs.length ≤ 7) (X : List D)
def e8 : E := .lst (.cons .non (.cons (.tup .nil) (.cons (.tup (.cons (.ix (.var 2) (.int 0)) .nil)) (.cons (.tup (.cons (.ix (.var 2) (.int 0)) (.cons (.bif .list (.ix (.var 2) (.int 1))) .nil))) (.cons (.lst (.cons (.ix (.var 2) (.int 0)) (.cons (.tup .nil) .nil))) (.cons (.tup (.cons (.ix (.var 2) (.int 0)) (.cons (.tup .nil) (.cons (.tup .nil) .nil)))) (.cons (.tup (.cons (.ix (.var 2) (.int 0)) (.cons .non .nil))) (.cons (.int 5) (.cons (.str [115]) .nil)))))))))
theorem ev_list (e4 e5 e6 e7 : Option D) (h : Hd) : ev FF (.bif .list (.ix (.var 2) (.int 1))) (LE sc (schD t rs) e4 e5 e6 e7) h = .ok (.tl (rs.map rD)) h := z_bifE (ev_rs sc rs e4 e5 e6 e7 h) rfl
theorem st8i (e4 e5 e6 e7 : Option D) : ev FF e8 (LE sc (schD t rs) e4 e5 e6 e7) (.lst X :: J1 t) = .ok (.tl (Z3 (n3 t) t)) (H3 X (rs.map rD) t) := by
  have hT := fun h => ev_T sc (t := t) rs e4 e5 e6 e7 h
  have ht0 : ∀ h : Hd, ev FF (.tup .nil) (LE sc (schD t rs) e4 e5 e6 e7) h = .ok (.tup []) h := fun h => by simp only [ev, evs, evI, evT, tst, start, int?, List.map_cons, List.map_nil, List.cons_append, List.nil_append, List.replicate, List.set, List.getElem?_cons_succ, List.getElem?_cons_zero, z_bind_ok, z_bind_ex, z_bindN_ok, z_get_some, z_reg_non, z_reg_bl, z_reg_int, z_reg_str, z_reg_tup, z_reg_ref, z_reg_lck, z_reg_tl, z_reg_td, z_truth_non, z_truth_bl, z_truth_int, z_truth_tup, z_truth_tl, z_bif_int, z_bif_intb, z_bif_lent, z_bif_lenl, z_bif_lenk, z_bif_list, z_bif_tup, z_bin_add, z_bin_sub, z_cmp_lt, z_cmp_gt, z_cmp_le, z_cmp_ge, z_cmp_eq, z_cmp_ne, z_cmp_is, z_cmp_isn, z_cmp_inn, z_cmp_nin, z_eq_int, z_eq_str, z_is_bl, z_ix_tup, z_ix_tl, if_true, if_false, Bool.false_eq_true, z_isi_tup, z_isi_str, z_isi_tl, z_lim, z_lim0, z_lim1, z_lim2, z_lim3, z_lim4, z_lim5, Option.map_some, Bool.not_true, Bool.not_false, List.length_cons, List.length_nil, decide_true, decide_false, ne_eq, not_true_eq_false, not_false_eq_true]
  have ha : (Ob.lst X :: J1 t : Hd).length = n3 t := rfl
  generalize hH : (Ob.lst X :: J1 t : Hd) = H at ha
  have hb : (H ++ [Ob.lst (rs.map rD)]).length = n3 t + 1 := by simp [ha]
  have h3 : H3 X (rs.map rD) t = (H ++ [Ob.lst (rs.map rD)]) ++ [Ob.lst [.tup (t.map tD), .tup []]] := by rw [H3, hH]; simp
  rw [h3]
  have i3 : ev FF (.tup (.cons (.ix (.var 2) (.int 0)) .nil)) (LE sc (schD t rs) e4 e5 e6 e7) H = .ok (.tup [.tup (t.map tD)]) H := z_tupE (ds := [.tup (t.map tD)]) (z_cons (d := .tup (t.map tD)) (h1 := H) (hT H) z_enil) (Nat.le_of_ble_eq_true rfl)
  have i4 : ev FF (.tup (.cons (.ix (.var 2) (.int 0)) (.cons (.bif .list (.ix (.var 2) (.int 1))) .nil))) (LE sc (schD t rs) e4 e5 e6 e7) H = .ok (.tup [.tup (t.map tD), .ref (n3 t)]) (H ++ [Ob.lst (rs.map rD)]) := by
    rw [← ha]
    exact z_tupE (ds := [.tup (t.map tD), .ref H.length]) (z_cons (d := .tup (t.map tD)) (h1 := H) (hT H) (z_cons (d := .tl (rs.map rD)) (h1 := H) (ev_list sc rs e4 e5 e6 e7 H) z_enil)) (Nat.le_of_ble_eq_true rfl)
  have i5 : ev FF (.lst (.cons (.ix (.var 2) (.int 0)) (.cons (.tup .nil) .nil))) (LE sc (schD t rs) e4 e5 e6 e7) (H ++ [Ob.lst (rs.map rD)]) = .ok (.tl [.tup (t.map tD), .tup []]) (H ++ [Ob.lst (rs.map rD)]) :=
    z_lstE (ds := [.tup (t.map tD), .tup []]) (z_cons (d := .tup (t.map tD)) (h1 := H ++ [Ob.lst (rs.map rD)]) (hT _) (z_cons (d := .tup []) (h1 := H ++ [Ob.lst (rs.map rD)]) (ht0 _) z_enil)) (Nat.le_of_ble_eq_true rfl)
  have i6 : ∀ h : Hd, ev FF (.tup (.cons (.ix (.var 2) (.int 0)) (.cons (.tup .nil) (.cons (.tup .nil) .nil)))) (LE sc (schD t rs) e4 e5 e6 e7) h = .ok (.tup [.tup (t.map tD), .tup [], .tup []]) h := fun h =>
    z_tupE (ds := [.tup (t.map tD), .tup [], .tup []]) (z_cons (d := .tup (t.map tD)) (h1 := h) (hT _) (z_cons (d := .tup []) (h1 := h) (ht0 _) (z_cons (d := .tup []) (h1 := h) (ht0 _) z_enil))) (Nat.le_of_ble_eq_true rfl)
  have i7 : ∀ h : Hd, ev FF (.tup (.cons (.ix (.var 2) (.int 0)) (.cons .non .nil))) (LE sc (schD t rs) e4 e5 e6 e7) h = .ok (.tup [.tup (t.map tD), .non]) h := fun h =>
    z_tupE (ds := [.tup (t.map tD), .non]) (z_cons (d := .tup (t.map tD)) (h1 := h) (hT _) (z_cons (d := .non) (h1 := h) (ev_non _ _ _) z_enil)) (Nat.le_of_ble_eq_true rfl)
  have rest : evs FF (.cons (.tup (.cons (.ix (.var 2) (.int 0)) (.cons (.tup .nil) (.cons (.tup .nil) .nil)))) (.cons (.tup (.cons (.ix (.var 2) (.int 0)) (.cons .non .nil))) (.cons (.int 5) (.cons (.str [115]) .nil)))) (LE sc (schD t rs) e4 e5 e6 e7) ((H ++ [Ob.lst (rs.map rD)]) ++ [Ob.lst [.tup (t.map tD), .tup []]]) = .ok [.tup [.tup (t.map tD), .tup [], .tup []], .tup [.tup (t.map tD), .non], .int 5, .str [115]] ((H ++ [Ob.lst (rs.map rD)]) ++ [Ob.lst [.tup (t.map tD), .tup []]]) := by
    generalize ((H ++ [Ob.lst (rs.map rD)]) ++ [Ob.lst [.tup (t.map tD), .tup []]]) = G
    exact z_cons (d := .tup [.tup (t.map tD), .tup [], .tup []]) (h1 := G) (i6 G) (z_cons (d := .tup [.tup (t.map tD), .non]) (h1 := G) (i7 G) (z_cons (d := .int 5) (h1 := G) (ev_int _ _ _ _) (z_cons (d := .str [115]) (h1 := G) (ev_str _ _ _ _) z_enil)))
  have r5 := z_cons (F := FF) i5 (es := (.cons (.tup (.cons (.ix (.var 2) (.int 0)) (.cons (.tup .nil) (.cons (.tup .nil) .nil)))) (.cons (.tup (.cons (.ix (.var 2) (.int 0)) (.cons .non .nil))) (.cons (.int 5) (.cons (.str [115]) .nil))))) rest
  rw [z_reg_tl, hb] at r5
  exact z_lstE (ds := Z3 (n3 t) t) (z_cons (d := .non) (h1 := H) (ev_non _ _ _) (z_cons (d := .tup []) (h1 := H) (ht0 H) (z_cons (d := .tup [.tup (t.map tD)]) (h1 := H) i3 (z_cons (d := .tup [.tup (t.map tD), .ref (n3 t)]) (h1 := H ++ [Ob.lst (rs.map rD)]) i4 r5)))) (Nat.le_of_ble_eq_true rfl)
include ht in
theorem st8 (e4 e5 e6 e7 : Option D) : ∃ e7', ex FF 100 (.for (.nm 7) (.e e8) (.seq (.iff (.or (.cmp .isn (.cal 14 (.cons (.var 7) .nil)) (.bl false)) (.cmp .ne (.cal 29 (.cons (.str [99, 111, 108, 117, 109, 110, 115]) (.cons (.var 7) (.cons .non .nil)))) (.lst (.cons (.str [115, 99, 104, 101, 109, 97]) .nil)))) (.seq (.ret (.bl false)) .nil) .nil) .nil)) (LE sc (schD t rs) e4 e5 e6 e7) (.lst X :: J1 t) = .ok (.nx, LE sc (schD t rs) e4 e5 e6 e7') (H3 X (rs.map rD) t) := by
  obtain ⟨e7', q⟩ := forL_each (t := .nm 7) (body := ex FF 100 (.seq (.iff (.or (.cmp .isn (.cal 14 (.cons (.var 7) .nil)) (.bl false)) (.cmp .ne (.cal 29 (.cons (.str [99, 111, 108, 117, 109, 110, 115]) (.cons (.var 7) (.cons .non .nil)))) (.lst (.cons (.str [115, 99, 104, 101, 109, 97]) .nil)))) (.seq (.ret (.bl false)) .nil) .nil) .nil)) (gs := []) (h := H3 X (rs.map rD) t)
    (LE sc (schD t rs) e4 e5 e6) rfl (fun x e => rfl) (Z3 (n3 t) t) (fun w hw => by
      have wb := fun k => z3_bad k X (rs.map rD) ht hw
      generalize H3 X (rs.map rD) t = H at wb
      have g : reg H w = (w, H) := (wb 0 H (.inl rfl)).1
      have c14 : callF P 100 19 14 [w] H = .ok (.bl false) H := (wb 13 H (.inl rfl)).2
      have c29 : callF P 100 19 29 [.str [99, 111, 108, 117, 109, 110, 115], w, .non] H = .ok (.tl [.str [115, 99, 104, 101, 109, 97]]) H := kind_false 10 17 (.inr (.inl rfl)) w .non H rfl (wb 10) H (.inl rfl)
      have v : (LE sc (schD t rs) e4 e5 e6 (some w))[7]? = some (some w) := rfl
      have a1 : evs FF (.cons (.var 7) .nil) (LE sc (schD t rs) e4 e5 e6 (some w)) H = .ok [w] H := by
        simp only [evs, ev, v, z_bind_ok, g]
      have a2 : evs FF (.cons (.str [99, 111, 108, 117, 109, 110, 115]) (.cons (.var 7) (.cons .non .nil))) (LE sc (schD t rs) e4 e5 e6 (some w)) H = .ok [.str [99, 111, 108, 117, 109, 110, 115], w, .non] H := by
        simp only [evs, ev, v, z_bind_ok, g, z_reg_str, z_reg_non]
      exact z_okIf (z_or00 (isnE a1 c14) (kindE a2 c29))) e7
  exact ⟨e7', z_for (xs := Z3 (n3 t) t) (gs := []) (h1 := H3 X (rs.map rD) t) (z_itE (st8i sc rs X e4 e5 e6 e7) rfl) q⟩
theorem st9 (S : D) (e4 e5 e6 e7 : Option D) (h : Hd) : evT FF (.or (.cmp .isn (.cal 14 (.cons (.tup (.cons (.ix (.var 3) (.int 0)) (.cons (.bin .add (.ix (.var 3) (.int 1)) (.slH (.ix (.var 3) (.int 1)) (.int 1))) .nil))) .nil)) (.bl false)) (.cmp .ne (.cal 29 (.cons (.str [119, 105, 116, 104]) (.cons .non (.cons .non .nil)))) (.lst (.cons (.str [115, 99, 104, 101, 109, 97]) .nil)))) (LE sc S e4 e5 e6 e7) h = .ok false h := by
  have c14 : callF P 100 19 14 [.tup [.tup GT, .tup (GR ++ GR1)]] h = .ok (.bl false) h := callF_at GR2_pure rfl great_more h
  have c29 : callF P 100 19 29 [.str [119, 105, 116, 104], .non, .non] h = .ok (.tl [.str [115, 99, 104, 101, 109, 97]]) h := callF_at rfl rfl none_with h
  have l : GR.length + GR1.length ≤ lim := by rw [← List.length_append]; exact Nat.le_of_ble_eq_true great_len
  have a0 : ev FF (.ix (.var 3) (.int 0)) (LE sc S e4 e5 e6 e7) h = .ok (.tup GT) h := by
    unfold LE; simp only [ev, evs, evI, evT, tst, start, int?, List.map_cons, List.map_nil, List.cons_append, List.nil_append, List.replicate, List.set, List.getElem?_cons_succ, List.getElem?_cons_zero, z_bind_ok, z_bind_ex, z_bindN_ok, z_get_some, z_reg_non, z_reg_bl, z_reg_int, z_reg_str, z_reg_tup, z_reg_ref, z_reg_lck, z_reg_tl, z_reg_td, z_truth_non, z_truth_bl, z_truth_int, z_truth_tup, z_truth_tl, z_bif_int, z_bif_intb, z_bif_lent, z_bif_lenl, z_bif_lenk, z_bif_list, z_bif_tup, z_bin_add, z_bin_sub, z_cmp_lt, z_cmp_gt, z_cmp_le, z_cmp_ge, z_cmp_eq, z_cmp_ne, z_cmp_is, z_cmp_isn, z_cmp_inn, z_cmp_nin, z_eq_int, z_eq_str, z_is_bl, z_ix_tup, z_ix_tl, if_true, if_false, Bool.false_eq_true, z_isi_tup, z_isi_str, z_isi_tl, z_lim, z_lim0, z_lim1, z_lim2, z_lim3, z_lim4, z_lim5, Option.map_some, Bool.not_true, Bool.not_false, List.length_cons, List.length_nil, decide_true, decide_false, ne_eq, not_true_eq_false, not_false_eq_true, gD, z_at0]
  have a1 : ev FF (.ix (.var 3) (.int 1)) (LE sc S e4 e5 e6 e7) h = .ok (.tup GR) h := by
    unfold LE; simp only [ev, evs, evI, evT, tst, start, int?, List.map_cons, List.map_nil, List.cons_append, List.nil_append, List.replicate, List.set, List.getElem?_cons_succ, List.getElem?_cons_zero, z_bind_ok, z_bind_ex, z_bindN_ok, z_get_some, z_reg_non, z_reg_bl, z_reg_int, z_reg_str, z_reg_tup, z_reg_ref, z_reg_lck, z_reg_tl, z_reg_td, z_truth_non, z_truth_bl, z_truth_int, z_truth_tup, z_truth_tl, z_bif_int, z_bif_intb, z_bif_lent, z_bif_lenl, z_bif_lenk, z_bif_list, z_bif_tup, z_bin_add, z_bin_sub, z_cmp_lt, z_cmp_gt, z_cmp_le, z_cmp_ge, z_cmp_eq, z_cmp_ne, z_cmp_is, z_cmp_isn, z_cmp_inn, z_cmp_nin, z_eq_int, z_eq_str, z_is_bl, z_ix_tup, z_ix_tl, if_true, if_false, Bool.false_eq_true, z_isi_tup, z_isi_str, z_isi_tl, z_lim, z_lim0, z_lim1, z_lim2, z_lim3, z_lim4, z_lim5, Option.map_some, Bool.not_true, Bool.not_false, List.length_cons, List.length_nil, decide_true, decide_false, ne_eq, not_true_eq_false, not_false_eq_true, gD, z_at1]
  have a2 : ev FF (.slH (.ix (.var 3) (.int 1)) (.int 1)) (LE sc S e4 e5 e6 e7) h = .ok (.tup GR1) h := by
    unfold LE; simp only [ev, evs, evI, evT, tst, start, int?, List.map_cons, List.map_nil, List.cons_append, List.nil_append, List.replicate, List.set, List.getElem?_cons_succ, List.getElem?_cons_zero, z_bind_ok, z_bind_ex, z_bindN_ok, z_get_some, z_reg_non, z_reg_bl, z_reg_int, z_reg_str, z_reg_tup, z_reg_ref, z_reg_lck, z_reg_tl, z_reg_td, z_truth_non, z_truth_bl, z_truth_int, z_truth_tup, z_truth_tl, z_bif_int, z_bif_intb, z_bif_lent, z_bif_lenl, z_bif_lenk, z_bif_list, z_bif_tup, z_bin_add, z_bin_sub, z_cmp_lt, z_cmp_gt, z_cmp_le, z_cmp_ge, z_cmp_eq, z_cmp_ne, z_cmp_is, z_cmp_isn, z_cmp_inn, z_cmp_nin, z_eq_int, z_eq_str, z_is_bl, z_ix_tup, z_ix_tl, if_true, if_false, Bool.false_eq_true, z_isi_tup, z_isi_str, z_isi_tl, z_lim, z_lim0, z_lim1, z_lim2, z_lim3, z_lim4, z_lim5, Option.map_some, Bool.not_true, Bool.not_false, List.length_cons, List.length_nil, decide_true, decide_false, ne_eq, not_true_eq_false, not_false_eq_true, gD, z_at1, slcO, GR1]
  exact z_or00 (isnE (ds := [.tup [.tup GT, .tup (GR ++ GR1)]]) (z_cons (d := .tup [.tup GT, .tup (GR ++ GR1)]) (h1 := h) (z_tupE (ds := [.tup GT, .tup (GR ++ GR1)]) (z_cons (d := .tup GT) (h1 := h) a0 (z_cons (d := .tup (GR ++ GR1)) (h1 := h) (z_binE a1 a2 (z_bin_addt l)) z_enil)) (Nat.le_of_ble_eq_true rfl)) z_enil) c14)
    (kindE (ds := [.str [119, 105, 116, 104], .non, .non]) (z_cons (d := .str [119, 105, 116, 104]) (h1 := h) (ev_str _ _ _ _) (z_cons (d := .non) (h1 := h) (ev_non _ _ _) (z_cons (d := .non) (h1 := h) (ev_non _ _ _) z_enil))) c29)
def e10 : E := .lst (.cons (.str [122, 122]) (.cons .non (.cons (.int 0) (.cons (.tup .nil) (.cons (.ix (.ix (.var 2) (.int 0)) (.int 0)) .nil)))))
include ht in
theorem st10i (e4 e5 e6 e7 : Option D) (h : Hd) : ev FF e10 (LE sc (schD t rs) e4 e5 e6 e7) h = .ok (.tl (badN t)) h := by
  have hT := ev_T sc (t := t) rs e4 e5 e6 e7 h
  cases t with
  | nil => have := List.all_eq_true.mp T3_ne [] ht; cases this
  | cons p t =>
    have a : ev FF (.ix (.ix (.var 2) (.int 0)) (.int 0)) (LE sc (schD (p :: t) rs) e4 e5 e6 e7) h = .ok (tD p) h := z_ixE (d1 := .int 0) (h2 := h) hT (ev_int _ _ _ _) (by rw [z_ix_tup, List.map_cons, z_at0])
    exact z_lstE (ds := badN (p :: t)) (z_cons (d := .str [122, 122]) (h1 := h) (ev_str _ _ _ _) (z_cons (d := .non) (h1 := h) (ev_non _ _ _) (z_cons (d := .int 0) (h1 := h) (ev_int _ _ _ _) (z_cons (d := .tup []) (h1 := h) (ev_tn _ _ _) (z_cons (d := tD p) (h1 := h) a z_enil))))) (Nat.le_of_ble_eq_true rfl)
include ht hr hl in
theorem st10 (e4 e5 e6 e7 : Option D) (h : Hd) : ∃ e7', ex FF 100 (.for (.nm 7) (.e e10) (.seq (.iff (.cmp .ne (.cal 29 (.cons (.str [99, 111, 108, 117, 109, 110, 115]) (.cons (.var 2) (.cons (.var 7) .nil)))) (.lst (.cons (.str [116, 97, 98, 108, 101]) .nil))) (.seq (.ret (.bl false)) .nil) .nil) .nil)) (LE sc (schD t rs) e4 e5 e6 e7) h = .ok (.nx, LE sc (schD t rs) e4 e5 e6 e7') h := by
  obtain ⟨e7', q⟩ := forL_each (t := .nm 7) (body := ex FF 100 (.seq (.iff (.cmp .ne (.cal 29 (.cons (.str [99, 111, 108, 117, 109, 110, 115]) (.cons (.var 2) (.cons (.var 7) .nil)))) (.lst (.cons (.str [116, 97, 98, 108, 101]) .nil))) (.seq (.ret (.bl false)) .nil) .nil) .nil)) (gs := []) (h := h)
    (LE sc (schD t rs) e4 e5 e6) rfl (fun x e => rfl) (badN t) (fun w hw => by
      have g := isReg_eq (badN_pure t w hw).2
      have c29 : callF P 100 19 29 [.str [99, 111, 108, 117, 109, 110, 115], schD t rs, w] h = .ok (.tl [.str [116, 97, 98, 108, 101]]) h :=
        kind_ex 18 17 3 (.inr (.inl rfl)) (.inr (.inr rfl)) (schD t rs) w h True (fun _ => trivial) (fun h' _ => ⟨rfl, g h', col_bad 10 ht rs hr hl w hw h'⟩) h (.inl rfl)
      have v : (LE sc (schD t rs) e4 e5 e6 (some w))[7]? = some (some w) := rfl
      have a1 : evs FF (.cons (.var 7) .nil) (LE sc (schD t rs) e4 e5 e6 (some w)) h = .ok [w] h := by
        simp only [evs, ev, v, z_bind_ok, g]
      exact z_okIf (z_evT (kindE (ds := [.str [99, 111, 108, 117, 109, 110, 115], schD t rs, w]) (z_cons (d := .str [99, 111, 108, 117, 109, 110, 115]) (h1 := h) (ev_str _ _ _ _) (z_cons (d := schD t rs) (h1 := h) (z_var rfl) a1)) c29) rfl)) e7
  exact ⟨e7', z_for (xs := badN t) (gs := []) (h1 := h) (z_itE (st10i sc ht rs e4 e5 e6 e7 h) rfl) q⟩
def one : D := .tup [.str [111, 110, 108, 121], .str [112], .str [97], .tup [.str [48]]]
include ht hr hl in
theorem st11 (e4 e5 e6 e7 : Option D) (h : Hd) : ev FF (.and (.cmp .eq (.cal 29 (.cons (.str [119, 105, 116, 104]) (.cons (.var 2) (.cons .non .nil)))) (.lst (.cons (.str [114, 117, 108, 101]) .nil))) (.cmp .eq (.cal 29 (.cons (.str [119, 105, 116, 104]) (.cons (.var 2) (.cons (.lst (.cons (.tup (.cons (.str [111, 110, 108, 121]) (.cons (.str [112]) (.cons (.str [97]) (.cons (.tup (.cons (.str [48]) .nil)) .nil))))) .nil)) .nil)))) (.lst (.cons (.str [114, 117, 108, 101]) .nil)))) (LE sc (schD t rs) e4 e5 e6 e7) h = .ok (.bl true) (h ++ [.lst [one]]) := by
  have c1 : callF P 100 19 29 [.str [119, 105, 116, 104], schD t rs, .non] h = .ok (.tl [.str [114, 117, 108, 101]]) h :=
    kind_ex 18 18 1 (.inr (.inr rfl)) (.inl rfl) (schD t rs) .non h True (fun _ => trivial) (fun h' _ => ⟨rfl, rfl, with_none 10 ht rs hr hl .non h' rfl (.inl rfl) h' (.inl rfl)⟩) h (.inl rfl)
  have hi : isTy (h ++ [Ob.lst [one]]) (.ref h.length) .tuple = some false := by
    have e : (h ++ [Ob.lst [one]])[h.length]? = some (.lst [one]) := by simp
    simp only [isTy, e]; rfl
  have c2 : callF P 100 19 29 [.str [119, 105, 116, 104], schD t rs, .ref h.length] (h ++ [.lst [one]]) = .ok (.tl [.str [114, 117, 108, 101]]) (h ++ [.lst [one]]) :=
    kind_ex 18 18 1 (.inr (.inr rfl)) (.inl rfl) (schD t rs) (.ref h.length) (h ++ [.lst [one]]) ((D.ref h.length).pure = true) (fun z => by simp only [D.pures, Bool.and_true, Bool.and_eq_true] at z; exact z.2) (fun h' o => ⟨rfl, rfl, with_none 10 ht rs hr hl (.ref h.length) (h ++ [.lst [one]]) hi (.inr rfl) h' o⟩) _ (.inl rfl)
  refine z_and1 (kindQ (ds := [.str [119, 105, 116, 104], schD t rs, .non]) (z_cons (d := .str [119, 105, 116, 104]) (h1 := h) (ev_str _ _ _ _) (z_cons (d := schD t rs) (h1 := h) (z_var rfl) (z_cons (d := .non) (h1 := h) (ev_non _ _ _) z_enil))) c1) rfl
    (kindQ (ds := [.str [119, 105, 116, 104], schD t rs, .ref h.length]) (z_cons (d := .str [119, 105, 116, 104]) (h1 := h) (ev_str _ _ _ _) (z_cons (d := schD t rs) (h1 := h) (z_var rfl) (z_cons (d := .tl [one]) (h1 := h) ?_ z_enil))) c2)
  show ev FF _ _ h = _
  unfold one
  simp only [ev, evs, evI, evT, tst, start, int?, List.map_cons, List.map_nil, List.cons_append, List.nil_append, List.replicate, List.set, List.getElem?_cons_succ, List.getElem?_cons_zero, z_bind_ok, z_bind_ex, z_bindN_ok, z_get_some, z_reg_non, z_reg_bl, z_reg_int, z_reg_str, z_reg_tup, z_reg_ref, z_reg_lck, z_reg_tl, z_reg_td, z_truth_non, z_truth_bl, z_truth_int, z_truth_tup, z_truth_tl, z_bif_int, z_bif_intb, z_bif_lent, z_bif_lenl, z_bif_lenk, z_bif_list, z_bif_tup, z_bin_add, z_bin_sub, z_cmp_lt, z_cmp_gt, z_cmp_le, z_cmp_ge, z_cmp_eq, z_cmp_ne, z_cmp_is, z_cmp_isn, z_cmp_inn, z_cmp_nin, z_eq_int, z_eq_str, z_is_bl, z_ix_tup, z_ix_tl, if_true, if_false, Bool.false_eq_true, z_isi_tup, z_isi_str, z_isi_tl, z_lim, z_lim0, z_lim1, z_lim2, z_lim3, z_lim4, z_lim5, Option.map_some, Bool.not_true, Bool.not_false, List.length_cons, List.length_nil, decide_true, decide_false, ne_eq, not_true_eq_false, not_false_eq_true]
include ht hr hl in
theorem law_tail (X : List D) : ∃ env' h', ex FF 100 (match b_law with
  | .seq _ (.seq _ (.seq _ r)) => r
  | _ => .nil) (LE sc (schD t rs) none none none none) [.lst X] = .ok (.rt (.bl true), env') h' := by
  obtain ⟨e4, e5, e6, q4⟩ := st4 sc ht rs hr hl X none none
  have q5 := st5 sc ht rs hr hl e4 e5 e6 [.lst X]
  obtain ⟨e7, q6⟩ := st6 sc X (schD t rs) e4 e5 e6
  obtain ⟨f7, q7⟩ := st7 sc ht rs hr hl X e4 e5 e6 e7
  obtain ⟨g7, q8⟩ := st8 sc ht rs X e4 e5 e6 f7
  generalize H3 X (rs.map rD) t = H at q8
  have q9 := st9 sc (schD t rs) e4 e5 e6 g7 H
  obtain ⟨h7, q10⟩ := st10 sc ht rs hr hl e4 e5 e6 g7 H
  have q11 := st11 sc ht rs hr hl e4 e5 e6 h7 H
  exact ⟨_, _, z_seq (z_for (st4i sc rs [.lst X]) q4) (z_seq (z_iff0 q5 z_nil) (z_seq q6 (z_seq q7 (z_seq q8 (z_seq (z_iff0 q9 z_nil) (z_seq q10 (z_seqr (by simp) (z_ret q11))))))))⟩
end
theorem law_true (ns : List Int) : callF P 100 20 lawI [.lck (ns.map D.int)] [] = .ok (.bl true) [] := by
  obtain ⟨ds, c1⟩ := draws_ok 18 ns
  obtain ⟨n, t, rs, ds', n1, n3, ht, hr, hl, c2⟩ := schema_ok 15 ds
  have c3 := great_ok 18 [.lst (List.map D.int ds')]
  obtain ⟨env', h', q⟩ := law_tail (some (.lck (ns.map D.int))) (T3_mem n1 n3 ht) rs hr (by omega) (List.map D.int ds')
  have pu : D.pures [D.lck (ns.map D.int)] = true := by simp only [D.pures, D.pure, pures_ints, Bool.and_self]
  have e : P[lawI]? = some ⟨1, 8, b_law⟩ := rfl
  refine callF_pu e rfl pu ?_ rfl
  have c1' : callF P 100 19 19 [.lck (ns.map D.int), .int 120] [] = .ok (.tl (ds.map D.int)) [] := c1
  have c2' : callF P 100 19 24 [.ref 0, .int 4] [.lst (ds.map D.int)] = .ok (schD t rs) [.lst (List.map D.int ds')] := c2
  have c3' : callF P 100 19 26 [] [.lst (List.map D.int ds')] = .ok gD [.lst (List.map D.int ds')] := c3
  have st : ex FF 100 b_law (start 8 [.lck (ns.map D.int)]) [] = .ok (.rt (.bl true), env') ([] ++ h') := by
    refine z_seq (z_asg (d := .tl (ds.map D.int)) (h1 := []) (env1 := [some (.lck (ns.map D.int)), some (.ref 0), none, none, none, none, none, none]) (z_calE (ds := [.lck (ns.map D.int), .int 120]) (h1 := []) (z_cons (d := .lck (ns.map D.int)) (h1 := []) (z_var rfl) (z_cons (d := .int 120) (h1 := []) (ev_int _ _ _ _) z_enil)) c1') rfl)
      (z_seq (z_asg (d := schD t rs) (h1 := [.lst (List.map D.int ds')]) (env1 := [some (.lck (ns.map D.int)), some (.ref 0), some (schD t rs), none, none, none, none, none]) (z_calE (ds := [.ref 0, .int 4]) (h1 := [.lst (ds.map D.int)]) (z_cons (d := .ref 0) (h1 := [.lst (ds.map D.int)]) (z_var rfl) (z_cons (d := .int 4) (h1 := [.lst (ds.map D.int)]) (ev_int _ _ _ _) z_enil)) c2') rfl)
      (z_seq (z_asg (d := gD) (h1 := [.lst (List.map D.int ds')]) (env1 := LE (some (.lck (ns.map D.int))) (schD t rs) none none none none) (z_calE (ds := []) (h1 := [.lst (List.map D.int ds')]) z_enil c3') rfl) q))
  rw [z_run st]
  exact fin_dropp rfl
theorem law_holds : PySem.Challenge.rw_chasehouse_k00_schemas_judged.Holds := holds_of fun ns _ => ⟨[], law_true ns⟩
end K00
end
theorem PySem.Challenge.cw_chasehouse_k00_schemas_judged_holds : PySem.Challenge.rw_chasehouse_k00_schemas_judged.Holds := by
  exact K00.law_holds
