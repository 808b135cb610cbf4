import PyProof.Rows.All
import Wide.All
import OpenK.AllK
import Wide.FinOn
import HandS.ForMost
import HandS.Walk
import HandS.Flow
import HandS.Wide
import HandS.IsInst
import HandS.TupAny
import HandS.Style
import HandS.Conv
import HandS.More
import HandS.Zip
import HandS.Rev
import HandS.NoneIn
import HandS.Iter
import HandS.EndBits
import PySem.Challenge.RW_beltrow_k01_words_and_waits
set_option Elab.async false
set_option linter.all false
set_option maxRecDepth 100000
set_option maxHeartbeats 4000000
set_option autoImplicit false
/-! ## a small semantics of our own: values, a heap by numbers, expressions, statements -/
namespace Bp
open PySem L2

inductive D where
  | non | bl (b : Bool) | int (i : Int) | str (s : Str) | tup (ds : List D) | ref (n : Nat)

inductive O where
  | lst (ds : List D)
  | dK (kvs : List (Key × D))
  | ins (c : Str) (fs : List (Str × D))
  | rl (ds : List D)
  | rd (kvs : List (Key × D))

abbrev Hh := List O
abbrev En := List (Option D)
abbrev Qd := D → Hh → Prop
abbrev Xq := Str → Option D → Hh → Prop

inductive Bo where | add | sub | mul | fdiv | mod | pow | xor
inductive Co where | eq | ne | lt | le | gt | ge | is | isnot | isin | notin
inductive Bi where | len | list | tuple | divmod | abs | int | max2 | min2 | all | any | sum | max1 | min1 | str | bool
inductive Mt where | append | extend | insert | pop | popAt | index | reverse | clear | remove | count | get2 | get1 | dpop2

inductive Tn where | non | int | bool | str | list | tuple | dict

mutual
inductive E where
  | var (i : Nat)
  | non | bl (b : Bool) | int (i : Int) | str (s : Str)
  | glob (x : Str)
  | bin (o : Bo) (a b : E)
  | neg (a : E)
  | not (a : E)
  | bop (and : Bool) (es : Es)
  | cmp (o : Co) (a b : E)
  | cmp2 (o o' : Co) (a b c : E)
  | ite (c a b : E)
  | tup (es : Es)
  | lst (es : Es)
  | dct (kvs : Es)
  | tab (x : Str) (i : E)
  | tabG (x : Str) (i d : E)
  | tabIn (neg : Bool) (x : Str) (i : E)
  | idx (a i : E)
  | sli (a : E) (lo hi : Oe)
  | rev (a : E)
  | call (f : Str) (es : Es)
  | bi (b : Bi) (es : Es)
  | rng (tup : Bool) (a b : E)
  | mt (m : Mt) (o : E) (es : Es)
  | isi (e : E) (ts : List Tn)
  | comp (elt : E) (t : Tg) (it : Iv) (c : Oe) (own : List (Str × Nat))
inductive Es where | nil | cons (e : E) (es : Es)
inductive Oe where | none | some (e : E)
inductive Iv where
  | seq (e : E) | rng1 (a : E) | rng2 (a b : E) | enu (e : E) | zip (a b : E) | rvs (e : E) | keys (i : Nat)
inductive Tg where
  | nm (i : Nat) | tp (ts : Tgs) | sub (o i : E)
inductive Tgs where | nil | cons (t : Tg) (ts : Tgs)
end

mutual
inductive S where
  | asg (t : Tg) (e : E)
  | setc (i : Nat) (elt : E) (t : Tg) (it : Iv) (c : Oe) (own : List (Str × Nat))
  | par (i j : Nat) (a b : E)
  | par3 (i j l : Nat) (a b c : E)
  | aug (i : Nat) (o : Bo) (e : E)
  | expr (e : E)
  | ret (e : E)
  | ite (c : E) (a b : Ss)
  | loop (c : E) (b : Ss)
  | each (t : Tg) (it : Iv) (b : Ss)
  | eachK (t : Tg) (i : Nat) (b : Ss)
  | brk | cont | pass
inductive Ss where | nil | cons (s : S) (ss : Ss)
end

/-! ### values -/
def elems (h : Hh) : D → Option (List D)
  | .tup ds => some ds
  | .ref n => match h[n]? with
    | some (.lst ds) => some ds
    | some (.rl ds) => some ds
    | _ => none
  | _ => none

/-- the truth of a value -/
def tru (h : Hh) : D → (Bool → Prop) → Prop
  | .non, Q => Q false
  | .bl b, Q => Q b
  | .int i, Q => Q (i != 0)
  | .str s, Q => s.length ≤ 100000 ∧ Q (s.length != 0)
  | .tup ds, Q => Q (!ds.isEmpty)
  | .ref n, Q => (∃ ds, h[n]? = some (.lst ds) ∧ Q (!ds.isEmpty)) ∨ (∃ ds, h[n]? = some (.rl ds) ∧ Q (!ds.isEmpty)) ∨ ∃ kvs, h[n]? = some (.dK kvs) ∧ Q (!kvs.isEmpty)

mutual
/-- data read off the heap -/
inductive Pd (h : Hh) : D → PyData → Prop
  | non : Pd h .non .none
  | bl (b : Bool) : Pd h (.bl b) (.bool b)
  | int (i : Int) : Pd h (.int i) (.int i)
  | str (x : Str) : Pd h (.str x) (.str x)
  | tup {ds : List D} {ps : List PyData} : Pds h ds ps → Pd h (.tup ds) (.tuple ps)
  | lst {n : Nat} {ds : List D} {ps : List PyData} : h[n]? = some (.lst ds) → Pds h ds ps → Pd h (.ref n) (.list ps)
  | rl {n : Nat} {ds : List D} {ps : List PyData} : h[n]? = some (.rl ds) → Pds h ds ps → Pd h (.ref n) (.list ps)
inductive Pds (h : Hh) : List D → List PyData → Prop
  | nil : Pds h [] []
  | cons {d : D} {ds : List D} {p : PyData} {ps : List PyData} : Pd h d p → Pds h ds ps → Pds h (d :: ds) (p :: ps)
end

def flat : D → Bool
  | .non => true | .bl _ => true | .int _ => true | .str _ => true | _ => false
def eqD : D → D → Bool
  | .non, .non => true
  | .bl a, .bl b => a == b
  | .bl a, .int b => (if a then 1 else 0) == b
  | .int a, .bl b => a == (if b then 1 else 0)
  | .int a, .int b => a == b
  | .str a, .str b => a == b
  | _, _ => false

def keyOf : D → Option Key
  | .int i => some (.inl i)
  | .str s => some (.inr s)
  | _ => none
def getK {κ : Type} [DecidableEq κ] (kvs : List (κ × D)) (k : κ) : Option D := (kvs.find? fun kv => decide (kv.1 = k)).map (·.2)
def putD {κ : Type} [DecidableEq κ] (kvs : List (κ × D)) (k : κ) (v : D) : List (κ × D) :=
  if kvs.any (fun kv => decide (kv.1 = k)) then kvs.map (fun kv => if kv.1 = k then (kv.1, v) else kv) else kvs ++ [(k, v)]

def mergeD (kvs more : List (Key × D)) : List (Key × D) := more.foldl (fun acc kv => putD acc kv.1 kv.2) kvs
/-- keys and values by turns -/
def pairUp : List D → Option (List (Key × D))
  | [] => some []
  | [_] => none
  | a :: b :: r => match keyOf a, pairUp r with
    | some k, some ps => some ((k, b) :: ps)
    | _, _ => none
def keyD : Key → D
  | .inl i => .int i
  | .inr s => .str s
def cutD (xs : List D) (lo hi : Option Int) : List D := (xs.drop (HT.sIx xs.length 0 lo)).take (HT.sIx xs.length xs.length hi - HT.sIx xs.length 0 lo)

/-! ### operators -/
def wBo : Bo → D → D → Hh → Qd → Prop
  | .add, .int i, .int j, h, Q => Q (.int (i + j)) h
  | .add, .str i, .str j, h, Q => i.length + j.length ≤ 100000 ∧ Q (.str (i ++ j)) h
  | .add, .tup a, .tup b, h, Q => a.length + b.length ≤ 100000 ∧ Q (.tup (a ++ b)) h
  | .add, .ref a, .ref b, h, Q => ∃ xs ys, h[a]? = some (.lst xs) ∧ h[b]? = some (.lst ys) ∧ xs.length + ys.length ≤ 100000 ∧ Q (.ref h.length) (h ++ [.lst (xs ++ ys)])
  | .sub, .int i, .int j, h, Q => Q (.int (i - j)) h
  | .mul, .int i, .int j, h, Q => (CMul i j ∨ CMulW i j) ∧ Q (.int (i * j)) h
  | .mul, .ref a, .int k, h, Q => ∃ xs, h[a]? = some (.lst xs) ∧ -1000000 ≤ k ∧ k ≤ 1000000 ∧ xs.length * k.toNat ≤ 100000 ∧ Q (.ref h.length) (h ++ [.lst (List.replicate k.toNat xs).flatten])
  | .fdiv, .int i, .int j, h, Q => (CDiv i j ∨ CDivW i j) ∧ Q (.int (i / j)) h
  | .mod, .int i, .int j, h, Q => 0 < j ∧ Q (.int (i % j)) h
  | .pow, .int i, .int j, h, Q => CPow i j ∧ Q (.int (i ^ j.toNat)) h
  | .xor, .int i, .int j, h, Q => Q (.int (Builtin.bitXor i j)) h
  | _, _, _, _, _ => False

/-- x op= y -/
def wAug : Bo → D → D → Hh → Qd → Prop
  | .add, .int i, .int j, h, Q => Q (.int (i + j)) h
  | .add, .str i, .str j, h, Q => i.length + j.length ≤ 100000 ∧ Q (.str (i ++ j)) h
  | .sub, .int i, .int j, h, Q => Q (.int (i - j)) h
  | .mul, .int i, .int j, h, Q => CMul i j ∧ Q (.int (i * j)) h
  | .fdiv, .int i, .int j, h, Q => CDiv i j ∧ Q (.int (i / j)) h
  | .mod, .int i, .int j, h, Q => 0 < j ∧ Q (.int (i % j)) h
  | _, _, _, _, _ => False
/-- == of anything: scalars at once, else by the data -/
def wEq (d e : D) (h : Hh) (Q : Bool → Prop) : Prop :=
  match d, e with
  | .int i, .int j => Q (decide (i = j))
  | .str i, .str j => Q (decide (i = j))
  | .bl i, .bl j => Q (decide (i = j))
  | .non, .non => Q true
  | .non, .int _ => Q false
  | .int _, .non => Q false
  | .non, .str _ => Q false
  | .str _, .non => Q false
  | .non, .bl _ => Q false
  | .bl _, .non => Q false
  | .int _, .str _ => Q false
  | .str _, .int _ => Q false
  | .bl _, .str _ => Q false
  | .str _, .bl _ => Q false
  | d, e => ∃ p q, Pd h d p ∧ Pd h e q ∧ SeqAt.shaped p = true ∧ SeqAt.shaped q = true ∧ Q (PyData.eqv p q)

def wIn (x c : D) (h : Hh) (Q : Bool → Prop) : Prop :=
  match c with
  | .str z => ∃ s, x = .str ⟨#[s]⟩ ∧ Q (decide (s ∈ z.cps.toList))
  | .tup ds => flat x = true ∧ ds.all flat = true ∧ Q (ds.any fun y => eqD y x)
  | .ref n => (∃ ds, (h[n]? = some (.lst ds) ∨ h[n]? = some (.rl ds)) ∧ flat x = true ∧ ds.all flat = true ∧ Q (ds.any fun y => eqD y x)) ∨
      (∃ kvs k, (h[n]? = some (.dK kvs) ∨ h[n]? = some (.rd kvs)) ∧ keyOf x = some k ∧ Q (getK kvs k).isSome)
  | _ => False

def wCo : Co → D → D → Hh → (Bool → Prop) → Prop
  | .eq, d, e, h, Q => wEq d e h Q
  | .ne, d, e, h, Q => wEq d e h fun b => Q (!b)
  | .lt, .int i, .int j, _, Q => Q (decide (i < j))
  | .le, .int i, .int j, _, Q => Q (decide (i ≤ j))
  | .gt, .int i, .int j, _, Q => Q (decide (j < i))
  | .ge, .int i, .int j, _, Q => Q (decide (j ≤ i))
  | .lt, .str i, .str j, _, Q => Q (decide (i.cps.toList < j.cps.toList))
  | .is, d, .non, _, Q => Q (match d with | .non => true | _ => false)
  | .isnot, d, .non, _, Q => Q (match d with | .non => false | _ => true)
  | .isin, x, c, h, Q => wIn x c h Q
  | .notin, x, c, h, Q => wIn x c h fun b => Q (!b)
  | _, _, _, _, _ => False

def wIdx (a i : D) (h : Hh) (Q : Qd) : Prop :=
  match a with
  | .str z => ∃ k c, i = .int k ∧ z.length ≤ 100000 ∧ atI z.cps.toList k = some c ∧ Q (.str ⟨#[c]⟩) h
  | .tup ds => ∃ k v, i = .int k ∧ atI ds k = some v ∧ Q v h
  | .ref n => (∃ ds k v, (h[n]? = some (.lst ds) ∨ h[n]? = some (.rl ds)) ∧ i = .int k ∧ atI ds k = some v ∧ Q v h) ∨
      (∃ kvs k v, (h[n]? = some (.dK kvs) ∨ h[n]? = some (.rd kvs)) ∧ keyOf i = some k ∧ getK kvs k = some v ∧ Q v h)
  | _ => False

def wSli (a : D) (lo hi : Option Int) (h : Hh) (Q : Qd) : Prop :=
  match a with
  | .str z => z.length ≤ 100000 ∧ Q (.str (cutS z lo hi)) h
  | .tup ds => Q (.tup (cutD ds lo hi)) h
  | .ref n => ∃ ds, (h[n]? = some (.lst ds) ∨ h[n]? = some (.rl ds)) ∧ Q (.ref h.length) (h ++ [.lst (cutD ds lo hi)])
  | _ => False

def wRev (a : D) (h : Hh) (Q : Qd) : Prop :=
  match a with
  | .ref n => ∃ ds, h[n]? = some (.lst ds) ∧ Q (.ref h.length) (h ++ [.lst ds.reverse])
  | _ => False

def wBi : Bi → List D → Hh → Qd → Prop
  | .len, [.str s], h, Q => s.length ≤ 100000 ∧ Q (.int s.length) h
  | .len, [d], h, Q => (∃ ds, elems h d = some ds ∧ Q (.int ds.length) h) ∨ ∃ n kvs, d = .ref n ∧ h[n]? = some (.dK kvs) ∧ Q (.int kvs.length) h
  | .list, [d], h, Q => ∃ ds, elems h d = some ds ∧ Q (.ref h.length) (h ++ [.lst ds])
  | .tuple, [d], h, Q => ∃ ds, elems h d = some ds ∧ Q (.tup ds) h
  | .divmod, [.int i, .int j], h, Q => CDiv i j ∧ Q (.tup [.int (i / j), .int (i % j)]) h
  | .abs, [.int i], h, Q => Q (.int (if i < 0 then -i else i)) h
  | .int, [.int i], h, Q => Q (.int i) h
  | .int, [.bl b], h, Q => Q (.int (if b then 1 else 0)) h
  | .bool, [.int i], h, Q => Q (.bl (i != 0)) h
  | .bool, [.bl b], h, Q => Q (.bl b) h
  | .max2, [.int i, .int j], h, Q => Q (.int (if j > i then j else i)) h
  | .min2, [.int i, .int j], h, Q => Q (.int (if j < i then j else i)) h
  | .all, [.ref n], h, Q => ∃ bs : List Bool, h[n]? = some (.lst (bs.map D.bl)) ∧ Q (.bl (bs.all id)) h
  | .any, [.ref n], h, Q => ∃ bs : List Bool, h[n]? = some (.lst (bs.map D.bl)) ∧ Q (.bl (bs.any id)) h
  | .sum, [.ref n], h, Q => ∃ is : List Int, h[n]? = some (.lst (is.map D.int)) ∧ Q (.int is.sum) h
  | .max1, [.ref n], h, Q => ∃ is : List Int, h[n]? = some (.lst (is.map D.int)) ∧ 0 < is.length ∧ ∀ m, m ∈ is → (∀ y ∈ is, y ≤ m) → Q (.int m) h
  | .min1, [.ref n], h, Q => ∃ is : List Int, h[n]? = some (.lst (is.map D.int)) ∧ 0 < is.length ∧ ∀ m, m ∈ is → (∀ y ∈ is, m ≤ y) → Q (.int m) h
  | .str, [.int i], h, Q => i.natAbs.log2 < 1920 ∧ Q (.str (toString i)) h
  | _, _, _, _ => False

def wMt : Mt → D → List D → Hh → Qd → Prop
  | .append, .ref n, [d], h, Q => ∃ xs, h[n]? = some (.lst xs) ∧ xs.length < 100000 ∧ Q .non (h.set n (.lst (xs ++ [d])))
  | .extend, .ref n, [.ref b], h, Q => ∃ xs ys, h[n]? = some (.lst xs) ∧ h[b]? = some (.lst ys) ∧ xs.length + ys.length ≤ 100000 ∧ Q .non (h.set n (.lst (xs ++ ys)))
  | .pop, .ref n, [], h, Q => ∃ xs y, h[n]? = some (.lst xs) ∧ xs[xs.length - 1]? = some y ∧ Q y (h.set n (.lst xs.dropLast))
  | .popAt, .ref n, [.int i], h, Q => ∃ xs k y, h[n]? = some (.lst xs) ∧ -100000 ≤ i ∧ i ≤ 100000 ∧ seqIndex? i xs.length = some k ∧ xs[k]? = some y ∧ Q y (h.set n (.lst (xs.eraseIdx k)))
  | .reverse, .ref n, [], h, Q => ∃ xs, h[n]? = some (.lst xs) ∧ Q .non (h.set n (.lst xs.reverse))
  | .clear, .ref n, [], h, Q => ∃ xs, h[n]? = some (.lst xs) ∧ Q .non (h.set n (.lst []))
  | .insert, .ref n, [.int i, d], h, Q => ∃ xs, h[n]? = some (.lst xs) ∧ 0 ≤ i ∧ i ≤ xs.length ∧ xs.length < 100000 ∧ Q .non (h.set n (.lst (xs.take i.toNat ++ d :: xs.drop i.toNat)))
  | .get2, .ref n, [k, x], h, Q => ∃ kvs key, (h[n]? = some (.dK kvs) ∨ h[n]? = some (.rd kvs)) ∧ keyOf k = some key ∧ Q ((getK kvs key).getD x) h
  | _, _, _, _, _ => False

/-- what a method is asked of -/
def mtTy (m : Mt) (x : D) (h : Hh) : Prop :=
  match x with
  | .ref n => match m with
    | .get2 => ∃ kvs, h[n]? = some (.dK kvs)
    | _ => ∃ ds, h[n]? = some (.lst ds)
  | _ => False
/-- isinstance by built-in classes -/
def tyD (h : Hh) : D → Option Tn
  | .non => some .non
  | .bl _ => some .bool
  | .int _ => some .int
  | .str _ => some .str
  | .tup _ => some .tuple
  | .ref n => match h[n]? with
    | some (.lst _) => some .list
    | some (.rl _) => some .list
    | some (.dK _) => some .dict
    | _ => none
def isT : Tn → Tn → Bool
  | .non, .non => true
  | .int, .int => true
  | .bool, .bool => true
  | .bool, .int => true
  | .str, .str => true
  | .list, .list => true
  | .tuple, .tuple => true
  | .dict, .dict => true
  | _, _ => false

/-! ### expressions -/
structure Cn where
  fs : Str → List D → Hh → Qd → Xq → Prop
  gl : Str → Option D
  isf : Str → Bool
  td : Str → Option (List (Str × D)) := fun _ => none

/-- what is walked: the items, and what must stand still -/
structure Src where
  items : List D
  still : List (Nat × O) := []
def Src.ok (s : Src) (h : Hh) : Prop := ∀ p ∈ s.still, h[p.1]? = some p.2

def srcL (d : D) (h : Hh) (Q : Src → Hh → Prop) : Prop :=
  match d with
  | .ref n => (∃ ds, h[n]? = some (.lst ds) ∧ Q ⟨ds, [(n, .lst ds)]⟩ h) ∨ (∃ ds, h[n]? = some (.rl ds) ∧ Q ⟨ds, [(n, .rl ds)]⟩ h)
  | _ => False
def srcT (d : D) (h : Hh) (Q : Src → Hh → Prop) : Prop :=
  match d with
  | .tup ds => Q ⟨ds, []⟩ h
  | _ => False
def srcOf (d : D) (h : Hh) (Q : Src → Hh → Prop) : Prop :=
  match d with
  | .tup ds => Q ⟨ds, []⟩ h
  | .str z => Q ⟨z.cps.toList.map fun c => D.str ⟨#[c]⟩, []⟩ h
  | .ref n => (∃ ds, h[n]? = some (.lst ds) ∧ Q ⟨ds, [(n, .lst ds)]⟩ h) ∨ (∃ ds, h[n]? = some (.rl ds) ∧ Q ⟨ds, [(n, .rl ds)]⟩ h)
  | _ => False
def srcZ (x y : D) (h : Hh) (Q : Src → Hh → Prop) : Prop :=
  (srcL x h fun s h3 => srcL y h3 fun s' h4 => Q ⟨(s.items.zip s'.items).map fun p => .tup [p.1, p.2], s.still ++ s'.still⟩ h4) ∨
  (srcT x h fun s h3 => srcT y h3 fun s' h4 => Q ⟨(s.items.zip s'.items).map fun p => .tup [p.1, p.2], []⟩ h4)
def srcR (x : D) (h : Hh) (Q : Src → Hh → Prop) : Prop :=
  (srcL x h fun s h2 => Q ⟨s.items.reverse, s.still⟩ h2) ∨ (srcT x h fun s h2 => Q ⟨s.items.reverse, []⟩ h2)

/-- a walk over items: G holds at each turn and at the end -/
def forW (G : Hh → Prop) (turn : D → En → Hh → (En → Hh → Prop) → Prop) (done : En → Hh → Prop) : List D → En → Hh → Prop
  | [], e, h => G h ∧ done e h
  | d :: ds, e, h => G h ∧ turn d e h (fun e' h' => forW G turn done ds e' h')

def compW (G : Hh → Prop) (p : Nat) (turn : D → Hh → (Option D → Hh → Prop) → Prop) (done : Hh → Prop) : List D → Hh → Prop
  | [], h => G h ∧ done h
  | d :: ds, h => G h ∧ turn d h fun r h' => match r with
    | none => compW G p turn done ds h'
    | some y => ∃ acc, h'[p]? = some (.lst acc) ∧ acc.length < 100000 ∧ compW G p turn done ds (h'.set p (.lst (acc ++ [y])))

/-- the slots of a comprehension's own names -/
def tgsLen : Tgs → Nat
  | .nil => 0
  | .cons _ ts => tgsLen ts + 1
def wipeE (e : En) : List Nat → En
  | [] => e
  | v :: vs => (wipeE e vs).set v none

section
variable (C : Cn)
mutual
def wpE : E → Xq → En → Hh → Qd → Prop
  | .var i, X, e, h, Q => ∃ d, e[i]? = some (some d) ∧ Q d h
  | .non, X, _, h, Q => Q .non h
  | .bl b, X, _, h, Q => Q (.bl b) h
  | .int i, X, _, h, Q => Q (.int i) h
  | .str s, X, _, h, Q => Q (.str s) h
  | .glob x, X, _, h, Q => ∃ d, C.gl x = some d ∧ Q d h
  | .bin o a b, X, e, h, Q => wpE a X e h fun x h1 => wpE b X e h1 fun y h2 => wBo o x y h2 Q
  | .neg a, X, e, h, Q => wpE a X e h fun x h1 => ∃ i, x = .int i ∧ Q (.int (-i)) h1
  | .not a, X, e, h, Q => wpE a X e h fun x h1 => tru h1 x fun b => Q (.bl (!b)) h1
  | .bop k es, X, e, h, Q => wpB k es X e h Q
  | .cmp o a b, X, e, h, Q => wpE a X e h fun x h1 => wpE b X e h1 fun y h2 => wCo o x y h2 fun r => Q (.bl r) h2
  | .cmp2 o o' a b c, X, e, h, Q => wpE a X e h fun x h1 => wpE b X e h1 fun y h2 => wCo o x y h2 fun r => if r = true then wpE c X e h2 fun z h3 => wCo o' y z h3 fun r' => Q (.bl r') h3 else Q (.bl false) h2
  | .ite c a b, X, e, h, Q => wpE c X e h fun x h1 => tru h1 x fun r => if r = true then wpE a X e h1 Q else wpE b X e h1 Q
  | .tup es, X, e, h, Q => wpEs es X e h fun ds h1 => ds.length ≤ 100000 ∧ Q (.tup ds) h1
  | .lst es, X, e, h, Q => wpEs es X e h fun ds h1 => ds.length ≤ 100000 ∧ Q (.ref h1.length) (h1 ++ [.lst ds])
  | .dct kvs, X, e, h, Q => wpEs kvs X e (h ++ [.dK []]) fun ds h2 => h2[h.length]? = some (.dK []) ∧ ∃ ps, pairUp ds = some ps ∧ ps.length ≤ 15 ∧ Q (.ref h.length) (h2.set h.length (.dK (mergeD [] ps)))
  | .tab x i, X, e, h, Q => ∃ kvs, C.td x = some kvs ∧ wpE i X e h fun y h1 => ∃ z v, y = .str z ∧ kvs.lookup z = some v ∧ Q v h1
  | .tabG x i d, X, e, h, Q => ∃ kvs, C.td x = some kvs ∧ wpE i X e h fun y h1 => wpE d X e h1 fun u h2 => ∃ z, y = .str z ∧ Q ((kvs.lookup z).getD u) h2
  | .tabIn neg x i, X, e, h, Q => ∃ kvs, C.td x = some kvs ∧ wpE i X e h fun y h1 => ∃ z, y = .str z ∧ Q (.bl (if neg = true then !(kvs.lookup z).isSome else (kvs.lookup z).isSome)) h1
  | .idx a i, X, e, h, Q => wpE a X e h fun x h1 => wpE i X e h1 fun y h2 => wIdx x y h2 Q
  | .sli a lo hi, X, e, h, Q => wpE a X e h fun x h1 => wpO lo X e h1 fun l h2 => wpO hi X e h2 fun u h3 => wSli x l u h3 Q
  | .rev a, X, e, h, Q => wpE a X e h fun x h1 => wRev x h1 Q
  | .call f es, X, e, h, Q => C.isf f = true ∧ wpEs es X e h fun ds h1 => C.fs f ds h1 Q X
  | .bi b es, X, e, h, Q => wpEs es X e h fun ds h1 => wBi b ds h1 Q
  | .rng k a b, X, e, h, Q => wpE a X e h fun x h1 => wpE b X e h1 fun y h2 => ∃ i j, x = .int i ∧ y = .int j ∧ (-1000000 ≤ i ∧ i ≤ 1000000 ∧ -1000000 ≤ j ∧ j ≤ 1000000) ∧
      if k = true then Q (.tup ((List.range (j - i).toNat).map fun n : Nat => D.int (i + n))) h2 else Q (.ref h2.length) (h2 ++ [.lst ((List.range (j - i).toNat).map fun n : Nat => D.int (i + n))])
  | .mt m o es, X, e, h, Q => wpE o X e h fun x h1 => mtTy m x h1 ∧ wpEs es X e h1 fun ds h2 => wMt m x ds h2 Q
  | .isi a ts, X, e, h, Q => wpE a X e h fun x h1 => ∃ t, tyD h1 x = some t ∧ Q (.bl (ts.any (isT t))) h1
  | .comp elt t it c own, X, e, h, Q => wpI it X e h fun s h1 =>
      compW s.ok h1.length (fun d h2 k => wpG t (fun _ _ _ => False) d (wipeE e (own.map (·.2))) h2 fun e3 h3 => wpC c (fun _ _ _ => False) e3 h3 fun r h4 => if r = true then wpE elt (fun _ _ _ => False) e3 h4 fun y h5 => k (some y) h5 else k none h4) (Q (.ref h1.length)) s.items (h1 ++ [.lst []])
def wpB : Bool → Es → Xq → En → Hh → Qd → Prop
  | _, .nil, X, _, _, _ => False
  | _, .cons a .nil, X, e, h, Q => wpE a X e h Q
  | k, .cons a (.cons b r), X, e, h, Q => wpE a X e h fun x h1 => tru h1 x fun t => if t = k then wpB k (.cons b r) X e h1 Q else Q x h1
def wpEs : Es → Xq → En → Hh → (List D → Hh → Prop) → Prop
  | .nil, X, _, h, Q => Q [] h
  | .cons a r, X, e, h, Q => wpE a X e h fun x h1 => wpEs r X e h1 fun xs h2 => Q (x :: xs) h2
def wpO : Oe → Xq → En → Hh → (Option Int → Hh → Prop) → Prop
  | .none, X, _, h, Q => Q none h
  | .some a, X, e, h, Q => wpE a X e h fun x h1 => ∃ i, x = .int i ∧ Q (some i) h1
def wpC : Oe → Xq → En → Hh → (Bool → Hh → Prop) → Prop
  | .none, X, _, h, Q => Q true h
  | .some a, X, e, h, Q => wpE a X e h fun x h1 => tru h1 x fun r => Q r h1
def wpI : Iv → Xq → En → Hh → (Src → Hh → Prop) → Prop
  | .seq a, X, e, h, Q => wpE a X e h fun x h1 => srcOf x h1 Q
  | .rng1 a, X, e, h, Q => wpE a X e h fun x h1 => ∃ j, x = .int j ∧ -1000000 ≤ j ∧ j ≤ 1000000 ∧ Q ⟨(List.range j.toNat).map fun i : Nat => D.int i, []⟩ h1
  | .rng2 a b, X, e, h, Q => wpE a X e h fun x h1 => wpE b X e h1 fun y h2 => ∃ i j, x = .int i ∧ y = .int j ∧ (-1000000 ≤ i ∧ i ≤ 1000000 ∧ -1000000 ≤ j ∧ j ≤ 1000000) ∧ Q ⟨(List.range (j - i).toNat).map fun k : Nat => D.int (i + k), []⟩ h2
  | .enu a, X, e, h, Q => wpE a X e h fun x h1 => srcL x h1 fun s h2 => Q ⟨s.items.zipIdx.map fun p => .tup [.int (p.2 : Nat), p.1], s.still⟩ h2
  | .zip a b, X, e, h, Q => wpE a X e h fun x h1 => wpE b X e h1 fun y h2 => srcZ x y h2 Q
  | .rvs a, X, e, h, Q => wpE a X e h fun x h1 => srcR x h1 Q
  | .keys i, X, e, h, Q => ∃ n kvs, e[i]? = some (some (.ref n)) ∧ h[n]? = some (.dK kvs) ∧ False
def wpG : Tg → Xq → D → En → Hh → (En → Hh → Prop) → Prop
  | .nm i, X, d, e, h, Q => Q (e.set i (some d)) h
  | .tp ts, X, d, e, h, Q => ∃ ds, elems h d = some ds ∧ ds.length = tgsLen ts ∧ wpGs ts X ds e h Q
  | .sub o i, X, d, e, h, Q => wpE o X e h fun x h1 => wpE i X e h1 fun y h2 => ∃ n, x = .ref n ∧
      ((∃ xs k j, h2[n]? = some (.lst xs) ∧ y = .int k ∧ ixN xs.length k = some j ∧ Q e (h2.set n (.lst (xs.set j d)))) ∨
       ∃ kvs k, h2[n]? = some (.dK kvs) ∧ keyOf y = some k ∧ kvs.length < 100000 ∧ Q e (h2.set n (.dK (putD kvs k d))))
def wpGs : Tgs → Xq → List D → En → Hh → (En → Hh → Prop) → Prop
  | .nil, X, ds, e, h, Q => ds = [] ∧ Q e h
  | .cons t ts, X, ds, e, h, Q => ∃ d r, ds = d :: r ∧ wpG t X d e h fun e1 h1 => wpGs ts X r e1 h1 Q
end
end

/-- a test -/
def wpT (C : Cn) (X : Xq) (a : E) (e : En) (h : Hh) (Q : Bool → Hh → Prop) : Prop := wpE C a X e h fun x h1 => tru h1 x fun b => Q b h1

/-! ### statements -/
structure Po where
  nx : En → Hh → Prop
  rt : Qd
  bk : En → Hh → Prop := fun _ _ => False
  ct : En → Hh → Prop := fun _ _ => False
  ex : Xq := fun _ _ _ => False

section
variable (C : Cn)
mutual
def wpS : S → En → Hh → Po → Prop
  | .asg t a, e, h, P => wpE C a P.ex e h fun x h1 => wpG C t P.ex x e h1 P.nx
  | .setc i elt t it c own, e, h, P => wpE C (.comp elt t it c own) P.ex e h fun x h1 => P.nx (e.set i (some x)) h1
  | .par i j a b, e, h, P => wpE C a P.ex e h fun x h1 => wpE C b P.ex e h1 fun y h2 => P.nx ((e.set i (some x)).set j (some y)) h2
  | .par3 i j l a b c, e, h, P => wpE C a P.ex e h fun x h1 => wpE C b P.ex e h1 fun y h2 => wpE C c P.ex e h2 fun z h3 => P.nx (((e.set i (some x)).set j (some y)).set l (some z)) h3
  | .aug i o a, e, h, P => ∃ x, e[i]? = some (some x) ∧ wpE C a P.ex e h fun y h1 => wAug o x y h1 fun z h2 => P.nx (e.set i (some z)) h2
  | .expr a, e, h, P => wpE C a P.ex e h fun _ h1 => P.nx e h1
  | .ret a, e, h, P => wpE C a P.ex e h P.rt
  | .ite c a b, e, h, P => wpT C P.ex c e h fun r h1 => if r = true then wpSs a e h1 P else wpSs b e h1 P
  | .loop c b, e, h, P => ∃ W : Nat → En → Hh → Prop, (∃ m, W m e h) ∧ ∀ m e h, W m e h → wpT C P.ex c e h fun r h1 =>
      if r = true then wpSs b e h1 { P with nx := fun e' h' => ∃ m', m' < m ∧ W m' e' h', ct := fun e' h' => ∃ m', m' < m ∧ W m' e' h', bk := P.nx } else P.nx e h1
  | .each t it b, e, h, P => wpI C it P.ex e h fun s h1 => forW s.ok (fun d e2 h2 k => wpG C t P.ex d e2 h2 fun e3 h3 => wpSs b e3 h3 { P with nx := k, ct := k, bk := P.nx }) P.nx s.items e h1
  | .eachK t i b, e, h, P => ∃ n kvs, e[i]? = some (some (.ref n)) ∧ h[n]? = some (.dK kvs) ∧
      forW (fun h' => h'[n]? = some (.rd kvs)) (fun d e2 h2 k => wpG C t P.ex d e2 h2 fun e3 h3 => wpSs b e3 h3 { P with nx := k, ct := k, bk := fun e' h' => h'[n]? = some (.rd kvs) ∧ P.nx e' (h'.set n (.dK kvs)), rt := fun d' h' => h'[n]? = some (.rd kvs) ∧ P.rt d' (h'.set n (.dK kvs)) })
        (fun e' h' => P.nx e' (h'.set n (.dK kvs))) (kvs.map fun kv => keyD kv.1) e (h.set n (.rd kvs))
  | .brk, e, h, P => P.bk e h
  | .cont, e, h, P => P.ct e h
  | .pass, e, h, P => P.nx e h
def wpSs : Ss → En → Hh → Po → Prop
  | .nil, e, h, P => P.nx e h
  | .cons s r, e, h, P => wpS s e h { P with nx := fun e1 h1 => wpSs r e1 h1 P }
end
end

/-! ### a table of defs -/
structure Fn where
  ps : List Str
  ns : List Str
  body : Ss
structure Tb where
  fns : List (Str × Fn)
  gls : List (Str × D)
  tds : List (Str × List (Str × D)) := []
def Tb.fn (T : Tb) (f : Str) : Option Fn := T.fns.lookup f

def FS (T : Tb) : Nat → Str → List D → Hh → Qd → Xq → Prop
  | 0, _, _, _, _, _ => False
  | k + 1, f, ds, h, Q, X => ∃ F, T.fn f = some F ∧ ds.length = F.ps.length ∧
      wpSs ⟨FS T k, fun x => T.gls.lookup x, fun x => (T.fn x).isSome, fun x => T.tds.lookup x⟩ F.body (ds.map some ++ List.replicate (F.ns.length - ds.length) none) h { nx := fun _ h' => Q .non h', rt := Q, ex := X }
end Bp

namespace Bp
open PySem L2 PySem.Spec PyProof.Rows

mutual
inductive R (K : PySem.W.Frag) (H : Hp) (m : List Addr) : V → D → Prop
  | non : R K H m .non .non
  | bl (b : Bool) : R K H m (.bl b) (.bl b)
  | int (i : Int) : R K H m (.int i) (.int i)
  | str (s : Str) : R K H m (.str s) (.str s)
  | tup {a : Addr} {vs : List V} {ds : List D} : SqT K H a vs → Rs K H m vs ds → R K H m (.ref a) (.tup ds)
  | ref {a : Addr} {n : Nat} : m[n]? = some a → R K H m (.ref a) (.ref n)
inductive Rs (K : PySem.W.Frag) (H : Hp) (m : List Addr) : List V → List D → Prop
  | nil : Rs K H m [] []
  | cons {v : V} {d : D} {vs : List V} {ds : List D} : R K H m v d → Rs K H m vs ds → Rs K H m (v :: vs) (d :: ds)
end

structure Ext0 (K : PySem.W.Frag) (H : Hp) (m : List Addr) (H' : Hp) (m' : List Addr) : Prop where
  pre : ∀ (n : Nat) (a : Addr), m[n]? = some a → m'[n]? = some a
  tup : ∀ a vs, SqT K H a vs → SqT K H' a vs
structure Ext (K : PySem.W.Frag) (H : Hp) (m : List Addr) (H' : Hp) (m' : List Addr) : Prop extends Ext0 K H m H' m' where
  frz : ∀ a o u, H a = some (.frz o u) → H' a = some (.frz o u)
section
variable {K : PySem.W.Frag} {H H' H2 : Hp} {m m' m2 : List Addr} {h h' : Hh}
theorem Ext.refl : Ext K H m H m := ⟨⟨fun _ _ e => e, fun _ _ e => e⟩, fun _ _ _ e => e⟩
theorem Ext.trans (a : Ext K H m H' m') (b : Ext K H' m' H2 m2) : Ext K H m H2 m2 := ⟨⟨fun n x e => b.pre n x (a.pre n x e), fun x vs e => b.tup x vs (a.tup x vs e)⟩, fun x o u e => b.frz x o u (a.frz x o u e)⟩
theorem Ext0.trans (a : Ext0 K H m H' m') (b : Ext0 K H' m' H2 m2) : Ext0 K H m H2 m2 := ⟨fun n x e => b.pre n x (a.pre n x e), fun x vs e => b.tup x vs (a.tup x vs e)⟩
mutual
theorem R.mono0 (x : Ext0 K H m H' m') : ∀ {v : V} {d : D}, R K H m v d → R K H' m' v d
  | _, _, .non => .non
  | _, _, .bl b => .bl b
  | _, _, .int i => .int i
  | _, _, .str s => .str s
  | _, _, .tup t r => .tup (x.tup _ _ t) (Rs.mono0 x r)
  | _, _, .ref e => .ref (x.pre _ _ e)
theorem Rs.mono0 (x : Ext0 K H m H' m') : ∀ {vs : List V} {ds : List D}, Rs K H m vs ds → Rs K H' m' vs ds
  | _, _, .nil => .nil
  | _, _, .cons r t => .cons (R.mono0 x r) (Rs.mono0 x t)
end
theorem R.mono (x : Ext K H m H' m') {v : V} {d : D} (r : R K H m v d) : R K H' m' v d := r.mono0 x.toExt0
theorem Rs.mono (x : Ext K H m H' m') {vs : List V} {ds : List D} (r : Rs K H m vs ds) : Rs K H' m' vs ds := r.mono0 x.toExt0

/-! ### lists of related values -/
theorem Rs.len : ∀ {vs : List V} {ds : List D}, Rs K H m vs ds → vs.length = ds.length
  | _, _, .nil => rfl
  | _, _, .cons _ t => by rw [List.length_cons, List.length_cons, t.len]
theorem Rs.get : ∀ {vs : List V} {ds : List D} {i : Nat} {d : D}, Rs K H m vs ds → ds[i]? = some d → ∃ v, vs[i]? = some v ∧ R K H m v d
  | _, _, _, _, .nil, e => by simp at e
  | _, _, 0, _, .cons r _, e => by simp at e; subst e; exact ⟨_, rfl, r⟩
  | _, _, i + 1, d, .cons _ t, e => by
    obtain ⟨v, h1, h2⟩ := Rs.get (i := i) (d := d) t (by simpa using e)
    exact ⟨v, by simpa using h1, h2⟩
theorem Rs.get2 : ∀ {vs : List V} {ds : List D} {i : Nat} {v : V}, Rs K H m vs ds → vs[i]? = some v → ∃ d, ds[i]? = some d ∧ R K H m v d
  | _, _, _, _, .nil, e => by simp at e
  | _, _, 0, _, .cons r _, e => by simp at e; subst e; exact ⟨_, rfl, r⟩
  | _, _, i + 1, d, .cons _ t, e => by
    obtain ⟨v, h1, h2⟩ := Rs.get2 (i := i) (v := d) t (by simpa using e)
    exact ⟨v, by simpa using h1, h2⟩
theorem Rs.append : ∀ {vs ws : List V} {ds es : List D}, Rs K H m vs ds → Rs K H m ws es → Rs K H m (vs ++ ws) (ds ++ es)
  | _, _, _, _, .nil, s => s
  | _, _, _, _, .cons r t, s => .cons r (Rs.append t s)
theorem Rs.one {v : V} {d : D} (r : R K H m v d) : Rs K H m [v] [d] := .cons r .nil
theorem Rs.take : ∀ {vs : List V} {ds : List D} (n : Nat), Rs K H m vs ds → Rs K H m (vs.take n) (ds.take n)
  | _, _, 0, _ => .nil
  | _, _, _ + 1, .nil => .nil
  | _, _, n + 1, .cons r t => .cons r (Rs.take n t)
theorem Rs.drop : ∀ {vs : List V} {ds : List D} (n : Nat), Rs K H m vs ds → Rs K H m (vs.drop n) (ds.drop n)
  | _, _, 0, r => r
  | _, _, _ + 1, .nil => .nil
  | _, _, n + 1, .cons _ t => Rs.drop n t
theorem Rs.set {v : V} {d : D} (r : R K H m v d) : ∀ {vs : List V} {ds : List D} (i : Nat), Rs K H m vs ds → Rs K H m (vs.set i v) (ds.set i d)
  | _, _, _, .nil => .nil
  | _, _, 0, .cons _ t => .cons r t
  | _, _, i + 1, .cons q t => .cons q (Rs.set r i t)
theorem Rs.reverse : ∀ {vs : List V} {ds : List D}, Rs K H m vs ds → Rs K H m vs.reverse ds.reverse
  | _, _, .nil => .nil
  | _, _, .cons r t => by
    rw [List.reverse_cons, List.reverse_cons]
    exact (Rs.reverse t).append (.one r)
theorem Rs.rep {vs : List V} {ds : List D} (r : Rs K H m vs ds) : ∀ k : Nat, Rs K H m (List.replicate k vs).flatten (List.replicate k ds).flatten
  | 0 => .nil
  | k + 1 => by
    rw [List.replicate_succ, List.replicate_succ, List.flatten_cons, List.flatten_cons]
    exact r.append (Rs.rep r k)
theorem Rs.erase : ∀ {vs : List V} {ds : List D} (i : Nat), Rs K H m vs ds → Rs K H m (vs.eraseIdx i) (ds.eraseIdx i)
  | _, _, _, .nil => .nil
  | _, _, 0, .cons _ t => t
  | _, _, i + 1, .cons r t => .cons r (Rs.erase i t)
theorem Rs.dropLast {vs : List V} {ds : List D} (r : Rs K H m vs ds) : Rs K H m vs.dropLast ds.dropLast := by
  rw [List.dropLast_eq_take, List.dropLast_eq_take, r.len]
  exact r.take _
theorem Rs.cut {vs : List V} {ds : List D} (r : Rs K H m vs ds) (lo hi : Option Int) : Rs K H m (cutV vs lo hi) (cutD ds lo hi) := by
  unfold cutV cutD
  rw [r.len]
  exact (r.drop _).take _
theorem Rs.at {vs : List V} {ds : List D} (r : Rs K H m vs ds) {i : Int} {d : D} (e : atI ds i = some d) : ∃ v, atI vs i = some v ∧ R K H m v d := by
  unfold atI at e ⊢
  rw [r.len]
  cases hx : ixN ds.length i with
  | none => rw [hx] at e; cases e
  | some j =>
    rw [hx] at e
    exact r.get e
theorem Rs.ints : ∀ (ns : List Int), Rs K H m (ns.map V.int) (ns.map D.int)
  | [] => .nil
  | n :: r => .cons (.int n) (Rs.ints r)
theorem Rs.ints_of : ∀ {ns : List Int} {vs : List V}, Rs K H m vs (ns.map D.int) → vs = ns.map V.int
  | [], _, .nil => rfl
  | n :: r, _, .cons q t => by
    cases q
    rw [List.map_cons, Rs.ints_of t]
theorem Rs.bls_of : ∀ {ns : List Bool} {vs : List V}, Rs K H m vs (ns.map D.bl) → vs = ns.map V.bl
  | [], _, .nil => rfl
  | n :: r, _, .cons q t => by
    cases q
    rw [List.map_cons, Rs.bls_of t]
theorem Rs.nats (f : Nat → Int) : ∀ (l : List Nat), Rs K H m (l.map fun i => V.int (f i)) (l.map fun i => D.int (f i))
  | [] => .nil
  | n :: r => .cons (.int _) (Rs.nats f r)
theorem Rs.nil_iff {vs : List V} {ds : List D} (r : Rs K H m vs ds) : vs.isEmpty = ds.isEmpty := by
  cases r <;> rfl
theorem Rs.inv1 {vs : List V} {d : D} (r : Rs K H m vs [d]) : ∃ v, vs = [v] ∧ R K H m v d := by
  cases r with
  | cons r t => cases t; exact ⟨_, rfl, r⟩
theorem Rs.inv2 {vs : List V} {d e : D} (r : Rs K H m vs [d, e]) : ∃ v w, vs = [v, w] ∧ R K H m v d ∧ R K H m w e := by
  cases r with
  | cons r t =>
    obtain ⟨w, rfl, q⟩ := t.inv1
    exact ⟨_, w, rfl, r, q⟩
theorem Rs.inv0 {vs : List V} (r : Rs K H m vs []) : vs = [] := by cases r; rfl

/-! ### dicts and fields -/
inductive Rk {κ : Type} (K : PySem.W.Frag) (H : Hp) (m : List Addr) : List (κ × V) → List (κ × D) → Prop
  | nil : Rk K H m [] []
  | cons {k : κ} {v : V} {d : D} {vs : List (κ × V)} {ds : List (κ × D)} : R K H m v d → Rk K H m vs ds → Rk K H m ((k, v) :: vs) ((k, d) :: ds)
theorem Rk.mono0 {κ : Type} (x : Ext0 K H m H' m') : ∀ {vs : List (κ × V)} {ds : List (κ × D)}, Rk K H m vs ds → Rk K H' m' vs ds
  | _, _, .nil => .nil
  | _, _, .cons r t => .cons (r.mono0 x) (Rk.mono0 x t)
theorem Rk.mono {κ : Type} (x : Ext K H m H' m') {vs : List (κ × V)} {ds : List (κ × D)} (r : Rk K H m vs ds) : Rk K H' m' vs ds := r.mono0 x.toExt0
theorem Rk.len {κ : Type} : ∀ {vs : List (κ × V)} {ds : List (κ × D)}, Rk K H m vs ds → vs.length = ds.length
  | _, _, .nil => rfl
  | _, _, .cons _ t => by rw [List.length_cons, List.length_cons, t.len]
inductive Ro (K : PySem.W.Frag) (H : Hp) (m : List Addr) : Option V → Option D → Prop
  | none : Ro K H m none none
  | some {v : V} {d : D} : R K H m v d → Ro K H m (some v) (some d)
theorem Ro.getD {v : Option V} {d : Option D} {x : V} {y : D} (r : Ro K H m v d) (q : R K H m x y) : R K H m (v.getD x) (d.getD y) := by
  cases r
  · exact q
  · assumption
theorem Ro.isSome {v : Option V} {d : Option D} (r : Ro K H m v d) : v.isSome = d.isSome := by cases r <;> rfl
theorem Rk.val {κ : Type} [DecidableEq κ] (k : κ) : ∀ {vs : List (κ × V)} {ds : List (κ × D)}, Rk K H m vs ds → Ro K H m (valV vs k) (getK ds k)
  | _, _, .nil => .none
  | _, _, .cons (k := k0) r t => by
    unfold valV getK
    rw [List.find?_cons, List.find?_cons]
    by_cases e : k0 = k
    · simp only [e, decide_true]
      exact .some r
    · simp only [e, decide_false]
      exact Rk.val k t
theorem Rk.any {κ : Type} [DecidableEq κ] (k : κ) : ∀ {vs : List (κ × V)} {ds : List (κ × D)}, Rk K H m vs ds → (vs.any fun kv => decide (kv.1 = k)) = ds.any fun kv => decide (kv.1 = k)
  | _, _, .nil => rfl
  | _, _, .cons r t => by rw [List.any_cons, List.any_cons, Rk.any k t]
theorem Rk.repl {κ : Type} [DecidableEq κ] (k : κ) {v : V} {d : D} (q : R K H m v d) : ∀ {vs : List (κ × V)} {ds : List (κ × D)}, Rk K H m vs ds → Rk K H m (vs.map fun kv => if kv.1 = k then (kv.1, v) else kv) (ds.map fun kv => if kv.1 = k then (kv.1, d) else kv)
  | _, _, .nil => .nil
  | _, _, .cons (k := k0) r t => by
    rw [List.map_cons, List.map_cons]
    by_cases e : k0 = k
    · rw [if_pos e, if_pos e]
      exact .cons q (Rk.repl k q t)
    · rw [if_neg e, if_neg e]
      exact .cons r (Rk.repl k q t)
theorem Rk.append {κ : Type} : ∀ {vs ws : List (κ × V)} {ds es : List (κ × D)}, Rk K H m vs ds → Rk K H m ws es → Rk K H m (vs ++ ws) (ds ++ es)
  | _, _, _, _, .nil, s => s
  | _, _, _, _, .cons r t, s => .cons r (Rk.append t s)
theorem Rk.put {κ : Type} [DecidableEq κ] (k : κ) {v : V} {d : D} (q : R K H m v d) {vs : List (κ × V)} {ds : List (κ × D)} (r : Rk K H m vs ds) : Rk K H m (putK vs k v) (putD ds k d) := by
  unfold putK putD
  rw [r.any k]
  split
  · exact r.repl k q
  · exact r.append (.cons q .nil)

/-! ### the heaps -/
/-- that may be changed -/
def O.mu : O → Bool
  | .lst _ => true | .dK _ => true | .ins _ _ => true | _ => false
/-- standing alone at its place -/
def O.uq : O → Bool
  | .rl _ => false | _ => true
def Ob (K : PySem.W.Frag) (ca : Str → Option Addr) (H : Hp) (m : List Addr) (a : Addr) : O → Prop
  | .lst ds => ∃ vs, H a = some (.lst vs) ∧ Rs K H m vs ds
  | .dK kvs => ∃ vk, H a = some (.dK vk) ∧ Rk K H m vk kvs
  | .ins c fs => ∃ C dx vf, H a = some (.ins C dx vf) ∧ ca c = some C ∧ Rk K H m vf fs
  | .rl ds => ∃ vs, ((∃ o, H a = some (.frz o (.lst vs))) ∨ ∀ H', SqL K H' a vs) ∧ Rs K H m vs ds
  | .rd kvs => ∃ vk ob, H a = some (.frz ob (.dK vk)) ∧ Rk K H m vk kvs
structure Sm (K : PySem.W.Frag) (ca : Str → Option Addr) (H : Hp) (m : List Addr) (h : Hh) : Prop where
  len : m.length = h.length
  inj : ∀ (n n' : Nat) (a : Addr) (o o' : O), m[n]? = some a → m[n']? = some a → h[n]? = some o → h[n']? = some o' → o.uq = true → o'.uq = true → n = n'
  obj : ∀ (n : Nat) (a : Addr) (o : O), m[n]? = some a → h[n]? = some o → Ob K ca H m a o
variable {ca : Str → Option Addr}
theorem Sm.at (S : Sm K ca H m h) {n : Nat} {o : O} (e : h[n]? = some o) : ∃ a, m[n]? = some a ∧ Ob K ca H m a o := by
  have hl : n < h.length := (List.getElem?_eq_some_iff.mp e).1
  have hm : n < m.length := by rw [S.len]; exact hl
  exact ⟨m[n], List.getElem?_eq_getElem hm, S.obj n _ o (List.getElem?_eq_getElem hm) e⟩
theorem Ob.some {a : Addr} {o : O} (b : Ob K ca H m a o) (e : o.uq = true) : ∃ ho, H a = some ho ∧ (∀ vs, ho ≠ .tup vs) ∧ ∀ ob u, ho = .frz ob u → ∃ vk, u = .dK vk := by
  cases o with
  | lst ds => obtain ⟨vs, e, _⟩ := b; exact ⟨_, e, fun _ z => HO.noConfusion z, fun _ _ z => HO.noConfusion z⟩
  | dK ds => obtain ⟨vs, e, _⟩ := b; exact ⟨_, e, fun _ z => HO.noConfusion z, fun _ _ z => HO.noConfusion z⟩
  | ins c ds => obtain ⟨C, dx, vs, e, _⟩ := b; exact ⟨_, e, fun _ z => HO.noConfusion z, fun _ _ z => HO.noConfusion z⟩
  | rl ds => cases e
  | rd ds => obtain ⟨vs, ob, e, _⟩ := b; exact ⟨_, e, fun _ z => HO.noConfusion z, fun _ _ z => by cases z; exact ⟨_, rfl⟩⟩
theorem O.uq_mu {o : O} (h : o.mu = true) : o.uq = true := by cases o <;> first | rfl | cases h
theorem ob_nofrz {a : Addr} {o : O} (b : Ob K ca H m a o) (e : o.mu = true) : ∀ (ob : Obj) (u : HO), H a ≠ some (HO.frz ob u) := by
  intro ob u z
  cases o with
  | lst ds => obtain ⟨vs, e, _⟩ := b; rw [e] at z; cases z
  | dK ds => obtain ⟨vs, e, _⟩ := b; rw [e] at z; cases z
  | ins c ds => obtain ⟨C, dx, vs, e, _⟩ := b; rw [e] at z; cases z
  | rl ds => cases e
  | rd ds => cases e
theorem Ob.mono0 {a : Addr} {o : O} (b : Ob K ca H m a o) (x : Ext0 K H m H' m') (e : H' a = H a ∨ (H a = none)) : Ob K ca H' m' a o := by
  cases o with
  | lst ds =>
    obtain ⟨vs, e1, r⟩ := b
    rcases e with e | e
    · exact ⟨vs, e.trans e1, r.mono0 x⟩
    · rw [e] at e1; cases e1
  | dK ds =>
    obtain ⟨vs, e1, r⟩ := b
    rcases e with e | e
    · exact ⟨vs, e.trans e1, r.mono0 x⟩
    · rw [e] at e1; cases e1
  | ins c ds =>
    obtain ⟨C, dx, vs, e1, e2, r⟩ := b
    rcases e with e | e
    · exact ⟨C, dx, vs, e.trans e1, e2, r.mono0 x⟩
    · rw [e] at e1; cases e1
  | rl ds =>
    obtain ⟨vs, e1, r⟩ := b
    rcases e1 with ⟨ob, e1⟩ | e1
    · rcases e with e | e
      · exact ⟨vs, .inl ⟨ob, e.trans e1⟩, r.mono0 x⟩
      · rw [e] at e1; cases e1
    · exact ⟨vs, .inr e1, r.mono0 x⟩
  | rd ds =>
    obtain ⟨vs, ob, e1, r⟩ := b
    rcases e with e | e
    · exact ⟨vs, ob, e.trans e1, r.mono0 x⟩
    · rw [e] at e1; cases e1
theorem Ob.mono {a : Addr} {o : O} (b : Ob K ca H m a o) (x : Ext K H m H' m') (e : H' a = H a ∨ (H a = none)) : Ob K ca H' m' a o := b.mono0 x.toExt0 e
theorem sqt_new {p a : Addr} {o : HO} {vs : List V} (hp : H p = none) (h : SqT K H a vs) : SqT K (upd H p o) a vs := by
  rcases h with h | h
  · left
    rcases h with h | ⟨ob, h⟩
    · exact .inl (by rw [upd_ne (ne_of_none h hp)]; exact h)
    · exact .inr ⟨ob, by rw [upd_ne (ne_of_none h hp)]; exact h⟩
  · exact .inr h
theorem sqt_obj {p a : Addr} {o ho : HO} {vs : List V} (hp : H p = some ho) (h1 : ∀ vs, ho ≠ .tup vs) (h2 : ∀ ob u, ho = .frz ob u → ∃ vk, u = .dK vk) (h : SqT K H a vs) : SqT K (upd H p o) a vs := by
  rcases h with h | h
  · left
    rcases h with h | ⟨ob, h⟩
    · refine .inl ?_
      rw [upd_ne (fun z => ?_)]
      · exact h
      · subst z; rw [hp] at h; exact h1 _ (Option.some.inj h)
    · refine .inr ⟨ob, ?_⟩
      rw [upd_ne (fun z => ?_)]
      · exact h
      · subst z; rw [hp] at h; obtain ⟨vk, z⟩ := h2 _ _ (Option.some.inj h); cases z
  · exact .inr h
theorem Ext.new {p : Addr} {o : HO} (hp : H p = none) (m2 : List Addr) : Ext K H m (upd H p o) (m ++ m2) :=
  ⟨⟨fun n a e => by rw [List.getElem?_append_left (List.getElem?_eq_some_iff.mp e).1]; exact e, fun _ _ e => sqt_new hp e⟩, fun _ _ _ e => by rw [upd_ne (ne_of_none e hp)]; exact e⟩
theorem Ext.new0 {p : Addr} {o : HO} (hp : H p = none) : Ext K H m (upd H p o) m := ⟨⟨fun n a e => e, fun _ _ e => sqt_new hp e⟩, fun _ _ _ e => by rw [upd_ne (ne_of_none e hp)]; exact e⟩

/-- a new tuple -/
theorem Sm.newt (S : Sm K ca H m h) {p : Addr} {vs : List V} (hp : H p = none) : Sm K ca (upd H p (.tup vs)) m h := by
  refine ⟨S.len, S.inj, fun n a o e1 e2 => (S.obj n a o e1 e2).mono (Ext.new0 hp) ?_⟩
  by_cases e : a = p
  · subst e; exact .inr hp
  · exact .inl (upd_ne e)
/-- a new object -/
theorem Sm.new (S : Sm K ca H m h) {p : Addr} {ho : HO} {o : O} (hp : H p = none) (ho' : Ob K ca (upd H p ho) (m ++ [p]) p o) : Sm K ca (upd H p ho) (m ++ [p]) (h ++ [o]) := by
  refine ⟨by rw [List.length_append, List.length_append, S.len]; rfl, fun n n' a q q' e1 e2 e3 e4 u1 u2 => ?_, fun n a q e1 e2 => ?_⟩
  · have key : ∀ (n : Nat) (q : O), (m ++ [p])[n]? = some a → (h ++ [o])[n]? = some q → q.uq = true → (n < m.length ∧ a ≠ p) ∨ (n = m.length ∧ a = p) := by
      intro n q e1 e3 u1
      by_cases hn : n < m.length
      · left
        refine ⟨hn, fun z => ?_⟩
        rw [List.getElem?_append_left hn] at e1
        rw [List.getElem?_append_left (by rw [← S.len]; exact hn)] at e3
        obtain ⟨x, hx, _⟩ := (S.obj n a q e1 e3).some u1
        rw [z, hp] at hx; cases hx
      · right
        rw [List.getElem?_append_right (by omega)] at e1
        have : n - m.length = 0 := by
          have := (List.getElem?_eq_some_iff.mp e1).1
          simp at this; omega
        rw [this] at e1
        simp at e1
        exact ⟨by omega, e1.symm⟩
    rcases key n q e1 e3 u1 with ⟨k1, k2⟩ | ⟨k1, k2⟩ <;> rcases key n' q' e2 e4 u2 with ⟨k3, k4⟩ | ⟨k3, k4⟩
    · rw [List.getElem?_append_left k1] at e1
      rw [List.getElem?_append_left k3] at e2
      rw [List.getElem?_append_left (by rw [← S.len]; exact k1)] at e3
      rw [List.getElem?_append_left (by rw [← S.len]; exact k3)] at e4
      exact S.inj n n' a q q' e1 e2 e3 e4 u1 u2
    · exact absurd k4 k2
    · exact absurd k2 k4
    · omega
  · by_cases hn : n < m.length
    · rw [List.getElem?_append_left hn] at e1
      rw [List.getElem?_append_left (by rw [← S.len]; exact hn)] at e2
      refine (S.obj n a q e1 e2).mono (Ext.new hp _) ?_
      by_cases e : a = p
      · subst e; exact .inr hp
      · exact .inl (upd_ne e)
    · rw [List.getElem?_append_right (by omega)] at e1
      have hz : n - m.length = 0 := by
        have := (List.getElem?_eq_some_iff.mp e1).1
        simp at this; omega
      rw [List.getElem?_append_right (by rw [← S.len]; omega), ← S.len, hz] at e2
      rw [hz] at e1
      simp at e1 e2
      subst e1 e2
      exact ho'
/-- an object changed -/
theorem Sm.put0 (S : Sm K ca H m h) {n : Nat} {a : Addr} {ho : HO} {o q : O} (en : h[n]? = some q) (ea : m[n]? = some a) (uq : q.uq = true) (uo : o.uq = true) (ho' : ∀ H', (∀ b vs, SqT K H b vs → SqT K H' b vs) → H' a = some ho → Ob K ca H' m a o) :
    Sm K ca (upd H a ho) m (h.set n o) ∧ Ext0 K H m (upd H a ho) m := by
  obtain ⟨x, hx, x1, x2⟩ := (S.obj n a q ea en).some uq
  have ext : Ext0 K H m (upd H a ho) m := ⟨fun _ _ e => e, fun _ _ e => sqt_obj hx x1 x2 e⟩
  have hn : n < h.length := (List.getElem?_eq_some_iff.mp en).1
  refine ⟨⟨by rw [List.length_set]; exact S.len, fun n1 n2 b o1 o2 e1 e2 e3 e4 u1 u2 => ?_, fun n1 b o1 e1 e3 => ?_⟩, ext⟩
  · have key : ∀ (n1 : Nat) (o1 : O), (h.set n o)[n1]? = some o1 → o1.uq = true → ∃ o', h[n1]? = some o' ∧ o'.uq = true := by
      intro n1 o1 e3 u1
      by_cases e : n = n1
      · subst e; exact ⟨q, en, uq⟩
      · rw [List.getElem?_set_ne e] at e3; exact ⟨o1, e3, u1⟩
    obtain ⟨p1, k1, k2⟩ := key n1 o1 e3 u1
    obtain ⟨p2, k3, k4⟩ := key n2 o2 e4 u2
    exact S.inj n1 n2 b p1 p2 e1 e2 k1 k3 k2 k4
  · by_cases e : n = n1
    · subst e
      rw [List.getElem?_set_self hn] at e3
      rw [ea] at e1
      cases e1; cases e3
      exact ho' _ ext.tup upd_same
    · rw [List.getElem?_set_ne e] at e3
      by_cases eb : b = a
      · subst eb
        have nm : o1.uq = false := by
          cases hm : o1.uq with
          | false => rfl
          | true => exact absurd (S.inj n n1 b q o1 ea e1 en e3 uq hm) e
        have b1 := S.obj n1 b o1 e1 e3
        cases o1 with
        | lst _ => cases nm
        | dK _ => cases nm
        | ins _ _ => cases nm
        | rl ds =>
          obtain ⟨vs, e5, r⟩ := b1
          rcases e5 with ⟨ob, e5⟩ | e5
          · rw [hx] at e5; obtain ⟨vk, z⟩ := x2 _ _ (Option.some.inj e5); cases z
          · exact ⟨vs, .inr e5, r.mono0 ext⟩
        | rd ds => cases nm
      · exact (S.obj n1 b o1 e1 e3).mono0 ext (.inl (upd_ne eb))

theorem Sm.put (S : Sm K ca H m h) {n : Nat} {a : Addr} {ho : HO} {o q : O} (en : h[n]? = some q) (ea : m[n]? = some a) (uq : q.mu = true) (uo : o.uq = true) (ho' : ∀ H', (∀ b vs, SqT K H b vs → SqT K H' b vs) → H' a = some ho → Ob K ca H' m a o) :
    Sm K ca (upd H a ho) m (h.set n o) ∧ Ext K H m (upd H a ho) m := by
  obtain ⟨S', x⟩ := S.put0 en ea (O.uq_mu uq) uo ho'
  exact ⟨S', x, fun b ob u e => by rw [upd_ne (fun z => ob_nofrz (S.obj n a q ea en) uq ob u (by rw [← z]; exact e))]; exact e⟩
/-! ### what is wanted behind -/
def Post (K : PySem.W.Frag) (ca : Str → Option Addr) (H : Hp) (m : List Addr) (Q' : Qd) (Q : VK) : Prop :=
  ∀ m' v H' d h', Ext K H m H' m' → Sm K ca H' m' h' → R K H' m' v d → Q' d h' → Q v H'
variable {Q : VK} {Q' : Qd}
theorem Post.mono (p : Post K ca H m Q' Q) (x : Ext K H m H' m') : Post K ca H' m' Q' Q := fun m' v H' d h' x' => p m' v H' d h' (x.trans x')
theorem Post.same (p : Post K ca H m Q' Q) (S : Sm K ca H m h) {v : V} {d : D} (r : R K H m v d) (q : Q' d h) : Q v H := p m v H d h Ext.refl S r q
theorem Post.newt (p : Post K ca H m Q' Q) (S : Sm K ca H m h) {vs : List V} {ds : List D} (r : Rs K H m vs ds) {a : Addr} (ha : H a = none) (q : Q' (.tup ds) h) : Q (.ref a) (upd H a (.tup vs)) :=
  p m _ _ (.tup ds) h (Ext.new0 ha) (S.newt ha) (.tup (SqT.of upd_same) (r.mono (Ext.new0 ha))) q
theorem Post.newl (p : Post K ca H m Q' Q) (S : Sm K ca H m h) {vs : List V} {ds : List D} (r : Rs K H m vs ds) {a : Addr} (ha : H a = none) (q : Q' (.ref h.length) (h ++ [.lst ds])) : Q (.ref a) (upd H a (.lst vs)) :=
  p (m ++ [a]) _ _ (.ref h.length) _ (Ext.new ha _) (S.new (o := .lst ds) ha ⟨vs, upd_same, r.mono (Ext.new ha _)⟩) (.ref (by rw [← S.len]; simp)) q
theorem Post.setl (p : Post K ca H m Q' Q) (S : Sm K ca H m h) {n : Nat} {a : Addr} {q0 : O} {vs : List V} {ds : List D} {v : V} {d : D} (en : h[n]? = some q0) (ea : m[n]? = some a) (u : q0.mu = true) (r : Rs K H m vs ds) (rv : R K H m v d) (q : Q' d (h.set n (.lst ds))) : Q v (upd H a (.lst vs)) := by
  obtain ⟨S', x⟩ := S.put (ho := .lst vs) (o := .lst ds) en ea u rfl fun H' ht e => ⟨vs, e, r.mono0 ⟨fun _ _ z => z, ht⟩⟩
  exact p m v _ d _ x S' (rv.mono x) q
end
end Bp

namespace Bp
open PySem L2 PySem.Spec PyProof.Rows

theorem lim (n : Nat) (h : n ≤ 100000) : n ≤ sizeLine := Nat.le_trans h (by decide)
theorem lim' (n : Nat) (h : n < 100000) : n < sizeLine := Nat.lt_of_lt_of_le h (by decide)

/-! ### operators -/
def boP : Bo → Operator
  | .add => .Add | .sub => .Sub | .mul => .Mult | .fdiv => .FloorDiv | .mod => .Mod | .pow => .Pow | .xor => .BitXor
def rStrAdd : R2 := fun x y H Q => ∃ i j, x = .str i ∧ y = .str j ∧ i.length + j.length ≤ sizeLine ∧ Q (.str (i ++ j)) H
def rBo (K : PySem.W.Frag) : Bo → R2
  | .add => fun x y H Q => rI0 (fun i j => .int (i + j)) x y H Q ∨ (rStrAdd x y H Q ∨ (rCatA K x y H Q ∨ rCat x y H Q))
  | .sub => rI0 fun i j => .int (i - j)
  | .mul => fun x y H Q => rI CMul (fun i j => .int (i * j)) x y H Q ∨ (rI CMulW (fun i j => .int (i * j)) x y H Q ∨ rRep x y H Q)
  | .fdiv => fun x y H Q => rI CDiv (fun i j => .int (i / j)) x y H Q ∨ rI CDivW (fun i j => .int (i / j)) x y H Q
  | .mod => rI (fun _ j => 0 < j) fun i j => .int (i % j)
  | .pow => rI CPow fun i j => .int (i ^ j.toNat)
  | .xor => rI0 fun i j => .int (Builtin.bitXor i j)
theorem op_bo {X : Cx} (o : Bo) : OpR X (binaryOp (boP o)) (rBo X.K o) := by
  cases o with
  | add => exact op_add.or (op_add_str.or (op_catA.or op_cat))
  | sub => exact op_sub
  | mul => exact op_mul.or (op_mulW.or op_rep)
  | fdiv => exact op_fdiv.or op_fdivW
  | mod => exact op_mod
  | pow => exact op_pow
  | xor => exact op_xor
section
variable {K : PySem.W.Frag} {ca : Str → Option Addr} {H : Hp} {m : List Addr} {h : Hh} {x y : V} {d e : D} {Q : VK} {Q' : Qd}
theorem Sm.lstAt (S : Sm K ca H m h) {n : Nat} {a : Addr} {ds : List D} (en : h[n]? = some (.lst ds)) (ea : m[n]? = some a) : ∃ vs, H a = some (.lst vs) ∧ Rs K H m vs ds := S.obj n a _ ea en
theorem Sm.seqAt (S : Sm K ca H m h) {n : Nat} {a : Addr} {ds : List D} (en : h[n]? = some (.lst ds) ∨ h[n]? = some (.rl ds)) (ea : m[n]? = some a) : ∃ vs, SqL K H a vs ∧ Rs K H m vs ds := by
  rcases en with en | en
  · obtain ⟨vs, e, r⟩ := S.lstAt en ea
    exact ⟨vs, SqL.of e, r⟩
  · obtain ⟨vs, e, r⟩ := S.obj n a _ ea en
    rcases e with ⟨o, e⟩ | e
    · exact ⟨vs, .inl (.inr ⟨o, e⟩), r⟩
    · exact ⟨vs, e H, r⟩
theorem bo_ok (o : Bo) (S : Sm K ca H m h) (rx : R K H m x d) (ry : R K H m y e) (w : wBo o d e h Q') (p : Post K ca H m Q' Q) : rBo K o x y H Q := by
  unfold wBo at w
  split at w
  · cases rx; cases ry; exact .inl ⟨_, _, rfl, rfl, p.same S (.int _) w⟩
  · cases rx; cases ry; exact .inr (.inl ⟨_, _, rfl, rfl, lim _ w.1, p.same S (.str _) w.2⟩)
  · cases rx with
    | tup t1 r1 => cases ry with
      | tup t2 r2 =>
        refine .inr (.inr (.inl ⟨_, _, _, _, rfl, rfl, t1, t2, by rw [r1.len, r2.len]; exact lim _ w.1, fun z => ?_, fun z1 z2 => ?_, fun _ _ q hq => ?_⟩))
        · subst z; cases r1; exact p.same S (.tup t2 r2) w.2
        · subst z2; cases r2; rw [List.append_nil] at w; exact p.same S (.tup t1 r1) w.2
        · exact p.newt S (r1.append r2) hq w.2
  · obtain ⟨xs, ys, e1, e2, hl, q⟩ := w
    cases rx with
    | ref m1 => cases ry with
      | ref m2 =>
        obtain ⟨vs, a1, r1⟩ := S.lstAt e1 m1
        obtain ⟨ws, a2, r2⟩ := S.lstAt e2 m2
        exact .inr (.inr (.inr ⟨_, _, vs, ws, rfl, rfl, a1, a2, by rw [r1.len, r2.len]; exact lim _ hl, fun q' hq => p.newl S (r1.append r2) hq q⟩))
  · cases rx; cases ry; exact ⟨_, _, rfl, rfl, p.same S (.int _) w⟩
  · cases rx; cases ry
    rcases w with ⟨w | w, q⟩
    · exact .inl ⟨_, _, rfl, rfl, w, p.same S (.int _) q⟩
    · exact .inr (.inl ⟨_, _, rfl, rfl, w, p.same S (.int _) q⟩)
  · obtain ⟨xs, e1, k1, k2, hl, q⟩ := w
    cases rx with
    | ref m1 => cases ry with
      | int _ =>
        obtain ⟨vs, a1, r1⟩ := S.lstAt e1 m1
        exact .inr (.inr ⟨_, _, vs, rfl, rfl, a1, by omega, by omega, by rw [r1.len]; exact lim _ hl, fun q' hq => p.newl S (r1.rep _) hq q⟩)
  · cases rx; cases ry
    rcases w with ⟨w | w, q⟩
    · exact .inl ⟨_, _, rfl, rfl, w, p.same S (.int _) q⟩
    · exact .inr ⟨_, _, rfl, rfl, w, p.same S (.int _) q⟩
  · cases rx; cases ry; exact ⟨_, _, rfl, rfl, w.1, p.same S (.int _) w.2⟩
  · cases rx; cases ry; exact ⟨_, _, rfl, rfl, w.1, p.same S (.int _) w.2⟩
  · cases rx; cases ry; exact ⟨_, _, rfl, rfl, p.same S (.int _) w⟩
  · exact w.elim

/-! ### truth -/
theorem tru_ok' {Qb : Bool → Prop} (S : Sm K ca H m h) (rx : R K H m x d) (w : tru h d Qb) : ∃ k, TruV K x H k ∧ Qb k := by
  cases rx with
  | non => exact ⟨_, rfl, w⟩
  | bl b => exact ⟨_, rfl, w⟩
  | int i => exact ⟨_, rfl, w⟩
  | str s =>
    refine ⟨_, ⟨lim _ w.1, rfl⟩, ?_⟩
    have e : ((s.length : Int) != 0) = (s.length != 0) := by
      cases hs : s.length <;> rfl
    rw [e]; exact w.2
  | tup t r => exact ⟨_, .inr (.inl ⟨_, t, rfl⟩), by rw [r.nil_iff]; exact w⟩
  | ref e =>
    rcases w with ⟨ds, e1, q⟩ | ⟨ds, e1, q⟩ | ⟨kvs, e1, q⟩
    · obtain ⟨vs, e2, r⟩ := S.seqAt (.inl e1) e
      exact ⟨_, .inl ⟨vs, e2, rfl⟩, by rw [r.nil_iff]; exact q⟩
    · obtain ⟨vs, e2, r⟩ := S.seqAt (.inr e1) e
      exact ⟨_, .inl ⟨vs, e2, rfl⟩, by rw [r.nil_iff]; exact q⟩
    · obtain ⟨vk, e2, r⟩ := S.obj _ _ _ e e1
      exact ⟨_, .inr (.inr ⟨vk, e2, rfl⟩), by
        have : vk.isEmpty = kvs.isEmpty := by cases r <;> rfl
        rw [this]; exact q⟩
theorem TruV.det {k k' : Bool} (S : Sm K ca H m h) (rx : R K H m x d) {Qb : Bool → Prop} (w : tru h d Qb) (w' : tru h d fun b => b = k) : Qb k := by
  cases d with
  | non => cases w'; exact w
  | bl b => cases w'; exact w
  | int i => cases w'; exact w
  | str s => cases w'.2; exact w.2
  | tup ds => cases w'; exact w
  | ref n =>
    rcases w with ⟨ds, e1, q⟩ | ⟨ds, e1, q⟩ | ⟨kvs, e1, q⟩ <;> rcases w' with ⟨ds', e1', q'⟩ | ⟨ds', e1', q'⟩ | ⟨kvs', e1', q'⟩ <;> (rw [e1] at e1'; cases e1') <;> (subst q'; exact q)

/-! ### comparisons -/
mutual
theorem Pd.dp (S : Sm K ca H m h) : ∀ {d : D} {p : PyData} {v : V}, Pd h d p → R K H m v d → Dp K H v p
  | _, _, _, .non, r => by cases r; exact .non
  | _, _, _, .bl b, r => by cases r; exact .bl b
  | _, _, _, .int i, r => by cases r; exact .int i
  | _, _, _, .str s, r => by cases r; exact .str s
  | _, _, _, .tup ps, r => by cases r with | tup t q => exact .tup t (Pds.dp S ps q)
  | _, _, _, .lst e ps, r => by
    cases r with
    | ref z =>
      obtain ⟨vs, e2, q⟩ := S.seqAt (.inl e) z
      exact .lst e2 (Pds.dp S ps q)
  | _, _, _, .rl e ps, r => by
    cases r with
    | ref z =>
      obtain ⟨vs, e2, q⟩ := S.seqAt (.inr e) z
      exact .lst e2 (Pds.dp S ps q)
theorem Pds.dp (S : Sm K ca H m h) : ∀ {ds : List D} {ps : List PyData} {vs : List V}, Pds h ds ps → Rs K H m vs ds → DpAll K H vs ps
  | _, _, _, .nil, r => by cases r; exact .nil
  | _, _, _, .cons p ps, r => by cases r with | cons q qs => exact .cons (Pd.dp S p q) (Pds.dp S ps qs)
end
def rEqA (K : PySem.W.Frag) : R2 := fun x y H Q => rEq x y H Q ∨ rEqD K x y H Q
def rNeA (K : PySem.W.Frag) : R2 := fun x y H Q => rNe x y H Q ∨ rNeD K x y H Q
theorem eq_ok {Qb : Bool → Prop} (S : Sm K ca H m h) (rx : R K H m x d) (ry : R K H m y e) (w : wEq d e h Qb) (p : ∀ b, Qb b → Q (.bl b) H) : rEqA K x y H Q := by
  unfold wEq at w
  split at w
  all_goals first
    | (obtain ⟨a, b, pa, pb, s1, s2, q⟩ := w
       exact .inr ⟨a, b, pa.dp S rx, pb.dp S ry, s1, s2, p _ q⟩)
    | (cases rx; cases ry; refine .inl ⟨rfl, ?_⟩
       first
         | (rw [dec_int, Bool.beq_eq_decide_eq]; exact p _ w)
         | (rw [dec_str, Bool.beq_eq_decide_eq]; exact p _ w)
         | (rw [dec_bl, Bool.beq_eq_decide_eq]; exact p _ w)
         | (rw [decide_eq_false (by intro z; cases z)]; exact p _ w)
         | (rw [decide_eq_true rfl]; exact p _ w))
theorem ne_ok {Qb : Bool → Prop} (S : Sm K ca H m h) (rx : R K H m x d) (ry : R K H m y e) (w : wEq d e h fun b => Qb (!b)) (p : ∀ b, Qb b → Q (.bl b) H) : rNeA K x y H Q := by
  unfold wEq at w
  split at w
  all_goals first
    | (obtain ⟨a, b, pa, pb, s1, s2, q⟩ := w
       exact .inr ⟨a, b, pa.dp S rx, pb.dp S ry, s1, s2, p _ q⟩)
    | (cases rx; cases ry; refine .inl ⟨rfl, ?_⟩
       first
         | (rw [dec_int, Bool.beq_eq_decide_eq]; exact p _ w)
         | (rw [dec_str, Bool.beq_eq_decide_eq]; exact p _ w)
         | (rw [dec_bl, Bool.beq_eq_decide_eq]; exact p _ w)
         | (rw [decide_eq_false (by intro z; cases z)]; exact p _ w)
         | (rw [decide_eq_true rfl]; exact p _ w))
theorem flat_ok (rx : R K H m x d) (f : flat d = true) : flatV x = true := by
  cases rx <;> first | rfl | cases f
theorem flats_ok : ∀ {vs : List V} {ds : List D}, Rs K H m vs ds → ds.all flat = true → vs.all flatV = true
  | _, _, .nil, _ => rfl
  | _, _, .cons r t, f => by
    rw [List.all_cons, Bool.and_eq_true] at f ⊢
    exact ⟨flat_ok r f.1, flats_ok t f.2⟩
theorem eqV_ok (rx : R K H m x d) (ry : R K H m y e) (f : flat d = true) (g : flat e = true) : eqV x y = eqD d e := by
  cases rx <;> cases ry <;> first | rfl | cases f | cases g
theorem inV_ok : ∀ {vs : List V} {ds : List D}, Rs K H m vs ds → ds.all flat = true → R K H m x d → flat d = true → inV x vs = ds.any fun y => eqD y d
  | _, _, .nil, _, _, _ => rfl
  | _, _, .cons r t, f, rx, fx => by
    rw [List.all_cons, Bool.and_eq_true] at f
    have ih := inV_ok t f.2 rx fx
    unfold inV at ih ⊢
    rw [List.any_cons, List.any_cons, ih, eqV_ok r rx f.1 fx]
def rDIn (neg : Bool) : R2 := fun y x H Q => ∃ a o, x = .ref a ∧ DGet H a y o ∧ Q (.bl (if neg then !o.isSome else o.isSome)) H
theorem op_din {X : Cx} (hu : X.A.units + 1 < cLine) : OpR X (compareOp .In) (rDIn false) := by
  intro pins s σ H x y v u Q I rx ry h
  obtain ⟨a, o, rfl, g, q⟩ := h
  cases ry
  exact d_in hu I g rx fun s' I' => ⟨.bl _, H, I', rfl, q⟩
theorem op_dnotin {X : Cx} (hu : X.A.units + 1 < cLine) : OpR X (compareOp .NotIn) (rDIn true) := by
  intro pins s σ H x y v u Q I rx ry h
  obtain ⟨a, o, rfl, g, q⟩ := h
  cases ry
  exact d_notIn hu I g rx fun s' I' => ⟨.bl _, H, I', rfl, q⟩
theorem key_ok {k : Key} (rx : R K H m x d) (e : keyOf d = some k) : x = kV k := by
  cases rx <;> first | (cases e; rfl) | cases e
def rSign (neg : Bool) : R2 := fun x y H Q => ∃ (c : Nat) (z : Str), x = .str ⟨#[c]⟩ ∧ y = .str z ∧ Q (.bl (if neg then !decide (c ∈ z.cps.toList) else decide (c ∈ z.cps.toList))) H
def rInA (K : PySem.W.Frag) (neg : Bool) : R2 := fun x y H Q => rSign neg x y H Q ∨ (rIn K neg x y H Q ∨ rDIn neg x y H Q)
theorem in_ok {neg : Bool} {Qb : Bool → Prop} (S : Sm K ca H m h) (rx : R K H m x d) (ry : R K H m y e) (w : wIn d e h fun b => Qb (if neg then !b else b)) (p : ∀ b, Qb b → Q (.bl b) H) : rInA K neg x y H Q := by
  unfold wIn at w
  split at w
  · obtain ⟨s, rfl, q⟩ := w
    cases rx; cases ry
    exact .inl ⟨s, _, rfl, rfl, p _ q⟩
  · cases ry with
    | tup t r =>
      refine .inr (.inl ⟨_, _, rfl, .inr t, flat_ok rx w.1, flats_ok r w.2.1, ?_⟩)
      have := p _ w.2.2
      rw [inV_ok r w.2.1 rx w.1]
      exact this
  · cases ry with
    | ref z =>
      rcases w with ⟨ds, e1, f1, f2, q⟩ | ⟨kvs, k, e1, ek, q⟩
      · obtain ⟨vs, e2, r⟩ := S.seqAt e1 z
        refine .inr (.inl ⟨_, vs, rfl, .inl e2, flat_ok rx f1, flats_ok r f2, ?_⟩)
        rw [inV_ok r f2 rx f1]
        exact p _ q
      · rcases e1 with e1 | e1
        · obtain ⟨vk, e2, r⟩ := S.obj _ _ _ z e1
          have ex := key_ok rx ek
          subst ex
          refine .inr (.inr ⟨_, _, rfl, DGet.k e2, ?_⟩)
          have hv := r.val k
          have es : (valV vk k).isSome = (getK kvs k).isSome := hv.isSome
          rw [es]
          exact p _ q
        · obtain ⟨vk, ob, e2, r⟩ := S.obj _ _ _ z e1
          have ex := key_ok rx ek
          subst ex
          refine .inr (.inr ⟨_, _, rfl, .inl ⟨vk, k, .inr ⟨ob, e2⟩, rfl, rfl⟩, ?_⟩)
          have hv := r.val k
          have es : (valV vk k).isSome = (getK kvs k).isSome := hv.isSome
          rw [es]
          exact p _ q
  · exact w.elim
def coP : Co → CmpOp
  | .eq => .Eq | .ne => .NotEq | .lt => .Lt | .le => .LtE | .gt => .Gt | .ge => .GtE | .is => .Is | .isnot => .IsNot | .isin => .In | .notin => .NotIn
def rLtS : R2 := fun x y H Q => ∃ i j, x = .str i ∧ y = .str j ∧ Q (.bl (decide (i.cps.toList < j.cps.toList))) H
def rIsNon (neg : Bool) : R2 := fun x y H Q => y = .non ∧ Q (.bl (if neg then !decide (x = .non) else decide (x = .non))) H
def rCo (K : PySem.W.Frag) : Co → R2
  | .eq => rEqA K
  | .ne => rNeA K
  | .lt => fun x y H Q => rI0 (fun i j => .bl (decide (i < j))) x y H Q ∨ rLtS x y H Q
  | .le => rI0 fun i j => .bl (decide (i ≤ j))
  | .gt => rI0 fun i j => .bl (decide (j < i))
  | .ge => rI0 fun i j => .bl (decide (j ≤ i))
  | .is => rIsNon false
  | .isnot => rIsNon true
  | .isin => rInA K false
  | .notin => rInA K true
theorem op_co {X : Cx} (hu : X.A.units + 64 < cLine) (o : Co) : OpR X (compareOp (coP o)) (rCo X.K o) := by
  cases o with
  | eq => exact op_eq.or (op_eqD hu)
  | ne => exact op_ne.or (op_neD hu)
  | lt => exact op_lt.or op_lt_str
  | le => exact op_le
  | gt => exact op_gt
  | ge => exact op_ge
  | is => exact op_isN
  | isnot => exact op_notN
  | isin => exact op_in_sign.or (op_in_seq.or (op_din (by omega)))
  | notin => exact op_notIn_sign.or (op_notIn_seq.or (op_dnotin (by omega)))
theorem co_ok (o : Co) {Qb : Bool → Prop} (S : Sm K ca H m h) (rx : R K H m x d) (ry : R K H m y e) (w : wCo o d e h Qb) (p : ∀ b, Qb b → Q (.bl b) H) : rCo K o x y H Q := by
  unfold wCo at w
  split at w
  · exact eq_ok S rx ry w p
  · exact ne_ok S rx ry w p
  · cases rx; cases ry; exact .inl ⟨_, _, rfl, rfl, p _ w⟩
  · cases rx; cases ry; exact ⟨_, _, rfl, rfl, p _ w⟩
  · cases rx; cases ry; exact ⟨_, _, rfl, rfl, p _ w⟩
  · cases rx; cases ry; exact ⟨_, _, rfl, rfl, p _ w⟩
  · cases rx; cases ry; exact .inr ⟨_, _, rfl, rfl, p _ w⟩
  · cases ry
    refine ⟨rfl, p _ ?_⟩
    cases rx <;> exact w
  · cases ry
    refine ⟨rfl, p _ ?_⟩
    cases rx <;> exact w
  · exact in_ok (neg := false) S rx ry w p
  · exact in_ok (neg := true) S rx ry w p
  · exact w.elim

/-! ### subscripts and slices -/
def rIxDk : R2 := fun x y H Q => ∃ a v, x = .ref a ∧ DGet H a y (some v) ∧ Q v H
def rIxA (K : PySem.W.Frag) : R2 := fun x y H Q => rIx K x y H Q ∨ rIxDk x y H Q
theorem ix_dict {X : Cx} (hu : X.A.units + 1 < cLine) : IxR X rIxDk := by
  intro value slice pins s σ H x y v u Q I rx ry h hs
  obtain ⟨a, w, rfl, g, q⟩ := h
  cases rx
  exact tail_any (dict_typeIs I g) PySem.F.slot_dict_getitem.lookup (d_getItem hu I g ry fun w' s' I' r' => ⟨w, H, I', r', q⟩) hs
theorem ix_any {X : Cx} (hu : X.A.units + 1 < cLine) : IxR X (rIxA X.K) := ix_seq.or (ix_dict hu)
theorem idx_ok (S : Sm K ca H m h) (rx : R K H m x d) (ry : R K H m y e) (w : wIdx d e h Q') (p : Post K ca H m Q' Q) : rIxA K x y H Q := by
  unfold wIdx at w
  split at w
  · obtain ⟨k, c, rfl, hz, ha, q⟩ := w
    cases rx; cases ry
    exact .inl (.inr (.inr ⟨_, _, c, rfl, rfl, lim _ hz, ha, p.same S (.str _) q⟩))
  · obtain ⟨k, v, rfl, ha, q⟩ := w
    cases rx with
    | tup t r =>
      cases ry
      obtain ⟨u, e1, r1⟩ := r.at ha
      exact .inl (.inr (.inl ⟨_, _, _, u, rfl, rfl, t, e1, p.same S r1 q⟩))
  · cases rx with
    | ref z =>
      rcases w with ⟨ds, k, v, e1, rfl, ha, q⟩ | ⟨kvs, k, v, e1, ek, ev, q⟩
      · cases ry
        obtain ⟨vs, e2, r⟩ := S.seqAt e1 z
        obtain ⟨u, e3, r1⟩ := r.at ha
        exact .inl (.inl ⟨_, _, _, u, rfl, rfl, e2, e3, p.same S r1 q⟩)
      · rcases e1 with e1 | e1
        · obtain ⟨vk, e2, r⟩ := S.obj _ _ _ z e1
          have ex := key_ok ry ek
          subst ex
          have hv := r.val k
          rw [ev] at hv
          generalize eu : valV vk k = ou at hv
          cases hv with
          | some r1 =>
            refine .inr ⟨_, _, rfl, ?_, p.same S r1 q⟩
            rw [← eu]
            exact DGet.k e2
        · obtain ⟨vk, ob, e2, r⟩ := S.obj _ _ _ z e1
          have ex := key_ok ry ek
          subst ex
          have hv := r.val k
          rw [ev] at hv
          generalize eu : valV vk k = ou at hv
          cases hv with
          | some r1 =>
            refine .inr ⟨_, _, rfl, ?_, p.same S r1 q⟩
            rw [← eu]
            exact .inl ⟨vk, k, .inr ⟨ob, e2⟩, rfl, rfl⟩
  · exact w.elim
def rSlX (K : PySem.W.Frag) : V → Option Int → Option Int → Hp → VK → Prop := fun x lo hi H Q => rSlS x lo hi H Q ∨ (rSlA K x lo hi H Q ∨ rSlL K x lo hi H Q)
theorem sl_any {X : Cx} : SlR X (rSlX X.K) := sl_str.or (sl_tupA.or sl_list)
theorem cut_whole {α : Type} (xs : List α) (lo hi : Option Int) (h : HT.sIx xs.length 0 lo = 0 ∧ HT.sIx xs.length xs.length hi = xs.length) : (xs.drop (HT.sIx xs.length 0 lo)).take (HT.sIx xs.length xs.length hi - HT.sIx xs.length 0 lo) = xs := by
  rw [h.1, h.2, List.drop_zero, Nat.sub_zero, List.take_length]
theorem sli_ok {lo hi : Option Int} (S : Sm K ca H m h) (rx : R K H m x d) (w : wSli d lo hi h Q') (p : Post K ca H m Q' Q) : rSlX K x lo hi H Q := by
  unfold wSli at w
  split at w
  · cases rx
    exact .inl ⟨_, rfl, lim _ w.1, p.same S (.str _) w.2⟩
  · cases rx with
    | tup t r =>
      refine .inr (.inl ⟨_, _, rfl, t, fun z => ?_, fun _ q hq => p.newt S (r.cut lo hi) hq w⟩)
      rw [show cutD _ lo hi = _ from cut_whole _ lo hi (by rw [← r.len]; exact z)] at w
      exact p.same S (.tup t r) w
  · cases rx with
    | ref z =>
      obtain ⟨ds, e1, q⟩ := w
      obtain ⟨vs, e2, r⟩ := S.seqAt e1 z
      exact .inr (.inr ⟨_, vs, rfl, e2, fun q' hq => p.newl S (r.cut lo hi) hq q⟩)
  · exact w.elim

/-! ### built-ins -/
def biN : Bi → Str
  | .len => "len" | .list => "list" | .tuple => "tuple" | .divmod => "divmod" | .abs => "abs" | .int => "int" | .max2 => "max" | .min2 => "min" | .all => "all" | .any => "any" | .sum => "sum"
  | .max1 => "max" | .min1 => "min" | .str => "str" | .bool => "bool"
def biV : Bi → Sum String String
  | .len => .inl "len" | .list => .inr "list" | .tuple => .inr "tuple" | .divmod => .inl "divmod" | .abs => .inl "abs" | .int => .inr "int" | .max2 => .inl "max" | .min2 => .inl "min" | .all => .inl "all" | .any => .inl "any" | .sum => .inl "sum"
  | .max1 => .inl "max" | .min1 => .inl "min" | .str => .inr "str" | .bool => .inr "bool"
def biVal : Sum String String → Value
  | .inl s => .builtin s
  | .inr s => .type s
theorem bi_boot (b : Bi) : bootBuiltins (biN b) = some (biVal (biV b)) := by cases b <;> decide +kernel
def rLenD : List V → Hp → VK → Prop := fun xs H Q => ∃ a kvs, xs = [.ref a] ∧ H a = some (.dK kvs) ∧ Q (.int kvs.length) H
theorem call_lenDk {X : Cx} : CallR X (.builtin "len") rLenD := by
  intro pins s σ H xs us Q I r h
  obtain ⟨a, kvs, rfl, e, q⟩ := h
  obtain rfl := Vals.ref1 r
  exact d_len I (.inl e) fun t s' I' => ⟨.int _, H, I', ⟨_, rfl⟩, q⟩
def rLenA (K : PySem.W.Frag) : List V → Hp → VK → Prop := fun xs H Q => ∃ p ys, xs = [.ref p] ∧ (SqL K H p ys ∨ SqT K H p ys) ∧ Q (.int ys.length) H
def rLenS : List V → Hp → VK → Prop := fun xs H Q => ∃ z, xs = [.str z] ∧ z.length ≤ sizeLine ∧ Q (.int z.length) H
def rListA (K : PySem.W.Frag) : List V → Hp → VK → Prop := fun xs H Q => ∃ p ys, xs = [.ref p] ∧ (SqL K H p ys ∨ SqT K H p ys) ∧ ∀ l, H l = none → Q (.ref l) (upd H l (.lst ys))
def rTupA (K : PySem.W.Frag) : List V → Hp → VK → Prop := fun xs H Q => ∃ p ys, xs = [.ref p] ∧ ((SqL K H p ys ∧ ∀ l, H l = none → Q (.ref l) (upd H l (.tup ys))) ∨ (SqT K H p ys ∧ Q (.ref p) H))
def rBi (K : PySem.W.Frag) : Bi → List V → Hp → VK → Prop
  | .len => fun xs H Q => rLenS xs H Q ∨ (rLenA K xs H Q ∨ rLenD xs H Q)
  | .list => rListA K
  | .tuple => rTupA K
  | .divmod => fun xs H Q => ∃ i j, xs = [.int i, .int j] ∧ CDiv i j ∧ ∀ p, H p = none → Q (.ref p) (upd H p (.tup [.int (i / j), .int (i % j)]))
  | .abs => fun xs H Q => ∃ i, xs = [.int i] ∧ Q (.int (if i < 0 then -i else i)) H
  | .int => fun xs H Q => (∃ i, xs = [.int i] ∧ Q (.int i) H) ∨ ∃ k, xs = [.bl k] ∧ Q (.int (if k then 1 else 0)) H
  | .bool => fun xs H Q => (∃ i, xs = [.int i] ∧ Q (.bl (i != 0)) H) ∨ ∃ k, xs = [.bl k] ∧ Q (.bl k) H
  | .max2 => fun xs H Q => ∃ i j, xs = [.int i, .int j] ∧ Q (.int (if j > i then j else i)) H
  | .min2 => fun xs H Q => ∃ i j, xs = [.int i, .int j] ∧ Q (.int (if j < i then j else i)) H
  | .all => rAll K
  | .any => rAny K
  | .sum => rSum K
  | .max1 => rMax K
  | .min1 => rMin K
  | .str => fun xs H Q => ∃ i, xs = [.int i] ∧ i.natAbs.log2 < 1920 ∧ Q (.str (toString i)) H
theorem call_bi {X : Cx} (hc : X.calm = true) (b : Bi) : CallR X (biVal (biV b)) (rBi X.K b) := by
  cases b with
  | len => exact call_len_str.or (call_len_seq.or call_lenDk)
  | list => exact call_list_of
  | tuple => exact call_tuple_of
  | divmod => exact call_divmod
  | abs => exact call_abs
  | int => exact call_int1
  | bool => exact call_bool1
  | max2 => exact call_max2 hc
  | min2 => exact call_min2 hc
  | all => exact cr_all hc
  | any => exact cr_any hc
  | sum => exact cr_sum hc
  | max1 => exact cr_max hc
  | min1 => exact cr_min hc
  | str => exact call_str_int
theorem elems_ok {ds : List D} (S : Sm K ca H m h) (rx : R K H m x d) (e : elems h d = some ds) : ∃ a vs, x = .ref a ∧ (SqL K H a vs ∨ SqT K H a vs) ∧ Rs K H m vs ds ∧ (SqT K H a vs → ∃ es, d = .tup es ∨ SqL K H a vs) := by
  unfold elems at e
  split at e
  · cases e
    cases rx with
    | tup t r => exact ⟨_, _, rfl, .inr t, r, fun _ => ⟨_, .inl rfl⟩⟩
  · cases rx with
    | ref z =>
      split at e
      · cases e
        rename_i ds e1
        obtain ⟨vs, e2, r⟩ := S.seqAt (.inl e1) z
        exact ⟨_, vs, rfl, .inl e2, r, fun _ => ⟨[], .inr e2⟩⟩
      · cases e
        rename_i ds e1
        obtain ⟨vs, e2, r⟩ := S.seqAt (.inr e1) z
        exact ⟨_, vs, rfl, .inl e2, r, fun _ => ⟨[], .inr e2⟩⟩
      · cases e
  · cases e
theorem len_ok (S : Sm K ca H m h) (rx : R K H m x d) (w : (∃ ds, elems h d = some ds ∧ Q' (.int ds.length) h) ∨ ∃ n kvs, d = .ref n ∧ h[n]? = some (.dK kvs) ∧ Q' (.int kvs.length) h) (p : Post K ca H m Q' Q) : rBi K .len [x] H Q := by
  rcases w with ⟨ds, e, q⟩ | ⟨n, kvs, rfl, e, q⟩
  · obtain ⟨a, vs, rfl, hq, r, _⟩ := elems_ok S rx e
    exact .inr (.inl ⟨a, vs, rfl, hq, by rw [r.len]; exact p.same S (.int _) q⟩)
  · cases rx with
    | ref z =>
      obtain ⟨vk, e2, r⟩ := S.obj _ _ _ z e
      exact .inr (.inr ⟨_, vk, rfl, e2, by rw [r.len]; exact p.same S (.int _) q⟩)
theorem bi_ok (b : Bi) {vs : List V} {ds : List D} (S : Sm K ca H m h) (rs : Rs K H m vs ds) (w : wBi b ds h Q') (p : Post K ca H m Q' Q) : rBi K b vs H Q := by
  unfold wBi at w
  split at w
  · obtain ⟨v, rfl, r⟩ := rs.inv1
    cases r
    exact .inl ⟨_, rfl, lim _ w.1, p.same S (.int _) w.2⟩
  · obtain ⟨v, rfl, r⟩ := rs.inv1
    exact len_ok S r w p
  · obtain ⟨v, rfl, r⟩ := rs.inv1
    obtain ⟨es, e, q⟩ := w
    obtain ⟨a, ws, rfl, hq, r2, _⟩ := elems_ok S r e
    exact ⟨a, ws, rfl, hq, fun l hl => p.newl S r2 hl q⟩
  · obtain ⟨v, rfl, r⟩ := rs.inv1
    obtain ⟨es, e, q⟩ := w
    obtain ⟨a, ws, rfl, hq, r2, _⟩ := elems_ok S r e
    rcases hq with hq | hq
    · exact ⟨a, ws, rfl, .inl ⟨hq, fun l hl => p.newt S r2 hl q⟩⟩
    · exact ⟨a, ws, rfl, .inr ⟨hq, p.same S (.tup hq r2) q⟩⟩
  · obtain ⟨v, u, rfl, r, r'⟩ := rs.inv2
    cases r; cases r'
    exact ⟨_, _, rfl, w.1, fun l hl => p.newt S (.cons (.int _) (.cons (.int _) .nil)) hl w.2⟩
  · obtain ⟨v, rfl, r⟩ := rs.inv1
    cases r; exact ⟨_, rfl, p.same S (.int _) w⟩
  · obtain ⟨v, rfl, r⟩ := rs.inv1
    cases r; exact .inl ⟨_, rfl, p.same S (.int _) w⟩
  · obtain ⟨v, rfl, r⟩ := rs.inv1
    cases r; exact .inr ⟨_, rfl, p.same S (.int _) w⟩
  · obtain ⟨v, rfl, r⟩ := rs.inv1
    cases r; exact .inl ⟨_, rfl, p.same S (.bl _) w⟩
  · obtain ⟨v, rfl, r⟩ := rs.inv1
    cases r; exact .inr ⟨_, rfl, p.same S (.bl _) w⟩
  · obtain ⟨v, u, rfl, r, r'⟩ := rs.inv2
    cases r; cases r'
    exact ⟨_, _, rfl, p.same S (.int _) w⟩
  · obtain ⟨v, u, rfl, r, r'⟩ := rs.inv2
    cases r; cases r'
    exact ⟨_, _, rfl, p.same S (.int _) w⟩
  · obtain ⟨v, rfl, r⟩ := rs.inv1
    obtain ⟨bs, e, q⟩ := w
    cases r with
    | ref z =>
      obtain ⟨ws, e2, r2⟩ := S.lstAt e z
      rw [r2.bls_of] at e2
      exact ⟨_, bs, rfl, SqL.of e2, p.same S (.bl _) q⟩
  · obtain ⟨v, rfl, r⟩ := rs.inv1
    obtain ⟨bs, e, q⟩ := w
    cases r with
    | ref z =>
      obtain ⟨ws, e2, r2⟩ := S.lstAt e z
      rw [r2.bls_of] at e2
      exact ⟨_, bs, rfl, SqL.of e2, p.same S (.bl _) q⟩
  · obtain ⟨v, rfl, r⟩ := rs.inv1
    obtain ⟨bs, e, q⟩ := w
    cases r with
    | ref z =>
      obtain ⟨ws, e2, r2⟩ := S.lstAt e z
      rw [r2.ints_of] at e2
      exact ⟨_, bs, rfl, SqL.of e2, p.same S (.int _) q⟩
  · obtain ⟨v, rfl, r⟩ := rs.inv1
    obtain ⟨bs, e, hp, q⟩ := w
    cases r with
    | ref z =>
      obtain ⟨ws, e2, r2⟩ := S.lstAt e z
      rw [r2.ints_of] at e2
      exact ⟨_, bs, rfl, SqL.of e2, hp, fun k h1 h2 => p.same S (.int _) (q k h1 h2)⟩
  · obtain ⟨v, rfl, r⟩ := rs.inv1
    obtain ⟨bs, e, hp, q⟩ := w
    cases r with
    | ref z =>
      obtain ⟨ws, e2, r2⟩ := S.lstAt e z
      rw [r2.ints_of] at e2
      exact ⟨_, bs, rfl, SqL.of e2, hp, fun k h1 h2 => p.same S (.int _) (q k h1 h2)⟩
  · obtain ⟨v, rfl, r⟩ := rs.inv1
    cases r; exact ⟨_, rfl, w.1, p.same S (.str _) w.2⟩
  · exact w.elim
end
end Bp

namespace Bp
open PySem L2 PySem.Spec PyProof.Rows

/-! ### the look: an expression of ours beside one of the text -/
def visB (sc : Scope) (x : Str) : Bool := match sc.names.lookup x with | some .local => true | some .cell => true | some .free => true | _ => false
def locB (sc : Scope) (fc : Str → Bool) (x : Str) : Bool := match sc.names.lookup x with | some .local => true | some .cell => fc x | _ => false
def lcl (sc : Scope) (x : Str) : Bool := match sc.names.lookup x with | some .local => true | _ => false
def glB (sc : Scope) (x : Str) : Bool := match sc.names.lookup x with | some .globalImplicit => true | _ => false
def nst : Expr → Bool | .Starred _ _ => false | _ => true
def nsl : Expr → Bool | .Slice _ _ _ _ => false | _ => true
def nset : Expr → Bool | .Set _ _ _ => false | _ => true
def nlc : Expr → Bool | .ListComp _ _ _ _ => false | .SetComp _ _ _ _ => false | .DictComp _ _ _ _ _ => false | _ => true
def isTup : Expr → Bool | .Tuple _ _ _ => true | _ => false
def isCall0 : Expr → Bool | .Call _ [] [] _ => true | _ => false
def tnN : Tn → Str
  | .non => "NoneType" | .int => "int" | .bool => "bool" | .str => "str" | .list => "list" | .tuple => "tuple" | .dict => "dict"
def tnS : Tn → String
  | .non => "NoneType" | .int => "int" | .bool => "bool" | .str => "str" | .list => "list" | .tuple => "tuple" | .dict => "dict"
def tnOk : Tn → Bool | .non => false | _ => true
def ckTy (sc : Scope) (t : Tn) : Expr → Bool
  | .Name x _ => decide (x = tnN t) && glB sc x && tnOk t
  | _ => false
def ckTys (sc : Scope) : List Tn → List Expr → Bool
  | [], [] => true
  | t :: ts, e :: es => ckTy sc t e && ckTys sc ts es
  | _, _ => false
def mtN : Mt → Str
  | .append => "append" | .extend => "extend" | .insert => "insert" | .pop => "pop" | .popAt => "pop" | .index => "index" | .reverse => "reverse" | .clear => "clear" | .remove => "remove" | .count => "count" | .get2 => "get" | .get1 => "get" | .dpop2 => "pop"
def mtA : Mt → Nat
  | .append => 1 | .extend => 1 | .insert => 2 | .pop => 0 | .popAt => 1 | .reverse => 0 | .clear => 0 | .get2 => 2 | _ => 99
def tgSlots : Tg → List Nat
  | .nm i => [i]
  | .tp ts => go ts
  | .sub _ _ => []
where go : Tgs → List Nat
  | .nil => []
  | .cons t ts => tgSlots t ++ go ts

mutual
def ckE : E → List Str → Scope → (Str → Bool) → Expr → Bool
  | .var i, N, sc, _, e => match e with | .Name x _ => decide (N[i]? = some x) && visB sc x && !(x == ("__debug__" : Str)) && !(x == ("__classdict__" : Str)) | _ => false
  | .non, _, _, _, e => match e with | .Constant .none _ _ => true | _ => false
  | .bl b, _, _, _, e => match e with | .Constant (.bool c) _ _ => decide (b = c) | _ => false
  | .int i, _, _, _, e => match e with | .Constant (.int j) _ _ => decide (i = j) | _ => false
  | .str s, _, _, _, e => match e with | .Constant (.str z) _ _ => decide (s = z) | _ => false
  | .glob x, _, sc, _, e => match e with | .Name y _ => decide (x = y) && glB sc x && !(x == ("__debug__" : Str)) | _ => false
  | .bin o a b, N, sc, fc, e => match e with | .BinOp l op r _ => decide (op = boP o) && ckE a N sc fc l && ckE b N sc fc r | _ => false
  | .neg a, N, sc, fc, e => match e with | .UnaryOp .USub x _ => ckE a N sc fc x | _ => false
  | .not a, N, sc, fc, e => match e with | .UnaryOp .Not x _ => ckE a N sc fc x | _ => false
  | .bop k es, N, sc, fc, e => match e with | .BoolOp op xs _ => decide (op = if k then .And else .Or) && ckB es N sc fc xs | _ => false
  | .cmp o a b, N, sc, fc, e => match e with | .Compare l [op] [r] _ => decide (op = coP o) && nset r && ckE a N sc fc l && ckE b N sc fc r | _ => false
  | .cmp2 o o' a b c, N, sc, fc, e => match e with | .Compare l [op, op'] [r, r'] _ => decide (op = coP o) && decide (op' = coP o') && nset r && nset r' && ckE a N sc fc l && ckE b N sc fc r && ckE c N sc fc r' | _ => false
  | .ite c a b, N, sc, fc, e => match e with | .IfExp t x y _ => ckE c N sc fc t && ckE a N sc fc x && ckE b N sc fc y | _ => false
  | .tup es, N, sc, fc, e => match e with | .Tuple xs _ _ => ckEs es N sc fc xs | _ => false
  | .lst es, N, sc, fc, e => match e with | .List xs _ => ckEs es N sc fc xs | _ => false
  | .dct kvs, N, sc, fc, e => match e with | .Dict keys values _ => ckD kvs N sc fc keys values && decide (keys.length ≤ 15) | _ => false
  | .tab x i, N, sc, fc, e => match e with | .Subscript (.Name y _) j _ => decide (x = y) && glB sc x && !(x == ("__debug__" : Str)) && nsl j && ckE i N sc fc j | _ => false
  | .tabG x i d, N, sc, fc, e => match e with | .Call (.Attribute (.Name y _) n ap) [u, v] [] cp => decide (x = y) && glB sc x && !(x == ("__debug__" : Str)) && decide (n = "get") && (ap.endLine == cp.line) && nst u && nst v && ckE i N sc fc u && ckE d N sc fc v | _ => false
  | .tabIn neg x i, N, sc, fc, e => match e with | .Compare l [op] [.Name y _] _ => decide (x = y) && glB sc x && !(x == ("__debug__" : Str)) && decide (op = if neg then .NotIn else .In) && ckE i N sc fc l | _ => false
  | .idx a i, N, sc, fc, e => match e with | .Subscript x y _ => nsl y && ckE a N sc fc x && ckE i N sc fc y | _ => false
  | .sli a lo hi, N, sc, fc, e => match e with | .Subscript x (.Slice l u none _) _ => ckE a N sc fc x && ckO lo N sc fc l && ckO hi N sc fc u | _ => false
  | .rev a, N, sc, fc, e => match e with | .Subscript x (.Slice none none (some (.UnaryOp .USub (.Constant (.int 1) _ _) _)) _) _ => ckE a N sc fc x | _ => false
  | .call f es, N, sc, fc, e => match e with | .Call (.Name x _) xs [] _ => decide (f = x) && glB sc x && !(x == ("__debug__" : Str)) && ckEs es N sc fc xs | _ => false
  | .bi b es, N, sc, fc, e => match e with | .Call (.Name x _) (y :: xs) [] _ => decide (x = biN b) && glB sc x && ckEs es N sc fc (y :: xs) | _ => false
  | .rng k a b, N, sc, fc, e => match e with
    | .Call (.Name x _) [.Call (.Name y _) ys [] _] [] _ => decide (x = if k then "tuple" else "list") && glB sc x && decide (y = "range") && glB sc y &&
        (match ys, a with
          | [u], .int 0 => nst u && ckE b N sc fc u
          | [u, v], _ => nst u && nst v && ckE a N sc fc u && ckE b N sc fc v
          | _, _ => false)
    | _ => false
  | .mt m o es, N, sc, fc, e => match e with | .Call (.Attribute x n ap) xs [] cp => decide (n = mtN m) && decide (xs.length < 30) && decide (xs.length = mtA m) && !isCall0 x && (ap.endLine == cp.line) && ckE o N sc fc x && ckEs es N sc fc xs | _ => false
  | .isi a ts, N, sc, fc, e => match e with
    | .Call (.Name x _) [u, t] [] _ => decide (x = "isinstance") && glB sc x && nst u && nst t && ckE a N sc fc u && (match t with
        | .Tuple xs _ _ => ckTys sc ts xs && decide (ts.length ≤ 100000)
        | .Name y p => (match ts with | [z] => ckTy sc z (.Name y p) | _ => false)
        | _ => false)
    | _ => false
  | .comp elt t it c own, N, sc, fc, e => match e with
    | .ListComp x [⟨tg, iter, ifs, 0⟩] scope _ => blkC N sc scope own && nset iter && ckI it N sc fc tg iter && ckG t N (relS scope sc) (fun z => scope.names.lookup z == some .cell) tg && (tgSlots t).all (fun i => decide (i ∈ own.map (·.2))) &&
        (match c, ifs with | .none, [] => true | .some a, [f] => ckE a N (relS scope sc) (fun z => scope.names.lookup z == some .cell) f | _, _ => false) && ckE elt N (relS scope sc) (fun z => scope.names.lookup z == some .cell) x
    | _ => false
def ckB : Es → List Str → Scope → (Str → Bool) → List Expr → Bool
  | .nil, _, _, _, _ => false
  | .cons a .nil, N, sc, fc, xs => match xs with | [x] => ckE a N sc fc x | _ => false
  | .cons a (.cons b r), N, sc, fc, xs => match xs with | x :: y :: ys => ckE a N sc fc x && ckB (.cons b r) N sc fc (y :: ys) | _ => false
def ckEs : Es → List Str → Scope → (Str → Bool) → List Expr → Bool
  | .nil, _, _, _, xs => match xs with | [] => true | _ => false
  | .cons a r, N, sc, fc, xs => match xs with | x :: ys => nst x && ckE a N sc fc x && ckEs r N sc fc ys | _ => false
def ckD : Es → List Str → Scope → (Str → Bool) → List (Option Expr) → List Expr → Bool
  | .nil, _, _, _, ks, vs => match ks, vs with | [], [] => true | _, _ => false
  | .cons _ .nil, _, _, _, _, _ => false
  | .cons a (.cons b r), N, sc, fc, ks, vs => match ks, vs with | some k :: ks, v :: vs => ckE a N sc fc k && ckE b N sc fc v && ckD r N sc fc ks vs | _, _ => false
def ckO : Oe → List Str → Scope → (Str → Bool) → Option Expr → Bool
  | .none, _, _, _, e => match e with | none => true | _ => false
  | .some a, N, sc, fc, e => match e with | some x => ckE a N sc fc x | _ => false
def ckI : Iv → List Str → Scope → (Str → Bool) → Expr → Expr → Bool
  | .seq a, N, sc, fc, _, e => ckE a N sc fc e
  | .rng1 a, N, sc, fc, _, e => match e with | .Call (.Name x _) [u] [] _ => decide (x = "range") && glB sc x && nst u && ckE a N sc fc u | _ => false
  | .rng2 a b, N, sc, fc, _, e => match e with | .Call (.Name x _) [u, v] [] _ => decide (x = "range") && glB sc x && nst u && nst v && ckE a N sc fc u && ckE b N sc fc v | _ => false
  | .enu a, N, sc, fc, tg, e => match e with | .Call (.Name x _) [u] [] _ => isTup tg && decide (x = "enumerate") && glB sc x && nst u && ckE a N sc fc u | _ => false
  | .zip a b, N, sc, fc, tg, e => match e with | .Call (.Name x _) [u, v] [] _ => isTup tg && decide (x = "zip") && glB sc x && nst u && nst v && ckE a N sc fc u && ckE b N sc fc v | _ => false
  | .rvs a, N, sc, fc, _, e => match e with | .Call (.Name x _) [u] [] _ => decide (x = "reversed") && glB sc x && nst u && ckE a N sc fc u | _ => false
  | .keys _, _, _, _, _, _ => false
def ckG : Tg → List Str → Scope → (Str → Bool) → Expr → Bool
  | .nm i, N, sc, fc, e => match e with | .Name x _ => decide (N[i]? = some x) && locB sc fc x | _ => false
  | .tp ts, N, sc, fc, e => match e with | .Tuple xs _ _ => ckGs ts N sc fc xs | _ => false
  | .sub o i, N, sc, fc, e => match e with | .Subscript x y _ => nsl y && ckE o N sc fc x && ckE i N sc fc y | _ => false
def ckGs : Tgs → List Str → Scope → (Str → Bool) → List Expr → Bool
  | .nil, _, _, _, xs => match xs with | [] => true | _ => false
  | .cons t ts, N, sc, fc, xs => match xs with | x :: ys => nst x && ckG t N sc fc x && ckGs ts N sc fc ys | _ => false
end

/-- name = a comprehension: stored within (true) or behind -/
def swB (sc : Scope) (scope : Scope) (vl : Nat) (t : Str) (tl : Nat) : Bool :=
  (match sc.kind with | .function => true | _ => false) && lcl sc t && (tl == vl) && !(scope.names.any fun (n, k) => n == t && (k == .local || k == .cell))
/-- the stores aren't exchanged -/
def swNone (sc : Scope) (ts vs : List Expr) : Bool :=
  let line := (ts.head?.map (·.pos.line)).getD 0
  let names := ts.filterMap fun
    | .Name id pos => if sc.names.lookup id == some .local && pos.line == line then some id else none
    | _ => none
  !(ts.length == 2 || ts.length == 3) || (names.length != ts.length || vs.all (foldedForSure 8))

mutual
def ckS : S → List Str → Scope → Stmt → Bool
  | .asg t a, N, sc, s => match s with
    | .Assign [tg] v _ => nst tg && ckG t N sc (fun _ => true) tg && ckE a N sc (fun _ => true) v && (match v with
        | .ListComp _ _ scope p => (match tg with
          | .Name y py => !swB sc scope p.line y py.line
          | _ => true)
        | .SetComp _ _ _ _ => false
        | .DictComp _ _ _ _ _ => false
        | .Tuple vs _ _ => (match tg with
          | .Tuple ts _ _ => swNone sc ts vs
          | .List _ _ => false
          | _ => true)
        | _ => true)
    | _ => false
  | .setc i elt t it c own, N, sc, s => match s with
    | .Assign [.Name y py] (.ListComp x gs scope p) _ => decide (N[i]? = some y) && lcl sc y && swB sc scope p.line y py.line && ckE (.comp elt t it c own) N sc (fun _ => true) (.ListComp x gs scope p)
    | _ => false
  | .par i j a b, N, sc, s => match s with
    | .Assign [.Tuple [.Name x px, .Name y py] _ _] (.Tuple [u, v] _ _) _ => decide (N[i]? = some x) && decide (N[j]? = some y) && decide (i ≠ j) && decide (x ≠ y) && lcl sc x && lcl sc y && (px.line == py.line) && (match sc.kind with | .function => true | _ => false) &&
        !(foldedForSure 8 u && foldedForSure 8 v) && !(constantsAlone 8 u && constantsAlone 8 v) && nst u && nst v && ckE a N sc (fun _ => true) u && ckE b N sc (fun _ => true) v
    | _ => false
  | .par3 i j l a b c, N, sc, s => match s with
    | .Assign [.Tuple [.Name x px, .Name y py, .Name z pz] _ _] (.Tuple [u, v, w] _ _) _ => decide (N[i]? = some x) && decide (N[j]? = some y) && decide (N[l]? = some z) && decide (i ≠ j ∧ i ≠ l ∧ j ≠ l) && decide (x ≠ y ∧ x ≠ z ∧ y ≠ z) && lcl sc x && lcl sc y && lcl sc z && (px.line == py.line && px.line == pz.line) && (match sc.kind with | .function => true | _ => false) &&
        !(foldedForSure 8 u && foldedForSure 8 v && foldedForSure 8 w) && !(constantsAlone 8 u && constantsAlone 8 v && constantsAlone 8 w) && (nst u && nst v && nst w) && ckE a N sc (fun _ => true) u && ckE b N sc (fun _ => true) v && ckE c N sc (fun _ => true) w
    | _ => false
  | .aug i o a, N, sc, s => match s with
    | .AugAssign (.Name x _) op v _ => decide (N[i]? = some x) && locB sc (fun _ => true) x && decide (op = boP o) && ckE a N sc (fun _ => true) v
    | _ => false
  | .expr a, N, sc, s => match s with | .Expr v _ => nlc v && ckE a N sc (fun _ => true) v | _ => false
  | .ret a, N, sc, s => match s with | .Return (some v) _ => ckE a N sc (fun _ => true) v | _ => false
  | .ite c a b, N, sc, s => match s with | .If t x y _ => ckE c N sc (fun _ => true) t && ckSs a N sc x && ckSs b N sc y | _ => false
  | .loop c b, N, sc, s => match s with | .While t x [] _ => ckE c N sc (fun _ => true) t && ckSs b N sc x | _ => false
  | .each t it b, N, sc, s => match s with | .For tg iter x [] _ => nset iter && ckI it N sc (fun _ => true) tg iter && ckG t N sc (fun _ => true) tg && ckSs b N sc x | _ => false
  | .eachK t i b, N, sc, s => match s with | .For tg (.Name x p) bs [] _ => ckE (.var i) N sc (fun _ => true) (.Name x p) && ckG t N sc (fun _ => true) tg && ckSs b N sc bs | _ => false
  | .brk, _, _, s => match s with | .Break _ => true | _ => false
  | .cont, _, _, s => match s with | .Continue _ => true | _ => false
  | .pass, _, _, s => match s with | .Pass _ => true | _ => false
def ckSs : Ss → List Str → Scope → List Stmt → Bool
  | .nil, _, _, xs => match xs with | [] => true | _ => false
  | .cons s r, N, sc, xs => match xs with | x :: ys => ckS s N sc x && ckSs r N sc ys | _ => false
end
end Bp

namespace Bp
open PySem L2 PySem.Spec PyProof.Rows

theorem pe_imp {X : Cx} {e : Expr} {t t' : TE} (h : PE X e t) (i : ∀ σ H Q, t' σ H Q → t σ H Q) : PE X e t' := ⟨fun pins s σ H Q I q => h.run pins s σ H Q I (i σ H Q q)⟩
theorem pt_imp {X : Cx} {e : Expr} {t t' : TT} (h : PT X e t) (i : ∀ σ H Q, t' σ H Q → t σ H Q) : PT X e t' := ⟨fun pins s σ H Q I q => h.run pins s σ H Q I (i σ H Q q)⟩
theorem pw_imp {X : Cx} {e : Expr} {t t' : TT} (h : PW X e t) (i : ∀ σ H Q, t' σ H Q → t σ H Q) : PW X e t' := ⟨fun wh pins s σ H Q I q => h.run wh pins s σ H Q I (i σ H Q q)⟩
theorem pa_imp {X : Cx} {e : List Expr} {t t' : TA} (h : PA X e t) (i : ∀ σ H Q, t' σ H Q → t σ H Q) : PA X e t' := ⟨fun p pins s σ H Q I q => h.run p pins s σ H Q I (i σ H Q q)⟩
theorem po_imp {X : Cx} {e : Option Expr} {t t' : TO} (h : PO X e t) (i : ∀ σ H Q, t' σ H Q → t σ H Q) : PO X e t' := ⟨fun pins s σ H Q I q => h.run pins s σ H Q I (i σ H Q q)⟩
theorem ps_imp {X : Cx} {e : Stmt} {t t' : TS} (h : PS X e t) (i : ∀ D σ H, t' D σ H → t D σ H) : PS X e t' := ⟨fun pins s σ H D I q => h.run pins s σ H D I (i D σ H q)⟩
theorem pss_imp {X : Cx} {e : List Stmt} {t t' : TS} (h : PSs X e t) (i : ∀ D σ H, t' D σ H → t D σ H) : PSs X e t' := ⟨fun pins s σ H D I q => h.run pins s σ H D I (i D σ H q)⟩
theorem pg_imp {X : Cx} {e : Expr} {t t' : TG} (h : PG X e t) (i : ∀ v σ H Q, t' v σ H Q → t v σ H Q) : PG X e t' := ⟨fun pins s σ H v u Q I r q => h.run pins s σ H v u Q I r (i v σ H Q q)⟩
theorem pgs_imp {X : Cx} {e : List Expr} {t t' : TGs} (h : PGs X e t) (i : ∀ v σ H Q, t' v σ H Q → t v σ H Q) : PGs X e t' := ⟨fun pins s σ H v u Q I r q => h.run pins s σ H v u Q I r (i v σ H Q q)⟩
theorem pi_imp {X : Cx} {tg e : Expr} {t t' : TI} (h : PI X tg e t) (i : ∀ σ H Q, t' σ H Q → t σ H Q) : PI X tg e t' := ⟨fun pins s σ H Q I q => h.run pins s σ H Q I (i σ H Q q)⟩
theorem pg_or {X : Cx} {e : Expr} {t t' : TG} (h : PG X e t) (h' : PG X e t') : PG X e (fun v σ H Q => t v σ H Q ∨ t' v σ H Q) := ⟨fun pins s σ H v u Q I r q => q.elim (h.run pins s σ H v u Q I r) (h'.run pins s σ H v u Q I r)⟩

/-! ### slots -/
structure Er (K : PySem.W.Frag) (H : Hp) (m : List Addr) (σ : L2.St) (e : En) : Prop where
  len : σ.length = e.length
  at_ : ∀ (i : Nat) (d : D), e[i]? = some (some d) → ∃ v, σ[i]? = some (some v) ∧ R K H m v d
section
variable {K : PySem.W.Frag} {ca : Str → Option Addr} {H H' : Hp} {m m' : List Addr} {σ : L2.St} {e : En} {h : Hh}
theorem Er.mono0 (E : Er K H m σ e) (x : Ext0 K H m H' m') : Er K H' m' σ e := ⟨E.len, fun i d q => let ⟨v, a, b⟩ := E.at_ i d q; ⟨v, a, b.mono0 x⟩⟩
theorem Er.mono (E : Er K H m σ e) (x : Ext K H m H' m') : Er K H' m' σ e := ⟨E.len, fun i d q => let ⟨v, a, b⟩ := E.at_ i d q; ⟨v, a, b.mono x⟩⟩
theorem Er.set (E : Er K H m σ e) {v : V} {d : D} (r : R K H m v d) (i : Nat) : Er K H m (σ.set i (some v)) (e.set i (some d)) := by
  refine ⟨by rw [List.length_set, List.length_set]; exact E.len, fun j d' q => ?_⟩
  by_cases ij : i = j
  · subst ij
    have hl : i < e.length := by
      have := (List.getElem?_eq_some_iff.mp q).1
      rwa [List.length_set] at this
    rw [List.getElem?_set_self hl] at q
    cases q
    exact ⟨v, List.getElem?_set_self (by rw [E.len]; exact hl), r⟩
  · rw [List.getElem?_set_ne ij] at q
    rw [List.getElem?_set_ne ij]
    exact E.at_ j d' q
theorem Er.unset (E : Er K H m σ e) (i : Nat) : Er K H m (σ.set i none) (e.set i none) := by
  refine ⟨by rw [List.length_set, List.length_set]; exact E.len, fun j d' q => ?_⟩
  by_cases ij : i = j
  · subst ij
    have hl : i < e.length := by
      have := (List.getElem?_eq_some_iff.mp q).1
      rwa [List.length_set] at this
    rw [List.getElem?_set_self hl] at q
    cases q
  · rw [List.getElem?_set_ne ij] at q
    rw [List.getElem?_set_ne ij]
    exact E.at_ j d' q
theorem Er.wipe (E : Er K H m σ e) : ∀ vs : List Nat, Er K H m (L2.wipe σ vs) (wipeE e vs)
  | [] => E
  | v :: vs => (Er.wipe E vs).unset v
theorem Er.start {vs : List V} {ds : List D} (r : Rs K H m vs ds) (N : List Str) : Er K H m (L2.start N vs) (ds.map some ++ List.replicate (N.length - ds.length) none) := by
  refine ⟨?_, fun i d q => ?_⟩
  · unfold L2.start
    rw [List.length_append, List.length_append, List.length_map, List.length_map, List.length_replicate, List.length_replicate, r.len]
  · unfold L2.start
    by_cases hi : i < ds.length
    · rw [List.getElem?_append_left (by rw [List.length_map]; exact hi), List.getElem?_map] at q
      cases hd : ds[i]? with
      | none => rw [hd] at q; cases q
      | some d0 =>
        rw [hd] at q
        cases q
        obtain ⟨v, e1, r1⟩ := r.get hd
        refine ⟨v, ?_, r1⟩
        rw [List.getElem?_append_left (by rw [List.length_map, r.len]; exact hi), List.getElem?_map, e1]
        rfl
    · rw [List.getElem?_append_right (by rw [List.length_map]; omega), List.getElem?_replicate] at q
      split at q <;> cases q
end
theorem wipe_set {σ : L2.St} {i : Nat} {x : Option V} : ∀ {vs : List Nat}, i ∈ vs → wipe (σ.set i x) vs = wipe σ vs
  | v :: vs, hi => by
    unfold wipe
    by_cases e : i = v
    · subst e
      by_cases h2 : i ∈ vs
      · rw [wipe_set h2]
      · have : ∀ (vs : List Nat), i ∉ vs → (wipe (σ.set i x) vs) = (wipe σ vs).set i x := by
          intro vs
          induction vs with
          | nil => intro _; rfl
          | cons w ws ih =>
            intro hn
            unfold wipe
            rw [ih (fun z => hn (List.mem_cons_of_mem _ z)), List.set_comm _ _ (fun z => hn (by rw [z]; exact List.mem_cons_self))]
        rw [this vs h2, List.set_set]
    · rcases List.mem_cons.mp hi with z | z
      · exact absurd z e
      · rw [wipe_set z]

/-! ### the readings -/
/-- what is wanted of an exception (so far: none comes) -/
def Xp (X : Xq) : Prop := ∀ c r h, ¬ X c r h
section
variable (C : Cn) (K : PySem.W.Frag) (ca : Str → Option Addr)
def tE (a : E) : TE := fun σ H Q => ∃ m e h Q' X, Sm K ca H m h ∧ Er K H m σ e ∧ Xp X ∧ wpE C a X e h Q' ∧ Post K ca H m Q' Q
def tB (k : Bool) (a : Es) : TE := fun σ H Q => ∃ m e h Q' X, Sm K ca H m h ∧ Er K H m σ e ∧ Xp X ∧ wpB C k a X e h Q' ∧ Post K ca H m Q' Q
def PostB (H : Hp) (m : List Addr) (Q' : Bool → Hh → Prop) (Q : Bool → Hp → Prop) : Prop := ∀ m' H' b h', Ext K H m H' m' → Sm K ca H' m' h' → Q' b h' → Q b H'
def PostT (H : Hp) (m : List Addr) (Q' : Qd) (Q : Bool → Hp → Prop) : Prop := ∀ m' H' d h', Ext K H m H' m' → Sm K ca H' m' h' → Q' d h' → tru h' d fun b => Q b H'
def tT (a : E) : TT := fun σ H Q => ∃ m e h Q' X, Sm K ca H m h ∧ Er K H m σ e ∧ Xp X ∧ wpE C a X e h Q' ∧ PostT K ca H m Q' Q
def PostL (H : Hp) (m : List Addr) (Q' : List D → Hh → Prop) (Q : List V → Hp → Prop) : Prop := ∀ m' vs H' ds h', Ext K H m H' m' → Sm K ca H' m' h' → Rs K H' m' vs ds → Q' ds h' → Q vs H'
def tA (a : Es) : TA := fun σ H Q => ∃ m e h Q' X, Sm K ca H m h ∧ Er K H m σ e ∧ Xp X ∧ wpEs C a X e h Q' ∧ PostL K ca H m Q' Q
def PostO (H : Hp) (m : List Addr) (Q' : Option Int → Hh → Prop) (Q : Option Int → Hp → Prop) : Prop := ∀ m' H' o h', Ext K H m H' m' → Sm K ca H' m' h' → Q' o h' → Q o H'
def tO (a : Oe) : TO := fun σ H Q => ∃ m e h Q' X, Sm K ca H m h ∧ Er K H m σ e ∧ Xp X ∧ wpO C a X e h Q' ∧ PostO K ca H m Q' Q
def tC' (a : Oe) : TT := fun σ H Q => ∃ m e h Q' X, Sm K ca H m h ∧ Er K H m σ e ∧ Xp X ∧ wpC C a X e h Q' ∧ PostB K ca H m Q' Q
/-- a walk of ours over J, from H0, m0 on -/
structure WD (J : It) (s : Src) (H0 : Hp) (m0 : List Addr) : Prop where
  goes : ∀ (i : Nat) (H : Hp) (m : List Addr) (h : Hh), i < s.items.length → Ext K H0 m0 H m → Sm K ca H m h → s.ok h → J.go i H
  stops : ∀ (H : Hp) (m : List Addr) (h : Hh), Ext K H0 m0 H m → Sm K ca H m h → s.ok h → J.stop s.items.length H
  yields : ∀ (i : Nat) (H : Hp) (x : V) (H' : Hp) (m : List Addr) (h : Hh) (d : D), s.items[i]? = some d → Ext K H0 m0 H m → Sm K ca H m h → s.ok h → J.yld i H x H' → Ext K H m H' m ∧ Sm K ca H' m h ∧ R K H' m x d ∧ ∀ a o, H a = some o → H' a = some o
def PostI (H : Hp) (m : List Addr) (Q' : Src → Hh → Prop) (Q : It → Hp → Prop) : Prop := ∀ m' H' J s h', Ext K H m H' m' → Sm K ca H' m' h' → WD K ca J s H' m' → Q' s h' → Q J H'
def tI (a : Iv) : TI := fun σ H Q => ∃ m e h Q' X, Sm K ca H m h ∧ Er K H m σ e ∧ Xp X ∧ wpI C a X e h Q' ∧ PostI K ca H m Q' Q
/-- slots outside vs stay -/
def Keep (sl : List Nat) (σ σ' : L2.St) : Prop := ∀ vs : List Nat, (∀ i ∈ sl, i ∈ vs) → wipe σ' vs = wipe σ vs
def PostG (sl : List Nat) (σ : L2.St) (H : Hp) (m : List Addr) (Q' : En → Hh → Prop) (Q : L2.St → Hp → Prop) : Prop := ∀ m' σ' H' e' h', Ext K H m H' m' → Sm K ca H' m' h' → Er K H' m' σ' e' → Keep sl σ σ' → Q' e' h' → Q σ' H'
def tG (t : Tg) : TG := fun v σ H Q => ∃ m e h d Q' X, Sm K ca H m h ∧ Er K H m σ e ∧ R K H m v d ∧ Xp X ∧ wpG C t X d e h Q' ∧ PostG K ca (tgSlots t) σ H m Q' Q
def tGs (t : Tgs) : TGs := fun vs σ H Q => ∃ m e h ds Q' X, Sm K ca H m h ∧ Er K H m σ e ∧ Rs K H m vs ds ∧ Xp X ∧ wpGs C t X ds e h Q' ∧ PostG K ca (tgSlots.go t) σ H m Q' Q
def PostS (H : Hp) (m : List Addr) (P : Po) (D : Ends) : Prop :=
  (∀ m' σ' H' e' h', Ext K H m H' m' → Sm K ca H' m' h' → Er K H' m' σ' e' → P.nx e' h' → D.nx σ' H') ∧ Post K ca H m P.rt D.rt ∧
  (∀ m' σ' H' e' h', Ext K H m H' m' → Sm K ca H' m' h' → Er K H' m' σ' e' → P.bk e' h' → D.bk σ' H') ∧
  (∀ m' σ' H' e' h', Ext K H m H' m' → Sm K ca H' m' h' → Er K H' m' σ' e' → P.ct e' h' → D.ct σ' H') ∧ Xp P.ex
def tS (a : S) : TS := fun D σ H => ∃ m e h P, Sm K ca H m h ∧ Er K H m σ e ∧ wpS C a e h P ∧ PostS K ca H m P D
def tSs (a : Ss) : TS := fun D σ H => ∃ m e h P, Sm K ca H m h ∧ Er K H m σ e ∧ wpSs C a e h P ∧ PostS K ca H m P D
end
/-- a def's promise -/
def spF (K : PySem.W.Frag) (ca : Str → Option Addr) (T : Tb) (k : Nat) (f : Str) : Sp := fun vs H Q _ => ∃ F m h ds Q' X, T.fn f = some F ∧ vs.length = F.ps.length ∧ Sm K ca H m h ∧ Rs K H m vs ds ∧ Xp X ∧ FS T k f ds h Q' X ∧ Post K ca H m Q' Q

def bnames : List Str := ["len", "list", "tuple", "divmod", "abs", "int", "max", "min", "all", "any", "sum", "str", "bool", "range", "enumerate", "zip", "reversed", "isinstance", "dict"]
def cnOf (T : Tb) (k : Nat) : Cn := ⟨FS T k, fun x => T.gls.lookup x, fun x => (T.fn x).isSome, fun x => T.tds.lookup x⟩
/-- an entry of a written dict beside one of ours -/
def EntOk (K : PySem.W.Frag) (e : DictEntry) (p : Str × D) : Prop := ∃ t v, e.key = .str p.1 t ∧ RelV v e.val ∧ ∀ H m, R K H m v p.2
def TabAt (K : PySem.W.Frag) (w : World) (a : Addr) (kvs : List (Str × D)) : Prop := ∃ es n, KDict K w a es n ∧ Paired (EntOk K) es.toList kvs
structure Ct (T : Tb) (k : Nat) (ca : Str → Option Addr) (N : List Str) (sc : Scope) (fc : Str → Bool) (X : Cx) : Prop where
  hN : X.N = N
  hsc : X.env.scope = sc
  nd : N.Nodup
  calm : X.calm = true
  room : Room (2 * k + 1) X.A
  fn : ∀ x, fc x = true → X.fn x = true
  blt : ∀ x ∈ bnames, X.mg x = none
  fs : ∀ f F, T.fn f = some F → ∃ fa fd, X.mg f = some (.ref fa) ∧ PySem.W.keepIn X.K (.ref fa) = true ∧ Binds X.K fd F.ps [] ∧ FnOk X.prog X.w X.K X.mg X.base CX0 (2 * k) fa fd F.ps (spF X.K ca T k f)
  gls : ∀ x d, T.gls.lookup x = some d → ∃ v u, X.mg x = some u ∧ RelV v u ∧ ∀ H m, R X.K H m v d
  tds : ∀ x kvs, T.tds.lookup x = some kvs → ∃ a, X.mg x = some (.ref a) ∧ TabAt X.K X.w a kvs
section
variable {T : Tb} {k : Nat} {ca : Str → Option Addr} {N : List Str} {sc : Scope} {fc : Str → Bool} {X : Cx}
theorem Ct.vis (c : Ct T k ca N sc fc X) {x : Str} (h : visB sc x = true) : Vis X.env.scope x := by
  rw [c.hsc]
  unfold visB at h
  split at h
  · exact .inl (by assumption)
  · exact .inr (.inl (by assumption))
  · exact .inr (.inr (by assumption))
  · cases h
theorem Ct.gl (c : Ct T k ca N sc fc X) {x : Str} (h : glB sc x = true) : Gl X x := by
  show X.env.scope.names.lookup x = some .globalImplicit
  rw [c.hsc]
  unfold glB at h
  split at h
  · assumption
  · cases h
theorem Ct.loc (c : Ct T k ca N sc fc X) {x : Str} (h : locB sc fc x = true) : Loc X.env.scope x ∧ (X.fn x = true ∨ X.env.scope.names.lookup x = some .local) := by
  rw [c.hsc]
  unfold locB at h
  split at h
  · exact ⟨.inl (by assumption), .inr (by assumption)⟩
  · exact ⟨.inr (by assumption), .inl (c.fn x h)⟩
  · cases h
theorem Ct.lcl (c : Ct T k ca N sc fc X) {x : Str} (h : Bp.lcl sc x = true) : X.env.scope.names.lookup x = some .local := by
  rw [c.hsc]
  unfold Bp.lcl at h
  split at h
  · assumption
  · cases h
theorem Ct.slot (c : Ct T k ca N sc fc X) {x : Str} {i : Nat} (h : decide (N[i]? = some x) = true) : X.N[i]? = some x := by
  rw [c.hN]; exact of_decide_eq_true h
theorem Ct.hnd (c : Ct T k ca N sc fc X) : X.N.Nodup := by rw [c.hN]; exact c.nd
theorem Ct.units (c : Ct T k ca N sc fc X) : X.A.units + 64 < cLine := c.room.units
theorem Ct.blk (c : Ct T k ca N sc fc X) (s : Shared) (H : Hp) (scope : Scope) (C : Addr) (cl : List (Str × Addr)) (fp : List Addr) :
    Ct T k ca N (relS scope sc) (fun z => scope.names.lookup z == some .cell) (X.blk s H scope (compEnvC scope cl C X.env) fp) :=
  ⟨c.hN, by rw [← c.hsc]; rfl, c.nd, c.calm, c.room, fun x h => h, c.blt, c.fs, c.gls, c.tds⟩
theorem star_cons (e : Expr) (es : List Expr) (env : Env) (h : nst e = true) : starEach (e :: es) env = (false, eval e env) :: starEach es env := by
  cases e <;> first | rfl | cases h
theorem assign_cons (e : Expr) (es : List Expr) (env : Env) (h : nst e = true) : assignEach (e :: es) env = (false, assign e env) :: assignEach es env := by
  cases e <;> first | rfl | cases h
end
end Bp

namespace Bp
open PySem L2 PySem.Spec PyProof.Rows

section
variable {T : Tb} {k : Nat} {ca : Str → Option Addr} {N : List Str} {sc : Scope} {fc : Str → Bool} {X : Cx} {C : Cn}
theorem star_any (pos : Pos) (env : Env) : ∀ (xs : List Expr), (∀ x ∈ xs, nst x = true) → (backTo pos (starEach xs env)).any (·.1) = false
  | [], _ => rfl
  | x :: xs, h => by
    rw [star_cons x xs env (h x List.mem_cons_self)]
    have ih := star_any pos env xs fun y hy => h y (List.mem_cons_of_mem _ hy)
    unfold backTo at ih ⊢
    rw [List.map_cons, List.any_cons, ih]
    rfl
theorem star_all (pos : Pos) (env : Env) : ∀ (xs : List Expr), (∀ x ∈ xs, nst x = true) → (backTo pos (starEach xs env)).all (fun x => !x.1) = true
  | [], _ => rfl
  | x :: xs, h => by
    rw [star_cons x xs env (h x List.mem_cons_self)]
    have ih := star_all pos env xs fun y hy => h y (List.mem_cons_of_mem _ hy)
    unfold backTo at ih ⊢
    rw [List.map_cons, List.all_cons, ih]
    rfl
theorem ck_nst : ∀ (xs : List Expr) (a : Es), ckEs a N sc fc xs = true → ∀ x ∈ xs, nst x = true
  | [], _, _, x, hx => by cases hx
  | y :: ys, .nil, h, x, hx => by unfold ckEs at h; cases h
  | y :: ys, .cons a r, h, x, hx => by
    unfold ckEs at h
    simp only [Bool.and_eq_true] at h
    rcases List.mem_cons.mp hx with e | e
    · rw [e]; exact h.1.1
    · exact ck_nst ys r h.2 x e
theorem few_ok (pos : Pos) (env : Env) (xs : List Expr) (h : ∀ x ∈ xs, nst x = true) (hl : xs.length < 30) : ((backTo pos (starEach xs env)).all (fun x => !x.1) && (backToKw pos (keywordEach [] env)).all (fun x => x.1.isSome)
      && decide (xs.length + ([] : List Keyword).length + (if ([] : List Keyword).isEmpty then 0 else 1) < 30)) = true := by
  rw [star_all pos env xs h]
  show (true && true && decide (xs.length + 0 + 0 < 30)) = true
  rw [decide_eq_true (by omega)]
  rfl
theorem base_ok (o : Expr) (n : Str) (env : Env) (w : Sem Value) (h : isCall0 o = false) : attributeBase o n env w = w := by
  unfold attributeBase
  split
  · cases h
  · rfl
theorem ix_plain (b : Expr) (h : nsl b = true) : PlainIx b := by
  intro o i
  cases b <;> first | rfl | cases h
theorem nset_in (op : CmpOp) (b : Expr) (h : nset b = true) : behindInMarks op b = false := by
  cases b <;> first | rfl | cases h
theorem nset_fold (e : Expr) (env : Env) (x : Value) (h : nset e = true) : foldedSetIterable e env x = pure x := by
  cases e <;> first | rfl | cases h

/-! ### tests -/
theorem pt_of {e : Expr} {a : E} (h : PE X e (tE C X.K ca a)) (he : ∀ whole, PySem.isTrue e X.env whole = (do let v ← whole; standAt e.pos; holding [v] (truthy v))) : PT X e (tT C X.K ca a) :=
  pt_imp (pt_truth h he) fun σ H Q ⟨m, en, hh, Q', Xx, S, E, xp, w, p⟩ =>
    ⟨m, en, hh, _, Xx, S, E, xp, w, fun m' v H' d h' x S' r q => tru_ok' S' r (p m' H' d h' x S' q)⟩
theorem pt_ifExp {t x y : Expr} {pos : Pos} {tt tx ty : TT} (hc : PT X t tt) (ha : PT X x tx) (hb : PT X y ty) : PT X (.IfExp t x y pos) (fun σ H Q => tt σ H fun b H1 => if b = true then tx σ H1 Q else ty σ H1 Q) := by
  refine ⟨fun pins s σ H Q I h => ?_⟩
  have e : PySem.isTrue (.IfExp t x y pos) X.env (eval (.IfExp t x y pos) X.env) = (do
      if ← PySem.isTrue t X.env (eval t X.env) then PySem.isTrue x X.env (eval x X.env) else PySem.isTrue y X.env (eval y X.env)) := by rw [PySem.isTrue]
  rw [e]
  refine wpAny_bind (thn (hc.run pins s σ H _ I h) fun b s1 ⟨H1, I1, q⟩ => ?_)
  cases b with
  | true => exact ha.run pins s1 σ H1 Q I1 q
  | false => exact hb.run pins s1 σ H1 Q I1 q
theorem tru_det {h : Hh} {d : D} {A : Bool → Prop} {b : Bool} (w : tru h d A) (w' : tru h d fun c => c = b) : A b := by
  cases d with
  | non => cases w'; exact w
  | bl b => cases w'; exact w
  | int i => cases w'; exact w
  | str s => cases w'.2; exact w.2
  | tup ds => cases w'; exact w
  | ref n =>
    rcases w with ⟨ds, e1, q⟩ | ⟨ds, e1, q⟩ | ⟨kvs, e1, q⟩ <;> rcases w' with ⟨ds', e1', q'⟩ | ⟨ds', e1', q'⟩ | ⟨kvs', e1', q'⟩ <;> (rw [e1] at e1'; cases e1') <;> (subst q'; exact q)
theorem tru_imp {h : Hh} {d : D} {A B : Bool → Prop} (w : tru h d A) (i : ∀ b, A b → B b) : tru h d B := by
  cases d with
  | non => exact i _ w
  | bl b => exact i _ w
  | int _ => exact i _ w
  | str s => exact ⟨w.1, i _ w.2⟩
  | tup ds => exact i _ w
  | ref n =>
    rcases w with ⟨ds, e1, q⟩ | ⟨ds, e1, q⟩ | ⟨kvs, e1, q⟩
    · exact .inl ⟨ds, e1, i _ q⟩
    · exact .inr (.inl ⟨ds, e1, i _ q⟩)
    · exact .inr (.inr ⟨kvs, e1, i _ q⟩)
/-- truth twice is truth once -/
theorem tru_twice {h : Hh} {d : D} {A : Prop} {k : Bool} {B : Bool → Prop} (w : tru h d fun t => if t = k then A else tru h d B) : tru h d fun t => if t = k then A else B t := by
  cases d with
  | non => dsimp only [tru] at w ⊢; split at w <;> simp_all
  | bl b => dsimp only [tru] at w ⊢; split at w <;> simp_all
  | int i => dsimp only [tru] at w ⊢; split at w <;> simp_all
  | str s => refine ⟨w.1, ?_⟩; have w2 := w.2; dsimp only [tru] at w2; split at w2 <;> simp_all
  | tup ds => dsimp only [tru] at w ⊢; split at w <;> simp_all
  | ref n =>
    rcases w with ⟨ds, e1, q⟩ | ⟨ds, e1, q⟩ | ⟨kvs, e1, q⟩
    · refine .inl ⟨ds, e1, ?_⟩
      split at q
      · rw [if_pos (by assumption)]; exact q
      · rw [if_neg (by assumption)]
        rcases q with ⟨ds', e1', q'⟩ | ⟨ds', e1', q'⟩ | ⟨kvs', e1', q'⟩ <;> (rw [e1] at e1'; cases e1'; try exact q')
    · refine .inr (.inl ⟨ds, e1, ?_⟩)
      split at q
      · rw [if_pos (by assumption)]; exact q
      · rw [if_neg (by assumption)]
        rcases q with ⟨ds', e1', q'⟩ | ⟨ds', e1', q'⟩ | ⟨kvs', e1', q'⟩ <;> (rw [e1] at e1'; cases e1'; try exact q')
    · refine .inr (.inr ⟨kvs, e1, ?_⟩)
      split at q
      · rw [if_pos (by assumption)]; exact q
      · rw [if_neg (by assumption)]
        rcases q with ⟨ds', e1', q'⟩ | ⟨ds', e1', q'⟩ | ⟨kvs', e1', q'⟩ <;> (rw [e1] at e1'; cases e1'; try exact q')

/-! ### methods of built-in types -/
def rMtGet : V → List V → Hp → VK → Prop := fun x xs H Q => ∃ a y z o, x = .ref a ∧ xs = [y, z] ∧ DGet H a y o ∧ Q (o.getD z) H
theorem mt_dget2 (hu : X.A.units + 1 < cLine) : MtR X "dict.get" rMtGet := by
  intro pins s σ H x xs v us Q I rx rv h
  obtain ⟨a, y, z, o, rfl, rfl, g, q⟩ := h
  cases rx
  obtain ⟨u1, u2, rfl, r1, r2⟩ := rv.two
  exact d_get2 hu I g r1 r2 fun w' s' I' r' => ⟨_, H, I', r', q⟩
def mtT : Mt → String
  | .get2 => "dict" | _ => "list"
def rMt : Mt → V → List V → Hp → VK → Prop
  | .append => rAppend
  | .extend => rExtend
  | .pop => rPop
  | .popAt => rPopAt
  | .reverse => rReverse
  | .clear => rClear
  | .insert => fun x vs H Q => ∃ (l : Addr) (xs : List V) (i : Int) (y : V), x = .ref l ∧ vs = [.int i, y] ∧ H l = some (.lst xs) ∧ xs.length < sizeLine ∧ 0 ≤ i ∧ i < 2 ^ 63 ∧ Q .non (upd H l (.lst (xs.take i.toNat ++ [y] ++ xs.drop i.toNat)))
  | .get2 => rMtGet
  | _ => fun _ _ _ _ => False
def tMt (K : PySem.W.Frag) (m : Mt) (to : TE) (t : TA) : TE := fun σ H Q => to σ H fun x H1 => tyV K (mtT m) x H1 ∧ t σ H1 fun xs H2 => rMt m x xs H2 Q
theorem pe_mt {m : Mt} {o : Expr} {xs : List Expr} {ap cp : Pos} {to : TE} {t : TA} (hu : X.A.units + 1 < cLine) (hz : xs = [] → False) (hs : xs.length < 30) (hl : xs.length = mtA m) (hn : ∀ x ∈ xs, nst x = true) (hb : isCall0 o = false) (hp : (ap.endLine == cp.line) = true) (ho : PE X o to) (ha : PA X xs t) : PE X (.Call (.Attribute o (mtN m) ap) xs [] cp) (tMt X.K m to t) := by
  have hbase := fun n => base_ok o n X.env (eval o X.env) hb
  cases m
  case append =>
    obtain ⟨a, rfl⟩ : ∃ a, xs = [a] := by match xs, hl with | [a], _ => exact ⟨a, rfl⟩
    exact pe_bm PySem.F.plainAttrs_list PySem.F.slot_list_append PySem.F.type_list_append mt_append ho ha (hbase _) (few_ok cp X.env _ hn (by simp)) hp (star_cons _ _ _ (hn a (by simp))) rfl
  case extend =>
    obtain ⟨a, rfl⟩ : ∃ a, xs = [a] := by match xs, hl with | [a], _ => exact ⟨a, rfl⟩
    exact pe_bm PySem.F.plainAttrs_list PySem.F.slot_list_extend PySem.F.type_list_extend mt_extend ho ha (hbase _) (few_ok cp X.env _ hn (by simp)) hp (star_cons _ _ _ (hn a (by simp))) rfl
  case popAt =>
    obtain ⟨a, rfl⟩ : ∃ a, xs = [a] := by match xs, hl with | [a], _ => exact ⟨a, rfl⟩
    exact pe_bm PySem.F.plainAttrs_list PySem.F.slot_list_pop PySem.F.type_list_pop mt_popAt ho ha (hbase _) (few_ok cp X.env _ hn (by simp)) hp (star_cons _ _ _ (hn a (by simp))) rfl
  case insert =>
    obtain ⟨a, b, rfl⟩ : ∃ a b, xs = [a, b] := by match xs, hl with | [a, b], _ => exact ⟨a, b, rfl⟩
    exact pe_bm PySem.F.plainAttrs_list PySem.F.slot_list_insert PySem.F.type_list_insert mt_insert ho ha (hbase _) (few_ok cp X.env _ hn (by simp)) hp (star_cons _ _ _ (hn a (by simp))) (star_any cp X.env [b] fun x hx => hn x (List.mem_cons_of_mem _ hx))
  case get2 =>
    obtain ⟨a, b, rfl⟩ : ∃ a b, xs = [a, b] := by match xs, hl with | [a, b], _ => exact ⟨a, b, rfl⟩
    exact pe_bm PySem.F.plainAttrs_dict PySem.F.slot_dict_get PySem.F.type_dict_get (mt_dget2 hu) ho ha (hbase _) (few_ok cp X.env _ hn (by simp)) hp (star_cons _ _ _ (hn a (by simp))) (star_any cp X.env [b] fun x hx => hn x (List.mem_cons_of_mem _ hx))
  all_goals first
    | exact (hz (List.length_eq_zero_iff.mp (show xs.length = 0 from hl))).elim
    | (have : xs.length < 30 := hs
       rw [hl] at this
       exact absurd this (by decide))
theorem pe_mt0 {m : Mt} {o : Expr} {ap cp : Pos} {to : TE} (hl : 0 = mtA m) (hb : isCall0 o = false) (hp : (ap.endLine == cp.line) = true) (ho : PE X o to) : PE X (.Call (.Attribute o (mtN m) ap) [] [] cp) (fun σ H Q => to σ H fun x H1 => tyV X.K (mtT m) x H1 ∧ rMt m x [] H1 Q) := by
  have hbase := fun n => base_ok o n X.env (eval o X.env) hb
  cases m
  case pop => exact pe_bm0 PySem.F.plainAttrs_list PySem.F.slot_list_pop PySem.F.type_list_pop mt_pop ho (hbase _) hp
  case reverse => exact pe_bm0 PySem.F.plainAttrs_list PySem.F.slot_list_reverse PySem.F.type_list_reverse mt_reverse ho (hbase _) hp
  case clear => exact pe_bm0 PySem.F.plainAttrs_list PySem.F.slot_list_clear PySem.F.type_list_clear mt_clear ho (hbase _) hp
  all_goals exact absurd hl (by decide)
theorem ty_ok {K : PySem.W.Frag} {H : Hp} {m : List Addr} {h : Hh} {x : V} {d : D} (mt : Mt) (S : Sm K ca H m h) (rx : R K H m x d) (w : mtTy mt d h) : tyV K (mtT mt) x H := by
  unfold mtTy at w
  split at w
  · cases rx with
    | ref z =>
      split at w
      · obtain ⟨kvs, e⟩ := w
        obtain ⟨vk, e2, r2⟩ := S.obj _ _ _ z e
        exact .inr (.inr (.inl ⟨rfl, .inl ⟨vk, e2⟩⟩))
      · rename_i hne
        obtain ⟨ds, e⟩ := w
        obtain ⟨ws, e2, r2⟩ := S.lstAt e z
        exact .inl ⟨by cases mt <;> first | rfl | exact absurd rfl hne, ws, SqL.of e2⟩
  · exact w.elim
theorem mt_ok {K : PySem.W.Frag} {H : Hp} {m : List Addr} {h : Hh} {x : V} {d : D} {Q : VK} {Q' : Qd} (mt : Mt) {vs : List V} {ds : List D} (S : Sm K ca H m h) (rx : R K H m x d) (rs : Rs K H m vs ds) (w : wMt mt d ds h Q') (p : Post K ca H m Q' Q) : rMt mt x vs H Q := by
  unfold wMt at w
  split at w
  · obtain ⟨xs, e, hl, q⟩ := w
    obtain ⟨v, rfl, r⟩ := rs.inv1
    cases rx with
    | ref z =>
      obtain ⟨ws, e2, r2⟩ := S.lstAt e z
      exact ⟨_, ws, v, rfl, rfl, e2, by rw [r2.len]; exact lim' _ hl, p.setl S e z rfl (r2.append (.one r)) .non q⟩
  · obtain ⟨xs, ys, e, e', hl, q⟩ := w
    obtain ⟨v, rfl, r⟩ := rs.inv1
    cases rx with
    | ref z => cases r with
      | ref z' =>
        obtain ⟨ws, e2, r2⟩ := S.lstAt e z
        obtain ⟨us, e3, r3⟩ := S.lstAt e' z'
        exact ⟨_, _, ws, us, rfl, rfl, e2, e3, by rw [r2.len, r3.len]; exact lim _ hl, p.setl S e z rfl (r2.append r3) .non q⟩
  · obtain ⟨xs, y, e, hy, q⟩ := w
    obtain rfl := rs.inv0
    cases rx with
    | ref z =>
      obtain ⟨ws, e2, r2⟩ := S.lstAt e z
      obtain ⟨v, hv, rv⟩ := r2.get hy
      exact ⟨_, ws, v, rfl, rfl, e2, by rw [r2.len]; exact hv, p.setl S e z rfl r2.dropLast rv q⟩
  · obtain ⟨xs, kk, y, e, h1, h2, hk, hy, q⟩ := w
    obtain ⟨v, rfl, r⟩ := rs.inv1
    cases r
    cases rx with
    | ref z =>
      obtain ⟨ws, e2, r2⟩ := S.lstAt e z
      obtain ⟨v, hv, rv⟩ := r2.get hy
      exact ⟨_, ws, _, kk, v, rfl, rfl, e2, by omega, by omega, by rw [r2.len]; exact hk, hv, p.setl S e z rfl (r2.erase _) rv q⟩
  · obtain ⟨xs, e, q⟩ := w
    obtain rfl := rs.inv0
    cases rx with
    | ref z =>
      obtain ⟨ws, e2, r2⟩ := S.lstAt e z
      exact ⟨_, ws, rfl, rfl, e2, p.setl S e z rfl r2.reverse .non q⟩
  · obtain ⟨xs, e, q⟩ := w
    obtain rfl := rs.inv0
    cases rx with
    | ref z =>
      obtain ⟨ws, e2, r2⟩ := S.lstAt e z
      exact ⟨_, ws, rfl, rfl, e2, p.setl S e z rfl .nil .non q⟩
  · obtain ⟨xs, e, h0, h1, hl, q⟩ := w
    obtain ⟨v, u, rfl, r, r'⟩ := rs.inv2
    cases r
    cases rx with
    | ref z =>
      obtain ⟨ws, e2, r2⟩ := S.lstAt e z
      refine ⟨_, ws, _, u, rfl, rfl, e2, by rw [r2.len]; exact lim' _ hl, h0, by omega, p.setl S e z rfl (((r2.take _).append (.one r')).append (r2.drop _)) .non ?_⟩
      rw [List.append_assoc]
      exact q
  · obtain ⟨kvs, key, e, ek, q⟩ := w
    obtain ⟨v, u, rfl, r, r'⟩ := rs.inv2
    cases rx with
    | ref z =>
      rcases e with e | e
      · obtain ⟨vk, e2, r2⟩ := S.obj _ _ _ z e
        have ex := key_ok r ek
        subst ex
        exact ⟨_, _, u, _, rfl, rfl, DGet.k e2, p.same S ((r2.val key).getD r') q⟩
      · obtain ⟨vk, ob, e2, r2⟩ := S.obj _ _ _ z e
        have ex := key_ok r ek
        subst ex
        exact ⟨_, _, u, _, rfl, rfl, .inl ⟨vk, key, .inr ⟨ob, e2⟩, rfl, rfl⟩, p.same S ((r2.val key).getD r') q⟩
  · exact w.elim
end
end Bp

namespace Bp
open PySem L2 PySem.Spec PyProof.Rows

/-! ### walks -/
section
variable {K : PySem.W.Frag} {ca : Str → Option Addr} {H0 : Hp} {m0 : List Addr}
theorem oks {n : Nat} {o : O} {h : Hh} {ds : List D} {r : List (Nat × O)} (k : Src.ok ⟨ds, (n, o) :: r⟩ h) : h[n]? = some o := k (n, o) List.mem_cons_self
theorem seq_of {h : Hh} {n : Nat} {ds : List D} {o : O} (ho : o = .lst ds ∨ o = .rl ds) (e : h[n]? = some o) : h[n]? = some (.lst ds) ∨ h[n]? = some (.rl ds) := by
  rcases ho with rfl | rfl
  · exact .inl e
  · exact .inr e
theorem wd_list {n : Nat} {a : Addr} {o : O} {ds : List D} (ea : m0[n]? = some a) (ho : o = .lst ds ∨ o = .rl ds) : WD K ca (Itl K a) ⟨ds, [(n, o)]⟩ H0 m0 := by
  refine ⟨fun i H m h hi x S k => ?_, fun H m h x S k => ?_, fun i H v H' m h d hd x S k y => ?_⟩
  · obtain ⟨vs, e, r⟩ := S.seqAt (seq_of ho (oks k)) (x.pre n a ea)
    obtain ⟨v, e2, _⟩ := r.get (List.getElem?_eq_getElem hi)
    exact ⟨vs, v, e, e2⟩
  · obtain ⟨vs, e, r⟩ := S.seqAt (seq_of ho (oks k)) (x.pre n a ea)
    exact ⟨vs, e, Nat.le_of_eq r.len⟩
  · obtain ⟨vs, e, r⟩ := S.seqAt (seq_of ho (oks k)) (x.pre n a ea)
    obtain ⟨rfl, y⟩ := y
    obtain ⟨v', e2, r2⟩ := r.get hd
    have := (y vs e).symm.trans e2
    cases this
    exact ⟨Ext.refl, S, r2, fun _ _ z => z⟩
theorem wd_tup {a : Addr} {vs : List V} {ds : List D} (t : SqT K H0 a vs) (r : Rs K H0 m0 vs ds) : WD K ca (Itt K a) ⟨ds, []⟩ H0 m0 := by
  refine ⟨fun i H m h hi x S k => ?_, fun H m h x S k => ?_, fun i H v H' m h d hd x S k y => ?_⟩
  · obtain ⟨v, e2, _⟩ := r.get (List.getElem?_eq_getElem hi)
    exact ⟨vs, v, x.tup _ _ t, e2⟩
  · exact ⟨vs, x.tup _ _ t, Nat.le_of_eq r.len⟩
  · obtain ⟨rfl, y⟩ := y
    obtain ⟨v', e2, r2⟩ := r.get hd
    have := (y vs (x.tup _ _ t)).symm.trans e2
    cases this
    exact ⟨Ext.refl, S, r2.mono x, fun _ _ z => z⟩
theorem wd_str {z : Str} : WD K ca (Its z) ⟨z.cps.toList.map fun c => D.str ⟨#[c]⟩, []⟩ H0 m0 := by
  refine ⟨fun i H m h hi x S k => ?_, fun H m h x S k => ?_, fun i H v H' m h d hd x S k y => ?_⟩
  · have : i < (z.cps.toList.map fun c => D.str ⟨#[c]⟩).length := hi
    rw [List.length_map, Array.length_toList] at this
    exact this
  · show z.cps.size ≤ (z.cps.toList.map fun c => D.str ⟨#[c]⟩).length
    rw [List.length_map, Array.length_toList]
    exact Nat.le_refl _
  · obtain ⟨rfl, c, ec, rfl⟩ := y
    have hd' : (z.cps.toList.map fun c => D.str ⟨#[c]⟩)[i]? = some d := hd
    rw [List.getElem?_map, Array.getElem?_toList, ec] at hd'
    cases hd'
    exact ⟨Ext.refl, S, .str _, fun _ _ z => z⟩
theorem wd_rng {lo : Int} {n : Nat} : WD K ca (Itr lo n) ⟨(List.range n).map fun k : Nat => D.int (lo + k), []⟩ H0 m0 := by
  refine ⟨fun i H m h hi x S k => ?_, fun H m h x S k => ?_, fun i H v H' m h d hd x S k y => ?_⟩
  · have : i < ((List.range n).map fun k : Nat => D.int (lo + k)).length := hi
    rw [List.length_map, List.length_range] at this
    exact this
  · show n ≤ ((List.range n).map fun k : Nat => D.int (lo + k)).length
    rw [List.length_map, List.length_range]
    exact Nat.le_refl _
  · obtain ⟨rfl, rfl⟩ := y
    have hd' : ((List.range n).map fun k : Nat => D.int (lo + k))[i]? = some d := hd
    rw [List.getElem?_map] at hd'
    by_cases hi : i < n
    · rw [List.getElem?_range hi] at hd'
      cases hd'
      exact ⟨Ext.refl, S, .int _, fun _ _ z => z⟩
    · rw [List.getElem?_eq_none (by rw [List.length_range]; omega)] at hd'
      cases hd'
theorem pair_ok {H H' : Hp} {m : List Addr} {h : Hh} {v : V} {T : Addr} {x y : V} {d e : D} (S : Sm K ca H m h) (hT : H T = none) (hH : H' = upd H T (.tup [x, y])) (rx : R K H m x d) (ry : R K H m y e) : Ext K H m H' m ∧ Sm K ca H' m h ∧ R K H' m (.ref T) (.tup [d, e]) ∧ ∀ a o, H a = some o → H' a = some o := by
  subst hH
  have x1 : Ext K H m (upd H T (.tup [x, y])) m := Ext.new0 hT
  exact ⟨x1, S.newt hT, .tup (SqT.of upd_same) (.cons (rx.mono x1) (.cons (ry.mono x1) .nil)), fun a o z => by rw [upd_ne (ne_of_none z hT)]; exact z⟩
theorem wd_enum {n : Nat} {a : Addr} {o : O} {ds : List D} (ea : m0[n]? = some a) (ho : o = .lst ds ∨ o = .rl ds) : WD K ca (Ite K a) ⟨ds.zipIdx.map fun p => .tup [.int (p.2 : Nat), p.1], [(n, o)]⟩ H0 m0 := by
  have hl : (ds.zipIdx.map fun p => D.tup [.int (p.2 : Nat), p.1]).length = ds.length := by rw [List.length_map, List.length_zipIdx]
  refine ⟨fun i H m h hi x S k => ?_, fun H m h x S k => ?_, fun i H v H' m h d hd x S k y => ?_⟩
  · obtain ⟨vs, e, r⟩ := S.seqAt (seq_of ho (oks k)) (x.pre n a ea)
    have hi' : i < ds.length := by rw [← hl]; exact hi
    obtain ⟨v, e2, _⟩ := r.get (List.getElem?_eq_getElem hi')
    exact ⟨vs, v, e, e2⟩
  · obtain ⟨vs, e, r⟩ := S.seqAt (seq_of ho (oks k)) (x.pre n a ea)
    exact ⟨vs, e, by rw [hl]; exact Nat.le_of_eq r.len⟩
  · obtain ⟨vs, e, r⟩ := S.seqAt (seq_of ho (oks k)) (x.pre n a ea)
    obtain ⟨T, z, rfl, hT, hH, y⟩ := y
    have hd' : (ds.zipIdx.map fun p => D.tup [.int (p.2 : Nat), p.1])[i]? = some d := hd
    rw [List.getElem?_map, List.getElem?_zipIdx] at hd'
    cases hg : ds[i]? with
    | none => rw [hg] at hd'; cases hd'
    | some d0 =>
      rw [hg] at hd'
      have hd2 : some (D.tup [.int ((0 + i : Nat) : Int), d0]) = some d := hd'
      rw [Nat.zero_add] at hd2
      cases hd2
      obtain ⟨v', e2, r2⟩ := r.get hg
      have := (y vs e).symm.trans e2
      cases this
      exact pair_ok (v := .non) S hT hH (.int _) r2
theorem zip_at {ds es : List D} {i : Nat} {d : D} (hd : ((ds.zip es).map fun p => D.tup [p.1, p.2])[i]? = some d) : ∃ x y, ds[i]? = some x ∧ es[i]? = some y ∧ d = .tup [x, y] := by
  rw [List.getElem?_map] at hd
  cases hg : (ds.zip es)[i]? with
  | none => rw [hg] at hd; cases hd
  | some p =>
    rw [hg] at hd
    cases hd
    rw [List.getElem?_zip_eq_some] at hg
    exact ⟨p.1, p.2, hg.1, hg.2, rfl⟩
theorem wd_zip {n n' : Nat} {a a' : Addr} {o o' : O} {ds es : List D} (ea : m0[n]? = some a) (ho : o = .lst ds ∨ o = .rl ds) (ea' : m0[n']? = some a') (ho' : o' = .lst es ∨ o' = .rl es) : WD K ca (Itz K a a') ⟨(ds.zip es).map fun p => .tup [p.1, p.2], [(n, o)] ++ [(n', o')]⟩ H0 m0 := by
  have two : ∀ {h : Hh}, Src.ok ⟨(ds.zip es).map fun p => .tup [p.1, p.2], [(n, o)] ++ [(n', o')]⟩ h → h[n]? = some o ∧ h[n']? = some o' := fun k => ⟨k (n, o) (by simp), k (n', o') (by simp)⟩
  have hl : ((ds.zip es).map fun p => D.tup [p.1, p.2]).length = min ds.length es.length := by rw [List.length_map, List.length_zip]
  refine ⟨fun i H m h hi x S k => ?_, fun H m h x S k => ?_, fun i H v H' m h d hd x S k y => ?_⟩
  · obtain ⟨vs, e, r⟩ := S.seqAt (seq_of ho (two k).1) (x.pre n a ea)
    obtain ⟨ws, e', r'⟩ := S.seqAt (seq_of ho' (two k).2) (x.pre n' a' ea')
    have hi' : i < min ds.length es.length := by rw [← hl]; exact hi
    obtain ⟨v, e2, _⟩ := r.get (List.getElem?_eq_getElem (show i < ds.length by omega))
    obtain ⟨w, e3, _⟩ := r'.get (List.getElem?_eq_getElem (show i < es.length by omega))
    exact ⟨vs, ws, v, w, e, e', e2, e3⟩
  · obtain ⟨vs, e, r⟩ := S.seqAt (seq_of ho (two k).1) (x.pre n a ea)
    obtain ⟨ws, e', r'⟩ := S.seqAt (seq_of ho' (two k).2) (x.pre n' a' ea')
    refine ⟨vs, ws, e, e', ?_⟩
    show vs.length ≤ ((ds.zip es).map fun p => D.tup [p.1, p.2]).length ∨ ws.length ≤ ((ds.zip es).map fun p => D.tup [p.1, p.2]).length
    rw [hl, r.len, r'.len]
    omega
  · obtain ⟨vs, e, r⟩ := S.seqAt (seq_of ho (two k).1) (x.pre n a ea)
    obtain ⟨ws, e', r'⟩ := S.seqAt (seq_of ho' (two k).2) (x.pre n' a' ea')
    obtain ⟨T, z, u, rfl, hT, hH, y1, y2⟩ := y
    obtain ⟨dx, dy, g1, g2, rfl⟩ := zip_at hd
    obtain ⟨v', e2, r2⟩ := r.get g1
    obtain ⟨w', e3, r3⟩ := r'.get g2
    have h1 := (y1 vs e).symm.trans e2
    have h2 := (y2 ws e').symm.trans e3
    cases h1; cases h2
    exact pair_ok (v := .non) S hT hH r2 r3
theorem wd_zipT {a a' : Addr} {vs ws : List V} {ds es : List D} (t : SqT K H0 a vs) (r : Rs K H0 m0 vs ds) (t' : SqT K H0 a' ws) (r' : Rs K H0 m0 ws es) : WD K ca (RZ.ItzT K a a') ⟨(ds.zip es).map fun p => .tup [p.1, p.2], []⟩ H0 m0 := by
  have hl : ((ds.zip es).map fun p => D.tup [p.1, p.2]).length = min ds.length es.length := by rw [List.length_map, List.length_zip]
  refine ⟨fun i H m h hi x S k => ?_, fun H m h x S k => ?_, fun i H v H' m h d hd x S k y => ?_⟩
  · have hi' : i < min ds.length es.length := by rw [← hl]; exact hi
    obtain ⟨v, e2, _⟩ := r.get (List.getElem?_eq_getElem (show i < ds.length by omega))
    obtain ⟨w, e3, _⟩ := r'.get (List.getElem?_eq_getElem (show i < es.length by omega))
    exact ⟨vs, ws, v, w, x.tup _ _ t, x.tup _ _ t', e2, e3⟩
  · refine ⟨vs, ws, x.tup _ _ t, x.tup _ _ t', ?_⟩
    show vs.length ≤ ((ds.zip es).map fun p => D.tup [p.1, p.2]).length ∨ ws.length ≤ ((ds.zip es).map fun p => D.tup [p.1, p.2]).length
    rw [hl, r.len, r'.len]
    omega
  · obtain ⟨T, z, u, rfl, hT, hH, y1, y2⟩ := y
    obtain ⟨dx, dy, g1, g2, rfl⟩ := zip_at hd
    obtain ⟨v', e2, r2⟩ := r.get g1
    obtain ⟨w', e3, r3⟩ := r'.get g2
    have h1 := (y1 vs (x.tup _ _ t)).symm.trans e2
    have h2 := (y2 ws (x.tup _ _ t')).symm.trans e3
    cases h1; cases h2
    exact pair_ok (v := .non) S hT hH (r2.mono x) (r3.mono x)
theorem wd_rev {n : Nat} {a : Addr} {o : O} {ds : List D} (ea : m0[n]? = some a) (ho : o = .lst ds ∨ o = .rl ds) : WD K ca (Itv K a ds.length) ⟨ds.reverse, [(n, o)]⟩ H0 m0 := by
  refine ⟨fun i H m h hi x S k => ?_, fun H m h x S k => ?_, fun i H v H' m h d hd x S k y => ?_⟩
  · obtain ⟨vs, e, r⟩ := S.seqAt (seq_of ho (oks k)) (x.pre n a ea)
    have hi' : i < ds.length := by
      have : i < ds.reverse.length := hi
      rwa [List.length_reverse] at this
    obtain ⟨v, e2, _⟩ := r.get (List.getElem?_eq_getElem (show ds.length - 1 - i < ds.length by omega))
    exact ⟨hi', vs, v, e, e2⟩
  · show ds.length ≤ ds.reverse.length
    rw [List.length_reverse]
    exact Nat.le_refl _
  · obtain ⟨vs, e, r⟩ := S.seqAt (seq_of ho (oks k)) (x.pre n a ea)
    obtain ⟨rfl, y⟩ := y
    have hd' : ds.reverse[i]? = some d := hd
    have hi : i < ds.length := by
      have := (List.getElem?_eq_some_iff.mp hd').1
      rwa [List.length_reverse] at this
    rw [List.getElem?_reverse hi] at hd'
    obtain ⟨v', e2, r2⟩ := r.get hd'
    have := (y vs e).symm.trans e2
    cases this
    exact ⟨Ext.refl, S, r2, fun _ _ z => z⟩
theorem wd_revT {a : Addr} {vs : List V} {ds : List D} (t : SqT K H0 a vs) (r : Rs K H0 m0 vs ds) : WD K ca (RT.ItvT K a ds.length) ⟨ds.reverse, []⟩ H0 m0 := by
  refine ⟨fun i H m h hi x S k => ?_, fun H m h x S k => ?_, fun i H v H' m h d hd x S k y => ?_⟩
  · have hi' : i < ds.length := by
      have : i < ds.reverse.length := hi
      rwa [List.length_reverse] at this
    obtain ⟨v, e2, _⟩ := r.get (List.getElem?_eq_getElem (show ds.length - 1 - i < ds.length by omega))
    exact ⟨hi', vs, v, x.tup _ _ t, e2⟩
  · show ds.length ≤ ds.reverse.length
    rw [List.length_reverse]
    exact Nat.le_refl _
  · obtain ⟨rfl, y⟩ := y
    have hd' : ds.reverse[i]? = some d := hd
    have hi : i < ds.length := by
      have := (List.getElem?_eq_some_iff.mp hd').1
      rwa [List.length_reverse] at this
    rw [List.getElem?_reverse hi] at hd'
    obtain ⟨v', e2, r2⟩ := r.get hd'
    have := (y vs (x.tup _ _ t)).symm.trans e2
    cases this
    exact ⟨Ext.refl, S, r2.mono x, fun _ _ z => z⟩
end

/-! ### for x in e, whatever e is -/
section
variable {X : Cx} {tg : Expr}
theorem it_list {pins : List (Addr × Obj)} {σ : L2.St} {H : Hp} {s : Shared} {Rr : It → Hp → Prop} {E : Value → Shared → Prop} {a : Addr} {xs : List V} (I : Inv X pins σ H s) (hq : SqL X.K H a xs) (q : Rr (Itl X.K a) H) :
    wpAny (model X.prog X.w) X.A (pyIter (.ref a)) (PIE X pins σ tg Rr) E s := by
  obtain ⟨its, rv, pl, hz⟩ := I.list hq
  exact wpAny_pyIter_list pl.isList (pi_one (tk := s.toks) I _ (turn_list a _) ⟨_, Heap.get?_push_size _ rfl, rfl, rfl⟩ q)
theorem it_tup {pins : List (Addr × Obj)} {σ : L2.St} {H : Hp} {s : Shared} {Rr : It → Hp → Prop} {E : Value → Shared → Prop} {a : Addr} {xs : List V} (I : Inv X pins σ H s) (hq : SqT X.K H a xs) (q : Rr (Itt X.K a) H) :
    wpAny (model X.prog X.w) X.A (pyIter (.ref a)) (PIE X pins σ tg Rr) E s := by
  obtain ⟨its, rv, pl, hz⟩ := I.tuple hq
  exact wpAny_pyIter_tuple pl (pi_one (tk := s.toks) I _ (turn_tuple a _) ⟨_, Heap.get?_push_size _ rfl, rfl, rfl⟩ q)
theorem it_str {pins : List (Addr × Obj)} {σ : L2.St} {H : Hp} {s : Shared} {Rr : It → Hp → Prop} {E : Value → Shared → Prop} {z : Str} {t : Tok} (I : Inv X pins σ H s) (q : Rr (Its z) H) :
    wpAny (model X.prog X.w) X.A (pyIter (.str z t)) (PIE X pins σ tg Rr) E s := by
  cases ha : z.cps.all (· < 128)
  · exact wpAny_pyIter_wide ha (pi_one (tk := s.toks) I _ (turn_str _ z t "str_iterator" (.inr rfl)) ⟨_, Heap.get?_push_size _ rfl, rfl, rfl⟩ q)
  · exact wpAny_pyIter_ascii ha (pi_one (tk := s.toks) I _ (turn_str _ z t "str_ascii_iterator" (.inl rfl)) ⟨_, Heap.get?_push_size _ rfl, rfl, rfl⟩ q)
def iSeqA (K : PySem.W.Frag) (tl : TE) : TI := fun σ H Rr => tl σ H fun x H1 => (∃ a xs, x = .ref a ∧ SqL K H1 a xs ∧ Rr (Itl K a) H1) ∨ (∃ a xs, x = .ref a ∧ SqT K H1 a xs ∧ Rr (Itt K a) H1) ∨ (∃ z, x = .str z ∧ Rr (Its z) H1)
theorem pi_any {l : Expr} {tl : TE} (hl : PE X l tl) : PI X tg l (iSeqA X.K tl) := by
  refine ⟨fun pins s σ H Rr I h => thn (hl.run pins s σ H _ I h) fun v s1 ⟨x, H1, I1, r1, q1⟩ => ?_⟩
  rcases q1 with ⟨a, xs, rfl, hq, q⟩ | ⟨a, xs, rfl, hq, q⟩ | ⟨z, rfl, q⟩
  · cases r1; exact it_list I1 hq q
  · cases r1; exact it_tup I1 hq q
  · obtain ⟨t, rfl⟩ := r1; exact it_str I1 q
end
end Bp

namespace Bp
open PySem L2 PySem.Spec PyProof.Rows

section
variable {K : PySem.W.Frag} {w : World} {a : Addr}
theorem tab_find : ∀ {es : List DictEntry} {kvs : List (Str × D)}, Paired (EntOk K) es kvs → ∀ z : Str,
    (match kvs.lookup z with
      | none => es.find? (·.key.isStr z) = none
      | some d => ∃ e v, es.find? (·.key.isStr z) = some e ∧ RelV v e.val ∧ ∀ H m, R K H m v d) ∧ es.any (·.refKey) = false
  | _, _, .nil, z => ⟨rfl, rfl⟩
  | _, _, .cons (a := e) (b := p) (l₁ := es) (l₂ := kvs) h t, z => by
    obtain ⟨tk, v, hk, rv, rr⟩ := h
    obtain ⟨x, d⟩ := p
    obtain ⟨i1, i2⟩ := tab_find t z
    have hr : e.refKey = false := by unfold DictEntry.refKey; rw [hk]
    refine ⟨?_, by rw [List.any_cons, hr, i2]; rfl⟩
    have hs : e.key.isStr z = (x == z) := by rw [hk]; rfl
    rw [List.lookup_cons, List.find?_cons, hs]
    by_cases hz : z = x
    · subst hz
      rw [beq_self_eq_true]
      exact ⟨e, v, rfl, rv, rr⟩
    · rw [beq_eq_false_iff_ne.mpr hz, beq_eq_false_iff_ne.mpr (fun q => hz q.symm)]
      exact i1
theorem TabAt.ns {kvs : List (Str × D)} (h : TabAt K w a kvs) (z : Str) : ∃ es n r, KDict K w a es n ∧ PySem.W.nsIn K a z = some r ∧ match kvs.lookup z with
    | none => r = none
    | some d => ∃ u v, r = some u ∧ RelV v u ∧ ∀ H m, R K H m v d := by
  obtain ⟨es, n, D, pr⟩ := h
  obtain ⟨i1, i2⟩ := tab_find pr z
  have e : PySem.W.nsIn K a z = (match es.toList.find? (·.key.isStr z) with
      | some e => some (some e.val)
      | none => if es.toList.any (·.refKey) then none else some none) := by
    unfold PySem.W.nsIn; rw [D.at_]; rfl
  cases hl : kvs.lookup z with
  | none =>
    rw [hl] at i1
    refine ⟨es, n, none, D, ?_, rfl⟩
    rw [e, i1, i2]; rfl
  | some d =>
    rw [hl] at i1
    obtain ⟨en, v, h1, h2, h3⟩ := i1
    exact ⟨es, n, some en.val, D, by rw [e, h1], _, v, rfl, h2, h3⟩
end
section
variable {X : Cx} {a : Addr} {o e f : Expr} {apos cpos : Pos} {ty tx : TE} {kvs : List (Str × D)}
/-- X.get(i, d) of a written dict -/
theorem pe_tget {es : Array DictEntry} {n : Nat} (D : KDict X.K X.w a es n) (ho : PE X o (tC (.ref a))) (he : PE X e ty) (hf : PE X f tx) (m : M2 X o "get" apos e f cpos) :
    PE X (.Call (.Attribute o "get" apos) [e, f] [] cpos) (fun σ H Q => ty σ H fun y H1 => tx σ H1 fun z H2 => ∃ s r v, y = .str s ∧ PySem.W.nsIn X.K a s = some r ∧ (match r with | none => v = z | some u => RelV v u) ∧ Q v H2) := by
  refine ⟨fun pins s σ H Q I h => ?_⟩
  refine wpAny_Call_method m.base m.few m.line PySem.F.plainAttrs_dict PySem.F.slot_dict_get PySem.F.type_dict_get (thn (ho.run pins s σ H (fun v H1 => v = .ref a ∧ H1 = H) I ⟨rfl, rfl⟩) fun u s1 ⟨x, H1, I1, rx, ex, eh⟩ => ?_)
  subst ex eh
  obtain rfl : u = Value.ref a := rx
  refine ⟨kd_type D I1, fun b q => ?_, ?_⟩
  · cases q
    exact ⟨_, I1.kIn _ _ D.at_, rfl⟩
  rw [m.trees]
  refine Calls.callWith_builtin rfl (Calls.evalArgs_plain (Calls.spliced_cons (thn (he.run pins s1 σ H1 _ I1 h) fun iv s2 ⟨y, H2, I2, ry, q2⟩ =>
    Calls.spliced_cons (thn (hf.run pins s2 σ H2 _ I2 q2) fun fv s3 ⟨z, H3, I3, rz, sx, r, v, ey, hn, hv, q3⟩ => Calls.spliced_nil ?_))))
  subst ey
  obtain ⟨tk, rfl⟩ := ry
  refine call_meetsIn PySem.F.slot_dict_get (kd_type D I3) PySem.F.entry_dict_get (PySem.F.args_dict_get_3 _ _ _) (meets_dict_get_default (PySem.strKind X.prog X.w) a (PySem.strKind_is X.prog X.w sx tk) D.low fv) ⟨_, PySem.W.mapOf_K (prog := X.prog) I3.kIn D.at_ D.lit, ?_⟩
  rw [PySem.W.find_K D.at_ hn]
  refine ⟨v, H3, I3.tok _, ?_, q3⟩
  cases r with
  | none => rw [hv]; exact rz
  | some u => exact hv
end

/-! ### displays of dicts -/
def prs : List V → List (V × V)
  | a :: b :: r => (a, b) :: prs r
  | _ => []
def evn : Es → Bool
  | .nil => true
  | .cons _ .nil => false
  | .cons _ (.cons _ r) => evn r
def trsOf (C : Cn) (K : PySem.W.Frag) (ca : Str → Option Addr) : Es → List (TE × TE)
  | .cons a (.cons b r) => (tE C K ca a, tE C K ca b) :: trsOf C K ca r
  | _ => []
section
variable {C : Cn} {K : PySem.W.Frag} {ca : Str → Option Addr}
theorem pairs_ok {X : Xq} {e : En} {σ : L2.St} (xp : Xp X) : ∀ (kvs : Es) {H : Hp} {m : List Addr} {h : Hh} {Q' : List D → Hh → Prop} {Qp : List (V × V) → Hp → Prop}, evn kvs = true → Sm K ca H m h → Er K H m σ e → wpEs C kvs X e h Q' →
    (∀ m' vs H' ds h', Ext K H m H' m' → Sm K ca H' m' h' → Rs K H' m' vs ds → Q' ds h' → Qp (prs vs) H') → tPairs (trsOf C K ca kvs) σ H Qp
  | .nil, H, m, h, Q', Qp, _, S, E, w, p => by
    unfold wpEs at w
    exact p m [] H [] h Ext.refl S .nil w
  | .cons a .nil, _, _, _, _, _, he, _, _, _, _ => by cases he
  | .cons a (.cons b r), H, m, h, Q', Qp, he, S, E, w, p => by
    unfold wpEs at w
    refine ⟨m, e, h, _, X, S, E, xp, w, fun m1 v1 H1 d1 h1 x1 S1 r1 w1 => ?_⟩
    unfold wpEs at w1
    refine ⟨m1, e, h1, _, X, S1, E.mono x1, xp, w1, fun m2 v2 H2 d2 h2 x2 S2 r2 w2 => ?_⟩
    refine pairs_ok xp r he S2 (E.mono (x1.trans x2)) w2 fun m3 vs H3 ds h3 x3 S3 rs q => ?_
    exact p m3 (v1 :: v2 :: vs) H3 (d1 :: d2 :: ds) h3 ((x1.trans x2).trans x3) S3 (.cons (r1.mono (x2.trans x3)) (.cons (r2.mono x3) rs)) q
theorem keys_ok {H : Hp} {m : List Addr} : ∀ {vs : List V} {ds : List D} {ps : List (Key × D)}, Rs K H m vs ds → pairUp ds = some ps → ∃ vk : List (Key × V), prs vs = vk.map (fun kv => (kV kv.1, kv.2)) ∧ Rk K H m vk ps
  | _, _, ps, .nil, e => by cases e; exact ⟨[], rfl, .nil⟩
  | _, _, ps, .cons _ .nil, e => by cases e
  | _, _, ps, .cons (v := v) (d := d) r1 (.cons (v := u) (d := f) r2 t), e => by
    unfold pairUp at e
    cases hk : keyOf d with
    | none => rw [hk] at e; cases e
    | some k =>
      rw [hk] at e
      split at e
      · rename_i k' qs e1 e2
        cases e1; cases e
        obtain ⟨vk, e3, r3⟩ := keys_ok t e2
        refine ⟨(k, u) :: vk, ?_, .cons r2 r3⟩
        rw [List.map_cons, ← e3, ← key_ok r1 hk]
        rfl
      · cases e
theorem rk_merge {H : Hp} {m : List Addr} {vk : List (Key × V)} {ps : List (Key × D)} (r : Rk K H m vk ps) : ∀ {av : List (Key × V)} {ad : List (Key × D)}, Rk K H m av ad → Rk K H m (mergeK av vk) (mergeD ad ps) := by
  induction r with
  | nil => intro av ad a; exact a
  | @cons k v d vs ds r t ih =>
    intro av ad a
    exact ih (a.put k r)
theorem disp_ok {kvs : Es} {X : Xq} {e : En} {σ : L2.St} {H : Hp} {m : List Addr} {h : Hh} {Q' : Qd} {Q : VK} (xp : Xp X) (he : evn kvs = true) (S : Sm K ca H m h) (E : Er K H m σ e)
    (w : wpEs C kvs X e (h ++ [.dK []]) fun ds h2 => h2[h.length]? = some (.dK []) ∧ ∃ ps, pairUp ds = some ps ∧ ps.length ≤ 15 ∧ Q' (.ref h.length) (h2.set h.length (.dK (mergeD [] ps)))) (p : Post K ca H m Q' Q) : tDisp (trsOf C K ca kvs) σ H Q := by
  intro p0 hp0
  have x0 : Ext K H m (upd H p0 (.dK [])) (m ++ [p0]) := Ext.new hp0 _
  have S0 : Sm K ca (upd H p0 (.dK [])) (m ++ [p0]) (h ++ [.dK []]) := S.new (o := .dK []) hp0 ⟨[], upd_same, .nil⟩
  have m0 : (m ++ [p0])[h.length]? = some p0 := by rw [← S.len]; simp
  refine pairs_ok xp kvs he S0 (E.mono x0) w fun m2 vs H2 ds h2 x2 S2 rs ⟨g2, ps, e1, l1, q⟩ => ?_
  have m2p := x2.pre _ _ m0
  obtain ⟨vk, e2, rk⟩ := keys_ok rs e1
  obtain ⟨vk0, e3, rk0⟩ := S2.obj _ _ _ m2p g2
  cases rk0
  refine ⟨e3, vk, e2, by rw [rk.len]; exact l1, ?_⟩
  obtain ⟨S3, x3⟩ := S2.put (ho := .dK (mergeK [] vk)) (o := .dK (mergeD [] ps)) g2 m2p rfl rfl fun H' ht e => ⟨_, e, (rk_merge rk .nil).mono0 ⟨fun _ _ z => z, ht⟩⟩
  exact p m2 (.ref p0) _ (.ref h.length) _ ((x0.trans x2).trans x3) S3 (.ref m2p) q
end
end Bp

namespace Bp
open PySem L2 PySem.Spec PyProof.Rows

section
variable {T : Tb} {k : Nat} {ca : Str → Option Addr}

def tTB (C : Cn) (K : PySem.W.Frag) (ca : Str → Option Addr) (kk : Bool) (a : Es) : TT := fun σ H Q => ∃ m e h Q' Xx, Sm K ca H m h ∧ Er K H m σ e ∧ Xp Xx ∧ wpB C kk a Xx e h Q' ∧ PostT K ca H m Q' Q
theorem sub1 {C : Cn} {K : PySem.W.Frag} {a : E} {σ : L2.St} {H : Hp} {m : List Addr} {e : En} {h : Hh} {Q' : Qd} {X : Xq} {Q : VK} (S : Sm K ca H m h) (Ee : Er K H m σ e) (xp : Xp X) (w : wpE C a X e h Q')
    (p : ∀ m' v H' d h', Ext K H m H' m' → Sm K ca H' m' h' → R K H' m' v d → Q' d h' → Q v H') : tE C K ca a σ H Q := ⟨m, e, h, Q', X, S, Ee, xp, w, p⟩

theorem blt_ok {N : List Str} {sc : Scope} {fc : Str → Bool} {X : Cx} (c : Ct T k ca N sc fc X) (b : Bi) : X.mg (biN b) = none := c.blt _ (by cases b <;> decide)
theorem kit_all (a b : Tn) (h : tnOk b = true) : kitB (tnS a) (tnS b) = some (isT a b) := by
  cases b
  case non => cases h
  all_goals (cases a <;> decide +kernel)
theorem kits_all {K : PySem.W.Frag} (a : Tn) : ∀ ts : List Tn, ts.all tnOk = true → PySem.W.kitAny K (.type (tnS a)) (ts.map fun t => Value.type (tnS t)) = some (ts.any (isT a))
  | [], _ => rfl
  | t :: ts, h => by
    rw [List.all_cons, Bool.and_eq_true] at h
    rw [List.map_cons, List.any_cons]
    refine kitAny_cons (b := isT a t) (kit_ty (kit_all a t h.1)) (fun z => ?_) (fun z => ?_)
    · rw [z, Bool.false_or]; exact kits_all a ts h.2
    · rw [z]; rfl
theorem tyx_ok {K : PySem.W.Frag} {H : Hp} {m : List Addr} {h : Hh} {x : V} {d : D} {t : Tn} (S : Sm K ca H m h) (rx : R K H m x d) (e : tyD h d = some t) : TyX K H x (.type (tnS t)) := by
  cases rx with
  | non => cases e; exact .base .non
  | bl b => cases e; exact .base (.bl b)
  | int i => cases e; exact .base (.int i)
  | str s => cases e; exact .base (.str s)
  | tup q r =>
    cases e
    rcases q with (q | ⟨o, q⟩) | ⟨o, its, n, q, c, _⟩
    · exact .base (.tup q)
    · exact .fTuple q
    · exact .kTuple q c
  | ref z =>
    dsimp only [tyD] at e
    split at e
    · cases e
      rename_i e1
      obtain ⟨vs, e2, r⟩ := S.lstAt e1 z
      exact .base (.lst e2)
    · cases e
      rename_i e1
      obtain ⟨vs, e2, r⟩ := S.obj _ _ _ z e1
      rcases e2 with ⟨o, e2⟩ | e2
      · exact .base (.frz e2)
      · rcases e2 (fun _ => none) with (q | ⟨o, q⟩) | ⟨o, its, n, q, c, _⟩
        · cases q
        · cases q
        · exact .kList q c
    · cases e
      rename_i e1
      obtain ⟨vk, e2, r⟩ := S.obj _ _ _ z e1
      exact .base (.dK e2)
    · cases e

theorem tn_boot (t : Tn) (h : tnOk t = true) : bootBuiltins (tnN t) = some (.type (tnS t)) ∧ tnN t ∈ bnames ∧ tnN t ≠ "__name__" ∧ (tnN t == ("__debug__" : Str)) = false := by
  cases t
  case non => cases h
  all_goals exact ⟨by decide +kernel, by decide, by decide, by decide⟩
theorem ckTy_ok {N : List Str} {sc : Scope} {fc : Str → Bool} {X : Cx} (c : Ct T k ca N sc fc X) (t : Tn) (e : Expr) (h : ckTy sc t e = true) : PE X e (tC (.ty (tnS t))) ∧ tnOk t = true := by
  unfold ckTy at h
  split at h
  · simp only [Bool.and_eq_true] at h
    obtain ⟨⟨h1, h2⟩, h3⟩ := h
    have ex := of_decide_eq_true h1
    subst ex
    obtain ⟨b1, b2, b3, b4⟩ := tn_boot t h3
    exact ⟨pe_bltn (c.gl h2) (c.blt _ b2) b1 rfl b3 b4, h3⟩
  · cases h
def tTys : List Tn → TA
  | [] => tNil
  | t :: ts => tCons (tC (.ty (tnS t))) (tTys ts)
theorem ckTys_ok {N : List Str} {sc : Scope} {fc : Str → Bool} {X : Cx} (c : Ct T k ca N sc fc X) : ∀ (ts : List Tn) (xs : List Expr), ckTys sc ts xs = true → PA X xs (fun σ H Q => Q (ts.map fun t => V.ty (tnS t)) H) ∧ ts.all tnOk = true ∧ True
  | [], [], _ => ⟨pa_nil, rfl, trivial⟩
  | t :: ts, x :: xs, h => by
    unfold ckTys at h
    rw [Bool.and_eq_true] at h
    obtain ⟨h1, h2⟩ := ckTy_ok c t x h.1
    obtain ⟨h3, h4, h5⟩ := ckTys_ok c ts xs h.2
    have ns : nst x = true := by
      cases x <;> first | rfl | (have := h.1; unfold ckTy at this; cases this)
    exact ⟨pa_imp (pa_cons h1 h3 (star_cons _ _ _ ns)) fun σ H Q q => q, by rw [List.all_cons, h2, h4]; rfl, trivial⟩
  | [], _ :: _, h => by cases h
  | _ :: _, [], h => by cases h
theorem clss_ok : ∀ ts : List Tn, Paired ClsV (ts.map fun t => V.ty (tnS t)) (ts.map fun t => Value.type (tnS t))
  | [] => .nil
  | t :: ts => .cons (.ty _) (clss_ok ts)
theorem tyx_new {K : PySem.W.Frag} {H : Hp} {p : Addr} {o : HO} {x : V} {t : Value} (hp : H p = none) (h : TyX K H x t) : TyX K (upd H p o) x t := by
  have ne : ∀ {a : Addr} {u : HO}, H a = some u → (upd H p o) a = some u := fun e => by rw [upd_ne (ne_of_none e hp)]; exact e
  cases h with
  | base b =>
    cases b with
    | non => exact .base .non
    | bl b => exact .base (.bl b)
    | int i => exact .base (.int i)
    | str s => exact .base (.str s)
    | flt s => exact .base (.flt s)
    | lst e => exact .base (.lst (ne e))
    | frz e => exact .base (.frz (ne e))
    | tup e => exact .base (.tup (ne e))
    | dK e => exact .base (.dK (ne e))
    | dT e => exact .base (.dT (ne e))
    | ins e a b c d f => exact .base (.ins (ne e) a b c d f)
  | byt b => exact .byt b
  | set e => exact .set (ne e)
  | kList a b => exact .kList a b
  | kTuple a b => exact .kTuple a b
  | kDict a b => exact .kDict a b
  | fTuple e => exact .fTuple (ne e)
  | fDict e => exact .fDict (ne e)
/-! ### targets -/
def rSetA : TSet := fun o i v H Q => rSetL o i v H Q ∨ ∃ a H', o = .ref a ∧ DPut H a i v H' ∧ Q H'
theorem set_any {X : Cx} (hu : X.A.units + 1 < cLine) : PSet X rSetA := by
  intro pins s σ H o i v ov iv u Q I ro ri rv h
  rcases h with h | ⟨a, H', rfl, g, q⟩
  · exact set_list pins s σ H o i v ov iv u Q I ro ri rv h
  · cases ro
    exact d_setItem hu I g ri rv fun s' I' => ⟨H', I', q⟩
theorem ckGs_nst {N : List Str} {sc : Scope} {fc : Str → Bool} : ∀ (xs : List Expr) (a : Tgs), ckGs a N sc fc xs = true → ∀ x ∈ xs, nst x = true
  | [], _, _, x, hx => by cases hx
  | y :: ys, .nil, h, x, hx => by unfold ckGs at h; cases h
  | y :: ys, .cons a r, h, x, hx => by
    unfold ckGs at h
    simp only [Bool.and_eq_true] at h
    rcases List.mem_cons.mp hx with e | e
    · rw [e]; exact h.1.1
    · exact ckGs_nst ys r h.2 x e
theorem ckGs_len {N : List Str} {sc : Scope} {fc : Str → Bool} : ∀ (xs : List Expr) (a : Tgs), ckGs a N sc fc xs = true → tgsLen a = xs.length
  | [], .nil, _ => rfl
  | [], .cons _ _, h => by unfold ckGs at h; cases h
  | y :: ys, .nil, h => by unfold ckGs at h; cases h
  | y :: ys, .cons a r, h => by
    unfold ckGs at h
    simp only [Bool.and_eq_true] at h
    unfold tgsLen
    rw [List.length_cons, ckGs_len ys r h.2]
theorem asg_len (env : Env) : ∀ xs : List Expr, (∀ x ∈ xs, nst x = true) → (assignEach xs env).length = xs.length
  | [], _ => rfl
  | x :: xs, h => by rw [assign_cons x xs env (h x List.mem_cons_self), List.length_cons, List.length_cons, asg_len env xs fun y hy => h y (List.mem_cons_of_mem _ hy)]
theorem asg_idx (env : Env) : ∀ xs : List Expr, (∀ x ∈ xs, nst x = true) → (assignEach xs env).findIdx? (·.1) = none
  | [], _ => rfl
  | x :: xs, h => by
    rw [assign_cons x xs env (h x List.mem_cons_self), List.findIdx?_cons, asg_idx env xs fun y hy => h y (List.mem_cons_of_mem _ hy)]
    rfl
theorem sub_asg (o i : Expr) (pos : Pos) (env : Env) (h : nsl i = true) : ∀ v, assign (.Subscript o i pos) env v = (do
      let ov ← holding [v] (eval o env)
      let iv ← holding [v, ov] (eval i env)
      standAt pos
      holding [v, ov, iv] (setItem ov iv v)
      release [v, ov, iv] []) := by
  intro v
  cases i <;> first | rfl | cases h
theorem srcL_ok {K : PySem.W.Frag} {H : Hp} {m : List Addr} {h : Hh} {v : V} {d : D} {Q : Src → Hh → Prop} (S : Sm K ca H m h) (r : R K H m v d) (w : srcL d h Q) : ∃ (a : Addr) (n : Nat) (o : O) (ds : List D) (vs : List V), v = .ref a ∧ m[n]? = some a ∧ (o = .lst ds ∨ o = .rl ds) ∧ SqL K H a vs ∧ Q ⟨ds, [(n, o)]⟩ h := by
  unfold srcL at w
  split at w
  · rename_i n
    cases r with
    | @ref a _ z =>
      rcases w with ⟨ds, e1, q⟩ | ⟨ds, e1, q⟩
      · obtain ⟨vs, e2, r⟩ := S.seqAt (.inl e1) z
        exact ⟨a, n, _, ds, vs, rfl, z, .inl rfl, e2, q⟩
      · obtain ⟨vs, e2, r⟩ := S.seqAt (.inr e1) z
        exact ⟨a, n, _, ds, vs, rfl, z, .inr rfl, e2, q⟩
  · exact w.elim
theorem zip_key {K : PySem.W.Frag} {H : Hp} {m : List Addr} {h : Hh} {v1 v2 : V} {d1 d2 : D} {Q' : Src → Hh → Prop} {Q : It → Hp → Prop} (S : Sm K ca H m h) (r1 : R K H m v1 d1) (r2 : R K H m v2 d2) (w : srcZ d1 d2 h Q') (p : ∀ J s, WD K ca J s H m → Q' s h → Q J H) :
    ∃ a b xs ys, [v1, v2] = [V.ref a, V.ref b] ∧ ((SqL K H a xs ∧ SqL K H b ys ∧ Q (Itz K a b) H) ∨ (SqT K H a xs ∧ SqT K H b ys ∧ Q (RZ.ItzT K a b) H)) := by
  unfold srcZ at w
  rcases w with w | w
  · obtain ⟨a, n, o, ds, vs, rfl, z, ho, sq, w⟩ := srcL_ok S r1 w
    obtain ⟨b, n', o', es, ws, rfl, z', ho', sq', w⟩ := srcL_ok S r2 w
    exact ⟨a, b, vs, ws, rfl, .inl ⟨sq, sq', p _ _ (wd_zip z ho z' ho') w⟩⟩
  · unfold srcT at w
    split at w
    · cases r1 with
      | tup t1 rr1 =>
        dsimp only at w
        split at w
        · cases r2 with
          | tup t2 rr2 => exact ⟨_, _, _, _, rfl, .inr ⟨t1, t2, p _ _ (wd_zipT t1 rr1 t2 rr2) w⟩⟩
        · exact w.elim
    · exact w.elim
theorem all_mem {xs ys : List Nat} (h : xs.all (fun i => decide (i ∈ ys)) = true) : ∀ i ∈ xs, i ∈ ys := fun i hi => of_decide_eq_true (List.all_eq_true.mp h i hi)
theorem wipe_idem (σ : L2.St) : ∀ vs : List Nat, wipe (wipe σ vs) vs = wipe σ vs
  | [] => rfl
  | v :: vs => by
    show (wipe ((wipe σ vs).set v none) vs).set v none = (wipe σ vs).set v none
    have key : ∀ (ws : List Nat) (τ : L2.St), (wipe (τ.set v none) ws).set v none = (wipe τ ws).set v none := by
      intro ws
      induction ws with
      | nil => intro τ; exact List.set_set ..
      | cons w ws ih =>
        intro τ
        show ((wipe (τ.set v none) ws).set w none).set v none = ((wipe τ ws).set w none).set v none
        by_cases e : w = v
        · subst e; rw [List.set_set, List.set_set]; exact ih τ
        · rw [List.set_comm _ _ e, List.set_comm _ _ e, ih]
    rw [key, wipe_idem]
theorem lc_sound {C : Cn} {K : PySem.W.Frag} {elt : E} {t : Tg} {it : Iv} {cc : Oe} {own : List (Str × Nat)} {σ : L2.St} {H : Hp} {Q : VK} (hsl : ∀ i ∈ tgSlots t, i ∈ own.map (·.2)) (q : tE C K ca (.comp elt t it cc own) σ H Q) :
    tLc (tI C K ca it) (tG C K ca t) (tC' C K ca cc) (tE C K ca elt) (own.map (·.2)) σ H Q := by
  obtain ⟨m, en, hh, Q', Xx, S, E, xp, w, p⟩ := q
  unfold wpE at w
  have xpF : Xp (fun _ _ _ => False) := fun _ _ _ z => z
  refine ⟨m, en, hh, _, Xx, S, E, xp, w, fun m1 H1 J s h1 x1 S1 wd w1 D hD => ?_⟩
  have xN : Ext K H1 m1 (upd H1 D (.lst [])) (m1 ++ [D]) := Ext.new hD _
  have SN : Sm K ca (upd H1 D (.lst [])) (m1 ++ [D]) (h1 ++ [.lst []]) := S1.new (o := .lst []) hD ⟨[], upd_same, .nil⟩
  have hp0 : (m1 ++ [D])[h1.length]? = some D := by rw [← S1.len]; simp
  refine ⟨fun i mm H2 => mm = s.items.length - i ∧ i ≤ s.items.length ∧ ∃ m' h', Ext K (upd H1 D (.lst [])) (m1 ++ [D]) H2 m' ∧ Sm K ca H2 m' h' ∧
      compW s.ok h1.length (fun d h2 k => wpG C t (fun _ _ _ => False) d (wipeE en (own.map (·.2))) h2 fun e3 h3 => wpC C cc (fun _ _ _ => False) e3 h3 fun r h4 => if r = true then wpE C elt (fun _ _ _ => False) e3 h4 fun y h5 => k (some y) h5 else k none h4) (Q' (.ref h1.length)) (s.items.drop i) h',
    ⟨_, rfl, Nat.zero_le _, m1 ++ [D], _, Ext.refl, SN, w1⟩, ?_⟩
  rintro i mm H2 ⟨rfl, hi, m', h', xx, S', w'⟩
  have x0 : Ext K H1 m1 H2 m' := xN.trans xx
  by_cases hlt : i < s.items.length
  · rw [List.drop_eq_getElem_cons hlt] at w'
    unfold compW at w'
    refine .inr ⟨wd.goes i H2 m' h' hlt x0 S' w'.1, fun H3 => ∃ m'' h'', Ext K (upd H1 D (.lst [])) (m1 ++ [D]) H3 m'' ∧ Sm K ca H3 m'' h'' ∧
      compW s.ok h1.length (fun d h2 k => wpG C t (fun _ _ _ => False) d (wipeE en (own.map (·.2))) h2 fun e3 h3 => wpC C cc (fun _ _ _ => False) e3 h3 fun r h4 => if r = true then wpE C elt (fun _ _ _ => False) e3 h4 fun y h5 => k (some y) h5 else k none h4) (Q' (.ref h1.length)) (s.items.drop (i + 1)) h'',
      fun H3 ⟨m'', h'', a1, a2, a3⟩ => ⟨s.items.length - (i + 1), by omega, rfl, hlt, m'', h'', a1, a2, a3⟩, fun x H3 hy => ?_⟩
    obtain ⟨y1, y2, y3, y4⟩ := wd.yields i H2 x H3 m' h' _ (List.getElem?_eq_getElem hlt) x0 S' w'.1 hy
    have Ew : Er K H3 m' (wipe σ (own.map (·.2))) (wipeE en (own.map (·.2))) := (E.mono ((x1.trans x0).trans y1)).wipe _
    refine ⟨m', _, h', _, _, _, y2, Ew, y3, xpF, w'.2, fun m3 σ3 H4 e3 h3 x3 S3 E3 kp q3 => ⟨?_, ?_⟩⟩
    · rw [kp _ hsl, wipe_idem]
    · refine ⟨m3, e3, h3, _, _, S3, E3, xpF, q3, fun m4 H5 b h4 x4 S4 q4 => ?_⟩
      cases b with
      | false => exact ⟨m4, h4, (xx.trans y1).trans (x3.trans x4), S4, q4⟩
      | true =>
        refine ⟨m4, e3, h4, _, _, S4, E3.mono x4, xpF, q4, fun m5 y H6 d5 h5 x5 S5 r5 q5 => ?_⟩
        obtain ⟨acc, ea, hl, wn⟩ := q5
        have x6 := ((xx.trans y1).trans (x3.trans x4)).trans x5
        have hm : m5[h1.length]? = some D := x6.pre _ _ hp0
        obtain ⟨vacc, ev, rv⟩ := S5.lstAt ea hm
        obtain ⟨S6, x7⟩ := S5.put (ho := .lst (vacc ++ [y])) (o := .lst (acc ++ [d5])) ea hm rfl rfl fun H' ht e => ⟨_, e, (rv.append (.one r5)).mono0 ⟨fun _ _ z => z, ht⟩⟩
        exact ⟨vacc, ev, by rw [rv.len]; exact lim' _ hl, m5, _, x6.trans x7, S6, wn⟩
  · have e : i = s.items.length := by omega
    subst e
    rw [List.drop_length] at w'
    unfold compW at w'
    exact .inl ⟨wd.stops H2 m' h' x0 S' w'.1, p m' (.ref D) H2 _ h' (x1.trans x0) S' (.ref (xx.pre _ _ hp0)) w'.2⟩
theorem both {C : Cn} {X : Cx} {e : Expr} {a : E} (pe : PE X e (tE C X.K ca a)) (he : ∀ whole, PySem.isTrue e X.env whole = (do let v ← whole; standAt e.pos; holding [v] (truthy v))) : PE X e (tE C X.K ca a) ∧ PT X e (tT C X.K ca a) := ⟨pe, pt_of pe he⟩
mutual
theorem sndE (a : E) {N : List Str} {sc : Scope} {fc : Str → Bool} {X : Cx} {e : Expr} (c : Ct T k ca N sc fc X) (h : ckE a N sc fc e = true) : PE X e (tE (cnOf T k) X.K ca a) ∧ PT X e (tT (cnOf T k) X.K ca a) := by
  cases a with
  | var i =>
    unfold ckE at h
    split at h
    · simp only [Bool.and_eq_true, Bool.not_eq_true'] at h
      refine both ?_ fun _ => rfl
      exact pe_imp (pe_var (c.slot h.1.1.1) (c.vis h.1.1.2) h.1.2 h.2) fun σ H Q ⟨m, en, hh, Q', Xx, S, E, xp, w, p⟩ => by
        unfold wpE at w
        obtain ⟨d, ed, q⟩ := w
        obtain ⟨v, ev, r⟩ := E.at_ i d ed
        exact ⟨v, ev, p.same S r q⟩
    · cases h
  | non =>
    unfold ckE at h
    split at h
    · refine both ?_ fun _ => rfl
      exact pe_imp pe_non fun σ H Q ⟨m, en, hh, Q', Xx, S, E, xp, w, p⟩ => by
        unfold wpE at w
        exact p.same S .non w
    · cases h
  | bl b =>
    unfold ckE at h
    split at h
    · refine both ?_ fun _ => rfl
      exact pe_imp pe_bl fun σ H Q ⟨m, en, hh, Q', Xx, S, E, xp, w, p⟩ => by
        unfold wpE at w
        rw [← of_decide_eq_true h]
        exact p.same S (.bl _) w
    · cases h
  | int i =>
    unfold ckE at h
    split at h
    · refine both ?_ fun _ => rfl
      exact pe_imp pe_int fun σ H Q ⟨m, en, hh, Q', Xx, S, E, xp, w, p⟩ => by
        unfold wpE at w
        rw [← of_decide_eq_true h]
        exact p.same S (.int _) w
    · cases h
  | str s =>
    unfold ckE at h
    split at h
    · refine both ?_ fun _ => rfl
      exact pe_imp pe_str fun σ H Q ⟨m, en, hh, Q', Xx, S, E, xp, w, p⟩ => by
        unfold wpE at w
        rw [← of_decide_eq_true h]
        exact p.same S (.str _) w
    · cases h
  | glob x =>
    unfold ckE at h
    split at h
    · simp only [Bool.and_eq_true, Bool.not_eq_true'] at h
      obtain ⟨⟨h1, h2⟩, h3⟩ := h
      have ex := of_decide_eq_true h1
      subst ex
      refine both ?_ fun _ => rfl
      ·
        by_cases hd : ∃ d, T.gls.lookup x = some d
        · obtain ⟨d, hd⟩ := hd
          obtain ⟨v, u, hm, r, rr⟩ := c.gls x d hd
          exact pe_imp (pe_glob (c.gl h2) hm r h3) fun σ H Q ⟨m, en, hh, Q', Xx, S, E, xp, w, p⟩ => by
            unfold wpE at w
            obtain ⟨d', ed, q⟩ := w
            have : some d = some d' := hd.symm.trans ed
            cases this
            exact p.same S (rr H m) q
        · exact ⟨fun pins s σ H Q I ⟨m, en, hh, Q', Xx, S, E, xp, w, p⟩ => by
            unfold wpE at w
            obtain ⟨d', ed, q⟩ := w
            exact absurd ⟨d', ed⟩ hd⟩
    · cases h
  | bin o a b =>
    unfold ckE at h
    split at h
    · simp only [Bool.and_eq_true] at h
      obtain ⟨⟨h1, h2⟩, h3⟩ := h
      have ex := of_decide_eq_true h1
      subst ex
      refine both ?_ fun _ => rfl
      exact pe_imp (pe_op (op_bo o) (sndE a c h2).1 (sndE b c h3).1) fun σ H Q ⟨m, en, hh, Q', Xx, S, E, xp, w, p⟩ => by
        unfold wpE at w
        exact sub1 S E xp w fun m1 v1 H1 d1 h1 x1 S1 r1 w1 => sub1 S1 (E.mono x1) xp w1 fun m2 v2 H2 d2 h2 x2 S2 r2 w2 => bo_ok o S2 (r1.mono x2) r2 w2 (p.mono (x1.trans x2))
    · cases h
  | neg a =>
    unfold ckE at h
    split at h
    · refine both ?_ fun _ => rfl
      exact pe_imp (pe_un un_neg (sndE a c h).1) fun σ H Q ⟨m, en, hh, Q', Xx, S, E, xp, w, p⟩ => by
        unfold wpE at w
        exact sub1 S E xp w fun m1 v1 H1 d1 h1 x1 S1 r1 w1 => by
          obtain ⟨i, rfl, q⟩ := w1
          cases r1
          exact ⟨_, rfl, (p.mono x1).same S1 (.int _) q⟩
    · cases h
  | not a =>
    unfold ckE at h
    split at h
    · have ih := sndE a c h
      refine ⟨pe_imp (pe_notT ih.1) fun σ H Q ⟨m, en, hh, Q', Xx, S, E, xp, w, p⟩ => ?_, pt_imp (pt_not ih.2) fun σ H Q ⟨m, en, hh, Q', Xx, S, E, xp, w, p⟩ => ?_⟩
      · unfold wpE at w
        exact sub1 S E xp w fun m1 v1 H1 d1 h1 x1 S1 r1 w1 => by
          obtain ⟨b, t, q⟩ := tru_ok' S1 r1 w1
          exact ⟨b, t, (p.mono x1).same S1 (.bl _) q⟩
      · unfold wpE at w
        exact ⟨m, en, hh, _, Xx, S, E, xp, w, fun m' H' d h' x S' q => tru_imp q fun b q => p m' H' (.bl (!b)) h' x S' q⟩
    · cases h
  | bop kk es =>
    unfold ckE at h
    split at h
    · simp only [Bool.and_eq_true] at h
      have ex := of_decide_eq_true h.1
      subst ex
      have ih := sndB kk es c h.2
      refine ⟨pe_imp (ih.1 _) fun σ H Q ⟨m, en, hh, Q', Xx, S, E, xp, w, p⟩ => ?_, pt_imp (ih.2 _).pt fun σ H Q ⟨m, en, hh, Q', Xx, S, E, xp, w, p⟩ => ?_⟩
      · unfold wpE at w
        exact ⟨m, en, hh, Q', Xx, S, E, xp, w, p⟩
      · unfold wpE at w
        exact ⟨m, en, hh, Q', Xx, S, E, xp, w, p⟩
    · cases h
  | cmp o a b =>
    unfold ckE at h
    split at h
    · simp only [Bool.and_eq_true] at h
      obtain ⟨⟨⟨h1, h2⟩, h3⟩, h4⟩ := h
      have ex := of_decide_eq_true h1
      subst ex
      have key : ∀ (σ : L2.St) (H : Hp) (Q : VK), tE (cnOf T k) X.K ca (.cmp o a b) σ H Q → tOp (rCo X.K o) (tE (cnOf T k) X.K ca a) (tE (cnOf T k) X.K ca b) σ H Q := by
        rintro σ H Q ⟨m, en, hh, Q', Xx, S, E, xp, w, p⟩
        unfold wpE at w
        exact sub1 S E xp w fun m1 v1 H1 d1 h1 x1 S1 r1 w1 => sub1 S1 (E.mono x1) xp w1 fun m2 v2 H2 d2 h2 x2 S2 r2 w2 => co_ok o S2 (r1.mono x2) r2 w2 fun bb q => (p.mono (x1.trans x2)).same S2 (.bl _) q
      refine ⟨pe_imp (pe_cmpR (op_co c.units o) (sndE a c h3).1 (sndE b c h4).1 (nset_in _ _ h2)) key, pt_imp (pt_cmpR (op_co c.units o) (sndE a c h3).1 (sndE b c h4).1 (nset_in _ _ h2)) fun σ H Q ⟨m, en, hh, Q', Xx, S, E, xp, w, p⟩ => ?_⟩
      unfold wpE at w
      exact sub1 S E xp w fun m1 v1 H1 d1 h1 x1 S1 r1 w1 => sub1 S1 (E.mono x1) xp w1 fun m2 v2 H2 d2 h2 x2 S2 r2 w2 => co_ok o S2 (r1.mono x2) r2 w2 fun bb q => ⟨bb, rfl, p m2 H2 (.bl bb) h2 (x1.trans x2) S2 q⟩
    · cases h
  | cmp2 o o' a b d =>
    unfold ckE at h
    split at h
    · simp only [Bool.and_eq_true] at h
      obtain ⟨⟨⟨⟨⟨⟨h1, h2⟩, h3⟩, h4⟩, h5⟩, h6⟩, h7⟩ := h
      have ex := of_decide_eq_true h1
      subst ex
      have ex := of_decide_eq_true h2
      subst ex
      have ia := (sndE a c h5).1
      have ib := (sndE b c h6).1
      have id := (sndE d c h7).1
      refine ⟨pe_imp (pe_chain (op_co c.units o) (op_co c.units o') ia ib id (nset_in _ _ h4)) fun σ H Q ⟨m, en, hh, Q', Xx, S, E, xp, w, p⟩ => ?_, pt_imp (pt_chain (op_co c.units o) (op_co c.units o') ia ib id (nset_in _ _ h4)) fun σ H Q ⟨m, en, hh, Q', Xx, S, E, xp, w, p⟩ => ?_⟩
      · unfold wpE at w
        refine sub1 S E xp w fun m1 v1 H1 d1 h1 x1 S1 r1 w1 => sub1 S1 (E.mono x1) xp w1 fun m2 v2 H2 d2 h2 x2 S2 r2 w2 => co_ok o S2 (r1.mono x2) r2 w2 fun bb q => ⟨bb, rfl, ?_⟩
        cases bb with
        | false => exact (p.mono (x1.trans x2)).same S2 (.bl _) q
        | true => exact sub1 S2 (E.mono (x1.trans x2)) xp q fun m3 v3 H3 d3 h3 x3 S3 r3 w3 => co_ok o' S3 (r2.mono x3) r3 w3 fun bb q => (p.mono ((x1.trans x2).trans x3)).same S3 (.bl _) q
      · unfold wpE at w
        refine sub1 S E xp w fun m1 v1 H1 d1 h1 x1 S1 r1 w1 => sub1 S1 (E.mono x1) xp w1 fun m2 v2 H2 d2 h2 x2 S2 r2 w2 => co_ok o S2 (r1.mono x2) r2 w2 fun bb q => ⟨bb, rfl, ?_⟩
        cases bb with
        | false => exact ⟨false, rfl, p m2 H2 (.bl false) h2 (x1.trans x2) S2 q⟩
        | true => exact sub1 S2 (E.mono (x1.trans x2)) xp q fun m3 v3 H3 d3 h3 x3 S3 r3 w3 => co_ok o' S3 (r2.mono x3) r3 w3 fun bb q => ⟨bb, rfl, p m3 H3 (.bl bb) h3 ((x1.trans x2).trans x3) S3 q⟩
    · cases h
  | ite cc a b =>
    unfold ckE at h
    split at h
    · simp only [Bool.and_eq_true] at h
      obtain ⟨⟨h1, h2⟩, h3⟩ := h
      have i1 := sndE cc c h1
      have i2 := sndE a c h2
      have i3 := sndE b c h3
      refine ⟨pe_imp (pe_ifExp i1.2 i2.1 i3.1) fun σ H Q ⟨m, en, hh, Q', Xx, S, E, xp, w, p⟩ => ?_, pt_imp (pt_ifExp i1.2 i2.2 i3.2) fun σ H Q ⟨m, en, hh, Q', Xx, S, E, xp, w, p⟩ => ?_⟩
      · unfold wpE at w
        refine ⟨m, en, hh, _, Xx, S, E, xp, w, fun m' H' d h' x S' q => tru_imp q fun bb q => ?_⟩
        cases bb with
        | true => exact ⟨m', en, h', Q', Xx, S', E.mono x, xp, q, p.mono x⟩
        | false => exact ⟨m', en, h', Q', Xx, S', E.mono x, xp, q, p.mono x⟩
      · unfold wpE at w
        refine ⟨m, en, hh, _, Xx, S, E, xp, w, fun m' H' d h' x S' q => tru_imp q fun bb q => ?_⟩
        cases bb with
        | true => exact ⟨m', en, h', Q', Xx, S', E.mono x, xp, q, fun m2 H2 b2 h2 x2 => p m2 H2 b2 h2 (x.trans x2)⟩
        | false => exact ⟨m', en, h', Q', Xx, S', E.mono x, xp, q, fun m2 H2 b2 h2 x2 => p m2 H2 b2 h2 (x.trans x2)⟩
    · cases h
  | tup es =>
    unfold ckE at h
    split at h
    · refine both ?_ fun _ => rfl
      exact pe_imp (pe_tup (sndA es c h)) fun σ H Q ⟨m, en, hh, Q', Xx, S, E, xp, w, p⟩ => by
        unfold wpE at w
        exact ⟨m, en, hh, _, Xx, S, E, xp, w, fun m' vs H' ds h' x S' rs q => ⟨by rw [rs.len]; exact lim _ q.1, fun pa hpa => (p.mono x).newt S' rs hpa q.2⟩⟩
    · cases h
  | lst es =>
    unfold ckE at h
    split at h
    · refine both ?_ fun _ => rfl
      exact pe_imp (pe_lst (sndA es c h)) fun σ H Q ⟨m, en, hh, Q', Xx, S, E, xp, w, p⟩ => by
        unfold wpE at w
        exact ⟨m, en, hh, _, Xx, S, E, xp, w, fun m' vs H' ds h' x S' rs q => ⟨by rw [rs.len]; exact lim _ q.1, fun pa hpa => (p.mono x).newl S' rs hpa q.2⟩⟩
    · cases h
  | dct kvs =>
    unfold ckE at h
    split at h
    · rename_i keys values pos
      simp only [Bool.and_eq_true] at h
      obtain ⟨h1, h2⟩ := h
      obtain ⟨d1, d2, d3, d4⟩ := sndD kvs pos c h1
      refine both ?_ fun _ => rfl
      cases keys with
      | nil =>
        obtain rfl : values = [] := List.length_eq_zero_iff.mp d3.symm
        obtain rfl : kvs = .nil := by
          cases kvs with
          | nil => rfl
          | cons a r => cases r with
            | nil => unfold ckD at h1; cases h1
            | cons b r => unfold ckD at h1; cases h1
        exact pe_imp pe_dnewK fun σ H Q ⟨m, en, hh, Q', Xx, S, E, xp, w, p⟩ => by
          unfold wpE wpEs at w
          intro p0 hp0
          obtain ⟨g2, ps, e1, l1, q⟩ := w
          cases e1
          have x0 : Ext X.K H m (upd H p0 (.dK [])) (m ++ [p0]) := Ext.new hp0 _
          have S0 : Sm X.K ca (upd H p0 (.dK [])) (m ++ [p0]) (hh ++ [.dK []]) := S.new (o := .dK []) hp0 ⟨[], upd_same, .nil⟩
          have e2 : (hh ++ [O.dK []]).set hh.length (.dK (mergeD [] [])) = hh ++ [.dK []] := by
            rw [List.set_append_right _ _ (Nat.le_refl _), Nat.sub_self]; rfl
          rw [e2] at q
          exact p _ (.ref p0) _ (.ref hh.length) _ x0 S0 (.ref (by rw [← S.len]; simp)) q
      | cons k0 ks =>
        exact pe_imp (pe_disp d1 d2 d3 (by simp) (of_decide_eq_true h2)) fun σ H Q ⟨m, en, hh, Q', Xx, S, E, xp, w, p⟩ => by
          unfold wpE at w
          exact disp_ok xp d4 S E w p
    · cases h
  | tab x i =>
    unfold ckE at h
    split at h
    · simp only [Bool.and_eq_true, Bool.not_eq_true'] at h
      obtain ⟨⟨⟨⟨h1, h2⟩, h3⟩, h4⟩, h5⟩ := h
      have ex := of_decide_eq_true h1
      subst ex
      refine both ?_ fun _ => rfl
      by_cases hd : ∃ kvs, T.tds.lookup x = some kvs
      · obtain ⟨kvs, hd⟩ := hd
        obtain ⟨a, hm, ta⟩ := c.tds x kvs hd
        exact pe_imp (pe_ix ix_kdict (pe_glob (v := .ref a) (c.gl h2) hm rfl h3) (sndE i c h5).1 (ix_plain _ h4)) fun σ H Q ⟨m, en, hh, Q', Xx, S, E, xp, w, p⟩ => by
          unfold wpE at w
          obtain ⟨kvs', e2, w⟩ := w
          have : some kvs = some kvs' := hd.symm.trans e2
          cases this
          refine sub1 S E xp w fun m1 v1 H1 d1 h1 x1 S1 r1 w1 => ?_
          obtain ⟨z, v, e1, e3, q⟩ := w1
          subst e1
          cases r1
          obtain ⟨es, n, r, D, e4, e5⟩ := ta.ns z
          rw [e3] at e5
          obtain ⟨u, v0, e6, e7, e8⟩ := e5
          subst e6
          exact ⟨a, z, v0, rfl, rfl, ⟨es, n, u, D.at_, D.lit, e4, e7⟩, (p.mono x1).same S1 (e8 _ _) q⟩
      · exact ⟨fun pins s σ H Q I ⟨m, en, hh, Q', Xx, S, E, xp, w, p⟩ => by
          unfold wpE at w
          obtain ⟨kvs', e2, w⟩ := w
          exact absurd ⟨kvs', e2⟩ hd⟩
    · cases h
  | tabG x i d =>
    unfold ckE at h
    split at h
    · rename_i y py n ap eu ev cp
      simp only [Bool.and_eq_true, Bool.not_eq_true'] at h
      obtain ⟨⟨⟨⟨⟨⟨⟨⟨h1, h2⟩, h3⟩, h4⟩, h5⟩, h6⟩, h7⟩, h8⟩, h9⟩ := h
      have ex := of_decide_eq_true h1
      subst ex
      have en := of_decide_eq_true h4
      subst en
      refine both ?_ fun _ => rfl
      have hn : ∀ z ∈ [eu, ev], nst z = true := by
        intro z hz
        simp only [List.mem_cons, List.not_mem_nil, or_false] at hz
        rcases hz with rfl | rfl
        · exact h6
        · exact h7
      by_cases hd : ∃ kvs, T.tds.lookup x = some kvs
      · obtain ⟨kvs, hd⟩ := hd
        obtain ⟨a, hm, ta⟩ := c.tds x kvs hd
        obtain ⟨es, n, D, _⟩ := id ta
        have m2 : M2 X (.Name x py) "get" ap eu ev cp := ⟨base_ok _ _ _ _ rfl, few_ok cp X.env _ hn (by simp), h5, by
          show backTo cp (starEach [eu, ev] X.env) = _
          rw [star_cons _ _ _ h6, star_cons _ _ _ h7]; rfl⟩
        exact pe_imp (pe_tget D (pe_glob (v := .ref a) (c.gl h2) hm rfl h3) (sndE i c h8).1 (sndE d c h9).1 m2) fun σ H Q ⟨m, en, hh, Q', Xx, S, E, xp, w, p⟩ => by
          unfold wpE at w
          obtain ⟨kvs', e2, w⟩ := w
          have : some kvs = some kvs' := hd.symm.trans e2
          cases this
          refine sub1 S E xp w fun m1 v1 H1 d1 h1 x1 S1 r1 w1 => sub1 S1 (E.mono x1) xp w1 fun m2 v2 H2 d2 h2 x2 S2 r2 w2 => ?_
          obtain ⟨z, e1, q⟩ := w2
          subst e1
          cases r1
          obtain ⟨_, _, r, _, e4, e5⟩ := ta.ns z
          cases hl : kvs.lookup z with
          | none =>
            rw [hl] at e5 q
            subst e5
            exact ⟨z, none, v2, rfl, e4, rfl, (p.mono (x1.trans x2)).same S2 r2 q⟩
          | some dd =>
            rw [hl] at e5 q
            obtain ⟨u, v0, e6, e7, e8⟩ := e5
            subst e6
            exact ⟨z, some u, v0, rfl, e4, e7, (p.mono (x1.trans x2)).same S2 (e8 _ _) q⟩
      · exact ⟨fun pins s σ H Q I ⟨m, en, hh, Q', Xx, S, E, xp, w, p⟩ => by
          unfold wpE at w
          obtain ⟨kvs', e2, w⟩ := w
          exact absurd ⟨kvs', e2⟩ hd⟩
    · cases h
  | tabIn neg x i =>
    unfold ckE at h
    split at h
    · simp only [Bool.and_eq_true, Bool.not_eq_true'] at h
      obtain ⟨⟨⟨⟨h1, h2⟩, h3⟩, h4⟩, h5⟩ := h
      have ex := of_decide_eq_true h1
      subst ex
      have eo := of_decide_eq_true h4
      subst eo
      by_cases hd : ∃ kvs, T.tds.lookup x = some kvs
      · obtain ⟨kvs, hd⟩ := hd
        obtain ⟨a, hm, ta⟩ := c.tds x kvs hd
        obtain ⟨es, n, D, _⟩ := id ta
        have hop : OpR X (compareOp (if neg = true then CmpOp.NotIn else CmpOp.In)) (fun x y H Q => ∃ (z : Str) (r : Option Value), x = .str z ∧ y = .ref a ∧ PySem.W.nsIn X.K a z = some r ∧ Q (.bl (if neg = true then !r.isSome else r.isSome)) H) := by
          cases neg with
          | true => exact op_notIn_kd D
          | false => exact op_in_kd D
        have key : ∀ {Q2 : VK} {m1 : List Addr} {v1 : V} {H1 : Hp} {d1 : Bp.D} {h1 : Hh} {Q' : Qd}, Sm X.K ca H1 m1 h1 → R X.K H1 m1 v1 d1 → (∃ z, d1 = .str z ∧ Q' (.bl (if neg = true then !(kvs.lookup z).isSome else (kvs.lookup z).isSome)) h1) → (∀ b, Q' (.bl b) h1 → Q2 (.bl b) H1) →
            ∃ (z : Str) (r : Option Value), v1 = .str z ∧ V.ref a = .ref a ∧ PySem.W.nsIn X.K a z = some r ∧ Q2 (.bl (if neg = true then !r.isSome else r.isSome)) H1 := by
          rintro Q2 m1 v1 H1 d1 h1 Q' S1 r1 ⟨z, e1, q⟩ pp
          subst e1
          cases r1
          obtain ⟨_, _, r, _, e4, e5⟩ := ta.ns z
          refine ⟨z, r, rfl, rfl, e4, ?_⟩
          have er : r.isSome = (kvs.lookup z).isSome := by
            cases hl : kvs.lookup z with
            | none => rw [hl] at e5; subst e5; rfl
            | some dd => rw [hl] at e5; obtain ⟨u, v0, e6, _⟩ := e5; subst e6; rfl
          rw [er]
          exact pp _ q
        refine ⟨pe_imp (pe_cmpR hop (sndE i c h5).1 (pe_glob (v := .ref a) (c.gl h2) hm rfl h3) (by cases neg <;> rfl)) fun σ H Q ⟨m, en, hh, Q', Xx, S, E, xp, w, p⟩ => ?_, pt_imp (pt_cmpR hop (sndE i c h5).1 (pe_glob (v := .ref a) (c.gl h2) hm rfl h3) (by cases neg <;> rfl)) fun σ H Q ⟨m, en, hh, Q', Xx, S, E, xp, w, p⟩ => ?_⟩
        · unfold wpE at w
          obtain ⟨kvs', e2, w⟩ := w
          have : some kvs = some kvs' := hd.symm.trans e2
          cases this
          exact sub1 S E xp w fun m1 v1 H1 d1 h1 x1 S1 r1 w1 => key S1 r1 w1 fun b q => (p.mono x1).same S1 (.bl b) q
        · unfold wpE at w
          obtain ⟨kvs', e2, w⟩ := w
          have : some kvs = some kvs' := hd.symm.trans e2
          cases this
          exact sub1 S E xp w fun m1 v1 H1 d1 h1 x1 S1 r1 w1 => key (Q2 := fun x H' => ∃ k, x = V.bl k ∧ Q k H') (Q' := Q') S1 r1 w1 fun b q => ⟨b, rfl, p m1 H1 (.bl b) h1 x1 S1 q⟩
      · refine ⟨⟨fun pins s σ H Q I ⟨m, en, hh, Q', Xx, S, E, xp, w, p⟩ => ?_⟩, ⟨fun pins s σ H Q I ⟨m, en, hh, Q', Xx, S, E, xp, w, p⟩ => ?_⟩⟩
        all_goals
          unfold wpE at w
          obtain ⟨kvs', e2, w⟩ := w
          exact absurd ⟨kvs', e2⟩ hd
    · cases h
  | idx a i =>
    unfold ckE at h
    split at h
    · simp only [Bool.and_eq_true] at h
      obtain ⟨⟨h1, h2⟩, h3⟩ := h
      refine both ?_ fun _ => rfl
      exact pe_imp (pe_ix (ix_any (by have := c.units; omega)) (sndE a c h2).1 (sndE i c h3).1 (ix_plain _ h1)) fun σ H Q ⟨m, en, hh, Q', Xx, S, E, xp, w, p⟩ => by
        unfold wpE at w
        exact sub1 S E xp w fun m1 v1 H1 d1 h1 x1 S1 r1 w1 => sub1 S1 (E.mono x1) xp w1 fun m2 v2 H2 d2 h2 x2 S2 r2 w2 => idx_ok S2 (r1.mono x2) r2 w2 (p.mono (x1.trans x2))
    · cases h
  | sli a lo hi =>
    unfold ckE at h
    split at h
    · simp only [Bool.and_eq_true] at h
      obtain ⟨⟨h1, h2⟩, h3⟩ := h
      refine both ?_ fun _ => rfl
      exact pe_imp (pe_slice sl_any (sndE a c h1).1 (sndO lo c h2) (sndO hi c h3)) fun σ H Q ⟨m, en, hh, Q', Xx, S, E, xp, w, p⟩ => by
        unfold wpE at w
        exact sub1 S E xp w fun m1 v1 H1 d1 h1 x1 S1 r1 w1 => ⟨m1, en, h1, _, Xx, S1, E.mono x1, xp, w1, fun m2 H2 o2 h2 x2 S2 w2 => ⟨m2, en, h2, _, Xx, S2, E.mono (x1.trans x2), xp, w2, fun m3 H3 o3 h3 x3 S3 w3 =>
          sli_ok S3 (r1.mono (x2.trans x3)) w3 (p.mono ((x1.trans x2).trans x3))⟩⟩
    · cases h
  | rev a =>
    unfold ckE at h
    split at h
    · refine both ?_ fun _ => rfl
      exact pe_imp (pe_revL (sndE a c h).1) fun σ H Q ⟨m, en, hh, Q', Xx, S, E, xp, w, p⟩ => by
        unfold wpE at w
        exact sub1 S E xp w fun m1 v1 H1 d1 h1 x1 S1 r1 w1 => by
          unfold wRev at w1
          split at w1
          · obtain ⟨ds, e1, q⟩ := w1
            cases r1 with
            | ref z =>
              obtain ⟨vs, e2, r2⟩ := S1.lstAt e1 z
              exact ⟨_, vs, rfl, SqL.of e2, fun pa hpa => (p.mono x1).newl S1 r2.reverse hpa q⟩
          · exact w1.elim
    · cases h
  | call f es =>
    unfold ckE at h
    split at h
    · simp only [Bool.and_eq_true, Bool.not_eq_true'] at h
      obtain ⟨⟨⟨h1, h2⟩, h3⟩, h4⟩ := h
      have ex := of_decide_eq_true h1
      subst ex
      rename_i xs pos
      have hn := ck_nst xs es h4
      have ia := sndA es c h4
      refine both ?_ fun _ => rfl
      ·
        by_cases hf : ∃ F, T.fn f = some F
        · obtain ⟨F, hf⟩ := hf
          obtain ⟨fa, fd, hm, hk, hb, ok⟩ := c.fs f F hf
          have fin : ∀ (σ : L2.St) (H : Hp) (Q : VK), tE (cnOf T k) X.K ca (.call f es) σ H Q → tCall (spF X.K ca T k f) [] (fun _ _ _ => False) (tA (cnOf T k) X.K ca es) σ H Q := by
            rintro σ H Q ⟨m, en, hh, Q', Xx, S, E, xp, w, p⟩
            unfold wpE at w
            refine ⟨m, en, hh, _, Xx, S, E, xp, w.2, fun m' vs H' ds h' x S' rs q => ?_⟩
            show spF X.K ca T k f (vs ++ []) H' Q _
            rw [List.append_nil]
            refine ⟨F, m', h', ds, Q', Xx, hf, ?_, S', rs, xp, q, p.mono x⟩
            have q' : FS T k f ds h' Q' Xx := q
            cases k with
            | zero => exact q'.elim
            | succ k' =>
              obtain ⟨F', hf', hl, _⟩ := q'
              rw [hf] at hf'
              cases hf'
              rw [rs.len, hl]
          cases xs with
          | nil =>
            refine pe_imp (pe_call0 (dvs := []) (ds := []) ok (c.room.mono (by omega)) (c.gl h2) hm hk hb .nil pass0 h3) ?_
            intro σ H Q q
            obtain ⟨m, en, hh, Q', Xx, S, E, xp, w, p⟩ := fin σ H Q q
            cases es with
            | nil => unfold wpEs at w; exact p m [] H [] hh Ext.refl S .nil w
            | cons _ _ => unfold ckEs at h4; cases h4
          | cons y ys =>
            exact pe_imp (pe_call ok (c.room.mono (by omega)) (c.gl h2) hm hk hb .nil pass0 ia h3 (star_cons _ _ _ (hn y List.mem_cons_self)) (star_any _ _ ys fun z hz => hn z (List.mem_cons_of_mem _ hz))) fin
        · refine ⟨fun pins s σ H Q I ⟨m, en, hh, Q', Xx, S, E, xp, w, p⟩ => ?_⟩
          unfold wpE at w
          obtain ⟨F, hF⟩ := Option.isSome_iff_exists.mp w.1
          exact absurd ⟨F, hF⟩ hf
    · cases h
  | bi b es =>
    unfold ckE at h
    split at h
    · simp only [Bool.and_eq_true] at h
      obtain ⟨⟨h1, h2⟩, h4⟩ := h
      have ex := of_decide_eq_true h1
      subst ex
      rename_i y xs pos
      have hn := ck_nst (y :: xs) es h4
      refine both ?_ fun _ => rfl
      ·
        have fin : ∀ (σ : L2.St) (H : Hp) (Q : VK), tE (cnOf T k) X.K ca (.bi b es) σ H Q → tCB (rBi X.K b) (tA (cnOf T k) X.K ca es) σ H Q := by
          rintro σ H Q ⟨m, en, hh, Q', Xx, S, E, xp, w, p⟩
          unfold wpE at w
          exact ⟨m, en, hh, _, Xx, S, E, xp, w, fun m' vs H' ds h' x S' rs q => bi_ok b S' rs q (p.mono x)⟩
        have hb := bi_boot b
        have hc := call_bi c.calm b
        have e1 := star_cons y xs X.env (hn y List.mem_cons_self)
        have e2 := star_any pos X.env xs fun z hz => hn z (List.mem_cons_of_mem _ hz)
        have n1 : biN b ≠ "__name__" := by cases b <;> decide
        have n2 : (biN b == ("__debug__" : Str)) = false := by cases b <;> decide
        cases hv : biV b with
        | inl s =>
          rw [hv] at hb hc
          exact pe_imp (pe_callB hc (c.gl h2) (blt_ok c b) hb (sndA es c h4) n1 n2 e1 e2) fin
        | inr s =>
          rw [hv] at hb hc
          exact pe_imp (pe_callTy hc (c.gl h2) (blt_ok c b) hb (sndA es c h4) n1 n2 e1 e2) fin
    · cases h
  | rng kk a b =>
    unfold ckE at h
    split at h
    · simp only [Bool.and_eq_true] at h
      obtain ⟨⟨⟨⟨h1, h2⟩, h3⟩, h4⟩, h5⟩ := h
      have ex := of_decide_eq_true h1
      subst ex
      have ex := of_decide_eq_true h3
      subst ex
      rename_i ys yp pos
      have mr : X.mg "range" = none := c.blt _ (by decide)
      have ml : X.mg "list" = none := c.blt _ (by decide)
      have mt : X.mg "tuple" = none := c.blt _ (by decide)
      have hr : ∀ p0, PRg X (.Call (.Name "range" p0) ys [] yp) (fun σ H Q => tE (cnOf T k) X.K ca a σ H fun x H1 => tE (cnOf T k) X.K ca b σ H1 fun y H2 => ∃ i j, x = .int i ∧ y = .int j ∧ Q i j H2) := by
        split at h5
        · simp only [Bool.and_eq_true] at h5
          intro p0 pins s σ H Q I hq
          refine prg_1 (c.gl h4) mr (sndE b c h5.2).1 (star_cons _ _ _ h5.1) pins s σ H Q I ?_
          obtain ⟨m, en, hh, Q', Xx, S, E, xp, w, p⟩ := hq
          unfold wpE at w
          obtain ⟨m1, en1, hh1, Q1, Xx1, S1, E1, xp1, w1, p1⟩ := p.same S (.int 0) w
          refine ⟨m1, en1, hh1, Q1, Xx1, S1, E1, xp1, w1, fun m' v H' d h' x S' r q => ?_⟩
          obtain ⟨i, j, e1, e2, q⟩ := p1 m' v H' d h' x S' r q
          cases e1
          exact ⟨j, e2, q⟩
        · simp only [Bool.and_eq_true] at h5
          obtain ⟨⟨⟨n1, n2⟩, k1⟩, k2⟩ := h5
          intro p0
          exact prg_2 (c.gl h4) mr (sndE a c k1).1 (sndE b c k2).1 (star_cons _ _ _ n1) (star_cons _ _ _ n2) (star_any _ _ _ fun z hz => by rw [List.mem_singleton.mp hz]; exact n2)
        · cases h5
      have fin : ∀ (G : Int → Int → Hp → Prop) (σ : L2.St) (H : Hp) (Q : VK), (∀ i j m h H' Q', Sm X.K ca H' m h → Post X.K ca H' m Q' Q → (-1000000 ≤ i ∧ i ≤ 1000000 ∧ -1000000 ≤ j ∧ j ≤ 1000000) → (if kk = true then Q' (.tup ((List.range (j - i).toNat).map fun n : Nat => D.int (i + n))) h else Q' (.ref h.length) (h ++ [.lst ((List.range (j - i).toNat).map fun n : Nat => D.int (i + n))])) → G i j H') →
          tE (cnOf T k) X.K ca (.rng kk a b) σ H Q → tE (cnOf T k) X.K ca a σ H fun x H1 => tE (cnOf T k) X.K ca b σ H1 fun y H2 => ∃ i j, x = .int i ∧ y = .int j ∧ G i j H2 := by
        rintro G σ H Q hG ⟨m, en, hh, Q', Xx, S, E, xp, w, p⟩
        unfold wpE at w
        refine sub1 S E xp w fun m1 v1 H1 d1 h1 x1 S1 r1 w1 => sub1 S1 (E.mono x1) xp w1 fun m2 v2 H2 d2 h2 x2 S2 r2 w2 => ?_
        obtain ⟨i, j, rfl, rfl, hb, q⟩ := w2
        cases r1; cases r2
        exact ⟨i, j, rfl, rfl, hG i j m2 h2 H2 Q' S2 (p.mono (x1.trans x2)) hb q⟩
      refine both ?_ fun _ => rfl
      cases kk with
      | true =>
        refine pe_imp (pe_tupRg c.calm (c.gl h2) mt (hr _) (star_cons _ _ _ rfl)) fun σ H Q q => fin _ σ H Q (fun i j m h H' Q' S p hb q => ⟨⟨by omega, by omega, by omega, by omega, by omega⟩, fun pa hpa => p.newt S (Rs.nats (fun n => i + n) _) hpa q⟩) q
      | false =>
        refine pe_imp (pe_listRg c.calm (c.gl h2) ml (hr _) (star_cons _ _ _ rfl)) fun σ H Q q => fin _ σ H Q (fun i j m h H' Q' S p hb q => ⟨⟨by omega, by omega, by omega, by omega, by omega⟩, fun pa hpa => p.newl S (Rs.nats (fun n => i + n) _) hpa q⟩) q
    · cases h
  | mt m o es =>
    unfold ckE at h
    split at h
    · simp only [Bool.and_eq_true, Bool.not_eq_true'] at h
      obtain ⟨⟨⟨⟨⟨⟨h1, h0⟩, h2⟩, h3⟩, h4⟩, h5⟩, h6⟩ := h
      have ex := of_decide_eq_true h1
      subst ex
      rename_i x ap xs cp
      have hn := ck_nst xs es h6
      have hl := of_decide_eq_true h2
      refine both ?_ fun _ => rfl
      ·
        cases xs with
        | nil =>
          refine pe_imp (pe_mt0 hl h3 h4 (sndE o c h5).1) fun σ H Q ⟨mm, en, hh, Q', Xx, S, E, xp, w, p⟩ => ?_
          unfold wpE at w
          refine sub1 S E xp w fun m1 v1 H1 d1 h1 x1 S1 r1 w1 => ⟨ty_ok m S1 r1 w1.1, ?_⟩
          cases es with
          | nil => exact mt_ok m S1 r1 .nil w1.2 (p.mono x1)
          | cons _ _ => unfold ckEs at h6; cases h6
        | cons y ys =>
          refine pe_imp (pe_mt (by have := c.units; omega) (fun z => by cases z) (of_decide_eq_true h0) hl hn h3 h4 (sndE o c h5).1 (sndA es c h6)) fun σ H Q ⟨mm, en, hh, Q', Xx, S, E, xp, w, p⟩ => ?_
          unfold wpE at w
          exact sub1 S E xp w fun m1 v1 H1 d1 h1 x1 S1 r1 w1 => ⟨ty_ok m S1 r1 w1.1, m1, en, h1, _, Xx, S1, E.mono x1, xp, w1.2, fun m2 vs H2 ds h2 x2 S2 rs q => mt_ok m S2 (r1.mono x2) rs q (p.mono (x1.trans x2))⟩
    · cases h
  | isi a ts =>
    unfold ckE at h
    split at h
    · simp only [Bool.and_eq_true] at h
      obtain ⟨⟨⟨⟨⟨h1, h2⟩, h3⟩, h4⟩, h5⟩, h6⟩ := h
      have ex := of_decide_eq_true h1
      subst ex
      have mi : X.mg "isinstance" = none := c.blt _ (by decide)
      refine both ?_ fun _ => rfl
      split at h6
      · rename_i xs _ _
        rw [Bool.and_eq_true] at h6
        have hts := ckTys_ok c ts xs h6.1
        refine pe_imp (pe_callB call_isiT (c.gl h2) mi PyProof.Rows.boot_isinstance (pa_cons (sndE a c h5).1 (pa_cons (pe_tup hts.1) pa_nil (star_cons _ _ _ h4)) (star_cons _ _ _ h3)) (by decide) (by decide) (star_cons _ _ _ h3) (star_any _ _ _ fun z hz => by rw [List.mem_singleton.mp hz]; exact h4)) fun σ H Q ⟨m, en, hh, Q', Xx, S, E, xp, w, p⟩ => ?_
        unfold wpE at w
        refine sub1 S E xp w fun m1 v1 H1 d1 h1 x1 S1 r1 w1 => ?_
        obtain ⟨t, et, q⟩ := w1
        refine ⟨lim _ ?_, fun pa hpa => ⟨v1, pa, _, _, _, _, rfl, upd_same, clss_ok ts, tyx_new hpa (tyx_ok S1 r1 et), kits_all t ts hts.2.1, ?_⟩⟩
        · rw [List.length_map]; exact of_decide_eq_true h6.2
        · exact p m1 _ _ (.bl _) h1 (x1.trans (Ext.new0 hpa)) (S1.newt hpa) (.bl _) q
      · split at h6
        · rename_i z
          have hz := ckTy_ok c z _ h6
          refine pe_imp (pe_callB call_isi (c.gl h2) mi PyProof.Rows.boot_isinstance (pa_cons (sndE a c h5).1 (pa_cons hz.1 pa_nil (star_cons _ _ _ h4)) (star_cons _ _ _ h3)) (by decide) (by decide) (star_cons _ _ _ h3) (star_any _ _ _ fun z hz => by rw [List.mem_singleton.mp hz]; exact h4)) fun σ H Q ⟨m, en, hh, Q', Xx, S, E, xp, w, p⟩ => ?_
          unfold wpE at w
          refine sub1 S E xp w fun m1 v1 H1 d1 h1 x1 S1 r1 w1 => ?_
          obtain ⟨t, et, q⟩ := w1
          refine ⟨v1, _, _, _, isT t z, rfl, .ty _, tyx_ok S1 r1 et, kit_ty (kit_all t z hz.2), ?_⟩
          have e1 : ([z].any (isT t)) = isT t z := by simp
          rw [e1] at q
          exact (p.mono x1).same S1 (.bl _) q
        · cases h6
      · cases h6
    · cases h
  | comp elt t it cc own =>
    unfold ckE at h
    split at h
    · simp only [Bool.and_eq_true] at h
      obtain ⟨⟨⟨⟨⟨⟨h1, h2⟩, h3⟩, h4⟩, h5⟩, h6⟩, h7⟩ := h
      rename_i x tg iter ifs scope pos
      have ii := sndI it c h3
      have ig := fun s H C cl fp => sndG t (c.blk s H scope C cl fp) h4
      have ie := fun s H C cl fp => (sndE elt (c.blk s H scope C cl fp) h7).1
      have ic : ∀ (s : Shared) (H : Hp) (C : Addr) (cl : List (Str × Addr)) (fp : List Addr), PTs (X.blk s H scope (compEnvC scope cl C X.env) fp) ifs (tC' (cnOf T k) X.K ca cc) := by
        intro s H C cl fp
        split at h6
        · exact ⟨fun pins s σ H Q I ⟨m, en, hh, Q', Xx, S, E, xp, w, p⟩ => pts_nil.run pins s σ H Q I (p m H true hh Ext.refl S (by unfold wpC at w; exact w))⟩
        · rename_i a f
          exact ⟨fun pins s σ H Q I ⟨m, en, hh, Q', Xx, S, E, xp, w, p⟩ => (pts_one (sndE a (c.blk _ _ scope C cl fp) h6).2).run pins s σ H Q I ⟨m, en, hh, _, Xx, S, E, xp, (by unfold wpC at w; exact w), fun m' H' d h' x S' q => tru_imp q fun b q => p m' H' b h' x S' q⟩⟩
        · cases h6
      refine both ?_ fun _ => rfl
      refine pe_imp (pe_lc c.calm c.hnd ii (blkOk_by (by rw [c.hN, c.hsc]; exact h1)) ig ic ie fun v => nset_fold iter X.env v h2) fun σ H Q q => lc_sound (all_mem h5) q
    · cases h
theorem sndB (kk : Bool) (a : Es) {N : List Str} {sc : Scope} {fc : Str → Bool} {X : Cx} {xs : List Expr} (c : Ct T k ca N sc fc X) (h : ckB a N sc fc xs = true) :
    (∀ pos, PE X (.BoolOp (if kk then .And else .Or) xs pos) (tB (cnOf T k) X.K ca kk a)) ∧
    (∀ pos, PW X (.BoolOp (if kk then .And else .Or) xs pos) (tTB (cnOf T k) X.K ca kk a)) := by
  cases a with
  | nil => unfold ckB at h; cases h
  | cons a r =>
    cases r with
    | nil =>
      unfold ckB at h
      split at h
      · have ih := sndE a c h
        refine ⟨fun pos => pe_imp (pe_one ih.1) fun σ H Q ⟨m, en, hh, Q', Xx, S, E, xp, w, p⟩ => ?_, fun pos => ?_⟩
        · unfold wpB at w
          exact ⟨m, en, hh, Q', Xx, S, E, xp, w, p⟩
        · have fin : ∀ (σ : L2.St) (H : Hp) (Q : Bool → Hp → Prop), tTB (cnOf T k) X.K ca kk (.cons a .nil) σ H Q → tT (cnOf T k) X.K ca a σ H Q := by
            rintro σ H Q ⟨m, en, hh, Q', Xx, S, E, xp, w, p⟩
            unfold wpB at w
            exact ⟨m, en, hh, Q', Xx, S, E, xp, w, p⟩
          cases kk with
          | true => exact pw_imp (pw_and1 ih.2) fin
          | false => exact pw_imp (pw_or1 ih.2) fin
      · cases h
    | cons b r =>
      unfold ckB at h
      split at h
      · rw [Bool.and_eq_true] at h
        have ih := sndE a c h.1
        have ir := sndB kk (.cons b r) c h.2
        refine ⟨fun pos => ?_, fun pos => ?_⟩
        · have fin : ∀ (σ : L2.St) (H : Hp) (Q : VK), tB (cnOf T k) X.K ca kk (.cons a (.cons b r)) σ H Q → tE (cnOf T k) X.K ca a σ H fun x H1 => ∃ t, TruV X.K x H1 t ∧ if t = kk then tB (cnOf T k) X.K ca kk (.cons b r) σ H1 Q else Q x H1 := by
            rintro σ H Q ⟨m, en, hh, Q', Xx, S, E, xp, w, p⟩
            unfold wpB at w
            refine sub1 S E xp w fun m1 v1 H1 d1 h1 x1 S1 r1 w1 => ?_
            obtain ⟨t, tv, q⟩ := tru_ok' S1 r1 w1
            refine ⟨t, tv, ?_⟩
            split at q
            · rw [if_pos (by assumption)]
              exact ⟨m1, en, h1, Q', Xx, S1, E.mono x1, xp, q, p.mono x1⟩
            · rw [if_neg (by assumption)]
              exact (p.mono x1).same S1 r1 q
          cases kk with
          | true =>
            refine pe_imp (pe_andT ih.1 (ir.1 pos)) fun σ H Q q => ?_
            obtain ⟨m, en, hh, Q', Xx, S, E, xp, w, p⟩ := fin σ H Q q
            refine ⟨m, en, hh, Q', Xx, S, E, xp, w, fun m' v H' d h' x S' r q => ?_⟩
            obtain ⟨t, tv, q⟩ := p m' v H' d h' x S' r q
            exact ⟨t, tv, by cases t <;> simpa using q⟩
          | false =>
            refine pe_imp (pe_orT ih.1 (ir.1 pos)) fun σ H Q q => ?_
            obtain ⟨m, en, hh, Q', Xx, S, E, xp, w, p⟩ := fin σ H Q q
            refine ⟨m, en, hh, Q', Xx, S, E, xp, w, fun m' v H' d h' x S' r q => ?_⟩
            obtain ⟨t, tv, q⟩ := p m' v H' d h' x S' r q
            exact ⟨t, tv, by cases t <;> simpa using q⟩
        · have fin : ∀ (σ : L2.St) (H : Hp) (Q : Bool → Hp → Prop), tTB (cnOf T k) X.K ca kk (.cons a (.cons b r)) σ H Q → tT (cnOf T k) X.K ca a σ H fun t H1 => if t = kk then tTB (cnOf T k) X.K ca kk (.cons b r) σ H1 Q else Q t H1 := by
            rintro σ H Q ⟨m, en, hh, Q', Xx, S, E, xp, w, p⟩
            unfold wpB at w
            refine ⟨m, en, hh, _, Xx, S, E, xp, w, fun m' H' d h' x S' q => tru_twice (tru_imp q fun t q => ?_)⟩
            split at q
            · rw [if_pos (by assumption)]
              exact ⟨m', en, h', Q', Xx, S', E.mono x, xp, q, fun m2 H2 b2 h2 x2 => p m2 H2 b2 h2 (x.trans x2)⟩
            · rw [if_neg (by assumption)]
              exact p m' H' d h' x S' q
          cases kk with
          | true =>
            refine pw_imp (pw_and ih.2 (ir.2 pos)) fun σ H Q q => ?_
            obtain ⟨m, en, hh, Q', Xx, S, E, xp, w, p⟩ := fin σ H Q q
            refine ⟨m, en, hh, Q', Xx, S, E, xp, w, fun m' H' d h' x S' q => tru_imp (p m' H' d h' x S' q) fun t q => ?_⟩
            cases t <;> simpa using q
          | false =>
            refine pw_imp (pw_or ih.2 (ir.2 pos)) fun σ H Q q => ?_
            obtain ⟨m, en, hh, Q', Xx, S, E, xp, w, p⟩ := fin σ H Q q
            refine ⟨m, en, hh, Q', Xx, S, E, xp, w, fun m' H' d h' x S' q => tru_imp (p m' H' d h' x S' q) fun t q => ?_⟩
            cases t <;> simpa using q
      · cases h
theorem sndD (a : Es) (pos : Pos) {N : List Str} {sc : Scope} {fc : Str → Bool} {X : Cx} {ks : List (Option Expr)} {vs : List Expr} (c : Ct T k ca N sc fc X) (h : ckD a N sc fc ks vs = true) : PPs X pos ks vs (trsOf (cnOf T k) X.K ca a) ∧ ks.all (·.isSome) = true ∧ ks.length = vs.length ∧ evn a = true := by
  cases a with
  | nil =>
    unfold ckD at h
    split at h
    · exact ⟨pps_nil, rfl, rfl, rfl⟩
    · cases h
  | cons a r =>
    cases r with
    | nil => unfold ckD at h; cases h
    | cons b r =>
      unfold ckD at h
      split at h
      · simp only [Bool.and_eq_true] at h
        obtain ⟨i1, i2, i3, i4⟩ := sndD r pos c h.2
        refine ⟨pps_cons (sndE a c h.1.1).1 (sndE b c h.1.2).1 i1, ?_, ?_, i4⟩
        · rw [List.all_cons, i2]; rfl
        · rw [List.length_cons, List.length_cons, i3]
      · cases h
theorem sndA (a : Es) {N : List Str} {sc : Scope} {fc : Str → Bool} {X : Cx} {xs : List Expr} (c : Ct T k ca N sc fc X) (h : ckEs a N sc fc xs = true) : PA X xs (tA (cnOf T k) X.K ca a) := by
  cases a with
  | nil =>
    unfold ckEs at h
    split at h
    · refine pa_imp pa_nil fun σ H Q ⟨m, en, hh, Q', Xx, S, E, xp, w, p⟩ => ?_
      unfold wpEs at w
      exact p m [] H [] hh Ext.refl S .nil w
    · cases h
  | cons a r =>
    unfold ckEs at h
    split at h
    · simp only [Bool.and_eq_true] at h
      refine pa_imp (pa_cons (sndE a c h.1.2).1 (sndA r c h.2) (star_cons _ _ _ h.1.1)) fun σ H Q ⟨m, en, hh, Q', Xx, S, E, xp, w, p⟩ => ?_
      unfold wpEs at w
      exact sub1 S E xp w fun m1 v1 H1 d1 h1 x1 S1 r1 w1 => ⟨m1, en, h1, _, Xx, S1, E.mono x1, xp, w1, fun m2 vs H2 ds h2 x2 S2 rs q => p m2 (v1 :: vs) H2 (d1 :: ds) h2 (x1.trans x2) S2 (.cons (r1.mono x2) rs) q⟩
    · cases h
theorem sndO (a : Oe) {N : List Str} {sc : Scope} {fc : Str → Bool} {X : Cx} {e : Option Expr} (c : Ct T k ca N sc fc X) (h : ckO a N sc fc e = true) : PO X e (tO (cnOf T k) X.K ca a) := by
  cases a with
  | none =>
    unfold ckO at h
    split at h
    · refine po_imp po_none fun σ H Q ⟨m, en, hh, Q', Xx, S, E, xp, w, p⟩ => ?_
      unfold wpO at w
      exact p m H none hh Ext.refl S w
    · cases h
  | some a =>
    unfold ckO at h
    split at h
    · refine po_imp (po_some (sndE a c h).1) fun σ H Q ⟨m, en, hh, Q', Xx, S, E, xp, w, p⟩ => ?_
      unfold wpO at w
      refine sub1 S E xp w fun m1 v1 H1 d1 h1 x1 S1 r1 w1 => ?_
      obtain ⟨i, rfl, q⟩ := w1
      cases r1
      exact ⟨i, rfl, p m1 H1 _ h1 x1 S1 q⟩
    · cases h
theorem sndI (a : Iv) {N : List Str} {sc : Scope} {fc : Str → Bool} {X : Cx} {tg e : Expr} (c : Ct T k ca N sc fc X) (h : ckI a N sc fc tg e = true) : PI X tg e (tI (cnOf T k) X.K ca a) := by
  have mr : X.mg "range" = none := c.blt _ (by decide)
  have me : X.mg "enumerate" = none := c.blt _ (by decide)
  have mz : X.mg "zip" = none := c.blt _ (by decide)
  have mv : X.mg "reversed" = none := c.blt _ (by decide)
  cases a with
  | seq a =>
    unfold ckI at h
    refine pi_imp (pi_any (sndE a c h).1) fun σ H Q ⟨m, en, hh, Q', Xx, S, E, xp, w, p⟩ => ?_
    unfold wpI at w
    refine sub1 S E xp w fun m1 v1 H1 d1 h1 x1 S1 r1 w1 => ?_
    unfold srcOf at w1
    split at w1
    · cases r1 with
      | tup t r => exact .inr (.inl ⟨_, _, rfl, t, p m1 H1 _ _ h1 x1 S1 (wd_tup t r) w1⟩)
    · cases r1
      exact .inr (.inr ⟨_, rfl, p m1 H1 _ _ h1 x1 S1 wd_str w1⟩)
    · cases r1 with
      | ref z =>
        rcases w1 with ⟨ds, e1, q⟩ | ⟨ds, e1, q⟩
        · obtain ⟨vs, e2, r⟩ := S1.seqAt (.inl e1) z
          exact .inl ⟨_, vs, rfl, e2, p m1 H1 _ _ h1 x1 S1 (wd_list z (.inl rfl)) q⟩
        · obtain ⟨vs, e2, r⟩ := S1.seqAt (.inr e1) z
          exact .inl ⟨_, vs, rfl, e2, p m1 H1 _ _ h1 x1 S1 (wd_list z (.inr rfl)) q⟩
    · exact w1.elim
  | rng1 a =>
    unfold ckI at h
    split at h
    · simp only [Bool.and_eq_true] at h
      obtain ⟨⟨⟨h1, h2⟩, h3⟩, h4⟩ := h
      have ex := of_decide_eq_true h1
      subst ex
      refine pi_imp (pi_range1 (c.gl h2) mr (pa_cons (sndE a c h4).1 pa_nil (star_cons _ _ _ h3)) (star_cons _ _ _ h3)) fun σ H Q ⟨m, en, hh, Q', Xx, S, E, xp, w, p⟩ => ?_
      unfold wpI at w
      refine sub1 S E xp w fun m1 v1 H1 d1 h1 x1 S1 r1 w1 => ?_
      obtain ⟨j, rfl, b1, b2, q⟩ := w1
      cases r1
      refine ⟨j, rfl, by omega, by omega, p m1 H1 _ _ h1 x1 S1 (wd_rng (lo := 0) (n := j.toNat)) ?_⟩
      simpa using q
    · cases h
  | rng2 a b =>
    unfold ckI at h
    split at h
    · simp only [Bool.and_eq_true] at h
      obtain ⟨⟨⟨⟨⟨h1, h2⟩, h3⟩, h4⟩, h5⟩, h6⟩ := h
      have ex := of_decide_eq_true h1
      subst ex
      refine pi_imp (pi_range2 (c.gl h2) mr (pa_cons (sndE a c h5).1 (pa_cons (sndE b c h6).1 pa_nil (star_cons _ _ _ h4)) (star_cons _ _ _ h3)) (by rw [star_cons _ _ _ h3, star_cons _ _ _ h4]; rfl) (star_cons _ _ _ h4)) fun σ H Q ⟨m, en, hh, Q', Xx, S, E, xp, w, p⟩ => ?_
      unfold wpI at w
      refine sub1 S E xp w fun m1 v1 H1 d1 h1 x1 S1 r1 w1 => sub1 S1 (E.mono x1) xp w1 fun m2 v2 H2 d2 h2 x2 S2 r2 w2 => ?_
      obtain ⟨i, j, rfl, rfl, b1, q⟩ := w2
      cases r1; cases r2
      exact ⟨i, j, rfl, ⟨by omega, by omega, by omega, by omega⟩, p m2 H2 _ _ h2 (x1.trans x2) S2 wd_rng q⟩
    · cases h
  | enu a =>
    unfold ckI at h
    split at h
    · simp only [Bool.and_eq_true] at h
      obtain ⟨⟨⟨⟨h0, h1⟩, h2⟩, h3⟩, h4⟩ := h
      have ex := of_decide_eq_true h1
      subst ex
      obtain ⟨el, kk, tp, rfl⟩ : ∃ el kk tp, tg = .Tuple el kk tp := by
        cases tg <;> first | exact ⟨_, _, _, rfl⟩ | cases h0
      refine pi_imp (pi_enum (c.gl h2) me (pa_cons (sndE a c h4).1 pa_nil (star_cons _ _ _ h3)) (star_cons _ _ _ h3)) fun σ H Q ⟨m, en, hh, Q', Xx, S, E, xp, w, p⟩ => ?_
      unfold wpI at w
      refine sub1 S E xp w fun m1 v1 H1 d1 h1 x1 S1 r1 w1 => ?_
      unfold srcL at w1
      split at w1
      · cases r1 with
        | ref z =>
          rcases w1 with ⟨ds, e1, q⟩ | ⟨ds, e1, q⟩
          · obtain ⟨vs, e2, r⟩ := S1.seqAt (.inl e1) z
            exact ⟨_, vs, rfl, e2, p m1 H1 _ _ h1 x1 S1 (wd_enum z (.inl rfl)) q⟩
          · obtain ⟨vs, e2, r⟩ := S1.seqAt (.inr e1) z
            exact ⟨_, vs, rfl, e2, p m1 H1 _ _ h1 x1 S1 (wd_enum z (.inr rfl)) q⟩
      · exact w1.elim
    · cases h
  | zip a b =>
    unfold ckI at h
    split at h
    · simp only [Bool.and_eq_true] at h
      obtain ⟨⟨⟨⟨⟨⟨h0, h1⟩, h2⟩, h3⟩, h4⟩, h5⟩, h6⟩ := h
      have ex := of_decide_eq_true h1
      subst ex
      obtain ⟨el, kk, tp, rfl⟩ : ∃ el kk tp, tg = .Tuple el kk tp := by
        cases tg <;> first | exact ⟨_, _, _, rfl⟩ | cases h0
      refine pi_imp (RZ.pi_zipA (c.gl h2) mz (pa_cons (sndE a c h5).1 (pa_cons (sndE b c h6).1 pa_nil (star_cons _ _ _ h4)) (star_cons _ _ _ h3)) (star_cons _ _ _ h3) (star_any _ _ _ fun z hz => by rw [List.mem_singleton.mp hz]; exact h4)) fun σ H Q ⟨m, en, hh, Q', Xx, S, E, xp, w, p⟩ => ?_
      unfold wpI at w
      refine sub1 S E xp w fun m1 v1 H1 d1 h1 x1 S1 r1 w1 => sub1 S1 (E.mono x1) xp w1 fun m2 v2 H2 d2 h2 x2 S2 r2 w2 => ?_
      exact zip_key S2 (r1.mono x2) r2 w2 fun J s wd q => p m2 H2 J s h2 (x1.trans x2) S2 wd q
    · cases h
  | rvs a =>
    unfold ckI at h
    split at h
    · simp only [Bool.and_eq_true] at h
      obtain ⟨⟨⟨h1, h2⟩, h3⟩, h4⟩ := h
      have ex := of_decide_eq_true h1
      subst ex
      refine pi_imp (RT.pi_revA (c.gl h2) mv (sndE a c h4).1 (star_cons _ _ _ h3)) fun σ H Q ⟨m, en, hh, Q', Xx, S, E, xp, w, p⟩ => ?_
      unfold wpI at w
      refine sub1 S E xp w fun m1 v1 H1 d1 h1 x1 S1 r1 w1 => ?_
      unfold srcR at w1
      rcases w1 with w1 | w1
      · unfold srcL at w1
        split at w1
        · cases r1 with
          | ref z =>
            rcases w1 with ⟨ds, e1, q⟩ | ⟨ds, e1, q⟩
            · obtain ⟨vs, e2, r⟩ := S1.seqAt (.inl e1) z
              exact ⟨_, vs, rfl, .inl ⟨e2, by rw [r.len]; exact p m1 H1 _ _ h1 x1 S1 (wd_rev z (.inl rfl)) q⟩⟩
            · obtain ⟨vs, e2, r⟩ := S1.seqAt (.inr e1) z
              exact ⟨_, vs, rfl, .inl ⟨e2, by rw [r.len]; exact p m1 H1 _ _ h1 x1 S1 (wd_rev z (.inr rfl)) q⟩⟩
        · exact w1.elim
      · unfold srcT at w1
        split at w1
        · cases r1 with
          | tup t r => exact ⟨_, _, rfl, .inr ⟨t, by rw [r.len]; exact p m1 H1 _ _ h1 x1 S1 (wd_revT t r) w1⟩⟩
        · exact w1.elim
    · cases h
  | keys i => unfold ckI at h; cases h
theorem sndG (a : Tg) {N : List Str} {sc : Scope} {fc : Str → Bool} {X : Cx} {e : Expr} (c : Ct T k ca N sc fc X) (h : ckG a N sc fc e = true) : PG X e (tG (cnOf T k) X.K ca a) := by
  cases a with
  | nm i =>
    unfold ckG at h
    split at h
    · simp only [Bool.and_eq_true] at h
      obtain ⟨l1, l2⟩ := c.loc h.2
      refine pg_imp (pg_name c.hnd (c.slot h.1) l1 l2) fun v σ H Q ⟨m, en, hh, d, Q', Xx, S, E, r, xp, w, p⟩ => ?_
      unfold wpG at w
      exact p m _ H _ hh Ext.refl S (E.set r i) (fun vs hv => wipe_set (hv i (by unfold tgSlots; exact List.mem_singleton.mpr rfl))) w
    · cases h
  | tp ts =>
    unfold ckG at h
    split at h
    · rename_i elts _ _
      have hn := ckGs_nst elts ts h
      have ig := sndGs ts c h
      refine pg_imp (pg_or (pg_tup c.calm ig rfl (asg_idx _ _ hn)) (pg_unl c.calm ig rfl (asg_idx _ _ hn))) fun v σ H Q ⟨m, en, hh, d, Q', Xx, S, E, r, xp, w, p⟩ => ?_
      unfold wpG at w
      obtain ⟨ds, ed, hln, w⟩ := w
      have hlen : ds.length = (assignEach elts X.env).length := by
        rw [asg_len _ _ hn]
        exact hln.trans (ckGs_len _ ts h)
      obtain ⟨a, vs, rfl, hq, rs, _⟩ := elems_ok S r ed
      have tail : tGs (cnOf T k) X.K ca ts vs σ H Q := ⟨m, en, hh, ds, Q', Xx, S, E, rs, xp, w, fun m' σ' H' e' h' x S' E' kp q => p m' σ' H' e' h' x S' E' (fun vs hv => kp vs (by unfold tgSlots at hv; exact hv)) q⟩
      rcases hq with hq | hq
      · exact .inr ⟨a, vs, rfl, hq, by rw [rs.len]; exact hlen, tail⟩
      · exact .inl ⟨a, vs, rfl, hq, by rw [rs.len]; exact hlen, tail⟩
    · cases h
  | sub o i =>
    unfold ckG at h
    split at h
    · simp only [Bool.and_eq_true] at h
      obtain ⟨⟨h1, h2⟩, h3⟩ := h
      refine pg_imp (pg_sub (sndE o c h2).1 (sndE i c h3).1 (set_any (by have := c.units; omega)) (sub_asg _ _ _ _ h1)) fun v σ H Q ⟨m, en, hh, d, Q', Xx, S, E, r, xp, w, p⟩ => ?_
      unfold wpG at w
      refine sub1 S E xp w fun m1 v1 H1 d1 h1 x1 S1 r1 w1 => sub1 S1 (E.mono x1) xp w1 fun m2 v2 H2 d2 h2 x2 S2 r2 w2 => ?_
      obtain ⟨n, rfl, w2⟩ := w2
      have r1' := r1.mono x2
      have rd := r.mono (x1.trans x2)
      cases r1' with
      | ref z =>
        rcases w2 with ⟨xs, kk, j, e1, rfl, ej, q⟩ | ⟨kvs, key, e1, ek, hl, q⟩
        · cases r2
          obtain ⟨vs, e2, rr⟩ := S2.lstAt e1 z
          obtain ⟨S3, x3⟩ := S2.put (ho := .lst (vs.set j v)) (o := .lst (xs.set j d)) e1 z rfl rfl fun H' ht e => ⟨_, e, (rr.set rd j).mono0 ⟨fun _ _ z => z, ht⟩⟩
          exact .inl ⟨_, vs, kk, j, rfl, rfl, e2, by rw [rr.len]; exact ej, p m2 σ _ _ _ ((x1.trans x2).trans x3) S3 (E.mono ((x1.trans x2).trans x3)) (fun _ _ => rfl) q⟩
        · obtain ⟨vk, e2, rr⟩ := S2.obj _ _ _ z e1
          have ex := key_ok r2 ek
          subst ex
          obtain ⟨S3, x3⟩ := S2.put (ho := .dK (putK vk key v)) (o := .dK (putD kvs key d)) e1 z rfl rfl fun H' ht e => ⟨_, e, (rr.put key rd).mono0 ⟨fun _ _ z => z, ht⟩⟩
          exact .inr ⟨_, _, rfl, DPut.k e2 (by rw [rr.len]; exact lim' _ hl), p m2 σ _ _ _ ((x1.trans x2).trans x3) S3 (E.mono ((x1.trans x2).trans x3)) (fun _ _ => rfl) q⟩
    · cases h
theorem sndGs (a : Tgs) {N : List Str} {sc : Scope} {fc : Str → Bool} {X : Cx} {es : List Expr} (c : Ct T k ca N sc fc X) (h : ckGs a N sc fc es = true) : PGs X es (tGs (cnOf T k) X.K ca a) := by
  cases a with
  | nil =>
    unfold ckGs at h
    split at h
    · refine pgs_imp pgs_nil fun vs σ H Q ⟨m, en, hh, ds, Q', Xx, S, E, r, xp, w, p⟩ => ?_
      unfold wpGs at w
      obtain ⟨rfl, q⟩ := w
      exact ⟨r.inv0, p m σ H en hh Ext.refl S E (fun _ _ => rfl) q⟩
    · cases h
  | cons t ts =>
    unfold ckGs at h
    split at h
    · simp only [Bool.and_eq_true] at h
      refine pgs_imp (pgs_cons (sndG t c h.1.2) (sndGs ts c h.2) (by rw [assign_cons _ _ _ h.1.1]; rfl)) fun vs σ H Q ⟨m, en, hh, ds, Q', Xx, S, E, r, xp, w, p⟩ => ?_
      unfold wpGs at w
      obtain ⟨d, ds', rfl, w⟩ := w
      cases r with
      | cons r1 rr =>
        refine ⟨_, _, rfl, m, en, hh, d, _, Xx, S, E, r1, xp, w, fun m1 σ1 H1 e1 h1 x1 S1 E1 kp1 w1 => ?_⟩
        refine ⟨m1, e1, h1, ds', Q', Xx, S1, E1, rr.mono x1, xp, w1, fun m2 σ2 H2 e2 h2 x2 S2 E2 kp2 q => p m2 σ2 H2 e2 h2 (x1.trans x2) S2 E2 (fun vs hv => ?_) q⟩
        rw [kp2 vs fun i hi => hv i (by unfold tgSlots.go; exact List.mem_append_right _ hi), kp1 vs fun i hi => hv i (by unfold tgSlots.go; exact List.mem_append_left _ hi)]
    · cases h
end
end
end Bp

namespace Bp
open PySem L2 PySem.Spec PyProof.Rows

section
variable {T : Tb} {k : Nat} {ca : Str → Option Addr} {N : List Str} {sc : Scope} {X : Cx}

theorem kind_of (h : (match sc.kind with | .function => true | _ => false) = true) : sc.kind = .function := by
  split at h
  · assumption
  · cases h
theorem comp_parts {elt : E} {t : Tg} {it : Iv} {cc : Oe} {own : List (Str × Nat)} {fc : Str → Bool} {e : Expr} (h : ckE (.comp elt t it cc own) N sc fc e = true) : ∃ x tg iter ifs scope pos, e = .ListComp x [⟨tg, iter, ifs, 0⟩] scope pos ∧
    (blkC N sc scope own && nset iter && ckI it N sc fc tg iter && ckG t N (relS scope sc) (fun z => scope.names.lookup z == some .cell) tg && (tgSlots t).all (fun i => decide (i ∈ own.map (·.2))) &&
        (match (generalizing := false) cc, ifs with | .none, [] => true | .some a, [f] => ckE a N (relS scope sc) (fun z => scope.names.lookup z == some .cell) f | _, _ => false) && ckE elt N (relS scope sc) (fun z => scope.names.lookup z == some .cell) x) = true := by
  unfold ckE at h
  split at h
  · exact ⟨_, _, _, _, _, _, rfl, h⟩
  · cases h
theorem sw_false {env : Env} {elt : Expr} {gs : List Comprehension} {scope : Scope} {p py : Pos} {y : Str} {l : Nat} (hk : env.scope.kind = .function) (h : swB env.scope scope p.line y py.line = false) : swapsWith (.ListComp elt gs scope p) (some (.Name y py)) l env = pure false := by
  unfold swapsWith
  show (pure _ : Sem Bool) = pure false
  congr 1
  unfold swB lcl at h
  have hb : env.blockKind = .function := by unfold Env.blockKind; rw [hk]; rfl
  rw [hb]
  rw [hk] at h
  show ((ScopeKind.function == ScopeKind.function) && (env.scope.names.lookup y == some .local) && (py.line == p.line) && _) = false
  rw [← h]
  congr 2
  cases hx : env.scope.names.lookup y with
  | none => rfl
  | some kd => cases kd <;> rfl
theorem sw_notName {env : Env} {v tg : Expr} {l : Nat} (h : (match tg with | .Name _ _ => false | _ => true) = true) (h2 : (match v with | .SetComp _ _ _ _ => false | .DictComp _ _ _ _ _ => false | _ => true) = true) : swapsWith v (some tg) l env = pure false := by
  cases v <;> first | rfl | (cases tg <;> first | rfl | cases h) | cases h2
theorem sw_plain {env : Env} {v : Expr} {o : Option Expr} {l : Nat} (h : nlc v = true) : swapsWith v o l env = pure false := by
  cases v <;> first | rfl | cases h

theorem sws_none {env : Env} {ts vs : List Expr} {k1 k2 : Nat} {p1 p2 : Pos} (h : swNone env.scope ts vs = true) : swappedStores [.Tuple ts k1 p1] (.Tuple vs k2 p2) env = pure none := by
  unfold swappedStores
  simp only [pure_bind]
  split
  · rfl
  · rename_i h23
    split
    · rfl
    · unfold swNone at h
      rw [Bool.or_eq_true] at h
      have h := h.resolve_left fun z => h23 (by rw [z]; rfl)
      rw [Bool.or_eq_true] at h
      split
      · rfl
      · rename_i hn
        rcases h with h | h
        · exact absurd (by rw [Bool.or_eq_true]; exact .inl h) hn
        · rw [if_pos h]
def isLst : Expr → Bool | .List _ _ => true | _ => false
theorem sws_v {env : Env} {tg v : Expr} (h : isTup v = false) : swappedStores [tg] v env = pure none := by
  cases v <;> first | (cases tg <;> rfl) | cases h
theorem sws_t {env : Env} {tg v : Expr} (h : isTup tg = false) (h2 : isLst tg = false) : swappedStores [tg] v env = pure none := by
  cases tg <;> first | (cases v <;> rfl) | exact Bool.noConfusion h | exact Bool.noConfusion h2
theorem sws_some {env : Env} {x y : Str} {px py pt pt2 : Pos} {u v : Expr} {kt k2 : Nat} (hk : env.scope.kind = .function) (hx : env.scope.names.lookup x = some .local) (hy : env.scope.names.lookup y = some .local) (hxy : x ≠ y) (hl : (px.line == py.line) = true)
    (hf : (foldedForSure 8 u && foldedForSure 8 v) = false) (hc : (constantsAlone 8 u && constantsAlone 8 v) = false) (nu : nst u = true) (nv : nst v = true) : swappedStores [.Tuple [.Name x px, .Name y py] kt pt] (.Tuple [u, v] k2 pt2) env = pure (some [x, y]) := by
  have hb : env.blockKind = .function := by unfold Env.blockKind; rw [hk]; rfl
  have hl' : (py.line == px.line) = true := by rw [beq_iff_eq] at hl ⊢; exact hl.symm
  have h1 : env.kindOf x = some .local := hx
  have h2 : env.kindOf y = some .local := hy
  have hl2 : py.line = px.line := by rw [beq_iff_eq] at hl; exact hl.symm
  have e2 : (y == x) = false := by rw [beq_eq_false_iff_ne]; exact fun z => hxy z.symm
  unfold swappedStores
  simp only [pure_bind]
  split
  · rename_i hh
    exact absurd hh (by rw [hb]; simp)
  · split
    · rename_i hh
      simp only [List.any_cons, List.any_nil, Bool.or_false, Bool.or_eq_true] at hh
      rcases hh with hh | hh
      · split at hh
        · exact Bool.noConfusion nu
        · cases hh
      · split at hh
        · exact Bool.noConfusion nv
        · cases hh
    · simp only [List.filterMap_cons, List.filterMap_nil, List.head?_cons, Option.map_some, Option.getD_some, h1, h2, hl2, Expr.pos, beq_self_eq_true, Bool.and_self, if_true]
      split
      · rename_i hh
        simp [List.eraseDups_cons, e2] at hh
      · split
        · rename_i hh
          simp only [List.all_cons, List.all_nil, Bool.and_true] at hh
          rw [hf] at hh
          cases hh
        · split
          · rename_i hh
            simp only [List.all_cons, List.all_nil, Bool.and_true] at hh
            rw [hc] at hh
            cases hh
          · rfl
theorem sws_some3 {env : Env} {x y z : Str} {px py pz pt pt2 : Pos} {u v w : Expr} {kt k2 : Nat} (hk : env.scope.kind = .function) (hx : env.scope.names.lookup x = some .local) (hy : env.scope.names.lookup y = some .local) (hz : env.scope.names.lookup z = some .local) (hxy : x ≠ y) (hxz : x ≠ z) (hyz : y ≠ z) (hl : py.line = px.line) (hl2 : pz.line = px.line)
    (hf : (foldedForSure 8 u && foldedForSure 8 v && foldedForSure 8 w) = false) (hc : (constantsAlone 8 u && constantsAlone 8 v && constantsAlone 8 w) = false) (nu : nst u = true) (nv : nst v = true) (nw : nst w = true) : swappedStores [.Tuple [.Name x px, .Name y py, .Name z pz] kt pt] (.Tuple [u, v, w] k2 pt2) env = pure (some [x, y, z]) := by
  have hb : env.blockKind = .function := by unfold Env.blockKind; rw [hk]; rfl
  have h1 : env.kindOf x = some .local := hx
  have h2 : env.kindOf y = some .local := hy
  have h3 : env.kindOf z = some .local := hz
  have e2 : (y == x) = false := by rw [beq_eq_false_iff_ne]; exact fun z => hxy z.symm
  have e3 : (z == x) = false := by rw [beq_eq_false_iff_ne]; exact fun z => hxz z.symm
  have e4 : (z == y) = false := by rw [beq_eq_false_iff_ne]; exact fun z => hyz z.symm
  unfold swappedStores
  simp only [pure_bind]
  split
  · rename_i hh
    exact absurd hh (by rw [hb]; simp)
  · split
    · rename_i hh
      simp only [List.any_cons, List.any_nil, Bool.or_false, Bool.or_eq_true] at hh
      rcases hh with hh | hh | hh
      · split at hh
        · exact Bool.noConfusion nu
        · cases hh
      · split at hh
        · exact Bool.noConfusion nv
        · cases hh
      · split at hh
        · exact Bool.noConfusion nw
        · cases hh
    · simp only [List.filterMap_cons, List.filterMap_nil, List.head?_cons, Option.map_some, Option.getD_some, h1, h2, h3, hl, hl2, Expr.pos, beq_self_eq_true, Bool.and_self, if_true]
      split
      · rename_i hh
        simp [List.eraseDups_cons, e2, e3, e4] at hh
      · split
        · rename_i hh
          simp only [List.all_cons, List.all_nil, Bool.and_true] at hh
          rw [← Bool.and_assoc, hf] at hh
          cases hh
        · split
          · rename_i hh
            simp only [List.all_cons, List.all_nil, Bool.and_true] at hh
            rw [← Bool.and_assoc, hc] at hh
            cases hh
          · rfl
def iBo (K : PySem.W.Frag) : Bo → R2
  | .add => fun x y H Q => rI0 (fun i j => .int (i + j)) x y H Q ∨ rStrAdd x y H Q
  | .sub => rI0 fun i j => .int (i - j)
  | .mul => rI CMul fun i j => .int (i * j)
  | .fdiv => rI CDiv fun i j => .int (i / j)
  | .mod => rI (fun _ j => 0 < j) fun i j => .int (i % j)
  | _ => fun _ _ _ _ => False
theorem ip_bo (o : Bo) : PIp X (boP o) (iBo X.K o) := by
  cases o with
  | add => exact iop_add.or iop_add_str
  | sub => exact iop_sub
  | mul => exact iop_mul
  | fdiv => exact iop_fdiv
  | mod => exact iop_mod
  | pow => intro _ _ _ _ _ _ _ _ _ _ _ _ h; exact h.elim
  | xor => intro _ _ _ _ _ _ _ _ _ _ _ _ h; exact h.elim

theorem for_sound {C : Cn} {K : PySem.W.Frag} {t : Tg} {it : Iv} {b : Ss} {σ : L2.St} {H : Hp} {D : Ends} (q : tS C K ca (.each t it b) D σ H) : tFor (tI C K ca it) (tG C K ca t) (tSs C K ca b) D σ H := by
  obtain ⟨m, en, hh, P, S, E, w, p⟩ := q
  unfold wpS at w
  refine ⟨m, en, hh, _, P.ex, S, E, p.2.2.2.2, w, fun m1 H1 J s h1 x1 S1 wd w1 => ?_⟩
  refine ⟨fun i mm σ2 H2 => mm = s.items.length - i ∧ i ≤ s.items.length ∧ ∃ m' e' h', Ext K H1 m1 H2 m' ∧ Sm K ca H2 m' h' ∧ Er K H2 m' σ2 e' ∧
      forW s.ok (fun d e2 h2 kk => wpG C t P.ex d e2 h2 fun e3 h3 => wpSs C b e3 h3 { P with nx := kk, ct := kk, bk := P.nx }) P.nx (s.items.drop i) e' h',
    ⟨_, rfl, Nat.zero_le _, m1, en, h1, Ext.refl, S1, E.mono x1, w1⟩, ?_⟩
  rintro i mm σ2 H2 ⟨rfl, hi, m', e', h', xx, S', E', w'⟩
  by_cases hlt : i < s.items.length
  · rw [List.drop_eq_getElem_cons hlt] at w'
    unfold forW at w'
    refine .inr ⟨wd.goes i H2 m' h' hlt xx S' w'.1, fun σ3 H3 => ∃ m'' e'' h'', Ext K H1 m1 H3 m'' ∧ Sm K ca H3 m'' h'' ∧ Er K H3 m'' σ3 e'' ∧
      forW s.ok (fun d e2 h2 kk => wpG C t P.ex d e2 h2 fun e3 h3 => wpSs C b e3 h3 { P with nx := kk, ct := kk, bk := P.nx }) P.nx (s.items.drop (i + 1)) e'' h'',
      fun σ3 H3 ⟨m'', e'', h'', a1, a2, a3, a4⟩ => ⟨s.items.length - (i + 1), by omega, rfl, hlt, m'', e'', h'', a1, a2, a3, a4⟩, fun x H3 hy => ?_⟩
    obtain ⟨y1, y2, y3, y4⟩ := wd.yields i H2 x H3 m' h' _ (List.getElem?_eq_getElem hlt) xx S' w'.1 hy
    refine ⟨m', e', h', _, _, P.ex, y2, E'.mono y1, y3, p.2.2.2.2, w'.2, fun m3 σ3 H4 e3 h3 x3 S3 E3 _ q3 => ?_⟩
    have xa : Ext K H1 m1 H4 m3 := (xx.trans y1).trans x3
    refine ⟨m3, e3, h3, _, S3, E3, q3, fun m4 σ4 H5 e4 h4 x4 S4 E4 q4 => ⟨m4, e4, h4, xa.trans x4, S4, E4, q4⟩, p.2.1.mono (x1.trans xa), fun m4 σ4 H5 e4 h4 x4 S4 E4 q4 => p.1 m4 σ4 H5 e4 h4 ((x1.trans xa).trans x4) S4 E4 q4, fun m4 σ4 H5 e4 h4 x4 S4 E4 q4 => ⟨m4, e4, h4, xa.trans x4, S4, E4, q4⟩, p.2.2.2.2⟩
  · have e : i = s.items.length := by omega
    subst e
    rw [List.drop_length] at w'
    unfold forW at w'
    exact .inl ⟨wd.stops H2 m' h' xx S' w'.1, p.1 m' σ2 H2 e' h' (x1.trans xx) S' E' w'.2⟩
theorem Rk.getk {κ : Type} {K : PySem.W.Frag} {H : Hp} {m : List Addr} : ∀ {vs : List (κ × V)} {ds : List (κ × Bp.D)} {i : Nat} {k : κ} {v : V}, Rk K H m vs ds → vs[i]? = some (k, v) → ∃ d, ds[i]? = some (k, d)
  | _, _, _, _, _, .nil, e => by simp at e
  | _, _, 0, _, _, .cons r _, e => by simp at e; obtain ⟨rfl, rfl⟩ := e; exact ⟨_, rfl⟩
  | _, _, i + 1, k, v, .cons _ t, e => by
    obtain ⟨d, h1⟩ := Rk.getk (i := i) (k := k) (v := v) t (by simpa using e)
    exact ⟨d, by simpa using h1⟩
theorem r_key {K : PySem.W.Frag} {H : Hp} {m : List Addr} (k : Key) : R K H m (kV k) (keyD k) := by
  cases k with
  | inl i => exact .int i
  | inr s => exact .str s
theorem forK_sound {C : Cn} {K : PySem.W.Frag} {t : Tg} {i : Nat} {b : Ss} {σ : L2.St} {H : Hp} {D : Ends} (q : tS C K ca (.eachK t i b) D σ H) : tLock (tFor (iKeys (tVar i)) (tG C K ca t) (tSs C K ca b)) D σ H := by
  obtain ⟨m, en, hh, P, S, E, w, p⟩ := q
  unfold wpS at w
  obtain ⟨n, kvs, e1, e2, w⟩ := w
  obtain ⟨v, ev, rv⟩ := E.at_ i _ e1
  cases rv with
  | @ref a _ z =>
    obtain ⟨vk, e3, rk⟩ := S.obj n a _ z e2
    refine ⟨a, .dK vk, e3, trivial, fun od => ?_⟩
    obtain ⟨S1, x1⟩ := S.put (ho := .frz od (.dK vk)) (o := .rd kvs) e2 z rfl rfl fun H' ht e => ⟨vk, od, e, rk.mono0 ⟨fun _ _ z => z, ht⟩⟩
    have h1a : (upd H a (.frz od (.dK vk))) a = some (.frz od (.dK vk)) := upd_same
    generalize hH1 : upd H a (.frz od (.dK vk)) = H1 at *
    have back : ∀ {m' : List Addr} {H' : Hp} {h' : Hh}, Ext K H1 m H' m' → Sm K ca H' m' h' → h'[n]? = some (.rd kvs) →
        H' a = some (.frz od (.dK vk)) ∧ Sm K ca (upd H' a (.dK vk)) m' (h'.set n (.dK kvs)) ∧ Ext0 K H' m' (upd H' a (.dK vk)) m' ∧ Ext K H m (upd H' a (.dK vk)) m' := by
      intro m' H' h' x S' g
      have ha := x.frz a od _ h1a
      have hm := x.pre n a z
      obtain ⟨vk', ob', e4, rk'⟩ := S'.obj n a _ hm g
      rw [ha] at e4
      cases e4
      obtain ⟨S2, x2⟩ := S'.put0 (ho := .dK vk) (o := .dK kvs) g hm rfl rfl fun H2 ht e => ⟨vk, e, rk'.mono0 ⟨fun _ _ z => z, ht⟩⟩
      refine ⟨ha, S2, x2, ⟨fun n b e => x.pre n b e, fun b vs e => x2.tup b vs (x.tup b vs (x1.tup b vs e))⟩, fun b o u e => ?_⟩
      have hb : b ≠ a := fun z => by rw [z, e3] at e; cases e
      rw [upd_ne hb]
      exact x.frz b o u (x1.frz b o u e)
    have hlen : vk.length = kvs.length := rk.len
    refine ⟨.ref a, ev, a, od, rfl, .inl ⟨vk, h1a, ?_⟩⟩
    refine ⟨fun j mm σ2 H2 => mm = kvs.length - j ∧ j ≤ kvs.length ∧ ∃ m' e' h', Ext K H1 m H2 m' ∧ Sm K ca H2 m' h' ∧ Er K H2 m' σ2 e' ∧
        forW (fun h' => h'[n]? = some (.rd kvs)) (fun d e2 h2 k => wpG C t P.ex d e2 h2 fun e3 h3 => wpSs C b e3 h3 { P with nx := k, ct := k, bk := fun e' h' => h'[n]? = some (.rd kvs) ∧ P.nx e' (h'.set n (.dK kvs)), rt := fun d' h' => h'[n]? = some (.rd kvs) ∧ P.rt d' (h'.set n (.dK kvs)) })
          (fun e' h' => P.nx e' (h'.set n (.dK kvs))) ((kvs.map fun kv : Key × Bp.D => keyD kv.1).drop j) e' h',
      ⟨_, rfl, Nat.zero_le _, m, en, _, Ext.refl, S1, E.mono x1, w⟩, ?_⟩
    rintro j mm σ2 H2 ⟨rfl, hj, m', e', h', xx, S', E', w'⟩
    have key : ∀ {m4 : List Addr} {σ4 : L2.St} {H5 : Hp} {e4 : En} {h4 : Hh}, Ext K H1 m H5 m4 → Sm K ca H5 m4 h4 → Er K H5 m4 σ4 e4 → h4[n]? = some (.rd kvs) → P.nx e4 (h4.set n (.dK kvs)) → H5 a = some (.frz od (.dK vk)) ∧ D.nx σ4 (upd H5 a (.dK vk)) := by
      intro m4 σ4 H5 e4 h4 x4 S4 E4 g4 q4
      obtain ⟨b1, b2, b3, b4⟩ := back x4 S4 g4
      exact ⟨b1, p.1 m4 σ4 _ e4 _ b4 b2 (E4.mono0 b3) q4⟩
    by_cases hlt : j < kvs.length
    · have hl2 : j < (kvs.map fun kv : Key × Bp.D => keyD kv.1).length := by rw [List.length_map]; exact hlt
      rw [List.drop_eq_getElem_cons hl2] at w'
      unfold forW at w'
      refine .inr ⟨⟨xx.frz a od _ h1a, by omega⟩, fun σ3 H3 => ∃ m'' e'' h'', Ext K H1 m H3 m'' ∧ Sm K ca H3 m'' h'' ∧ Er K H3 m'' σ3 e'' ∧
        forW (fun h' => h'[n]? = some (.rd kvs)) (fun d e2 h2 k => wpG C t P.ex d e2 h2 fun e3 h3 => wpSs C b e3 h3 { P with nx := k, ct := k, bk := fun e' h' => h'[n]? = some (.rd kvs) ∧ P.nx e' (h'.set n (.dK kvs)), rt := fun d' h' => h'[n]? = some (.rd kvs) ∧ P.rt d' (h'.set n (.dK kvs)) })
          (fun e' h' => P.nx e' (h'.set n (.dK kvs))) ((kvs.map fun kv : Key × Bp.D => keyD kv.1).drop (j + 1)) e'' h'',
        fun σ3 H3 ⟨m'', e'', h'', a1, a2, a3, a4⟩ => ⟨kvs.length - (j + 1), by omega, rfl, hlt, m'', e'', h'', a1, a2, a3, a4⟩, fun x H3 hy => ?_⟩
      obtain ⟨rfl, k0, v0, ek, rfl⟩ := hy
      obtain ⟨d0, ed⟩ := Rk.getk rk ek
      have hk0 : (kvs.map fun kv : Key × Bp.D => keyD kv.1)[j] = keyD k0 := by
        rw [List.getElem_map]
        obtain ⟨_, e5⟩ := List.getElem?_eq_some_iff.mp ed
        rw [e5]
      rw [hk0] at w'
      refine ⟨m', e', h', _, _, P.ex, S', E', r_key k0, p.2.2.2.2, w'.2, fun m3 σ3 H4 e3 h3 x3 S3 E3 _ q3 => ?_⟩
      have xa : Ext K H1 m H4 m3 := xx.trans x3
      refine ⟨m3, e3, h3, _, S3, E3, q3, fun m4 σ4 H5 e4 h4 x4 S4 E4 q4 => ⟨m4, e4, h4, xa.trans x4, S4, E4, q4⟩, fun m4 v4 H5 d4 h4 x4 S4 r4 q4 => ?_, fun m4 σ4 H5 e4 h4 x4 S4 E4 q4 => key (xa.trans x4) S4 E4 q4.1 q4.2, fun m4 σ4 H5 e4 h4 x4 S4 E4 q4 => ⟨m4, e4, h4, xa.trans x4, S4, E4, q4⟩, p.2.2.2.2⟩
      obtain ⟨b1, b2, b3, b4⟩ := back (xa.trans x4) S4 q4.1
      exact ⟨b1, p.2.1 m4 v4 _ d4 _ b4 b2 (r4.mono0 b3) q4.2⟩
    · have e : j = kvs.length := by omega
      subst e
      rw [List.drop_of_length_le (by rw [List.length_map]; exact Nat.le_refl _)] at w'
      unfold forW at w'
      exact .inl ⟨⟨xx.frz a od _ h1a, by omega⟩, key xx S' E' w'.1 w'.2⟩
theorem while_sound {C : Cn} {K : PySem.W.Frag} {c : E} {b : Ss} {σ : L2.St} {H : Hp} {D : Ends} (q : tS C K ca (.loop c b) D σ H) : tWhile (tT C K ca c) (tSs C K ca b) D σ H := by
  obtain ⟨m, en, hh, P, S, E, w, p⟩ := q
  unfold wpS at w
  obtain ⟨W, ⟨m0, w0⟩, turn⟩ := w
  refine ⟨fun mm σ2 H2 => ∃ m' e' h', Ext K H m H2 m' ∧ Sm K ca H2 m' h' ∧ Er K H2 m' σ2 e' ∧ W mm e' h', ⟨m0, m, en, hh, Ext.refl, S, E, w0⟩, ?_⟩
  rintro mm σ2 H2 ⟨m', e', h', xx, S', E', w'⟩
  have t1 := turn mm e' h' w'
  unfold wpT at t1
  refine ⟨m', e', h', _, P.ex, S', E', p.2.2.2.2, t1, fun m2 H3 d h2 x2 S2 q => tru_imp q fun bb q => ?_⟩
  cases bb with
  | false => exact p.1 m2 σ2 H3 e' h2 (xx.trans x2) S2 (E'.mono x2) q
  | true =>
    refine ⟨fun σ4 H4 => ∃ m'' , m'' < mm ∧ ∃ m3 e3 h3, Ext K H m H4 m3 ∧ Sm K ca H4 m3 h3 ∧ Er K H4 m3 σ4 e3 ∧ W m'' e3 h3, fun σ4 H4 ⟨m'', lt, r⟩ => ⟨m'', lt, r⟩, ?_⟩
    have xa := xx.trans x2
    exact ⟨m2, e', h2, _, S2, E'.mono x2, q, fun m4 σ4 H5 e4 h4 x4 S4 E4 ⟨m'', lt, q4⟩ => ⟨m'', lt, m4, e4, h4, xa.trans x4, S4, E4, q4⟩, p.2.1.mono xa, fun m4 σ4 H5 e4 h4 x4 S4 E4 q4 => p.1 m4 σ4 H5 e4 h4 (xa.trans x4) S4 E4 q4, fun m4 σ4 H5 e4 h4 x4 S4 E4 ⟨m'', lt, q4⟩ => ⟨m'', lt, m4, e4, h4, xa.trans x4, S4, E4, q4⟩, p.2.2.2.2⟩
theorem PostS.mono {K : PySem.W.Frag} {H H' : Hp} {m m' : List Addr} {P : Po} {D : Ends} (p : PostS K ca H m P D) (x : Ext K H m H' m') : PostS K ca H' m' P D :=
  ⟨fun m2 σ2 H2 e2 h2 x2 => p.1 m2 σ2 H2 e2 h2 (x.trans x2), p.2.1.mono x, fun m2 σ2 H2 e2 h2 x2 => p.2.2.1 m2 σ2 H2 e2 h2 (x.trans x2), fun m2 σ2 H2 e2 h2 x2 => p.2.2.2.1 m2 σ2 H2 e2 h2 (x.trans x2), p.2.2.2.2⟩

mutual
theorem sndS (a : S) {st : Stmt} (c : Ct T k ca N sc (fun _ => true) X) (hk : sc.kind = .function) (hp : PassesOwn (model X.prog X.w) X.A X.env X.xe) (h : ckS a N sc st = true) : PS X st (tS (cnOf T k) X.K ca a) := by
  have hk' : X.env.scope.kind = .function := by rw [c.hsc]; exact hk
  cases a with
  | asg t a =>
    unfold ckS at h
    split at h
    · simp only [Bool.and_eq_true] at h
      obtain ⟨⟨⟨h0, h1⟩, h2⟩, h3⟩ := h
      have ie := (sndE a c h2).1
      have ig := sndG t c h1
      have fin : ∀ (D : Ends) (σ : L2.St) (H : Hp), tS (cnOf T k) X.K ca (.asg t a) D σ H → tAsg (tE (cnOf T k) X.K ca a) (tG (cnOf T k) X.K ca t) D σ H := by
        rintro D σ H ⟨m, en, hh, P, S, E, w, p⟩
        unfold wpS at w
        exact sub1 S E p.2.2.2.2 w fun m1 v1 H1 d1 h1 x1 S1 r1 w1 => ⟨m1, en, h1, d1, _, P.ex, S1, E.mono x1, r1, p.2.2.2.2, w1, fun m2 σ2 H2 e2 h2 x2 S2 E2 _ q => p.1 m2 σ2 H2 e2 h2 (x1.trans x2) S2 E2 q⟩
      have asg1 : ∀ tg : Expr, nst tg = true → (assignEach [tg] X.env).map (·.2) = [assign tg X.env] := fun tg hn => by rw [assign_cons _ _ _ hn]; rfl
      refine ps_imp (ps_asg ie ig ?_ ?_ (asg1 _ h0)) fin
      · show swapsWith _ (some _) _ X.env = pure false
        split at h3
        · split at h3
          · rename_i y py
            rw [Bool.not_eq_true'] at h3
            exact sw_false hk' (by rw [c.hsc]; exact h3)
          · rename_i hne
            exact sw_notName (by split <;> first | rfl | exact absurd rfl (hne _ _)) rfl
        · cases h3
        · cases h3
        · rfl
        · rename_i n1 n2 n3 n4
          refine sw_plain ?_
          unfold nlc
          split <;> first | rfl | exact absurd rfl (n1 _ _ _ _) | exact absurd rfl (n2 _ _ _ _) | exact absurd rfl (n3 _ _ _ _ _)
      · split at h3
        · exact sws_v rfl
        · cases h3
        · cases h3
        · split at h3
          · exact sws_none (by rw [c.hsc]; exact h3)
          · cases h3
          · rename_i n1 n2
            refine sws_t ?_ ?_
            · unfold isTup; split <;> first | rfl | exact absurd rfl (n1 _ _ _)
            · unfold isLst; split <;> first | rfl | exact absurd rfl (n2 _ _)
        · rename_i n1 n2 n3 n4
          refine sws_v ?_
          unfold isTup
          split <;> first | rfl | exact absurd rfl (n4 _ _ _)
    · cases h
  | setc i elt t it cc own =>
    unfold ckS at h
    split at h
    · simp only [Bool.and_eq_true] at h
      obtain ⟨⟨⟨g1, g2⟩, g3⟩, h⟩ := h
      obtain ⟨x0, tg, iter, ifs, scope, pos, he, h⟩ := comp_parts h
      injection he with e1 e2 e3 e4
      rw [e3, e4] at g3
      rw [e1, e2, e3, e4]
      simp only [Bool.and_eq_true] at h
      obtain ⟨⟨⟨⟨⟨⟨h1, h2⟩, h3⟩, h4⟩, h5⟩, h6⟩, h7⟩ := h
      · have ii := sndI it c h3
        have ig : ∀ (s : Shared) (H : Hp) (C : Addr) (cl : List (Str × Addr)) (fp : List Addr), PG (X.blk s H scope (compEnvC scope cl C X.env) fp) tg (tG (cnOf T k) X.K ca t) := fun s H C cl fp => sndG t (c.blk s H scope C cl fp) h4
        have ie : ∀ (s : Shared) (H : Hp) (C : Addr) (cl : List (Str × Addr)) (fp : List Addr), PE (X.blk s H scope (compEnvC scope cl C X.env) fp) x0 (tE (cnOf T k) X.K ca elt) := fun s H C cl fp => (sndE elt (c.blk s H scope C cl fp) h7).1
        have ic : ∀ (s : Shared) (H : Hp) (C : Addr) (cl : List (Str × Addr)) (fp : List Addr), PTs (X.blk s H scope (compEnvC scope cl C X.env) fp) ifs (tC' (cnOf T k) X.K ca cc) := by
          intro s H C cl fp
          split at h6
          · exact ⟨fun pins s σ H Q I ⟨m, en, hh, Q', Xx, S, E, xp, w, p⟩ => pts_nil.run pins s σ H Q I (p m H true hh Ext.refl S (by unfold wpC at w; exact w))⟩
          · rename_i a f
            exact ⟨fun pins s σ H Q I ⟨m, en, hh, Q', Xx, S, E, xp, w, p⟩ => (pts_one (sndE a (c.blk _ _ scope C cl fp) h6).2).run pins s σ H Q I ⟨m, en, hh, _, Xx, S, E, xp, (by unfold wpC at w; exact w), fun m' H' d h' x S' q => tru_imp q fun b q => p m' H' b h' x S' q⟩⟩
          · cases h6
        have hsw := g3
        unfold swB at hsw
        simp only [Bool.and_eq_true, Bool.not_eq_true'] at hsw
        refine ps_imp (ps_setLc c.calm c.hnd (c.slot g1) (c.lcl g2) (sw_true hk' (c.lcl g2) hsw.1.2 hsw.2) ii (blkOk_by (by rw [c.hN, c.hsc]; exact h1)) ig ic ie fun v => nset_fold iter X.env v h2) fun D σ H ⟨m, en, hh, P, S, E, w, p⟩ => ?_
        unfold wpS at w
        refine lc_sound (all_mem h5) ⟨m, en, hh, _, P.ex, S, E, p.2.2.2.2, w, fun m1 v1 H1 d1 h1 x1 S1 r1 w1 => ?_⟩
        exact p.1 m1 _ H1 _ h1 x1 S1 ((E.mono x1).set r1 i) w1
    · cases h
  | par i j a b =>
    unfold ckS at h
    split at h
    · simp only [Bool.and_eq_true, Bool.not_eq_true'] at h
      obtain ⟨⟨⟨⟨⟨⟨⟨⟨⟨⟨⟨⟨⟨h1, h2⟩, h3⟩, h4⟩, h5⟩, h6⟩, h7⟩, h8⟩, h9⟩, h10⟩, h11⟩, h12⟩, h13⟩, h14⟩ := h
      refine ps_imp (ps_par c.calm c.hnd (c.slot h1) (c.slot h2) (of_decide_eq_true h3) (c.lcl h5) (c.lcl h6) (pa_cons (sndE a c h13).1 (pa_cons (sndE b c h14).1 pa_nil (star_cons _ _ _ h12)) (star_cons _ _ _ h11)) (sws_some hk' (c.lcl h5) (c.lcl h6) (of_decide_eq_true h4) h7 h9 h10 h11 h12) rfl) fun D σ H ⟨m, en, hh, P, S, E, w, p⟩ => ?_
      unfold wpS at w
      refine sub1 S E p.2.2.2.2 w fun m1 v1 H1 d1 h1 x1 S1 r1 w1 => sub1 S1 (E.mono x1) p.2.2.2.2 w1 fun m2 v2 H2 d2 h2 x2 S2 r2 w2 => ?_
      exact ⟨v1, v2, rfl, p.1 m2 _ H2 _ h2 (x1.trans x2) S2 (((E.mono (x1.trans x2)).set (r1.mono x2) i).set r2 j) w2⟩
    · cases h
  | par3 i j l a b cc =>
    unfold ckS at h
    split at h
    · simp only [Bool.and_eq_true, Bool.not_eq_true'] at h
      obtain ⟨⟨⟨⟨⟨⟨⟨⟨⟨⟨⟨⟨⟨⟨⟨h1, h2⟩, h2'⟩, h3⟩, h4⟩, h5⟩, h6⟩, h6'⟩, ⟨h7, h7'⟩⟩, h8⟩, h9⟩, h10⟩, ⟨⟨h11, h12⟩, h12'⟩⟩, h13⟩, h14⟩, h15⟩ := h
      obtain ⟨i1, i2, i3⟩ := of_decide_eq_true h3
      obtain ⟨n1, n2, n3⟩ := of_decide_eq_true h4
      refine ps_imp (ps_par3 c.calm c.hnd (c.slot h1) (c.slot h2) (c.slot h2') i1 i2 i3 (c.lcl h5) (c.lcl h6) (c.lcl h6') (pa_cons (sndE a c h13).1 (pa_cons (sndE b c h14).1 (pa_cons (sndE cc c h15).1 pa_nil (star_cons _ _ _ h12')) (star_cons _ _ _ h12)) (star_cons _ _ _ h11)) (sws_some3 hk' (c.lcl h5) (c.lcl h6) (c.lcl h6') n1 n2 n3 (beq_iff_eq.mp h7).symm (beq_iff_eq.mp h7').symm h9 h10 h11 h12 h12') rfl) fun D σ H ⟨m, en, hh, P, S, E, w, p⟩ => ?_
      unfold wpS at w
      refine sub1 S E p.2.2.2.2 w fun m1 v1 H1 d1 h1 x1 S1 r1 w1 => sub1 S1 (E.mono x1) p.2.2.2.2 w1 fun m2 v2 H2 d2 h2 x2 S2 r2 w2 => sub1 S2 (E.mono (x1.trans x2)) p.2.2.2.2 w2 fun m3 v3 H3 d3 h3 x3 S3 r3 w3 => ?_
      exact ⟨v1, v2, v3, rfl, p.1 m3 _ H3 _ h3 ((x1.trans x2).trans x3) S3 ((((E.mono ((x1.trans x2).trans x3)).set (r1.mono (x2.trans x3)) i).set (r2.mono x3) j).set r3 l) w3⟩
    · cases h
  | aug i o a =>
    unfold ckS at h
    split at h
    · simp only [Bool.and_eq_true] at h
      obtain ⟨⟨⟨h1, h2⟩, h3⟩, h4⟩ := h
      have ex := of_decide_eq_true h3
      subst ex
      obtain ⟨l1, l2⟩ := c.loc h2
      refine ps_imp (ps_aug c.hnd (c.slot h1) l1 (sndE a c h4).1 (ip_bo o) l2) fun D σ H ⟨m, en, hh, P, S, E, w, p⟩ => ?_
      unfold wpS at w
      obtain ⟨x, ex, w⟩ := w
      obtain ⟨v, ev, rv⟩ := E.at_ i x ex
      refine ⟨v, ev, sub1 S E p.2.2.2.2 w fun m1 v1 H1 d1 h1 x1 S1 r1 w1 => ?_⟩
      have rv1 := rv.mono x1
      have fin : ∀ {z : V} {d : Bp.D}, R X.K H1 m1 z d → P.nx (en.set i (some d)) h1 → D.nx (σ.set i (some z)) H1 := fun r q => p.1 m1 _ H1 _ h1 x1 S1 ((E.mono x1).set r i) q
      unfold wAug at w1
      split at w1
      · cases rv1; cases r1; exact .inl ⟨_, _, rfl, rfl, fin (.int _) w1⟩
      · cases rv1; cases r1; exact .inr ⟨_, _, rfl, rfl, lim _ w1.1, fin (.str _) w1.2⟩
      · cases rv1; cases r1; exact ⟨_, _, rfl, rfl, fin (.int _) w1⟩
      · cases rv1; cases r1; exact ⟨_, _, rfl, rfl, w1.1, fin (.int _) w1.2⟩
      · cases rv1; cases r1; exact ⟨_, _, rfl, rfl, w1.1, fin (.int _) w1.2⟩
      · cases rv1; cases r1; exact ⟨_, _, rfl, rfl, w1.1, fin (.int _) w1.2⟩
      · exact w1.elim
    · cases h
  | expr a =>
    unfold ckS at h
    split at h
    · simp only [Bool.and_eq_true] at h
      refine ps_imp (ps_expr (sndE a c h.2).1 (sw_plain h.1)) fun D σ H ⟨m, en, hh, P, S, E, w, p⟩ => ?_
      unfold wpS at w
      exact sub1 S E p.2.2.2.2 w fun m1 v1 H1 d1 h1 x1 S1 r1 w1 => p.1 m1 σ H1 en h1 x1 S1 (E.mono x1) w1
    · cases h
  | ret a =>
    unfold ckS at h
    split at h
    · refine ps_imp (ps_ret (sndE a c h).1) fun D σ H ⟨m, en, hh, P, S, E, w, p⟩ => ?_
      unfold wpS at w
      exact ⟨m, en, hh, P.rt, P.ex, S, E, p.2.2.2.2, w, p.2.1⟩
    · cases h
  | ite cc a b =>
    unfold ckS at h
    split at h
    · simp only [Bool.and_eq_true] at h
      refine ps_imp (ps_if (sndE cc c h.1.1).2 (sndSs a c hk hp h.1.2) (sndSs b c hk hp h.2)) fun D σ H ⟨m, en, hh, P, S, E, w, p⟩ => ?_
      unfold wpS wpT at w
      refine ⟨m, en, hh, _, P.ex, S, E, p.2.2.2.2, w, fun m' H' d h' x S' q => tru_imp q fun bb q => ?_⟩
      cases bb with
      | true => exact ⟨m', en, h', P, S', E.mono x, q, p.mono x⟩
      | false => exact ⟨m', en, h', P, S', E.mono x, q, p.mono x⟩
    · cases h
  | loop cc b =>
    unfold ckS at h
    split at h
    · simp only [Bool.and_eq_true] at h
      exact ps_imp (ps_while hp (sndE cc c h.1).2 (sndSs b c hk hp h.2)) fun D σ H q => while_sound q
    · cases h
  | each t it b =>
    unfold ckS at h
    split at h
    · simp only [Bool.and_eq_true] at h
      obtain ⟨⟨⟨h1, h2⟩, h3⟩, h4⟩ := h
      exact ps_imp (ps_for hp c.calm (sndI it c h2) (sndG t c h3) (sndSs b c hk hp h4) fun v => nset_fold _ X.env v h1) fun D σ H q => for_sound q
    · cases h
  | eachK t i b =>
    unfold ckS at h
    split at h
    · simp only [Bool.and_eq_true] at h
      obtain ⟨⟨h1, h2⟩, h3⟩ := h
      unfold ckE at h1
      simp only [Bool.and_eq_true, Bool.not_eq_true'] at h1
      exact ps_imp (ps_lock (ps_for hp c.calm (pi_keys (pe_var (c.slot h1.1.1.1) (c.vis h1.1.1.2) h1.1.2 h1.2)) (sndG t c h2) (sndSs b c hk hp h3) fun v => nset_fold _ X.env v rfl)) fun D σ H q => forK_sound q
    · cases h
  | brk =>
    unfold ckS at h
    split at h
    · refine ps_imp ps_break fun D σ H ⟨m, en, hh, P, S, E, w, p⟩ => ?_
      unfold wpS at w
      exact p.2.2.1 m σ H en hh Ext.refl S E w
    · cases h
  | cont =>
    unfold ckS at h
    split at h
    · refine ps_imp ps_continue fun D σ H ⟨m, en, hh, P, S, E, w, p⟩ => ?_
      unfold wpS at w
      exact p.2.2.2.1 m σ H en hh Ext.refl S E w
    · cases h
  | pass =>
    unfold ckS at h
    split at h
    · refine ps_imp ps_pass fun D σ H ⟨m, en, hh, P, S, E, w, p⟩ => ?_
      unfold wpS at w
      exact p.1 m σ H en hh Ext.refl S E w
    · cases h
theorem sndSs (a : Ss) {sts : List Stmt} (c : Ct T k ca N sc (fun _ => true) X) (hk : sc.kind = .function) (hp : PassesOwn (model X.prog X.w) X.A X.env X.xe) (h : ckSs a N sc sts = true) : PSs X sts (tSs (cnOf T k) X.K ca a) := by
  cases a with
  | nil =>
    unfold ckSs at h
    split at h
    · refine pss_imp pss_nil fun D σ H ⟨m, en, hh, P, S, E, w, p⟩ => ?_
      unfold wpSs at w
      exact p.1 m σ H en hh Ext.refl S E w
    · cases h
  | cons s r =>
    unfold ckSs at h
    split at h
    · rw [Bool.and_eq_true] at h
      refine pss_imp (pss_cons (sndS s c hk hp h.1) (sndSs r c hk hp h.2)) fun D σ H ⟨m, en, hh, P, S, E, w, p⟩ => ?_
      unfold wpSs at w
      exact ⟨m, en, hh, _, S, E, w, fun m1 σ1 H1 e1 h1 x1 S1 E1 w1 => ⟨m1, e1, h1, P, S1, E1, w1, p.mono x1⟩, p.2.1, p.2.2.1, p.2.2.2.1, p.2.2.2.2⟩
    · cases h
end
end
end Bp

namespace Bp
open PySem L2 PySem.Spec PyProof.Rows

/-- a def of the table as it stands behind the top -/
def FtOk (K : PySem.W.Frag) (mg : Str → Option Value) (f : Str) (F : Fn) : Prop :=
  ∃ (fa : Addr) (fd : FuncData) (st : Stmt), mg f = some (.ref fa) ∧ Fun K f f st fa fd ∧ L2.Binds K fd F.ps [] ∧ FnScope F.ns F.ps (defScope st) ∧ ckSs F.body F.ns (defScope st) (defBody st) = true
theorem lookup_mem {α : Type} {l : List (Str × α)} {f : Str} {x : α} (h : l.lookup f = some x) : (f, x) ∈ l := by
  induction l with
  | nil => cases h
  | cons p r ih =>
    obtain ⟨g, y⟩ := p
    rw [List.lookup_cons] at h
    cases hb : f == g with
    | true =>
      rw [hb] at h
      cases h
      rw [beq_iff_eq.mp hb]
      exact List.mem_cons_self
    | false =>
      rw [hb] at h
      exact List.mem_cons_of_mem _ (ih h)
section
variable {P : Program} {w : World} {K : PySem.W.Frag} {mg : Str → Option Value} {base : Heap} {T : Tb} {ca : Str → Option Addr}
theorem fn_step {k : Nat} {f : Str} {F : Fn} {fa : Addr} {fd : FuncData} {st : Stmt} (hB : ∀ x ∈ bnames, mg x = none) (hG : ∀ x d, T.gls.lookup x = some d → ∃ v u, mg x = some u ∧ RelV v u ∧ ∀ H m, R K H m v d) (hD : ∀ x kvs, T.tds.lookup x = some kvs → ∃ a, mg x = some (.ref a) ∧ TabAt K w a kvs)
    (ih : ∀ (f : Str) (F : Fn), T.fn f = some F → ∃ fa fd, mg f = some (.ref fa) ∧ PySem.W.keepIn K (.ref fa) = true ∧ L2.Binds K fd F.ps [] ∧ FnOk P w K mg base CX0 (2 * k) fa fd F.ps (spF K ca T k f))
    (hf : T.fn f = some F) (h2 : Fun K f f st fa fd) (h4 : FnScope F.ns F.ps (defScope st)) (h5 : ckSs F.body F.ns (defScope st) (defBody st) = true) : FnOk P w K mg base CX0 (2 * (k + 1)) fa fd F.ps (spF K ca T (k + 1) f) := by
  refine h2.ok (k := 2 * k + 1) h4 (fun vs H Q E ⟨F', m, h, ds, Q', X, hf', hl, _⟩ => ?_) (fun cdv A outer s H vs Q E hr hsp => ?_)
  · have : some F = some F' := hf.symm.trans hf'
    cases this
    exact hl
  · obtain ⟨F', m, h, ds, Q', Xx, hf', hl, S, rs, xp, q, p⟩ := hsp
    have e : some F = some F' := hf.symm.trans hf'
    cases e
    obtain ⟨F', hf'', hl2, q⟩ := q
    have e : some F = some F' := hf.symm.trans hf''
    cases e
    have ct : Ct T k ca F.ns (defScope st) (fun _ => true) (cxOf CX0 P w K mg base F.ns f (defScope st) fa cdv A outer s H E).nox :=
      ⟨rfl, rfl, h4.nd, rfl, hr, fun _ _ => rfl, hB, ih, hG, hD⟩
    refine ⟨_, sndSs F.body ct h4.kind PassesOwn.never h5, ?_⟩
    refine ⟨m, _, h, _, S, Er.start rs F.ns, q, fun m' σ' H' e' h' x S' _ q => p m' .non H' .non h' x S' .non q, p, fun _ _ _ _ _ _ _ _ z => z, fun _ _ _ _ _ _ _ _ z => z, xp⟩
theorem fns_ok (hF : ∀ p ∈ T.fns, FtOk K mg p.1 p.2) (hB : ∀ x ∈ bnames, mg x = none) (hG : ∀ x d, T.gls.lookup x = some d → ∃ v u, mg x = some u ∧ RelV v u ∧ ∀ H m, R K H m v d) (hD : ∀ x kvs, T.tds.lookup x = some kvs → ∃ a, mg x = some (.ref a) ∧ TabAt K w a kvs) :
    ∀ (k : Nat) (f : Str) (F : Fn), T.fn f = some F → ∃ fa fd, mg f = some (.ref fa) ∧ PySem.W.keepIn K (.ref fa) = true ∧ L2.Binds K fd F.ps [] ∧ FnOk P w K mg base CX0 (2 * k) fa fd F.ps (spF K ca T k f) := by
  intro k
  induction k with
  | zero =>
    intro f F hf
    obtain ⟨fa, fd, st, h1, h2, h3, h4, h5⟩ := hF _ (lookup_mem hf)
    refine ⟨fa, fd, h1, h2.kp, h3, ⟨fun vs H Q E ⟨F', m, h, ds, Q', X, hf', hl, _⟩ => ?_, fun A outer s H args us vs Q E _ _ _ _ ⟨F', m, h, ds, Q', X, hf', hl, _, _, _, q, _⟩ => q.elim⟩⟩
    have : some F = some F' := hf.symm.trans hf'
    cases this
    exact hl
  | succ k ih =>
    intro f F hf
    obtain ⟨fa, fd, st, h1, h2, h3, h4, h5⟩ := hF _ (lookup_mem hf)
    exact ⟨fa, fd, h1, h2.kp, h3, fn_step hB hG hD ih hf h2 h4 h5⟩
theorem law_fn {f : Str} {F : Fn} {fa : Addr} {fd : FuncData} {st : Stmt} (hF : ∀ p ∈ T.fns, FtOk K mg p.1 p.2) (hB : ∀ x ∈ bnames, mg x = none) (hG : ∀ x d, T.gls.lookup x = some d → ∃ v u, mg x = some u ∧ RelV v u ∧ ∀ H m, R K H m v d) (hD : ∀ x kvs, T.tds.lookup x = some kvs → ∃ a, mg x = some (.ref a) ∧ TabAt K w a kvs)
    (hf : T.fn f = some F) (h2 : Fun K f f st fa fd) (h4 : FnScope F.ns F.ps (defScope st)) (h5 : ckSs F.body F.ns (defScope st) (defBody st) = true) (k : Nat) : FnOk P w K mg base CX0 (2 * (k + 1)) fa fd F.ps (spF K ca T (k + 1) f) :=
  fn_step hB hG hD (fns_ok hF hB hG hD k) hf h2 h4 h5
/-- the script -/
theorem sm_script {H : Hp} {a : Addr} {ns : List Int} (hO : Only H) (hS : SqL K H a (ns.map V.int)) : Sm K ca H [a] [.rl (ns.map D.int)] := by
  refine ⟨rfl, fun n n' b o o' e1 e2 e3 e4 u1 u2 => ?_, fun n b o e1 e2 => ?_⟩
  · cases n with
    | zero => cases e3; cases u1
    | succ n => simp at e3
  · cases n with
    | zero =>
      cases e1; cases e2
      refine ⟨ns.map V.int, ?_, Rs.ints ns⟩
      rcases hS with (hS | ⟨o, hS⟩) | hS
      · rcases hO a with z | ⟨o, xs, z⟩
        · rw [z] at hS; cases hS
        · rw [z] at hS; cases hS
      · exact .inl ⟨o, hS⟩
      · exact .inr fun H' => .inr hS
    | succ n => simp at e2
/-- the law over its script -/
def LawOk (T : Tb) (k : Nat) : Prop := ∀ ns : List Int, ns.length ≤ 63 → (∀ z ∈ ns, Builtin.Int.intBits z ≤ 1048576) → FS T k "law" [.ref 0] [.rl (ns.map D.int)] (fun d _ => d = .bl true) (fun _ _ _ => False)
theorem law_sp {k : Nat} {F : Fn} (hf : T.fn "law" = some F) (h1 : F.ps.length = 1) (hl : LawOk T k) (H : Hp) (a : Addr) (ns : List Int) (hn : ns.length ≤ 63) (hb : ∀ z ∈ ns, Builtin.Int.intBits z ≤ 1048576) (hO : Only H) (hS : SqL K H a (ns.map V.int)) :
    spF K ca T k "law" [.ref a] H (fun v _ => v = .bl true) (fun _ _ _ => False) :=
  ⟨F, [a], _, [.ref 0], _, _, hf, h1.symm, sm_script hO hS, .cons (.ref rfl) .nil, fun _ _ _ z => z, hl ns hn hb, fun m' v H' d h' x S r q => by subst q; cases r; rfl⟩
end
end Bp

namespace Bp
open PySem L2

/-! ### rules for simp -/
section
variable {h : Hh} {Q : Qd} {i j : Int} {s z : Str} {a b : List D} {n m : Nat} {B : Bool → Prop} {d : D}
theorem b_add : wBo .add (.int i) (.int j) h Q = Q (.int (i + j)) h := rfl
theorem b_adds : wBo .add (.str s) (.str z) h Q = (s.length + z.length ≤ 100000 ∧ Q (.str (s ++ z)) h) := rfl
theorem b_addt : wBo .add (.tup a) (.tup b) h Q = (a.length + b.length ≤ 100000 ∧ Q (.tup (a ++ b)) h) := rfl
theorem b_addl : wBo .add (.ref n) (.ref m) h Q = (∃ xs ys, h[n]? = some (.lst xs) ∧ h[m]? = some (.lst ys) ∧ xs.length + ys.length ≤ 100000 ∧ Q (.ref h.length) (h ++ [.lst (xs ++ ys)])) := rfl
theorem b_sub : wBo .sub (.int i) (.int j) h Q = Q (.int (i - j)) h := rfl
theorem b_mul : wBo .mul (.int i) (.int j) h Q = ((CMul i j ∨ CMulW i j) ∧ Q (.int (i * j)) h) := rfl
theorem b_mull : wBo .mul (.ref n) (.int j) h Q = (∃ xs, h[n]? = some (.lst xs) ∧ -1000000 ≤ j ∧ j ≤ 1000000 ∧ xs.length * j.toNat ≤ 100000 ∧ Q (.ref h.length) (h ++ [.lst (List.replicate j.toNat xs).flatten])) := rfl
theorem b_fdiv : wBo .fdiv (.int i) (.int j) h Q = ((CDiv i j ∨ CDivW i j) ∧ Q (.int (i / j)) h) := rfl
theorem b_mod : wBo .mod (.int i) (.int j) h Q = (0 < j ∧ Q (.int (i % j)) h) := rfl
theorem b_pow : wBo .pow (.int i) (.int j) h Q = (CPow i j ∧ Q (.int (i ^ j.toNat)) h) := rfl
theorem b_xor : wBo .xor (.int i) (.int j) h Q = Q (.int (Builtin.bitXor i j)) h := rfl
theorem a_add : wAug .add (.int i) (.int j) h Q = Q (.int (i + j)) h := rfl
theorem a_adds : wAug .add (.str s) (.str z) h Q = (s.length + z.length ≤ 100000 ∧ Q (.str (s ++ z)) h) := rfl
theorem a_sub : wAug .sub (.int i) (.int j) h Q = Q (.int (i - j)) h := rfl
theorem e_ii : wEq (.int i) (.int j) h B = B (decide (i = j)) := rfl
theorem e_ss : wEq (.str s) (.str z) h B = B (decide (s = z)) := rfl
theorem e_bb {p q : Bool} : wEq (.bl p) (.bl q) h B = B (decide (p = q)) := rfl
theorem e_nn : wEq .non .non h B = B true := rfl
theorem e_ni : wEq .non (.int i) h B = B false := rfl
theorem e_in : wEq (.int i) .non h B = B false := rfl
theorem e_ns : wEq .non (.str s) h B = B false := rfl
theorem e_sn : wEq (.str s) .non h B = B false := rfl
theorem e_is : wEq (.int i) (.str s) h B = B false := rfl
theorem e_si : wEq (.str s) (.int i) h B = B false := rfl
theorem e_rr : wEq (.ref n) (.ref m) h B = (∃ p q, Pd h (.ref n) p ∧ Pd h (.ref m) q ∧ SeqAt.shaped p = true ∧ SeqAt.shaped q = true ∧ B (PyData.eqv p q)) := rfl
theorem e_tt : wEq (.tup a) (.tup b) h B = (∃ p q, Pd h (.tup a) p ∧ Pd h (.tup b) q ∧ SeqAt.shaped p = true ∧ SeqAt.shaped q = true ∧ B (PyData.eqv p q)) := rfl
theorem c_eq {e : D} : wCo .eq d e h B = wEq d e h B := rfl
theorem c_ne {e : D} : wCo .ne d e h B = wEq d e h fun b => B (!b) := rfl
theorem c_lt : wCo .lt (.int i) (.int j) h B = B (decide (i < j)) := rfl
theorem c_le : wCo .le (.int i) (.int j) h B = B (decide (i ≤ j)) := rfl
theorem c_gt : wCo .gt (.int i) (.int j) h B = B (decide (j < i)) := rfl
theorem c_ge : wCo .ge (.int i) (.int j) h B = B (decide (j ≤ i)) := rfl
theorem c_is0 : wCo .is .non .non h B = B true := rfl
theorem c_is1 : wCo .is (.int i) .non h B = B false := rfl
theorem c_is2 : wCo .is (.str s) .non h B = B false := rfl
theorem c_is3 : wCo .is (.tup a) .non h B = B false := rfl
theorem c_is4 : wCo .is (.ref n) .non h B = B false := rfl
theorem c_isn0 : wCo .isnot .non .non h B = B false := rfl
theorem c_isn1 : wCo .isnot (.int i) .non h B = B true := rfl
theorem c_isn2 : wCo .isnot (.str s) .non h B = B true := rfl
theorem c_isn3 : wCo .isnot (.tup a) .non h B = B true := rfl
theorem c_isn4 : wCo .isnot (.ref n) .non h B = B true := rfl
theorem c_in {e : D} : wCo .isin d e h B = wIn d e h B := rfl
theorem c_notin {e : D} : wCo .notin d e h B = wIn d e h fun b => B (!b) := rfl
theorem t_non : tru h .non B = B false := rfl
theorem t_bl {p : Bool} : tru h (.bl p) B = B p := rfl
theorem t_int : tru h (.int i) B = B (i != 0) := rfl
theorem t_str : tru h (.str s) B = (s.length ≤ 100000 ∧ B (s.length != 0)) := rfl
theorem t_tup : tru h (.tup a) B = B (!a.isEmpty) := rfl
theorem i_str : wIdx (.str s) d h Q = ∃ k c, d = .int k ∧ s.length ≤ 100000 ∧ atI s.cps.toList k = some c ∧ Q (.str ⟨#[c]⟩) h := rfl
theorem i_tup : wIdx (.tup a) d h Q = ∃ k v, d = .int k ∧ atI a k = some v ∧ Q v h := rfl
/-- by what stands at the address -/
def idxO (d : D) (h : Hh) (Q : Qd) : Option O → Prop
  | some (.lst ds) => ∃ k v, d = .int k ∧ atI ds k = some v ∧ Q v h
  | some (.rl ds) => ∃ k v, d = .int k ∧ atI ds k = some v ∧ Q v h
  | some (.dK kvs) => ∃ k v, keyOf d = some k ∧ getK kvs k = some v ∧ Q v h
  | some (.rd kvs) => ∃ k v, keyOf d = some k ∧ getK kvs k = some v ∧ Q v h
  | _ => False
theorem i_ref : wIdx (.ref n) d h Q = idxO d h Q h[n]? := by
  unfold wIdx idxO
  apply propext
  cases e : h[n]? with
  | none => simp [e]
  | some o => cases o <;> simp [e]
theorem io_lst : idxO d h Q (some (.lst a)) = ∃ k v, d = .int k ∧ atI a k = some v ∧ Q v h := rfl
theorem io_rl : idxO d h Q (some (.rl a)) = ∃ k v, d = .int k ∧ atI a k = some v ∧ Q v h := rfl
theorem io_dK {kvs : List (Key × D)} : idxO d h Q (some (.dK kvs)) = ∃ k v, keyOf d = some k ∧ getK kvs k = some v ∧ Q v h := rfl
def sliO (lo hi : Option Int) (h : Hh) (Q : Qd) : Option O → Prop
  | some (.lst ds) => Q (.ref h.length) (h ++ [.lst (cutD ds lo hi)])
  | some (.rl ds) => Q (.ref h.length) (h ++ [.lst (cutD ds lo hi)])
  | _ => False
theorem s_str {lo hi : Option Int} : wSli (.str s) lo hi h Q = (s.length ≤ 100000 ∧ Q (.str (cutS s lo hi)) h) := rfl
theorem s_tup {lo hi : Option Int} : wSli (.tup a) lo hi h Q = Q (.tup (cutD a lo hi)) h := rfl
theorem s_ref {lo hi : Option Int} : wSli (.ref n) lo hi h Q = sliO lo hi h Q h[n]? := by
  unfold wSli sliO
  apply propext
  cases e : h[n]? with
  | none => simp [e]
  | some o => cases o <;> simp [e]
theorem so_lst {lo hi : Option Int} : sliO lo hi h Q (some (.lst a)) = Q (.ref h.length) (h ++ [.lst (cutD a lo hi)]) := rfl
theorem so_rl {lo hi : Option Int} : sliO lo hi h Q (some (.rl a)) = Q (.ref h.length) (h ++ [.lst (cutD a lo hi)]) := rfl
theorem r_ref : wRev (.ref n) h Q = ∃ ds, h[n]? = some (.lst ds) ∧ Q (.ref h.length) (h ++ [.lst ds.reverse]) := rfl
theorem el_tup : elems h (.tup a) = some a := rfl
def elO : Option O → Option (List D)
  | some (.lst ds) => some ds
  | some (.rl ds) => some ds
  | _ => none
theorem el_ref : elems h (.ref n) = elO h[n]? := by
  cases e : h[n]? with
  | none => simp [elems, elO, e]
  | some o => cases o <;> simp [elems, elO, e]
theorem elo_lst : elO (some (.lst a)) = some a := rfl
theorem elo_rl : elO (some (.rl a)) = some a := rfl
theorem f_lens : wBi .len [.str s] h Q = (s.length ≤ 100000 ∧ Q (.int s.length) h) := rfl
theorem f_lent : wBi .len [.tup a] h Q = Q (.int a.length) h := by
  apply propext
  constructor
  · rintro (⟨ds, e, q⟩ | ⟨n, kvs, e, _⟩)
    · cases e; exact q
    · cases e
  · intro q; exact .inl ⟨a, rfl, q⟩
def lenO (h : Hh) (Q : Qd) : Option O → Prop
  | some (.lst ds) => Q (.int ds.length) h
  | some (.rl ds) => Q (.int ds.length) h
  | some (.dK kvs) => Q (.int kvs.length) h
  | _ => False
theorem f_lenr : wBi .len [.ref n] h Q = lenO h Q h[n]? := by
  show ((∃ ds, elems h (.ref n) = some ds ∧ Q (.int ds.length) h) ∨ ∃ m kvs, D.ref n = .ref m ∧ h[m]? = some (.dK kvs) ∧ Q (.int kvs.length) h) = _
  apply propext
  rw [el_ref]
  cases e : h[n]? with
  | none => simp [e, elO, lenO]
  | some o => cases o <;> simp [e, elO, lenO]
theorem lo_lst : lenO h Q (some (.lst a)) = Q (.int a.length) h := rfl
theorem lo_rl : lenO h Q (some (.rl a)) = Q (.int a.length) h := rfl
theorem lo_dK {kvs : List (Key × D)} : lenO h Q (some (.dK kvs)) = Q (.int kvs.length) h := rfl
theorem f_list : wBi .list [d] h Q = ∃ ds, elems h d = some ds ∧ Q (.ref h.length) (h ++ [.lst ds]) := rfl
theorem f_tuple : wBi .tuple [d] h Q = ∃ ds, elems h d = some ds ∧ Q (.tup ds) h := rfl
theorem f_divmod : wBi .divmod [.int i, .int j] h Q = (CDiv i j ∧ Q (.tup [.int (i / j), .int (i % j)]) h) := rfl
theorem f_abs : wBi .abs [.int i] h Q = Q (.int (if i < 0 then -i else i)) h := rfl
theorem f_inti : wBi .int [.int i] h Q = Q (.int i) h := rfl
theorem f_intb {p : Bool} : wBi .int [.bl p] h Q = Q (.int (if p then 1 else 0)) h := rfl
theorem f_booli : wBi .bool [.int i] h Q = Q (.bl (i != 0)) h := rfl
theorem f_boolb {p : Bool} : wBi .bool [.bl p] h Q = Q (.bl p) h := rfl
theorem f_max2 : wBi .max2 [.int i, .int j] h Q = Q (.int (if j > i then j else i)) h := rfl
theorem f_min2 : wBi .min2 [.int i, .int j] h Q = Q (.int (if j < i then j else i)) h := rfl
theorem f_all : wBi .all [.ref n] h Q = ∃ bs : List Bool, h[n]? = some (.lst (bs.map D.bl)) ∧ Q (.bl (bs.all id)) h := rfl
theorem f_any : wBi .any [.ref n] h Q = ∃ bs : List Bool, h[n]? = some (.lst (bs.map D.bl)) ∧ Q (.bl (bs.any id)) h := rfl
theorem f_sum : wBi .sum [.ref n] h Q = ∃ is : List Int, h[n]? = some (.lst (is.map D.int)) ∧ Q (.int is.sum) h := rfl
theorem f_str : wBi .str [.int i] h Q = (i.natAbs.log2 < 1920 ∧ Q (.str (toString i)) h) := rfl
theorem m_ty {mt : Mt} (hm : (match mt with | .get2 => false | _ => true) = true) : mtTy mt (.ref n) h = ∃ ds, h[n]? = some (.lst ds) := by cases mt <;> first | rfl | cases hm
theorem m_tyg : mtTy .get2 (.ref n) h = ∃ kvs, h[n]? = some (.dK kvs) := rfl
theorem m_append : wMt .append (.ref n) [d] h Q = ∃ xs, h[n]? = some (.lst xs) ∧ xs.length < 100000 ∧ Q .non (h.set n (.lst (xs ++ [d]))) := rfl
theorem m_extend : wMt .extend (.ref n) [.ref m] h Q = ∃ xs ys, h[n]? = some (.lst xs) ∧ h[m]? = some (.lst ys) ∧ xs.length + ys.length ≤ 100000 ∧ Q .non (h.set n (.lst (xs ++ ys))) := rfl
theorem m_pop : wMt .pop (.ref n) [] h Q = ∃ xs y, h[n]? = some (.lst xs) ∧ xs[xs.length - 1]? = some y ∧ Q y (h.set n (.lst xs.dropLast)) := rfl
theorem m_reverse : wMt .reverse (.ref n) [] h Q = ∃ xs, h[n]? = some (.lst xs) ∧ Q .non (h.set n (.lst xs.reverse)) := rfl
theorem m_clear : wMt .clear (.ref n) [] h Q = ∃ xs, h[n]? = some (.lst xs) ∧ Q .non (h.set n (.lst [])) := rfl
theorem m_insert : wMt .insert (.ref n) [.int i, d] h Q = ∃ xs, h[n]? = some (.lst xs) ∧ 0 ≤ i ∧ i ≤ xs.length ∧ xs.length < 100000 ∧ Q .non (h.set n (.lst (xs.take i.toNat ++ d :: xs.drop i.toNat))) := rfl
def srcO (n : Nat) (h : Hh) (R : Src → Hh → Prop) : Option O → Prop
  | some (.lst ds) => R ⟨ds, [(n, .lst ds)]⟩ h
  | some (.rl ds) => R ⟨ds, [(n, .rl ds)]⟩ h
  | _ => False
variable {R : Src → Hh → Prop}
theorem sr_tup : srcOf (.tup a) h R = R ⟨a, []⟩ h := rfl
theorem sr_str : srcOf (.str s) h R = R ⟨s.cps.toList.map fun c => D.str ⟨#[c]⟩, []⟩ h := rfl
theorem sr_ref : srcOf (.ref n) h R = srcO n h R h[n]? := by
  unfold srcOf srcO
  apply propext
  cases e : h[n]? with
  | none => simp [e]
  | some o => cases o <;> simp [e]
theorem sl_ref : srcL (.ref n) h R = srcO n h R h[n]? := by
  unfold srcL srcO
  apply propext
  cases e : h[n]? with
  | none => simp [e]
  | some o => cases o <;> simp [e]
theorem sro_lst : srcO n h R (some (.lst a)) = R ⟨a, [(n, .lst a)]⟩ h := rfl
theorem sro_rl : srcO n h R (some (.rl a)) = R ⟨a, [(n, .rl a)]⟩ h := rfl
theorem st_tup : srcT (.tup a) h R = R ⟨a, []⟩ h := rfl
theorem st_ref : srcT (.ref n) h R = False := rfl
theorem sl_tup : srcL (.tup a) h R = False := rfl
theorem ok_nil : Src.ok ⟨a, []⟩ h = True := by
  apply propext
  constructor
  · intro _; trivial
  · intro _ p hp; cases hp
theorem ok_one {o : O} : Src.ok ⟨a, [(n, o)]⟩ h = (h[n]? = some o) := by
  apply propext
  constructor
  · intro k; exact k (n, o) (by simp)
  · intro k p hp
    rw [List.mem_singleton.mp hp]
    exact k
theorem ok_two {o o' : O} : Src.ok ⟨a, [(n, o)] ++ [(m, o')]⟩ h = (h[n]? = some o ∧ h[m]? = some o') := by
  apply propext
  constructor
  · intro k; exact ⟨k (n, o) (by simp), k (m, o') (by simp)⟩
  · rintro ⟨k1, k2⟩ p hp
    simp at hp
    rcases hp with rfl | rfl
    · exact k1
    · exact k2
theorem ty_int : tyD h (.int i) = some .int := rfl
theorem ty_bl {p : Bool} : tyD h (.bl p) = some .bool := rfl
theorem ty_str : tyD h (.str s) = some .str := rfl
theorem ty_non : tyD h .non = some .non := rfl
theorem ty_tup : tyD h (.tup a) = some .tuple := rfl
theorem at_nat {α : Type} {xs : List α} {k : Nat} : atI xs (k : Int) = xs[k]? := by
  unfold atI ixN
  by_cases hk : k < xs.length
  · rw [if_pos (by omega), if_pos (by omega)]
    rfl
  · rw [if_pos (by omega), if_neg (by omega), List.getElem?_eq_none (by omega)]
    rfl
theorem at_lit {α : Type} {xs : List α} {k : Nat} : atI xs (no_index (@OfNat.ofNat Int k _)) = xs[k]? := at_nat
theorem ix_n {k : Nat} : ixN n (k : Int) = if k < n then some k else none := by
  unfold ixN
  by_cases hk : k < n
  · rw [if_pos (by omega), if_pos (by omega), if_pos hk]; rfl
  · rw [if_pos (by omega), if_neg (by omega), if_neg hk]
theorem ix_lit {k : Nat} : ixN n (no_index (@OfNat.ofNat Int k _)) = if k < n then some k else none := ix_n
def setO (n : Nat) (y d : D) (e : En) (h : Hh) (Q : En → Hh → Prop) : Option O → Prop
  | some (.lst xs) => ∃ k j, y = .int k ∧ ixN xs.length k = some j ∧ Q e (h.set n (.lst (xs.set j d)))
  | some (.dK kvs) => ∃ k, keyOf y = some k ∧ kvs.length < 100000 ∧ Q e (h.set n (.dK (putD kvs k d)))
  | _ => False
def subW (x y d : D) (e : En) (h : Hh) (Q : En → Hh → Prop) : Prop := ∃ n, x = .ref n ∧ setO n y d e h Q h[n]?
theorem g_sub {C : Cn} {o i : E} {X : Xq} {e : En} {Q : En → Hh → Prop} : wpG C (.sub o i) X d e h Q = wpE C o X e h fun x h1 => wpE C i X e h1 fun y h2 => subW x y d e h2 Q := by
  rw [wpG]
  congr 1
  funext x h1
  congr 1
  funext y h2
  unfold subW setO
  apply propext
  constructor
  · rintro ⟨n, rfl, ⟨xs, k, j, e1, e2, e3, q⟩ | ⟨kvs, k, e1, e2, e3, q⟩⟩
    · exact ⟨n, rfl, by rw [e1]; exact ⟨k, j, e2, e3, q⟩⟩
    · exact ⟨n, rfl, by rw [e1]; exact ⟨k, e2, e3, q⟩⟩
  · rintro ⟨n, rfl, q⟩
    refine ⟨n, rfl, ?_⟩
    cases e1 : h2[n]? with
    | none => rw [e1] at q; exact q.elim
    | some ob =>
      rw [e1] at q
      cases ob with
      | lst xs => obtain ⟨k, j, e2, e3, q⟩ := q; exact .inl ⟨xs, k, j, rfl, e2, e3, q⟩
      | dK kvs => obtain ⟨k, e2, e3, q⟩ := q; exact .inr ⟨kvs, k, rfl, e2, e3, q⟩
      | _ => exact q.elim
theorem sw_ref {y : D} {e : En} {Q : En → Hh → Prop} : subW (.ref n) y d e h Q = setO n y d e h Q h[n]? := by
  unfold subW
  apply propext
  constructor
  · rintro ⟨m, e, q⟩; cases e; exact q
  · intro q; exact ⟨n, rfl, q⟩
theorem se_lst {y : D} {e : En} {Q : En → Hh → Prop} : setO n y d e h Q (some (.lst a)) = ∃ k j, y = .int k ∧ ixN a.length k = some j ∧ Q e (h.set n (.lst (a.set j d))) := rfl
theorem se_dK {y : D} {e : En} {Q : En → Hh → Prop} {kvs : List (Key × D)} : setO n y d e h Q (some (.dK kvs)) = ∃ k, keyOf y = some k ∧ kvs.length < 100000 ∧ Q e (h.set n (.dK (putD kvs k d))) := rfl
theorem g_nm {C : Cn} {X : Xq} {e : En} {Q : En → Hh → Prop} : wpG C (.nm n) X d e h Q = Q (e.set n (some d)) h := by rw [wpG]
theorem g_tp {C : Cn} {X : Xq} {e : En} {Q : En → Hh → Prop} {ts : Tgs} : wpG C (.tp ts) X d e h Q = ∃ ds, elems h d = some ds ∧ ds.length = tgsLen ts ∧ wpGs C ts X ds e h Q := by rw [wpG]
theorem ss_cons {C : Cn} {s : S} {r : Ss} {e : En} {P : Po} : wpSs C (.cons s r) e h P = wpS C s e h { P with nx := fun e1 h1 => wpSs C r e1 h1 P } := by rw [wpSs]
theorem ss_nil {C : Cn} {e : En} {P : Po} : wpSs C .nil e h P = P.nx e h := by rw [wpSs]
theorem cn_fs {T : Tb} {k : Nat} : (cnOf T k).fs = FS T k := rfl
theorem cn_isf {T : Tb} {k : Nat} {f : Str} {F : Fn} (hT : T.fn f = some F) : (cnOf T k).isf f = true := by
  show (T.fn f).isSome = true
  rw [hT]; rfl
end
end Bp

namespace Bp
open PySem L2

section
variable {h : Hh} {Q Q' : Qd} {B B' : Bool → Prop}
theorem wBo_mono {o : Bo} {x y : D} (i : ∀ d h, Q d h → Q' d h) (w : wBo o x y h Q) : wBo o x y h Q' := by
  unfold wBo at w ⊢
  split at w
  all_goals first
    | exact i _ _ w
    | exact ⟨w.1, i _ _ w.2⟩
    | (obtain ⟨xs, ys, a, b, c, q⟩ := w; exact ⟨xs, ys, a, b, c, i _ _ q⟩)
    | (obtain ⟨xs, a, b, c, d, q⟩ := w; exact ⟨xs, a, b, c, d, i _ _ q⟩)
    | exact w.elim
theorem wAug_mono {o : Bo} {x y : D} (i : ∀ d h, Q d h → Q' d h) (w : wAug o x y h Q) : wAug o x y h Q' := by
  unfold wAug at w ⊢
  split at w
  all_goals first
    | exact i _ _ w
    | exact ⟨w.1, i _ _ w.2⟩
    | exact w.elim
theorem wEq_mono {x y : D} (i : ∀ b, B b → B' b) (w : wEq x y h B) : wEq x y h B' := by
  unfold wEq at w ⊢
  split at w
  all_goals first
    | exact i _ w
    | (obtain ⟨p, q, a, b, c, d, e⟩ := w; exact ⟨p, q, a, b, c, d, i _ e⟩)
theorem wIn_mono {x y : D} (i : ∀ b, B b → B' b) (w : wIn x y h B) : wIn x y h B' := by
  unfold wIn at w ⊢
  split at w
  · obtain ⟨s, e, q⟩ := w; exact ⟨s, e, i _ q⟩
  · exact ⟨w.1, w.2.1, i _ w.2.2⟩
  · rcases w with ⟨ds, a, b, c, q⟩ | ⟨kvs, k, a, b, q⟩
    · exact .inl ⟨ds, a, b, c, i _ q⟩
    · exact .inr ⟨kvs, k, a, b, i _ q⟩
  · exact w.elim
theorem wCo_mono {o : Co} {x y : D} (i : ∀ b, B b → B' b) (w : wCo o x y h B) : wCo o x y h B' := by
  unfold wCo at w ⊢
  split at w
  all_goals first
    | exact wEq_mono i w
    | exact wEq_mono (fun b => i _) w
    | exact wIn_mono i w
    | exact wIn_mono (fun b => i _) w
    | exact i _ w
    | exact w.elim
theorem tru_mono {x : D} (i : ∀ b, B b → B' b) (w : tru h x B) : tru h x B' := by
  cases x with
  | non => exact i _ w
  | bl b => exact i _ w
  | int _ => exact i _ w
  | str s => exact ⟨w.1, i _ w.2⟩
  | tup ds => exact i _ w
  | ref n =>
    rcases w with ⟨ds, e1, q⟩ | ⟨ds, e1, q⟩ | ⟨kvs, e1, q⟩
    · exact .inl ⟨ds, e1, i _ q⟩
    · exact .inr (.inl ⟨ds, e1, i _ q⟩)
    · exact .inr (.inr ⟨kvs, e1, i _ q⟩)
theorem wIdx_mono {x y : D} (i : ∀ d h, Q d h → Q' d h) (w : wIdx x y h Q) : wIdx x y h Q' := by
  unfold wIdx at w ⊢
  split at w
  · obtain ⟨k, c, a, b, e, q⟩ := w; exact ⟨k, c, a, b, e, i _ _ q⟩
  · obtain ⟨k, v, a, b, q⟩ := w; exact ⟨k, v, a, b, i _ _ q⟩
  · rcases w with ⟨ds, k, v, a, b, c, q⟩ | ⟨kvs, k, v, a, b, c, q⟩
    · exact .inl ⟨ds, k, v, a, b, c, i _ _ q⟩
    · exact .inr ⟨kvs, k, v, a, b, c, i _ _ q⟩
  · exact w.elim
theorem wSli_mono {x : D} {lo hi : Option Int} (i : ∀ d h, Q d h → Q' d h) (w : wSli x lo hi h Q) : wSli x lo hi h Q' := by
  unfold wSli at w ⊢
  split at w
  · exact ⟨w.1, i _ _ w.2⟩
  · exact i _ _ w
  · obtain ⟨ds, a, q⟩ := w; exact ⟨ds, a, i _ _ q⟩
  · exact w.elim
theorem wRev_mono {x : D} (i : ∀ d h, Q d h → Q' d h) (w : wRev x h Q) : wRev x h Q' := by
  unfold wRev at w ⊢
  split at w
  · obtain ⟨ds, a, q⟩ := w; exact ⟨ds, a, i _ _ q⟩
  · exact w.elim
theorem wBi_mono {b : Bi} {xs : List D} (i : ∀ d h, Q d h → Q' d h) (w : wBi b xs h Q) : wBi b xs h Q' := by
  unfold wBi at w ⊢
  split at w
  all_goals first
    | exact i _ _ w
    | exact ⟨w.1, i _ _ w.2⟩
    | (rcases w with ⟨ds, a, q⟩ | ⟨n, kvs, a, c, q⟩
       · exact .inl ⟨ds, a, i _ _ q⟩
       · exact .inr ⟨n, kvs, a, c, i _ _ q⟩)
    | (obtain ⟨ds, a, q⟩ := w; exact ⟨ds, a, i _ _ q⟩)
    | (obtain ⟨ds, a, b, q⟩ := w; exact ⟨ds, a, b, fun m h1 h2 => i _ _ (q m h1 h2)⟩)
    | exact w.elim
theorem wMt_mono {m : Mt} {x : D} {xs : List D} (i : ∀ d h, Q d h → Q' d h) (w : wMt m x xs h Q) : wMt m x xs h Q' := by
  unfold wMt at w ⊢
  split at w
  · obtain ⟨xs, a, b, q⟩ := w; exact ⟨xs, a, b, i _ _ q⟩
  · obtain ⟨xs, ys, a, b, c, q⟩ := w; exact ⟨xs, ys, a, b, c, i _ _ q⟩
  · obtain ⟨xs, y, a, b, q⟩ := w; exact ⟨xs, y, a, b, i _ _ q⟩
  · obtain ⟨xs, k, y, a, b, c, d, e, q⟩ := w; exact ⟨xs, k, y, a, b, c, d, e, i _ _ q⟩
  · obtain ⟨xs, a, q⟩ := w; exact ⟨xs, a, i _ _ q⟩
  · obtain ⟨xs, a, q⟩ := w; exact ⟨xs, a, i _ _ q⟩
  · obtain ⟨xs, a, b, c, d, q⟩ := w; exact ⟨xs, a, b, c, d, i _ _ q⟩
  · obtain ⟨kvs, key, a, b, q⟩ := w; exact ⟨kvs, key, a, b, i _ _ q⟩
  · exact w.elim
variable {S S' : Src → Hh → Prop}
theorem srcL_mono {x : D} (i : ∀ s h, S s h → S' s h) (w : srcL x h S) : srcL x h S' := by
  unfold srcL at w ⊢
  split at w
  · rcases w with ⟨ds, a, q⟩ | ⟨ds, a, q⟩
    · exact .inl ⟨ds, a, i _ _ q⟩
    · exact .inr ⟨ds, a, i _ _ q⟩
  · exact w.elim
theorem srcT_mono {x : D} (i : ∀ s h, S s h → S' s h) (w : srcT x h S) : srcT x h S' := by
  unfold srcT at w ⊢
  split at w
  · exact i _ _ w
  · exact w.elim
theorem srcOf_mono {x : D} (i : ∀ s h, S s h → S' s h) (w : srcOf x h S) : srcOf x h S' := by
  unfold srcOf at w ⊢
  split at w
  · exact i _ _ w
  · exact i _ _ w
  · rcases w with ⟨ds, a, q⟩ | ⟨ds, a, q⟩
    · exact .inl ⟨ds, a, i _ _ q⟩
    · exact .inr ⟨ds, a, i _ _ q⟩
  · exact w.elim
theorem srcZ_mono {x y : D} (i : ∀ s h, S s h → S' s h) (w : srcZ x y h S) : srcZ x y h S' := by
  rcases w with w | w
  · exact .inl (srcL_mono (fun s h w => srcL_mono (fun s' h' w => i _ _ w) w) w)
  · exact .inr (srcT_mono (fun s h w => srcT_mono (fun s' h' w => i _ _ w) w) w)
theorem srcR_mono {x : D} (i : ∀ s h, S s h → S' s h) (w : srcR x h S) : srcR x h S' := by
  rcases w with w | w
  · exact .inl (srcL_mono (fun s h w => i _ _ w) w)
  · exact .inr (srcT_mono (fun s h w => i _ _ w) w)
end
theorem forW_mono {G : Hh → Prop} {t t' : D → En → Hh → (En → Hh → Prop) → Prop} {d d' : En → Hh → Prop} (ht : ∀ x e h k k', (∀ e h, k e h → k' e h) → t x e h k → t' x e h k') (hd : ∀ e h, d e h → d' e h) : ∀ (ds : List D) (e : En) (h : Hh), forW G t d ds e h → forW G t' d' ds e h
  | [], e, h, w => ⟨w.1, hd e h w.2⟩
  | x :: xs, e, h, w => ⟨w.1, ht x e h _ _ (fun e h => forW_mono ht hd xs e h) w.2⟩
theorem compW_mono {G : Hh → Prop} {p : Nat} {t t' : D → Hh → (Option D → Hh → Prop) → Prop} {d d' : Hh → Prop} (ht : ∀ x h k k', (∀ r h, k r h → k' r h) → t x h k → t' x h k') (hd : ∀ h, d h → d' h) : ∀ (ds : List D) (h : Hh), compW G p t d ds h → compW G p t' d' ds h
  | [], h, w => ⟨w.1, hd h w.2⟩
  | x :: xs, h, w => by
    refine ⟨w.1, ht x h _ _ (fun r h q => ?_) w.2⟩
    cases r with
    | none => exact compW_mono ht hd xs h q
    | some y =>
      obtain ⟨acc, a, b, q⟩ := q
      exact ⟨acc, a, b, compW_mono ht hd xs _ q⟩
def Cn.Mono (C : Cn) : Prop := ∀ f ds h (Q Q' : Qd) (X X' : Xq), (∀ d h, Q d h → Q' d h) → (∀ c r h, X c r h → X' c r h) → C.fs f ds h Q X → C.fs f ds h Q' X'
section
variable {C : Cn} (hC : C.Mono)
include hC
mutual
theorem monoE (a : E) {X X' : Xq} {e : En} {h : Hh} {Q Q' : Qd} (hX : ∀ c r h, X c r h → X' c r h) (hQ : ∀ d h, Q d h → Q' d h) (w : wpE C a X e h Q) : wpE C a X' e h Q' := by
  cases a with
  | var i => rw [wpE] at w ⊢; obtain ⟨d, a, q⟩ := w; exact ⟨d, a, hQ _ _ q⟩
  | non => rw [wpE] at w ⊢; exact hQ _ _ w
  | bl b => rw [wpE] at w ⊢; exact hQ _ _ w
  | int i => rw [wpE] at w ⊢; exact hQ _ _ w
  | str s => rw [wpE] at w ⊢; exact hQ _ _ w
  | glob x => rw [wpE] at w ⊢; obtain ⟨d, a, q⟩ := w; exact ⟨d, a, hQ _ _ q⟩
  | bin o a b => rw [wpE] at w ⊢; exact monoE a hX (fun x h1 w => monoE b hX (fun y h2 w => wBo_mono hQ w) w) w
  | neg a => rw [wpE] at w ⊢; exact monoE a hX (fun x h1 ⟨i, e, q⟩ => ⟨i, e, hQ _ _ q⟩) w
  | not a => rw [wpE] at w ⊢; exact monoE a hX (fun x h1 w => tru_mono (fun b => hQ _ _) w) w
  | bop k es => rw [wpE] at w ⊢; exact monoB k es hX hQ w
  | cmp o a b => rw [wpE] at w ⊢; exact monoE a hX (fun x h1 w => monoE b hX (fun y h2 w => wCo_mono (fun b => hQ _ _) w) w) w
  | cmp2 o o' a b c =>
    rw [wpE] at w ⊢
    refine monoE a hX (fun x h1 w => monoE b hX (fun y h2 w => wCo_mono (fun r w => ?_) w) w) w
    split at w
    · rw [if_pos (by assumption)]; exact monoE c hX (fun z h3 w => wCo_mono (fun b => hQ _ _) w) w
    · rw [if_neg (by assumption)]; exact hQ _ _ w
  | ite c a b =>
    rw [wpE] at w ⊢
    refine monoE c hX (fun x h1 w => tru_mono (fun r w => ?_) w) w
    split at w
    · rw [if_pos (by assumption)]; exact monoE a hX hQ w
    · rw [if_neg (by assumption)]; exact monoE b hX hQ w
  | tup es => rw [wpE] at w ⊢; exact monoEs es hX (fun ds h1 w => ⟨w.1, hQ _ _ w.2⟩) w
  | lst es => rw [wpE] at w ⊢; exact monoEs es hX (fun ds h1 w => ⟨w.1, hQ _ _ w.2⟩) w
  | dct kvs => rw [wpE] at w ⊢; exact monoEs kvs hX (fun ds h1 w => by obtain ⟨g, ps, e1, l1, q⟩ := w; exact ⟨g, ps, e1, l1, hQ _ _ q⟩) w
  | tab x i => rw [wpE] at w ⊢; obtain ⟨kvs, e1, w⟩ := w; exact ⟨kvs, e1, monoE i hX (fun y h1 w => by obtain ⟨z, v, e2, e3, q⟩ := w; exact ⟨z, v, e2, e3, hQ _ _ q⟩) w⟩
  | tabG x i d => rw [wpE] at w ⊢; obtain ⟨kvs, e1, w⟩ := w; exact ⟨kvs, e1, monoE i hX (fun y h1 w => monoE d hX (fun u h2 w => by obtain ⟨z, e2, q⟩ := w; exact ⟨z, e2, hQ _ _ q⟩) w) w⟩
  | tabIn neg x i => rw [wpE] at w ⊢; obtain ⟨kvs, e1, w⟩ := w; exact ⟨kvs, e1, monoE i hX (fun y h1 w => by obtain ⟨z, e2, q⟩ := w; exact ⟨z, e2, hQ _ _ q⟩) w⟩
  | idx a i => rw [wpE] at w ⊢; exact monoE a hX (fun x h1 w => monoE i hX (fun y h2 w => wIdx_mono hQ w) w) w
  | sli a lo hi => rw [wpE] at w ⊢; exact monoE a hX (fun x h1 w => monoO lo hX (fun l h2 w => monoO hi hX (fun u h3 w => wSli_mono hQ w) w) w) w
  | rev a => rw [wpE] at w ⊢; exact monoE a hX (fun x h1 w => wRev_mono hQ w) w
  | call f es => rw [wpE] at w ⊢; exact ⟨w.1, monoEs es hX (fun ds h1 w => hC f ds h1 _ _ _ _ hQ hX w) w.2⟩
  | bi b es => rw [wpE] at w ⊢; exact monoEs es hX (fun ds h1 w => wBi_mono hQ w) w
  | rng k a b =>
    rw [wpE] at w ⊢
    refine monoE a hX (fun x h1 w => monoE b hX (fun y h2 w => ?_) w) w
    obtain ⟨i, j, e1, e2, bb, q⟩ := w
    refine ⟨i, j, e1, e2, bb, ?_⟩
    split at q
    · rw [if_pos (by assumption)]; exact hQ _ _ q
    · rw [if_neg (by assumption)]; exact hQ _ _ q
  | mt m o es => rw [wpE] at w ⊢; exact monoE o hX (fun x h1 w => ⟨w.1, monoEs es hX (fun ds h2 w => wMt_mono hQ w) w.2⟩) w
  | isi a ts => rw [wpE] at w ⊢; exact monoE a hX (fun x h1 ⟨t, e, q⟩ => ⟨t, e, hQ _ _ q⟩) w
  | comp elt t it c own =>
    rw [wpE] at w ⊢
    refine monoI it hX (fun s h1 w => compW_mono (fun x h k k' hk w => ?_) (fun h => hQ _ _) _ _ w) w
    refine monoG t (fun _ _ _ z => z) (fun e3 h3 w => monoC c (fun _ _ _ z => z) (fun r h4 w => ?_) w) w
    split at w
    · rw [if_pos (by assumption)]; exact monoE elt (fun _ _ _ z => z) (fun y h5 => hk _ _) w
    · rw [if_neg (by assumption)]; exact hk _ _ w
theorem monoB (k : Bool) (a : Es) {X X' : Xq} {e : En} {h : Hh} {Q Q' : Qd} (hX : ∀ c r h, X c r h → X' c r h) (hQ : ∀ d h, Q d h → Q' d h) (w : wpB C k a X e h Q) : wpB C k a X' e h Q' := by
  cases a with
  | nil => rw [wpB] at w; exact w.elim
  | cons a r =>
    cases r with
    | nil => rw [wpB] at w ⊢; exact monoE a hX hQ w
    | cons b r =>
      rw [wpB] at w ⊢
      refine monoE a hX (fun x h1 w => tru_mono (fun t w => ?_) w) w
      split at w
      · rw [if_pos (by assumption)]; exact monoB k (.cons b r) hX hQ w
      · rw [if_neg (by assumption)]; exact hQ _ _ w
theorem monoEs (a : Es) {X X' : Xq} {e : En} {h : Hh} {Q Q' : List D → Hh → Prop} (hX : ∀ c r h, X c r h → X' c r h) (hQ : ∀ d h, Q d h → Q' d h) (w : wpEs C a X e h Q) : wpEs C a X' e h Q' := by
  cases a with
  | nil => rw [wpEs] at w ⊢; exact hQ _ _ w
  | cons a r => rw [wpEs] at w ⊢; exact monoE a hX (fun x h1 w => monoEs r hX (fun xs h2 => hQ _ _) w) w
theorem monoO (a : Oe) {X X' : Xq} {e : En} {h : Hh} {Q Q' : Option Int → Hh → Prop} (hX : ∀ c r h, X c r h → X' c r h) (hQ : ∀ d h, Q d h → Q' d h) (w : wpO C a X e h Q) : wpO C a X' e h Q' := by
  cases a with
  | none => rw [wpO] at w ⊢; exact hQ _ _ w
  | some a => rw [wpO] at w ⊢; exact monoE a hX (fun x h1 ⟨i, e, q⟩ => ⟨i, e, hQ _ _ q⟩) w
theorem monoC (a : Oe) {X X' : Xq} {e : En} {h : Hh} {Q Q' : Bool → Hh → Prop} (hX : ∀ c r h, X c r h → X' c r h) (hQ : ∀ d h, Q d h → Q' d h) (w : wpC C a X e h Q) : wpC C a X' e h Q' := by
  cases a with
  | none => rw [wpC] at w ⊢; exact hQ _ _ w
  | some a => rw [wpC] at w ⊢; exact monoE a hX (fun x h1 w => tru_mono (fun b => hQ _ _) w) w
theorem monoI (a : Iv) {X X' : Xq} {e : En} {h : Hh} {Q Q' : Src → Hh → Prop} (hX : ∀ c r h, X c r h → X' c r h) (hQ : ∀ d h, Q d h → Q' d h) (w : wpI C a X e h Q) : wpI C a X' e h Q' := by
  cases a with
  | seq a => rw [wpI] at w ⊢; exact monoE a hX (fun x h1 w => srcOf_mono hQ w) w
  | rng1 a => rw [wpI] at w ⊢; exact monoE a hX (fun x h1 ⟨j, e, b1, b2, q⟩ => ⟨j, e, b1, b2, hQ _ _ q⟩) w
  | rng2 a b => rw [wpI] at w ⊢; exact monoE a hX (fun x h1 w => monoE b hX (fun y h2 ⟨i, j, e1, e2, b, q⟩ => ⟨i, j, e1, e2, b, hQ _ _ q⟩) w) w
  | enu a => rw [wpI] at w ⊢; exact monoE a hX (fun x h1 w => srcL_mono (fun s h2 => hQ _ _) w) w
  | zip a b => rw [wpI] at w ⊢; exact monoE a hX (fun x h1 w => monoE b hX (fun y h2 w => srcZ_mono hQ w) w) w
  | rvs a => rw [wpI] at w ⊢; exact monoE a hX (fun x h1 w => srcR_mono hQ w) w
  | keys i => rw [wpI] at w; obtain ⟨n, kvs, e1, e2, q⟩ := w; exact q.elim
theorem monoG (a : Tg) {X X' : Xq} {d : D} {e : En} {h : Hh} {Q Q' : En → Hh → Prop} (hX : ∀ c r h, X c r h → X' c r h) (hQ : ∀ d h, Q d h → Q' d h) (w : wpG C a X d e h Q) : wpG C a X' d e h Q' := by
  cases a with
  | nm i => rw [wpG] at w ⊢; exact hQ _ _ w
  | tp ts => rw [wpG] at w ⊢; obtain ⟨ds, a, b, w⟩ := w; exact ⟨ds, a, b, monoGs ts hX hQ w⟩
  | sub o i =>
    rw [wpG] at w ⊢
    refine monoE o hX (fun x h1 w => monoE i hX (fun y h2 w => ?_) w) w
    obtain ⟨n, a, ⟨xs, k, j, e1, e2, e3, q⟩ | ⟨kvs, k, e1, e2, e3, q⟩⟩ := w
    · exact ⟨n, a, .inl ⟨xs, k, j, e1, e2, e3, hQ _ _ q⟩⟩
    · exact ⟨n, a, .inr ⟨kvs, k, e1, e2, e3, hQ _ _ q⟩⟩
theorem monoGs (a : Tgs) {X X' : Xq} {ds : List D} {e : En} {h : Hh} {Q Q' : En → Hh → Prop} (hX : ∀ c r h, X c r h → X' c r h) (hQ : ∀ d h, Q d h → Q' d h) (w : wpGs C a X ds e h Q) : wpGs C a X' ds e h Q' := by
  cases a with
  | nil => rw [wpGs] at w ⊢; exact ⟨w.1, hQ _ _ w.2⟩
  | cons t ts => rw [wpGs] at w ⊢; obtain ⟨d, r, a, w⟩ := w; exact ⟨d, r, a, monoG t hX (fun e1 h1 w => monoGs ts hX hQ w) w⟩
end
structure Po.Le (P P' : Po) : Prop where
  nx : ∀ e h, P.nx e h → P'.nx e h
  rt : ∀ d h, P.rt d h → P'.rt d h
  bk : ∀ e h, P.bk e h → P'.bk e h
  ct : ∀ e h, P.ct e h → P'.ct e h
  ex : ∀ c r h, P.ex c r h → P'.ex c r h
mutual
theorem monoS (a : S) {e : En} {h : Hh} {P P' : Po} (w : wpS C a e h P) (l : Po.Le P P') : wpS C a e h P' := by
  cases a with
  | asg t a => rw [wpS] at w ⊢; exact monoE hC a l.ex (fun x h1 w => monoG hC t l.ex l.nx w) w
  | setc i elt t it c own => rw [wpS] at w ⊢; exact monoE hC _ l.ex (fun x h1 => l.nx _ _) w
  | par i j a b => rw [wpS] at w ⊢; exact monoE hC a l.ex (fun x h1 w => monoE hC b l.ex (fun y h2 => l.nx _ _) w) w
  | par3 i j m a b c => rw [wpS] at w ⊢; exact monoE hC a l.ex (fun x h1 w => monoE hC b l.ex (fun y h2 w => monoE hC c l.ex (fun z h3 => l.nx _ _) w) w) w
  | aug i o a => rw [wpS] at w ⊢; obtain ⟨x, e1, w⟩ := w; exact ⟨x, e1, monoE hC a l.ex (fun y h1 w => wAug_mono (fun z h2 => l.nx _ _) w) w⟩
  | expr a => rw [wpS] at w ⊢; exact monoE hC a l.ex (fun x h1 => l.nx _ _) w
  | ret a => rw [wpS] at w ⊢; exact monoE hC a l.ex l.rt w
  | ite c a b =>
    rw [wpS] at w ⊢
    refine monoE hC c l.ex (fun x h1 w => tru_mono (fun r w => ?_) w) w
    dsimp only at w ⊢
    split at w
    · rw [if_pos (by assumption)]; exact monoSs a w l
    · rw [if_neg (by assumption)]; exact monoSs b w l
  | loop c b =>
    rw [wpS] at w ⊢
    obtain ⟨W, w0, t⟩ := w
    refine ⟨W, w0, fun m e h hw => monoE hC c l.ex (fun x h1 w => tru_mono (fun r w => ?_) w) (t m e h hw)⟩
    dsimp only at w ⊢
    split at w
    · rw [if_pos (by assumption)]; exact monoSs b w ⟨fun _ _ z => z, l.rt, l.nx, fun _ _ z => z, l.ex⟩
    · rw [if_neg (by assumption)]; exact l.nx _ _ w
  | each t it b =>
    rw [wpS] at w ⊢
    refine monoI hC it l.ex (fun s h1 w => ?_) w
    refine forW_mono (fun x e h k k' hk w => ?_) l.nx _ _ _ w
    refine monoG hC t l.ex (fun e3 h3 w => ?_) w
    exact monoSs b w ⟨hk, l.rt, l.nx, hk, l.ex⟩
  | eachK t i b =>
    rw [wpS] at w ⊢
    obtain ⟨n, kvs, e1, e2, w⟩ := w
    refine ⟨n, kvs, e1, e2, ?_⟩
    refine forW_mono (fun x e h k k' hk w => ?_) (fun e h q => l.nx _ _ q) _ _ _ w
    refine monoG hC t l.ex (fun e3 h3 w => ?_) w
    exact monoSs b w ⟨hk, fun d h q => ⟨q.1, l.rt _ _ q.2⟩, fun e h q => ⟨q.1, l.nx _ _ q.2⟩, hk, l.ex⟩
  | brk => rw [wpS] at w ⊢; exact l.bk _ _ w
  | cont => rw [wpS] at w ⊢; exact l.ct _ _ w
  | pass => rw [wpS] at w ⊢; exact l.nx _ _ w
theorem monoSs (a : Ss) {e : En} {h : Hh} {P P' : Po} (w : wpSs C a e h P) (l : Po.Le P P') : wpSs C a e h P' := by
  cases a with
  | nil => rw [wpSs] at w ⊢; exact l.nx _ _ w
  | cons s r => rw [wpSs] at w ⊢; exact monoS s w ⟨fun e1 h1 w => monoSs r w l, l.rt, l.bk, l.ct, l.ex⟩
end
end
theorem mono_cn (T : Tb) : ∀ k, (cnOf T k).Mono
  | 0 => fun _ _ _ _ _ _ _ _ _ w => w.elim
  | k + 1 => fun f ds h Q Q' X X' hQ hX w => by
    obtain ⟨F, hf, hl, w⟩ := w
    exact ⟨F, hf, hl, monoSs (mono_cn T k) F.body w ⟨fun _ h => hQ _ _, hQ, fun _ _ z => z, fun _ _ z => z, hX⟩⟩
theorem fs_mono {T : Tb} {k : Nat} {f : Str} {ds : List D} {h : Hh} {Q Q' : Qd} {X : Xq} (w : FS T k f ds h Q X) (hQ : ∀ d h, Q d h → Q' d h) : FS T k f ds h Q' X := mono_cn T k f ds h Q Q' X X hQ (fun _ _ _ z => z) w

/-! ### loops, shut -/
def forS (C : Cn) (t : Tg) (b : Ss) (P : Po) (s : Src) (e : En) (h : Hh) : Prop :=
  forW s.ok (fun d e2 h2 kk => wpG C t P.ex d e2 h2 fun e3 h3 => wpSs C b e3 h3 { P with nx := kk, ct := kk, bk := P.nx }) P.nx s.items e h
def compS (C : Cn) (elt : E) (t : Tg) (c : Oe) (own : List (Str × Nat)) (en : En) (p : Nat) (Qd : Hh → Prop) (s : Src) (h : Hh) : Prop :=
  compW s.ok p (fun d h2 kk => wpG C t (fun _ _ _ => False) d (wipeE en (own.map (·.2))) h2 fun e3 h3 => wpC C c (fun _ _ _ => False) e3 h3 fun r h4 => if r = true then wpE C elt (fun _ _ _ => False) e3 h4 fun y h5 => kk (some y) h5 else kk none h4) Qd s.items h
def loopS (C : Cn) (c : E) (b : Ss) (P : Po) (e : En) (h : Hh) : Prop := ∃ W : Nat → En → Hh → Prop, (∃ m, W m e h) ∧ ∀ m e h, W m e h → wpT C P.ex c e h fun r h1 =>
      if r = true then wpSs C b e h1 { P with nx := fun e' h' => ∃ m', m' < m ∧ W m' e' h', ct := fun e' h' => ∃ m', m' < m ∧ W m' e' h', bk := P.nx } else P.nx e h1
section
variable {C : Cn} {X : Xq} {e : En} {h : Hh} {Q : Qd} {P : Po} {a b c : E} {es : Es} {t : Tg} {it : Iv} {o : Bo} {i j : Nat} {sa sb : Ss}
theorem x_var : wpE C (.var i) X e h Q = ∃ d, e[i]? = some (some d) ∧ Q d h := by rw [wpE]
theorem x_non : wpE C .non X e h Q = Q .non h := by rw [wpE]
theorem x_bl {p : Bool} : wpE C (.bl p) X e h Q = Q (.bl p) h := by rw [wpE]
theorem x_int {n : Int} : wpE C (.int n) X e h Q = Q (.int n) h := by rw [wpE]
theorem x_str {s : Str} : wpE C (.str s) X e h Q = Q (.str s) h := by rw [wpE]
theorem x_glob {s : Str} : wpE C (.glob s) X e h Q = ∃ d, C.gl s = some d ∧ Q d h := by rw [wpE]
theorem x_bin : wpE C (.bin o a b) X e h Q = wpE C a X e h fun x h1 => wpE C b X e h1 fun y h2 => wBo o x y h2 Q := by rw [wpE]
theorem x_neg : wpE C (.neg a) X e h Q = wpE C a X e h fun x h1 => ∃ i, x = .int i ∧ Q (.int (-i)) h1 := by rw [wpE]
theorem x_not : wpE C (.not a) X e h Q = wpE C a X e h fun x h1 => tru h1 x fun b => Q (.bl (!b)) h1 := by rw [wpE]
theorem x_bop {k : Bool} : wpE C (.bop k es) X e h Q = wpB C k es X e h Q := by rw [wpE]
theorem x_cmp {o : Co} : wpE C (.cmp o a b) X e h Q = wpE C a X e h fun x h1 => wpE C b X e h1 fun y h2 => wCo o x y h2 fun r => Q (.bl r) h2 := by rw [wpE]
theorem x_cmp2 {o o' : Co} : wpE C (.cmp2 o o' a b c) X e h Q = wpE C a X e h fun x h1 => wpE C b X e h1 fun y h2 => wCo o x y h2 fun r => if r = true then wpE C c X e h2 fun z h3 => wCo o' y z h3 fun r' => Q (.bl r') h3 else Q (.bl false) h2 := by rw [wpE]
theorem x_ite : wpE C (.ite c a b) X e h Q = wpE C c X e h fun x h1 => tru h1 x fun r => if r = true then wpE C a X e h1 Q else wpE C b X e h1 Q := by rw [wpE]
theorem x_tup : wpE C (.tup es) X e h Q = wpEs C es X e h fun ds h1 => ds.length ≤ 100000 ∧ Q (.tup ds) h1 := by rw [wpE]
theorem x_lst : wpE C (.lst es) X e h Q = wpEs C es X e h fun ds h1 => ds.length ≤ 100000 ∧ Q (.ref h1.length) (h1 ++ [.lst ds]) := by rw [wpE]
theorem x_dct {kvs : Es} : wpE C (.dct kvs) X e h Q = wpEs C kvs X e (h ++ [.dK []]) fun ds h2 => h2[h.length]? = some (.dK []) ∧ ∃ ps, pairUp ds = some ps ∧ ps.length ≤ 15 ∧ Q (.ref h.length) (h2.set h.length (.dK (mergeD [] ps))) := by rw [wpE]
theorem x_tab {x : Str} : wpE C (.tab x a) X e h Q = ∃ kvs, C.td x = some kvs ∧ wpE C a X e h fun y h1 => ∃ z v, y = .str z ∧ kvs.lookup z = some v ∧ Q v h1 := by rw [wpE]
theorem x_tabG {x : Str} : wpE C (.tabG x a b) X e h Q = ∃ kvs, C.td x = some kvs ∧ wpE C a X e h fun y h1 => wpE C b X e h1 fun u h2 => ∃ z, y = .str z ∧ Q ((kvs.lookup z).getD u) h2 := by rw [wpE]
theorem x_tabIn {x : Str} {neg : Bool} : wpE C (.tabIn neg x a) X e h Q = ∃ kvs, C.td x = some kvs ∧ wpE C a X e h fun y h1 => ∃ z, y = .str z ∧ Q (.bl (if neg = true then !(kvs.lookup z).isSome else (kvs.lookup z).isSome)) h1 := by rw [wpE]
theorem x_idx : wpE C (.idx a b) X e h Q = wpE C a X e h fun x h1 => wpE C b X e h1 fun y h2 => wIdx x y h2 Q := by rw [wpE]
theorem x_sli {lo hi : Oe} : wpE C (.sli a lo hi) X e h Q = wpE C a X e h fun x h1 => wpO C lo X e h1 fun l h2 => wpO C hi X e h2 fun u h3 => wSli x l u h3 Q := by rw [wpE]
theorem x_rev : wpE C (.rev a) X e h Q = wpE C a X e h fun x h1 => wRev x h1 Q := by rw [wpE]
theorem x_call {f : Str} : wpE C (.call f es) X e h Q = (C.isf f = true ∧ wpEs C es X e h fun ds h1 => C.fs f ds h1 Q X) := by rw [wpE]
theorem x_bi {b : Bi} : wpE C (.bi b es) X e h Q = wpEs C es X e h fun ds h1 => wBi b ds h1 Q := by rw [wpE]
theorem x_rng {k : Bool} : wpE C (.rng k a b) X e h Q = wpE C a X e h fun x h1 => wpE C b X e h1 fun y h2 => ∃ i j, x = .int i ∧ y = .int j ∧ (-1000000 ≤ i ∧ i ≤ 1000000 ∧ -1000000 ≤ j ∧ j ≤ 1000000) ∧
      if k = true then Q (.tup ((List.range (j - i).toNat).map fun n : Nat => D.int (i + n))) h2 else Q (.ref h2.length) (h2 ++ [.lst ((List.range (j - i).toNat).map fun n : Nat => D.int (i + n))]) := by rw [wpE]
theorem x_mt {m : Mt} : wpE C (.mt m a es) X e h Q = wpE C a X e h fun x h1 => mtTy m x h1 ∧ wpEs C es X e h1 fun ds h2 => wMt m x ds h2 Q := by rw [wpE]
theorem x_isi {ts : List Tn} : wpE C (.isi a ts) X e h Q = wpE C a X e h fun x h1 => ∃ t, tyD h1 x = some t ∧ Q (.bl (ts.any (isT t))) h1 := by rw [wpE]
theorem x_comp {cc : Oe} {own : List (Str × Nat)} : wpE C (.comp a t it cc own) X e h Q = wpI C it X e h fun s h1 => compS C a t cc own e h1.length (Q (.ref h1.length)) s (h1 ++ [.lst []]) := by rw [wpE]; rfl
theorem y_asg : wpS C (.asg t a) e h P = wpE C a P.ex e h fun x h1 => wpG C t P.ex x e h1 P.nx := by rw [wpS]
theorem y_setc {cc : Oe} {own : List (Str × Nat)} : wpS C (.setc i a t it cc own) e h P = wpI C it P.ex e h fun s h1 => compS C a t cc own e h1.length (fun h2 => P.nx (e.set i (some (.ref h1.length))) h2) s (h1 ++ [.lst []]) := by rw [wpS, x_comp]
theorem y_par : wpS C (.par i j a b) e h P = wpE C a P.ex e h fun x h1 => wpE C b P.ex e h1 fun y h2 => P.nx ((e.set i (some x)).set j (some y)) h2 := by rw [wpS]
theorem y_par3 {l : Nat} {c : E} : wpS C (.par3 i j l a b c) e h P = wpE C a P.ex e h fun x h1 => wpE C b P.ex e h1 fun y h2 => wpE C c P.ex e h2 fun z h3 => P.nx (((e.set i (some x)).set j (some y)).set l (some z)) h3 := by rw [wpS]
theorem y_aug : wpS C (.aug i o a) e h P = ∃ x, e[i]? = some (some x) ∧ wpE C a P.ex e h fun y h1 => wAug o x y h1 fun z h2 => P.nx (e.set i (some z)) h2 := by rw [wpS]
theorem y_expr : wpS C (.expr a) e h P = wpE C a P.ex e h fun _ h1 => P.nx e h1 := by rw [wpS]
theorem y_ret : wpS C (.ret a) e h P = wpE C a P.ex e h P.rt := by rw [wpS]
theorem y_ite : wpS C (.ite c sa sb) e h P = wpE C c P.ex e h fun x h1 => tru h1 x fun r => if r = true then wpSs C sa e h1 P else wpSs C sb e h1 P := by rw [wpS]; rfl
theorem y_loop : wpS C (.loop c sb) e h P = loopS C c sb P e h := by rw [wpS]; rfl
theorem y_each : wpS C (.each t it sb) e h P = wpI C it P.ex e h fun s h1 => forS C t sb P s e h1 := by rw [wpS]; rfl
theorem y_brk : wpS C .brk e h P = P.bk e h := by rw [wpS]
theorem y_cont : wpS C .cont e h P = P.ct e h := by rw [wpS]
theorem y_pass : wpS C .pass e h P = P.nx e h := by rw [wpS]
end

/-- for k in d: shut -/
def forKS (C : Cn) (t : Tg) (b : Ss) (P : Po) (n : Nat) (kvs : List (Key × D)) (e : En) (h : Hh) : Prop :=
  forW (fun h' => h'[n]? = some (.rd kvs)) (fun d e2 h2 k => wpG C t P.ex d e2 h2 fun e3 h3 => wpSs C b e3 h3 { P with nx := k, ct := k, bk := fun e' h' => h'[n]? = some (.rd kvs) ∧ P.nx e' (h'.set n (.dK kvs)), rt := fun d' h' => h'[n]? = some (.rd kvs) ∧ P.rt d' (h'.set n (.dK kvs)) })
    (fun e' h' => P.nx e' (h'.set n (.dK kvs))) (kvs.map fun kv => keyD kv.1) e h
theorem y_eachK {C : Cn} {t : Tg} {i : Nat} {sb : Ss} {e : En} {h : Hh} {P : Po} : wpS C (.eachK t i sb) e h P = ∃ n kvs, e[i]? = some (some (.ref n)) ∧ h[n]? = some (.dK kvs) ∧ forKS C t sb P n kvs e (h.set n (.rd kvs)) := by rw [wpS]; rfl
/-! ### loops by an invariant -/
theorem eachK_inv {T : Tb} {k : Nat} {t : Tg} {b : Ss} {P : Po} {n : Nat} {kvs : List (Key × D)} {e : En} {h : Hh} (I : Nat → En → Hh → Prop) (i0 : I 0 e h) (hG : ∀ i e h, i ≤ kvs.length → I i e h → h[n]? = some (.rd kvs))
    (ht : ∀ i key d e h, kvs[i]? = some (key, d) → I i e h → wpG (cnOf T k) t P.ex (keyD key) e h fun e3 h3 => wpSs (cnOf T k) b e3 h3 { P with nx := I (i + 1), ct := I (i + 1), bk := fun e' h' => h'[n]? = some (.rd kvs) ∧ P.nx e' (h'.set n (.dK kvs)), rt := fun d' h' => h'[n]? = some (.rd kvs) ∧ P.rt d' (h'.set n (.dK kvs)) })
    (hd : ∀ e h, I kvs.length e h → P.nx e (h.set n (.dK kvs))) : forKS (cnOf T k) t b P n kvs e h := by
  have key : ∀ (ds : List (Key × D)) (j : Nat) (e : En) (h : Hh), I j e h → j + ds.length = kvs.length → (∀ i, ds[i]? = kvs[j + i]?) →
      forW (fun h' => h'[n]? = some (.rd kvs)) (fun d e2 h2 kk => wpG (cnOf T k) t P.ex d e2 h2 fun e3 h3 => wpSs (cnOf T k) b e3 h3 { P with nx := kk, ct := kk, bk := fun e' h' => h'[n]? = some (.rd kvs) ∧ P.nx e' (h'.set n (.dK kvs)), rt := fun d' h' => h'[n]? = some (.rd kvs) ∧ P.rt d' (h'.set n (.dK kvs)) })
        (fun e' h' => P.nx e' (h'.set n (.dK kvs))) (ds.map fun kv => keyD kv.1) e h := by
    intro ds
    induction ds with
    | nil => intro j e h hi hl _; simp at hl; subst hl; exact ⟨hG _ e h (Nat.le_refl _) hi, hd e h hi⟩
    | cons d ds ih =>
      intro j e h hi hl hj
      rw [List.length_cons] at hl
      refine ⟨hG j e h (by omega) hi, ?_⟩
      have h0 := hj 0
      simp at h0
      obtain ⟨ky, v⟩ := d
      refine monoG (mono_cn T k) t (Q := fun e3 h3 => wpSs (cnOf T k) b e3 h3 { P with nx := I (j + 1), ct := I (j + 1), bk := fun e' h' => h'[n]? = some (.rd kvs) ∧ P.nx e' (h'.set n (.dK kvs)), rt := fun d' h' => h'[n]? = some (.rd kvs) ∧ P.rt d' (h'.set n (.dK kvs)) }) (fun _ _ _ z => z) (fun e3 h3 w => monoSs (mono_cn T k) b w ⟨?_, fun _ _ z => z, fun _ _ z => z, ?_, fun _ _ _ z => z⟩) (ht j ky v e h h0.symm hi)
      all_goals
        intro e' h' hi'
        exact ih (j + 1) e' h' hi' (by omega) fun i => by
          have := hj (i + 1)
          rw [List.getElem?_cons_succ] at this
          rw [this, show j + 1 + i = j + (i + 1) by omega]
  exact key kvs 0 e h i0 (by simp) fun i => by simp

/-- for: I by the number of turns done; the turn is shown with its own end -/
theorem each_inv {T : Tb} {k : Nat} {t : Tg} {b : Ss} {P : Po} {s : Src} {e : En} {h : Hh} (I : Nat → En → Hh → Prop) (i0 : I 0 e h) (hG : ∀ i e h, i ≤ s.items.length → I i e h → s.ok h)
    (ht : ∀ i d e h, s.items[i]? = some d → I i e h → wpG (cnOf T k) t P.ex d e h fun e3 h3 => wpSs (cnOf T k) b e3 h3 { P with nx := I (i + 1), ct := I (i + 1), bk := P.nx }) (hd : ∀ e h, I s.items.length e h → P.nx e h) : forS (cnOf T k) t b P s e h := by
  have key : ∀ (ds : List D) (n : Nat) (e : En) (h : Hh), I n e h → n + ds.length = s.items.length → (∀ j, ds[j]? = s.items[n + j]?) →
      forW s.ok (fun d e2 h2 kk => wpG (cnOf T k) t P.ex d e2 h2 fun e3 h3 => wpSs (cnOf T k) b e3 h3 { P with nx := kk, ct := kk, bk := P.nx }) P.nx ds e h := by
    intro ds
    induction ds with
    | nil => intro n e h hi hl _; simp at hl; subst hl; exact ⟨hG _ e h (Nat.le_refl _) hi, hd e h hi⟩
    | cons d ds ih =>
      intro n e h hi hl hj
      rw [List.length_cons] at hl
      refine ⟨hG n e h (by omega) hi, ?_⟩
      have h0 := hj 0
      simp at h0
      refine monoG (mono_cn T k) t (Q := fun e3 h3 => wpSs (cnOf T k) b e3 h3 { P with nx := I (n + 1), ct := I (n + 1), bk := P.nx }) (fun _ _ _ z => z) (fun e3 h3 w => monoSs (mono_cn T k) b w ⟨?_, fun _ _ z => z, fun _ _ z => z, ?_, fun _ _ _ z => z⟩) (ht n d e h h0.symm hi)
      all_goals
        intro e' h' hi'
        exact ih (n + 1) e' h' hi' (by omega) fun j => by
          have := hj (j + 1)
          rw [List.getElem?_cons_succ] at this
          rw [this, show n + 1 + j = n + (j + 1) by omega]
  exact key s.items 0 e h i0 (by simp) fun j => by simp
theorem comp_inv {T : Tb} {k : Nat} {elt : E} {t : Tg} {c : Oe} {own : List (Str × Nat)} {en : En} {s : Src} {p : Nat} {Qd : Hh → Prop} {h : Hh} (I : Nat → List D → Hh → Prop) (i0 : I 0 [] h) (hp : ∀ i acc h, I i acc h → acc.length ≤ i) (hG : ∀ i acc h, i ≤ s.items.length → I i acc h → s.ok h) (hl : s.items.length ≤ 100000)
    (ht : ∀ i acc d h, s.items[i]? = some d → I i acc h → wpG (cnOf T k) t (fun _ _ _ => False) d (wipeE en (own.map (·.2))) h fun e3 h3 => wpC (cnOf T k) c (fun _ _ _ => False) e3 h3 fun r h4 => if r = true then wpE (cnOf T k) elt (fun _ _ _ => False) e3 h4 fun y h5 => h5[p]? = some (.lst acc) ∧ I (i + 1) (acc ++ [y]) (h5.set p (.lst (acc ++ [y]))) else I (i + 1) acc h4)
    (hd : ∀ acc h, I s.items.length acc h → Qd h) : compS (cnOf T k) elt t c own en p Qd s h := by
  have hC := mono_cn T k
  have key : ∀ (ds : List D) (n : Nat) (acc : List D) (h : Hh), I n acc h → n + ds.length = s.items.length → (∀ j, ds[j]? = s.items[n + j]?) →
      compW s.ok p (fun d h2 kk => wpG (cnOf T k) t (fun _ _ _ => False) d (wipeE en (own.map (·.2))) h2 fun e3 h3 => wpC (cnOf T k) c (fun _ _ _ => False) e3 h3 fun r h4 => if r = true then wpE (cnOf T k) elt (fun _ _ _ => False) e3 h4 fun y h5 => kk (some y) h5 else kk none h4) Qd ds h := by
    intro ds
    induction ds with
    | nil => intro n acc h hi hl2 _; simp at hl2; subst hl2; exact ⟨hG _ acc h (Nat.le_refl _) hi, hd acc h hi⟩
    | cons d ds ih =>
      intro n acc h hi hl2 hj
      rw [List.length_cons] at hl2
      refine ⟨hG n acc h (by omega) hi, ?_⟩
      have h0 := hj 0
      simp at h0
      have next : ∀ acc' h', I (n + 1) acc' h' → compW s.ok p (fun d h2 kk => wpG (cnOf T k) t (fun _ _ _ => False) d (wipeE en (own.map (·.2))) h2 fun e3 h3 => wpC (cnOf T k) c (fun _ _ _ => False) e3 h3 fun r h4 => if r = true then wpE (cnOf T k) elt (fun _ _ _ => False) e3 h4 fun y h5 => kk (some y) h5 else kk none h4) Qd ds h' :=
        fun acc' h' hi' => ih (n + 1) acc' h' hi' (by omega) fun j => by
          have := hj (j + 1)
          rw [List.getElem?_cons_succ] at this
          rw [this, show n + 1 + j = n + (j + 1) by omega]
      refine monoG hC t (fun _ _ _ z => z) (fun e3 h3 w => monoC hC c (fun _ _ _ z => z) (fun r h4 w => ?_) w) (ht n acc d h h0.symm hi)
      split at w
      · rw [if_pos (by assumption)]
        refine monoE hC elt (fun _ _ _ z => z) (fun y h5 w => ⟨acc, w.1, ?_, next _ _ w.2⟩) w
        have := hp n acc h hi
        omega
      · rw [if_neg (by assumption)]
        exact next _ _ w
  exact key s.items 0 [] h i0 (by simp) fun j => by simp
/-- while: W by a measure -/
theorem loop_inv {T : Tb} {k : Nat} {c : E} {b : Ss} {P : Po} {e : En} {h : Hh} (W : Nat → En → Hh → Prop) (m0 : Nat) (w0 : W m0 e h)
    (ht : ∀ m e h, W m e h → wpE (cnOf T k) c P.ex e h fun x h1 => tru h1 x fun r => if r = true then wpSs (cnOf T k) b e h1 { P with nx := fun e' h' => ∃ m', m' < m ∧ W m' e' h', ct := fun e' h' => ∃ m', m' < m ∧ W m' e' h', bk := P.nx } else P.nx e h1) : loopS (cnOf T k) c b P e h :=
  ⟨W, ⟨m0, w0⟩, ht⟩
end Bp

namespace Bp
open PySem L2
local macro_rules | `(tactic| walk_at "e") => `(tactic| simp only [x_var, x_non, x_bl, x_int, x_str, x_glob, x_bin, x_neg, x_not, x_bop, x_cmp, x_cmp2, x_ite, x_tup, x_lst, x_idx, x_sli, x_rev, x_call, x_bi, x_rng, x_mt, x_isi, x_comp, y_asg, y_setc, y_par, y_aug, y_expr, y_ret, y_ite, y_loop, y_each, y_brk, y_cont, y_pass, wpEs, wpB, wpO, wpC, wpI, g_nm, g_tp, g_sub, sw_ref, se_lst, se_dK, wpGs, ss_nil, tgsLen, b_add, b_adds, b_addt, b_addl, b_sub, b_mul, b_mull, b_fdiv, b_mod, b_pow, b_xor, a_add, a_adds, a_sub, e_ii, e_ss, e_bb, e_nn, e_ni, e_in, e_ns, e_sn, e_is, e_si, c_eq, c_ne, c_lt, c_le, c_gt, c_ge, c_is0, c_is1, c_is2, c_is3, c_is4, c_isn0, c_isn1, c_isn2, c_isn3, c_isn4, c_in, c_notin, t_non, t_bl, t_int, t_str, t_tup, i_str, i_tup, i_ref, io_lst, io_rl, io_dK, s_str, s_tup, s_ref, so_lst, so_rl, r_ref, el_tup, el_ref, elo_lst, elo_rl, f_lens, f_lent, f_lenr, lo_lst, lo_rl, lo_dK, reduceCtorEq, at_nat, List.length_map, f_list, f_tuple, f_divmod, f_abs, f_inti, f_intb, f_booli, f_boolb, f_max2, f_min2, f_all, f_any, f_sum, f_str, m_tyg, m_append, m_extend, m_pop, m_reverse, m_clear, m_insert, sr_tup, sr_str, sr_ref, sl_ref, sro_lst, sro_rl, st_tup, st_ref, sl_tup, ok_nil, ok_one, ok_two, ty_int, ty_bl, ty_str, ty_non, ty_tup, at_lit, ix_lit, cn_fs, List.getElem?_cons_zero, List.getElem?_cons_succ, List.set_cons_zero, List.set_cons_succ, List.map_cons, List.map_nil, List.cons_append, List.nil_append, List.length_cons, List.length_nil, List.replicate_succ, List.replicate_zero, Option.some.injEq, Nat.reduceAdd, Nat.reduceLT, Nat.reduceSub, Nat.zero_add, Nat.reduceLeDiff, Int.reduceToNat, Nat.sub_zero, List.length_append, List.length_set, Nat.reduceMul, Int.reduceNeg, exists_eq_left', exists_eq_left, exists_eq_right, D.int.injEq, O.lst.injEq, O.rl.injEq, O.dK.injEq, D.tup.injEq, D.ref.injEq, D.str.injEq, D.bl.injEq, List.cons.injEq, and_assoc, true_and, and_true, decide_eq_true_eq, List.any_cons, List.any_nil, isT, Bool.or_false, Bool.not_true, Bool.not_false, if_true, if_false, reduceIte, Bool.false_eq_true, and_imp, exists_and_left, exists_const])
local macro_rules | `(tactic| walk_at "h") => `(tactic| simp only [*, x_var, x_non, x_bl, x_int, x_str, x_glob, x_bin, x_neg, x_not, x_bop, x_cmp, x_cmp2, x_ite, x_tup, x_lst, x_idx, x_sli, x_rev, x_call, x_bi, x_rng, x_mt, x_isi, x_comp, y_asg, y_setc, y_par, y_aug, y_expr, y_ret, y_ite, y_loop, y_each, y_brk, y_cont, y_pass, wpEs, wpB, wpO, wpC, wpI, g_nm, g_tp, g_sub, sw_ref, se_lst, se_dK, wpGs, ss_nil, tgsLen, b_add, b_adds, b_addt, b_addl, b_sub, b_mul, b_mull, b_fdiv, b_mod, b_pow, b_xor, a_add, a_adds, a_sub, e_ii, e_ss, e_bb, e_nn, e_ni, e_in, e_ns, e_sn, e_is, e_si, c_eq, c_ne, c_lt, c_le, c_gt, c_ge, c_is0, c_is1, c_is2, c_is3, c_is4, c_isn0, c_isn1, c_isn2, c_isn3, c_isn4, c_in, c_notin, t_non, t_bl, t_int, t_str, t_tup, i_str, i_tup, i_ref, io_lst, io_rl, io_dK, s_str, s_tup, s_ref, so_lst, so_rl, r_ref, el_tup, el_ref, elo_lst, elo_rl, f_lens, f_lent, f_lenr, lo_lst, lo_rl, lo_dK, reduceCtorEq, at_nat, List.length_map, f_list, f_tuple, f_divmod, f_abs, f_inti, f_intb, f_booli, f_boolb, f_max2, f_min2, f_all, f_any, f_sum, f_str, m_tyg, m_append, m_extend, m_pop, m_reverse, m_clear, m_insert, sr_tup, sr_str, sr_ref, sl_ref, sro_lst, sro_rl, st_tup, st_ref, sl_tup, ok_nil, ok_one, ok_two, ty_int, ty_bl, ty_str, ty_non, ty_tup, at_lit, ix_lit, cn_fs, List.getElem?_cons_zero, List.getElem?_cons_succ, List.set_cons_zero, List.set_cons_succ, List.map_cons, List.map_nil, List.cons_append, List.nil_append, List.length_cons, List.length_nil, List.replicate_succ, List.replicate_zero, Option.some.injEq, Nat.reduceAdd, Nat.reduceLT, Nat.reduceSub, Nat.zero_add, Nat.reduceLeDiff, Int.reduceToNat, Nat.sub_zero, List.length_append, List.length_set, Nat.reduceMul, Int.reduceNeg, exists_eq_left', exists_eq_left, exists_eq_right, D.int.injEq, O.lst.injEq, O.rl.injEq, O.dK.injEq, D.tup.injEq, D.ref.injEq, D.str.injEq, D.bl.injEq, List.cons.injEq, and_assoc, true_and, and_true, decide_eq_true_eq, List.any_cons, List.any_nil, isT, Bool.or_false, Bool.not_true, Bool.not_false, if_true, if_false, reduceIte, Bool.false_eq_true, and_imp, exists_and_left, exists_const])
/-- old things stay, but for those in p -/
structure Fr (p : Nat → Prop) (h h' : Hh) : Prop where
  le : h.length ≤ h'.length
  at_ : ∀ i, i < h.length → ¬ p i → h'[i]? = h[i]?
theorem Fr.refl {p : Nat → Prop} {h : Hh} : Fr p h h := ⟨Nat.le_refl _, fun _ _ _ => rfl⟩
theorem Fr.trans {p : Nat → Prop} {h h1 h2 : Hh} (a : Fr p h h1) (b : Fr p h1 h2) : Fr p h h2 := ⟨Nat.le_trans a.le b.le, fun i hi hp => (b.at_ i (Nat.lt_of_lt_of_le hi a.le) hp).trans (a.at_ i hi hp)⟩
theorem Fr.new {p : Nat → Prop} {h : Hh} {o : O} : Fr p h (h ++ [o]) := ⟨by simp, fun i hi _ => List.getElem?_append_left hi⟩
theorem Fr.set {p : Nat → Prop} {h : Hh} {n : Nat} {o : O} (hp : p n) : Fr p h (h.set n o) := ⟨by simp, fun i hi hn => List.getElem?_set_ne (fun e => hn (by rw [← e]; exact hp))⟩
theorem Fr.put {p : Nat → Prop} {h h' : Hh} {n : Nat} {o : O} (f : Fr p h h') (hn : h.length ≤ n) : Fr p h (h'.set n o) := ⟨by rw [List.length_set]; exact f.le, fun i hi hp => by rw [List.getElem?_set_ne (by omega)]; exact f.at_ i hi hp⟩
theorem Fr.add {p : Nat → Prop} {h h' : Hh} {o : O} (f : Fr p h h') : Fr p h (h' ++ [o]) := f.trans Fr.new
theorem Fr.mono {p q : Nat → Prop} {h h' : Hh} (f : Fr p h h') (i : ∀ n, n < h.length → p n → q n) : Fr q h h' := ⟨f.le, fun n hn hq => f.at_ n hn fun z => hq (i n hn z)⟩
theorem Fr.get {p : Nat → Prop} {h h' : Hh} (f : Fr p h h') {n : Nat} {o : O} (e : h[n]? = some o) (hp : ¬ p n) : h'[n]? = some o := (f.at_ n (List.getElem?_eq_some_iff.mp e).1 hp).trans e
theorem lt_of {h : Hh} {n : Nat} {o : O} (e : h[n]? = some o) : n < h.length := (List.getElem?_eq_some_iff.mp e).1
theorem get_new {h : Hh} {o : O} : (h ++ [o])[h.length]? = some o := by simp
theorem get_old {h : Hh} {n : Nat} {o o' : O} (e : h[n]? = some o) : (h ++ [o'])[n]? = some o := by rw [List.getElem?_append_left (lt_of e)]; exact e
theorem get_set {h : Hh} {n : Nat} {o o' : O} (e : h[n]? = some o) : (h.set n o')[n]? = some o' := List.getElem?_set_self (lt_of e)
theorem get_set_ne {h : Hh} {n m : Nat} {o' : O} (hn : n ≠ m) : (h.set n o')[m]? = h[m]? := List.getElem?_set_ne hn

/-- one step into a def of the table -/
theorem fs_in {T : Tb} {k : Nat} {f : Str} {F : Fn} {ds : List D} {h : Hh} {Q : Qd} {X : Xq} (hf : T.fn f = some F) (hl : ds.length = F.ps.length)
    (w : wpSs (cnOf T k) F.body (ds.map some ++ List.replicate (F.ns.length - ds.length) none) h { nx := fun _ h' => Q .non h', rt := Q, ex := X }) : FS T (k + 1) f ds h Q X := ⟨F, hf, hl, w⟩

/-! ### the law's box of draws -/
def Box (h : Hh) (b n : Nat) : Prop := ∃ a x c : Int, h[b]? = some (.lst [.int a, .int x, .int c]) ∧ 0 ≤ a ∧ 0 ≤ x ∧ x < 2147483647 ∧ 0 ≤ c ∧ c ≤ n
theorem Box.mono {h : Hh} {b n n' : Nat} (B : Box h b n) (l : n ≤ n') : Box h b n' := by
  obtain ⟨a, x, c, e, h1, h2, h3, h4, h5⟩ := B
  exact ⟨a, x, c, e, h1, h2, h3, h4, by omega⟩
theorem Box.fr {p : Nat → Prop} {h h' : Hh} {b n : Nat} (B : Box h b n) (f : Fr p h h') (hp : ¬ p b) : Box h' b n := by
  obtain ⟨a, x, c, e, r⟩ := B
  exact ⟨a, x, c, f.get e hp, r⟩
theorem Box.lt {h : Hh} {b n : Nat} (B : Box h b n) : b < h.length := by
  obtain ⟨a, x, c, e, r⟩ := B
  exact lt_of e
def fn__law_take : Fn := ⟨["_law_box_here", "_law_many"], ["_law_box_here", "_law_many", "_law_found", "_law_once"],
  (.cons (.ite (.cmp .gt (.idx (.var 0) (.int 0)) (.int 0))
    (.cons (.asg (.tp (.cons (.sub (.var 0) (.int 0)) (.cons (.nm 2) .nil))) (.bi .divmod (.cons (.idx (.var 0) (.int 0)) (.cons (.var 1) .nil))))
      (.cons (.ret (.var 2))
      .nil))
    .nil)
  (.cons (.asg (.sub (.var 0) (.int 2)) (.bin .add (.idx (.var 0) (.int 2)) (.int 1)))
  (.cons (.asg (.nm 3) (.bin .mod (.bin .pow (.bin .add (.idx (.var 0) (.int 1)) (.bin .mul (.int 39373) (.idx (.var 0) (.int 2)))) (.int 5)) (.int 2147483647)))
  (.cons (.ret (.bin .mod (.bin .fdiv (.bin .mod (.bin .add (.bin .mul (.var 3) (.int 48271)) (.bin .mul (.bin .mul (.idx (.var 0) (.int 2)) (.idx (.var 0) (.int 2))) (.int 7919))) (.int 2147483629)) (.int 64)) (.var 1)))
  .nil))))⟩
theorem take_ok {T : Tb} {k : Nat} (hT : T.fn "_law_take" = some fn__law_take) {h : Hh} {b n : Nat} {many : Int} {Q : Qd} {X : Xq} (B : Box h b n) (hn : n < 1000000000) (h0 : 0 < many) (h1 : many < 1073741824)
    (q : ∀ r h', 0 ≤ r → r < many → Box h' b (n + 1) → Fr (· = b) h h' → h'.length = h.length → Q (.int r) h') : FS T (k + 1) "_law_take" [.ref b, .int many] h Q X := by
  obtain ⟨a, x, c, e, ha, hx, hx2, hc, hcn⟩ := B
  have hb := lt_of e
  have g2 : ∀ o, (h.set b o)[b]? = some o := fun o => List.getElem?_set_self hb
  refine fs_in hT rfl ?_
  unfold fn__law_take
  rw [ss_cons]
  walk_at "h"
  split
  · rename_i hpos
    rw [ss_cons]
    walk_at "h"
    refine ⟨⟨h0, h1⟩, ?_⟩
    rw [ss_cons]
    walk_at "h"
    refine q _ _ (Int.emod_nonneg _ (by omega)) (Int.emod_lt_of_pos _ h0) ?_ (Fr.set rfl) (by simp)
    exact ⟨_, x, c, get_set e, Int.ediv_nonneg ha (by omega), hx, hx2, hc, by omega⟩
  · rename_i hpos
    have ha0 : a = 0 := by omega
    subst ha0
    rw [ss_cons]
    walk_at "h"
    rw [ss_cons]
    walk_at "h"
    refine ⟨.inl (.inl ⟨by decide, by decide⟩), ⟨by decide, by decide, by omega⟩, by decide, ?_⟩
    rw [ss_cons]
    walk_at "h"
    have r0 : 0 ≤ (x + 39373 * (c + 1)) ^ 5 % 2147483647 := Int.emod_nonneg _ (by decide)
    have r1 : (x + 39373 * (c + 1)) ^ 5 % 2147483647 < 2147483647 := Int.emod_lt_of_pos _ (by decide)
    refine ⟨.inl (.inl ⟨by omega, by omega⟩), .inl (.inl ⟨by omega, by omega⟩), .inl (.inr ⟨by decide, by decide⟩), by decide, .inl ⟨by decide, by decide⟩, ?_⟩
    refine q _ _ (Int.emod_nonneg _ (by omega)) (Int.emod_lt_of_pos _ h0) ?_ (Fr.set rfl) (by simp)
    exact ⟨0, x, c + 1, get_set e, by omega, hx, hx2, by omega, by omega⟩
def fn__law_whole : Fn := ⟨["_law_found", "_law_due_here"], ["_law_found", "_law_due_here"],
  (.cons (.ret (.bop true (.cons (.isi (.var 0) [.int]) (.cons (.not (.isi (.var 0) [.bool])) (.cons (.cmp .eq (.var 0) (.var 1)) .nil)))))
  .nil)⟩
theorem whole_ok {T : Tb} {k : Nat} (hT : T.fn "_law_whole" = some fn__law_whole) {h : Hh} {i j : Int} {Q : Qd} {X : Xq} (q : Q (.bl (decide (i = j))) h) : FS T (k + 1) "_law_whole" [.int i, .int j] h Q X := by
  refine fs_in hT rfl ?_
  unfold fn__law_whole
  rw [ss_cons]
  walk_at "e"
  exact q
def fn__law_box : Fn := ⟨["_law_script", "_law_k"], ["_law_script", "_law_k", "_law_cell"],
  (.cons (.asg (.nm 2) (.int 0))
  (.cons (.ite (.cmp .lt (.var 1) (.bi .len (.cons (.var 0) .nil)))
    (.cons (.asg (.nm 2) (.idx (.var 0) (.var 1)))
      .nil)
    .nil)
  (.cons (.ret (.lst (.cons (.bin .mul (.bi .abs (.cons (.var 2) .nil)) (.bi .int (.cons (.cmp .ge (.bi .abs (.cons (.var 2) .nil)) (.bin .pow (.int 10) (.int 18))) .nil))) (.cons (.bin .mod (.bin .add (.var 2) (.bin .mul (.bin .mul (.int 7919) (.var 1)) (.var 1))) (.int 2147483647)) (.cons (.int 0) .nil)))))
  .nil)))⟩
theorem box_ok {T : Tb} {k : Nat} (hT : T.fn "_law_box" = some fn__law_box) {h : Hh} {c : Nat} {cs : List Int} {i : Nat} {Q : Qd} {X : Xq} (e : h[c]? = some (.lst (cs.map D.int))) (hi : i < cs.length) (hc : cs.length ≤ 1000)
    (q : ∀ h', Box h' h.length 0 → Fr (fun _ => False) h h' → h'.length = h.length + 1 → Q (.ref h.length) h') : FS T (k + 1) "_law_box" [.ref c, .int i] h Q X := by
  refine fs_in hT rfl ?_
  unfold fn__law_box
  have gi : (cs.map D.int)[i]? = some (.int cs[i]) := by rw [List.getElem?_map, List.getElem?_eq_getElem hi]; rfl
  have hi' : ((i : Int) < (cs.length : Int)) = True := by simp; omega
  rw [ss_cons]
  walk_at "h"
  rw [ss_cons]
  walk_at "h"
  rw [ss_cons]
  walk_at "h"
  rw [ss_cons]
  walk_at "h"
  have key : ∀ z : Int, 0 ≤ (if z < 0 then -z else z) := by intro z; split <;> omega
  have k01 : ∀ (p : Prop) [Decidable p], (0 : Int) ≤ (if p then 1 else 0) ∧ (if p then (1 : Int) else 0) ≤ 1 := by intro p _; split <;> decide
  refine ⟨⟨by decide, by decide, by decide⟩, .inl (.inr ?_), .inl (.inl ⟨by decide, by decide⟩), .inl (.inr ⟨by omega, by omega⟩), by decide, ?_⟩
  · have := k01 (10 ^ 18 ≤ if cs[i] < 0 then -cs[i] else cs[i])
    constructor <;> omega
  refine q _ ⟨_, _, _, get_new, ?_, Int.emod_nonneg _ (by decide), Int.emod_lt_of_pos _ (by decide), by decide, by decide⟩ Fr.new (by simp)
  exact Int.mul_nonneg (key _) (k01 _).1
def fn__law_cells : Fn := ⟨["_law_script", "_law_many"], ["_law_script", "_law_many", "_law_cells_here", "_law_k", "_law_cell"],
  (.cons (.asg (.nm 2) (.bi .list (.cons (.sli (.var 0) .none (.some (.var 1))) .nil)))
  (.cons (.each (.tp (.cons (.nm 3) (.cons (.nm 4) .nil))) (.enu (.sli (.var 0) (.some (.var 1)) (.some (.int 63))))
    (.cons (.asg (.sub (.var 2) (.bin .mod (.var 3) (.var 1))) (.bin .add (.idx (.var 2) (.bin .mod (.var 3) (.var 1))) (.bin .mul (.var 4) (.bin .add (.var 3) (.int 2)))))
      .nil))
  (.cons (.ret (.bin .add (.var 2) (.bin .mul (.lst (.cons (.int 0) .nil)) (.bin .sub (.int 2) (.bi .len (.cons (.var 2) .nil))))))
  .nil)))⟩
theorem cut_pre {α : Type} (xs : List D) (m : Nat) : cutD xs none (some (m : Int)) = xs.take m := by
  unfold cutD
  rw [HT.sIx_none, HT.sIx_nat, List.drop_zero, Nat.sub_zero]
  by_cases hm : m ≤ xs.length
  · rw [Nat.min_eq_left hm]
  · rw [Nat.min_eq_right (by omega), List.take_length, List.take_of_length_le (by omega)]
theorem cut_mid (xs : List D) (m k : Nat) : cutD xs (some (m : Int)) (some (k : Int)) = (xs.drop m).take (k - m) := by
  unfold cutD
  rw [HT.sIx_nat, HT.sIx_nat]
  by_cases hm : m ≤ xs.length
  · rw [Nat.min_eq_left hm]
    by_cases hk : k ≤ xs.length
    · rw [Nat.min_eq_left hk]
    · rw [Nat.min_eq_right (by omega)]
      rw [List.take_of_length_le (l := xs.drop m) (by rw [List.length_drop]; omega), List.take_of_length_le (by rw [List.length_drop]; omega)]
  · rw [List.drop_eq_nil_of_le (by omega), List.drop_eq_nil_of_le (by omega)]
    simp
theorem cut_end (xs : List D) (m : Nat) : cutD xs (some (m : Int)) none = xs.drop m := by
  unfold cutD
  rw [HT.sIx_nat, HT.sIx_none]
  by_cases hm : m ≤ xs.length
  · rw [Nat.min_eq_left hm, List.take_of_length_le (by rw [List.length_drop]; omega)]
  · rw [List.drop_eq_nil_of_le (by omega), List.drop_eq_nil_of_le (by omega)]
    simp
theorem cells_ok {T : Tb} {k : Nat} (hT : T.fn "_law_cells" = some fn__law_cells) {h : Hh} {ns : List Int} {many : Nat} {Q : Qd} {X : Xq} (e : h[0]? = some (.rl (ns.map D.int))) (hn : ns.length ≤ 63) (hm : 0 < many) (hm2 : many ≤ 60)
    (q : ∀ h' c (cs : List Int), h'[c]? = some (.lst (cs.map D.int)) → cs.length ≤ 63 → 2 ≤ cs.length → Fr (fun _ => False) h h' → Q (.ref c) h') : FS T (k + 1) "_law_cells" [.ref 0, .int many] h Q X := by
  have h0 := lt_of e
  refine fs_in hT rfl ?_
  unfold fn__law_cells
  rw [ss_cons]
  walk_at "h"
  rw [cut_pre (α := D)]
  refine ⟨_, by rw [get_new]; exact elo_lst, ?_⟩
  generalize e1 : h ++ [O.lst ((ns.map D.int).take many)] ++ [O.lst ((ns.map D.int).take many)] = h1
  have l1 : h1.length = h.length + 2 := by rw [← e1]; simp
  have f1 : Fr (fun _ => False) h h1 := by rw [← e1]; exact Fr.new.trans Fr.new
  have g1 : h1[h.length + 1]? = some (.lst (((ns.take many)).map D.int)) := by rw [← e1, List.map_take]; simp
  have g0 : h1[0]? = some (.rl (ns.map D.int)) := f1.get e (by simp)
  rw [ss_cons]
  walk_at "h"
  rw [show (63 : Int) = ((63 : Nat) : Int) from rfl, cut_mid]
  generalize e2 : ((ns.map D.int).drop many).take (63 - many) = ys
  have f2 : Fr (fun _ => False) h (h1 ++ [O.lst ys]) := f1.trans Fr.new
  have g2 : (h1 ++ [O.lst ys])[h1.length]? = some (.lst ys) := get_new
  have g3 : (h1 ++ [O.lst ys])[h.length + 1]? = some (.lst (((ns.take many)).map D.int)) := get_old g1
  rw [← l1, g2]
  simp only [sro_lst]
  have hy : ys = ((ns.drop many).take (63 - many)).map D.int := by rw [← e2]; simp
  refine each_inv (s := ⟨_, [(h1.length, .lst ys)]⟩) (fun i en hh => ∃ (cs : List Int) (x3 x4 : Option D), en = [some (.ref 0), some (.int many), some (.ref (h.length + 1)), x3, x4] ∧ cs.length = (ns.take many).length ∧ hh[h.length + 1]? = some (.lst (cs.map D.int)) ∧ hh[h1.length]? = some (.lst ys) ∧ Fr (fun _ => False) h hh)
    ⟨ns.take many, none, none, rfl, rfl, g3, g2, f2⟩ ?_ ?_ ?_
  · rintro i en hh _ ⟨cs, x3, x4, _, _, _, g, _⟩
    rw [ok_one]; exact g
  · rintro i d en hh hd ⟨cs, x3, x4, rfl, hl, gc, gy, fr⟩
    simp only at hd
    rw [List.getElem?_map, List.getElem?_zipIdx] at hd
    cases hg : ys[i]? with
    | none => rw [hg] at hd; cases hd
    | some y =>
      rw [hg] at hd
      obtain ⟨z, rfl⟩ : ∃ z, y = D.int z := by
        rw [hy, List.getElem?_map] at hg
        cases hz : ((ns.drop many).take (63 - many))[i]? with
        | none => rw [hz] at hg; cases hg
        | some z => rw [hz] at hg; cases hg; exact ⟨z, rfl⟩
      have hd2 : some (D.tup [.int ((0 + i : Nat) : Int), .int z]) = some d := hd
      rw [Nat.zero_add] at hd2
      cases hd2
      have hi : i < ys.length := (List.getElem?_eq_some_iff.mp hg).1
      have hmn : many < ns.length := by
        rw [hy, List.length_map, List.length_take, List.length_drop] at hi
        omega
      have hcl : cs.length = many := by rw [hl, List.length_take]; omega
      have hi60 : i < 63 := by
        rw [hy, List.length_map, List.length_take, List.length_drop] at hi
        omega
      have hmod : ((i : Int) % (many : Int)) = ((i % many : Nat) : Int) := by simp
      have hlt : i % many < cs.length := by rw [hcl]; exact Nat.mod_lt _ hm
      have gat : (cs.map D.int)[i % many]? = some (.int cs[i % many]) := by rw [List.getElem?_map, List.getElem?_eq_getElem hlt]; rfl
      walk_at "e"
      rw [ss_cons]
      walk_at "h"
      have hlt2 : i % many < (ns.take many).length := by rw [← hl]; exact hlt
      refine ⟨by omega, .inl (.inr ⟨by omega, by omega⟩), by omega, i % many, by rw [ix_n, if_pos hlt2], cs.set (i % many) (cs[i % many] + z * ((i : Int) + 2)), ?_, ?_, ?_, ?_⟩
      · rw [List.length_set]; exact hl
      · rw [get_set gc, List.map_set]
      · rw [get_set_ne (by omega), ← l1, ← hy]; exact gy
      · exact fr.put (by omega)
  · rintro en hh ⟨cs, x3, x4, rfl, hl, gc, gy, fr⟩
    simp only
    rw [ss_cons]
    walk_at "h"
    have gc' : (hh ++ [O.lst [D.int 0]])[h.length + 1]? = some (.lst (cs.map D.int)) := get_old gc
    have gn : (hh ++ [O.lst [D.int 0]])[hh.length]? = some (.lst [D.int 0]) := get_new
    have hcl : cs.length ≤ 63 := by rw [hl, List.length_take]; omega
    walk_at "h"
    have hcl2 : (ns.take many).length ≤ 63 := by rw [← hl]; exact hcl
    generalize hr : (2 - ((ns.take many).length : Int)).toNat = r at *
    have hr2 : r ≤ 2 := by omega
    refine ⟨by omega, by omega, by omega, cs.map D.int, get_old gc', (List.replicate r 0).map D.int, ?_, ?_, ?_⟩
    · have : (List.replicate r [D.int 0]).flatten = (List.replicate r (0 : Int)).map D.int := by
        rw [List.map_replicate]
        clear hr hr2
        induction r with
        | zero => rfl
        | succ r ih => rw [List.replicate_succ, List.flatten_cons, ih, List.replicate_succ]; rfl
      rw [this]
      have e3 : hh.length + 1 = (hh ++ [O.lst [D.int 0]]).length := by simp
      rw [e3, get_new]
    · rw [List.length_map, List.length_map, List.length_replicate]; omega
    · refine q _ _ (cs ++ List.replicate r 0) ?_ ?_ ?_ (fr.add.add.add)
      · rw [List.map_append]
        have e4 : hh.length + 1 + 1 = (hh ++ [O.lst [D.int 0]] ++ [O.lst (List.replicate r [D.int 0]).flatten]).length := by simp
        rw [e4, get_new]
      · rw [List.length_append, List.length_replicate]; omega
      · rw [List.length_append, List.length_replicate]; omega
end Bp

namespace Bp
open PySem L2

def sdrop : Nat → Ss → Ss
  | 0, s => s
  | _ + 1, .nil => .nil
  | n + 1, .cons _ r => sdrop n r
/-! ### lists of ints as data -/
theorem pds_ints {h : Hh} : ∀ ns : List Int, Pds h (ns.map D.int) (ns.map PyData.int)
  | [] => .nil
  | n :: ns => .cons (.int n) (pds_ints ns)
theorem lay_ints : ∀ ns : List Int, PyData.canLayAll0 (ns.map PyData.int) = true
  | [] => by rw [List.map_nil, PyData.canLayAll0]
  | n :: ns => by rw [List.map_cons, PyData.canLayAll0, PyData.canLay0, lay_ints ns]; rfl
theorem dep_ints : ∀ ns : List Int, PyData.depthAll (ns.map PyData.int) ≤ 1
  | [] => by rw [List.map_nil, PyData.depthAll]; decide
  | n :: ns => by
    rw [List.map_cons, PyData.depthAll, PyData.depth]
    have := dep_ints ns
    omega
theorem shaped_ints (ns : List Int) : SeqAt.shaped (.list (ns.map PyData.int)) = true := by
  unfold SeqAt.shaped
  rw [PyData.canLay0, lay_ints, PyData.depth]
  have := dep_ints ns
  rw [decide_eq_true (by omega)]
  rfl
theorem eqv_ints : ∀ ns ms : List Int, PyData.eqvAll (ns.map PyData.int) (ms.map PyData.int) = decide (ns = ms)
  | [], [] => by simp [PyData.eqvAll]
  | [], m :: ms => by simp [PyData.eqvAll]
  | n :: ns, [] => by simp [PyData.eqvAll]
  | n :: ns, m :: ms => by
    rw [List.map_cons, List.map_cons, PyData.eqvAll, PyData.eqv, eqv_ints ns ms]
    by_cases e1 : n = m
    · subst e1; simp
    · simp [e1]
theorem eq_ints {h : Hh} {n m : Nat} {ns ms : List Int} {B : Bool → Prop} (e1 : h[n]? = some (.lst (ns.map D.int))) (e2 : h[m]? = some (.lst (ms.map D.int))) (q : B (decide (ns = ms))) : wEq (.ref n) (.ref m) h B := by
  rw [e_rr]
  refine ⟨_, _, .lst e1 (pds_ints ns), .lst e2 (pds_ints ms), shaped_ints ns, shaped_ints ms, ?_⟩
  rw [PyData.eqv, eqv_ints]
  exact q
theorem at_mem {α : Type} {xs : List α} {r : Int} (h0 : 0 ≤ r) (h1 : r < xs.length) : ∃ v, atI xs r = some v ∧ v ∈ xs := by
  obtain ⟨j, rfl⟩ := Int.eq_ofNat_of_zero_le h0
  rw [at_nat]
  have : j < xs.length := by omega
  exact ⟨xs[j], List.getElem?_eq_getElem this, List.getElem_mem this⟩
/-- one of a written list of ints -/
theorem pick_ok {h : Hh} {c : Nat} {ms : List Int} {r : Int} {Q : Qd} (g : h[c]? = some (.lst (ms.map D.int))) (h0 : 0 ≤ r) (h1 : r < ms.length) (q : ∀ m ∈ ms, Q (.int m) h) : idxO (.int r) h Q h[c]? := by
  rw [g, io_lst]
  obtain ⟨v, e, hv⟩ := at_mem (xs := ms.map D.int) h0 (by rw [List.length_map]; exact h1)
  obtain ⟨m, hm, rfl⟩ := List.mem_map.mp hv
  exact ⟨r, _, rfl, e, q m hm⟩
/-! ### a comprehension whose element changes nothing -/
theorem set_self {h : Hh} {p : Nat} {o : O} (e : h[p]? = some o) : h.set p o = h := by
  apply List.ext_getElem?
  intro i
  by_cases hi : p = i
  · subst hi; rw [List.getElem?_set_self (lt_of e), e]
  · rw [List.getElem?_set_ne hi]
theorem comp_pure {T : Tb} {k : Nat} {elt : E} {t : Tg} {own : List (Str × Nat)} {en : En} {s : Src} {p : Nat} {Qd : Hh → Prop} {h : Hh} (f : D → D) (hl : s.items.length ≤ 100000) (hp : h[p]? = some (.lst [])) (hs : ∀ q ∈ s.still, h[q.1]? = some q.2 ∧ q.1 ≠ p)
    (ht : ∀ d acc, d ∈ s.items → wpG (cnOf T k) t (fun _ _ _ => False) d (wipeE en (own.map (·.2))) (h.set p (.lst acc)) fun e3 h3 => wpE (cnOf T k) elt (fun _ _ _ => False) e3 h3 fun y h5 => y = f d ∧ h5 = h.set p (.lst acc))
    (hd : Qd (h.set p (.lst (s.items.map f)))) : compS (cnOf T k) elt t .none own en p Qd s h := by
  refine comp_inv (fun i acc h' => acc = (s.items.take i).map f ∧ h' = h.set p (.lst acc)) ⟨by simp, (set_self hp).symm⟩ ?_ ?_ hl ?_ ?_
  · rintro i acc h' ⟨rfl, _⟩
    rw [List.length_map, List.length_take]; omega
  · rintro i acc h' _ ⟨_, rfl⟩ q hq
    rw [List.getElem?_set_ne (fun z => (hs q hq).2 z.symm)]
    exact (hs q hq).1
  · rintro i acc d h' hi ⟨rfl, rfl⟩
    refine monoG (mono_cn T k) t (fun _ _ _ z => z) (fun e3 h3 w => ?_) (ht d _ (List.mem_of_getElem? hi))
    rw [wpC, if_pos rfl]
    refine monoE (mono_cn T k) elt (fun _ _ _ z => z) (fun y h5 q => ?_) w
    obtain ⟨rfl, rfl⟩ := q
    refine ⟨get_set hp, ?_, by rw [List.set_set]⟩
    rw [List.take_add_one, hi, List.map_append]
    rfl
  · rintro acc h' ⟨rfl, rfl⟩
    rw [List.take_length]
    exact hd
end Bp

namespace BpLaw
open PySem Bp
local macro_rules | `(tactic| walk_at "e") => `(tactic| (try simp only [x_var, x_non, x_bl, x_int, x_str, x_glob, x_bin, x_neg, x_not, x_bop, x_cmp, x_cmp2, x_ite, x_tup, x_lst, x_dct, x_tab, x_tabG, x_tabIn, x_idx, x_sli, x_rev, x_call, x_bi, x_rng, x_mt, x_isi, x_comp, y_asg, y_setc, y_par, y_par3, y_aug, y_expr, y_ret, y_ite, y_loop, y_each, y_eachK, y_brk, y_cont, y_pass, wpEs, wpB, wpO, wpC, wpI, g_nm, g_tp, g_sub, sw_ref, se_lst, se_dK, wpGs, ss_nil, tgsLen, b_add, b_adds, b_addt, b_addl, b_sub, b_mul, b_mull, b_fdiv, b_mod, b_pow, b_xor, a_add, a_adds, a_sub, e_ii, e_ss, e_bb, e_nn, e_ni, e_in, e_ns, e_sn, e_is, e_si, c_eq, c_ne, c_lt, c_le, c_gt, c_ge, c_is0, c_is1, c_is2, c_is3, c_is4, c_isn0, c_isn1, c_isn2, c_isn3, c_isn4, c_in, c_notin, t_non, t_bl, t_int, t_str, t_tup, i_str, i_tup, i_ref, io_lst, io_rl, io_dK, s_str, s_tup, s_ref, so_lst, so_rl, r_ref, el_tup, el_ref, elo_lst, elo_rl, f_lens, f_lent, f_lenr, lo_lst, lo_rl, lo_dK, reduceCtorEq, at_nat, List.length_map, f_list, f_tuple, f_divmod, f_abs, f_inti, f_intb, f_booli, f_boolb, f_max2, f_min2, f_all, f_any, f_sum, f_str, m_tyg, m_append, m_extend, m_pop, m_reverse, m_clear, m_insert, sr_tup, sr_str, sr_ref, sl_ref, sro_lst, sro_rl, st_tup, st_ref, sl_tup, ok_nil, ok_one, ok_two, ty_int, ty_bl, ty_str, ty_non, ty_tup, at_lit, ix_lit, cn_fs, List.getElem?_cons_zero, List.getElem?_cons_succ, List.set_cons_zero, List.set_cons_succ, List.map_cons, List.map_nil, List.cons_append, List.nil_append, List.length_cons, List.length_nil, List.replicate_succ, List.replicate_zero, Option.some.injEq, Nat.reduceAdd, Nat.reduceLT, Nat.reduceSub, Nat.zero_add, Nat.reduceLeDiff, Int.reduceToNat, Nat.sub_zero, List.length_append, List.length_set, Nat.reduceMul, Int.reduceNeg, exists_eq_left', exists_eq_left, exists_eq_right, D.int.injEq, O.lst.injEq, O.rl.injEq, O.dK.injEq, D.tup.injEq, D.ref.injEq, D.str.injEq, D.bl.injEq, List.cons.injEq, and_assoc, true_and, and_true, decide_eq_true_eq, decide_true, decide_false, List.any_cons, List.any_nil, isT, Bool.or_false, Bool.not_true, Bool.not_false, if_true, if_false, reduceIte, Bool.false_eq_true, and_imp, exists_and_left, exists_const]))
local macro_rules | `(tactic| walk_at "h") => `(tactic| (try simp only [*, x_var, x_non, x_bl, x_int, x_str, x_glob, x_bin, x_neg, x_not, x_bop, x_cmp, x_cmp2, x_ite, x_tup, x_lst, x_dct, x_tab, x_tabG, x_tabIn, x_idx, x_sli, x_rev, x_call, x_bi, x_rng, x_mt, x_isi, x_comp, y_asg, y_setc, y_par, y_par3, y_aug, y_expr, y_ret, y_ite, y_loop, y_each, y_eachK, y_brk, y_cont, y_pass, wpEs, wpB, wpO, wpC, wpI, g_nm, g_tp, g_sub, sw_ref, se_lst, se_dK, wpGs, ss_nil, tgsLen, b_add, b_adds, b_addt, b_addl, b_sub, b_mul, b_mull, b_fdiv, b_mod, b_pow, b_xor, a_add, a_adds, a_sub, e_ii, e_ss, e_bb, e_nn, e_ni, e_in, e_ns, e_sn, e_is, e_si, c_eq, c_ne, c_lt, c_le, c_gt, c_ge, c_is0, c_is1, c_is2, c_is3, c_is4, c_isn0, c_isn1, c_isn2, c_isn3, c_isn4, c_in, c_notin, t_non, t_bl, t_int, t_str, t_tup, i_str, i_tup, i_ref, io_lst, io_rl, io_dK, s_str, s_tup, s_ref, so_lst, so_rl, r_ref, el_tup, el_ref, elo_lst, elo_rl, f_lens, f_lent, f_lenr, lo_lst, lo_rl, lo_dK, reduceCtorEq, at_nat, List.length_map, f_list, f_tuple, f_divmod, f_abs, f_inti, f_intb, f_booli, f_boolb, f_max2, f_min2, f_all, f_any, f_sum, f_str, m_tyg, m_append, m_extend, m_pop, m_reverse, m_clear, m_insert, sr_tup, sr_str, sr_ref, sl_ref, sro_lst, sro_rl, st_tup, st_ref, sl_tup, ok_nil, ok_one, ok_two, ty_int, ty_bl, ty_str, ty_non, ty_tup, at_lit, ix_lit, cn_fs, List.getElem?_cons_zero, List.getElem?_cons_succ, List.set_cons_zero, List.set_cons_succ, List.map_cons, List.map_nil, List.cons_append, List.nil_append, List.length_cons, List.length_nil, List.replicate_succ, List.replicate_zero, Option.some.injEq, Nat.reduceAdd, Nat.reduceLT, Nat.reduceSub, Nat.zero_add, Nat.reduceLeDiff, Int.reduceToNat, Nat.sub_zero, List.length_append, List.length_set, Nat.reduceMul, Int.reduceNeg, exists_eq_left', exists_eq_left, exists_eq_right, D.int.injEq, O.lst.injEq, O.rl.injEq, O.dK.injEq, D.tup.injEq, D.ref.injEq, D.str.injEq, D.bl.injEq, List.cons.injEq, and_assoc, true_and, and_true, decide_eq_true_eq, decide_true, decide_false, List.any_cons, List.any_nil, isT, Bool.or_false, Bool.not_true, Bool.not_false, if_true, if_false, reduceIte, Bool.false_eq_true, and_imp, exists_and_left, exists_const]))
def fn_many_of : Fn := ⟨["word"], ["word"],
  (.cons (.ret (.tab "READS" (.var 0)))
  .nil)⟩
def fn_wait_of : Fn := ⟨["word"], ["word"],
  (.cons (.ret (.tabG "LONG_WAITS" (.var 0) (.int 1)))
  .nil)⟩
def fn__law_whole : Fn := ⟨["_law_found", "_law_due"], ["_law_found", "_law_due"],
  (.cons (.ret (.bop true (.cons (.isi (.var 0) [.int]) (.cons (.not (.isi (.var 0) [.bool])) (.cons (.cmp .eq (.var 0) (.var 1)) .nil)))))
  .nil)⟩
def fn__law_reads : Fn := ⟨[], [],
  (.cons (.ret (.dct (.cons (.str "num") (.cons (.int 0) (.cons (.str "ask") (.cons (.int 0) (.cons (.str "get") (.cons (.int 0) (.cons (.str "again") (.cons (.int 1) (.cons (.str "put") (.cons (.int 1) (.cons (.str "tell") (.cons (.int 1) (.cons (.str "add") (.cons (.int 2) (.cons (.str "take") (.cons (.int 2) (.cons (.str "times") (.cons (.int 2) (.cons (.str "less") (.cons (.int 2) (.cons (.str "same") (.cons (.int 2) (.cons (.str "pick") (.cons (.int 3) .nil))))))))))))))))))))))))))
  .nil)⟩
def fn__law_waits : Fn := ⟨[], [],
  (.cons (.ret (.dct (.cons (.str "num") (.cons (.int 1) (.cons (.str "ask") (.cons (.int 2) (.cons (.str "get") (.cons (.int 2) (.cons (.str "again") (.cons (.int 1) (.cons (.str "put") (.cons (.int 0) (.cons (.str "tell") (.cons (.int 0) (.cons (.str "add") (.cons (.int 1) (.cons (.str "take") (.cons (.int 1) (.cons (.str "times") (.cons (.int 3) (.cons (.str "less") (.cons (.int 1) (.cons (.str "same") (.cons (.int 1) (.cons (.str "pick") (.cons (.int 1) (.cons (.str "call") (.cons (.int 1) .nil))))))))))))))))))))))))))))
  .nil)⟩
def fn_law : Fn := ⟨["_law_script"], ["_law_script", "_law_reads_here", "_law_waits_here", "_law_cells_here", "_law_k", "_law_box_here", "_law_words", "_law_word"],
  (.cons (.par 1 2 (.call "_law_reads" .nil) (.call "_law_waits" .nil))
  (.cons (.asg (.nm 3) (.call "_law_cells" (.cons (.var 0) (.cons (.int 3) .nil))))
  (.cons (.each (.nm 4) (.rng1 (.bi .len (.cons (.var 3) .nil)))
    (.cons (.asg (.nm 5) (.call "_law_box" (.cons (.var 3) (.cons (.var 4) .nil))))
      (.cons (.asg (.nm 6) (.lst .nil))
      (.cons (.eachK (.nm 7) 2
        (.cons (.expr (.mt .insert (.var 6) (.cons (.call "_law_take" (.cons (.var 5) (.cons (.bin .add (.bi .len (.cons (.var 6) .nil)) (.int 1)) .nil))) (.cons (.var 7) .nil))))
          (.cons (.ite (.cmp .eq (.call "_law_take" (.cons (.var 5) (.cons (.int 3) .nil))) (.int 0))
            (.cons (.expr (.mt .insert (.var 6) (.cons (.call "_law_take" (.cons (.var 5) (.cons (.bin .add (.bi .len (.cons (.var 6) .nil)) (.int 1)) .nil))) (.cons (.var 7) .nil))))
              .nil)
            .nil)
          .nil)))
      (.cons (.each (.nm 7) (.seq (.var 6))
        (.cons (.ite (.not (.call "_law_whole" (.cons (.call "wait_of" (.cons (.var 7) .nil)) (.cons (.idx (.var 2) (.var 7)) .nil))))
            (.cons (.ret (.bl false))
              .nil)
            .nil)
          (.cons (.ite (.bop true (.cons (.cmp .isin (.var 7) (.var 1)) (.cons (.not (.call "_law_whole" (.cons (.call "many_of" (.cons (.var 7) .nil)) (.cons (.idx (.var 1) (.var 7)) .nil)))) .nil)))
            (.cons (.ret (.bl false))
              .nil)
            .nil)
          .nil)))
      .nil)))))
  (.cons (.ret (.bl true))
  .nil))))⟩
def tb : Tb := ⟨[("many_of", fn_many_of),
  ("wait_of", fn_wait_of),
  ("_law_cells", fn__law_cells),
  ("_law_box", fn__law_box),
  ("_law_take", fn__law_take),
  ("_law_whole", fn__law_whole),
  ("_law_reads", fn__law_reads),
  ("_law_waits", fn__law_waits),
  ("law", fn_law)], [], [("READS", [("num", .int 0), ("ask", .int 0), ("get", .int 0), ("again", .int 1), ("put", .int 1), ("tell", .int 1), ("add", .int 2), ("take", .int 2), ("times", .int 2), ("less", .int 2), ("same", .int 2), ("pick", .int 3)]), ("LONG_WAITS", [("times", .int 3), ("ask", .int 2), ("get", .int 2), ("put", .int 0), ("tell", .int 0)])]⟩
/-! ### the words -/
def waitsT : List (Str × Int) := [("num", 1), ("ask", 2), ("get", 2), ("again", 1), ("put", 0), ("tell", 0), ("add", 1), ("take", 1), ("times", 3), ("less", 1), ("same", 1), ("pick", 1), ("call", 1)]
def readsT : List (Str × Int) := [("num", 0), ("ask", 0), ("get", 0), ("again", 1), ("put", 1), ("tell", 1), ("add", 2), ("take", 2), ("times", 2), ("less", 2), ("same", 2), ("pick", 3)]
def kvD (l : List (Str × Int)) : List (L2.Key × D) := l.map fun p => (.inr p.1, .int p.2)
variable {T : Tb} {k : Nat}
theorem whole1_ok (hT : T.fn "_law_whole" = some fn__law_whole) {h : Hh} {i : Int} {Q : Qd} {X : Xq} (q : Q (.bl true) h) : FS T (k + 1) "_law_whole" [.int i, .int i] h Q X := by
  refine fs_in hT rfl ?_
  unfold fn__law_whole
  rw [ss_cons]
  walk_at "e"
  exact q
theorem disp_el {es : Es} {C : Cn} {X : Xq} {e : En} {h : Hh} {Q : Qd} {ds : List D} {ps : List (L2.Key × D)} (w : ∀ h' Q', Q' ds h' → wpEs C es X e h' Q') (hp : pairUp ds = some ps) (hl : ps.length ≤ 15) (q : Q (.ref h.length) (h ++ [.dK (mergeD [] ps)])) : wpE C (.dct es) X e h Q := by
  rw [x_dct]
  refine w _ _ ⟨get_new, ps, hp, hl, ?_⟩
  rw [List.set_append_right _ _ (Nat.le_refl _), Nat.sub_self]
  exact q
theorem reads_ok (hT : T.fn "_law_reads" = some fn__law_reads) {h : Hh} {Q : Qd} {X : Xq} (q : Q (.ref h.length) (h ++ [.dK (kvD readsT)])) : FS T (k + 1) "_law_reads" [] h Q X := by
  refine fs_in hT rfl ?_
  unfold fn__law_reads
  rw [ss_cons, y_ret]
  refine disp_el (fun h' Q' q' => by walk_at "e"; exact q') rfl (by decide) ?_
  exact q
theorem waits_ok (hT : T.fn "_law_waits" = some fn__law_waits) {h : Hh} {Q : Qd} {X : Xq} (q : Q (.ref h.length) (h ++ [.dK (kvD waitsT)])) : FS T (k + 1) "_law_waits" [] h Q X := by
  refine fs_in hT rfl ?_
  unfold fn__law_waits
  rw [ss_cons, y_ret]
  refine disp_el (fun h' Q' q' => by walk_at "e"; exact q') rfl (by decide) ?_
  exact q
def longT : List (Str × D) := [("times", .int 3), ("ask", .int 2), ("get", .int 2), ("put", .int 0), ("tell", .int 0)]
def readT : List (Str × D) := readsT.map fun p => (p.1, .int p.2)
theorem long_at : ∀ p ∈ waitsT, (longT.lookup p.1).getD (.int 1) = .int p.2 := by
  unfold waitsT
  simp only [List.forall_mem_cons]
  exact ⟨rfl, rfl, rfl, rfl, rfl, rfl, rfl, rfl, rfl, rfl, rfl, rfl, rfl, fun _ z => by cases z⟩
theorem read_at : ∀ p ∈ readsT, readT.lookup p.1 = some (.int p.2) := by
  unfold readsT
  simp only [List.forall_mem_cons]
  exact ⟨rfl, rfl, rfl, rfl, rfl, rfl, rfl, rfl, rfl, rfl, rfl, rfl, fun _ z => by cases z⟩
theorem waits_at : ∀ p ∈ waitsT, getK (kvD waitsT) (.inr p.1) = some (.int p.2) := by
  have : ∀ p ∈ ([("num", 1), ("ask", 2), ("get", 2), ("again", 1), ("put", 0), ("tell", 0), ("add", 1), ("take", 1), ("times", 3), ("less", 1), ("same", 1), ("pick", 1), ("call", 1)] : List (Str × Int)), getK (kvD waitsT) (.inr p.1) = some (.int p.2) := by
    simp only [List.forall_mem_cons]
    exact ⟨rfl, rfl, rfl, rfl, rfl, rfl, rfl, rfl, rfl, rfl, rfl, rfl, rfl, fun _ z => by cases z⟩
  exact this
theorem reads_at : ∀ p ∈ waitsT, (p.1 = "call" ∧ getK (kvD readsT) (.inr p.1) = none) ∨ ∃ n, (p.1, n) ∈ readsT ∧ getK (kvD readsT) (.inr p.1) = some (.int n) := by
  have : ∀ p ∈ ([("num", 1), ("ask", 2), ("get", 2), ("again", 1), ("put", 0), ("tell", 0), ("add", 1), ("take", 1), ("times", 3), ("less", 1), ("same", 1), ("pick", 1), ("call", 1)] : List (Str × Int)), (p.1 = "call" ∧ getK (kvD readsT) (.inr p.1) = none) ∨ ∃ n, (p.1, n) ∈ readsT ∧ getK (kvD readsT) (.inr p.1) = some (.int n) := by
    simp only [List.forall_mem_cons]
    refine ⟨.inr ⟨0, ?_, rfl⟩, .inr ⟨0, ?_, rfl⟩, .inr ⟨0, ?_, rfl⟩, .inr ⟨1, ?_, rfl⟩, .inr ⟨1, ?_, rfl⟩, .inr ⟨1, ?_, rfl⟩, .inr ⟨2, ?_, rfl⟩, .inr ⟨2, ?_, rfl⟩, .inr ⟨2, ?_, rfl⟩, .inr ⟨2, ?_, rfl⟩, .inr ⟨2, ?_, rfl⟩, .inr ⟨3, ?_, rfl⟩, .inl ⟨trivial, rfl⟩, fun _ z => by cases z⟩
    all_goals decide
  exact this
theorem wait_ok (hT : T.fn "wait_of" = some fn_wait_of) (hL : T.tds.lookup ("LONG_WAITS" : Str) = some longT) {h : Hh} {p : Str × Int} {Q : Qd} {X : Xq} (hp : p ∈ waitsT) (q : Q (.int p.2) h) : FS T (k + 1) "wait_of" [.str p.1] h Q X := by
  refine fs_in hT rfl ?_
  unfold fn_wait_of
  rw [ss_cons]
  walk_at "e"
  refine ⟨_, hL, ?_⟩
  rw [long_at p hp]
  exact q
theorem many_ok (hT : T.fn "many_of" = some fn_many_of) (hL : T.tds.lookup ("READS" : Str) = some readT) {h : Hh} {w : Str} {n : Int} {Q : Qd} {X : Xq} (hp : (w, n) ∈ readsT) (q : Q (.int n) h) : FS T (k + 1) "many_of" [.str w] h Q X := by
  refine fs_in hT rfl ?_
  unfold fn_many_of
  rw [ss_cons]
  walk_at "e"
  refine ⟨_, hL, ?_⟩
  walk_at "e"
  exact ⟨_, read_at _ hp, q⟩
def Wds (ws : List Str) : Prop := ∀ w ∈ ws, ∃ n, (w, n) ∈ waitsT
theorem Wds.ins {ws : List Str} {w : Str} {n : Int} (h : Wds ws) (hw : (w, n) ∈ waitsT) (j : Nat) : Wds (ws.take j ++ w :: ws.drop j) := by
  intro x hx
  rcases List.mem_append.mp hx with hx | hx
  · exact h x (List.mem_of_mem_take hx)
  · rcases List.mem_cons.mp hx with rfl | hx
    · exact ⟨n, hw⟩
    · exact h x (List.mem_of_mem_drop hx)
theorem law_ok : LawOk tb 8 := by
  intro ns hn hb
  have hR : tb.fn "_law_reads" = some fn__law_reads := rfl
  have hA : tb.fn "_law_waits" = some fn__law_waits := rfl
  have hO : tb.fn "wait_of" = some fn_wait_of := rfl
  have hM : tb.fn "many_of" = some fn_many_of := rfl
  have hL : tb.tds.lookup ("LONG_WAITS" : Str) = some longT := rfl
  have hL2 : tb.tds.lookup ("READS" : Str) = some readT := rfl
  have hW : tb.fn "_law_whole" = some fn__law_whole := rfl
  have hK : tb.fn "_law_take" = some fn__law_take := rfl
  have hB : tb.fn "_law_box" = some fn__law_box := rfl
  have hC : tb.fn "_law_cells" = some fn__law_cells := rfl
  have iR := cn_isf (k := 7) hR
  have iA := cn_isf (k := 7) hA
  have iO := cn_isf (k := 7) hO
  have iM := cn_isf (k := 7) hM
  have iW := cn_isf (k := 7) hW
  have iK := cn_isf (k := 7) hK
  have iB := cn_isf (k := 7) hB
  have iC := cn_isf (k := 7) hC
  refine fs_in (F := fn_law) rfl rfl ?_
  unfold fn_law
  rw [ss_cons]
  walk_at "e"
  simp only [iR, iA, true_and]
  refine reads_ok hR ?_
  refine waits_ok hA ?_
  rw [ss_cons]
  walk_at "e"
  simp only [iC, true_and]
  refine cells_ok (many := 3) hC rfl hn (by decide) (by decide) fun h1 c cs gc hcl hc2 f1 => ?_
  have gr : h1[1]? = some (.dK (kvD readsT)) := f1.get rfl (by simp)
  have gw : h1[2]? = some (.dK (kvD waitsT)) := f1.get rfl (by simp)
  rw [ss_cons]
  walk_at "e"
  simp only [gc]
  walk_at "e"
  refine ⟨by omega, by omega, ?_⟩
  refine each_inv (fun i en hh => ∃ (x4 x5 x6 x7 : Option D), en = [some (.ref 0), some (.ref 1), some (.ref 2), some (.ref c), x4, x5, x6, x7] ∧ hh[c]? = some (.lst (cs.map D.int)) ∧ hh[1]? = some (.dK (kvD readsT)) ∧ hh[2]? = some (.dK (kvD waitsT))) ⟨_, _, _, _, rfl, gc, gr, gw⟩ ?_ ?_ ?_
  · intro i en hh _ _
    rw [ok_nil]; trivial
  · rintro i d en hh hd ⟨x4, x5, x6, x7, rfl, gch, grh, gwh⟩
    have hi : i < cs.length := by
      have := (List.getElem?_eq_some_iff.mp hd).1
      simpa using this
    have hd' : d = .int i := by
      simp only [List.getElem?_map, Int.toNat_natCast, List.getElem?_range hi] at hd
      cases hd; rfl
    subst hd'
    walk_at "e"
    rw [ss_cons]
    walk_at "e"
    simp only [iB, true_and]
    refine box_ok hB gch hi (by omega) fun h2 B2 f2 l2 => ?_
    have hcb : c ≠ hh.length := by have := lt_of gch; omega
    have h1b : 1 ≠ hh.length := by have := lt_of grh; omega
    have h2b : 2 ≠ hh.length := by have := lt_of gwh; omega
    generalize hh.length = b at *
    have gc2 := f2.get gch (by simp)
    have gr2 := f2.get grh (by simp)
    have gw2 := f2.get gwh (by simp)
    rw [ss_cons]
    walk_at "e"
    rw [ss_cons]
    walk_at "e"
    refine ⟨_, get_old gw2, ?_⟩
    have hbl := B2.lt
    have hcl2 := lt_of gc2
    have h2l := lt_of gw2
    generalize hp : h2.length = p at *
    have g3 : ∀ q, q ≠ 2 → ((h2 ++ [O.lst []]).set 2 (.rd (kvD waitsT)))[q]? = (h2 ++ [O.lst []])[q]? := fun q hq => get_set_ne (fun z => hq z.symm)
    refine eachK_inv (fun j en hh => ∃ (x7 : Option D) (ws : List Str), en = [some (.ref 0), some (.ref 1), some (.ref 2), some (.ref c), some (.int i), some (.ref b), some (.ref p), x7] ∧ hh[p]? = some (.lst (ws.map D.str)) ∧ Wds ws ∧ ws.length ≤ 2 * j ∧ Box hh b (3 * j) ∧ hh[c]? = some (.lst (cs.map D.int)) ∧ hh[1]? = some (.dK (kvD readsT)) ∧ hh[2]? = some (.rd (kvD waitsT))) ?_ ?_ ?_ ?_
    · refine ⟨_, [], rfl, ?_, (fun _ z => by cases z), by simp, ?_, ?_, ?_, get_set (get_old gw2)⟩
      · rw [g3 p (by omega), ← hp]; exact get_new
      · exact (B2.fr (p := fun _ => False) (Fr.new (o := O.lst [])) (by simp)).fr (p := (· = 2)) (Fr.set rfl) (by omega)
      · by_cases hc : c = 2
        · subst hc; rw [gw2] at gc2; cases gc2
        · rw [g3 c hc]; exact get_old gc2
      · rw [g3 1 (by decide)]; exact get_old gr2
    · rintro j en hh _ ⟨_, _, _, _, _, _, _, _, _, g⟩
      exact g
    · rintro j key dd en hh hj ⟨x7, ws, rfl, gp, wd, wl, B, gc3, gr3, gw3⟩
      obtain ⟨w, n, hwn, rfl⟩ : ∃ w n, (w, n) ∈ waitsT ∧ key = .inr w := by
        have := List.mem_of_getElem? hj
        unfold kvD at this
        obtain ⟨q, hq, e⟩ := List.mem_map.mp this
        cases e
        exact ⟨q.1, q.2, hq, rfl⟩
      have hj13 : j < 13 := by
        have := (List.getElem?_eq_some_iff.mp hj).1
        simpa [kvD, waitsT] using this
      simp only [keyD]
      walk_at "e"
      rw [ss_cons]
      walk_at "e"
      -- one word put in
      have ins : ∀ {P : D → Hh → Prop} {hh : Hh} {ws : List Str} {nb : Nat}, hh[p]? = some (.lst (ws.map D.str)) → Wds ws → ws.length < 1000 → Box hh b nb → nb < 1000 → hh[c]? = some (.lst (cs.map D.int)) → hh[1]? = some (.dK (kvD readsT)) → hh[2]? = some (.rd (kvD waitsT)) →
          (∀ h' ws', h'[p]? = some (.lst (ws'.map D.str)) → Wds ws' → ws'.length = ws.length + 1 → Box h' b (nb + 1) → h'[c]? = some (.lst (cs.map D.int)) → h'[1]? = some (.dK (kvD readsT)) → h'[2]? = some (.rd (kvD waitsT)) → P .non h') →
          ∀ {X : Xq}, FS tb 7 "_law_take" [.ref b, .int ((ws.length : Int) + 1)] hh (fun x h1 => wMt .insert (.ref p) [x, .str w] h1 P) X := by
        intro P hh ws nb g wd wl B hnb gc gr gw q X
        refine take_ok hK B (by omega) (by omega) (by omega) fun r h4 lr ur B4 f4 _ => ?_
        rw [m_insert]
        have g4 := f4.get g (by omega)
        refine ⟨_, g4, lr, by rw [List.length_map]; omega, by rw [List.length_map]; omega, ?_⟩
        refine q _ (ws.take r.toNat ++ w :: ws.drop r.toNat) ?_ (wd.ins hwn _) ?_ (B4.fr (Fr.set rfl) (p := (· = p)) (by omega)) ?_ ?_ ?_
        · rw [get_set g4]; simp [List.map_take, List.map_drop]
        · simp; omega
        · rw [get_set_ne (by omega)]; exact f4.get gc hcb
        · rw [get_set_ne (by omega)]; exact f4.get gr h1b
        · rw [get_set_ne (by omega)]; exact f4.get gw h2b
      rw [gp, lo_lst]
      walk_at "e"
      refine ⟨(m_ty rfl).mpr ⟨_, gp⟩, iK, ?_⟩
      refine ins gp wd (by omega) B (by omega) gc3 gr3 gw3 fun h4 ws4 g4 wd4 wl4 B4 gc4 gr4 gw4 => ?_
      rw [ss_cons]
      walk_at "e"
      simp only [iK, true_and]
      refine take_ok hK B4 (by omega) (by decide) (by decide) fun r h5 lr ur B5 f5 _ => ?_
      have g5 := f5.get g4 (by omega)
      have gc5 := f5.get gc4 hcb
      have gr5 := f5.get gr4 h1b
      have gw5 := f5.get gw4 h2b
      walk_at "e"
      by_cases z : r = 0
      · rw [if_pos z]
        rw [ss_cons]
        walk_at "e"
        rw [g5, lo_lst]
        walk_at "e"
        refine ⟨(m_ty rfl).mpr ⟨_, g5⟩, iK, ?_⟩
        refine ins g5 wd4 (by omega) B5 (by omega) gc5 gr5 gw5 fun h6 ws6 g6 wd6 wl6 B6 gc6 gr6 gw6 => ?_
        walk_at "e"
        exact ⟨ws6, g6, wd6, by omega, B6.mono (by omega), gc6, gr6, gw6⟩
      · rw [if_neg z]
        walk_at "e"
        exact ⟨ws4, g5, wd4, by omega, B5.mono (by omega), gc5, gr5, gw5⟩
    · rintro en hh ⟨x7, ws, rfl, gp, wd, wl, B, gc3, gr3, gw3⟩
      simp only
      have hl13 : (kvD waitsT).length = 13 := rfl
      have g3' : ∀ q, q ≠ 2 → (hh.set 2 (.dK (kvD waitsT)))[q]? = hh[q]? := fun q hq => get_set_ne (fun z => hq z.symm)
      have gp4 : (hh.set 2 (.dK (kvD waitsT)))[p]? = some (.lst (ws.map D.str)) := by rw [g3' p (by omega)]; exact gp
      have gc4 : (hh.set 2 (.dK (kvD waitsT)))[c]? = some (.lst (cs.map D.int)) := by
        rw [g3' c (fun z => by rw [z, gw3] at gc3; cases gc3)]; exact gc3
      have gr4 : (hh.set 2 (.dK (kvD waitsT)))[1]? = some (.dK (kvD readsT)) := by rw [g3' 1 (by decide)]; exact gr3
      have gw4 : (hh.set 2 (.dK (kvD waitsT)))[2]? = some (.dK (kvD waitsT)) := get_set gw3
      generalize hh.set 2 (.dK (kvD waitsT)) = h4 at *
      rw [ss_cons]
      walk_at "e"
      simp only [gp4]
      walk_at "e"
      refine each_inv (s := ⟨ws.map D.str, [(p, .lst (ws.map D.str))]⟩) (fun j en hh => ∃ (x7 : Option D), en = [some (.ref 0), some (.ref 1), some (.ref 2), some (.ref c), some (.int i), some (.ref b), some (.ref p), x7] ∧ hh = h4) ⟨_, rfl, rfl⟩ ?_ ?_ ?_
      · rintro j en hh _ ⟨_, _, rfl⟩
        rw [ok_one]; exact gp4
      · rintro j d en hh hj ⟨y7, rfl, rfl⟩
        obtain ⟨w, hw, rfl⟩ := List.mem_map.mp (List.mem_of_getElem? hj)
        obtain ⟨n, hwn⟩ := wd w hw
        walk_at "e"
        rw [ss_cons]
        walk_at "e"
        simp only [iW, iO, true_and]
        refine wait_ok hO hL hwn ?_
        walk_at "e"
        rw [gw4, io_dK]
        refine ⟨_, _, rfl, waits_at _ hwn, ?_⟩
        refine whole1_ok hW ?_
        walk_at "e"
        rw [ss_cons]
        walk_at "e"
        refine .inr ⟨_, _, .inl gr4, rfl, ?_⟩
        rcases reads_at _ hwn with ⟨_, e⟩ | ⟨m, hm, e⟩
        · rw [show getK (kvD readsT) (.inr w) = none from e]
          rw [Option.isSome_none, if_neg (by decide)]
          walk_at "e"
        · rw [show getK (kvD readsT) (.inr w) = some (.int m) from e]
          rw [Option.isSome_some, if_pos rfl]
          refine ⟨iW, iM, ?_⟩
          refine many_ok hM hL2 hm ?_
          rw [gr4, io_dK]
          refine ⟨_, _, rfl, e, ?_⟩
          refine whole1_ok hW ?_
          walk_at "e"
      · rintro en hh ⟨y7, rfl, rfl⟩
        simp only
        walk_at "e"
        exact ⟨gc4, gr4, gw4⟩
  · rintro en hh ⟨x4, x5, x6, x7, rfl, gch, grh, gwh⟩
    simp only
    rw [ss_cons]
    walk_at "e"
end BpLaw

namespace BpLaw
open PySem PySem.Spec PyProof.Rows L2 Bp
def topS (i : Nat) : Stmt := PySem.Challenge.pw_beltrow_k01_words_and_waits.main.body.getD i (.Pass ⟨0, 0, 0, 0⟩)
theorem sc0 : FnScope fn_many_of.ns fn_many_of.ps (defScope (topS 3)) := ⟨rfl, rfl, rfl, by decide +kernel, rfl, by decide +kernel, by decide +kernel⟩
theorem ck0 : ckSs fn_many_of.body fn_many_of.ns (defScope (topS 3)) (defBody (topS 3)) = true := by decide +kernel
theorem sc1 : FnScope fn_wait_of.ns fn_wait_of.ps (defScope (topS 4)) := ⟨rfl, rfl, rfl, by decide +kernel, rfl, by decide +kernel, by decide +kernel⟩
theorem ck1 : ckSs fn_wait_of.body fn_wait_of.ns (defScope (topS 4)) (defBody (topS 4)) = true := by decide +kernel
theorem sc2 : FnScope fn__law_cells.ns fn__law_cells.ps (defScope (topS 6)) := ⟨rfl, rfl, rfl, by decide +kernel, rfl, by decide +kernel, by decide +kernel⟩
theorem ck2 : ckSs fn__law_cells.body fn__law_cells.ns (defScope (topS 6)) (defBody (topS 6)) = true := by decide +kernel
theorem sc3 : FnScope fn__law_box.ns fn__law_box.ps (defScope (topS 7)) := ⟨rfl, rfl, rfl, by decide +kernel, rfl, by decide +kernel, by decide +kernel⟩
theorem ck3 : ckSs fn__law_box.body fn__law_box.ns (defScope (topS 7)) (defBody (topS 7)) = true := by decide +kernel
theorem sc4 : FnScope fn__law_take.ns fn__law_take.ps (defScope (topS 8)) := ⟨rfl, rfl, rfl, by decide +kernel, rfl, by decide +kernel, by decide +kernel⟩
theorem ck4 : ckSs fn__law_take.body fn__law_take.ns (defScope (topS 8)) (defBody (topS 8)) = true := by decide +kernel
theorem sc5 : FnScope fn__law_whole.ns fn__law_whole.ps (defScope (topS 9)) := ⟨rfl, rfl, rfl, by decide +kernel, rfl, by decide +kernel, by decide +kernel⟩
theorem ck5 : ckSs fn__law_whole.body fn__law_whole.ns (defScope (topS 9)) (defBody (topS 9)) = true := by decide +kernel
theorem sc6 : FnScope fn__law_reads.ns fn__law_reads.ps (defScope (topS 10)) := ⟨rfl, rfl, rfl, by decide +kernel, rfl, by decide +kernel, by decide +kernel⟩
theorem ck6 : ckSs fn__law_reads.body fn__law_reads.ns (defScope (topS 10)) (defBody (topS 10)) = true := by decide +kernel
theorem sc7 : FnScope fn__law_waits.ns fn__law_waits.ps (defScope (topS 11)) := ⟨rfl, rfl, rfl, by decide +kernel, rfl, by decide +kernel, by decide +kernel⟩
theorem ck7 : ckSs fn__law_waits.body fn__law_waits.ns (defScope (topS 11)) (defBody (topS 11)) = true := by decide +kernel
theorem sc8 : FnScope fn_law.ns fn_law.ps (defScope (topS 12)) := ⟨rfl, rfl, rfl, by decide +kernel, rfl, by decide +kernel, by decide +kernel⟩
theorem ck8 : ckSs fn_law.body fn_law.ns (defScope (topS 12)) (defBody (topS 12)) = true := by decide +kernel
structure Dfs (K : PySem.W.Frag) (mg : Str → Option Value) (f : Str) (st : Stmt) : Prop where
  ex : ∃ (fa : Addr) (oc : Value) (od an : Option Addr) (osl : Array (Option Value)) (kV doc pm cdv ct : Value), mg f = some (.ref fa) ∧ K.lookup fa = some ⟨oc, od, .func (PySem.W.fnOf f f (defArgs st) (defBody st) (defScope st) .none kV doc pm an cdv ct), osl⟩ ∧ PySem.W.codeIn K cdv f = true ∧ PySem.W.keepIn K (.ref fa) = true
theorem dfs_ft {K : PySem.W.Frag} {mg : Str → Option Value} {f : Str} {st : Stmt} {F : Fn} (h : Dfs K mg f st) (sc : FnScope F.ns F.ps (defScope st)) (ck : ckSs F.body F.ns (defScope st) (defBody st) = true)
    (hb : ∀ (kV doc pm : Value) (an : Option Addr) (cdv ct : Value) (us : List Value), us.length = F.ps.length → bindArgs (PySem.W.fnOf f f (defArgs st) (defBody st) (defScope st) .none kV doc pm an cdv ct) ⟨us, []⟩ = pure (F.ps.zip us)) : FtOk K mg f F := by
  obtain ⟨fa, oc, od, an, osl, kV, doc, pm, cdv, ct, h1, h2, h3, h4⟩ := h.ex
  exact ⟨fa, _, st, h1, fun_mk h2 h3 h4, (fun_mk h2 h3 h4).binds hb, sc, ck⟩
theorem dfs_mk {K : PySem.W.Frag} {h : Heap} {mg : Str → Option Value} (X : K.In h) (G : h.Ns mainGlobals mg) {f : Str} {st : Stmt} {fa : Addr} {oc : Value} {od an : Option Addr} {osl : Array (Option Value)} {kV doc pm cdv ct : Value}
    (a : PySem.W.nsIn K mainGlobals f = some (some (.ref fa))) (l : K.lookup fa = some ⟨oc, od, .func (PySem.W.fnOf f f (defArgs st) (defBody st) (defScope st) .none kV doc pm an cdv ct), osl⟩) (c : PySem.W.codeIn K cdv f = true) (k : PySem.W.keepIn K (.ref fa) = true) : Dfs K mg f st :=
  ⟨⟨fa, oc, od, an, osl, kV, doc, pm, cdv, ct, PySem.W.mg_of X G a, l, c, k⟩⟩
theorem all_fns {K : PySem.W.Frag} {mg : Str → Option Value} (d0 : Dfs K mg "many_of" (topS 3)) (d1 : Dfs K mg "wait_of" (topS 4)) (d2 : Dfs K mg "_law_cells" (topS 6)) (d3 : Dfs K mg "_law_box" (topS 7)) (d4 : Dfs K mg "_law_take" (topS 8)) (d5 : Dfs K mg "_law_whole" (topS 9)) (d6 : Dfs K mg "_law_reads" (topS 10)) (d7 : Dfs K mg "_law_waits" (topS 11)) (d8 : Dfs K mg "law" (topS 12)) : ∀ p ∈ tb.fns, FtOk K mg p.1 p.2 := by
  unfold tb
  simp only [List.forall_mem_cons]
  exact ⟨dfs_ft d0 sc0 ck0 (fun _ _ _ _ _ _ us hl => match us, hl with | [_], _ => rfl), dfs_ft d1 sc1 ck1 (fun _ _ _ _ _ _ us hl => match us, hl with | [_], _ => rfl), dfs_ft d2 sc2 ck2 (fun _ _ _ _ _ _ us hl => match us, hl with | [_, _], _ => rfl), dfs_ft d3 sc3 ck3 (fun _ _ _ _ _ _ us hl => match us, hl with | [_, _], _ => rfl), dfs_ft d4 sc4 ck4 (fun _ _ _ _ _ _ us hl => match us, hl with | [_, _], _ => rfl), dfs_ft d5 sc5 ck5 (fun _ _ _ _ _ _ us hl => match us, hl with | [_, _], _ => rfl), dfs_ft d6 sc6 ck6 (fun _ _ _ _ _ _ us hl => match us, hl with | [], _ => rfl), dfs_ft d7 sc7 ck7 (fun _ _ _ _ _ _ us hl => match us, hl with | [], _ => rfl), dfs_ft d8 sc8 ck8 (fun _ _ _ _ _ _ us hl => match us, hl with | [_], _ => rfl), fun _ z => by cases z⟩
theorem all_gls {K : PySem.W.Frag} {mg : Str → Option Value} : ∀ x d, tb.gls.lookup x = some d → ∃ v u, mg x = some u ∧ RelV v u ∧ ∀ H m, R K H m v d := by
  intro x d h
  have h := lookup_mem h
  unfold tb at h
  simp only [List.mem_cons, List.not_mem_nil, or_false, Prod.mk.injEq] at h
structure Tbs (K : PySem.W.Frag) (mg : Str → Option Value) (w : World) (x : Str) (kvs : List (Str × D)) : Prop where
  ex : ∃ a, mg x = some (.ref a) ∧ TabAt K w a kvs
theorem all_tds {K : PySem.W.Frag} {mg : Str → Option Value} {w : World} (y0 : Tbs K mg w "READS" [("num", .int 0), ("ask", .int 0), ("get", .int 0), ("again", .int 1), ("put", .int 1), ("tell", .int 1), ("add", .int 2), ("take", .int 2), ("times", .int 2), ("less", .int 2), ("same", .int 2), ("pick", .int 3)]) (y1 : Tbs K mg w "LONG_WAITS" [("times", .int 3), ("ask", .int 2), ("get", .int 2), ("put", .int 0), ("tell", .int 0)]) : ∀ x kvs, tb.tds.lookup x = some kvs → ∃ a, mg x = some (.ref a) ∧ TabAt K w a kvs := by
  intro x kvs h
  have h := lookup_mem h
  unfold tb at h
  simp only [List.mem_cons, List.not_mem_nil, or_false, Prod.mk.injEq] at h
  rcases h with ⟨rfl, rfl⟩ | ⟨rfl, rfl⟩
  · exact y0.ex
  · exact y1.ex
theorem tbs_mk {K : PySem.W.Frag} {h : Heap} {mg : Str → Option Value} {w : World} (X : K.In h) (G : h.Ns mainGlobals mg) {x : Str} {kvs : List (Str × D)} {a : Addr} {es : Array DictEntry} {n : Nat} (e : PySem.W.nsIn K mainGlobals x = some (some (.ref a))) (l : K.lookup a = some ⟨.type "dict", none, .dict es n, #[]⟩) (k : PySem.W.KeysLit w.params es.toList) (s : (a == sysModules) = false) (p : Paired (EntOk K) es.toList kvs) : Tbs K mg w x kvs :=
  ⟨⟨a, PySem.W.mg_of X G e, es, n, ⟨l, k, s⟩, p⟩⟩
theorem all_mk {l : PySem.W.OpenLaw} {w : World} {K : PySem.W.Frag} {h : Heap} {mg : Str → Option Value} {fa : Addr} (X : K.In h) (G : h.Ns mainGlobals mg) (hfa : mg "law" = some (.ref fa)) (d0 : Dfs K mg "many_of" (topS 3)) (d1 : Dfs K mg "wait_of" (topS 4)) (d2 : Dfs K mg "_law_cells" (topS 6)) (d3 : Dfs K mg "_law_box" (topS 7)) (d4 : Dfs K mg "_law_take" (topS 8)) (d5 : Dfs K mg "_law_whole" (topS 9)) (d6 : Dfs K mg "_law_reads" (topS 10)) (d7 : Dfs K mg "_law_waits" (topS 11)) (d8 : Dfs K mg "law" (topS 12)) (y0 : Tbs K mg w "READS" [("num", .int 0), ("ask", .int 0), ("get", .int 0), ("again", .int 1), ("put", .int 1), ("tell", .int 1), ("add", .int 2), ("take", .int 2), ("times", .int 2), ("less", .int 2), ("same", .int 2), ("pick", .int 3)]) (y1 : Tbs K mg w "LONG_WAITS" [("times", .int 3), ("ask", .int 2), ("get", .int 2), ("put", .int 0), ("tell", .int 0)]) (z0 : PySem.W.nsIn K mainGlobals "len" = some none) (z1 : PySem.W.nsIn K mainGlobals "list" = some none) (z2 : PySem.W.nsIn K mainGlobals "tuple" = some none) (z3 : PySem.W.nsIn K mainGlobals "divmod" = some none) (z4 : PySem.W.nsIn K mainGlobals "abs" = some none) (z5 : PySem.W.nsIn K mainGlobals "int" = some none) (z6 : PySem.W.nsIn K mainGlobals "max" = some none) (z7 : PySem.W.nsIn K mainGlobals "min" = some none) (z8 : PySem.W.nsIn K mainGlobals "all" = some none) (z9 : PySem.W.nsIn K mainGlobals "any" = some none) (z10 : PySem.W.nsIn K mainGlobals "sum" = some none) (z11 : PySem.W.nsIn K mainGlobals "str" = some none) (z12 : PySem.W.nsIn K mainGlobals "bool" = some none) (z13 : PySem.W.nsIn K mainGlobals "range" = some none) (z14 : PySem.W.nsIn K mainGlobals "enumerate" = some none) (z15 : PySem.W.nsIn K mainGlobals "zip" = some none) (z16 : PySem.W.nsIn K mainGlobals "reversed" = some none) (z17 : PySem.W.nsIn K mainGlobals "isinstance" = some none) (z18 : PySem.W.nsIn K mainGlobals "dict" = some none) :
    ∃ fd : FuncData, (∀ (s : Shared) (v : Value), BindsTo s fd ⟨[v], []⟩ [("_law_script", v)]) ∧ ∀ base : Heap, K.In base → base.Ns mainGlobals mg → FnOk l.prog w K mg base CX0 (2 * 8) fa fd ["_law_script"] (spF K (fun _ => none) tb 8 "law") := by
  have hF := all_fns d0 d1 d2 d3 d4 d5 d6 d7 d8
  have hG := all_gls (K := K) (mg := mg)
  have hB : ∀ x ∈ bnames, mg x = none := by
    unfold bnames
    simp only [List.forall_mem_cons]
    exact ⟨PySem.W.mg_none_of X G z0, PySem.W.mg_none_of X G z1, PySem.W.mg_none_of X G z2, PySem.W.mg_none_of X G z3, PySem.W.mg_none_of X G z4, PySem.W.mg_none_of X G z5, PySem.W.mg_none_of X G z6, PySem.W.mg_none_of X G z7, PySem.W.mg_none_of X G z8, PySem.W.mg_none_of X G z9, PySem.W.mg_none_of X G z10, PySem.W.mg_none_of X G z11, PySem.W.mg_none_of X G z12, PySem.W.mg_none_of X G z13, PySem.W.mg_none_of X G z14, PySem.W.mg_none_of X G z15, PySem.W.mg_none_of X G z16, PySem.W.mg_none_of X G z17, PySem.W.mg_none_of X G z18, fun _ z => by cases z⟩
  obtain ⟨fa0, oc, od, an, osl, kV, doc, pm, cdv, ct, h1, h2, h3, h4⟩ := d8.ex
  have e : fa0 = fa := by have := h1.symm.trans hfa; cases this; rfl
  subst e
  refine ⟨PySem.W.fnOf "law" "law" (defArgs (topS 12)) (defBody (topS 12)) (defScope (topS 12)) .none kV doc pm an cdv ct, fun s v => .of_eq rfl, fun base _ _ => ?_⟩
  have F := fun_mk h2 h3 h4
  exact law_fn (ca := fun _ => none) hF hB hG (all_tds y0 y1) (F := fn_law) rfl F sc8 ck8 7
end BpLaw
open PySem PySem.W PyProof.Rows
set_option maxHeartbeats 0 in
theorem PySem.Challenge.cw_beltrow_k01_words_and_waits_holds : PySem.Challenge.rw_beltrow_k01_words_and_waits.Holds := by
  w_on; o_law; k_head; (case hw => w_witness2)
  k_fill
  refine L2.walk_ofB (l := PySem.Challenge.rw_beltrow_k01_words_and_waits) (n := 63) (k := 2 * 8) (x := "_law_script") (CX := fun _ => L2.CX0) (sp := fun w => Bp.spF _ (fun _ => none) BpLaw.tb 8 "law") rfl (by decide) rfl ⟨rfl, by decide, by decide⟩ (fun w h Y => PySem.W.kIn_of Y) ?F (fun _ H a ns hl hb hO hS => Bp.law_sp (F := BpLaw.fn_law) rfl rfl BpLaw.law_ok H a ns hl hb hO hS) (fun _ _ _ _ _ h => h)
  case F =>
    intro w mg fa h KX G hmg
    refine' BpLaw.all_mk KX G hmg (BpLaw.dfs_mk KX G ?a0 ?l0 ?c0 ?k0) (BpLaw.dfs_mk KX G ?a1 ?l1 ?c1 ?k1) (BpLaw.dfs_mk KX G ?a2 ?l2 ?c2 ?k2) (BpLaw.dfs_mk KX G ?a3 ?l3 ?c3 ?k3) (BpLaw.dfs_mk KX G ?a4 ?l4 ?c4 ?k4) (BpLaw.dfs_mk KX G ?a5 ?l5 ?c5 ?k5) (BpLaw.dfs_mk KX G ?a6 ?l6 ?c6 ?k6) (BpLaw.dfs_mk KX G ?a7 ?l7 ?c7 ?k7) (BpLaw.dfs_mk KX G ?a8 ?l8 ?c8 ?k8) (BpLaw.tbs_mk KX G ?te0 ?tl0 ?tk0 ?ts0 ?tp0) (BpLaw.tbs_mk KX G ?te1 ?tl1 ?tk1 ?ts1 ?tp1) ?z0 ?z1 ?z2 ?z3 ?z4 ?z5 ?z6 ?z7 ?z8 ?z9 ?z10 ?z11 ?z12 ?z13 ?z14 ?z15 ?z16 ?z17 ?z18
    (case a0 => k_is); (case l0 => k_is); (case c0 => k_is); (case k0 => k_is); (case a1 => k_is); (case l1 => k_is); (case c1 => k_is); (case k1 => k_is); (case a2 => k_is); (case l2 => k_is); (case c2 => k_is); (case k2 => k_is); (case a3 => k_is); (case l3 => k_is); (case c3 => k_is); (case k3 => k_is); (case a4 => k_is); (case l4 => k_is); (case c4 => k_is); (case k4 => k_is); (case a5 => k_is); (case l5 => k_is); (case c5 => k_is); (case k5 => k_is); (case a6 => k_is); (case l6 => k_is); (case c6 => k_is); (case k6 => k_is); (case a7 => k_is); (case l7 => k_is); (case c7 => k_is); (case k7 => k_is); (case a8 => k_is); (case l8 => k_is); (case c8 => k_is); (case k8 => k_is); (case te0 => k_is); (case tl0 => k_is); (case te1 => k_is); (case tl1 => k_is); (case z0 => k_is); (case z1 => k_is); (case z2 => k_is); (case z3 => k_is); (case z4 => k_is); (case z5 => k_is); (case z6 => k_is); (case z7 => k_is); (case z8 => k_is); (case z9 => k_is); (case z10 => k_is); (case z11 => k_is); (case z12 => k_is); (case z13 => k_is); (case z14 => k_is); (case z15 => k_is); (case z16 => k_is); (case z17 => k_is); (case z18 => k_is)
    (case tk0 => exact ⟨⟨_, _, rfl, rfl⟩, ⟨⟨_, _, rfl, rfl⟩, ⟨⟨_, _, rfl, rfl⟩, ⟨⟨_, _, rfl, rfl⟩, ⟨⟨_, _, rfl, rfl⟩, ⟨⟨_, _, rfl, rfl⟩, ⟨⟨_, _, rfl, rfl⟩, ⟨⟨_, _, rfl, rfl⟩, ⟨⟨_, _, rfl, rfl⟩, ⟨⟨_, _, rfl, rfl⟩, ⟨⟨_, _, rfl, rfl⟩, ⟨⟨_, _, rfl, rfl⟩, True.intro⟩⟩⟩⟩⟩⟩⟩⟩⟩⟩⟩⟩)
    (case ts0 => rfl)
    (case tp0 => exact .cons ⟨_, .int 0, rfl, ⟨_, rfl⟩, fun _ _ => .int _⟩ (.cons ⟨_, .int 0, rfl, ⟨_, rfl⟩, fun _ _ => .int _⟩ (.cons ⟨_, .int 0, rfl, ⟨_, rfl⟩, fun _ _ => .int _⟩ (.cons ⟨_, .int 1, rfl, ⟨_, rfl⟩, fun _ _ => .int _⟩ (.cons ⟨_, .int 1, rfl, ⟨_, rfl⟩, fun _ _ => .int _⟩ (.cons ⟨_, .int 1, rfl, ⟨_, rfl⟩, fun _ _ => .int _⟩ (.cons ⟨_, .int 2, rfl, ⟨_, rfl⟩, fun _ _ => .int _⟩ (.cons ⟨_, .int 2, rfl, ⟨_, rfl⟩, fun _ _ => .int _⟩ (.cons ⟨_, .int 2, rfl, ⟨_, rfl⟩, fun _ _ => .int _⟩ (.cons ⟨_, .int 2, rfl, ⟨_, rfl⟩, fun _ _ => .int _⟩ (.cons ⟨_, .int 2, rfl, ⟨_, rfl⟩, fun _ _ => .int _⟩ (.cons ⟨_, .int 3, rfl, ⟨_, rfl⟩, fun _ _ => .int _⟩ (.nil)))))))))))))
    (case tk1 => exact ⟨⟨_, _, rfl, rfl⟩, ⟨⟨_, _, rfl, rfl⟩, ⟨⟨_, _, rfl, rfl⟩, ⟨⟨_, _, rfl, rfl⟩, ⟨⟨_, _, rfl, rfl⟩, True.intro⟩⟩⟩⟩⟩)
    (case ts1 => rfl)
    (case tp1 => exact .cons ⟨_, .int 3, rfl, ⟨_, rfl⟩, fun _ _ => .int _⟩ (.cons ⟨_, .int 2, rfl, ⟨_, rfl⟩, fun _ _ => .int _⟩ (.cons ⟨_, .int 2, rfl, ⟨_, rfl⟩, fun _ _ => .int _⟩ (.cons ⟨_, .int 0, rfl, ⟨_, rfl⟩, fun _ _ => .int _⟩ (.cons ⟨_, .int 0, rfl, ⟨_, rfl⟩, fun _ _ => .int _⟩ (.nil))))))

